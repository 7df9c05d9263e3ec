import PyProof.Rows.All
import Wide.All
import OpenK.AllK
import Wide.FinOn
import PySem.Challenge.RW_nu0072_01
open PySem PySem.W PyProof.Rows
set_option Elab.async false
set_option linter.all false
set_option maxRecDepth 100000
set_option maxHeartbeats 8000000
namespace Mine
noncomputable def z0 : Pos := ⟨0, 0, 0, 0⟩
noncomputable def at0 : List Stmt → Nat → Stmt
  | [], _ => .Pass z0
  | s :: _, 0 => s
  | _ :: r, n + 1 => at0 r n
noncomputable def tp (i : Nat) : Stmt := at0 PySem.Challenge.pw_nu0072_01.main.body i
noncomputable def kB : Stmt → List Stmt
  | .ClassDef _ _ _ b _ _ _ _ _ _ _ => b
  | .FunctionDef _ _ b _ _ _ _ _ _ _ => b
  | _ => []
noncomputable def me (i j : Nat) : Stmt := at0 (kB (tp i)) j
noncomputable def fA : Stmt → Arguments
  | .FunctionDef _ a _ _ _ _ _ _ _ _ => a
  | _ => ⟨[], [], none, [], [], none, []⟩
noncomputable def fS : Stmt → Scope
  | .FunctionDef _ _ _ _ _ _ s _ _ _ => s
  | _ => default
noncomputable def V39 : Program := by
  refine (?f : (x0 : Stmt) → (x0 = tp 0) → (x2 : Stmt) → (x2 = tp 2) → (x3 : Stmt) → (x3 = tp 3) → (x4 : Stmt) → (x4 = tp 4) → (x6 : Stmt) → (x6 = tp 6) → (x7 : Stmt) → (x7 = tp 7) → (x8 : Stmt) → (x8 = tp 8) → (x9 : Stmt) → (x9 = tp 9) → (x11 : Stmt) → (x11 = tp 11) → (x12 : Stmt) → (x12 = tp 12) → (x13 : Stmt) → (x13 = tp 13) → (x14 : Stmt) → (x14 = tp 14) → (x15 : Stmt) → (x15 = tp 15) → (x16 : Stmt) → (x16 = tp 16) → (x17 : Stmt) → (x17 = tp 17) → (x18 : Stmt) → (x18 = tp 18) → (x19 : Stmt) → (x19 = tp 19) → (x20 : Stmt) → (x20 = tp 20) → (x21 : Stmt) → (x21 = tp 21) → (x23 : Stmt) → (x23 = tp 23) → (x24 : Stmt) → (x24 = tp 24) → (x25 : Stmt) → (x25 = tp 25) → (x27 : Stmt) → (x27 = tp 27) → (x28 : Stmt) → (x28 = tp 28) → (x29 : Stmt) → (x29 = tp 29) → (x30 : Stmt) → (x30 = tp 30) → (x31 : Stmt) → (x31 = tp 31) → (x32 : Stmt) → (x32 = tp 32) → (x33 : Stmt) → (x33 = tp 33) → (x34 : Stmt) → (x34 = tp 34) → (x36 : Stmt) → (x36 = tp 36) → (x37 : Stmt) → (x37 = tp 37) → (x38 : Stmt) → (x38 = tp 38) → (x40 : Stmt) → (x40 = tp 40) → (x41 : Stmt) → (x41 = tp 41) → (x42 : Stmt) → (x42 = tp 42) → (x44 : Stmt) → (x44 = tp 44) → (x45 : Stmt) → (x45 = tp 45) → (x46 : Stmt) → (x46 = tp 46) → (x47 : Stmt) → (x47 = tp 47) → (x48 : Stmt) → (x48 = tp 48) → (x49 : Stmt) → (x49 = tp 49) → (x50 : Stmt) → (x50 = tp 50) → (x51 : Stmt) → (x51 = tp 51) → (x52 : Stmt) → (x52 = tp 52) → (x53 : Stmt) → (x53 = tp 53) → (x54 : Stmt) → (x54 = tp 54) → (x55 : Stmt) → (x55 = tp 55) → (x56 : Stmt) → (x56 = tp 56) → Program) _ (by conv => rhs; whnf) _ (by conv => rhs; whnf) _ (by conv => rhs; whnf) _ (by conv => rhs; whnf) _ (by conv => rhs; whnf) _ (by conv => rhs; whnf) _ (by conv => rhs; whnf) _ (by conv => rhs; whnf) _ (by conv => rhs; whnf) _ (by conv => rhs; whnf) _ (by conv => rhs; whnf) _ (by conv => rhs; whnf) _ (by conv => rhs; whnf) _ (by conv => rhs; whnf) _ (by conv => rhs; whnf) _ (by conv => rhs; whnf) _ (by conv => rhs; whnf) _ (by conv => rhs; whnf) _ (by conv => rhs; whnf) _ (by conv => rhs; whnf) _ (by conv => rhs; whnf) _ (by conv => rhs; whnf) _ (by conv => rhs; whnf) _ (by conv => rhs; whnf) _ (by conv => rhs; whnf) _ (by conv => rhs; whnf) _ (by conv => rhs; whnf) _ (by conv => rhs; whnf) _ (by conv => rhs; whnf) _ (by conv => rhs; whnf) _ (by conv => rhs; whnf) _ (by conv => rhs; whnf) _ (by conv => rhs; whnf) _ (by conv => rhs; whnf) _ (by conv => rhs; whnf) _ (by conv => rhs; whnf) _ (by conv => rhs; whnf) _ (by conv => rhs; whnf) _ (by conv => rhs; whnf) _ (by conv => rhs; whnf) _ (by conv => rhs; whnf) _ (by conv => rhs; whnf) _ (by conv => rhs; whnf) _ (by conv => rhs; whnf) _ (by conv => rhs; whnf) _ (by conv => rhs; whnf) _ (by conv => rhs; whnf) _ (by conv => rhs; whnf) _ (by conv => rhs; whnf)
  exact fun x0 _ x2 _ x3 _ x4 _ x6 _ x7 _ x8 _ x9 _ x11 _ x12 _ x13 _ x14 _ x15 _ x16 _ x17 _ x18 _ x19 _ x20 _ x21 _ x23 _ x24 _ x25 _ x27 _ x28 _ x29 _ x30 _ x31 _ x32 _ x33 _ x34 _ x36 _ x37 _ x38 _ x40 _ x41 _ x42 _ x44 _ x45 _ x46 _ x47 _ x48 _ x49 _ x50 _ x51 _ x52 _ x53 _ x54 _ x55 _ x56 _ => { PySem.Challenge.pw_nu0072_01 with main := { PySem.Challenge.pw_nu0072_01.main with body := [x0, x2, x3, x4, x6, x7, x8, x9, x11, x12, x13, x14, x15, x16, x17, x18, x19, x20, x21, x23, x24, x25, x27, x28, x29, x30, x31, x32, x33, x34, x36, x37, x38, x40, x41, x42, x44, x45, x46, x47, x48, x49, x50, x51, x52, x53, x54, x55, x56] } }
noncomputable def K39 : Params → Frag := fun P => by
  refine (?f : (x0 : Arguments) → (x0 = fA (tp 0)) → (x1 : List Stmt) → (x1 = kB (tp 0)) → (x2 : Scope) → (x2 = fS (tp 0)) → (x3 : Arguments) → (x3 = fA (me 2 0)) → (x4 : List Stmt) → (x4 = kB (me 2 0)) → (x5 : Scope) → (x5 = fS (me 2 0)) → (x6 : Arguments) → (x6 = fA (tp 6)) → (x7 : List Stmt) → (x7 = kB (tp 6)) → (x8 : Scope) → (x8 = fS (tp 6)) → (x9 : Arguments) → (x9 = fA (tp 7)) → (x10 : List Stmt) → (x10 = kB (tp 7)) → (x11 : Scope) → (x11 = fS (tp 7)) → (x12 : Arguments) → (x12 = fA (tp 8)) → (x13 : List Stmt) → (x13 = kB (tp 8)) → (x14 : Scope) → (x14 = fS (tp 8)) → (x15 : Arguments) → (x15 = fA (tp 9)) → (x16 : List Stmt) → (x16 = kB (tp 9)) → (x17 : Scope) → (x17 = fS (tp 9)) → (x18 : Arguments) → (x18 = fA (tp 11)) → (x19 : List Stmt) → (x19 = kB (tp 11)) → (x20 : Scope) → (x20 = fS (tp 11)) → (x21 : Arguments) → (x21 = fA (tp 12)) → (x22 : List Stmt) → (x22 = kB (tp 12)) → (x23 : Scope) → (x23 = fS (tp 12)) → (x24 : Arguments) → (x24 = fA (tp 13)) → (x25 : List Stmt) → (x25 = kB (tp 13)) → (x26 : Scope) → (x26 = fS (tp 13)) → (x27 : Arguments) → (x27 = fA (tp 14)) → (x28 : List Stmt) → (x28 = kB (tp 14)) → (x29 : Scope) → (x29 = fS (tp 14)) → (x30 : Arguments) → (x30 = fA (tp 15)) → (x31 : List Stmt) → (x31 = kB (tp 15)) → (x32 : Scope) → (x32 = fS (tp 15)) → (x33 : Arguments) → (x33 = fA (tp 16)) → (x34 : List Stmt) → (x34 = kB (tp 16)) → (x35 : Scope) → (x35 = fS (tp 16)) → (x36 : Arguments) → (x36 = fA (tp 17)) → (x37 : List Stmt) → (x37 = kB (tp 17)) → (x38 : Scope) → (x38 = fS (tp 17)) → (x39 : Arguments) → (x39 = fA (tp 18)) → (x40 : List Stmt) → (x40 = kB (tp 18)) → (x41 : Scope) → (x41 = fS (tp 18)) → (x42 : Arguments) → (x42 = fA (tp 19)) → (x43 : List Stmt) → (x43 = kB (tp 19)) → (x44 : Scope) → (x44 = fS (tp 19)) → (x45 : Arguments) → (x45 = fA (tp 20)) → (x46 : List Stmt) → (x46 = kB (tp 20)) → (x47 : Scope) → (x47 = fS (tp 20)) → (x48 : Arguments) → (x48 = fA (tp 21)) → (x49 : List Stmt) → (x49 = kB (tp 21)) → (x50 : Scope) → (x50 = fS (tp 21)) → (x51 : Arguments) → (x51 = fA (tp 23)) → (x52 : List Stmt) → (x52 = kB (tp 23)) → (x53 : Scope) → (x53 = fS (tp 23)) → (x54 : Arguments) → (x54 = fA (tp 24)) → (x55 : List Stmt) → (x55 = kB (tp 24)) → (x56 : Scope) → (x56 = fS (tp 24)) → (x57 : Arguments) → (x57 = fA (tp 25)) → (x58 : List Stmt) → (x58 = kB (tp 25)) → (x59 : Scope) → (x59 = fS (tp 25)) → (x60 : Arguments) → (x60 = fA (me 27 0)) → (x61 : List Stmt) → (x61 = kB (me 27 0)) → (x62 : Scope) → (x62 = fS (me 27 0)) → (x63 : Arguments) → (x63 = fA (me 28 0)) → (x64 : List Stmt) → (x64 = kB (me 28 0)) → (x65 : Scope) → (x65 = fS (me 28 0)) → (x66 : Arguments) → (x66 = fA (me 29 0)) → (x67 : List Stmt) → (x67 = kB (me 29 0)) → (x68 : Scope) → (x68 = fS (me 29 0)) → (x69 : Arguments) → (x69 = fA (tp 30)) → (x70 : List Stmt) → (x70 = kB (tp 30)) → (x71 : Scope) → (x71 = fS (tp 30)) → (x72 : Arguments) → (x72 = fA (tp 31)) → (x73 : List Stmt) → (x73 = kB (tp 31)) → (x74 : Scope) → (x74 = fS (tp 31)) → (x75 : Arguments) → (x75 = fA (tp 32)) → (x76 : List Stmt) → (x76 = kB (tp 32)) → (x77 : Scope) → (x77 = fS (tp 32)) → (x78 : Arguments) → (x78 = fA (tp 33)) → (x79 : List Stmt) → (x79 = kB (tp 33)) → (x80 : Scope) → (x80 = fS (tp 33)) → (x81 : Arguments) → (x81 = fA (tp 34)) → (x82 : List Stmt) → (x82 = kB (tp 34)) → (x83 : Scope) → (x83 = fS (tp 34)) → (x84 : Arguments) → (x84 = fA (me 37 0)) → (x85 : List Stmt) → (x85 = kB (me 37 0)) → (x86 : Scope) → (x86 = fS (me 37 0)) → (x87 : Arguments) → (x87 = fA (me 38 0)) → (x88 : List Stmt) → (x88 = kB (me 38 0)) → (x89 : Scope) → (x89 = fS (me 38 0)) → (x90 : Arguments) → (x90 = fA (me 38 1)) → (x91 : List Stmt) → (x91 = kB (me 38 1)) → (x92 : Scope) → (x92 = fS (me 38 1)) → (x93 : Arguments) → (x93 = fA (me 38 2)) → (x94 : List Stmt) → (x94 = kB (me 38 2)) → (x95 : Scope) → (x95 = fS (me 38 2)) → (x96 : Arguments) → (x96 = fA (me 38 3)) → (x97 : List Stmt) → (x97 = kB (me 38 3)) → (x98 : Scope) → (x98 = fS (me 38 3)) → (x99 : Arguments) → (x99 = fA (me 38 4)) → (x100 : List Stmt) → (x100 = kB (me 38 4)) → (x101 : Scope) → (x101 = fS (me 38 4)) → (x102 : Arguments) → (x102 = fA (me 38 5)) → (x103 : List Stmt) → (x103 = kB (me 38 5)) → (x104 : Scope) → (x104 = fS (me 38 5)) → (x105 : Arguments) → (x105 = fA (me 38 6)) → (x106 : List Stmt) → (x106 = kB (me 38 6)) → (x107 : Scope) → (x107 = fS (me 38 6)) → (x108 : Arguments) → (x108 = fA (me 38 7)) → (x109 : List Stmt) → (x109 = kB (me 38 7)) → (x110 : Scope) → (x110 = fS (me 38 7)) → (x111 : Arguments) → (x111 = fA (me 38 8)) → (x112 : List Stmt) → (x112 = kB (me 38 8)) → (x113 : Scope) → (x113 = fS (me 38 8)) → (x114 : Arguments) → (x114 = fA (me 38 9)) → (x115 : List Stmt) → (x115 = kB (me 38 9)) → (x116 : Scope) → (x116 = fS (me 38 9)) → (x117 : Arguments) → (x117 = fA (me 38 10)) → (x118 : List Stmt) → (x118 = kB (me 38 10)) → (x119 : Scope) → (x119 = fS (me 38 10)) → (x120 : Arguments) → (x120 = fA (me 38 11)) → (x121 : List Stmt) → (x121 = kB (me 38 11)) → (x122 : Scope) → (x122 = fS (me 38 11)) → (x123 : Arguments) → (x123 = fA (me 38 12)) → (x124 : List Stmt) → (x124 = kB (me 38 12)) → (x125 : Scope) → (x125 = fS (me 38 12)) → (x126 : Arguments) → (x126 = fA (me 38 13)) → (x127 : List Stmt) → (x127 = kB (me 38 13)) → (x128 : Scope) → (x128 = fS (me 38 13)) → (x129 : Arguments) → (x129 = fA (me 38 14)) → (x130 : List Stmt) → (x130 = kB (me 38 14)) → (x131 : Scope) → (x131 = fS (me 38 14)) → (x132 : Arguments) → (x132 = fA (me 38 15)) → (x133 : List Stmt) → (x133 = kB (me 38 15)) → (x134 : Scope) → (x134 = fS (me 38 15)) → (x135 : Arguments) → (x135 = fA (me 38 16)) → (x136 : List Stmt) → (x136 = kB (me 38 16)) → (x137 : Scope) → (x137 = fS (me 38 16)) → (x138 : Arguments) → (x138 = fA (me 38 17)) → (x139 : List Stmt) → (x139 = kB (me 38 17)) → (x140 : Scope) → (x140 = fS (me 38 17)) → (x141 : Arguments) → (x141 = fA (me 38 18)) → (x142 : List Stmt) → (x142 = kB (me 38 18)) → (x143 : Scope) → (x143 = fS (me 38 18)) → (x144 : Arguments) → (x144 = fA (me 38 19)) → (x145 : List Stmt) → (x145 = kB (me 38 19)) → (x146 : Scope) → (x146 = fS (me 38 19)) → (x147 : Arguments) → (x147 = fA (me 38 20)) → (x148 : List Stmt) → (x148 = kB (me 38 20)) → (x149 : Scope) → (x149 = fS (me 38 20)) → (x150 : Arguments) → (x150 = fA (me 38 21)) → (x151 : List Stmt) → (x151 = kB (me 38 21)) → (x152 : Scope) → (x152 = fS (me 38 21)) → (x153 : Arguments) → (x153 = fA (me 38 22)) → (x154 : List Stmt) → (x154 = kB (me 38 22)) → (x155 : Scope) → (x155 = fS (me 38 22)) → (x156 : Arguments) → (x156 = fA (me 38 23)) → (x157 : List Stmt) → (x157 = kB (me 38 23)) → (x158 : Scope) → (x158 = fS (me 38 23)) → (x159 : Arguments) → (x159 = fA (me 38 24)) → (x160 : List Stmt) → (x160 = kB (me 38 24)) → (x161 : Scope) → (x161 = fS (me 38 24)) → (x162 : Arguments) → (x162 = fA (tp 40)) → (x163 : List Stmt) → (x163 = kB (tp 40)) → (x164 : Scope) → (x164 = fS (tp 40)) → (x165 : Arguments) → (x165 = fA (me 41 0)) → (x166 : List Stmt) → (x166 = kB (me 41 0)) → (x167 : Scope) → (x167 = fS (me 41 0)) → (x168 : Arguments) → (x168 = fA (me 41 1)) → (x169 : List Stmt) → (x169 = kB (me 41 1)) → (x170 : Scope) → (x170 = fS (me 41 1)) → (x171 : Arguments) → (x171 = fA (me 42 0)) → (x172 : List Stmt) → (x172 = kB (me 42 0)) → (x173 : Scope) → (x173 = fS (me 42 0)) → (x174 : Arguments) → (x174 = fA (me 42 1)) → (x175 : List Stmt) → (x175 = kB (me 42 1)) → (x176 : Scope) → (x176 = fS (me 42 1)) → (x177 : Arguments) → (x177 = fA (tp 44)) → (x178 : List Stmt) → (x178 = kB (tp 44)) → (x179 : Scope) → (x179 = fS (tp 44)) → (x180 : Arguments) → (x180 = fA (tp 45)) → (x181 : List Stmt) → (x181 = kB (tp 45)) → (x182 : Scope) → (x182 = fS (tp 45)) → (x183 : Arguments) → (x183 = fA (tp 46)) → (x184 : List Stmt) → (x184 = kB (tp 46)) → (x185 : Scope) → (x185 = fS (tp 46)) → (x186 : Arguments) → (x186 = fA (tp 47)) → (x187 : List Stmt) → (x187 = kB (tp 47)) → (x188 : Scope) → (x188 = fS (tp 47)) → (x189 : Arguments) → (x189 = fA (tp 48)) → (x190 : List Stmt) → (x190 = kB (tp 48)) → (x191 : Scope) → (x191 = fS (tp 48)) → (x192 : Arguments) → (x192 = fA (tp 49)) → (x193 : List Stmt) → (x193 = kB (tp 49)) → (x194 : Scope) → (x194 = fS (tp 49)) → (x195 : Arguments) → (x195 = fA (tp 50)) → (x196 : List Stmt) → (x196 = kB (tp 50)) → (x197 : Scope) → (x197 = fS (tp 50)) → (x198 : Arguments) → (x198 = fA (tp 51)) → (x199 : List Stmt) → (x199 = kB (tp 51)) → (x200 : Scope) → (x200 = fS (tp 51)) → (x201 : Arguments) → (x201 = fA (tp 52)) → (x202 : List Stmt) → (x202 = kB (tp 52)) → (x203 : Scope) → (x203 = fS (tp 52)) → (x204 : Arguments) → (x204 = fA (tp 53)) → (x205 : List Stmt) → (x205 = kB (tp 53)) → (x206 : Scope) → (x206 = fS (tp 53)) → (x207 : Arguments) → (x207 = fA (tp 54)) → (x208 : List Stmt) → (x208 = kB (tp 54)) → (x209 : Scope) → (x209 = fS (tp 54)) → (x210 : Arguments) → (x210 = fA (tp 55)) → (x211 : List Stmt) → (x211 = kB (tp 55)) → (x212 : Scope) → (x212 = fS (tp 55)) → (x213 : Arguments) → (x213 = fA (tp 56)) → (x214 : List Stmt) → (x214 = kB (tp 56)) → (x215 : Scope) → (x215 = fS (tp 56)) → Frag) _ (by conv => rhs; whnf) _ (by conv => rhs; whnf) _ (by conv => rhs; whnf) _ (by conv => rhs; whnf) _ (by conv => rhs; whnf) _ (by conv => rhs; whnf) _ (by conv => rhs; whnf) _ (by conv => rhs; whnf) _ (by conv => rhs; whnf) _ (by conv => rhs; whnf) _ (by conv => rhs; whnf) _ (by conv => rhs; whnf) _ (by conv => rhs; whnf) _ (by conv => rhs; whnf) _ (by conv => rhs; whnf) _ (by conv => rhs; whnf) _ (by conv => rhs; whnf) _ (by conv => rhs; whnf) _ (by conv => rhs; whnf) _ (by conv => rhs; whnf) _ (by conv => rhs; whnf) _ (by conv => rhs; whnf) _ (by conv => rhs; whnf) _ (by conv => rhs; whnf) _ (by conv => rhs; whnf) _ (by conv => rhs; whnf) _ (by conv => rhs; whnf) _ (by conv => rhs; whnf) _ (by conv => rhs; whnf) _ (by conv => rhs; whnf) _ (by conv => rhs; whnf) _ (by conv => rhs; whnf) _ (by conv => rhs; whnf) _ (by conv => rhs; whnf) _ (by conv => rhs; whnf) _ (by conv => rhs; whnf) _ (by conv => rhs; whnf) _ (by conv => rhs; whnf) _ (by conv => rhs; whnf) _ (by conv => rhs; whnf) _ (by conv => rhs; whnf) _ (by conv => rhs; whnf) _ (by conv => rhs; whnf) _ (by conv => rhs; whnf) _ (by conv => rhs; whnf) _ (by conv => rhs; whnf) _ (by conv => rhs; whnf) _ (by conv => rhs; whnf) _ (by conv => rhs; whnf) _ (by conv => rhs; whnf) _ (by conv => rhs; whnf) _ (by conv => rhs; whnf) _ (by conv => rhs; whnf) _ (by conv => rhs; whnf) _ (by conv => rhs; whnf) _ (by conv => rhs; whnf) _ (by conv => rhs; whnf) _ (by conv => rhs; whnf) _ (by conv => rhs; whnf) _ (by conv => rhs; whnf) _ (by conv => rhs; whnf) _ (by conv => rhs; whnf) _ (by conv => rhs; whnf) _ (by conv => rhs; whnf) _ (by conv => rhs; whnf) _ (by conv => rhs; whnf) _ (by conv => rhs; whnf) _ (by conv => rhs; whnf) _ (by conv => rhs; whnf) _ (by conv => rhs; whnf) _ (by conv => rhs; whnf) _ (by conv => rhs; whnf) _ (by conv => rhs; whnf) _ (by conv => rhs; whnf) _ (by conv => rhs; whnf) _ (by conv => rhs; whnf) _ (by conv => rhs; whnf) _ (by conv => rhs; whnf) _ (by conv => rhs; whnf) _ (by conv => rhs; whnf) _ (by conv => rhs; whnf) _ (by conv => rhs; whnf) _ (by conv => rhs; whnf) _ (by conv => rhs; whnf) _ (by conv => rhs; whnf) _ (by conv => rhs; whnf) _ (by conv => rhs; whnf) _ (by conv => rhs; whnf) _ (by conv => rhs; whnf) _ (by conv => rhs; whnf) _ (by conv => rhs; whnf) _ (by conv => rhs; whnf) _ (by conv => rhs; whnf) _ (by conv => rhs; whnf) _ (by conv => rhs; whnf) _ (by conv => rhs; whnf) _ (by conv => rhs; whnf) _ (by conv => rhs; whnf) _ (by conv => rhs; whnf) _ (by conv => rhs; whnf) _ (by conv => rhs; whnf) _ (by conv => rhs; whnf) _ (by conv => rhs; whnf) _ (by conv => rhs; whnf) _ (by conv => rhs; whnf) _ (by conv => rhs; whnf) _ (by conv => rhs; whnf) _ (by conv => rhs; whnf) _ (by conv => rhs; whnf) _ (by conv => rhs; whnf) _ (by conv => rhs; whnf) _ (by conv => rhs; whnf) _ (by conv => rhs; whnf) _ (by conv => rhs; whnf) _ (by conv => rhs; whnf) _ (by conv => rhs; whnf) _ (by conv => rhs; whnf) _ (by conv => rhs; whnf) _ (by conv => rhs; whnf) _ (by conv => rhs; whnf) _ (by conv => rhs; whnf) _ (by conv => rhs; whnf) _ (by conv => rhs; whnf) _ (by conv => rhs; whnf) _ (by conv => rhs; whnf) _ (by conv => rhs; whnf) _ (by conv => rhs; whnf) _ (by conv => rhs; whnf) _ (by conv => rhs; whnf) _ (by conv => rhs; whnf) _ (by conv => rhs; whnf) _ (by conv => rhs; whnf) _ (by conv => rhs; whnf) _ (by conv => rhs; whnf) _ (by conv => rhs; whnf) _ (by conv => rhs; whnf) _ (by conv => rhs; whnf) _ (by conv => rhs; whnf) _ (by conv => rhs; whnf) _ (by conv => rhs; whnf) _ (by conv => rhs; whnf) _ (by conv => rhs; whnf) _ (by conv => rhs; whnf) _ (by conv => rhs; whnf) _ (by conv => rhs; whnf) _ (by conv => rhs; whnf) _ (by conv => rhs; whnf) _ (by conv => rhs; whnf) _ (by conv => rhs; whnf) _ (by conv => rhs; whnf) _ (by conv => rhs; whnf) _ (by conv => rhs; whnf) _ (by conv => rhs; whnf) _ (by conv => rhs; whnf) _ (by conv => rhs; whnf) _ (by conv => rhs; whnf) _ (by conv => rhs; whnf) _ (by conv => rhs; whnf) _ (by conv => rhs; whnf) _ (by conv => rhs; whnf) _ (by conv => rhs; whnf) _ (by conv => rhs; whnf) _ (by conv => rhs; whnf) _ (by conv => rhs; whnf) _ (by conv => rhs; whnf) _ (by conv => rhs; whnf) _ (by conv => rhs; whnf) _ (by conv => rhs; whnf) _ (by conv => rhs; whnf) _ (by conv => rhs; whnf) _ (by conv => rhs; whnf) _ (by conv => rhs; whnf) _ (by conv => rhs; whnf) _ (by conv => rhs; whnf) _ (by conv => rhs; whnf) _ (by conv => rhs; whnf) _ (by conv => rhs; whnf) _ (by conv => rhs; whnf) _ (by conv => rhs; whnf) _ (by conv => rhs; whnf) _ (by conv => rhs; whnf) _ (by conv => rhs; whnf) _ (by conv => rhs; whnf) _ (by conv => rhs; whnf) _ (by conv => rhs; whnf) _ (by conv => rhs; whnf) _ (by conv => rhs; whnf) _ (by conv => rhs; whnf) _ (by conv => rhs; whnf) _ (by conv => rhs; whnf) _ (by conv => rhs; whnf) _ (by conv => rhs; whnf) _ (by conv => rhs; whnf) _ (by conv => rhs; whnf) _ (by conv => rhs; whnf) _ (by conv => rhs; whnf) _ (by conv => rhs; whnf) _ (by conv => rhs; whnf) _ (by conv => rhs; whnf) _ (by conv => rhs; whnf) _ (by conv => rhs; whnf) _ (by conv => rhs; whnf) _ (by conv => rhs; whnf) _ (by conv => rhs; whnf) _ (by conv => rhs; whnf) _ (by conv => rhs; whnf) _ (by conv => rhs; whnf) _ (by conv => rhs; whnf) _ (by conv => rhs; whnf) _ (by conv => rhs; whnf) _ (by conv => rhs; whnf) _ (by conv => rhs; whnf) _ (by conv => rhs; whnf) _ (by conv => rhs; whnf) _ (by conv => rhs; whnf) _ (by conv => rhs; whnf)
  exact fun x0 _ x1 _ x2 _ x3 _ x4 _ x5 _ x6 _ x7 _ x8 _ x9 _ x10 _ x11 _ x12 _ x13 _ x14 _ x15 _ x16 _ x17 _ x18 _ x19 _ x20 _ x21 _ x22 _ x23 _ x24 _ x25 _ x26 _ x27 _ x28 _ x29 _ x30 _ x31 _ x32 _ x33 _ x34 _ x35 _ x36 _ x37 _ x38 _ x39 _ x40 _ x41 _ x42 _ x43 _ x44 _ x45 _ x46 _ x47 _ x48 _ x49 _ x50 _ x51 _ x52 _ x53 _ x54 _ x55 _ x56 _ x57 _ x58 _ x59 _ x60 _ x61 _ x62 _ x63 _ x64 _ x65 _ x66 _ x67 _ x68 _ x69 _ x70 _ x71 _ x72 _ x73 _ x74 _ x75 _ x76 _ x77 _ x78 _ x79 _ x80 _ x81 _ x82 _ x83 _ x84 _ x85 _ x86 _ x87 _ x88 _ x89 _ x90 _ x91 _ x92 _ x93 _ x94 _ x95 _ x96 _ x97 _ x98 _ x99 _ x100 _ x101 _ x102 _ x103 _ x104 _ x105 _ x106 _ x107 _ x108 _ x109 _ x110 _ x111 _ x112 _ x113 _ x114 _ x115 _ x116 _ x117 _ x118 _ x119 _ x120 _ x121 _ x122 _ x123 _ x124 _ x125 _ x126 _ x127 _ x128 _ x129 _ x130 _ x131 _ x132 _ x133 _ x134 _ x135 _ x136 _ x137 _ x138 _ x139 _ x140 _ x141 _ x142 _ x143 _ x144 _ x145 _ x146 _ x147 _ x148 _ x149 _ x150 _ x151 _ x152 _ x153 _ x154 _ x155 _ x156 _ x157 _ x158 _ x159 _ x160 _ x161 _ x162 _ x163 _ x164 _ x165 _ x166 _ x167 _ x168 _ x169 _ x170 _ x171 _ x172 _ x173 _ x174 _ x175 _ x176 _ x177 _ x178 _ x179 _ x180 _ x181 _ x182 _ x183 _ x184 _ x185 _ x186 _ x187 _ x188 _ x189 _ x190 _ x191 _ x192 _ x193 _ x194 _ x195 _ x196 _ x197 _ x198 _ x199 _ x200 _ x201 _ x202 _ x203 _ x204 _ x205 _ x206 _ x207 _ x208 _ x209 _ x210 _ x211 _ x212 _ x213 _ x214 _ x215 _ => (nat_lit 2, Obj.mk Value.none none (Data.dict #[DictEntry.mk (PyData.keyHash P (Str.ofString "type.__subclasses__.Exception.0")) (Value.str (Str.ofString "type.__subclasses__.Exception.0") 221) (Value.int 38 0), DictEntry.mk (PyData.keyHash P (Str.ofString "type.__subclasses__.Exception.n")) (Value.str (Str.ofString "type.__subclasses__.Exception.n") 222) (Value.int 1 0)] 2) #[]) ::
  (nat_lit 3, Obj.mk (Value.type "dict") none (Data.dict (List.toArray (DictEntry.mk (PyData.keyHash P (Str.ofString "__name__")) (Value.str (Str.ofString "__name__") 165) (Value.str (Str.ofString "law_nu0072_01") 971) :: DictEntry.mk (PyData.keyHash P (Str.ofString "__doc__")) (Value.str (Str.ofString "__doc__") 166) Value.none :: DictEntry.mk (PyData.keyHash P (Str.ofString "__package__")) (Value.str (Str.ofString "__package__") 167) Value.none :: DictEntry.mk (PyData.keyHash P (Str.ofString "__loader__")) (Value.str (Str.ofString "__loader__") 168) (Value.builtin "__main__.__loader__#opaque") :: DictEntry.mk (PyData.keyHash P (Str.ofString "__spec__")) (Value.str (Str.ofString "__spec__") 169) Value.none :: DictEntry.mk (PyData.keyHash P (Str.ofString "__annotations__")) (Value.str (Str.ofString "__annotations__") 170) (Value.ref 6) :: DictEntry.mk (PyData.keyHash P (Str.ofString "__builtins__")) (Value.str (Str.ofString "__builtins__") 171) (Value.ref 4) :: DictEntry.mk (PyData.keyHash P (Str.ofString "__file__")) (Value.str (Str.ofString "__file__") 173) (Value.str (Str.ofString "/claim/cut.py") 172) :: DictEntry.mk (PyData.keyHash P (Str.ofString "__cached__")) (Value.str (Str.ofString "__cached__") 174) Value.none :: DictEntry.mk (PyData.keyHash P (Str.ofString "_wall")) (Value.str (Str.ofString "_wall") 193) (Value.ref 21) :: DictEntry.mk (PyData.keyHash P (Str.ofString "MarkupError")) (Value.str (Str.ofString "MarkupError") 224) (Value.ref 38) :: DictEntry.mk (PyData.keyHash P (Str.ofString "TreeFault")) (Value.str (Str.ofString "TreeFault") 240) (Value.ref 51) :: DictEntry.mk (PyData.keyHash P (Str.ofString "PathFault")) (Value.str (Str.ofString "PathFault") 256) (Value.ref 63) :: DictEntry.mk (PyData.keyHash P (Str.ofString "principal_kind")) (Value.str (Str.ofString "principal_kind") 265) (Value.ref 72) :: DictEntry.mk (PyData.keyHash P (Str.ofString "bound_uri")) (Value.str (Str.ofString "bound_uri") 273) (Value.ref 79) :: DictEntry.mk (PyData.keyHash P (Str.ofString "is_named")) (Value.str (Str.ofString "is_named") 285) (Value.ref 86) :: DictEntry.mk (PyData.keyHash P (Str.ofString "passes")) (Value.str (Str.ofString "passes") 298) (Value.ref 93) :: DictEntry.mk (PyData.keyHash P (Str.ofString "is_beside")) (Value.str (Str.ofString "is_beside") 308) (Value.ref 100) :: DictEntry.mk (PyData.keyHash P (Str.ofString "descendants")) (Value.str (Str.ofString "descendants") 319) (Value.ref 107) :: DictEntry.mk (PyData.keyHash P (Str.ofString "ancestors")) (Value.str (Str.ofString "ancestors") 329) (Value.ref 114) :: DictEntry.mk (PyData.keyHash P (Str.ofString "siblings_ahead")) (Value.str (Str.ofString "siblings_ahead") 339) (Value.ref 121) :: DictEntry.mk (PyData.keyHash P (Str.ofString "siblings_behind")) (Value.str (Str.ofString "siblings_behind") 349) (Value.ref 128) :: DictEntry.mk (PyData.keyHash P (Str.ofString "with_descendants")) (Value.str (Str.ofString "with_descendants") 359) (Value.ref 135) :: DictEntry.mk (PyData.keyHash P (Str.ofString "following")) (Value.str (Str.ofString "following") 369) (Value.ref 142) :: DictEntry.mk (PyData.keyHash P (Str.ofString "preceding")) (Value.str (Str.ofString "preceding") 380) (Value.ref 149) :: DictEntry.mk (PyData.keyHash P (Str.ofString "namespaces_in_scope")) (Value.str (Str.ofString "namespaces_in_scope") 386) (Value.ref 154) :: DictEntry.mk (PyData.keyHash P (Str.ofString "short_axis")) (Value.str (Str.ofString "short_axis") 396) (Value.ref 161) :: DictEntry.mk (PyData.keyHash P (Str.ofString "axis")) (Value.str (Str.ofString "axis") 406) (Value.ref 168) :: DictEntry.mk (PyData.keyHash P (Str.ofString "holds")) (Value.str (Str.ofString "holds") 416) (Value.ref 175) :: DictEntry.mk (PyData.keyHash P (Str.ofString "kept")) (Value.str (Str.ofString "kept") 430) (Value.ref 182) :: DictEntry.mk (PyData.keyHash P (Str.ofString "step_from")) (Value.str (Str.ofString "step_from") 436) (Value.ref 187) :: DictEntry.mk (PyData.keyHash P (Str.ofString "Part")) (Value.str (Str.ofString "Part") 469) (Value.ref 204) :: DictEntry.mk (PyData.keyHash P (Str.ofString "Pattern")) (Value.str (Str.ofString "Pattern") 502) (Value.ref 225) :: DictEntry.mk (PyData.keyHash P (Str.ofString "Look")) (Value.str (Str.ofString "Look") 535) (Value.ref 246) :: DictEntry.mk (PyData.keyHash P (Str.ofString "matches")) (Value.str (Str.ofString "matches") 544) (Value.ref 257) :: DictEntry.mk (PyData.keyHash P (Str.ofString "matches_any")) (Value.str (Str.ofString "matches_any") 554) (Value.ref 264) :: DictEntry.mk (PyData.keyHash P (Str.ofString "is_started")) (Value.str (Str.ofString "is_started") 563) (Value.ref 271) :: DictEntry.mk (PyData.keyHash P (Str.ofString "fits_from")) (Value.str (Str.ofString "fits_from") 575) (Value.ref 278) :: DictEntry.mk (PyData.keyHash P (Str.ofString "fits_step")) (Value.str (Str.ofString "fits_step") 587) (Value.ref 285) :: DictEntry.mk (PyData.keyHash P (Str.ofString "PARENTS")) (Value.str (Str.ofString "PARENTS") 592) (Value.ref 286) :: DictEntry.mk (PyData.keyHash P (Str.ofString "NodeRow")) (Value.str (Str.ofString "NodeRow") 634) (Value.ref 303) :: DictEntry.mk (PyData.keyHash P (Str.ofString "Tree")) (Value.str (Str.ofString "Tree") 886) (Value.ref 492) :: DictEntry.mk (PyData.keyHash P (Str.ofString "rows_of")) (Value.str (Str.ofString "rows_of") 894) (Value.ref 501) :: DictEntry.mk (PyData.keyHash P (Str.ofString "NumberNode")) (Value.str (Str.ofString "NumberNode") 930) (Value.ref 525) :: DictEntry.mk (PyData.keyHash P (Str.ofString "Step")) (Value.str (Str.ofString "Step") 970) (Value.ref 553) :: DictEntry.mk (PyData.keyHash P (Str.ofString "_law_pool")) (Value.str (Str.ofString "_law_pool") 983) (Value.ref 564) :: DictEntry.mk (PyData.keyHash P (Str.ofString "_law_take")) (Value.str (Str.ofString "_law_take") 992) (Value.ref 571) :: DictEntry.mk (PyData.keyHash P (Str.ofString "_law_one")) (Value.str (Str.ofString "_law_one") 1000) (Value.ref 578) :: DictEntry.mk (PyData.keyHash P (Str.ofString "_law_document")) (Value.str (Str.ofString "_law_document") 1016) (Value.ref 585) :: DictEntry.mk (PyData.keyHash P (Str.ofString "_law_part")) (Value.str (Str.ofString "_law_part") 1027) (Value.ref 592) :: DictEntry.mk (PyData.keyHash P (Str.ofString "_law_pattern")) (Value.str (Str.ofString "_law_pattern") 1042) (Value.ref 599) :: DictEntry.mk (PyData.keyHash P (Str.ofString "_law_passes")) (Value.str (Str.ofString "_law_passes") 1053) (Value.ref 606) :: DictEntry.mk (PyData.keyHash P (Str.ofString "_law_beneath")) (Value.str (Str.ofString "_law_beneath") 1059) (Value.ref 611) :: DictEntry.mk (PyData.keyHash P (Str.ofString "_law_once")) (Value.str (Str.ofString "_law_once") 1065) (Value.ref 616) :: DictEntry.mk (PyData.keyHash P (Str.ofString "_law_walked")) (Value.str (Str.ofString "_law_walked") 1071) (Value.ref 621) :: DictEntry.mk (PyData.keyHash P (Str.ofString "_law_due")) (Value.str (Str.ofString "_law_due") 1077) (Value.ref 626) :: DictEntry.mk (PyData.keyHash P (Str.ofString "_law_value")) (Value.str (Str.ofString "_law_value") 1087) (Value.ref 633) :: DictEntry.mk (PyData.keyHash P (Str.ofString "law")) (Value.str (Str.ofString "law") 1093) (Value.ref 638) :: [])) 58) #[]) ::
  (nat_lit 15, Obj.mk (Value.type "tuple") none (Data.seq #[]) #[]) ::
  (nat_lit 17, Obj.mk (Value.type "tuple") none (Data.seq #[Value.str (Str.ofString "k") 190]) #[]) ::
  (nat_lit 18, Obj.mk (Value.type "tuple") none (Data.seq #[]) #[]) ::
  (nat_lit 20, Obj.mk (Value.type "code") none (Data.fields #[Value.str (Str.ofString "_wall") 187, Value.str (Str.ofString "_wall") 188, Value.str (Str.ofString "/claim/cut.py") 189, Value.int 1 0, Value.int 1 0, Value.int 0 0, Value.int 0 0, Value.int 3 0, Value.ref 15, Value.bool true, Value.int 181 0, Value.ref 16, Value.none, Value.ref 17, Value.ref 18, Value.ref 19, Value.int 191 0, Value.int 1 0, Value.str (Str.ofString "/claim/cut.py") 192]) #[]) ::
  (nat_lit 21, Obj.mk (Value.type "function") none (Data.func (FuncData.mk (Str.ofString "_wall") (Str.ofString "_wall") x0 (FuncBody.stmts x1) x2 3 [] Value.none Value.none Value.none (Value.str (Str.ofString "__main__") 164) none (Value.ref 20) Value.none 0)) #[]) ::
  (nat_lit 22, Obj.mk (Value.type "tuple") none (Data.seq #[Value.type "Exception"]) #[]) ::
  (nat_lit 29, Obj.mk (Value.type "tuple") none (Data.seq #[]) #[]) ::
  (nat_lit 31, Obj.mk (Value.type "tuple") none (Data.seq #[Value.str (Str.ofString "self") 211, Value.str (Str.ofString "message") 212]) #[]) ::
  (nat_lit 32, Obj.mk (Value.type "tuple") none (Data.seq #[]) #[]) ::
  (nat_lit 34, Obj.mk (Value.type "code") none (Data.fields #[Value.str (Str.ofString "__init__") 208, Value.str (Str.ofString "MarkupError.__init__") 209, Value.str (Str.ofString "/claim/cut.py") 210, Value.int 7 0, Value.int 2 0, Value.int 0 0, Value.int 0 0, Value.int 3 0, Value.ref 29, Value.bool true, Value.int 181 0, Value.ref 30, Value.none, Value.ref 31, Value.ref 32, Value.ref 33, Value.int 213 0, Value.int 7 0, Value.str (Str.ofString "/claim/cut.py") 214]) #[]) ::
  (nat_lit 35, Obj.mk (Value.type "function") none (Data.func (FuncData.mk (Str.ofString "__init__") (Str.ofString "MarkupError.__init__") x3 (FuncBody.stmts x4) x5 3 [] Value.none Value.none Value.none (Value.str (Str.ofString "markupmill.errors") 194) none (Value.ref 34) Value.none 0)) #[]) ::
  (nat_lit 36, Obj.mk (Value.type "tuple") none (Data.seq #[Value.str (Str.ofString "message") 216]) #[]) ::
  (nat_lit 37, Obj.mk (Value.type "dict") none (Data.dict #[DictEntry.mk (PyData.keyHash P (Str.ofString "__module__")) (Value.str (Str.ofString "__module__") 203) (Value.str (Str.ofString "markupmill.errors") 194), DictEntry.mk (PyData.keyHash P (Str.ofString "__firstlineno__")) (Value.str (Str.ofString "__firstlineno__") 207) (Value.int 5 206), DictEntry.mk (PyData.keyHash P (Str.ofString "__init__")) (Value.str (Str.ofString "__init__") 215) (Value.ref 35), DictEntry.mk (PyData.keyHash P (Str.ofString "__static_attributes__")) (Value.str (Str.ofString "__static_attributes__") 217) (Value.ref 36), DictEntry.mk (PyData.keyHash P (Str.ofString "__weakref__")) (Value.str (Str.ofString "__weakref__") 219) (Value.ref 39), DictEntry.mk (PyData.keyHash P (Str.ofString "__doc__")) (Value.str (Str.ofString "__doc__") 220) Value.none] 3) #[]) ::
  (nat_lit 38, Obj.mk (Value.type "type") none (Data.cls (ClassData.mk (Str.ofString "MarkupError") [Value.type "Exception"] [Value.ref 38, Value.type "Exception", Value.type "BaseException", Value.type "object"] 37 (Str.ofString "MarkupError") true [] [Value.ref 51, Value.ref 63] false none false)) #[some (Value.ref 22), none, some (Value.str (Str.ofString "MarkupError") 196), some (Value.str (Str.ofString "MarkupError") 204), some (Value.builtin "Exception.__new__"), some (Value.bool true)]) ::
  (nat_lit 39, Obj.mk (Value.type "getset_descriptor") none (Data.fields #[Value.str (Str.ofString "__weakref__") 218, Value.ref 38, Value.builtin "ExceptionGroup.__weakref__", Value.none]) #[]) ::
  (nat_lit 42, Obj.mk (Value.type "tuple") none (Data.seq #[Value.ref 38]) #[]) ::
  (nat_lit 49, Obj.mk (Value.type "tuple") none (Data.seq #[]) #[]) ::
  (nat_lit 50, Obj.mk (Value.type "dict") none (Data.dict #[DictEntry.mk (PyData.keyHash P (Str.ofString "__module__")) (Value.str (Str.ofString "__module__") 232) (Value.str (Str.ofString "markupmill.errors") 194), DictEntry.mk (PyData.keyHash P (Str.ofString "__firstlineno__")) (Value.str (Str.ofString "__firstlineno__") 236) (Value.int 10 235), DictEntry.mk (PyData.keyHash P (Str.ofString "__static_attributes__")) (Value.str (Str.ofString "__static_attributes__") 237) (Value.ref 49), DictEntry.mk (PyData.keyHash P (Str.ofString "__doc__")) (Value.str (Str.ofString "__doc__") 238) Value.none] 2) #[]) ::
  (nat_lit 51, Obj.mk (Value.type "type") none (Data.cls (ClassData.mk (Str.ofString "TreeFault") [Value.ref 38] [Value.ref 51, Value.ref 38, Value.type "Exception", Value.type "BaseException", Value.type "object"] 50 (Str.ofString "TreeFault") true [] [] false none false)) #[some (Value.ref 42), none, some (Value.str (Str.ofString "TreeFault") 225), some (Value.str (Str.ofString "TreeFault") 233), some (Value.builtin "Exception.__new__"), some (Value.bool true)]) ::
  (nat_lit 54, Obj.mk (Value.type "tuple") none (Data.seq #[Value.ref 38]) #[]) ::
  (nat_lit 61, Obj.mk (Value.type "tuple") none (Data.seq #[]) #[]) ::
  (nat_lit 62, Obj.mk (Value.type "dict") none (Data.dict #[DictEntry.mk (PyData.keyHash P (Str.ofString "__module__")) (Value.str (Str.ofString "__module__") 248) (Value.str (Str.ofString "markupmill.errors") 194), DictEntry.mk (PyData.keyHash P (Str.ofString "__firstlineno__")) (Value.str (Str.ofString "__firstlineno__") 252) (Value.int 12 251), DictEntry.mk (PyData.keyHash P (Str.ofString "__static_attributes__")) (Value.str (Str.ofString "__static_attributes__") 253) (Value.ref 61), DictEntry.mk (PyData.keyHash P (Str.ofString "__doc__")) (Value.str (Str.ofString "__doc__") 254) Value.none] 2) #[]) ::
  (nat_lit 63, Obj.mk (Value.type "type") none (Data.cls (ClassData.mk (Str.ofString "PathFault") [Value.ref 38] [Value.ref 63, Value.ref 38, Value.type "Exception", Value.type "BaseException", Value.type "object"] 62 (Str.ofString "PathFault") true [] [] false none false)) #[some (Value.ref 54), none, some (Value.str (Str.ofString "PathFault") 241), some (Value.str (Str.ofString "PathFault") 249), some (Value.builtin "Exception.__new__"), some (Value.bool true)]) ::
  (nat_lit 66, Obj.mk (Value.type "tuple") none (Data.seq #[]) #[]) ::
  (nat_lit 68, Obj.mk (Value.type "tuple") none (Data.seq #[Value.str (Str.ofString "axis") 262]) #[]) ::
  (nat_lit 69, Obj.mk (Value.type "tuple") none (Data.seq #[]) #[]) ::
  (nat_lit 71, Obj.mk (Value.type "code") none (Data.fields #[Value.str (Str.ofString "principal_kind") 259, Value.str (Str.ofString "principal_kind") 260, Value.str (Str.ofString "/claim/cut.py") 261, Value.int 15 0, Value.int 1 0, Value.int 0 0, Value.int 0 0, Value.int 3 0, Value.ref 66, Value.bool true, Value.int 181 0, Value.ref 67, Value.none, Value.ref 68, Value.ref 69, Value.ref 70, Value.int 263 0, Value.int 15 0, Value.str (Str.ofString "/claim/cut.py") 264]) #[]) ::
  (nat_lit 72, Obj.mk (Value.type "function") none (Data.func (FuncData.mk (Str.ofString "principal_kind") (Str.ofString "principal_kind") x6 (FuncBody.stmts x7) x8 3 [] Value.none Value.none Value.none (Value.str (Str.ofString "markupmill.node_tests") 257) none (Value.ref 71) Value.none 0)) #[]) ::
  (nat_lit 73, Obj.mk (Value.type "tuple") none (Data.seq #[]) #[]) ::
  (nat_lit 75, Obj.mk (Value.type "tuple") none (Data.seq #[Value.str (Str.ofString "prefix") 269, Value.str (Str.ofString "names") 270]) #[]) ::
  (nat_lit 76, Obj.mk (Value.type "tuple") none (Data.seq #[]) #[]) ::
  (nat_lit 78, Obj.mk (Value.type "code") none (Data.fields #[Value.str (Str.ofString "bound_uri") 266, Value.str (Str.ofString "bound_uri") 267, Value.str (Str.ofString "/claim/cut.py") 268, Value.int 17 0, Value.int 2 0, Value.int 0 0, Value.int 0 0, Value.int 3 0, Value.ref 73, Value.bool true, Value.int 181 0, Value.ref 74, Value.none, Value.ref 75, Value.ref 76, Value.ref 77, Value.int 271 0, Value.int 17 0, Value.str (Str.ofString "/claim/cut.py") 272]) #[]) ::
  (nat_lit 79, Obj.mk (Value.type "function") none (Data.func (FuncData.mk (Str.ofString "bound_uri") (Str.ofString "bound_uri") x9 (FuncBody.stmts x10) x11 3 [] Value.none Value.none Value.none (Value.str (Str.ofString "markupmill.node_tests") 257) none (Value.ref 78) Value.none 0)) #[]) ::
  (nat_lit 80, Obj.mk (Value.type "tuple") none (Data.seq #[]) #[]) ::
  (nat_lit 82, Obj.mk (Value.type "tuple") none (Data.seq #[Value.str (Str.ofString "tree") 277, Value.str (Str.ofString "node") 278, Value.str (Str.ofString "test") 279, Value.str (Str.ofString "names") 280, Value.str (Str.ofString "uri") 281, Value.str (Str.ofString "kind") 282]) #[]) ::
  (nat_lit 83, Obj.mk (Value.type "tuple") none (Data.seq #[]) #[]) ::
  (nat_lit 85, Obj.mk (Value.type "code") none (Data.fields #[Value.str (Str.ofString "is_named") 274, Value.str (Str.ofString "is_named") 275, Value.str (Str.ofString "/claim/cut.py") 276, Value.int 23 0, Value.int 4 0, Value.int 0 0, Value.int 0 0, Value.int 3 0, Value.ref 80, Value.bool true, Value.int 181 0, Value.ref 81, Value.none, Value.ref 82, Value.ref 83, Value.ref 84, Value.int 283 0, Value.int 23 0, Value.str (Str.ofString "/claim/cut.py") 284]) #[]) ::
  (nat_lit 86, Obj.mk (Value.type "function") none (Data.func (FuncData.mk (Str.ofString "is_named") (Str.ofString "is_named") x12 (FuncBody.stmts x13) x14 3 [] Value.none Value.none Value.none (Value.str (Str.ofString "markupmill.node_tests") 257) none (Value.ref 85) Value.none 0)) #[]) ::
  (nat_lit 87, Obj.mk (Value.type "tuple") none (Data.seq #[]) #[]) ::
  (nat_lit 89, Obj.mk (Value.type "tuple") none (Data.seq #[Value.str (Str.ofString "tree") 289, Value.str (Str.ofString "node") 290, Value.str (Str.ofString "axis") 291, Value.str (Str.ofString "test") 292, Value.str (Str.ofString "names") 293, Value.str (Str.ofString "kind") 294, Value.str (Str.ofString "uri") 295]) #[]) ::
  (nat_lit 90, Obj.mk (Value.type "tuple") none (Data.seq #[]) #[]) ::
  (nat_lit 92, Obj.mk (Value.type "code") none (Data.fields #[Value.str (Str.ofString "passes") 286, Value.str (Str.ofString "passes") 287, Value.str (Str.ofString "/claim/cut.py") 288, Value.int 28 0, Value.int 5 0, Value.int 0 0, Value.int 0 0, Value.int 3 0, Value.ref 87, Value.bool true, Value.int 181 0, Value.ref 88, Value.none, Value.ref 89, Value.ref 90, Value.ref 91, Value.int 296 0, Value.int 28 0, Value.str (Str.ofString "/claim/cut.py") 297]) #[]) ::
  (nat_lit 93, Obj.mk (Value.type "function") none (Data.func (FuncData.mk (Str.ofString "passes") (Str.ofString "passes") x15 (FuncBody.stmts x16) x17 3 [] Value.none Value.none Value.none (Value.str (Str.ofString "markupmill.node_tests") 257) none (Value.ref 92) Value.none 0)) #[]) ::
  (nat_lit 94, Obj.mk (Value.type "tuple") none (Data.seq #[]) #[]) ::
  (nat_lit 96, Obj.mk (Value.type "tuple") none (Data.seq #[Value.str (Str.ofString "tree") 304, Value.str (Str.ofString "node") 305]) #[]) ::
  (nat_lit 97, Obj.mk (Value.type "tuple") none (Data.seq #[]) #[]) ::
  (nat_lit 99, Obj.mk (Value.type "code") none (Data.fields #[Value.str (Str.ofString "is_beside") 301, Value.str (Str.ofString "is_beside") 302, Value.str (Str.ofString "/claim/cut.py") 303, Value.int 43 0, Value.int 2 0, Value.int 0 0, Value.int 0 0, Value.int 3 0, Value.ref 94, Value.bool true, Value.int 181 0, Value.ref 95, Value.none, Value.ref 96, Value.ref 97, Value.ref 98, Value.int 306 0, Value.int 43 0, Value.str (Str.ofString "/claim/cut.py") 307]) #[]) ::
  (nat_lit 100, Obj.mk (Value.type "function") none (Data.func (FuncData.mk (Str.ofString "is_beside") (Str.ofString "is_beside") x18 (FuncBody.stmts x19) x20 3 [] Value.none Value.none Value.none (Value.str (Str.ofString "markupmill.axes") 299) none (Value.ref 99) Value.none 0)) #[]) ::
  (nat_lit 101, Obj.mk (Value.type "tuple") none (Data.seq #[]) #[]) ::
  (nat_lit 103, Obj.mk (Value.type "tuple") none (Data.seq #[Value.str (Str.ofString "tree") 312, Value.str (Str.ofString "node") 313, Value.str (Str.ofString "found") 314, Value.str (Str.ofString "left") 315, Value.str (Str.ofString "here") 316]) #[]) ::
  (nat_lit 104, Obj.mk (Value.type "tuple") none (Data.seq #[]) #[]) ::
  (nat_lit 106, Obj.mk (Value.type "code") none (Data.fields #[Value.str (Str.ofString "descendants") 309, Value.str (Str.ofString "descendants") 310, Value.str (Str.ofString "/claim/cut.py") 311, Value.int 45 0, Value.int 2 0, Value.int 0 0, Value.int 0 0, Value.int 3 0, Value.ref 101, Value.bool true, Value.int 181 0, Value.ref 102, Value.none, Value.ref 103, Value.ref 104, Value.ref 105, Value.int 317 0, Value.int 45 0, Value.str (Str.ofString "/claim/cut.py") 318]) #[]) ::
  (nat_lit 107, Obj.mk (Value.type "function") none (Data.func (FuncData.mk (Str.ofString "descendants") (Str.ofString "descendants") x21 (FuncBody.stmts x22) x23 3 [] Value.none Value.none Value.none (Value.str (Str.ofString "markupmill.axes") 299) none (Value.ref 106) Value.none 0)) #[]) ::
  (nat_lit 108, Obj.mk (Value.type "tuple") none (Data.seq #[]) #[]) ::
  (nat_lit 110, Obj.mk (Value.type "tuple") none (Data.seq #[Value.str (Str.ofString "tree") 323, Value.str (Str.ofString "node") 324, Value.str (Str.ofString "found") 325, Value.str (Str.ofString "here") 326]) #[]) ::
  (nat_lit 111, Obj.mk (Value.type "tuple") none (Data.seq #[]) #[]) ::
  (nat_lit 113, Obj.mk (Value.type "code") none (Data.fields #[Value.str (Str.ofString "ancestors") 320, Value.str (Str.ofString "ancestors") 321, Value.str (Str.ofString "/claim/cut.py") 322, Value.int 52 0, Value.int 2 0, Value.int 0 0, Value.int 0 0, Value.int 3 0, Value.ref 108, Value.bool true, Value.int 181 0, Value.ref 109, Value.none, Value.ref 110, Value.ref 111, Value.ref 112, Value.int 327 0, Value.int 52 0, Value.str (Str.ofString "/claim/cut.py") 328]) #[]) ::
  (nat_lit 114, Obj.mk (Value.type "function") none (Data.func (FuncData.mk (Str.ofString "ancestors") (Str.ofString "ancestors") x24 (FuncBody.stmts x25) x26 3 [] Value.none Value.none Value.none (Value.str (Str.ofString "markupmill.axes") 299) none (Value.ref 113) Value.none 0)) #[]) ::
  (nat_lit 115, Obj.mk (Value.type "tuple") none (Data.seq #[]) #[]) ::
  (nat_lit 117, Obj.mk (Value.type "tuple") none (Data.seq #[Value.str (Str.ofString "tree") 333, Value.str (Str.ofString "node") 334, Value.str (Str.ofString "parent") 335, Value.str (Str.ofString "around") 336]) #[]) ::
  (nat_lit 118, Obj.mk (Value.type "tuple") none (Data.seq #[]) #[]) ::
  (nat_lit 120, Obj.mk (Value.type "code") none (Data.fields #[Value.str (Str.ofString "siblings_ahead") 330, Value.str (Str.ofString "siblings_ahead") 331, Value.str (Str.ofString "/claim/cut.py") 332, Value.int 58 0, Value.int 2 0, Value.int 0 0, Value.int 0 0, Value.int 3 0, Value.ref 115, Value.bool true, Value.int 181 0, Value.ref 116, Value.none, Value.ref 117, Value.ref 118, Value.ref 119, Value.int 337 0, Value.int 58 0, Value.str (Str.ofString "/claim/cut.py") 338]) #[]) ::
  (nat_lit 121, Obj.mk (Value.type "function") none (Data.func (FuncData.mk (Str.ofString "siblings_ahead") (Str.ofString "siblings_ahead") x27 (FuncBody.stmts x28) x29 3 [] Value.none Value.none Value.none (Value.str (Str.ofString "markupmill.axes") 299) none (Value.ref 120) Value.none 0)) #[]) ::
  (nat_lit 122, Obj.mk (Value.type "tuple") none (Data.seq #[]) #[]) ::
  (nat_lit 124, Obj.mk (Value.type "tuple") none (Data.seq #[Value.str (Str.ofString "tree") 343, Value.str (Str.ofString "node") 344, Value.str (Str.ofString "parent") 345, Value.str (Str.ofString "around") 346]) #[]) ::
  (nat_lit 125, Obj.mk (Value.type "tuple") none (Data.seq #[]) #[]) ::
  (nat_lit 127, Obj.mk (Value.type "code") none (Data.fields #[Value.str (Str.ofString "siblings_behind") 340, Value.str (Str.ofString "siblings_behind") 341, Value.str (Str.ofString "/claim/cut.py") 342, Value.int 64 0, Value.int 2 0, Value.int 0 0, Value.int 0 0, Value.int 3 0, Value.ref 122, Value.bool true, Value.int 181 0, Value.ref 123, Value.none, Value.ref 124, Value.ref 125, Value.ref 126, Value.int 347 0, Value.int 64 0, Value.str (Str.ofString "/claim/cut.py") 348]) #[]) ::
  (nat_lit 128, Obj.mk (Value.type "function") none (Data.func (FuncData.mk (Str.ofString "siblings_behind") (Str.ofString "siblings_behind") x30 (FuncBody.stmts x31) x32 3 [] Value.none Value.none Value.none (Value.str (Str.ofString "markupmill.axes") 299) none (Value.ref 127) Value.none 0)) #[]) ::
  (nat_lit 129, Obj.mk (Value.type "tuple") none (Data.seq #[]) #[]) ::
  (nat_lit 131, Obj.mk (Value.type "tuple") none (Data.seq #[Value.str (Str.ofString "tree") 353, Value.str (Str.ofString "nodes") 354, Value.str (Str.ofString "found") 355, Value.str (Str.ofString "node") 356]) #[]) ::
  (nat_lit 132, Obj.mk (Value.type "tuple") none (Data.seq #[]) #[]) ::
  (nat_lit 134, Obj.mk (Value.type "code") none (Data.fields #[Value.str (Str.ofString "with_descendants") 350, Value.str (Str.ofString "with_descendants") 351, Value.str (Str.ofString "/claim/cut.py") 352, Value.int 70 0, Value.int 2 0, Value.int 0 0, Value.int 0 0, Value.int 3 0, Value.ref 129, Value.bool true, Value.int 181 0, Value.ref 130, Value.none, Value.ref 131, Value.ref 132, Value.ref 133, Value.int 357 0, Value.int 70 0, Value.str (Str.ofString "/claim/cut.py") 358]) #[]) ::
  (nat_lit 135, Obj.mk (Value.type "function") none (Data.func (FuncData.mk (Str.ofString "with_descendants") (Str.ofString "with_descendants") x33 (FuncBody.stmts x34) x35 3 [] Value.none Value.none Value.none (Value.str (Str.ofString "markupmill.axes") 299) none (Value.ref 134) Value.none 0)) #[]) ::
  (nat_lit 136, Obj.mk (Value.type "tuple") none (Data.seq #[]) #[]) ::
  (nat_lit 138, Obj.mk (Value.type "tuple") none (Data.seq #[Value.str (Str.ofString "tree") 363, Value.str (Str.ofString "node") 364, Value.str (Str.ofString "found") 365, Value.str (Str.ofString "here") 366]) #[]) ::
  (nat_lit 139, Obj.mk (Value.type "tuple") none (Data.seq #[]) #[]) ::
  (nat_lit 141, Obj.mk (Value.type "code") none (Data.fields #[Value.str (Str.ofString "following") 360, Value.str (Str.ofString "following") 361, Value.str (Str.ofString "/claim/cut.py") 362, Value.int 76 0, Value.int 2 0, Value.int 0 0, Value.int 0 0, Value.int 3 0, Value.ref 136, Value.bool true, Value.int 181 0, Value.ref 137, Value.none, Value.ref 138, Value.ref 139, Value.ref 140, Value.int 367 0, Value.int 76 0, Value.str (Str.ofString "/claim/cut.py") 368]) #[]) ::
  (nat_lit 142, Obj.mk (Value.type "function") none (Data.func (FuncData.mk (Str.ofString "following") (Str.ofString "following") x36 (FuncBody.stmts x37) x38 3 [] Value.none Value.none Value.none (Value.str (Str.ofString "markupmill.axes") 299) none (Value.ref 141) Value.none 0)) #[]) ::
  (nat_lit 143, Obj.mk (Value.type "tuple") none (Data.seq #[]) #[]) ::
  (nat_lit 145, Obj.mk (Value.type "tuple") none (Data.seq #[Value.str (Str.ofString "tree") 373, Value.str (Str.ofString "node") 374, Value.str (Str.ofString "found") 375, Value.str (Str.ofString "here") 376, Value.str (Str.ofString "sibling") 377]) #[]) ::
  (nat_lit 146, Obj.mk (Value.type "tuple") none (Data.seq #[]) #[]) ::
  (nat_lit 148, Obj.mk (Value.type "code") none (Data.fields #[Value.str (Str.ofString "preceding") 370, Value.str (Str.ofString "preceding") 371, Value.str (Str.ofString "/claim/cut.py") 372, Value.int 84 0, Value.int 2 0, Value.int 0 0, Value.int 0 0, Value.int 3 0, Value.ref 143, Value.bool true, Value.int 181 0, Value.ref 144, Value.none, Value.ref 145, Value.ref 146, Value.ref 147, Value.int 378 0, Value.int 84 0, Value.str (Str.ofString "/claim/cut.py") 379]) #[]) ::
  (nat_lit 149, Obj.mk (Value.type "function") none (Data.func (FuncData.mk (Str.ofString "preceding") (Str.ofString "preceding") x39 (FuncBody.stmts x40) x41 3 [] Value.none Value.none Value.none (Value.str (Str.ofString "markupmill.axes") 299) none (Value.ref 148) Value.none 0)) #[]) ::
  (nat_lit 150, Obj.mk (Value.type "tuple") none (Data.seq #[]) #[]) ::
  (nat_lit 153, Obj.mk (Value.type "code") none (Data.fields #[Value.str (Str.ofString "namespaces_in_scope") 381, Value.str (Str.ofString "namespaces_in_scope") 382, Value.str (Str.ofString "/claim/cut.py") 383, Value.int 92 0, Value.int 2 0, Value.int 0 0, Value.int 0 0, Value.int 3 0, Value.ref 150, Value.bool true, Value.int 181 0, Value.ref 151, Value.none, Value.none, Value.none, Value.ref 152, Value.int 384 0, Value.int 92 0, Value.str (Str.ofString "/claim/cut.py") 385]) #[]) ::
  (nat_lit 154, Obj.mk (Value.type "function") none (Data.func (FuncData.mk (Str.ofString "namespaces_in_scope") (Str.ofString "namespaces_in_scope") x42 (FuncBody.stmts x43) x44 3 [] Value.none Value.none Value.none (Value.str (Str.ofString "markupmill.axes") 299) none (Value.ref 153) Value.none 0)) #[]) ::
  (nat_lit 155, Obj.mk (Value.type "tuple") none (Data.seq #[]) #[]) ::
  (nat_lit 157, Obj.mk (Value.type "tuple") none (Data.seq #[Value.str (Str.ofString "tree") 390, Value.str (Str.ofString "node") 391, Value.str (Str.ofString "name") 392, Value.str (Str.ofString "parent") 393]) #[]) ::
  (nat_lit 158, Obj.mk (Value.type "tuple") none (Data.seq #[]) #[]) ::
  (nat_lit 160, Obj.mk (Value.type "code") none (Data.fields #[Value.str (Str.ofString "short_axis") 387, Value.str (Str.ofString "short_axis") 388, Value.str (Str.ofString "/claim/cut.py") 389, Value.int 105 0, Value.int 3 0, Value.int 0 0, Value.int 0 0, Value.int 3 0, Value.ref 155, Value.bool true, Value.int 181 0, Value.ref 156, Value.none, Value.ref 157, Value.ref 158, Value.ref 159, Value.int 394 0, Value.int 105 0, Value.str (Str.ofString "/claim/cut.py") 395]) #[]) ::
  (nat_lit 161, Obj.mk (Value.type "function") none (Data.func (FuncData.mk (Str.ofString "short_axis") (Str.ofString "short_axis") x45 (FuncBody.stmts x46) x47 3 [] Value.none Value.none Value.none (Value.str (Str.ofString "markupmill.axes") 299) none (Value.ref 160) Value.none 0)) #[]) ::
  (nat_lit 162, Obj.mk (Value.type "tuple") none (Data.seq #[]) #[]) ::
  (nat_lit 164, Obj.mk (Value.type "tuple") none (Data.seq #[Value.str (Str.ofString "tree") 400, Value.str (Str.ofString "node") 401, Value.str (Str.ofString "name") 402, Value.str (Str.ofString "found") 403]) #[]) ::
  (nat_lit 165, Obj.mk (Value.type "tuple") none (Data.seq #[]) #[]) ::
  (nat_lit 167, Obj.mk (Value.type "code") none (Data.fields #[Value.str (Str.ofString "axis") 397, Value.str (Str.ofString "axis") 398, Value.str (Str.ofString "/claim/cut.py") 399, Value.int 122 0, Value.int 3 0, Value.int 0 0, Value.int 0 0, Value.int 3 0, Value.ref 162, Value.bool true, Value.int 181 0, Value.ref 163, Value.none, Value.ref 164, Value.ref 165, Value.ref 166, Value.int 404 0, Value.int 122 0, Value.str (Str.ofString "/claim/cut.py") 405]) #[]) ::
  (nat_lit 168, Obj.mk (Value.type "function") none (Data.func (FuncData.mk (Str.ofString "axis") (Str.ofString "axis") x48 (FuncBody.stmts x49) x50 3 [] Value.none Value.none Value.none (Value.str (Str.ofString "markupmill.axes") 299) none (Value.ref 167) Value.none 0)) #[]) ::
  (nat_lit 169, Obj.mk (Value.type "tuple") none (Data.seq #[]) #[]) ::
  (nat_lit 171, Obj.mk (Value.type "tuple") none (Data.seq #[Value.str (Str.ofString "value") 412, Value.str (Str.ofString "position") 413]) #[]) ::
  (nat_lit 172, Obj.mk (Value.type "tuple") none (Data.seq #[]) #[]) ::
  (nat_lit 174, Obj.mk (Value.type "code") none (Data.fields #[Value.str (Str.ofString "holds") 409, Value.str (Str.ofString "holds") 410, Value.str (Str.ofString "/claim/cut.py") 411, Value.int 140 0, Value.int 2 0, Value.int 0 0, Value.int 0 0, Value.int 3 0, Value.ref 169, Value.bool true, Value.int 181 0, Value.ref 170, Value.none, Value.ref 171, Value.ref 172, Value.ref 173, Value.int 414 0, Value.int 140 0, Value.str (Str.ofString "/claim/cut.py") 415]) #[]) ::
  (nat_lit 175, Obj.mk (Value.type "function") none (Data.func (FuncData.mk (Str.ofString "holds") (Str.ofString "holds") x51 (FuncBody.stmts x52) x53 3 [] Value.none Value.none Value.none (Value.str (Str.ofString "markupmill.steps") 407) none (Value.ref 174) Value.none 0)) #[]) ::
  (nat_lit 176, Obj.mk (Value.type "tuple") none (Data.seq #[]) #[]) ::
  (nat_lit 178, Obj.mk (Value.type "tuple") none (Data.seq #[Value.str (Str.ofString "nodes") 420, Value.str (Str.ofString "predicates") 421, Value.str (Str.ofString "value_of") 422, Value.str (Str.ofString "predicate") 423, Value.str (Str.ofString "size") 424, Value.str (Str.ofString "found") 425, Value.str (Str.ofString "at") 426, Value.str (Str.ofString "node") 427]) #[]) ::
  (nat_lit 179, Obj.mk (Value.type "tuple") none (Data.seq #[]) #[]) ::
  (nat_lit 181, Obj.mk (Value.type "code") none (Data.fields #[Value.str (Str.ofString "kept") 417, Value.str (Str.ofString "kept") 418, Value.str (Str.ofString "/claim/cut.py") 419, Value.int 146 0, Value.int 3 0, Value.int 0 0, Value.int 0 0, Value.int 3 0, Value.ref 176, Value.bool true, Value.int 181 0, Value.ref 177, Value.none, Value.ref 178, Value.ref 179, Value.ref 180, Value.int 428 0, Value.int 146 0, Value.str (Str.ofString "/claim/cut.py") 429]) #[]) ::
  (nat_lit 182, Obj.mk (Value.type "function") none (Data.func (FuncData.mk (Str.ofString "kept") (Str.ofString "kept") x54 (FuncBody.stmts x55) x56 3 [] Value.none Value.none Value.none (Value.str (Str.ofString "markupmill.steps") 407) none (Value.ref 181) Value.none 0)) #[]) ::
  (nat_lit 183, Obj.mk (Value.type "tuple") none (Data.seq #[]) #[]) ::
  (nat_lit 186, Obj.mk (Value.type "code") none (Data.fields #[Value.str (Str.ofString "step_from") 431, Value.str (Str.ofString "step_from") 432, Value.str (Str.ofString "/claim/cut.py") 433, Value.int 155 0, Value.int 5 0, Value.int 0 0, Value.int 0 0, Value.int 3 0, Value.ref 183, Value.bool true, Value.int 181 0, Value.ref 184, Value.none, Value.none, Value.none, Value.ref 185, Value.int 434 0, Value.int 155 0, Value.str (Str.ofString "/claim/cut.py") 435]) #[]) ::
  (nat_lit 187, Obj.mk (Value.type "function") none (Data.func (FuncData.mk (Str.ofString "step_from") (Str.ofString "step_from") x57 (FuncBody.stmts x58) x59 3 [] Value.none Value.none Value.none (Value.str (Str.ofString "markupmill.steps") 407) none (Value.ref 186) Value.none 0)) #[]) ::
  (nat_lit 195, Obj.mk (Value.type "tuple") none (Data.seq #[]) #[]) ::
  (nat_lit 197, Obj.mk (Value.type "tuple") none (Data.seq #[Value.str (Str.ofString "self") 454, Value.str (Str.ofString "step") 455, Value.str (Str.ofString "is_deep") 456]) #[]) ::
  (nat_lit 198, Obj.mk (Value.type "tuple") none (Data.seq #[]) #[]) ::
  (nat_lit 200, Obj.mk (Value.type "code") none (Data.fields #[Value.str (Str.ofString "__init__") 451, Value.str (Str.ofString "Part.__init__") 452, Value.str (Str.ofString "/claim/cut.py") 453, Value.int 161 0, Value.int 3 0, Value.int 0 0, Value.int 0 0, Value.int 3 0, Value.ref 195, Value.bool true, Value.int 181 0, Value.ref 196, Value.none, Value.ref 197, Value.ref 198, Value.ref 199, Value.int 457 0, Value.int 161 0, Value.str (Str.ofString "/claim/cut.py") 458]) #[]) ::
  (nat_lit 201, Obj.mk (Value.type "function") none (Data.func (FuncData.mk (Str.ofString "__init__") (Str.ofString "Part.__init__") x60 (FuncBody.stmts x61) x62 3 [] Value.none Value.none Value.none (Value.str (Str.ofString "markupmill.patterns") 437) none (Value.ref 200) Value.none 0)) #[]) ::
  (nat_lit 202, Obj.mk (Value.type "tuple") none (Data.seq #[Value.str (Str.ofString "is_deep") 460, Value.str (Str.ofString "step") 461]) #[]) ::
  (nat_lit 203, Obj.mk (Value.type "dict") none (Data.dict #[DictEntry.mk (PyData.keyHash P (Str.ofString "__module__")) (Value.str (Str.ofString "__module__") 446) (Value.str (Str.ofString "markupmill.patterns") 437), DictEntry.mk (PyData.keyHash P (Str.ofString "__firstlineno__")) (Value.str (Str.ofString "__firstlineno__") 450) (Value.int 159 449), DictEntry.mk (PyData.keyHash P (Str.ofString "__init__")) (Value.str (Str.ofString "__init__") 459) (Value.ref 201), DictEntry.mk (PyData.keyHash P (Str.ofString "__static_attributes__")) (Value.str (Str.ofString "__static_attributes__") 462) (Value.ref 202), DictEntry.mk (PyData.keyHash P (Str.ofString "__dict__")) (Value.str (Str.ofString "__dict__") 464) (Value.ref 205), DictEntry.mk (PyData.keyHash P (Str.ofString "__weakref__")) (Value.str (Str.ofString "__weakref__") 466) (Value.ref 206), DictEntry.mk (PyData.keyHash P (Str.ofString "__doc__")) (Value.str (Str.ofString "__doc__") 467) Value.none] 4) #[]) ::
  (nat_lit 204, Obj.mk (Value.type "type") none (Data.cls (ClassData.mk (Str.ofString "Part") [Value.type "object"] [Value.ref 204, Value.type "object"] 203 (Str.ofString "Part") true [] [] false none false)) #[none, none, some (Value.str (Str.ofString "Part") 439), some (Value.str (Str.ofString "Part") 447), some (Value.builtin "object.__new__"), some (Value.bool true)]) ::
  (nat_lit 205, Obj.mk (Value.type "getset_descriptor") none (Data.fields #[Value.str (Str.ofString "__dict__") 463, Value.ref 204, Value.builtin "function.__dict__", Value.builtin "function.__dict__#set"]) #[]) ::
  (nat_lit 206, Obj.mk (Value.type "getset_descriptor") none (Data.fields #[Value.str (Str.ofString "__weakref__") 465, Value.ref 204, Value.builtin "ExceptionGroup.__weakref__", Value.none]) #[]) ::
  (nat_lit 216, Obj.mk (Value.type "tuple") none (Data.seq #[]) #[]) ::
  (nat_lit 218, Obj.mk (Value.type "tuple") none (Data.seq #[Value.str (Str.ofString "self") 485, Value.str (Str.ofString "start") 486, Value.str (Str.ofString "parts") 487, Value.str (Str.ofString "priority") 488]) #[]) ::
  (nat_lit 219, Obj.mk (Value.type "tuple") none (Data.seq #[]) #[]) ::
  (nat_lit 221, Obj.mk (Value.type "code") none (Data.fields #[Value.str (Str.ofString "__init__") 482, Value.str (Str.ofString "Pattern.__init__") 483, Value.str (Str.ofString "/claim/cut.py") 484, Value.int 166 0, Value.int 4 0, Value.int 0 0, Value.int 0 0, Value.int 3 0, Value.ref 216, Value.bool true, Value.int 181 0, Value.ref 217, Value.none, Value.ref 218, Value.ref 219, Value.ref 220, Value.int 489 0, Value.int 166 0, Value.str (Str.ofString "/claim/cut.py") 490]) #[]) ::
  (nat_lit 222, Obj.mk (Value.type "function") none (Data.func (FuncData.mk (Str.ofString "__init__") (Str.ofString "Pattern.__init__") x63 (FuncBody.stmts x64) x65 3 [] Value.none Value.none Value.none (Value.str (Str.ofString "markupmill.patterns") 437) none (Value.ref 221) Value.none 0)) #[]) ::
  (nat_lit 223, Obj.mk (Value.type "tuple") none (Data.seq #[Value.str (Str.ofString "parts") 492, Value.str (Str.ofString "priority") 493, Value.str (Str.ofString "start") 494]) #[]) ::
  (nat_lit 224, Obj.mk (Value.type "dict") none (Data.dict #[DictEntry.mk (PyData.keyHash P (Str.ofString "__module__")) (Value.str (Str.ofString "__module__") 477) (Value.str (Str.ofString "markupmill.patterns") 437), DictEntry.mk (PyData.keyHash P (Str.ofString "__firstlineno__")) (Value.str (Str.ofString "__firstlineno__") 481) (Value.int 164 480), DictEntry.mk (PyData.keyHash P (Str.ofString "__init__")) (Value.str (Str.ofString "__init__") 491) (Value.ref 222), DictEntry.mk (PyData.keyHash P (Str.ofString "__static_attributes__")) (Value.str (Str.ofString "__static_attributes__") 495) (Value.ref 223), DictEntry.mk (PyData.keyHash P (Str.ofString "__dict__")) (Value.str (Str.ofString "__dict__") 497) (Value.ref 226), DictEntry.mk (PyData.keyHash P (Str.ofString "__weakref__")) (Value.str (Str.ofString "__weakref__") 499) (Value.ref 227), DictEntry.mk (PyData.keyHash P (Str.ofString "__doc__")) (Value.str (Str.ofString "__doc__") 500) Value.none] 4) #[]) ::
  (nat_lit 225, Obj.mk (Value.type "type") none (Data.cls (ClassData.mk (Str.ofString "Pattern") [Value.type "object"] [Value.ref 225, Value.type "object"] 224 (Str.ofString "Pattern") true [] [] false none false)) #[none, none, some (Value.str (Str.ofString "Pattern") 470), some (Value.str (Str.ofString "Pattern") 478), some (Value.builtin "object.__new__"), some (Value.bool true)]) ::
  (nat_lit 226, Obj.mk (Value.type "getset_descriptor") none (Data.fields #[Value.str (Str.ofString "__dict__") 496, Value.ref 225, Value.builtin "function.__dict__", Value.builtin "function.__dict__#set"]) #[]) ::
  (nat_lit 227, Obj.mk (Value.type "getset_descriptor") none (Data.fields #[Value.str (Str.ofString "__weakref__") 498, Value.ref 225, Value.builtin "ExceptionGroup.__weakref__", Value.none]) #[]) ::
  (nat_lit 237, Obj.mk (Value.type "tuple") none (Data.seq #[]) #[]) ::
  (nat_lit 239, Obj.mk (Value.type "tuple") none (Data.seq #[Value.str (Str.ofString "self") 518, Value.str (Str.ofString "tree") 519, Value.str (Str.ofString "names") 520, Value.str (Str.ofString "value_of") 521]) #[]) ::
  (nat_lit 240, Obj.mk (Value.type "tuple") none (Data.seq #[]) #[]) ::
  (nat_lit 242, Obj.mk (Value.type "code") none (Data.fields #[Value.str (Str.ofString "__init__") 515, Value.str (Str.ofString "Look.__init__") 516, Value.str (Str.ofString "/claim/cut.py") 517, Value.int 172 0, Value.int 4 0, Value.int 0 0, Value.int 0 0, Value.int 3 0, Value.ref 237, Value.bool true, Value.int 181 0, Value.ref 238, Value.none, Value.ref 239, Value.ref 240, Value.ref 241, Value.int 522 0, Value.int 172 0, Value.str (Str.ofString "/claim/cut.py") 523]) #[]) ::
  (nat_lit 243, Obj.mk (Value.type "function") none (Data.func (FuncData.mk (Str.ofString "__init__") (Str.ofString "Look.__init__") x66 (FuncBody.stmts x67) x68 3 [] Value.none Value.none Value.none (Value.str (Str.ofString "markupmill.patterns") 437) none (Value.ref 242) Value.none 0)) #[]) ::
  (nat_lit 244, Obj.mk (Value.type "tuple") none (Data.seq #[Value.str (Str.ofString "names") 525, Value.str (Str.ofString "tree") 526, Value.str (Str.ofString "value_of") 527]) #[]) ::
  (nat_lit 245, Obj.mk (Value.type "dict") none (Data.dict #[DictEntry.mk (PyData.keyHash P (Str.ofString "__module__")) (Value.str (Str.ofString "__module__") 510) (Value.str (Str.ofString "markupmill.patterns") 437), DictEntry.mk (PyData.keyHash P (Str.ofString "__firstlineno__")) (Value.str (Str.ofString "__firstlineno__") 514) (Value.int 170 513), DictEntry.mk (PyData.keyHash P (Str.ofString "__init__")) (Value.str (Str.ofString "__init__") 524) (Value.ref 243), DictEntry.mk (PyData.keyHash P (Str.ofString "__static_attributes__")) (Value.str (Str.ofString "__static_attributes__") 528) (Value.ref 244), DictEntry.mk (PyData.keyHash P (Str.ofString "__dict__")) (Value.str (Str.ofString "__dict__") 530) (Value.ref 247), DictEntry.mk (PyData.keyHash P (Str.ofString "__weakref__")) (Value.str (Str.ofString "__weakref__") 532) (Value.ref 248), DictEntry.mk (PyData.keyHash P (Str.ofString "__doc__")) (Value.str (Str.ofString "__doc__") 533) Value.none] 4) #[]) ::
  (nat_lit 246, Obj.mk (Value.type "type") none (Data.cls (ClassData.mk (Str.ofString "Look") [Value.type "object"] [Value.ref 246, Value.type "object"] 245 (Str.ofString "Look") true [] [] false none false)) #[none, none, some (Value.str (Str.ofString "Look") 503), some (Value.str (Str.ofString "Look") 511), some (Value.builtin "object.__new__"), some (Value.bool true)]) ::
  (nat_lit 247, Obj.mk (Value.type "getset_descriptor") none (Data.fields #[Value.str (Str.ofString "__dict__") 529, Value.ref 246, Value.builtin "function.__dict__", Value.builtin "function.__dict__#set"]) #[]) ::
  (nat_lit 248, Obj.mk (Value.type "getset_descriptor") none (Data.fields #[Value.str (Str.ofString "__weakref__") 531, Value.ref 246, Value.builtin "ExceptionGroup.__weakref__", Value.none]) #[]) ::
  (nat_lit 251, Obj.mk (Value.type "tuple") none (Data.seq #[]) #[]) ::
  (nat_lit 253, Obj.mk (Value.type "tuple") none (Data.seq #[Value.str (Str.ofString "pattern") 539, Value.str (Str.ofString "node") 540, Value.str (Str.ofString "look") 541]) #[]) ::
  (nat_lit 254, Obj.mk (Value.type "tuple") none (Data.seq #[]) #[]) ::
  (nat_lit 256, Obj.mk (Value.type "code") none (Data.fields #[Value.str (Str.ofString "matches") 536, Value.str (Str.ofString "matches") 537, Value.str (Str.ofString "/claim/cut.py") 538, Value.int 176 0, Value.int 3 0, Value.int 0 0, Value.int 0 0, Value.int 3 0, Value.ref 251, Value.bool true, Value.int 181 0, Value.ref 252, Value.none, Value.ref 253, Value.ref 254, Value.ref 255, Value.int 542 0, Value.int 176 0, Value.str (Str.ofString "/claim/cut.py") 543]) #[]) ::
  (nat_lit 257, Obj.mk (Value.type "function") none (Data.func (FuncData.mk (Str.ofString "matches") (Str.ofString "matches") x69 (FuncBody.stmts x70) x71 3 [] Value.none Value.none Value.none (Value.str (Str.ofString "markupmill.patterns") 437) none (Value.ref 256) Value.none 0)) #[]) ::
  (nat_lit 258, Obj.mk (Value.type "tuple") none (Data.seq #[]) #[]) ::
  (nat_lit 260, Obj.mk (Value.type "tuple") none (Data.seq #[Value.str (Str.ofString "ways") 548, Value.str (Str.ofString "node") 549, Value.str (Str.ofString "look") 550, Value.str (Str.ofString "pattern") 551]) #[]) ::
  (nat_lit 261, Obj.mk (Value.type "tuple") none (Data.seq #[]) #[]) ::
  (nat_lit 263, Obj.mk (Value.type "code") none (Data.fields #[Value.str (Str.ofString "matches_any") 545, Value.str (Str.ofString "matches_any") 546, Value.str (Str.ofString "/claim/cut.py") 547, Value.int 180 0, Value.int 3 0, Value.int 0 0, Value.int 0 0, Value.int 3 0, Value.ref 258, Value.bool true, Value.int 181 0, Value.ref 259, Value.none, Value.ref 260, Value.ref 261, Value.ref 262, Value.int 552 0, Value.int 180 0, Value.str (Str.ofString "/claim/cut.py") 553]) #[]) ::
  (nat_lit 264, Obj.mk (Value.type "function") none (Data.func (FuncData.mk (Str.ofString "matches_any") (Str.ofString "matches_any") x72 (FuncBody.stmts x73) x74 3 [] Value.none Value.none Value.none (Value.str (Str.ofString "markupmill.patterns") 437) none (Value.ref 263) Value.none 0)) #[]) ::
  (nat_lit 265, Obj.mk (Value.type "tuple") none (Data.seq #[]) #[]) ::
  (nat_lit 267, Obj.mk (Value.type "tuple") none (Data.seq #[Value.str (Str.ofString "start") 558, Value.str (Str.ofString "node") 559, Value.str (Str.ofString "look") 560]) #[]) ::
  (nat_lit 268, Obj.mk (Value.type "tuple") none (Data.seq #[]) #[]) ::
  (nat_lit 270, Obj.mk (Value.type "code") none (Data.fields #[Value.str (Str.ofString "is_started") 555, Value.str (Str.ofString "is_started") 556, Value.str (Str.ofString "/claim/cut.py") 557, Value.int 185 0, Value.int 3 0, Value.int 0 0, Value.int 0 0, Value.int 3 0, Value.ref 265, Value.bool true, Value.int 181 0, Value.ref 266, Value.none, Value.ref 267, Value.ref 268, Value.ref 269, Value.int 561 0, Value.int 185 0, Value.str (Str.ofString "/claim/cut.py") 562]) #[]) ::
  (nat_lit 271, Obj.mk (Value.type "function") none (Data.func (FuncData.mk (Str.ofString "is_started") (Str.ofString "is_started") x75 (FuncBody.stmts x76) x77 3 [] Value.none Value.none Value.none (Value.str (Str.ofString "markupmill.patterns") 437) none (Value.ref 270) Value.none 0)) #[]) ::
  (nat_lit 272, Obj.mk (Value.type "tuple") none (Data.seq #[]) #[]) ::
  (nat_lit 274, Obj.mk (Value.type "tuple") none (Data.seq #[Value.str (Str.ofString "pattern") 567, Value.str (Str.ofString "at") 568, Value.str (Str.ofString "node") 569, Value.str (Str.ofString "look") 570, Value.str (Str.ofString "part") 571, Value.str (Str.ofString "above") 572]) #[]) ::
  (nat_lit 275, Obj.mk (Value.type "tuple") none (Data.seq #[]) #[]) ::
  (nat_lit 277, Obj.mk (Value.type "code") none (Data.fields #[Value.str (Str.ofString "fits_from") 564, Value.str (Str.ofString "fits_from") 565, Value.str (Str.ofString "/claim/cut.py") 566, Value.int 189 0, Value.int 4 0, Value.int 0 0, Value.int 0 0, Value.int 3 0, Value.ref 272, Value.bool true, Value.int 181 0, Value.ref 273, Value.none, Value.ref 274, Value.ref 275, Value.ref 276, Value.int 573 0, Value.int 189 0, Value.str (Str.ofString "/claim/cut.py") 574]) #[]) ::
  (nat_lit 278, Obj.mk (Value.type "function") none (Data.func (FuncData.mk (Str.ofString "fits_from") (Str.ofString "fits_from") x78 (FuncBody.stmts x79) x80 3 [] Value.none Value.none Value.none (Value.str (Str.ofString "markupmill.patterns") 437) none (Value.ref 277) Value.none 0)) #[]) ::
  (nat_lit 279, Obj.mk (Value.type "tuple") none (Data.seq #[]) #[]) ::
  (nat_lit 281, Obj.mk (Value.type "tuple") none (Data.seq #[Value.str (Str.ofString "step") 579, Value.str (Str.ofString "node") 580, Value.str (Str.ofString "look") 581, Value.str (Str.ofString "tree") 582, Value.str (Str.ofString "kind") 583, Value.str (Str.ofString "parent") 584]) #[]) ::
  (nat_lit 282, Obj.mk (Value.type "tuple") none (Data.seq #[]) #[]) ::
  (nat_lit 284, Obj.mk (Value.type "code") none (Data.fields #[Value.str (Str.ofString "fits_step") 576, Value.str (Str.ofString "fits_step") 577, Value.str (Str.ofString "/claim/cut.py") 578, Value.int 206 0, Value.int 3 0, Value.int 0 0, Value.int 0 0, Value.int 3 0, Value.ref 279, Value.bool true, Value.int 181 0, Value.ref 280, Value.none, Value.ref 281, Value.ref 282, Value.ref 283, Value.int 585 0, Value.int 206 0, Value.str (Str.ofString "/claim/cut.py") 586]) #[]) ::
  (nat_lit 285, Obj.mk (Value.type "function") none (Data.func (FuncData.mk (Str.ofString "fits_step") (Str.ofString "fits_step") x81 (FuncBody.stmts x82) x83 3 [] Value.none Value.none Value.none (Value.str (Str.ofString "markupmill.patterns") 437) none (Value.ref 284) Value.none 0)) #[]) ::
  (nat_lit 286, Obj.mk (Value.type "tuple") none (Data.seq #[Value.str (Str.ofString "root") 590, Value.str (Str.ofString "element") 591]) #[]) ::
  (nat_lit 294, Obj.mk (Value.type "tuple") none (Data.seq #[]) #[]) ::
  (nat_lit 296, Obj.mk (Value.type "tuple") none (Data.seq #[Value.str (Str.ofString "self") 608, Value.str (Str.ofString "kind") 609, Value.str (Str.ofString "name") 610, Value.str (Str.ofString "uri") 611, Value.str (Str.ofString "local") 612, Value.str (Str.ofString "value") 613, Value.str (Str.ofString "parent") 614]) #[]) ::
  (nat_lit 297, Obj.mk (Value.type "tuple") none (Data.seq #[]) #[]) ::
  (nat_lit 299, Obj.mk (Value.type "code") none (Data.fields #[Value.str (Str.ofString "__init__") 605, Value.str (Str.ofString "NodeRow.__init__") 606, Value.str (Str.ofString "/claim/cut.py") 607, Value.int 219 0, Value.int 7 0, Value.int 0 0, Value.int 0 0, Value.int 3 0, Value.ref 294, Value.bool true, Value.int 181 0, Value.ref 295, Value.none, Value.ref 296, Value.ref 297, Value.ref 298, Value.int 615 0, Value.int 219 0, Value.str (Str.ofString "/claim/cut.py") 616]) #[]) ::
  (nat_lit 300, Obj.mk (Value.type "function") none (Data.func (FuncData.mk (Str.ofString "__init__") (Str.ofString "NodeRow.__init__") x84 (FuncBody.stmts x85) x86 3 [] Value.none Value.none Value.none (Value.str (Str.ofString "markupmill.tree") 588) none (Value.ref 299) Value.none 0)) #[]) ::
  (nat_lit 301, Obj.mk (Value.type "tuple") none (Data.seq #[Value.str (Str.ofString "attributes") 618, Value.str (Str.ofString "children") 619, Value.str (Str.ofString "kind") 620, Value.str (Str.ofString "local") 621, Value.str (Str.ofString "name") 622, Value.str (Str.ofString "namespaces") 623, Value.str (Str.ofString "parent") 624, Value.str (Str.ofString "uri") 625, Value.str (Str.ofString "value") 626]) #[]) ::
  (nat_lit 302, Obj.mk (Value.type "dict") none (Data.dict #[DictEntry.mk (PyData.keyHash P (Str.ofString "__module__")) (Value.str (Str.ofString "__module__") 600) (Value.str (Str.ofString "markupmill.tree") 588), DictEntry.mk (PyData.keyHash P (Str.ofString "__firstlineno__")) (Value.str (Str.ofString "__firstlineno__") 604) (Value.int 217 603), DictEntry.mk (PyData.keyHash P (Str.ofString "__init__")) (Value.str (Str.ofString "__init__") 617) (Value.ref 300), DictEntry.mk (PyData.keyHash P (Str.ofString "__static_attributes__")) (Value.str (Str.ofString "__static_attributes__") 627) (Value.ref 301), DictEntry.mk (PyData.keyHash P (Str.ofString "__dict__")) (Value.str (Str.ofString "__dict__") 629) (Value.ref 304), DictEntry.mk (PyData.keyHash P (Str.ofString "__weakref__")) (Value.str (Str.ofString "__weakref__") 631) (Value.ref 305), DictEntry.mk (PyData.keyHash P (Str.ofString "__doc__")) (Value.str (Str.ofString "__doc__") 632) Value.none] 4) #[]) ::
  (nat_lit 303, Obj.mk (Value.type "type") none (Data.cls (ClassData.mk (Str.ofString "NodeRow") [Value.type "object"] [Value.ref 303, Value.type "object"] 302 (Str.ofString "NodeRow") true [] [] false none false)) #[none, none, some (Value.str (Str.ofString "NodeRow") 593), some (Value.str (Str.ofString "NodeRow") 601), some (Value.builtin "object.__new__"), some (Value.bool true)]) ::
  (nat_lit 304, Obj.mk (Value.type "getset_descriptor") none (Data.fields #[Value.str (Str.ofString "__dict__") 628, Value.ref 303, Value.builtin "function.__dict__", Value.builtin "function.__dict__#set"]) #[]) ::
  (nat_lit 305, Obj.mk (Value.type "getset_descriptor") none (Data.fields #[Value.str (Str.ofString "__weakref__") 630, Value.ref 303, Value.builtin "ExceptionGroup.__weakref__", Value.none]) #[]) ::
  (nat_lit 315, Obj.mk (Value.type "tuple") none (Data.seq #[]) #[]) ::
  (nat_lit 317, Obj.mk (Value.type "tuple") none (Data.seq #[Value.str (Str.ofString "self") 650]) #[]) ::
  (nat_lit 318, Obj.mk (Value.type "tuple") none (Data.seq #[]) #[]) ::
  (nat_lit 320, Obj.mk (Value.type "code") none (Data.fields #[Value.str (Str.ofString "__init__") 647, Value.str (Str.ofString "Tree.__init__") 648, Value.str (Str.ofString "/claim/cut.py") 649, Value.int 231 0, Value.int 1 0, Value.int 0 0, Value.int 0 0, Value.int 3 0, Value.ref 315, Value.bool true, Value.int 181 0, Value.ref 316, Value.none, Value.ref 317, Value.ref 318, Value.ref 319, Value.int 651 0, Value.int 231 0, Value.str (Str.ofString "/claim/cut.py") 652]) #[]) ::
  (nat_lit 321, Obj.mk (Value.type "function") none (Data.func (FuncData.mk (Str.ofString "__init__") (Str.ofString "Tree.__init__") x87 (FuncBody.stmts x88) x89 3 [] Value.none Value.none Value.none (Value.str (Str.ofString "markupmill.tree") 588) none (Value.ref 320) Value.none 0)) #[]) ::
  (nat_lit 322, Obj.mk (Value.type "tuple") none (Data.seq #[]) #[]) ::
  (nat_lit 324, Obj.mk (Value.type "tuple") none (Data.seq #[Value.str (Str.ofString "self") 657, Value.str (Str.ofString "kind") 658, Value.str (Str.ofString "name") 659, Value.str (Str.ofString "uri") 660, Value.str (Str.ofString "local") 661, Value.str (Str.ofString "value") 662, Value.str (Str.ofString "parent") 663]) #[]) ::
  (nat_lit 325, Obj.mk (Value.type "tuple") none (Data.seq #[]) #[]) ::
  (nat_lit 327, Obj.mk (Value.type "code") none (Data.fields #[Value.str (Str.ofString "new_row") 654, Value.str (Str.ofString "Tree.new_row") 655, Value.str (Str.ofString "/claim/cut.py") 656, Value.int 234 0, Value.int 7 0, Value.int 0 0, Value.int 0 0, Value.int 3 0, Value.ref 322, Value.bool true, Value.int 181 0, Value.ref 323, Value.none, Value.ref 324, Value.ref 325, Value.ref 326, Value.int 664 0, Value.int 234 0, Value.str (Str.ofString "/claim/cut.py") 665]) #[]) ::
  (nat_lit 328, Obj.mk (Value.type "function") none (Data.func (FuncData.mk (Str.ofString "new_row") (Str.ofString "Tree.new_row") x90 (FuncBody.stmts x91) x92 3 [] Value.none Value.none Value.none (Value.str (Str.ofString "markupmill.tree") 588) none (Value.ref 327) Value.none 0)) #[]) ::
  (nat_lit 329, Obj.mk (Value.type "tuple") none (Data.seq #[]) #[]) ::
  (nat_lit 331, Obj.mk (Value.type "tuple") none (Data.seq #[Value.str (Str.ofString "self") 670, Value.str (Str.ofString "node") 671]) #[]) ::
  (nat_lit 332, Obj.mk (Value.type "tuple") none (Data.seq #[]) #[]) ::
  (nat_lit 334, Obj.mk (Value.type "code") none (Data.fields #[Value.str (Str.ofString "row") 667, Value.str (Str.ofString "Tree.row") 668, Value.str (Str.ofString "/claim/cut.py") 669, Value.int 238 0, Value.int 2 0, Value.int 0 0, Value.int 0 0, Value.int 3 0, Value.ref 329, Value.bool true, Value.int 181 0, Value.ref 330, Value.none, Value.ref 331, Value.ref 332, Value.ref 333, Value.int 672 0, Value.int 238 0, Value.str (Str.ofString "/claim/cut.py") 673]) #[]) ::
  (nat_lit 335, Obj.mk (Value.type "function") none (Data.func (FuncData.mk (Str.ofString "row") (Str.ofString "Tree.row") x93 (FuncBody.stmts x94) x95 3 [] Value.none Value.none Value.none (Value.str (Str.ofString "markupmill.tree") 588) none (Value.ref 334) Value.none 0)) #[]) ::
  (nat_lit 336, Obj.mk (Value.type "tuple") none (Data.seq #[]) #[]) ::
  (nat_lit 338, Obj.mk (Value.type "tuple") none (Data.seq #[Value.str (Str.ofString "self") 678]) #[]) ::
  (nat_lit 339, Obj.mk (Value.type "tuple") none (Data.seq #[]) #[]) ::
  (nat_lit 341, Obj.mk (Value.type "code") none (Data.fields #[Value.str (Str.ofString "new_root") 675, Value.str (Str.ofString "Tree.new_root") 676, Value.str (Str.ofString "/claim/cut.py") 677, Value.int 243 0, Value.int 1 0, Value.int 0 0, Value.int 0 0, Value.int 3 0, Value.ref 336, Value.bool true, Value.int 181 0, Value.ref 337, Value.none, Value.ref 338, Value.ref 339, Value.ref 340, Value.int 679 0, Value.int 243 0, Value.str (Str.ofString "/claim/cut.py") 680]) #[]) ::
  (nat_lit 342, Obj.mk (Value.type "function") none (Data.func (FuncData.mk (Str.ofString "new_root") (Str.ofString "Tree.new_root") x96 (FuncBody.stmts x97) x98 3 [] Value.none Value.none Value.none (Value.str (Str.ofString "markupmill.tree") 588) none (Value.ref 341) Value.none 0)) #[]) ::
  (nat_lit 343, Obj.mk (Value.type "tuple") none (Data.seq #[]) #[]) ::
  (nat_lit 345, Obj.mk (Value.type "tuple") none (Data.seq #[Value.str (Str.ofString "self") 685, Value.str (Str.ofString "parent") 686, Value.str (Str.ofString "kind") 687, Value.str (Str.ofString "name") 688, Value.str (Str.ofString "uri") 689, Value.str (Str.ofString "local") 690, Value.str (Str.ofString "value") 691, Value.str (Str.ofString "node") 692]) #[]) ::
  (nat_lit 346, Obj.mk (Value.type "tuple") none (Data.seq #[]) #[]) ::
  (nat_lit 348, Obj.mk (Value.type "code") none (Data.fields #[Value.str (Str.ofString "add_child") 682, Value.str (Str.ofString "Tree.add_child") 683, Value.str (Str.ofString "/claim/cut.py") 684, Value.int 246 0, Value.int 7 0, Value.int 0 0, Value.int 0 0, Value.int 3 0, Value.ref 343, Value.bool true, Value.int 181 0, Value.ref 344, Value.none, Value.ref 345, Value.ref 346, Value.ref 347, Value.int 693 0, Value.int 246 0, Value.str (Str.ofString "/claim/cut.py") 694]) #[]) ::
  (nat_lit 349, Obj.mk (Value.type "function") none (Data.func (FuncData.mk (Str.ofString "add_child") (Str.ofString "Tree.add_child") x99 (FuncBody.stmts x100) x101 3 [] Value.none Value.none Value.none (Value.str (Str.ofString "markupmill.tree") 588) none (Value.ref 348) Value.none 0)) #[]) ::
  (nat_lit 350, Obj.mk (Value.type "tuple") none (Data.seq #[]) #[]) ::
  (nat_lit 352, Obj.mk (Value.type "tuple") none (Data.seq #[Value.str (Str.ofString "self") 699, Value.str (Str.ofString "parent") 700, Value.str (Str.ofString "name") 701, Value.str (Str.ofString "uri") 702, Value.str (Str.ofString "local") 703]) #[]) ::
  (nat_lit 353, Obj.mk (Value.type "tuple") none (Data.seq #[]) #[]) ::
  (nat_lit 355, Obj.mk (Value.type "code") none (Data.fields #[Value.str (Str.ofString "add_element") 696, Value.str (Str.ofString "Tree.add_element") 697, Value.str (Str.ofString "/claim/cut.py") 698, Value.int 254 0, Value.int 5 0, Value.int 0 0, Value.int 0 0, Value.int 3 0, Value.ref 350, Value.bool true, Value.int 181 0, Value.ref 351, Value.none, Value.ref 352, Value.ref 353, Value.ref 354, Value.int 704 0, Value.int 254 0, Value.str (Str.ofString "/claim/cut.py") 705]) #[]) ::
  (nat_lit 356, Obj.mk (Value.type "function") none (Data.func (FuncData.mk (Str.ofString "add_element") (Str.ofString "Tree.add_element") x102 (FuncBody.stmts x103) x104 3 [] Value.none Value.none Value.none (Value.str (Str.ofString "markupmill.tree") 588) none (Value.ref 355) Value.none 0)) #[]) ::
  (nat_lit 357, Obj.mk (Value.type "tuple") none (Data.seq #[]) #[]) ::
  (nat_lit 359, Obj.mk (Value.type "tuple") none (Data.seq #[Value.str (Str.ofString "self") 710, Value.str (Str.ofString "parent") 711, Value.str (Str.ofString "value") 712]) #[]) ::
  (nat_lit 360, Obj.mk (Value.type "tuple") none (Data.seq #[]) #[]) ::
  (nat_lit 362, Obj.mk (Value.type "code") none (Data.fields #[Value.str (Str.ofString "add_text") 707, Value.str (Str.ofString "Tree.add_text") 708, Value.str (Str.ofString "/claim/cut.py") 709, Value.int 257 0, Value.int 3 0, Value.int 0 0, Value.int 0 0, Value.int 3 0, Value.ref 357, Value.bool true, Value.int 181 0, Value.ref 358, Value.none, Value.ref 359, Value.ref 360, Value.ref 361, Value.int 713 0, Value.int 257 0, Value.str (Str.ofString "/claim/cut.py") 714]) #[]) ::
  (nat_lit 363, Obj.mk (Value.type "function") none (Data.func (FuncData.mk (Str.ofString "add_text") (Str.ofString "Tree.add_text") x105 (FuncBody.stmts x106) x107 3 [] Value.none Value.none Value.none (Value.str (Str.ofString "markupmill.tree") 588) none (Value.ref 362) Value.none 0)) #[]) ::
  (nat_lit 364, Obj.mk (Value.type "tuple") none (Data.seq #[]) #[]) ::
  (nat_lit 366, Obj.mk (Value.type "tuple") none (Data.seq #[Value.str (Str.ofString "self") 719, Value.str (Str.ofString "parent") 720, Value.str (Str.ofString "value") 721]) #[]) ::
  (nat_lit 367, Obj.mk (Value.type "tuple") none (Data.seq #[]) #[]) ::
  (nat_lit 369, Obj.mk (Value.type "code") none (Data.fields #[Value.str (Str.ofString "add_comment") 716, Value.str (Str.ofString "Tree.add_comment") 717, Value.str (Str.ofString "/claim/cut.py") 718, Value.int 260 0, Value.int 3 0, Value.int 0 0, Value.int 0 0, Value.int 3 0, Value.ref 364, Value.bool true, Value.int 181 0, Value.ref 365, Value.none, Value.ref 366, Value.ref 367, Value.ref 368, Value.int 722 0, Value.int 260 0, Value.str (Str.ofString "/claim/cut.py") 723]) #[]) ::
  (nat_lit 370, Obj.mk (Value.type "function") none (Data.func (FuncData.mk (Str.ofString "add_comment") (Str.ofString "Tree.add_comment") x108 (FuncBody.stmts x109) x110 3 [] Value.none Value.none Value.none (Value.str (Str.ofString "markupmill.tree") 588) none (Value.ref 369) Value.none 0)) #[]) ::
  (nat_lit 371, Obj.mk (Value.type "tuple") none (Data.seq #[]) #[]) ::
  (nat_lit 373, Obj.mk (Value.type "tuple") none (Data.seq #[Value.str (Str.ofString "self") 728, Value.str (Str.ofString "parent") 729, Value.str (Str.ofString "target") 730, Value.str (Str.ofString "data") 731]) #[]) ::
  (nat_lit 374, Obj.mk (Value.type "tuple") none (Data.seq #[]) #[]) ::
  (nat_lit 376, Obj.mk (Value.type "code") none (Data.fields #[Value.str (Str.ofString "add_instruction") 725, Value.str (Str.ofString "Tree.add_instruction") 726, Value.str (Str.ofString "/claim/cut.py") 727, Value.int 263 0, Value.int 4 0, Value.int 0 0, Value.int 0 0, Value.int 3 0, Value.ref 371, Value.bool true, Value.int 181 0, Value.ref 372, Value.none, Value.ref 373, Value.ref 374, Value.ref 375, Value.int 732 0, Value.int 263 0, Value.str (Str.ofString "/claim/cut.py") 733]) #[]) ::
  (nat_lit 377, Obj.mk (Value.type "function") none (Data.func (FuncData.mk (Str.ofString "add_instruction") (Str.ofString "Tree.add_instruction") x111 (FuncBody.stmts x112) x113 3 [] Value.none Value.none Value.none (Value.str (Str.ofString "markupmill.tree") 588) none (Value.ref 376) Value.none 0)) #[]) ::
  (nat_lit 378, Obj.mk (Value.type "tuple") none (Data.seq #[]) #[]) ::
  (nat_lit 380, Obj.mk (Value.type "tuple") none (Data.seq #[Value.str (Str.ofString "self") 738, Value.str (Str.ofString "element") 739, Value.str (Str.ofString "row") 740]) #[]) ::
  (nat_lit 381, Obj.mk (Value.type "tuple") none (Data.seq #[]) #[]) ::
  (nat_lit 383, Obj.mk (Value.type "code") none (Data.fields #[Value.str (Str.ofString "element_row") 735, Value.str (Str.ofString "Tree.element_row") 736, Value.str (Str.ofString "/claim/cut.py") 737, Value.int 266 0, Value.int 2 0, Value.int 0 0, Value.int 0 0, Value.int 3 0, Value.ref 378, Value.bool true, Value.int 181 0, Value.ref 379, Value.none, Value.ref 380, Value.ref 381, Value.ref 382, Value.int 741 0, Value.int 266 0, Value.str (Str.ofString "/claim/cut.py") 742]) #[]) ::
  (nat_lit 384, Obj.mk (Value.type "function") none (Data.func (FuncData.mk (Str.ofString "element_row") (Str.ofString "Tree.element_row") x114 (FuncBody.stmts x115) x116 3 [] Value.none Value.none Value.none (Value.str (Str.ofString "markupmill.tree") 588) none (Value.ref 383) Value.none 0)) #[]) ::
  (nat_lit 385, Obj.mk (Value.type "tuple") none (Data.seq #[]) #[]) ::
  (nat_lit 387, Obj.mk (Value.type "tuple") none (Data.seq #[Value.str (Str.ofString "self") 747, Value.str (Str.ofString "element") 748, Value.str (Str.ofString "name") 749, Value.str (Str.ofString "uri") 750, Value.str (Str.ofString "local") 751, Value.str (Str.ofString "value") 752, Value.str (Str.ofString "row") 753, Value.str (Str.ofString "node") 754, Value.str (Str.ofString "known") 755]) #[]) ::
  (nat_lit 388, Obj.mk (Value.type "tuple") none (Data.seq #[]) #[]) ::
  (nat_lit 390, Obj.mk (Value.type "code") none (Data.fields #[Value.str (Str.ofString "set_attribute") 744, Value.str (Str.ofString "Tree.set_attribute") 745, Value.str (Str.ofString "/claim/cut.py") 746, Value.int 272 0, Value.int 6 0, Value.int 0 0, Value.int 0 0, Value.int 3 0, Value.ref 385, Value.bool true, Value.int 181 0, Value.ref 386, Value.none, Value.ref 387, Value.ref 388, Value.ref 389, Value.int 756 0, Value.int 272 0, Value.str (Str.ofString "/claim/cut.py") 757]) #[]) ::
  (nat_lit 391, Obj.mk (Value.type "function") none (Data.func (FuncData.mk (Str.ofString "set_attribute") (Str.ofString "Tree.set_attribute") x117 (FuncBody.stmts x118) x119 3 [] Value.none Value.none Value.none (Value.str (Str.ofString "markupmill.tree") 588) none (Value.ref 390) Value.none 0)) #[]) ::
  (nat_lit 392, Obj.mk (Value.type "tuple") none (Data.seq #[]) #[]) ::
  (nat_lit 394, Obj.mk (Value.type "tuple") none (Data.seq #[Value.str (Str.ofString "self") 762, Value.str (Str.ofString "element") 763, Value.str (Str.ofString "prefix") 764, Value.str (Str.ofString "uri") 765]) #[]) ::
  (nat_lit 395, Obj.mk (Value.type "tuple") none (Data.seq #[]) #[]) ::
  (nat_lit 397, Obj.mk (Value.type "code") none (Data.fields #[Value.str (Str.ofString "add_namespace") 759, Value.str (Str.ofString "Tree.add_namespace") 760, Value.str (Str.ofString "/claim/cut.py") 761, Value.int 284 0, Value.int 4 0, Value.int 0 0, Value.int 0 0, Value.int 3 0, Value.ref 392, Value.bool true, Value.int 181 0, Value.ref 393, Value.none, Value.ref 394, Value.ref 395, Value.ref 396, Value.int 766 0, Value.int 284 0, Value.str (Str.ofString "/claim/cut.py") 767]) #[]) ::
  (nat_lit 398, Obj.mk (Value.type "function") none (Data.func (FuncData.mk (Str.ofString "add_namespace") (Str.ofString "Tree.add_namespace") x120 (FuncBody.stmts x121) x122 3 [] Value.none Value.none Value.none (Value.str (Str.ofString "markupmill.tree") 588) none (Value.ref 397) Value.none 0)) #[]) ::
  (nat_lit 399, Obj.mk (Value.type "tuple") none (Data.seq #[]) #[]) ::
  (nat_lit 401, Obj.mk (Value.type "tuple") none (Data.seq #[Value.str (Str.ofString "self") 772, Value.str (Str.ofString "node") 773, Value.str (Str.ofString "value") 774]) #[]) ::
  (nat_lit 402, Obj.mk (Value.type "tuple") none (Data.seq #[]) #[]) ::
  (nat_lit 404, Obj.mk (Value.type "code") none (Data.fields #[Value.str (Str.ofString "set_value") 769, Value.str (Str.ofString "Tree.set_value") 770, Value.str (Str.ofString "/claim/cut.py") 771, Value.int 287 0, Value.int 3 0, Value.int 0 0, Value.int 0 0, Value.int 3 0, Value.ref 399, Value.bool true, Value.int 181 0, Value.ref 400, Value.none, Value.ref 401, Value.ref 402, Value.ref 403, Value.int 775 0, Value.int 287 0, Value.str (Str.ofString "/claim/cut.py") 776]) #[]) ::
  (nat_lit 405, Obj.mk (Value.type "function") none (Data.func (FuncData.mk (Str.ofString "set_value") (Str.ofString "Tree.set_value") x123 (FuncBody.stmts x124) x125 3 [] Value.none Value.none Value.none (Value.str (Str.ofString "markupmill.tree") 588) none (Value.ref 404) Value.none 0)) #[]) ::
  (nat_lit 406, Obj.mk (Value.type "tuple") none (Data.seq #[]) #[]) ::
  (nat_lit 408, Obj.mk (Value.type "tuple") none (Data.seq #[Value.str (Str.ofString "self") 781, Value.str (Str.ofString "node") 782]) #[]) ::
  (nat_lit 409, Obj.mk (Value.type "tuple") none (Data.seq #[]) #[]) ::
  (nat_lit 411, Obj.mk (Value.type "code") none (Data.fields #[Value.str (Str.ofString "kind") 778, Value.str (Str.ofString "Tree.kind") 779, Value.str (Str.ofString "/claim/cut.py") 780, Value.int 290 0, Value.int 2 0, Value.int 0 0, Value.int 0 0, Value.int 3 0, Value.ref 406, Value.bool true, Value.int 181 0, Value.ref 407, Value.none, Value.ref 408, Value.ref 409, Value.ref 410, Value.int 783 0, Value.int 290 0, Value.str (Str.ofString "/claim/cut.py") 784]) #[]) ::
  (nat_lit 412, Obj.mk (Value.type "function") none (Data.func (FuncData.mk (Str.ofString "kind") (Str.ofString "Tree.kind") x126 (FuncBody.stmts x127) x128 3 [] Value.none Value.none Value.none (Value.str (Str.ofString "markupmill.tree") 588) none (Value.ref 411) Value.none 0)) #[]) ::
  (nat_lit 413, Obj.mk (Value.type "tuple") none (Data.seq #[]) #[]) ::
  (nat_lit 415, Obj.mk (Value.type "tuple") none (Data.seq #[Value.str (Str.ofString "self") 789, Value.str (Str.ofString "node") 790]) #[]) ::
  (nat_lit 416, Obj.mk (Value.type "tuple") none (Data.seq #[]) #[]) ::
  (nat_lit 418, Obj.mk (Value.type "code") none (Data.fields #[Value.str (Str.ofString "name") 786, Value.str (Str.ofString "Tree.name") 787, Value.str (Str.ofString "/claim/cut.py") 788, Value.int 293 0, Value.int 2 0, Value.int 0 0, Value.int 0 0, Value.int 3 0, Value.ref 413, Value.bool true, Value.int 181 0, Value.ref 414, Value.none, Value.ref 415, Value.ref 416, Value.ref 417, Value.int 791 0, Value.int 293 0, Value.str (Str.ofString "/claim/cut.py") 792]) #[]) ::
  (nat_lit 419, Obj.mk (Value.type "function") none (Data.func (FuncData.mk (Str.ofString "name") (Str.ofString "Tree.name") x129 (FuncBody.stmts x130) x131 3 [] Value.none Value.none Value.none (Value.str (Str.ofString "markupmill.tree") 588) none (Value.ref 418) Value.none 0)) #[]) ::
  (nat_lit 420, Obj.mk (Value.type "tuple") none (Data.seq #[]) #[]) ::
  (nat_lit 422, Obj.mk (Value.type "tuple") none (Data.seq #[Value.str (Str.ofString "self") 797, Value.str (Str.ofString "node") 798]) #[]) ::
  (nat_lit 423, Obj.mk (Value.type "tuple") none (Data.seq #[]) #[]) ::
  (nat_lit 425, Obj.mk (Value.type "code") none (Data.fields #[Value.str (Str.ofString "uri") 794, Value.str (Str.ofString "Tree.uri") 795, Value.str (Str.ofString "/claim/cut.py") 796, Value.int 296 0, Value.int 2 0, Value.int 0 0, Value.int 0 0, Value.int 3 0, Value.ref 420, Value.bool true, Value.int 181 0, Value.ref 421, Value.none, Value.ref 422, Value.ref 423, Value.ref 424, Value.int 799 0, Value.int 296 0, Value.str (Str.ofString "/claim/cut.py") 800]) #[]) ::
  (nat_lit 426, Obj.mk (Value.type "function") none (Data.func (FuncData.mk (Str.ofString "uri") (Str.ofString "Tree.uri") x132 (FuncBody.stmts x133) x134 3 [] Value.none Value.none Value.none (Value.str (Str.ofString "markupmill.tree") 588) none (Value.ref 425) Value.none 0)) #[]) ::
  (nat_lit 427, Obj.mk (Value.type "tuple") none (Data.seq #[]) #[]) ::
  (nat_lit 429, Obj.mk (Value.type "tuple") none (Data.seq #[Value.str (Str.ofString "self") 805, Value.str (Str.ofString "node") 806]) #[]) ::
  (nat_lit 430, Obj.mk (Value.type "tuple") none (Data.seq #[]) #[]) ::
  (nat_lit 432, Obj.mk (Value.type "code") none (Data.fields #[Value.str (Str.ofString "local") 802, Value.str (Str.ofString "Tree.local") 803, Value.str (Str.ofString "/claim/cut.py") 804, Value.int 299 0, Value.int 2 0, Value.int 0 0, Value.int 0 0, Value.int 3 0, Value.ref 427, Value.bool true, Value.int 181 0, Value.ref 428, Value.none, Value.ref 429, Value.ref 430, Value.ref 431, Value.int 807 0, Value.int 299 0, Value.str (Str.ofString "/claim/cut.py") 808]) #[]) ::
  (nat_lit 433, Obj.mk (Value.type "function") none (Data.func (FuncData.mk (Str.ofString "local") (Str.ofString "Tree.local") x135 (FuncBody.stmts x136) x137 3 [] Value.none Value.none Value.none (Value.str (Str.ofString "markupmill.tree") 588) none (Value.ref 432) Value.none 0)) #[]) ::
  (nat_lit 434, Obj.mk (Value.type "tuple") none (Data.seq #[]) #[]) ::
  (nat_lit 436, Obj.mk (Value.type "tuple") none (Data.seq #[Value.str (Str.ofString "self") 813, Value.str (Str.ofString "node") 814]) #[]) ::
  (nat_lit 437, Obj.mk (Value.type "tuple") none (Data.seq #[]) #[]) ::
  (nat_lit 439, Obj.mk (Value.type "code") none (Data.fields #[Value.str (Str.ofString "value") 810, Value.str (Str.ofString "Tree.value") 811, Value.str (Str.ofString "/claim/cut.py") 812, Value.int 302 0, Value.int 2 0, Value.int 0 0, Value.int 0 0, Value.int 3 0, Value.ref 434, Value.bool true, Value.int 181 0, Value.ref 435, Value.none, Value.ref 436, Value.ref 437, Value.ref 438, Value.int 815 0, Value.int 302 0, Value.str (Str.ofString "/claim/cut.py") 816]) #[]) ::
  (nat_lit 440, Obj.mk (Value.type "function") none (Data.func (FuncData.mk (Str.ofString "value") (Str.ofString "Tree.value") x138 (FuncBody.stmts x139) x140 3 [] Value.none Value.none Value.none (Value.str (Str.ofString "markupmill.tree") 588) none (Value.ref 439) Value.none 0)) #[]) ::
  (nat_lit 441, Obj.mk (Value.type "tuple") none (Data.seq #[]) #[]) ::
  (nat_lit 443, Obj.mk (Value.type "tuple") none (Data.seq #[Value.str (Str.ofString "self") 821, Value.str (Str.ofString "node") 822]) #[]) ::
  (nat_lit 444, Obj.mk (Value.type "tuple") none (Data.seq #[]) #[]) ::
  (nat_lit 446, Obj.mk (Value.type "code") none (Data.fields #[Value.str (Str.ofString "parent") 818, Value.str (Str.ofString "Tree.parent") 819, Value.str (Str.ofString "/claim/cut.py") 820, Value.int 305 0, Value.int 2 0, Value.int 0 0, Value.int 0 0, Value.int 3 0, Value.ref 441, Value.bool true, Value.int 181 0, Value.ref 442, Value.none, Value.ref 443, Value.ref 444, Value.ref 445, Value.int 823 0, Value.int 305 0, Value.str (Str.ofString "/claim/cut.py") 824]) #[]) ::
  (nat_lit 447, Obj.mk (Value.type "function") none (Data.func (FuncData.mk (Str.ofString "parent") (Str.ofString "Tree.parent") x141 (FuncBody.stmts x142) x143 3 [] Value.none Value.none Value.none (Value.str (Str.ofString "markupmill.tree") 588) none (Value.ref 446) Value.none 0)) #[]) ::
  (nat_lit 448, Obj.mk (Value.type "tuple") none (Data.seq #[]) #[]) ::
  (nat_lit 450, Obj.mk (Value.type "tuple") none (Data.seq #[Value.str (Str.ofString "self") 829, Value.str (Str.ofString "node") 830]) #[]) ::
  (nat_lit 451, Obj.mk (Value.type "tuple") none (Data.seq #[]) #[]) ::
  (nat_lit 453, Obj.mk (Value.type "code") none (Data.fields #[Value.str (Str.ofString "children") 826, Value.str (Str.ofString "Tree.children") 827, Value.str (Str.ofString "/claim/cut.py") 828, Value.int 308 0, Value.int 2 0, Value.int 0 0, Value.int 0 0, Value.int 3 0, Value.ref 448, Value.bool true, Value.int 181 0, Value.ref 449, Value.none, Value.ref 450, Value.ref 451, Value.ref 452, Value.int 831 0, Value.int 308 0, Value.str (Str.ofString "/claim/cut.py") 832]) #[]) ::
  (nat_lit 454, Obj.mk (Value.type "function") none (Data.func (FuncData.mk (Str.ofString "children") (Str.ofString "Tree.children") x144 (FuncBody.stmts x145) x146 3 [] Value.none Value.none Value.none (Value.str (Str.ofString "markupmill.tree") 588) none (Value.ref 453) Value.none 0)) #[]) ::
  (nat_lit 455, Obj.mk (Value.type "tuple") none (Data.seq #[]) #[]) ::
  (nat_lit 457, Obj.mk (Value.type "tuple") none (Data.seq #[Value.str (Str.ofString "self") 837, Value.str (Str.ofString "node") 838]) #[]) ::
  (nat_lit 458, Obj.mk (Value.type "tuple") none (Data.seq #[]) #[]) ::
  (nat_lit 460, Obj.mk (Value.type "code") none (Data.fields #[Value.str (Str.ofString "attributes") 834, Value.str (Str.ofString "Tree.attributes") 835, Value.str (Str.ofString "/claim/cut.py") 836, Value.int 311 0, Value.int 2 0, Value.int 0 0, Value.int 0 0, Value.int 3 0, Value.ref 455, Value.bool true, Value.int 181 0, Value.ref 456, Value.none, Value.ref 457, Value.ref 458, Value.ref 459, Value.int 839 0, Value.int 311 0, Value.str (Str.ofString "/claim/cut.py") 840]) #[]) ::
  (nat_lit 461, Obj.mk (Value.type "function") none (Data.func (FuncData.mk (Str.ofString "attributes") (Str.ofString "Tree.attributes") x147 (FuncBody.stmts x148) x149 3 [] Value.none Value.none Value.none (Value.str (Str.ofString "markupmill.tree") 588) none (Value.ref 460) Value.none 0)) #[]) ::
  (nat_lit 462, Obj.mk (Value.type "tuple") none (Data.seq #[]) #[]) ::
  (nat_lit 464, Obj.mk (Value.type "tuple") none (Data.seq #[Value.str (Str.ofString "self") 845, Value.str (Str.ofString "node") 846]) #[]) ::
  (nat_lit 465, Obj.mk (Value.type "tuple") none (Data.seq #[]) #[]) ::
  (nat_lit 467, Obj.mk (Value.type "code") none (Data.fields #[Value.str (Str.ofString "namespaces") 842, Value.str (Str.ofString "Tree.namespaces") 843, Value.str (Str.ofString "/claim/cut.py") 844, Value.int 314 0, Value.int 2 0, Value.int 0 0, Value.int 0 0, Value.int 3 0, Value.ref 462, Value.bool true, Value.int 181 0, Value.ref 463, Value.none, Value.ref 464, Value.ref 465, Value.ref 466, Value.int 847 0, Value.int 314 0, Value.str (Str.ofString "/claim/cut.py") 848]) #[]) ::
  (nat_lit 468, Obj.mk (Value.type "function") none (Data.func (FuncData.mk (Str.ofString "namespaces") (Str.ofString "Tree.namespaces") x150 (FuncBody.stmts x151) x152 3 [] Value.none Value.none Value.none (Value.str (Str.ofString "markupmill.tree") 588) none (Value.ref 467) Value.none 0)) #[]) ::
  (nat_lit 469, Obj.mk (Value.type "tuple") none (Data.seq #[]) #[]) ::
  (nat_lit 471, Obj.mk (Value.type "tuple") none (Data.seq #[Value.str (Str.ofString "self") 853, Value.str (Str.ofString "node") 854]) #[]) ::
  (nat_lit 472, Obj.mk (Value.type "tuple") none (Data.seq #[]) #[]) ::
  (nat_lit 474, Obj.mk (Value.type "code") none (Data.fields #[Value.str (Str.ofString "root_of") 850, Value.str (Str.ofString "Tree.root_of") 851, Value.str (Str.ofString "/claim/cut.py") 852, Value.int 317 0, Value.int 2 0, Value.int 0 0, Value.int 0 0, Value.int 3 0, Value.ref 469, Value.bool true, Value.int 181 0, Value.ref 470, Value.none, Value.ref 471, Value.ref 472, Value.ref 473, Value.int 855 0, Value.int 317 0, Value.str (Str.ofString "/claim/cut.py") 856]) #[]) ::
  (nat_lit 475, Obj.mk (Value.type "function") none (Data.func (FuncData.mk (Str.ofString "root_of") (Str.ofString "Tree.root_of") x153 (FuncBody.stmts x154) x155 3 [] Value.none Value.none Value.none (Value.str (Str.ofString "markupmill.tree") 588) none (Value.ref 474) Value.none 0)) #[]) ::
  (nat_lit 476, Obj.mk (Value.type "tuple") none (Data.seq #[]) #[]) ::
  (nat_lit 478, Obj.mk (Value.type "tuple") none (Data.seq #[Value.str (Str.ofString "self") 861, Value.str (Str.ofString "node") 862, Value.str (Str.ofString "other") 863]) #[]) ::
  (nat_lit 479, Obj.mk (Value.type "tuple") none (Data.seq #[]) #[]) ::
  (nat_lit 481, Obj.mk (Value.type "code") none (Data.fields #[Value.str (Str.ofString "is_above") 858, Value.str (Str.ofString "Tree.is_above") 859, Value.str (Str.ofString "/claim/cut.py") 860, Value.int 320 0, Value.int 3 0, Value.int 0 0, Value.int 0 0, Value.int 3 0, Value.ref 476, Value.bool true, Value.int 181 0, Value.ref 477, Value.none, Value.ref 478, Value.ref 479, Value.ref 480, Value.int 864 0, Value.int 320 0, Value.str (Str.ofString "/claim/cut.py") 865]) #[]) ::
  (nat_lit 482, Obj.mk (Value.type "function") none (Data.func (FuncData.mk (Str.ofString "is_above") (Str.ofString "Tree.is_above") x156 (FuncBody.stmts x157) x158 3 [] Value.none Value.none Value.none (Value.str (Str.ofString "markupmill.tree") 588) none (Value.ref 481) Value.none 0)) #[]) ::
  (nat_lit 483, Obj.mk (Value.type "tuple") none (Data.seq #[]) #[]) ::
  (nat_lit 485, Obj.mk (Value.type "tuple") none (Data.seq #[Value.str (Str.ofString "self") 870, Value.str (Str.ofString "element") 871, Value.str (Str.ofString "uri") 872, Value.str (Str.ofString "local") 873, Value.str (Str.ofString "node") 874]) #[]) ::
  (nat_lit 486, Obj.mk (Value.type "tuple") none (Data.seq #[]) #[]) ::
  (nat_lit 488, Obj.mk (Value.type "code") none (Data.fields #[Value.str (Str.ofString "attribute_value") 867, Value.str (Str.ofString "Tree.attribute_value") 868, Value.str (Str.ofString "/claim/cut.py") 869, Value.int 323 0, Value.int 4 0, Value.int 0 0, Value.int 0 0, Value.int 3 0, Value.ref 483, Value.bool true, Value.int 181 0, Value.ref 484, Value.none, Value.ref 485, Value.ref 486, Value.ref 487, Value.int 875 0, Value.int 323 0, Value.str (Str.ofString "/claim/cut.py") 876]) #[]) ::
  (nat_lit 489, Obj.mk (Value.type "function") none (Data.func (FuncData.mk (Str.ofString "attribute_value") (Str.ofString "Tree.attribute_value") x159 (FuncBody.stmts x160) x161 3 [] Value.none Value.none Value.none (Value.str (Str.ofString "markupmill.tree") 588) none (Value.ref 488) Value.none 0)) #[]) ::
  (nat_lit 490, Obj.mk (Value.type "tuple") none (Data.seq #[Value.str (Str.ofString "rows") 878]) #[]) ::
  (nat_lit 491, Obj.mk (Value.type "dict") none (Data.dict #[DictEntry.mk (PyData.keyHash P (Str.ofString "__module__")) (Value.str (Str.ofString "__module__") 642) (Value.str (Str.ofString "markupmill.tree") 588), DictEntry.mk (PyData.keyHash P (Str.ofString "__firstlineno__")) (Value.str (Str.ofString "__firstlineno__") 646) (Value.int 229 645), DictEntry.mk (PyData.keyHash P (Str.ofString "__init__")) (Value.str (Str.ofString "__init__") 653) (Value.ref 321), DictEntry.mk (PyData.keyHash P (Str.ofString "new_row")) (Value.str (Str.ofString "new_row") 666) (Value.ref 328), DictEntry.mk (PyData.keyHash P (Str.ofString "row")) (Value.str (Str.ofString "row") 674) (Value.ref 335), DictEntry.mk (PyData.keyHash P (Str.ofString "new_root")) (Value.str (Str.ofString "new_root") 681) (Value.ref 342), DictEntry.mk (PyData.keyHash P (Str.ofString "add_child")) (Value.str (Str.ofString "add_child") 695) (Value.ref 349), DictEntry.mk (PyData.keyHash P (Str.ofString "add_element")) (Value.str (Str.ofString "add_element") 706) (Value.ref 356), DictEntry.mk (PyData.keyHash P (Str.ofString "add_text")) (Value.str (Str.ofString "add_text") 715) (Value.ref 363), DictEntry.mk (PyData.keyHash P (Str.ofString "add_comment")) (Value.str (Str.ofString "add_comment") 724) (Value.ref 370), DictEntry.mk (PyData.keyHash P (Str.ofString "add_instruction")) (Value.str (Str.ofString "add_instruction") 734) (Value.ref 377), DictEntry.mk (PyData.keyHash P (Str.ofString "element_row")) (Value.str (Str.ofString "element_row") 743) (Value.ref 384), DictEntry.mk (PyData.keyHash P (Str.ofString "set_attribute")) (Value.str (Str.ofString "set_attribute") 758) (Value.ref 391), DictEntry.mk (PyData.keyHash P (Str.ofString "add_namespace")) (Value.str (Str.ofString "add_namespace") 768) (Value.ref 398), DictEntry.mk (PyData.keyHash P (Str.ofString "set_value")) (Value.str (Str.ofString "set_value") 777) (Value.ref 405), DictEntry.mk (PyData.keyHash P (Str.ofString "kind")) (Value.str (Str.ofString "kind") 785) (Value.ref 412), DictEntry.mk (PyData.keyHash P (Str.ofString "name")) (Value.str (Str.ofString "name") 793) (Value.ref 419), DictEntry.mk (PyData.keyHash P (Str.ofString "uri")) (Value.str (Str.ofString "uri") 801) (Value.ref 426), DictEntry.mk (PyData.keyHash P (Str.ofString "local")) (Value.str (Str.ofString "local") 809) (Value.ref 433), DictEntry.mk (PyData.keyHash P (Str.ofString "value")) (Value.str (Str.ofString "value") 817) (Value.ref 440), DictEntry.mk (PyData.keyHash P (Str.ofString "parent")) (Value.str (Str.ofString "parent") 825) (Value.ref 447), DictEntry.mk (PyData.keyHash P (Str.ofString "children")) (Value.str (Str.ofString "children") 833) (Value.ref 454), DictEntry.mk (PyData.keyHash P (Str.ofString "attributes")) (Value.str (Str.ofString "attributes") 841) (Value.ref 461), DictEntry.mk (PyData.keyHash P (Str.ofString "namespaces")) (Value.str (Str.ofString "namespaces") 849) (Value.ref 468), DictEntry.mk (PyData.keyHash P (Str.ofString "root_of")) (Value.str (Str.ofString "root_of") 857) (Value.ref 475), DictEntry.mk (PyData.keyHash P (Str.ofString "is_above")) (Value.str (Str.ofString "is_above") 866) (Value.ref 482), DictEntry.mk (PyData.keyHash P (Str.ofString "attribute_value")) (Value.str (Str.ofString "attribute_value") 877) (Value.ref 489), DictEntry.mk (PyData.keyHash P (Str.ofString "__static_attributes__")) (Value.str (Str.ofString "__static_attributes__") 879) (Value.ref 490), DictEntry.mk (PyData.keyHash P (Str.ofString "__dict__")) (Value.str (Str.ofString "__dict__") 881) (Value.ref 493), DictEntry.mk (PyData.keyHash P (Str.ofString "__weakref__")) (Value.str (Str.ofString "__weakref__") 883) (Value.ref 494), DictEntry.mk (PyData.keyHash P (Str.ofString "__doc__")) (Value.str (Str.ofString "__doc__") 884) Value.none] 4) #[]) ::
  (nat_lit 492, Obj.mk (Value.type "type") none (Data.cls (ClassData.mk (Str.ofString "Tree") [Value.type "object"] [Value.ref 492, Value.type "object"] 491 (Str.ofString "Tree") true [] [] false none false)) #[none, none, some (Value.str (Str.ofString "Tree") 635), some (Value.str (Str.ofString "Tree") 643), some (Value.builtin "object.__new__"), some (Value.bool true)]) ::
  (nat_lit 493, Obj.mk (Value.type "getset_descriptor") none (Data.fields #[Value.str (Str.ofString "__dict__") 880, Value.ref 492, Value.builtin "function.__dict__", Value.builtin "function.__dict__#set"]) #[]) ::
  (nat_lit 494, Obj.mk (Value.type "getset_descriptor") none (Data.fields #[Value.str (Str.ofString "__weakref__") 882, Value.ref 492, Value.builtin "ExceptionGroup.__weakref__", Value.none]) #[]) ::
  (nat_lit 497, Obj.mk (Value.type "tuple") none (Data.seq #[]) #[]) ::
  (nat_lit 500, Obj.mk (Value.type "code") none (Data.fields #[Value.str (Str.ofString "rows_of") 889, Value.str (Str.ofString "rows_of") 890, Value.str (Str.ofString "/claim/cut.py") 891, Value.int 329 0, Value.int 1 0, Value.int 0 0, Value.int 0 0, Value.int 3 0, Value.ref 497, Value.bool true, Value.int 181 0, Value.ref 498, Value.none, Value.none, Value.none, Value.ref 499, Value.int 892 0, Value.int 329 0, Value.str (Str.ofString "/claim/cut.py") 893]) #[]) ::
  (nat_lit 501, Obj.mk (Value.type "function") none (Data.func (FuncData.mk (Str.ofString "rows_of") (Str.ofString "rows_of") x162 (FuncBody.stmts x163) x164 3 [] Value.none Value.none Value.none (Value.str (Str.ofString "markupmill.xpath_nodes") 887) none (Value.ref 500) Value.none 0)) #[]) ::
  (nat_lit 509, Obj.mk (Value.type "tuple") none (Data.seq #[]) #[]) ::
  (nat_lit 511, Obj.mk (Value.type "tuple") none (Data.seq #[Value.str (Str.ofString "self") 910, Value.str (Str.ofString "value") 911]) #[]) ::
  (nat_lit 512, Obj.mk (Value.type "tuple") none (Data.seq #[]) #[]) ::
  (nat_lit 514, Obj.mk (Value.type "code") none (Data.fields #[Value.str (Str.ofString "__init__") 907, Value.str (Str.ofString "NumberNode.__init__") 908, Value.str (Str.ofString "/claim/cut.py") 909, Value.int 333 0, Value.int 2 0, Value.int 0 0, Value.int 0 0, Value.int 3 0, Value.ref 509, Value.bool true, Value.int 181 0, Value.ref 510, Value.none, Value.ref 511, Value.ref 512, Value.ref 513, Value.int 912 0, Value.int 333 0, Value.str (Str.ofString "/claim/cut.py") 913]) #[]) ::
  (nat_lit 515, Obj.mk (Value.type "function") none (Data.func (FuncData.mk (Str.ofString "__init__") (Str.ofString "NumberNode.__init__") x165 (FuncBody.stmts x166) x167 3 [] Value.none Value.none Value.none (Value.str (Str.ofString "markupmill.xpath_nodes") 887) none (Value.ref 514) Value.none 0)) #[]) ::
  (nat_lit 516, Obj.mk (Value.type "tuple") none (Data.seq #[]) #[]) ::
  (nat_lit 518, Obj.mk (Value.type "tuple") none (Data.seq #[Value.str (Str.ofString "self") 918]) #[]) ::
  (nat_lit 519, Obj.mk (Value.type "tuple") none (Data.seq #[]) #[]) ::
  (nat_lit 521, Obj.mk (Value.type "code") none (Data.fields #[Value.str (Str.ofString "row") 915, Value.str (Str.ofString "NumberNode.row") 916, Value.str (Str.ofString "/claim/cut.py") 917, Value.int 336 0, Value.int 1 0, Value.int 0 0, Value.int 0 0, Value.int 3 0, Value.ref 516, Value.bool true, Value.int 181 0, Value.ref 517, Value.none, Value.ref 518, Value.ref 519, Value.ref 520, Value.int 919 0, Value.int 336 0, Value.str (Str.ofString "/claim/cut.py") 920]) #[]) ::
  (nat_lit 522, Obj.mk (Value.type "function") none (Data.func (FuncData.mk (Str.ofString "row") (Str.ofString "NumberNode.row") x168 (FuncBody.stmts x169) x170 3 [] Value.none Value.none Value.none (Value.str (Str.ofString "markupmill.xpath_nodes") 887) none (Value.ref 521) Value.none 0)) #[]) ::
  (nat_lit 523, Obj.mk (Value.type "tuple") none (Data.seq #[Value.str (Str.ofString "value") 922]) #[]) ::
  (nat_lit 524, Obj.mk (Value.type "dict") none (Data.dict #[DictEntry.mk (PyData.keyHash P (Str.ofString "__module__")) (Value.str (Str.ofString "__module__") 902) (Value.str (Str.ofString "markupmill.xpath_nodes") 887), DictEntry.mk (PyData.keyHash P (Str.ofString "__firstlineno__")) (Value.str (Str.ofString "__firstlineno__") 906) (Value.int 331 905), DictEntry.mk (PyData.keyHash P (Str.ofString "__init__")) (Value.str (Str.ofString "__init__") 914) (Value.ref 515), DictEntry.mk (PyData.keyHash P (Str.ofString "row")) (Value.str (Str.ofString "row") 921) (Value.ref 522), DictEntry.mk (PyData.keyHash P (Str.ofString "__static_attributes__")) (Value.str (Str.ofString "__static_attributes__") 923) (Value.ref 523), DictEntry.mk (PyData.keyHash P (Str.ofString "__dict__")) (Value.str (Str.ofString "__dict__") 925) (Value.ref 526), DictEntry.mk (PyData.keyHash P (Str.ofString "__weakref__")) (Value.str (Str.ofString "__weakref__") 927) (Value.ref 527), DictEntry.mk (PyData.keyHash P (Str.ofString "__doc__")) (Value.str (Str.ofString "__doc__") 928) Value.none] 4) #[]) ::
  (nat_lit 525, Obj.mk (Value.type "type") none (Data.cls (ClassData.mk (Str.ofString "NumberNode") [Value.type "object"] [Value.ref 525, Value.type "object"] 524 (Str.ofString "NumberNode") true [] [] false none false)) #[none, none, some (Value.str (Str.ofString "NumberNode") 895), some (Value.str (Str.ofString "NumberNode") 903), some (Value.builtin "object.__new__"), some (Value.bool true)]) ::
  (nat_lit 526, Obj.mk (Value.type "getset_descriptor") none (Data.fields #[Value.str (Str.ofString "__dict__") 924, Value.ref 525, Value.builtin "function.__dict__", Value.builtin "function.__dict__#set"]) #[]) ::
  (nat_lit 527, Obj.mk (Value.type "getset_descriptor") none (Data.fields #[Value.str (Str.ofString "__weakref__") 926, Value.ref 525, Value.builtin "ExceptionGroup.__weakref__", Value.none]) #[]) ::
  (nat_lit 537, Obj.mk (Value.type "tuple") none (Data.seq #[]) #[]) ::
  (nat_lit 539, Obj.mk (Value.type "tuple") none (Data.seq #[Value.str (Str.ofString "self") 946, Value.str (Str.ofString "axis") 947, Value.str (Str.ofString "test") 948, Value.str (Str.ofString "predicates") 949]) #[]) ::
  (nat_lit 540, Obj.mk (Value.type "tuple") none (Data.seq #[]) #[]) ::
  (nat_lit 542, Obj.mk (Value.type "code") none (Data.fields #[Value.str (Str.ofString "__init__") 943, Value.str (Str.ofString "Step.__init__") 944, Value.str (Str.ofString "/claim/cut.py") 945, Value.int 340 0, Value.int 4 0, Value.int 0 0, Value.int 0 0, Value.int 3 0, Value.ref 537, Value.bool true, Value.int 181 0, Value.ref 538, Value.none, Value.ref 539, Value.ref 540, Value.ref 541, Value.int 950 0, Value.int 340 0, Value.str (Str.ofString "/claim/cut.py") 951]) #[]) ::
  (nat_lit 543, Obj.mk (Value.type "function") none (Data.func (FuncData.mk (Str.ofString "__init__") (Str.ofString "Step.__init__") x171 (FuncBody.stmts x172) x173 3 [] Value.none Value.none Value.none (Value.str (Str.ofString "markupmill.xpath_nodes") 887) none (Value.ref 542) Value.none 0)) #[]) ::
  (nat_lit 544, Obj.mk (Value.type "tuple") none (Data.seq #[]) #[]) ::
  (nat_lit 546, Obj.mk (Value.type "tuple") none (Data.seq #[Value.str (Str.ofString "self") 956]) #[]) ::
  (nat_lit 547, Obj.mk (Value.type "tuple") none (Data.seq #[]) #[]) ::
  (nat_lit 549, Obj.mk (Value.type "code") none (Data.fields #[Value.str (Str.ofString "row") 953, Value.str (Str.ofString "Step.row") 954, Value.str (Str.ofString "/claim/cut.py") 955, Value.int 345 0, Value.int 1 0, Value.int 0 0, Value.int 0 0, Value.int 3 0, Value.ref 544, Value.bool true, Value.int 181 0, Value.ref 545, Value.none, Value.ref 546, Value.ref 547, Value.ref 548, Value.int 957 0, Value.int 345 0, Value.str (Str.ofString "/claim/cut.py") 958]) #[]) ::
  (nat_lit 550, Obj.mk (Value.type "function") none (Data.func (FuncData.mk (Str.ofString "row") (Str.ofString "Step.row") x174 (FuncBody.stmts x175) x176 3 [] Value.none Value.none Value.none (Value.str (Str.ofString "markupmill.xpath_nodes") 887) none (Value.ref 549) Value.none 0)) #[]) ::
  (nat_lit 551, Obj.mk (Value.type "tuple") none (Data.seq #[Value.str (Str.ofString "axis") 960, Value.str (Str.ofString "predicates") 961, Value.str (Str.ofString "test") 962]) #[]) ::
  (nat_lit 552, Obj.mk (Value.type "dict") none (Data.dict #[DictEntry.mk (PyData.keyHash P (Str.ofString "__module__")) (Value.str (Str.ofString "__module__") 938) (Value.str (Str.ofString "markupmill.xpath_nodes") 887), DictEntry.mk (PyData.keyHash P (Str.ofString "__firstlineno__")) (Value.str (Str.ofString "__firstlineno__") 942) (Value.int 338 941), DictEntry.mk (PyData.keyHash P (Str.ofString "__init__")) (Value.str (Str.ofString "__init__") 952) (Value.ref 543), DictEntry.mk (PyData.keyHash P (Str.ofString "row")) (Value.str (Str.ofString "row") 959) (Value.ref 550), DictEntry.mk (PyData.keyHash P (Str.ofString "__static_attributes__")) (Value.str (Str.ofString "__static_attributes__") 963) (Value.ref 551), DictEntry.mk (PyData.keyHash P (Str.ofString "__dict__")) (Value.str (Str.ofString "__dict__") 965) (Value.ref 554), DictEntry.mk (PyData.keyHash P (Str.ofString "__weakref__")) (Value.str (Str.ofString "__weakref__") 967) (Value.ref 555), DictEntry.mk (PyData.keyHash P (Str.ofString "__doc__")) (Value.str (Str.ofString "__doc__") 968) Value.none] 4) #[]) ::
  (nat_lit 553, Obj.mk (Value.type "type") none (Data.cls (ClassData.mk (Str.ofString "Step") [Value.type "object"] [Value.ref 553, Value.type "object"] 552 (Str.ofString "Step") true [] [] false none false)) #[none, none, some (Value.str (Str.ofString "Step") 931), some (Value.str (Str.ofString "Step") 939), some (Value.builtin "object.__new__"), some (Value.bool true)]) ::
  (nat_lit 554, Obj.mk (Value.type "getset_descriptor") none (Data.fields #[Value.str (Str.ofString "__dict__") 964, Value.ref 553, Value.builtin "function.__dict__", Value.builtin "function.__dict__#set"]) #[]) ::
  (nat_lit 555, Obj.mk (Value.type "getset_descriptor") none (Data.fields #[Value.str (Str.ofString "__weakref__") 966, Value.ref 553, Value.builtin "ExceptionGroup.__weakref__", Value.none]) #[]) ::
  (nat_lit 558, Obj.mk (Value.type "tuple") none (Data.seq #[]) #[]) ::
  (nat_lit 560, Obj.mk (Value.type "tuple") none (Data.seq #[Value.str (Str.ofString "script") 976, Value.str (Str.ofString "k") 977, Value.str (Str.ofString "cell") 978, Value.str (Str.ofString "big") 979, Value.str (Str.ofString "mixed") 980]) #[]) ::
  (nat_lit 561, Obj.mk (Value.type "tuple") none (Data.seq #[]) #[]) ::
  (nat_lit 563, Obj.mk (Value.type "code") none (Data.fields #[Value.str (Str.ofString "_law_pool") 973, Value.str (Str.ofString "_law_pool") 974, Value.str (Str.ofString "/claim/cut.py") 975, Value.int 348 0, Value.int 2 0, Value.int 0 0, Value.int 0 0, Value.int 3 0, Value.ref 558, Value.bool true, Value.int 181 0, Value.ref 559, Value.none, Value.ref 560, Value.ref 561, Value.ref 562, Value.int 981 0, Value.int 348 0, Value.str (Str.ofString "/claim/cut.py") 982]) #[]) ::
  (nat_lit 564, Obj.mk (Value.type "function") none (Data.func (FuncData.mk (Str.ofString "_law_pool") (Str.ofString "_law_pool") x177 (FuncBody.stmts x178) x179 3 [] Value.none Value.none Value.none (Value.str (Str.ofString "law_nu0072_01") 971) none (Value.ref 563) Value.none 0)) #[]) ::
  (nat_lit 565, Obj.mk (Value.type "tuple") none (Data.seq #[]) #[]) ::
  (nat_lit 567, Obj.mk (Value.type "tuple") none (Data.seq #[Value.str (Str.ofString "source") 987, Value.str (Str.ofString "top") 988, Value.str (Str.ofString "drawn") 989]) #[]) ::
  (nat_lit 568, Obj.mk (Value.type "tuple") none (Data.seq #[]) #[]) ::
  (nat_lit 570, Obj.mk (Value.type "code") none (Data.fields #[Value.str (Str.ofString "_law_take") 984, Value.str (Str.ofString "_law_take") 985, Value.str (Str.ofString "/claim/cut.py") 986, Value.int 355 0, Value.int 2 0, Value.int 0 0, Value.int 0 0, Value.int 3 0, Value.ref 565, Value.bool true, Value.int 181 0, Value.ref 566, Value.none, Value.ref 567, Value.ref 568, Value.ref 569, Value.int 990 0, Value.int 355 0, Value.str (Str.ofString "/claim/cut.py") 991]) #[]) ::
  (nat_lit 571, Obj.mk (Value.type "function") none (Data.func (FuncData.mk (Str.ofString "_law_take") (Str.ofString "_law_take") x180 (FuncBody.stmts x181) x182 3 [] Value.none Value.none Value.none (Value.str (Str.ofString "law_nu0072_01") 971) none (Value.ref 570) Value.none 0)) #[]) ::
  (nat_lit 572, Obj.mk (Value.type "tuple") none (Data.seq #[]) #[]) ::
  (nat_lit 574, Obj.mk (Value.type "tuple") none (Data.seq #[Value.str (Str.ofString "source") 996, Value.str (Str.ofString "things") 997]) #[]) ::
  (nat_lit 575, Obj.mk (Value.type "tuple") none (Data.seq #[]) #[]) ::
  (nat_lit 577, Obj.mk (Value.type "code") none (Data.fields #[Value.str (Str.ofString "_law_one") 993, Value.str (Str.ofString "_law_one") 994, Value.str (Str.ofString "/claim/cut.py") 995, Value.int 362 0, Value.int 2 0, Value.int 0 0, Value.int 0 0, Value.int 3 0, Value.ref 572, Value.bool true, Value.int 181 0, Value.ref 573, Value.none, Value.ref 574, Value.ref 575, Value.ref 576, Value.int 998 0, Value.int 362 0, Value.str (Str.ofString "/claim/cut.py") 999]) #[]) ::
  (nat_lit 578, Obj.mk (Value.type "function") none (Data.func (FuncData.mk (Str.ofString "_law_one") (Str.ofString "_law_one") x183 (FuncBody.stmts x184) x185 3 [] Value.none Value.none Value.none (Value.str (Str.ofString "law_nu0072_01") 971) none (Value.ref 577) Value.none 0)) #[]) ::
  (nat_lit 579, Obj.mk (Value.type "tuple") none (Data.seq #[]) #[]) ::
  (nat_lit 581, Obj.mk (Value.type "tuple") none (Data.seq #[Value.str (Str.ofString "source") 1004, Value.str (Str.ofString "tree") 1005, Value.str (Str.ofString "root") 1006, Value.str (Str.ofString "parents") 1007, Value.str (Str.ofString "nodes") 1008, Value.str (Str.ofString "turn") 1009, Value.str (Str.ofString "parent") 1010, Value.str (Str.ofString "word") 1011, Value.str (Str.ofString "node") 1012, Value.str (Str.ofString "name") 1013]) #[]) ::
  (nat_lit 582, Obj.mk (Value.type "tuple") none (Data.seq #[]) #[]) ::
  (nat_lit 584, Obj.mk (Value.type "code") none (Data.fields #[Value.str (Str.ofString "_law_document") 1001, Value.str (Str.ofString "_law_document") 1002, Value.str (Str.ofString "/claim/cut.py") 1003, Value.int 364 0, Value.int 1 0, Value.int 0 0, Value.int 0 0, Value.int 3 0, Value.ref 579, Value.bool true, Value.int 181 0, Value.ref 580, Value.none, Value.ref 581, Value.ref 582, Value.ref 583, Value.int 1014 0, Value.int 364 0, Value.str (Str.ofString "/claim/cut.py") 1015]) #[]) ::
  (nat_lit 585, Obj.mk (Value.type "function") none (Data.func (FuncData.mk (Str.ofString "_law_document") (Str.ofString "_law_document") x186 (FuncBody.stmts x187) x188 3 [] Value.none Value.none Value.none (Value.str (Str.ofString "law_nu0072_01") 971) none (Value.ref 584) Value.none 0)) #[]) ::
  (nat_lit 586, Obj.mk (Value.type "tuple") none (Data.seq #[]) #[]) ::
  (nat_lit 588, Obj.mk (Value.type "tuple") none (Data.seq #[Value.str (Str.ofString "source") 1020, Value.str (Str.ofString "is_last") 1021, Value.str (Str.ofString "is_attribute") 1022, Value.str (Str.ofString "test") 1023, Value.str (Str.ofString "position") 1024]) #[]) ::
  (nat_lit 589, Obj.mk (Value.type "tuple") none (Data.seq #[]) #[]) ::
  (nat_lit 591, Obj.mk (Value.type "code") none (Data.fields #[Value.str (Str.ofString "_law_part") 1017, Value.str (Str.ofString "_law_part") 1018, Value.str (Str.ofString "/claim/cut.py") 1019, Value.int 383 0, Value.int 2 0, Value.int 0 0, Value.int 0 0, Value.int 3 0, Value.ref 586, Value.bool true, Value.int 181 0, Value.ref 587, Value.none, Value.ref 588, Value.ref 589, Value.ref 590, Value.int 1025 0, Value.int 383 0, Value.str (Str.ofString "/claim/cut.py") 1026]) #[]) ::
  (nat_lit 592, Obj.mk (Value.type "function") none (Data.func (FuncData.mk (Str.ofString "_law_part") (Str.ofString "_law_part") x189 (FuncBody.stmts x190) x191 3 [] Value.none Value.none Value.none (Value.str (Str.ofString "law_nu0072_01") 971) none (Value.ref 591) Value.none 0)) #[]) ::
  (nat_lit 593, Obj.mk (Value.type "tuple") none (Data.seq #[]) #[]) ::
  (nat_lit 595, Obj.mk (Value.type "tuple") none (Data.seq #[Value.str (Str.ofString "told") 1031, Value.str (Str.ofString "is_rooted") 1032, Value.str (Str.ofString "rows") 1033, Value.str (Str.ofString "parts") 1034, Value.str (Str.ofString "is_attribute") 1035, Value.str (Str.ofString "test") 1036, Value.str (Str.ofString "position") 1037, Value.str (Str.ofString "is_deep") 1038, Value.str (Str.ofString "predicates") 1039]) #[]) ::
  (nat_lit 596, Obj.mk (Value.type "tuple") none (Data.seq #[]) #[]) ::
  (nat_lit 598, Obj.mk (Value.type "code") none (Data.fields #[Value.str (Str.ofString "_law_pattern") 1028, Value.str (Str.ofString "_law_pattern") 1029, Value.str (Str.ofString "/claim/cut.py") 1030, Value.int 390 0, Value.int 1 0, Value.int 0 0, Value.int 0 0, Value.int 3 0, Value.ref 593, Value.bool true, Value.int 181 0, Value.ref 594, Value.none, Value.ref 595, Value.ref 596, Value.ref 597, Value.int 1040 0, Value.int 390 0, Value.str (Str.ofString "/claim/cut.py") 1041]) #[]) ::
  (nat_lit 599, Obj.mk (Value.type "function") none (Data.func (FuncData.mk (Str.ofString "_law_pattern") (Str.ofString "_law_pattern") x192 (FuncBody.stmts x193) x194 3 [] Value.none Value.none Value.none (Value.str (Str.ofString "law_nu0072_01") 971) none (Value.ref 598) Value.none 0)) #[]) ::
  (nat_lit 600, Obj.mk (Value.type "tuple") none (Data.seq #[]) #[]) ::
  (nat_lit 602, Obj.mk (Value.type "tuple") none (Data.seq #[Value.str (Str.ofString "tree") 1046, Value.str (Str.ofString "node") 1047, Value.str (Str.ofString "test") 1048, Value.str (Str.ofString "is_attribute") 1049, Value.str (Str.ofString "kind") 1050]) #[]) ::
  (nat_lit 603, Obj.mk (Value.type "tuple") none (Data.seq #[]) #[]) ::
  (nat_lit 605, Obj.mk (Value.type "code") none (Data.fields #[Value.str (Str.ofString "_law_passes") 1043, Value.str (Str.ofString "_law_passes") 1044, Value.str (Str.ofString "/claim/cut.py") 1045, Value.int 397 0, Value.int 4 0, Value.int 0 0, Value.int 0 0, Value.int 3 0, Value.ref 600, Value.bool true, Value.int 181 0, Value.ref 601, Value.none, Value.ref 602, Value.ref 603, Value.ref 604, Value.int 1051 0, Value.int 397 0, Value.str (Str.ofString "/claim/cut.py") 1052]) #[]) ::
  (nat_lit 606, Obj.mk (Value.type "function") none (Data.func (FuncData.mk (Str.ofString "_law_passes") (Str.ofString "_law_passes") x195 (FuncBody.stmts x196) x197 3 [] Value.none Value.none Value.none (Value.str (Str.ofString "law_nu0072_01") 971) none (Value.ref 605) Value.none 0)) #[]) ::
  (nat_lit 607, Obj.mk (Value.type "tuple") none (Data.seq #[]) #[]) ::
  (nat_lit 610, Obj.mk (Value.type "code") none (Data.fields #[Value.str (Str.ofString "_law_beneath") 1054, Value.str (Str.ofString "_law_beneath") 1055, Value.str (Str.ofString "/claim/cut.py") 1056, Value.int 406 0, Value.int 2 0, Value.int 0 0, Value.int 0 0, Value.int 3 0, Value.ref 607, Value.bool true, Value.int 181 0, Value.ref 608, Value.none, Value.none, Value.none, Value.ref 609, Value.int 1057 0, Value.int 406 0, Value.str (Str.ofString "/claim/cut.py") 1058]) #[]) ::
  (nat_lit 611, Obj.mk (Value.type "function") none (Data.func (FuncData.mk (Str.ofString "_law_beneath") (Str.ofString "_law_beneath") x198 (FuncBody.stmts x199) x200 3 [] Value.none Value.none Value.none (Value.str (Str.ofString "law_nu0072_01") 971) none (Value.ref 610) Value.none 0)) #[]) ::
  (nat_lit 612, Obj.mk (Value.type "tuple") none (Data.seq #[]) #[]) ::
  (nat_lit 615, Obj.mk (Value.type "code") none (Data.fields #[Value.str (Str.ofString "_law_once") 1060, Value.str (Str.ofString "_law_once") 1061, Value.str (Str.ofString "/claim/cut.py") 1062, Value.int 411 0, Value.int 1 0, Value.int 0 0, Value.int 0 0, Value.int 3 0, Value.ref 612, Value.bool true, Value.int 181 0, Value.ref 613, Value.none, Value.none, Value.none, Value.ref 614, Value.int 1063 0, Value.int 411 0, Value.str (Str.ofString "/claim/cut.py") 1064]) #[]) ::
  (nat_lit 616, Obj.mk (Value.type "function") none (Data.func (FuncData.mk (Str.ofString "_law_once") (Str.ofString "_law_once") x201 (FuncBody.stmts x202) x203 3 [] Value.none Value.none Value.none (Value.str (Str.ofString "law_nu0072_01") 971) none (Value.ref 615) Value.none 0)) #[]) ::
  (nat_lit 617, Obj.mk (Value.type "tuple") none (Data.seq #[]) #[]) ::
  (nat_lit 620, Obj.mk (Value.type "code") none (Data.fields #[Value.str (Str.ofString "_law_walked") 1066, Value.str (Str.ofString "_law_walked") 1067, Value.str (Str.ofString "/claim/cut.py") 1068, Value.int 413 0, Value.int 3 0, Value.int 0 0, Value.int 0 0, Value.int 3 0, Value.ref 617, Value.bool true, Value.int 181 0, Value.ref 618, Value.none, Value.none, Value.none, Value.ref 619, Value.int 1069 0, Value.int 413 0, Value.str (Str.ofString "/claim/cut.py") 1070]) #[]) ::
  (nat_lit 621, Obj.mk (Value.type "function") none (Data.func (FuncData.mk (Str.ofString "_law_walked") (Str.ofString "_law_walked") x204 (FuncBody.stmts x205) x206 3 [] Value.none Value.none Value.none (Value.str (Str.ofString "law_nu0072_01") 971) none (Value.ref 620) Value.none 0)) #[]) ::
  (nat_lit 622, Obj.mk (Value.type "tuple") none (Data.seq #[]) #[]) ::
  (nat_lit 625, Obj.mk (Value.type "code") none (Data.fields #[Value.str (Str.ofString "_law_due") 1072, Value.str (Str.ofString "_law_due") 1073, Value.str (Str.ofString "/claim/cut.py") 1074, Value.int 428 0, Value.int 4 0, Value.int 0 0, Value.int 0 0, Value.int 3 0, Value.ref 622, Value.bool true, Value.int 181 0, Value.ref 623, Value.none, Value.none, Value.none, Value.ref 624, Value.int 1075 0, Value.int 428 0, Value.str (Str.ofString "/claim/cut.py") 1076]) #[]) ::
  (nat_lit 626, Obj.mk (Value.type "function") none (Data.func (FuncData.mk (Str.ofString "_law_due") (Str.ofString "_law_due") x207 (FuncBody.stmts x208) x209 3 [] Value.none Value.none Value.none (Value.str (Str.ofString "law_nu0072_01") 971) none (Value.ref 625) Value.none 0)) #[]) ::
  (nat_lit 627, Obj.mk (Value.type "tuple") none (Data.seq #[]) #[]) ::
  (nat_lit 629, Obj.mk (Value.type "tuple") none (Data.seq #[Value.str (Str.ofString "expr") 1081, Value.str (Str.ofString "node") 1082, Value.str (Str.ofString "position") 1083, Value.str (Str.ofString "size") 1084]) #[]) ::
  (nat_lit 630, Obj.mk (Value.type "tuple") none (Data.seq #[]) #[]) ::
  (nat_lit 632, Obj.mk (Value.type "code") none (Data.fields #[Value.str (Str.ofString "_law_value") 1078, Value.str (Str.ofString "_law_value") 1079, Value.str (Str.ofString "/claim/cut.py") 1080, Value.int 432 0, Value.int 4 0, Value.int 0 0, Value.int 0 0, Value.int 3 0, Value.ref 627, Value.bool true, Value.int 181 0, Value.ref 628, Value.none, Value.ref 629, Value.ref 630, Value.ref 631, Value.int 1085 0, Value.int 432 0, Value.str (Str.ofString "/claim/cut.py") 1086]) #[]) ::
  (nat_lit 633, Obj.mk (Value.type "function") none (Data.func (FuncData.mk (Str.ofString "_law_value") (Str.ofString "_law_value") x210 (FuncBody.stmts x211) x212 3 [] Value.none Value.none Value.none (Value.str (Str.ofString "law_nu0072_01") 971) none (Value.ref 632) Value.none 0)) #[]) ::
  (nat_lit 634, Obj.mk (Value.type "tuple") none (Data.seq #[]) #[]) ::
  (nat_lit 637, Obj.mk (Value.type "code") none (Data.fields #[Value.str (Str.ofString "law") 1088, Value.str (Str.ofString "law") 1089, Value.str (Str.ofString "/claim/cut.py") 1090, Value.int 434 0, Value.int 1 0, Value.int 0 0, Value.int 0 0, Value.int 3 0, Value.ref 634, Value.bool true, Value.int 181 0, Value.ref 635, Value.none, Value.none, Value.none, Value.ref 636, Value.int 1091 0, Value.int 434 0, Value.str (Str.ofString "/claim/cut.py") 1092]) #[]) ::
  (nat_lit 638, Obj.mk (Value.type "function") none (Data.func (FuncData.mk (Str.ofString "law") (Str.ofString "law") x213 (FuncBody.stmts x214) x215 3 [] Value.none Value.none Value.none (Value.str (Str.ofString "law_nu0072_01") 971) none (Value.ref 637) Value.none 0)) #[]) :: []
noncomputable def A39 : List Addr := [2, 3, 15, 17, 18, 20, 21, 22, 29, 31, 32, 34, 35, 36, 37, 38, 39, 42, 49, 50, 51, 54, 61, 62, 63, 66, 68, 69, 71, 72, 73, 75, 76, 78, 79, 80, 82, 83, 85, 86, 87, 89, 90, 92, 93, 94, 96, 97, 99, 100, 101, 103, 104, 106, 107, 108, 110, 111, 113, 114, 115, 117, 118, 120, 121, 122, 124, 125, 127, 128, 129, 131, 132, 134, 135, 136, 138, 139, 141, 142, 143, 145, 146, 148, 149, 150, 153, 154, 155, 157, 158, 160, 161, 162, 164, 165, 167, 168, 169, 171, 172, 174, 175, 176, 178, 179, 181, 182, 183, 186, 187, 195, 197, 198, 200, 201, 202, 203, 204, 205, 206, 216, 218, 219, 221, 222, 223, 224, 225, 226, 227, 237, 239, 240, 242, 243, 244, 245, 246, 247, 248, 251, 253, 254, 256, 257, 258, 260, 261, 263, 264, 265, 267, 268, 270, 271, 272, 274, 275, 277, 278, 279, 281, 282, 284, 285, 286, 294, 296, 297, 299, 300, 301, 302, 303, 304, 305, 315, 317, 318, 320, 321, 322, 324, 325, 327, 328, 329, 331, 332, 334, 335, 336, 338, 339, 341, 342, 343, 345, 346, 348, 349, 350, 352, 353, 355, 356, 357, 359, 360, 362, 363, 364, 366, 367, 369, 370, 371, 373, 374, 376, 377, 378, 380, 381, 383, 384, 385, 387, 388, 390, 391, 392, 394, 395, 397, 398, 399, 401, 402, 404, 405, 406, 408, 409, 411, 412, 413, 415, 416, 418, 419, 420, 422, 423, 425, 426, 427, 429, 430, 432, 433, 434, 436, 437, 439, 440, 441, 443, 444, 446, 447, 448, 450, 451, 453, 454, 455, 457, 458, 460, 461, 462, 464, 465, 467, 468, 469, 471, 472, 474, 475, 476, 478, 479, 481, 482, 483, 485, 486, 488, 489, 490, 491, 492, 493, 494, 497, 500, 501, 509, 511, 512, 514, 515, 516, 518, 519, 521, 522, 523, 524, 525, 526, 527, 537, 539, 540, 542, 543, 544, 546, 547, 549, 550, 551, 552, 553, 554, 555, 558, 560, 561, 563, 564, 565, 567, 568, 570, 571, 572, 574, 575, 577, 578, 579, 581, 582, 584, 585, 586, 588, 589, 591, 592, 593, 595, 596, 598, 599, 600, 602, 603, 605, 606, 607, 610, 611, 612, 615, 616, 617, 620, 621, 622, 625, 626, 627, 629, 630, 632, 633, 634, 637, 638]
open PySem.Calls
section
noncomputable abbrev Led := List (Addr × Obj)
inductive X2 {a0 : Type} {a1 : Type} (P : a0 → a1 → Prop) : Prop | mk : ∀ (x0 : a0) (x1 : a1), P x0 x1 → X2 P
inductive X3 {a0 : Type} {a1 : Type} {a2 : Type} (P : a0 → a1 → a2 → Prop) : Prop | mk : ∀ (x0 : a0) (x1 : a1) (x2 : a2), P x0 x1 x2 → X3 P
inductive X4 {a0 : Type} {a1 : Type} {a2 : Type} {a3 : Type} (P : a0 → a1 → a2 → a3 → Prop) : Prop | mk : ∀ (x0 : a0) (x1 : a1) (x2 : a2) (x3 : a3), P x0 x1 x2 x3 → X4 P
inductive X5 {a0 : Type} {a1 : Type} {a2 : Type} {a3 : Type} {a4 : Type} (P : a0 → a1 → a2 → a3 → a4 → Prop) : Prop | mk : ∀ (x0 : a0) (x1 : a1) (x2 : a2) (x3 : a3) (x4 : a4), P x0 x1 x2 x3 x4 → X5 P
inductive X6 {a0 : Type} {a1 : Type} {a2 : Type} {a3 : Type} {a4 : Type} {a5 : Type} (P : a0 → a1 → a2 → a3 → a4 → a5 → Prop) : Prop | mk : ∀ (x0 : a0) (x1 : a1) (x2 : a2) (x3 : a3) (x4 : a4) (x5 : a5), P x0 x1 x2 x3 x4 x5 → X6 P
inductive X7 {a0 : Type} {a1 : Type} {a2 : Type} {a3 : Type} {a4 : Type} {a5 : Type} {a6 : Type} (P : a0 → a1 → a2 → a3 → a4 → a5 → a6 → Prop) : Prop | mk : ∀ (x0 : a0) (x1 : a1) (x2 : a2) (x3 : a3) (x4 : a4) (x5 : a5) (x6 : a6), P x0 x1 x2 x3 x4 x5 x6 → X7 P
inductive X8 {a0 : Type} {a1 : Type} {a2 : Type} {a3 : Type} {a4 : Type} {a5 : Type} {a6 : Type} {a7 : Type} (P : a0 → a1 → a2 → a3 → a4 → a5 → a6 → a7 → Prop) : Prop | mk : ∀ (x0 : a0) (x1 : a1) (x2 : a2) (x3 : a3) (x4 : a4) (x5 : a5) (x6 : a6) (x7 : a7), P x0 x1 x2 x3 x4 x5 x6 x7 → X8 P
inductive X9 {a0 : Type} {a1 : Type} {a2 : Type} {a3 : Type} {a4 : Type} {a5 : Type} {a6 : Type} {a7 : Type} {a8 : Type} (P : a0 → a1 → a2 → a3 → a4 → a5 → a6 → a7 → a8 → Prop) : Prop | mk : ∀ (x0 : a0) (x1 : a1) (x2 : a2) (x3 : a3) (x4 : a4) (x5 : a5) (x6 : a6) (x7 : a7) (x8 : a8), P x0 x1 x2 x3 x4 x5 x6 x7 x8 → X9 P
inductive X10 {a0 : Type} {a1 : Type} {a2 : Type} {a3 : Type} {a4 : Type} {a5 : Type} {a6 : Type} {a7 : Type} {a8 : Type} {a9 : Type} (P : a0 → a1 → a2 → a3 → a4 → a5 → a6 → a7 → a8 → a9 → Prop) : Prop | mk : ∀ (x0 : a0) (x1 : a1) (x2 : a2) (x3 : a3) (x4 : a4) (x5 : a5) (x6 : a6) (x7 : a7) (x8 : a8) (x9 : a9), P x0 x1 x2 x3 x4 x5 x6 x7 x8 x9 → X10 P
inductive X11 {a0 : Type} {a1 : Type} {a2 : Type} {a3 : Type} {a4 : Type} {a5 : Type} {a6 : Type} {a7 : Type} {a8 : Type} {a9 : Type} {a10 : Type} (P : a0 → a1 → a2 → a3 → a4 → a5 → a6 → a7 → a8 → a9 → a10 → Prop) : Prop | mk : ∀ (x0 : a0) (x1 : a1) (x2 : a2) (x3 : a3) (x4 : a4) (x5 : a5) (x6 : a6) (x7 : a7) (x8 : a8) (x9 : a9) (x10 : a10), P x0 x1 x2 x3 x4 x5 x6 x7 x8 x9 x10 → X11 P
inductive X12 {a0 : Type} {a1 : Type} {a2 : Type} {a3 : Type} {a4 : Type} {a5 : Type} {a6 : Type} {a7 : Type} {a8 : Type} {a9 : Type} {a10 : Type} {a11 : Type} (P : a0 → a1 → a2 → a3 → a4 → a5 → a6 → a7 → a8 → a9 → a10 → a11 → Prop) : Prop | mk : ∀ (x0 : a0) (x1 : a1) (x2 : a2) (x3 : a3) (x4 : a4) (x5 : a5) (x6 : a6) (x7 : a7) (x8 : a8) (x9 : a9) (x10 : a10) (x11 : a11), P x0 x1 x2 x3 x4 x5 x6 x7 x8 x9 x10 x11 → X12 P
inductive T3 (p0 p1 p2 : Prop) : Prop | mk : p0 → p1 → p2 → T3 p0 p1 p2
inductive T4 (p0 p1 p2 p3 : Prop) : Prop | mk : p0 → p1 → p2 → p3 → T4 p0 p1 p2 p3
inductive T5 (p0 p1 p2 p3 p4 : Prop) : Prop | mk : p0 → p1 → p2 → p3 → p4 → T5 p0 p1 p2 p3 p4
inductive T6 (p0 p1 p2 p3 p4 p5 : Prop) : Prop | mk : p0 → p1 → p2 → p3 → p4 → p5 → T6 p0 p1 p2 p3 p4 p5
inductive T7 (p0 p1 p2 p3 p4 p5 p6 : Prop) : Prop | mk : p0 → p1 → p2 → p3 → p4 → p5 → p6 → T7 p0 p1 p2 p3 p4 p5 p6
inductive T8 (p0 p1 p2 p3 p4 p5 p6 p7 : Prop) : Prop | mk : p0 → p1 → p2 → p3 → p4 → p5 → p6 → p7 → T8 p0 p1 p2 p3 p4 p5 p6 p7
inductive T9 (p0 p1 p2 p3 p4 p5 p6 p7 p8 : Prop) : Prop | mk : p0 → p1 → p2 → p3 → p4 → p5 → p6 → p7 → p8 → T9 p0 p1 p2 p3 p4 p5 p6 p7 p8
inductive T10 (p0 p1 p2 p3 p4 p5 p6 p7 p8 p9 : Prop) : Prop | mk : p0 → p1 → p2 → p3 → p4 → p5 → p6 → p7 → p8 → p9 → T10 p0 p1 p2 p3 p4 p5 p6 p7 p8 p9
inductive T11 (p0 p1 p2 p3 p4 p5 p6 p7 p8 p9 p10 : Prop) : Prop | mk : p0 → p1 → p2 → p3 → p4 → p5 → p6 → p7 → p8 → p9 → p10 → T11 p0 p1 p2 p3 p4 p5 p6 p7 p8 p9 p10
inductive T12 (p0 p1 p2 p3 p4 p5 p6 p7 p8 p9 p10 p11 : Prop) : Prop | mk : p0 → p1 → p2 → p3 → p4 → p5 → p6 → p7 → p8 → p9 → p10 → p11 → T12 p0 p1 p2 p3 p4 p5 p6 p7 p8 p9 p10 p11
inductive T13 (p0 p1 p2 p3 p4 p5 p6 p7 p8 p9 p10 p11 p12 : Prop) : Prop | mk : p0 → p1 → p2 → p3 → p4 → p5 → p6 → p7 → p8 → p9 → p10 → p11 → p12 → T13 p0 p1 p2 p3 p4 p5 p6 p7 p8 p9 p10 p11 p12
inductive T14 (p0 p1 p2 p3 p4 p5 p6 p7 p8 p9 p10 p11 p12 p13 : Prop) : Prop | mk : p0 → p1 → p2 → p3 → p4 → p5 → p6 → p7 → p8 → p9 → p10 → p11 → p12 → p13 → T14 p0 p1 p2 p3 p4 p5 p6 p7 p8 p9 p10 p11 p12 p13
inductive T15 (p0 p1 p2 p3 p4 p5 p6 p7 p8 p9 p10 p11 p12 p13 p14 : Prop) : Prop | mk : p0 → p1 → p2 → p3 → p4 → p5 → p6 → p7 → p8 → p9 → p10 → p11 → p12 → p13 → p14 → T15 p0 p1 p2 p3 p4 p5 p6 p7 p8 p9 p10 p11 p12 p13 p14
inductive T16 (p0 p1 p2 p3 p4 p5 p6 p7 p8 p9 p10 p11 p12 p13 p14 p15 : Prop) : Prop | mk : p0 → p1 → p2 → p3 → p4 → p5 → p6 → p7 → p8 → p9 → p10 → p11 → p12 → p13 → p14 → p15 → T16 p0 p1 p2 p3 p4 p5 p6 p7 p8 p9 p10 p11 p12 p13 p14 p15
inductive T17 (p0 p1 p2 p3 p4 p5 p6 p7 p8 p9 p10 p11 p12 p13 p14 p15 p16 : Prop) : Prop | mk : p0 → p1 → p2 → p3 → p4 → p5 → p6 → p7 → p8 → p9 → p10 → p11 → p12 → p13 → p14 → p15 → p16 → T17 p0 p1 p2 p3 p4 p5 p6 p7 p8 p9 p10 p11 p12 p13 p14 p15 p16
inductive T18 (p0 p1 p2 p3 p4 p5 p6 p7 p8 p9 p10 p11 p12 p13 p14 p15 p16 p17 : Prop) : Prop | mk : p0 → p1 → p2 → p3 → p4 → p5 → p6 → p7 → p8 → p9 → p10 → p11 → p12 → p13 → p14 → p15 → p16 → p17 → T18 p0 p1 p2 p3 p4 p5 p6 p7 p8 p9 p10 p11 p12 p13 p14 p15 p16 p17
inductive T19 (p0 p1 p2 p3 p4 p5 p6 p7 p8 p9 p10 p11 p12 p13 p14 p15 p16 p17 p18 : Prop) : Prop | mk : p0 → p1 → p2 → p3 → p4 → p5 → p6 → p7 → p8 → p9 → p10 → p11 → p12 → p13 → p14 → p15 → p16 → p17 → p18 → T19 p0 p1 p2 p3 p4 p5 p6 p7 p8 p9 p10 p11 p12 p13 p14 p15 p16 p17 p18
inductive T20 (p0 p1 p2 p3 p4 p5 p6 p7 p8 p9 p10 p11 p12 p13 p14 p15 p16 p17 p18 p19 : Prop) : Prop | mk : p0 → p1 → p2 → p3 → p4 → p5 → p6 → p7 → p8 → p9 → p10 → p11 → p12 → p13 → p14 → p15 → p16 → p17 → p18 → p19 → T20 p0 p1 p2 p3 p4 p5 p6 p7 p8 p9 p10 p11 p12 p13 p14 p15 p16 p17 p18 p19
/-- a contract of a callee -/
noncomputable def Says (w : World) (mean : ExcName → Option Value) (mg mb : Str → Option Value) (dd uu : Nat) (f : Value) (vs : List Value)
    (Pre : Led → Prop) (Post : Led → Led → Value → Prop) : Prop :=
  ∀ (dp un : Nat) (gd : Option (List Code)) (cn : Str) (cs : Scope) (a : Addr) (ccd : Value) (cl : List (Str × Addr)) (outer : List Env) (A₀ : Around) (base h₀ : Heap) (L : Addr) (m : Str → Option Value) (news : Led) (s : Shared)
    (Q E : Value → Shared → Prop),
    Below A₀ base outer h₀ → Fr h₀ L s.heap m → (K39 w.params).In h₀ → News h₀ L s.heap news → Top V39 (looseW V39 []) mean mg mb h₀ → cs.kind = .function → Pre news → dp + dd < recursionLimit → un + uu < cLine →
    (∀ r news' h' tk', Fr h₀ L h' m → News h₀ L h' news' → Post news news' r → Q r { s with heap := h', toks := tk' }) →
    wpAny (model PySem.Challenge.rw_nu0072_01.prog w) (ktrTop dp un gd cn cs L a ccd cl outer) (call f vs) Q E s
theorem says_use {w : World} {mean : ExcName → Option Value} {mg mb : Str → Option Value} {dd uu : Nat} {f : Value} {vs : List Value}
    {Pre : Led → Prop} {Post : Led → Led → Value → Prop} (C : Says w mean mg mb dd uu f vs Pre Post)
    {dp un : Nat} {gd : Option (List Code)} {cn : Str} {cs : Scope} {a : Addr} {ccd : Value} {cl : List (Str × Addr)} {outer : List Env} {A₀ : Around} {base h₀ : Heap} {L : Addr} {m : Str → Option Value} {news : Led} {s : Shared}
    {Q E : Value → Shared → Prop}
    (B : Below A₀ base outer h₀) (F : Fr h₀ L s.heap m) (X : (K39 w.params).In h₀) (N : News h₀ L s.heap news) (T : Top V39 (looseW V39 []) mean mg mb h₀) (hk : cs.kind = .function) (pre : Pre news)
    (h1 : dp + dd < recursionLimit) (h2 : un + uu < cLine)
    (ret : ∀ r news' h' tk', Fr h₀ L h' m → News h₀ L h' news' → Post news news' r → Q r { s with heap := h', toks := tk' }) :
    wpAny (model PySem.Challenge.rw_nu0072_01.prog w) (ktrTop dp un gd cn cs L a ccd cl outer) (call f vs) Q E s :=
  C _ _ _ _ _ _ _ _ _ _ _ _ _ _ _ _ _ _ B F X N T hk pre h1 h2 ret
theorem fill (w : World) : K39 w.params = K39 w.params ∧ PySem.Challenge.rw_nu0072_01 = PySem.Challenge.rw_nu0072_01 := by k_fill; exact ⟨rfl, rfl⟩
inductive Kd | root | element | text | attribute
  deriving DecidableEq
noncomputable def Kd.s : Kd → Str
  | .root => Str.ofString "root"
  | .element => Str.ofString "element"
  | .text => Str.ofString "text"
  | .attribute => Str.ofString "attribute"
structure MRow where
  kd : Kd
  nm : Str
  par : Option Int
  ch : List Int
  ats : List Int
noncomputable abbrev MTree := List MRow
noncomputable def rowOf (T : MTree) (z : Int) : Option MRow := if 0 ≤ z then T[z.toNat]? else none
noncomputable def parV : Option Int → Tok → Value
  | none, _ => .none
  | some p, t => .int p t
noncomputable def keyE (w : World) (x : String) (t : Tok) (v : Value) : DictEntry := ⟨PyData.keyHash w.params (Str.ofString x), .str (Str.ofString x) t, v⟩
noncomputable abbrev rowDict (w : World) (r : MRow) (v : Str) (ca aa na : Addr) (t0 t1 t2 t3 t4 t5 t6 t7 t8 v0 v1 v2 v3 v4 v5 : Tok) : List DictEntry :=
  [⟨PyData.keyHash w.params (Str.ofString "kind"), .str (Str.ofString "kind") t0, .str r.kd.s v0⟩,
   ⟨PyData.keyHash w.params (Str.ofString "name"), .str (Str.ofString "name") t1, .str r.nm v1⟩,
   ⟨PyData.keyHash w.params (Str.ofString "uri"), .str (Str.ofString "uri") t2, .str (Str.ofString "") v2⟩,
   ⟨PyData.keyHash w.params (Str.ofString "local"), .str (Str.ofString "local") t3, .str r.nm v3⟩,
   ⟨PyData.keyHash w.params (Str.ofString "value"), .str (Str.ofString "value") t4, .str v v4⟩,
   ⟨PyData.keyHash w.params (Str.ofString "parent"), .str (Str.ofString "parent") t5, parV r.par v5⟩,
   ⟨PyData.keyHash w.params (Str.ofString "children"), .str (Str.ofString "children") t6, .ref ca⟩,
   ⟨PyData.keyHash w.params (Str.ofString "attributes"), .str (Str.ofString "attributes") t7, .ref aa⟩,
   ⟨PyData.keyHash w.params (Str.ofString "namespaces"), .str (Str.ofString "namespaces") t8, .ref na⟩]
/-- a row's objects in the ledger -/
inductive RowAt (w : World) (news : Led) (x : Addr) (r : MRow)  : Prop
  | mk : ∀ (d ca aa na : Addr) (v : Str) (t0 t1 t2 t3 t4 t5 t6 t7 t8 v0 v1 v2 v3 v4 v5 : Tok) (cvs avs : List Value) (k1 k2 : Nat), ((x, instObj 303 d) ∈ news) → ((d, dictOf (rowDict w r v ca aa na t0 t1 t2 t3 t4 t5 t6 t7 t8 v0 v1 v2 v3 v4 v5) 9) ∈ news) → ((ca, listOf cvs.toArray k1) ∈ news) → ((aa, listOf avs.toArray k2) ∈ news) → (IntsAre cvs r.ch) → (IntsAre avs r.ats) → (r.ch.length ≤ 1000) → (r.ats.length ≤ 1000) → RowAt w news x r
noncomputable def RowsAt (w : World) (news : Led) (vs : List Value) (T : MTree) : Prop :=
  vs.length = T.length ∧ ∀ (i : Nat) (r : MRow), T[i]? = some r → ∃ x, vs[i]? = some (.ref x) ∧ RowAt w news x r
inductive TreeAt (w : World) (news : Led) (t : Addr) (T : MTree)  : Prop
  | mk : ∀ (dt rl : Addr) (tk : Tok) (k : Nat) (vs : List Value), ((t, instObj 492 dt) ∈ news) → ((dt, dictOf [⟨PyData.keyHash w.params (Str.ofString "rows"), .str (Str.ofString "rows") tk, .ref rl⟩] 1) ∈ news) → ((rl, listOf vs.toArray k) ∈ news) → (RowsAt w news vs T) → (T.length ≤ 1000) → TreeAt w news t T
theorem RowAt.mono {w : World} {news news' : Led} {x : Addr} {r : MRow} (h : RowAt w news x r) (hs : ∀ p ∈ news, p ∈ news') : RowAt w news' x r := by
  obtain ⟨d, ca, aa, na, v, t0, t1, t2, t3, t4, t5, t6, t7, t8, v0, v1, v2, v3, v4, v5, cvs, avs, k1, k2, a, b, c, e, q1, q2, q3, q4⟩ := h
  exact ⟨d, ca, aa, na, v, t0, t1, t2, t3, t4, t5, t6, t7, t8, v0, v1, v2, v3, v4, v5, cvs, avs, k1, k2, hs _ a, hs _ b, hs _ c, hs _ e, q1, q2, q3, q4⟩
theorem TreeAt.mono {w : World} {news news' : Led} {t : Addr} {T : MTree} (h : TreeAt w news t T) (hs : ∀ p ∈ news, p ∈ news') : TreeAt w news' t T := by
  obtain ⟨dt, rl, tk, k, vs, a, b, c, ⟨hl, hr⟩, e⟩ := h
  exact ⟨dt, rl, tk, k, vs, hs _ a, hs _ b, hs _ c, ⟨hl, fun i r hi => let ⟨x, h1, h2⟩ := hr i r hi; ⟨x, h1, h2.mono hs⟩⟩, e⟩
theorem TreeAt.row {w : World} {news : Led} {T : MTree} {vs : List Value} {z : Int} {r : MRow} (h : RowsAt w news vs T) (e : rowOf T z = some r) : 0 ≤ z ∧ z < (T.length : Int) ∧ ∃ x, vs[z.toNat]? = some (.ref x) ∧ RowAt w news x r := by
  unfold rowOf at e
  split at e
  · rename_i hz
    have hlt : z.toNat < T.length := by
      rcases Nat.lt_or_ge z.toNat T.length with h | h
      · exact h
      · rw [List.getElem?_eq_none h] at e; cases e
    exact ⟨hz, by omega, h.2 _ _ e⟩
  · cases e
end
section
/-- the end of a def's body -/
inductive DoneF (g : Heap) (L : Addr) (P : Led → Value → Prop) (s : Shared) (fl : Flow) (s' : Shared)  : Prop
  | mk : ∀ m' news' h' tk', (s' = { s with heap := h', toks := tk' }) → (Fr g L h' m') → (News g L h' news') → (P news' (match fl with | .ret v => v | _ => .none)) → DoneF g L P s fl s'
theorem room_of {d a b r : Nat} (h : d + a < r) (hab : b ≤ a) : d + b < r := Nat.lt_of_le_of_lt (Nat.add_le_add_left hab d) h
theorem mem_head {q : Addr × Obj} {l : Led} : q ∈ q :: l := List.Mem.head _
theorem mem_tail {q p : Addr × Obj} {l : Led} (h : q ∈ l) : q ∈ p :: l := List.Mem.tail _ h
theorem sub_tail {q : Addr × Obj} {a b : Led} (h : ∀ p ∈ a, p ∈ b) : ∀ p ∈ a, p ∈ q :: b := fun p hp => List.Mem.tail _ (h p hp)
theorem sub_cons {q : Addr × Obj} {a b : Led} (hq : q ∈ b) (h : ∀ p ∈ a, p ∈ b) : ∀ p ∈ q :: a, p ∈ b := fun p hp => by
  rcases List.mem_cons.mp hp with rfl | hp
  · exact hq
  · exact h p hp
theorem fin_new {g h' : Heap} {L : Addr} {m' : Str → Option Value} {P : Led → Value → Prop} {s : Shared} {news nn : Led} {D : Addr} {o : Obj} {v : Value} {tk : Nat}
    (F : Fr g L h' m') (N : News g L h' nn) (hm : (D, o) ∈ nn) (hs : ∀ p ∈ news, p ∈ nn) (hp : P ((D, o) :: news) v) : DoneF g L P s (.ret v) { s with heap := h', toks := tk } :=
  ⟨m', _, h', tk, rfl, F, fun p hp => N p (sub_cons hm hs p hp), hp⟩
theorem fin_same {g h' : Heap} {L : Addr} {m' : Str → Option Value} {P : Led → Value → Prop} {s : Shared} {news nn : Led} {v : Value} {tk : Nat}
    (F : Fr g L h' m') (N : News g L h' nn) (hs : ∀ p ∈ news, p ∈ nn) (hp : P news v) : DoneF g L P s (.ret v) { s with heap := h', toks := tk } :=
  ⟨m', news, h', tk, rfl, F, fun p hp => N p (hs p hp), hp⟩
theorem says_def {w : World} {mean : ExcName → Option Value} {mg mb : Str → Option Value} {dd uu : Nat} {f : Addr} {vs : List Value} {Pre : Led → Prop} {Post : Led → Led → Value → Prop}
    {name qual : Str} {params : Arguments} {body : List Stmt} {scope : Scope} {dV kV doc pm cdv ct oc : Value} {an od : Option Addr} {osl : Array (Option Value)} (binds : List (Str × Value))
    (ho : (K39 w.params).lookup f = some ⟨oc, od, .func (fnOf name qual params body scope dV kV doc pm an cdv ct), osl⟩) (hcd : codeIn (K39 w.params) cdv qual = true)
    (hbind : bindArgs (fnOf name qual params body scope dV kV doc pm an cdv ct) ⟨vs, []⟩ = pure binds) (hloc : ∀ y ∈ binds, scope.names.lookup y.1 = some .local)
    (hco : scope.isCoroutine = false) (hgen : scope.isGenerator = false) (hk : scope.kind = .function) (hcell : ∀ x ∈ scope.names, x.2 ≠ .cell)
    (h : ∀ (dp un : Nat) (gd : Option (List Code)) (outer : List Env) (A₁ : Around) (base g : Heap) (L : Addr) (news : Led) (s : Shared),
      Below A₁ base outer g → Fr g L s.heap (fun y => binds.reverse.lookup y) → (K39 w.params).In g → News g L s.heap news → Top V39 (looseW V39 []) mean mg mb g → Pre news → dp + dd < recursionLimit → un + uu < cLine →
      wpAny (model PySem.Challenge.rw_nu0072_01.prog w) (ktrTop dp un gd qual scope L f cdv [] outer) (execs body (envX qual scope L f cdv [])) (DoneF g L (Post news) s) (fun _ _ => False) s) :
    Says w mean mg mb (dd + 1) (uu + 3) (.ref f) vs Pre Post := by
  intro dp un gd cn cs a ccd cl outer A₀ base h₀ L m news s Q E B F X N T hkk hpre hd hu hret
  refine wpAny_call ?_
  refine code_def B F X N T rfl rfl hkk ho hcd (by show dp < recursionLimit; omega) (BindsTo.of_eq hbind) hloc ?_ hco hgen hk hcell
  intro g L' h₁ FG F' N' B' X' T'
  refine wpAny_mono (h (dp + 1) (un + 3) gd _ _ base g L' news { s with heap := h₁, toks := s.toks + binds.length } B' F' X' N' T' hpre (by omega) (by omega)) ?_ (fun _ _ e => e.elim)
  rintro fl s' ⟨m', news', h', tk', rfl, F₂, N₂, hp⟩
  exact leaveK_ F₂ N₂ fun F₃ N₃ => hret _ _ _ _ F₃ N₃ hp
theorem my_len {prog : Program} {w : World} {A : Around} {E : Value → Shared → Prop} {s : Shared} {h₀ : Heap} {L l : Addr} {news : Led} {vs : List Value} {k : Nat} {Q : Value → Shared → Prop}
    (N : News h₀ L s.heap news) (hm : (l, listOf vs.toArray k) ∈ news) (hfit : vs.length ≤ 100000)
    (h : Q (.int vs.length (s.toks + 1)) { s with toks := s.toks + 1 + 1 }) : wpAny (model prog w) A (call (.builtin "len") [.ref l]) Q E s :=
  len_list (N.isList hm) (by simp only [List.size_toArray]; omega) (by simpa only [List.size_toArray] using h)
theorem my_item {prog : Program} {w : World} {A : Around} {E : Value → Shared → Prop} {s : Shared} {value slice : PySem.Expr} {h₀ : Heap} {L l : Addr} {news : Led} {vs : List Value} {c : Nat} {k : Int} {u : Tok} {x : Value} {Q : Value → Shared → Prop}
    (N : News h₀ L s.heap news) (hm : (l, listOf vs.toArray c) ∈ news) (h0 : 0 ≤ k) (hhi : k < 1000000) (hx : vs[k.toNat]? = some x) (h : Q x s)
    (hs : subscripted slice false (.ref l) (.int k u) = operate [.ref l, .int k u] (getItem (.ref l) (.int k u)) := by with_unfolding_all rfl) :
    wpAny (model prog w) A (subscriptTail value slice (.ref l) (.int k u)) Q E s :=
  have hL := N.isList hm
  tail_any hL.typeIs slot_list_getitem.lookup (wpAny_getItem_list hL h0 (by omega) (by simpa using hx) h) hs
theorem my_listcopy {prog : Program} {w : World} {A : Around} {E : Value → Shared → Prop} {s : Shared} {h₀ : Heap} {L l : Addr} {m : Str → Option Value} {news : Led} {vs : List Value} {c : Nat} {Q : Value → Shared → Prop}
    (F : Fr h₀ L s.heap m) (N : News h₀ L s.heap news) (hm : (l, listOf vs.toArray c) ∈ news) (hfit : vs.length ≤ 100000)
    (h : ∀ D c' h', Fr h₀ L h' m → News h₀ L h' ((D, listOf vs.toArray c') :: news) → (∀ p ∈ news, p.1 < D) → Q (.ref D) { s with heap := h' }) :
    wpAny (model prog w) A (call (.type "list") [.ref l]) Q E s :=
  list_copyK F N (N.isList hm) h (by rw [List.size_toArray, sizeLine_eq]; omega)
theorem my_append {prog : Program} {w : World} {A : Around} {E : Value → Shared → Prop} {s : Shared} {h₀ : Heap} {L D : Addr} {m : Str → Option Value} {news news' : Led} {vs : List Value} {c : Nat} {x : Value} {Q : Value → Shared → Prop}
    (F : Fr h₀ L s.heap m) (N : News h₀ L s.heap news) (U : Upd D (listOf vs.toArray c) (listOf (vs ++ [x]).toArray (c + 1)) news news') (hfit : vs.length ≤ 100000)
    (h : ∀ h', Fr h₀ L h' m → News h₀ L h' news' → Q .none { s with heap := h' }) : wpAny (model prog w) A (call (.builtin "list.append") [.ref D, x]) Q E s :=
  append_K (its := vs.toArray) F N (by rw [List.push_toArray]; exact U) h (by rw [List.size_toArray, sizeLine_eq]; omega)
/-- a contract as a caller sees it -/
noncomputable def UseOf (w : World) (mean : ExcName → Option Value) (mg mb : Str → Option Value) (dd uu : Nat) (f : Value) (vs : List Value) (Pre : Led → Prop) (Ret : Led → (Led → (Prop → Prop) → Value → Prop) → Prop) : Prop :=
  ∀ ⦃dp un : Nat⦄ ⦃gd : Option (List Code)⦄ ⦃cn : Str⦄ ⦃cs : Scope⦄ ⦃a : Addr⦄ ⦃ccd : Value⦄ ⦃cl : List (Str × Addr)⦄ ⦃outer : List Env⦄ ⦃A₀ : Around⦄ ⦃base h₀ : Heap⦄ ⦃L : Addr⦄ ⦃m : Str → Option Value⦄ ⦃news : Led⦄ ⦃s : Shared⦄ ⦃Q E : Value → Shared → Prop⦄
    (_ : Below A₀ base outer h₀) (_ : Fr h₀ L s.heap m) (_ : (K39 w.params).In h₀) (_ : News h₀ L s.heap news) (_ : Top V39 (looseW V39 []) mean mg mb h₀) (_ : cs.kind = .function) (_ : Pre news) (_ : dp + dd < recursionLimit) (_ : un + uu < cLine)
    (_ : Ret news (fun news' mk v => ∀ (h' : Heap) (tk' : Nat), Fr h₀ L h' m → News h₀ L h' news' → mk (Q v { s with heap := h', toks := tk' }))),
    wpAny (model PySem.Challenge.rw_nu0072_01.prog w) (ktrTop dp un gd cn cs L a ccd cl outer) (call f vs) Q E s
theorem useOf {w : World} {mean : ExcName → Option Value} {mg mb : Str → Option Value} {dd uu : Nat} {f : Value} {vs : List Value} {Pre : Led → Prop} {Post : Led → Led → Value → Prop} {Ret : Led → (Led → (Prop → Prop) → Value → Prop) → Prop}
    (S : Says w mean mg mb dd uu f vs Pre Post) (k : ∀ (news news' : Led) (r : Value) (C : Led → (Prop → Prop) → Value → Prop), Post news news' r → Ret news C → ∃ mk : Prop → Prop, C news' mk r ∧ ∀ G, mk G → G) : UseOf w mean mg mb dd uu f vs Pre Ret :=
  fun _ _ _ _ _ _ _ _ _ _ _ _ _ _ _ _ _ _ B F X N T hk pre h1 h2 ret => says_use S B F X N T hk pre h1 h2 fun r news' h' tk' F' N' hp =>
    let ⟨_, q, g⟩ := k _ news' r _ hp ret
    g _ (q h' tk' F' N')
theorem genq {α : Type} {M : Model} {A : Around} {c : Sem α} {D : α → Shared → Prop} {E : Value → Shared → Prop} {s : Shared} (h : ∀ Q, D = Q → wpAny M A c Q E s) : wpAny M A c D E s := h D rfl
theorem unq {D Q : Flow → Shared → Prop} (h : D = Q) {fl : Flow} {s' : Shared} (hp : D fl s') : Q fl s' := h ▸ hp
theorem unqv {D Q : Value → Shared → Prop} (h : D = Q) {v : Value} {s' : Shared} (hp : D v s') : Q v s' := h ▸ hp
theorem le_eq_le {a b c d : Nat} (h : a = b) (h2 : b ≤ c) (h3 : c ≤ d) : a ≤ d := h ▸ Nat.le_trans h2 h3
theorem handed_parV (o : Option Int) (t : Tok) : handedIn (parV o t) = true := by cases o <;> (simp only [parV, handedIn])
end
section
/-- where a turn of a loop ends -/
inductive TurnOn (h₀ : Heap) (L : Addr) (x : Addr × Obj) (J : (Str → Option Value) → Led → Prop) (s : Shared) (s' : Shared) : Prop
  | mk : ∀ m' news' h' tk', (s' = { s with heap := h', toks := tk' }) → (Fr h₀ L h' m') → (News h₀ L h' (x :: news')) → ((∀ p ∈ news', p.1 ≠ x.1)) → (J m' news') → TurnOn h₀ L x J s s'
noncomputable def TurnEnd (h₀ : Heap) (L : Addr) (x : Addr × Obj) (J : (Str → Option Value) → Led → Prop) (Q : Flow → Shared → Prop) (s : Shared) (fl : Flow) (s' : Shared) : Prop :=
  match fl with | .ret v => Q (.ret v) s' | .brk => Q .next s' | _ => TurnOn h₀ L x J s s'
section
variable {prog : Program} {w : World} {A : Around} {E : Value → Shared → Prop} {s : Shared} {env : Env} {h₀ : Heap}
theorem owned_listiter {target : PySem.Expr} {it l : Addr} {i : Nat} {v : Value} {Q : Unit → Shared → Prop} (hit : s.heap.IsListIter it l i) (h : Q () s) : wpAny (model prog w) A (letOwnedTupleGo target (.ref it) v) Q E s := by
  obtain ⟨o, ho, hc, hd⟩ := hit
  have key : wpAny (model prog w) A (do
      let (.ref r, .ref a) := (Value.ref it, v) | return
      let o ← load r
      match o.cls, o.data with
      | .type n, .fields vs =>
        if ["enumerate", "zip", "dict_itemiterator", "dict_reverseitemiterator", "odict_iterator", "itertools.zip_longest", "itertools.pairwise"].contains n && vs[0]? == some (rawInt a) then
          rule "for.unpacks-the-owned-tuple"
          updateField r 0 .none
      | _, _ => pure () : Sem Unit) Q E s := by
    cases v <;> first
      | exact wpAny_pure h
      | (refine wpAny_bind (wpAny_load ho ?_)
         rw [hc, hd]
         exact wpAny_pure h)
  unfold letOwnedTupleGo
  split <;> first | exact key | exact wpAny_pure h
theorem iter_list {target : PySem.Expr} {body : List Stmt} {l : Addr} {vs : List Value} {m : Str → Option Value} {news : Led} {Q : Flow → Shared → Prop} {G : Value → Shared → Prop}
    (B : Nat) (J : Nat → List Value → (Str → Option Value) → Led → Prop)
    (hh : A.handled = none)
    (F : Fr h₀ env.locals s.heap m) (N : News h₀ env.locals s.heap news) (hJ : J 0 vs m news)
    (hin : ∀ i us m₁ news₁, J i us m₁ news₁ → us.length ≤ B ∧ ∃ c, (l, listOf us.toArray c) ∈ news₁)
    (turn : ∀ i us v m₁ news₁ it oi h tk, J i us m₁ news₁ → us[i]? = some v → Fr h₀ env.locals h m₁ → News h₀ env.locals h ((it, oi) :: news₁) → (∀ p ∈ news₁, @Ne Nat p.1 it) →
      wpAny (model prog w) A (assign target env v) (fun _ s₂ => wpAny (model prog w) A (execs body env)
        (TurnEnd h₀ env.locals (it, oi) (fun m' news' => ∃ us', J (i + 1) us' m' news') Q { s with heap := h, toks := tk }) (fun _ _ => False) s₂) (fun _ _ => False) { s with heap := h, toks := tk })
    (done : ∀ i us m₁ news₁ h tk, J i us m₁ news₁ → us.length ≤ i → i ≤ B → Fr h₀ env.locals h m₁ → News h₀ env.locals h news₁ → Q .next { s with heap := h, toks := tk }) :
    wpAny (model prog w) A (pyIter (.ref l)) (fun it s₂ => codeAny (model prog w) A (.forLoop target it body [] env) (fun r s' => match r with | .ok f => Q f s' | .error e => G e s') s₂) E s := by
  obtain ⟨_, c₀, hm₀⟩ := hin _ _ _ _ hJ
  have hl₀ := N.isList hm₀
  refine wpAny_pyIter_list hl₀ ?_
  have hit : (s.heap.push { cls := .type "list_iterator", data := .fields #[.ref l, .int 0 0] }).IsListIter s.heap.objs.size l 0 := ⟨_, Heap.get?_push_size _ rfl, rfl, rfl⟩
  generalize hIt : s.heap.objs.size = it at hit
  generalize hH : s.heap.push { cls := .type "list_iterator", data := .fields #[.ref l, .int 0 0] } = H at hit
  have up : ∀ b o, s.heap.get? b = some o → H.get? b = some o := fun b o e => hH ▸ Heap.get?_push_of_some _ e
  have hL : env.locals ≠ it := by rw [← hIt]; exact Nat.ne_of_lt F.ns.lt
  have hI₀ : h₀.get? it = none := by
    cases e : h₀.get? it with
    | none => rfl
    | some o => have := Heap.lt_size (F.keep it o e); rw [hIt] at this; exact absurd this (Nat.lt_irrefl _)
  have offN : ∀ p ∈ news, p.1 ≠ it := fun p hp q => by
    have := Heap.lt_size (N p hp).1; rw [q, hIt] at this; exact Nat.lt_irrefl _ this
  refine codeAny_forLoop_any (fun k s' => X6 (fun i us m₁ news₁ h tk => T8 (s' = { s with heap := h, toks := tk }) (k = B + 1 - i) (i ≤ B) (J i us m₁ news₁) (h.IsListIter it l i) (Fr h₀ env.locals h m₁) (News h₀ env.locals h news₁) (∀ p ∈ news₁, p.1 ≠ it))) ?_ (B + 1)
    ⟨0, vs, m, news, H, s.toks, rfl, rfl, Nat.zero_le _, hJ, hit, F.keeps up, N.grown up, offN⟩
  rintro k s' ⟨i, us, m₁, news₁, h, tk, rfl, rfl, hiB, hJ', hit', F', N', off'⟩
  obtain ⟨hB, c, hm⟩ := hin _ _ _ _ hJ'
  have hl := N'.isList hm
  by_cases hlt : i < us.length
  · have hx : us[i]? = some us[i] := by simp [hlt]
    refine wpAny_pyNext_list_item hit' hl (show us.toArray[i]? = some us[i] by simp [hlt]) fun h₂ hit₂ hs₂ => ?_
    refine owned_listiter hit₂ ?_
    obtain ⟨oi, hoi, _⟩ := id hit₂
    have F₂ : Fr h₀ env.locals h₂ m₁ := F'.change hs₂ (Ne.symm hL) hI₀
    have N₂ : News h₀ env.locals h₂ ((it, oi) :: news₁) := fun p hp => by
      rcases List.mem_cons.mp hp with rfl | hp
      · exact ⟨hoi, Ne.symm hL, hI₀⟩
      · exact ⟨(hs₂.2 _ (off' p hp)).trans (N' p hp).1, (N' p hp).2⟩
    refine wpAny_mono (turn i us us[i] m₁ news₁ it oi h₂ tk hJ' hx F₂ N₂ off') (fun _ s₃ h₃ => ?_) fun _ _ e => False.elim e
    refine wpAny_mono h₃ (fun fl s₄ h₄ => ?_) fun _ _ e => False.elim e
    have fin : (X4 (fun m' news' h' tk' => T5 (s₄ = { s with heap := h', toks := tk' }) (Fr h₀ env.locals h' m') (News h₀ env.locals h' ((it, oi) :: news')) (∀ p ∈ news', p.1 ≠ it) (∃ us', J (i + 1) us' m' news'))) →
        ∃ k', k' < B + 1 - i ∧ X6 (fun i us m₁ news₁ h tk => T8 (s₄ = { s with heap := h, toks := tk }) (k' = B + 1 - i) (i ≤ B) (J i us m₁ news₁) (h.IsListIter it l i) (Fr h₀ env.locals h m₁) (News h₀ env.locals h news₁) (∀ p ∈ news₁, p.1 ≠ it)) := by
      rintro ⟨m', news', h', tk', rfl, F₅, N₅, off₅, us', hJ₅⟩
      have hoi' := (N₅ (it, oi) (.head _)).1
      obtain ⟨o', ho', hc', hd'⟩ := hit₂
      rw [hoi] at ho'
      cases ho'
      exact ⟨B + 1 - (i + 1), by omega, i + 1, us', m', news', h', tk', rfl, rfl, by omega, hJ₅, ⟨oi, hoi', hc', hd'⟩, F₅, fun p hp => N₅ p (.tail _ hp), off₅⟩
    cases fl with
    | ret v => exact h₄
    | brk => exact h₄
    | next => obtain ⟨a0, a1, a2, a3, a4, a5, a6, a7, a8⟩ := h₄; exact fin ⟨a0, a1, a2, a3, a4, a5, a6, a7, a8⟩
    | cont => obtain ⟨a0, a1, a2, a3, a4, a5, a6, a7, a8⟩ := h₄; exact fin ⟨a0, a1, a2, a3, a4, a5, a6, a7, a8⟩
  · refine wpAny_pyNext_list_end hh hit' hl (by simp; omega) fun h₂ hs₂ => ?_
    have F₂ : Fr h₀ env.locals h₂ m₁ := by
      refine ⟨F'.ns.at' fun o e => hs₂ _ o hL e, fun b o e => hs₂ b o (fun q => ?_) (F'.keep b o e), F'.above⟩
      rw [q, hI₀] at e; cases e
    have N₂ : News h₀ env.locals h₂ news₁ := fun p hp => ⟨hs₂ _ _ (off' p hp) (N' p hp).1, (N' p hp).2⟩
    exact wpAny_pure (done i us m₁ news₁ h₂ tk hJ' (Nat.not_lt.mp hlt) hiB F₂ N₂)
end
end
section
open LCg (NsObj Off3 Off1 lst)
/-- where an element of a comprehension, or its test, ends -/
inductive CEnd (h₀ : Heap) (L : Addr) (m : Str → Option Value) (s : Shared) (it : Addr) (oi : Obj) (C : Addr) (oC : Obj) (D : Addr) (ys : List Value) (P : Value → Led → Prop) (y : Value) (s' : Shared)  : Prop
  | mk : ∀ h' tk' news', (s' = { s with heap := h', toks := tk' }) → (Fr h₀ L h' m) → (News h₀ L h' ((it, oi) :: (C, oC) :: (D, lst ys) :: news')) → (Off3 it C D news') → (P y news') → CEnd h₀ L m s it oi C oC D ys P y s'
noncomputable def CTurn (prog : Program) (w : World) (A : Around) (cenv : Env) (elt : PySem.Expr) (ifs : List PySem.Expr) (Yes : Value → Shared → Prop) (No : Shared → Prop) (s : Shared) : Prop :=
  match ifs with
  | [] => wpAny (model prog w) A (eval elt cenv) Yes (fun _ _ => False) s
  | [c] => wpAny (model prog w) A (isTrue c cenv (eval c cenv)) (fun ok s₁ => if ok = true then wpAny (model prog w) A (eval elt cenv) Yes (fun _ _ => False) s₁ else No s₁) (fun _ _ => False) s
  | _ => False
section
variable {prog : Program} {w : World} {A : Around} {E : Value → Shared → Prop} {s : Shared} {env : Env} {h₀ : Heap} {L : Addr} {m : Str → Option Value} {R : Result → Shared → Prop}
theorem off3_ne {I C D : Addr} {l : Led} (h : Off3 I C D l) : ∀ p ∈ l, p.1 ≠ I ∧ p.1 ≠ C ∧ p.1 ≠ D := LCg.Off3.mem h
theorem comp_loop1 {elt iter : PySem.Expr} {ifs : List PySem.Expr} {x : Str} {px : Pos} {scope : Scope} {cl : List (Str × Addr)} {pos : Pos} {C D it l : Addr} {us ys₀ : List Value} {m₂ : Str → Option Value} {news : Led}
    (Bs : Nat) (K : Nat → List Value → Led → Prop)
    (hh : A.handled = none) (hx : scope.names.lookup x = some .local) (hkind : scope.kind = .function) (hBs : Bs ≤ 100000)
    (hin : ∀ i ys news, K i ys news → (∃ c, (l, listOf us.toArray c) ∈ news) ∧ ys.length ≤ Bs)
    (hit : s.heap.IsListIter it l 0) (F : Fr h₀ L s.heap m) (N : News h₀ L s.heap ((D, lst ys₀) :: news)) (hC : s.heap.Ns C m₂) (hCL : C ≠ L) (hC₀ : h₀.get? C = none) (hiL : it ≠ L) (hi₀ : h₀.get? it = none)
    (hCD : C ≠ D) (hiC : it ≠ C) (hiD : it ≠ D) (off : Off3 it C D news) (hK : K 0 ys₀ news)
    (turn : ∀ i ys v oi oC m₃ h tk news₁, us[i]? = some v → K i ys news₁ → NsObj oC m₃ → m₃ x = some v → Fr h₀ L h m → News h₀ L h ((it, oi) :: (C, oC) :: (D, lst ys) :: news₁) → Off3 it C D news₁ →
      CTurn prog w A (compEnvC scope cl C env) elt ifs (CEnd h₀ L m { s with heap := h, toks := tk } it oi C oC D ys (fun y news' => K (i + 1) (ys ++ [y]) news'))
        (CEnd h₀ L m { s with heap := h, toks := tk } it oi C oC D ys (fun _ news' => K (i + 1) ys news') .none) { s with heap := h, toks := tk })
    (done : ∀ ys m₃ h tk news₁, K us.length ys news₁ → Fr h₀ L h m → News h₀ L h ((D, lst ys) :: news₁) → h.Ns C m₃ → Off3 it C D news₁ → R (.ok .next) { s with heap := h, toks := tk }) :
    codeAny (model prog w) A (.compLoop (.ListComp elt [⟨.Name x px, iter, ifs, 0⟩] scope pos) 0 (.ref it) (.ref D) (compEnvC scope cl C env)) R s := by
  refine codeAny_compLoop_tests (fun k s' => X6 (fun i ys m₃ h tk news₁ => T9 (s' = { s with heap := h, toks := tk }) (k = us.length + 1 - i) (i ≤ us.length) (K i ys news₁) (h.IsListIter it l i) (Fr h₀ L h m) (News h₀ L h ((D, lst ys) :: news₁)) (h.Ns C m₃) (Off3 it C D news₁))) ?_ (us.length + 1)
    ⟨0, ys₀, m₂, s.heap, s.toks, news, rfl, rfl, Nat.zero_le _, hK, hit, F, N, hC, off⟩
  rintro k s' ⟨i, ys, m₃, h, tk, news₁, rfl, rfl, hi, hK', hit', F', N', hC', off'⟩
  obtain ⟨⟨c, hm⟩, hBy⟩ := hin _ _ _ hK'
  have hl := N'.isList (List.Mem.tail _ hm)
  have ne3 := off3_ne off'
  by_cases hlt : i < us.length
  · have hx' : us[i]? = some us[i] := by simp [hlt]
    refine wpAny_pyNext_list_item hit' hl (show us.toArray[i]? = some us[i] by simp [hlt]) fun h₂ hit₂ hs₂ => ?_
    have hC₂ : h₂.Ns C m₃ := hC'.sameBut hs₂ (Ne.symm hiC)
    refine wpAny_assign_Name (wpAny_storeName_local (lookup_relabel_local hx) hC₂ (fun h₃ hn₃ hs₃ => ?_) (by simp [compEnvC, relabel, hkind]))
    obtain ⟨oi, hoi, hci, hdi⟩ := hit₂
    obtain ⟨oC, heC, hoC⟩ := LCg.ns_obj hn₃
    have hoi₃ : h₃.get? it = some oi := (hs₃.2 _ hiC).trans hoi
    have F₃ : Fr h₀ L h₃ m := (F'.change hs₂ hiL hi₀).change hs₃ hCL hC₀
    have both : ∀ b, b ≠ it → b ≠ C → h₃.get? b = h.get? b := fun b h1 h2 => (hs₃.2 b h2).trans (hs₂.2 b h1)
    have N₃ : News h₀ L h₃ ((it, oi) :: (C, oC) :: (D, lst ys) :: news₁) := fun p hp => by
      rcases List.mem_cons.mp hp with rfl | hp
      · exact ⟨hoi₃, hiL, hi₀⟩
      rcases List.mem_cons.mp hp with rfl | hp
      · exact ⟨heC, hCL, hC₀⟩
      refine ⟨(both _ ?_ ?_).trans (N' p hp).1, (N' p hp).2⟩
      · rcases List.mem_cons.mp hp with rfl | hp
        · exact Ne.symm hiD
        · exact (ne3 p hp).1
      · rcases List.mem_cons.mp hp with rfl | hp
        · exact Ne.symm hCD
        · exact (ne3 p hp).2.1
    have T := turn i ys us[i] oi oC _ h₃ (tk + 1) news₁ hx' hK' hoC (by simp) F₃ N₃ off'
    -- what the next turn stands on
    have next : ∀ (ys' : List Value) (h₄ : Heap) (tk₄ : Nat) (news₄ : Led), Fr h₀ L h₄ m → News h₀ L h₄ ((it, oi) :: (C, oC) :: (D, lst ys') :: news₄) → Off3 it C D news₄ → K (i + 1) ys' news₄ →
        ∃ k', k' < us.length + 1 - i ∧ X6 (fun i ys m₃ h tk news₁ => T9 (({ s with heap := h₄, toks := tk₄ } : Shared) = { s with heap := h, toks := tk }) (k' = us.length + 1 - i) (i ≤ us.length) (K i ys news₁) (h.IsListIter it l i) (Fr h₀ L h m) (News h₀ L h ((D, lst ys) :: news₁)) (h.Ns C m₃) (Off3 it C D news₁)) := by
      intro ys' h₄ tk₄ news₄ F₄ N₄ off₄ K₄
      exact ⟨us.length + 1 - (i + 1), by omega, i + 1, ys', _, h₄, tk₄, news₄, rfl, rfl, by omega, K₄, ⟨oi, (N₄ _ (.head _)).1, hci, hdi⟩, F₄, fun p hp => N₄ p (.tail _ (.tail _ hp)), hoC.ns (N₄ (C, oC) (.tail _ (.head _))).1, off₄⟩
    have yes : ∀ y s₄, CEnd h₀ L m { s with heap := h₃, toks := tk + 1 } it oi C oC D ys (fun y news' => K (i + 1) (ys ++ [y]) news') y s₄ →
        wpAny (model prog w) A (call (.builtin "list.append") [.ref D, y]) (fun _ s₅ => ∃ k', k' < us.length + 1 - i ∧ X6 (fun i ys m₃ h tk news₁ => T9 (s₅ = { s with heap := h, toks := tk }) (k' = us.length + 1 - i) (i ≤ us.length) (K i ys news₁) (h.IsListIter it l i) (Fr h₀ L h m) (News h₀ L h ((D, lst ys) :: news₁)) (h.Ns C m₃) (Off3 it C D news₁)))
          (notedBy (model prog w) A (compEnvC scope cl C env) fun e s' => R (.error e) s') s₄ := by
      rintro y s₄ ⟨h₄, tk₄, news₄, rfl, F₄, N₄, off₄, K₄⟩
      have ne4 := off3_ne off₄
      have zD := N₄ (D, lst ys) (.tail _ (.tail _ (.head _)))
      refine append_at (hsz := by show ys.toArray.size ≤ sizeLine; rw [List.size_toArray, sizeLine_eq]; omega) zD.1 fun h₅ hs₅ hD₅ => ?_
      refine next (ys ++ [y]) h₅ tk₄ news₄ (F₄.change hs₅ zD.2.1 zD.2.2) (fun p hp => ?_) off₄ K₄
      rcases List.mem_cons.mp hp with rfl | hp
      · exact ⟨(hs₅.2 _ hiD).trans (N₄ _ (.head _)).1, hiL, hi₀⟩
      rcases List.mem_cons.mp hp with rfl | hp
      · exact ⟨(hs₅.2 _ hCD).trans (N₄ _ (.tail _ (.head _))).1, hCL, hC₀⟩
      rcases List.mem_cons.mp hp with rfl | hp
      · exact ⟨hD₅.trans (congrArg some (LCg.lst_snoc ys y)), zD.2⟩
      · have z := N₄ p (.tail _ (.tail _ (.tail _ hp)))
        exact ⟨(hs₅.2 _ (ne4 p hp).2.2).trans z.1, z.2⟩
    have no : ∀ s₄, CEnd h₀ L m { s with heap := h₃, toks := tk + 1 } it oi C oC D ys (fun _ news' => K (i + 1) ys news') .none s₄ →
        ∃ k', k' < us.length + 1 - i ∧ X6 (fun i ys m₃ h tk news₁ => T9 (s₄ = { s with heap := h, toks := tk }) (k' = us.length + 1 - i) (i ≤ us.length) (K i ys news₁) (h.IsListIter it l i) (Fr h₀ L h m) (News h₀ L h ((D, lst ys) :: news₁)) (h.Ns C m₃) (Off3 it C D news₁)) := by
      rintro s₄ ⟨h₄, tk₄, news₄, rfl, F₄, N₄, off₄, K₄⟩
      exact next ys h₄ tk₄ news₄ F₄ N₄ off₄ K₄
    match ifs, T with
    | [], T =>
      refine wpAny_tests_nil ?_
      simp only [if_true]
      exact wpAny_mono T yes fun _ _ e => False.elim e
    | [c], T =>
      refine wpAny_tests_one (wpAny_mono T (fun ok s₄ h₄ => ?_) fun _ _ e => False.elim e)
      cases ok with
      | true => simp only [if_true] at h₄ ⊢; exact wpAny_mono h₄ yes fun _ _ e => False.elim e
      | false => simp only [Bool.false_eq_true, if_false] at h₄ ⊢; exact no _ h₄
    | _ :: _ :: _, T => exact False.elim T
  · obtain rfl : i = us.length := Nat.le_antisymm hi (Nat.not_lt.mp hlt)
    refine wpAny_pyNext_list_end hh hit' hl (by simp) fun h₂ hs₂ => ?_
    have F₂ : Fr h₀ L h₂ m := by
      refine ⟨F'.ns.at' fun o e => hs₂ _ o (Ne.symm hiL) e, fun b o e => hs₂ b o (fun q => ?_) (F'.keep b o e), F'.above⟩
      rw [q, hi₀] at e; cases e
    refine done ys m₃ h₂ tk news₁ hK' F₂ (fun p hp => ⟨hs₂ _ _ ?_ (N' p hp).1, (N' p hp).2⟩) (hC'.at' fun o e => hs₂ _ o (Ne.symm hiC) e) off'
    rcases List.mem_cons.mp hp with rfl | hp
    · exact Ne.symm hiD
    · exact (ne3 p hp).1
end
end
section
open LCg (NsObj Off3 Off1 lst)
section
variable {prog : Program} {w : World} {A : Around} {E : Value → Shared → Prop} {s : Shared} {env : Env} {h₀ : Heap} {L : Addr} {m : Str → Option Value}
/-- the parts of a comprehension from its list's iterator on, up to the loop -/
theorem comp_open {elt iter : PySem.Expr} {target : PySem.Expr} {ifs : List PySem.Expr} {rest : List Comprehension} {scope : Scope} {cl : List (Str × Addr)} {pos : Pos} {l : Addr} {us : List Value} {c : Nat} {news : Led} {RR : Value → Addr → Result → Shared → Prop}
    (hcell : ∀ y ∈ scope.names, y.2 ≠ .cell) (hkind : scope.kind = .function)
    (F : Fr h₀ L s.heap m) (N : News h₀ L s.heap news) (hm : (l, listOf us.toArray c) ∈ news)
    (loop : ∀ it C D m₂ h tk, h.IsListIter it l 0 → Fr h₀ L h m → News h₀ L h ((D, lst []) :: news) → h.Ns C m₂ → C ≠ L → h₀.get? C = none → it ≠ L → h₀.get? it = none → D ≠ L → h₀.get? D = none → C ≠ D → it ≠ C → it ≠ D → Off3 it C D news →
      codeAny (model prog w) A (.compLoop (.ListComp elt (⟨target, iter, ifs, 0⟩ :: rest) scope pos) 0 (.ref it) (.ref D) (compEnvC scope cl C env)) (RR (.ref D) C) { s with heap := h, toks := tk }) :
    wpAny (model prog w) A (pyIter (.ref l)) (fun it s₂ => wpAny (model prog w) A (newList []) (fun acc s₃ => wpAny (model prog w) A (newFunctionEnv scope env.globals cl [] env.qual none .none (some env)) (fun cenv s₄ =>
      codeAny (model prog w) A (.compStart (.ListComp elt (⟨target, iter, ifs, 0⟩ :: rest) scope pos) 0 it acc { cenv with scope := relabel scope env }) (RR acc cenv.locals) s₄) E s₃) E s₂) E s := by
  refine wpAny_pyIter_list (N.isList hm) ?_
  refine wpAny_newObj_type (wpAny_newFunctionEnv hcell (by intro y hy; simp at hy) (fun h₁ hns₁ hsb₁ => ?_) hkind)
  dsimp only at hns₁ hsb₁ ⊢
  generalize hH1 : s.heap.push { cls := .type "list_iterator", data := .fields #[.ref l, .int 0 0] } = H1 at hns₁ hsb₁ ⊢
  generalize hH2 : H1.push { cls := .type "list", dict := none, data := .seq ([] : List Value).toArray } = H2 at hns₁ hsb₁ ⊢
  have e1 : H1.objs.size = s.heap.objs.size + 1 := by rw [← hH1, Heap.size_push]
  have e2 : H2.objs.size = s.heap.objs.size + 1 + 1 := by rw [← hH2, Heap.size_push, e1]
  have k1 : ∀ b o, s.heap.get? b = some o → H1.get? b = some o := fun b o e => hH1 ▸ Heap.get?_push_of_some _ e
  have k2 : ∀ b o, H1.get? b = some o → H2.get? b = some o := fun b o e => hH2 ▸ Heap.get?_push_of_some _ e
  have z1 : H1.get? s.heap.objs.size = some { cls := .type "list_iterator", data := .fields #[.ref l, .int 0 0] } := hH1 ▸ Heap.get?_push_size _ rfl
  have z2 : H2.get? H1.objs.size = some (lst []) := hH2 ▸ Heap.get?_push_size _ rfl
  have below : ∀ b o, H2.get? b = some o → h₁.get? b = some o := fun b o e => hsb₁.extBut b o (Nat.ne_of_lt (Heap.lt_size e)) (Heap.get?_push_of_some _ e)
  have old : ∀ b o, s.heap.get? b = some o → h₁.get? b = some o := fun b o e => below _ _ (k2 _ _ (k1 _ _ e))
  have none₀ : ∀ a, s.heap.objs.size ≤ a → h₀.get? a = none := fun a ha => by
    cases e : h₀.get? a with
    | none => rfl
    | some o' => exact absurd (Heap.lt_size (F.keep a o' e)) (Nat.not_lt.mpr ha)
  have hLs : L < s.heap.objs.size := F.ns.lt
  have lt : ∀ p ∈ news, p.1 < s.heap.objs.size := fun p hp => Heap.lt_size (N p hp).1
  have big : ∀ a, s.heap.objs.size ≤ a → a ≠ L := fun a ha q => by rw [q] at ha; exact absurd hLs (Nat.not_lt.mpr ha)
  have hI := below _ _ (k2 _ _ z1)
  have hit : h₁.IsListIter s.heap.objs.size l 0 := ⟨_, hI, rfl, rfl⟩
  have hD := below _ _ z2
  have q1 : s.heap.objs.size ≤ H1.objs.size := by rw [e1]; exact Nat.le_succ _
  have q2 : s.heap.objs.size ≤ H2.objs.size := by rw [e2]; omega
  have LL := loop s.heap.objs.size H2.objs.size H1.objs.size _ h₁ (s.toks + ([] : List (Str × Value)).length) hit (F.keeps old) (fun p hp => by
      rcases List.mem_cons.mp hp with rfl | hp
      · exact ⟨hD, big _ q1, none₀ _ q1⟩
      · exact ⟨old _ _ (N p hp).1, (N p hp).2⟩) hns₁ (big _ q2) (none₀ _ q2) (big _ (Nat.le_refl _)) (none₀ _ (Nat.le_refl _)) (big _ q1) (none₀ _ q1) (by rw [e2, e1]; exact (Nat.succ_ne_self _)) (by rw [e2]; exact Nat.ne_of_lt (by omega)) (by rw [e1]; exact Nat.ne_of_lt (by omega))
      (Off3.of fun p hp => by have := lt p hp; exact ⟨Nat.ne_of_lt this, Nat.ne_of_lt (Nat.lt_of_lt_of_le this q2), Nat.ne_of_lt (Nat.lt_of_lt_of_le this q1)⟩)
  exact codeAny_compStart_list LL (wpAny_pyIter_listiter hit LL)
theorem comp_list {elt iter : PySem.Expr} {ifs : List PySem.Expr} {x : Str} {px : Pos} {scope : Scope} {cl : List (Str × Addr)} {pos : Pos} {l : Addr} {us : List Value} {news : Led} {Q : Value → Shared → Prop}
    (Bs : Nat) (K : Nat → List Value → Led → Prop)
    (hh : A.handled = none) (hcell : ∀ y ∈ scope.names, y.2 ≠ .cell) (hkind : scope.kind = .function) (hx : scope.names.lookup x = some .local) (hBs : Bs ≤ 100000)
    (F : Fr h₀ L s.heap m) (N : News h₀ L s.heap news) (hK : K 0 [] news)
    (hin : ∀ i ys news, K i ys news → (∃ c, (l, listOf us.toArray c) ∈ news) ∧ ys.length ≤ Bs)
    (turn : ∀ i ys v it oi C oC D m₃ h tk news₁, us[i]? = some v → K i ys news₁ → NsObj oC m₃ → m₃ x = some v → Fr h₀ L h m → News h₀ L h ((it, oi) :: (C, oC) :: (D, lst ys) :: news₁) → Off3 it C D news₁ → (@Ne Nat it C ∧ @Ne Nat it D ∧ @Ne Nat C D) →
      CTurn prog w A (compEnvC scope cl C env) elt ifs (CEnd h₀ L m { s with heap := h, toks := tk } it oi C oC D ys (fun y news' => K (i + 1) (ys ++ [y]) news'))
        (CEnd h₀ L m { s with heap := h, toks := tk } it oi C oC D ys (fun _ news' => K (i + 1) ys news') .none) { s with heap := h, toks := tk })
    (done : ∀ ys D h tk news₁, K us.length ys news₁ → Fr h₀ L h m → News h₀ L h ((D, lst ys) :: news₁) → Off1 D news₁ → Q (.ref D) { s with heap := h, toks := tk }) :
    wpAny (model prog w) A (pyIter (.ref l)) (fun it s₂ => wpAny (model prog w) A (newList []) (fun acc s₃ => wpAny (model prog w) A (newFunctionEnv scope env.globals cl [] env.qual none .none (some env)) (fun cenv s₄ =>
      codeAny (model prog w) A (.compStart (.ListComp elt [⟨.Name x px, iter, ifs, 0⟩] scope pos) 0 it acc { cenv with scope := relabel scope env }) (compPost (model prog w) A E none Q acc cenv.locals) s₄) E s₃) E s₂) E s := by
  obtain ⟨⟨c, hm⟩, _⟩ := hin _ _ _ hK
  refine comp_open hcell hkind F N hm ?_
  intro it C D m₂ h tk hit F' N' hC hCL hC₀ hiL hi₀ hDL hD₀ hCD hiC hiD off
  refine comp_loop1 (s := { s with heap := h, toks := tk }) (us := us) (ys₀ := []) (news := news) (l := l) Bs K hh hx hkind hBs hin hit F' N' hC hCL hC₀ hiL hi₀ hCD hiC hiD off hK ?_ ?_
  · intro i ys v oi oC m₃ h' tk' news₁ hv hK' hoC hmx F₁ N₁ off₁
    exact turn i ys v it oi C oC D m₃ h' tk' news₁ hv hK' hoC hmx F₁ N₁ off₁ ⟨hiC, hiD, hCD⟩
  · intro ys m₃ h' tk' news₁ hK' F₁ N₁ hC' off₁
    refine ⟨m₃, hC', fun h'' hs'' => done ys D h'' tk' news₁ hK' (F₁.change hs'' hCL hC₀) (fun p hp => ?_) off₁.one⟩
    refine ⟨(hs''.2 _ ?_).trans (N₁ p hp).1, (N₁ p hp).2⟩
    rcases List.mem_cons.mp hp with rfl | hp
    · exact Ne.symm hCD
    · exact (off3_ne off₁ p hp).2.1
theorem comp_list_use {elt iter : PySem.Expr} {ifs : List PySem.Expr} {x y : Str} {px py : Pos} {scope : Scope} {cl : List (Str × Addr)} {pos : Pos} {l : Addr} {us : List Value} {news : Led} {Q : Value → Shared → Prop}
    (Bs : Nat) (K : Nat → List Value → Led → Prop)
    (hLe : env.locals = L) (hy : env.kindOf y = some .local) (hp : (env.scope.kind == .class || (env.scope.kind == .module && env.locals != env.globals)) = false)
    (hh : A.handled = none) (hcell : ∀ y ∈ scope.names, y.2 ≠ .cell) (hkind : scope.kind = .function) (hx : scope.names.lookup x = some .local) (hBs : Bs ≤ 100000)
    (F : Fr h₀ L s.heap m) (N : News h₀ L s.heap news) (hK : K 0 [] news)
    (hin : ∀ i ys news, K i ys news → (∃ c, (l, listOf us.toArray c) ∈ news) ∧ ys.length ≤ Bs)
    (turn : ∀ i ys v it oi C oC D m₃ h tk news₁, us[i]? = some v → K i ys news₁ → NsObj oC m₃ → m₃ x = some v → Fr h₀ L h m → News h₀ L h ((it, oi) :: (C, oC) :: (D, lst ys) :: news₁) → Off3 it C D news₁ → (@Ne Nat it C ∧ @Ne Nat it D ∧ @Ne Nat C D) →
      CTurn prog w A (compEnvC scope cl C env) elt ifs (CEnd h₀ L m { s with heap := h, toks := tk } it oi C oC D ys (fun y news' => K (i + 1) (ys ++ [y]) news'))
        (CEnd h₀ L m { s with heap := h, toks := tk } it oi C oC D ys (fun _ news' => K (i + 1) ys news') .none) { s with heap := h, toks := tk })
    (done : ∀ ys D h tk news₁, K us.length ys news₁ → Fr h₀ L h (fun z => if z = y then some (.ref D) else m z) → News h₀ L h ((D, lst ys) :: news₁) → Off1 D news₁ → Q .none { s with heap := h, toks := tk }) :
    wpAny (model prog w) A (pyIter (.ref l)) (fun it s₂ => wpAny (model prog w) A (newList []) (fun acc s₃ => wpAny (model prog w) A (newFunctionEnv scope env.globals cl [] env.qual none .none (some env)) (fun cenv s₄ =>
      codeAny (model prog w) A (.compStart (.ListComp elt [⟨.Name x px, iter, ifs, 0⟩] scope pos) 0 it acc { cenv with scope := relabel scope env }) (compPost (model prog w) A E (some (assign (.Name y py) env)) Q acc cenv.locals) s₄) E s₃) E s₂) E s := by
  subst hLe
  obtain ⟨⟨c, hm⟩, _⟩ := hin _ _ _ hK
  refine comp_open hcell hkind F N hm ?_
  intro it C D m₂ h tk hit F' N' hC hCL hC₀ hiL hi₀ hDL hD₀ hCD hiC hiD off
  refine comp_loop1 (s := { s with heap := h, toks := tk }) (us := us) (ys₀ := []) (news := news) (l := l) Bs K hh hx hkind hBs hin hit F' N' hC hCL hC₀ hiL hi₀ hCD hiC hiD off hK ?_ ?_
  · intro i ys v oi oC m₃ h' tk' news₁ hv hK' hoC hmx F₁ N₁ off₁
    exact turn i ys v it oi C oC D m₃ h' tk' news₁ hv hK' hoC hmx F₁ N₁ off₁ ⟨hiC, hiD, hCD⟩
  · intro ys m₃ h' tk' news₁ hK' F₁ N₁ hC' off₁
    show wpAny _ A (assign (.Name y py) env (.ref D)) _ _ _
    refine wpAny_assign_Name (wpAny_storeName_local hy F₁.ns (fun h₂ hn₂ hs₂ => ?_) hp)
    have F₂ := F₁.set hn₂ hs₂
    refine ⟨m₃, hC'.sameBut hs₂ hCL, fun h'' hs'' => done ys D h'' _ news₁ hK' (F₂.change hs'' hCL hC₀) (fun p hp => ?_) off₁.one⟩
    refine ⟨(hs''.2 _ ?_).trans ((hs₂.2 _ (N₁ p hp).2.1).trans (N₁ p hp).1), (N₁ p hp).2⟩
    rcases List.mem_cons.mp hp with rfl | hp
    · exact Ne.symm hCD
    · exact (off3_ne off₁ p hp).2.1
end
end
section
open LCg (NsObj Off3 Off1 lst)
noncomputable abbrev two (elt : PySem.Expr) (x : Str) (px : Pos) (iter : PySem.Expr) (x2 : Str) (px2 : Pos) (iter2 : PySem.Expr) (scope : Scope) (pos : Pos) : PySem.Expr :=
  .ListComp elt [⟨.Name x px, iter, [], 0⟩, ⟨.Name x2 px2, iter2, [], 0⟩] scope pos
theorem turn_two0 (elt : PySem.Expr) (x : Str) (px : Pos) (iter : PySem.Expr) (x2 : Str) (px2 : Pos) (iter2 : PySem.Expr) (scope : Scope) (pos : Pos) (it acc : Value) (env : Env) :
    compTurn (two elt x px iter x2 px2 iter2 scope pos) 0 it acc env = (do
      standAt iter.pos
      match ← pyNext it with
      | none => pure (.done .next)
      | some v =>
        letOwnedTupleGo (.Name x px) it v
        assign (.Name x px) env v
        let y ← eval iter2 env
        standAt iter2.pos
        let y ← foldedSetIterable iter2 env y
        let _ ← runOwn (.compStart (two elt x px iter x2 px2 iter2 scope pos) 1 (← holding [y] (pyIter y)) acc env) env
        again (.compLoop (two elt x px iter x2 px2 iter2 scope pos) 0 it acc env)) := by rfl
theorem turn_two1 (elt : PySem.Expr) (x : Str) (px : Pos) (iter : PySem.Expr) (x2 : Str) (px2 : Pos) (iter2 : PySem.Expr) (scope : Scope) (pos : Pos) (it acc : Value) (env : Env) :
    compTurn (two elt x px iter x2 px2 iter2 scope pos) 1 it acc env = (do
      standAt iter2.pos
      match ← pyNext it with
      | none => pure (.done .next)
      | some v =>
        letOwnedTupleGo (.Name x2 px2) it v
        assign (.Name x2 px2) env v
        (do let _ ← call (.builtin "list.append") [acc, ← eval elt env])
        again (.compLoop (two elt x px iter x2 px2 iter2 scope pos) 1 it acc env)) := by rfl
section
variable {prog : Program} {w : World} {A : Around} {E : Value → Shared → Prop} {s : Shared} {env : Env} {h₀ : Heap} {L : Addr} {m : Str → Option Value} {R : Result → Shared → Prop}
  {iter iter2 : PySem.Expr} {x x2 : Str} {px px2 pe : Pos} {scope : Scope} {cl : List (Str × Addr)} {pos : Pos} {C D it l : Addr}
theorem comp_inner {it2 l2 : Addr} {us ys₀ : List Value} {c2 : Nat} {m₂ : Str → Option Value} {rest : Led}
    (hh : A.handled = none) (hx2 : scope.names.lookup x2 = some .local) (hkind : scope.kind = .function) (hd : (x2 == ("__debug__" : Str)) = false)
    (hit : s.heap.IsListIter it2 l2 0) (F : Fr h₀ L s.heap m) (N : News h₀ L s.heap ((D, lst ys₀) :: rest)) (hl2 : (l2, listOf us.toArray c2) ∈ rest) (hC : s.heap.Ns C m₂) (hCL : C ≠ L) (hC₀ : h₀.get? C = none) (hiL : it2 ≠ L) (hi₀ : h₀.get? it2 = none)
    (hCD : C ≠ D) (hiC : it2 ≠ C) (hiD : it2 ≠ D) (off : Off3 it2 C D rest) (hsz : ys₀.length + us.length ≤ 100000)
    (done : ∀ m₃ h tk, Fr h₀ L h m → News h₀ L h ((D, lst (ys₀ ++ us)) :: rest) → h.Ns C m₃ → R (.ok .next) { s with heap := h, toks := tk }) :
    codeAny (model prog w) A (.compLoop (two (.Name x2 pe) x px iter x2 px2 iter2 scope pos) 1 (.ref it2) (.ref D) (compEnvC scope cl C env)) R s := by
  refine codeAny_loop rfl (fun k s' => X4 (fun i m₃ h tk => T7 (s' = { s with heap := h, toks := tk }) (k = us.length + 1 - i) (i ≤ us.length) (h.IsListIter it2 l2 i) (Fr h₀ L h m) (News h₀ L h ((D, lst (ys₀ ++ us.take i)) :: rest)) (h.Ns C m₃))) ?_ (us.length + 1)
    ⟨0, m₂, s.heap, s.toks, rfl, rfl, Nat.zero_le _, hit, F, by simpa using N, hC⟩
  rintro k s' ⟨i, m₃, h, tk, rfl, rfl, hi, hit', F', N', hC'⟩
  show wpAny _ A ((compTurn (two (.Name x2 pe) x px iter x2 px2 iter2 scope pos) 1 (.ref it2) (.ref D) (compEnvC scope cl C env)).onRaise (fun x => do noteFrame x (compEnvC scope cl C env); theTreesLotGoes x)) _ _ _
  refine wpAny_noted ?_
  rw [turn_two1]
  have hl := N'.isList (List.Mem.tail _ hl2)
  have ne3 := off3_ne off
  refine wpAny_bind (wpAny_standAt (wpAny_bind ?_))
  by_cases hlt : i < us.length
  · refine wpAny_pyNext_list_item hit' hl (show us.toArray[i]? = some us[i] by simp [hlt]) fun h₂ hit₂ hs₂ => ?_
    refine wpAny_bind (wpAny_of_eq (show letOwnedTupleGo (.Name x2 px2) (.ref it2) us[i] = pure () from rfl) (wpAny_bind ?_))
    have hC₂ : h₂.Ns C m₃ := hC'.sameBut hs₂ (Ne.symm hiC)
    refine wpAny_assign_Name (wpAny_storeName_local (lookup_relabel_local hx2) hC₂ (fun h₃ hn₃ hs₃ => ?_) (by simp [compEnvC, relabel, hkind]))
    refine wpAny_bind (wpAny_bind ?_)
    refine wpAny_Name (wpAny_loadName_local (env := compEnvC scope cl C env) hkind (lookup_relabel_local hx2) hn₃ (if_pos rfl) ?_) hd
    have F₃ : Fr h₀ L h₃ m := (F'.change hs₂ hiL hi₀).change hs₃ hCL hC₀
    have zD := N' (D, lst (ys₀ ++ us.take i)) (.head _)
    have hD₃ : h₃.get? D = some (lst (ys₀ ++ us.take i)) := (hs₃.2 _ (Ne.symm hCD)).trans ((hs₂.2 _ (Ne.symm hiD)).trans zD.1)
    refine wpAny_bind (append_at (hsz := by show (ys₀ ++ us.take i).toArray.size ≤ sizeLine; rw [List.size_toArray, sizeLine_eq, List.length_append, List.length_take]; omega) hD₃ fun h₅ hs₅ hD₅ => ?_)
    refine wpAny_pure (wpAny_pure ⟨rfl, us.length + 1 - (i + 1), by omega, i + 1, _, h₅, _, rfl, rfl, by omega, ?_, F₃.change hs₅ zD.2.1 zD.2.2, fun p hp => ?_, hn₃.sameBut hs₅ hCD⟩)
    · obtain ⟨oi, hoi, r⟩ := hit₂
      exact ⟨oi, (hs₅.2 _ hiD).trans ((hs₃.2 _ hiC).trans hoi), r⟩
    · rcases List.mem_cons.mp hp with rfl | hp
      · refine ⟨hD₅.trans (congrArg some ((LCg.lst_snoc _ _).trans ?_)), zD.2⟩
        rw [List.append_assoc, List.take_add_one]
        simp [hlt]
      · have z := N' p (.tail _ hp)
        have n := ne3 p hp
        exact ⟨(hs₅.2 _ n.2.2).trans ((hs₃.2 _ n.2.1).trans ((hs₂.2 _ n.1).trans z.1)), z.2⟩
  · obtain rfl : i = us.length := Nat.le_antisymm hi (Nat.not_lt.mp hlt)
    rw [List.take_length] at N'
    refine wpAny_pyNext_list_end hh hit' hl (by simp) fun h₂ hs₂ => ?_
    refine wpAny_pure (done m₃ h₂ tk ?_ (fun p hp => ⟨hs₂ _ _ ?_ (N' p hp).1, (N' p hp).2⟩) (hC'.at' fun o e => hs₂ _ o (Ne.symm hiC) e))
    · refine ⟨F'.ns.at' fun o e => hs₂ _ o (Ne.symm hiL) e, fun b o e => hs₂ b o (fun q => ?_) (F'.keep b o e), F'.above⟩
      rw [q, hi₀] at e; cases e
    · rcases List.mem_cons.mp hp with rfl | hp
      · exact Ne.symm hiD
      · exact (ne3 p hp).1
/-- the end of the inner list's expression -/
inductive CEnd2 (h₀ : Heap) (L : Addr) (m : Str → Option Value) (s : Shared) (it : Addr) (oi : Obj) (C : Addr) (oC : Obj) (D : Addr) (ys : List Value) (P : List Value → Led → Prop) (v : Value) (s' : Shared)  : Prop
  | mk : ∀ (l2 : Addr) (us2 : List Value) (c2 : Nat) (h' : Heap) (tk' : Nat) (news' : Led), (v = .ref l2) → (s' = { s with heap := h', toks := tk' }) → (Fr h₀ L h' m) → (News h₀ L h' ((it, oi) :: (C, oC) :: (D, lst ys) :: news')) → (Off3 it C D news') → ((l2, listOf us2.toArray c2) ∈ news') → (P us2 news') → CEnd2 h₀ L m s it oi C oC D ys P v s'
theorem comp_loop2 {us ys₀ : List Value} {m₂ : Str → Option Value} {news : Led}
    (Bs : Nat) (K : Nat → List Value → Led → Prop)
    (hh : A.handled = none) (hx : scope.names.lookup x = some .local) (hx2 : scope.names.lookup x2 = some .local) (hkind : scope.kind = .function) (hd : (x2 == ("__debug__" : Str)) = false) (hs2 : ∀ y, foldedSetIterable iter2 (compEnvC scope cl C env) y = pure y) (hBs : Bs ≤ 100000)
    (hin : ∀ i ys news, K i ys news → (∃ c, (l, listOf us.toArray c) ∈ news) ∧ ys.length ≤ Bs)
    (hit : s.heap.IsListIter it l 0) (F : Fr h₀ L s.heap m) (N : News h₀ L s.heap ((D, lst ys₀) :: news)) (hC : s.heap.Ns C m₂) (hCL : C ≠ L) (hC₀ : h₀.get? C = none) (hiL : it ≠ L) (hi₀ : h₀.get? it = none)
    (hCD : C ≠ D) (hiC : it ≠ C) (hiD : it ≠ D) (off : Off3 it C D news) (hK : K 0 ys₀ news)
    (turn : ∀ i ys v oi oC m₃ h tk news₁, us[i]? = some v → K i ys news₁ → NsObj oC m₃ → m₃ x = some v → Fr h₀ L h m → News h₀ L h ((it, oi) :: (C, oC) :: (D, lst ys) :: news₁) → Off3 it C D news₁ →
      wpAny (model prog w) A (eval iter2 (compEnvC scope cl C env)) (CEnd2 h₀ L m { s with heap := h, toks := tk } it oi C oC D ys (fun us2 news' => K (i + 1) (ys ++ us2) news')) (fun _ _ => False) { s with heap := h, toks := tk })
    (done : ∀ ys m₃ h tk news₁, K us.length ys news₁ → Fr h₀ L h m → News h₀ L h ((D, lst ys) :: news₁) → h.Ns C m₃ → Off3 it C D news₁ → R (.ok .next) { s with heap := h, toks := tk }) :
    codeAny (model prog w) A (.compLoop (two (.Name x2 pe) x px iter x2 px2 iter2 scope pos) 0 (.ref it) (.ref D) (compEnvC scope cl C env)) R s := by
  refine codeAny_loop rfl (fun k s' => X6 (fun i ys m₃ h tk news₁ => T9 (s' = { s with heap := h, toks := tk }) (k = us.length + 1 - i) (i ≤ us.length) (K i ys news₁) (h.IsListIter it l i) (Fr h₀ L h m) (News h₀ L h ((D, lst ys) :: news₁)) (h.Ns C m₃) (Off3 it C D news₁))) ?_ (us.length + 1)
    ⟨0, ys₀, m₂, s.heap, s.toks, news, rfl, rfl, Nat.zero_le _, hK, hit, F, N, hC, off⟩
  rintro k s' ⟨i, ys, m₃, h, tk, news₁, rfl, rfl, hi, hK', hit', F', N', hC', off'⟩
  show wpAny _ A ((compTurn (two (.Name x2 pe) x px iter x2 px2 iter2 scope pos) 0 (.ref it) (.ref D) (compEnvC scope cl C env)).onRaise (fun x => do noteFrame x (compEnvC scope cl C env); theTreesLotGoes x)) _ _ _
  refine wpAny_noted ?_
  rw [turn_two0]
  obtain ⟨⟨c, hm⟩, hBy⟩ := hin _ _ _ hK'
  have hl := N'.isList (List.Mem.tail _ hm)
  have ne3 := off3_ne off'
  refine wpAny_bind (wpAny_standAt (wpAny_bind ?_))
  by_cases hlt : i < us.length
  · refine wpAny_pyNext_list_item hit' hl (show us.toArray[i]? = some us[i] by simp [hlt]) fun h₂ hit₂ hs₂ => ?_
    refine wpAny_bind (wpAny_of_eq (show letOwnedTupleGo (.Name x px) (.ref it) us[i] = pure () from rfl) (wpAny_bind ?_))
    have hC₂ : h₂.Ns C m₃ := hC'.sameBut hs₂ (Ne.symm hiC)
    refine wpAny_assign_Name (wpAny_storeName_local (lookup_relabel_local hx) hC₂ (fun h₃ hn₃ hs₃ => ?_) (by simp [compEnvC, relabel, hkind]))
    obtain ⟨oi, hoi, hci, hdi⟩ := hit₂
    obtain ⟨oC, heC, hoC⟩ := LCg.ns_obj hn₃
    have hoi₃ : h₃.get? it = some oi := (hs₃.2 _ hiC).trans hoi
    have F₃ : Fr h₀ L h₃ m := (F'.change hs₂ hiL hi₀).change hs₃ hCL hC₀
    have both : ∀ b, b ≠ it → b ≠ C → h₃.get? b = h.get? b := fun b h1 h2 => (hs₃.2 b h2).trans (hs₂.2 b h1)
    have N₃ : News h₀ L h₃ ((it, oi) :: (C, oC) :: (D, lst ys) :: news₁) := fun p hp => by
      rcases List.mem_cons.mp hp with rfl | hp
      · exact ⟨hoi₃, hiL, hi₀⟩
      rcases List.mem_cons.mp hp with rfl | hp
      · exact ⟨heC, hCL, hC₀⟩
      refine ⟨(both _ ?_ ?_).trans (N' p hp).1, (N' p hp).2⟩
      · rcases List.mem_cons.mp hp with rfl | hp
        · exact Ne.symm hiD
        · exact (ne3 p hp).1
      · rcases List.mem_cons.mp hp with rfl | hp
        · exact Ne.symm hCD
        · exact (ne3 p hp).2.1
    refine wpAny_bind (wpAny_mono (turn i ys us[i] oi oC _ h₃ (tk + 1) news₁ (by simp [hlt]) hK' hoC (by simp) F₃ N₃ off') (fun v2 s₄ h₄ => ?_) fun _ _ e => False.elim e)
    obtain ⟨l2, us2, c2, h₄, tk₄, news₄, rfl, rfl, F₄, N₄, off₄, hm₂, K₄⟩ := h₄
    refine wpAny_bind (wpAny_standAt (wpAny_bind (wpAny_of_eq (hs2 _) (wpAny_bind (wpAny_holding ?_)))))
    have ne4 := off3_ne off₄
    have hl₂ := N₄.isList (List.Mem.tail _ (List.Mem.tail _ (List.Mem.tail _ hm₂)))
    refine wpAny_pyIter_list hl₂ ?_
    have hit5 : (h₄.push { cls := .type "list_iterator", data := .fields #[.ref l2, .int 0 0] }).IsListIter h₄.objs.size l2 0 := ⟨_, Heap.get?_push_size _ rfl, rfl, rfl⟩
    have up : ∀ b o, h₄.get? b = some o → (h₄.push { cls := .type "list_iterator", data := .fields #[.ref l2, .int 0 0] }).get? b = some o := fun b o e => Heap.get?_push_of_some _ e
    have N₅ := N₄.grown up
    have F₅ := F₄.keeps up
    have hnew : ∀ p ∈ ((it, oi) :: (C, oC) :: (D, lst ys) :: news₄ : Led), p.1 ≠ h₄.objs.size := fun p hp => Nat.ne_of_lt (Heap.lt_size (N₄ p hp).1)
    have hi5L : h₄.objs.size ≠ L := Ne.symm (Nat.ne_of_lt F₄.ns.lt)
    have hi5₀ : h₀.get? h₄.objs.size = none := by
      cases e : h₀.get? h₄.objs.size with
      | none => rfl
      | some o => exact absurd (Heap.lt_size (F₄.keep _ o e)) (Nat.lt_irrefl _)
    have N₆ : News h₀ L (h₄.push { cls := .type "list_iterator", data := .fields #[.ref l2, .int 0 0] }) ((D, lst ys) :: (it, oi) :: news₄) := fun p hp => by
      rcases List.mem_cons.mp hp with rfl | hp
      · exact N₅ _ (.tail _ (.tail _ (.head _)))
      rcases List.mem_cons.mp hp with rfl | hp
      · exact N₅ _ (.head _)
      · exact N₅ _ (.tail _ (.tail _ (.tail _ hp)))
    have hC₅ : (h₄.push { cls := .type "list_iterator", data := .fields #[.ref l2, .int 0 0] }).Ns C _ := hoC.ns (N₅ (C, oC) (.tail _ (.head _))).1
    have offR : Off3 h₄.objs.size C D ((it, oi) :: news₄) := Off3.of fun p hp => by
      rcases List.mem_cons.mp hp with rfl | hp
      · exact ⟨hnew _ (.head _), hiC, hiD⟩
      · exact ⟨hnew _ (.tail _ (.tail _ (.tail _ hp))), (ne4 p hp).2⟩
    have hbound := (hin _ _ _ K₄).2
    have hCne := Ne.symm (hnew (C, oC) (.tail _ (.head _)))
    have hDne := Ne.symm (hnew (D, lst ys) (.tail _ (.tail _ (.head _))))
    have LL : ∀ R', (∀ m₃ h tk, Fr h₀ L h m → News h₀ L h ((D, lst (ys ++ us2)) :: (it, oi) :: news₄) → h.Ns C m₃ → R' (.ok .next) { s with heap := h, toks := tk }) →
        codeAny (model prog w) A (.compLoop (two (.Name x2 pe) x px iter x2 px2 iter2 scope pos) 1 (.ref h₄.objs.size) (.ref D) (compEnvC scope cl C env)) R' { s with heap := h₄.push { cls := .type "list_iterator", data := .fields #[.ref l2, .int 0 0] }, toks := tk₄ } :=
      fun R' hR => comp_inner (s := { s with heap := h₄.push { cls := .type "list_iterator", data := .fields #[.ref l2, .int 0 0] }, toks := tk₄ }) hh hx2 hkind hd hit5 F₅ N₆ (List.Mem.tail _ hm₂) hC₅ hCL hC₀ hi5L hi5₀ hCD hCne hDne offR (by rw [List.length_append] at hbound; omega) fun m₃ h tk F₇ N₇ hC₇ => hR m₃ h tk F₇ N₇ hC₇
    refine wpAny_bind (wpAny_runOwn (h := none) ?_)
    show codeAny _ A _ _ _
    have start : ∀ R', (∀ m₃ h tk, Fr h₀ L h m → News h₀ L h ((D, lst (ys ++ us2)) :: (it, oi) :: news₄) → h.Ns C m₃ → R' (.ok .next) { s with heap := h, toks := tk }) →
        codeAny (model prog w) A (.compStart (two (.Name x2 pe) x px iter x2 px2 iter2 scope pos) 1 (.ref h₄.objs.size) (.ref D) (compEnvC scope cl C env)) R' { s with heap := h₄.push { cls := .type "list_iterator", data := .fields #[.ref l2, .int 0 0] }, toks := tk₄ } := by
      intro R' hR
      refine codeAny_of_tree ?_
      show wpAny _ A ((compStart (two (.Name x2 pe) x px iter x2 px2 iter2 scope pos) 1 (.ref h₄.objs.size) (.ref D) (compEnvC scope cl C env)).onRaise (fun x => do noteFrame x (compEnvC scope cl C env); standAt theWindowsPlace)) _ _ _
      refine wpAny_notedAt ?_
      unfold compStart
      show wpAny _ _ (ask >>= _) _ _ _
      refine wpAny_bind (wpAny_askSetting (wpAny_ite ?_))
      split
      · first
          | exact wpAny_bind (wpAny_pure (wpAny_pure (And.intro rfl (LL R' hR))))
          | exact wpAny_pure (And.intro rfl (LL R' hR))
      · refine wpAny_bind (wpAny_rule ?_)
        first
          | exact wpAny_bind (wpAny_standAt (wpAny_bind (wpAny_pyIter_listiter hit5 (wpAny_pure (And.intro rfl (LL R' hR))))))
          | exact wpAny_bind (wpAny_standAt (wpAny_bind (wpAny_pyIter_listiter hit5 (wpAny_bind (wpAny_pure (wpAny_pure (And.intro rfl (LL R' hR))))))))
    refine start _ fun m₇ h₇ tk₇ F₇ N₇ hC₇ => ?_
    refine wpAny_pure ⟨rfl, us.length + 1 - (i + 1), by omega, i + 1, ys ++ us2, m₇, h₇, tk₇, news₄, rfl, rfl, by omega, K₄, ⟨oi, (N₇ (it, oi) (.tail _ (.head _))).1, hci, hdi⟩, F₇, fun p hp => ?_, hC₇, off₄⟩
    rcases List.mem_cons.mp hp with rfl | hp
    · exact N₇ _ (.head _)
    · exact N₇ _ (.tail _ (.tail _ hp))
  · obtain rfl : i = us.length := Nat.le_antisymm hi (Nat.not_lt.mp hlt)
    refine wpAny_pyNext_list_end hh hit' hl (by simp) fun h₂ hs₂ => ?_
    refine wpAny_pure (done ys m₃ h₂ tk news₁ hK' ?_ (fun p hp => ⟨hs₂ _ _ ?_ (N' p hp).1, (N' p hp).2⟩) (hC'.at' fun o e => hs₂ _ o (Ne.symm hiC) e) off')
    · refine ⟨F'.ns.at' fun o e => hs₂ _ o (Ne.symm hiL) e, fun b o e => hs₂ b o (fun q => ?_) (F'.keep b o e), F'.above⟩
      rw [q, hi₀] at e; cases e
    · rcases List.mem_cons.mp hp with rfl | hp
      · exact Ne.symm hiD
      · exact (ne3 p hp).1
end
end
section
inductive Tst
  | name (nm : Str) | any | text | node
noncomputable abbrev tupOf (its : Array Value) (n : Nat) : Obj := { cls := .type "tuple", data := .seq its n }
/-- a test's tuple in the ledger -/
noncomputable def TstAt (news : Led) (a : Addr) : Tst → Prop
  | .name nm => X4 fun t0 t1 t2 n => (a, tupOf #[.str (Str.ofString "name") t0, .str (Str.ofString "") t1, .str nm t2] n) ∈ news
  | .any => X2 fun t0 n => (a, tupOf #[.str (Str.ofString "any") t0] n) ∈ news
  | .text => X2 fun t0 n => (a, tupOf #[.str (Str.ofString "text") t0] n) ∈ news
  | .node => X2 fun t0 n => (a, tupOf #[.str (Str.ofString "node") t0] n) ∈ news
theorem TstAt.mono {news news' : Led} {a : Addr} {x : Tst} (h : TstAt news a x) (hs : ∀ p ∈ news, p ∈ news') : TstAt news' a x := by
  cases x with
  | name nm => obtain ⟨a, b, c, d, h⟩ := h; exact ⟨a, b, c, d, hs _ h⟩
  | any => obtain ⟨a, b, h⟩ := h; exact ⟨a, b, hs _ h⟩
  | text => obtain ⟨a, b, h⟩ := h; exact ⟨a, b, hs _ h⟩
  | node => obtain ⟨a, b, h⟩ := h; exact ⟨a, b, hs _ h⟩
noncomputable def axS (b : Bool) : Str := if b then Str.ofString "attribute" else Str.ofString "child"
noncomputable def prinS (b : Bool) : Str := if b then Str.ofString "attribute" else Str.ofString "element"
noncomputable def namedB (r : MRow) (nm : Str) : Bool := ([Str.ofString "element", Str.ofString "attribute"].any (· == r.kd.s)) && (r.nm == nm)
noncomputable def passB (r : MRow) (x : Tst) (b : Bool) : Bool := match x with
  | .node => true
  | .text => r.kd.s == Str.ofString "text"
  | .any => r.kd.s == prinS b
  | .name nm => namedB r nm && r.kd.s == prinS b
noncomputable def axL (r : MRow) (b : Bool) : List Int := if b then (if r.kd.s == Str.ofString "element" then r.ats else []) else r.ch
theorem kd_ns (k : Kd) : ¬ (k.s == Str.ofString "namespace") = true := by cases k <;> decide
end
section
noncomputable abbrev enumObj (it : Addr) (i : Int) (old : Value) : Obj := { cls := .type "enumerate", dict := none, data := .fields #[.none, .bool false, .ref it, rawInt i, .none, old], slots := #[] }
/-- where a turn of a loop over enumerate ends -/
inductive TurnOn2 (h₀ : Heap) (L : Addr) (x y : Addr × Obj) (J : (Str → Option Value) → Led → Prop) (s : Shared) (s' : Shared) : Prop
  | mk : ∀ m' news' h' tk', (s' = { s with heap := h', toks := tk' }) → (Fr h₀ L h' m') → (News h₀ L h' (x :: y :: news')) → ((∀ p ∈ news', p.1 ≠ x.1 ∧ p.1 ≠ y.1)) → (J m' news') → TurnOn2 h₀ L x y J s s'
noncomputable def TurnEnd2 (h₀ : Heap) (L : Addr) (x y : Addr × Obj) (J : (Str → Option Value) → Led → Prop) (Q : Flow → Shared → Prop) (s : Shared) (fl : Flow) (s' : Shared) : Prop :=
  match fl with | .ret v => Q (.ret v) s' | .brk => Q .next s' | _ => TurnOn2 h₀ L x y J s s'
section
variable {prog : Program} {w : World} {A : Around} {E : Value → Shared → Prop} {s : Shared} {env : Env} {h₀ : Heap}
/-- enumerate(list), and the loop over it -/
theorem iter_enum {xi xv : Str} {pi pv pt : Pos} {x1 : Nat} {body : List Stmt} {l : Addr} {us : List Value} {c : Nat} {m : Str → Option Value} {news : Led} {Q : Flow → Shared → Prop} {G : Value → Shared → Prop}
    (J : Nat → (Str → Option Value) → Led → Prop)
    (hh : A.handled = none) (hxi : env.kindOf xi = some .local) (hxv : env.kindOf xv = some .local) (hp : (env.scope.kind == .class || (env.scope.kind == .module && env.locals != env.globals)) = false)
    (F : Fr h₀ env.locals s.heap m) (N : News h₀ env.locals s.heap news) (hm : (l, listOf us.toArray c) ∈ news) (hJ : J 0 m news)
    (hin : ∀ i m₁ news₁, J i m₁ news₁ → ∃ c, (l, listOf us.toArray c) ∈ news₁)
    (turn : ∀ i v m₁ news₁ e it oe oi h tk t, J i m₁ news₁ → us[i]? = some v → Fr h₀ env.locals h (fun y => if y = xv then some v else if y = xi then some (.int i t) else m₁ y) → News h₀ env.locals h ((e, oe) :: (it, oi) :: news₁) → (∀ p ∈ news₁, @Ne Nat p.1 e ∧ @Ne Nat p.1 it) →
      wpAny (model prog w) A (execs body env) (TurnEnd2 h₀ env.locals (e, oe) (it, oi) (J (i + 1)) Q { s with heap := h, toks := tk }) (fun _ _ => False) { s with heap := h, toks := tk })
    (done : ∀ m₁ news₁ h tk, J us.length m₁ news₁ → Fr h₀ env.locals h m₁ → News h₀ env.locals h news₁ → Q .next { s with heap := h, toks := tk }) :
    wpAny (model prog w) A (call (.type "enumerate") [.ref l]) (fun v s₁ => wpAny (model prog w) A (pyIter v) (fun it s₂ => codeAny (model prog w) A (.forLoop (.Tuple [.Name xi pi, .Name xv pv] x1 pt) it body [] env) (fun r s' => match r with | .ok f => Q f s' | .error e => G e s') s₂) E s₁) E s := by
  refine call_enumerate_list (N.isList hm) fun h' he hit hsz up => ?_
  refine wpAny_pyIter_enum he ?_
  generalize hE : s.heap.objs.size + 1 = e at he
  generalize hI : s.heap.objs.size = it at he hit
  have hei : e ≠ it := by rw [← hE, ← hI]; exact Nat.succ_ne_self _
  have hLs : env.locals < s.heap.objs.size := F.ns.lt
  have hLi : env.locals ≠ it := by rw [← hI]; exact Nat.ne_of_lt hLs
  have hLe : env.locals ≠ e := by rw [← hE]; exact Nat.ne_of_lt (Nat.lt_succ_of_lt hLs)
  have none₀ : ∀ a, s.heap.objs.size ≤ a → h₀.get? a = none := fun a ha => by
    cases q : h₀.get? a with
    | none => rfl
    | some o' => exact absurd (Heap.lt_size (F.keep a o' q)) (Nat.not_lt.mpr ha)
  have hi₀ : h₀.get? it = none := none₀ _ (by rw [hI]; exact Nat.le_refl _)
  have he₀ : h₀.get? e = none := none₀ _ (by rw [← hE]; exact Nat.le_succ _)
  have off₀ : ∀ p ∈ news, p.1 ≠ e ∧ p.1 ≠ it := fun p hp => by
    have := Heap.lt_size (N p hp).1
    exact ⟨by rw [← hE]; exact Nat.ne_of_lt (Nat.lt_succ_of_lt this), by rw [← hI]; exact Nat.ne_of_lt this⟩
  refine codeAny_forLoop_any (fun k s' => X6 (fun i m₁ news₁ h tk old => T9 (s' = { s with heap := h, toks := tk }) (k = us.length + 1 - i) (i ≤ us.length) (J i m₁ news₁) (IsEnum h e it ((i : Nat) : Int) old) (h.IsListIter it l i) (Fr h₀ env.locals h m₁) (News h₀ env.locals h news₁) (∀ p ∈ news₁, p.1 ≠ e ∧ p.1 ≠ it))) ?_ (us.length + 1)
    ⟨0, m, news, h', s.toks, .none, rfl, rfl, Nat.zero_le _, hJ, he, hit, F.keeps up, N.grown up, off₀⟩
  rintro k s' ⟨i, m₁, news₁, H, tk, old, rfl, rfl, hi, hJ', he', hit', F', N', off'⟩
  obtain ⟨c', hm'⟩ := hin _ _ _ hJ'
  have hl' := N'.isList hm'
  by_cases hlt : i < us.length
  · refine wpAny_pyNext_enum_item he' hit' hl' (show us.toArray[i]? = some us[i] by simp [hlt]) hei fun h₁ heo hit₁ ht₁ hz₁ hk₁ => ?_
    have heH : e < H.objs.size := Heap.lt_size he'
    have hiH : it < H.objs.size := by obtain ⟨oi, hoi, _⟩ := id hit'; exact Heap.lt_size hoi
    have hLH : env.locals < H.objs.size := F'.ns.lt
    refine wpAny_letOwnedTupleGo_enum heo fun h₂ he₂ hs₂ => ?_
    replace hs₂ : Heap.SameBut e h₁ h₂ := hs₂
    have ht₂ : h₂.IsTuple H.objs.size #[.int i tk, us[i]] := ⟨_, (hs₂.2 _ (Nat.ne_of_gt heH)).trans ht₁, rfl, _, rfl⟩
    have hz₂ : h₂.objs.size = H.objs.size + 1 := hs₂.1.trans hz₁
    refine wpAny_assign_Tuple hh ht₂ rfl rfl fun h₃ hx₃ => ?_
    replace hx₃ : Heap.ExtBut h₂.objs.size h₂ h₃ := hx₃
    have old₃ : ∀ b o, b < H.objs.size → h₂.get? b = some o → h₃.get? b = some o := fun b o hb x => hx₃ b o (by rw [hz₂]; exact Nat.ne_of_lt (Nat.lt_succ_of_lt hb)) x
    have keep₃ : ∀ b o, b ≠ e → b ≠ it → H.get? b = some o → h₃.get? b = some o := fun b o h1 h2 x => old₃ b o (Heap.lt_size x) ((hs₂.2 b h1).trans (hk₁ b o h1 h2 x))
    have F₃ : Fr h₀ env.locals h₃ m₁ := ⟨F'.ns.at' fun o x => keep₃ _ o hLe hLi x, fun b o x => keep₃ b o (fun q => by rw [q, he₀] at x; cases x) (fun q => by rw [q, hi₀] at x; cases x) (F'.keep b o x), F'.above⟩
    have N₃ : News h₀ env.locals h₃ news₁ := fun p hp => ⟨keep₃ _ _ (off' p hp).1 (off' p hp).2 (N' p hp).1, (N' p hp).2⟩
    obtain ⟨oi, hoi, hci, hdi⟩ := id hit₁
    have hoi₃ : h₃.get? it = some oi := old₃ _ _ hiH ((hs₂.2 _ (Ne.symm hei)).trans hoi)
    have hoe₃ := old₃ _ _ heH he₂
    show wpAny _ A (do holding [us[i]] (assign (.Name xi pi) env (.int i tk)); do holding [] (assign (.Name xv pv) env us[i]); pure ()) _ _ _
    refine wpAny_bind (wpAny_holding (wpAny_assign_Name (wpAny_storeName_local hxi F₃.ns (fun h₄ hn₄ hs₄ => ?_) hp)))
    have F₄ := F₃.set hn₄ hs₄
    have N₄ := N₃.set hs₄
    refine wpAny_bind (wpAny_holding (wpAny_assign_Name (wpAny_storeName_local hxv F₄.ns (fun h₅ hn₅ hs₅ => wpAny_pure ?_) hp)))
    have F₅ := F₄.set hn₅ hs₅
    have N₅ := N₄.set hs₅
    have up₅ : ∀ b o, b ≠ env.locals → h₃.get? b = some o → h₅.get? b = some o := fun b o hb x => (hs₅.2 b hb).trans ((hs₄.2 b hb).trans x)
    have N₆ : News h₀ env.locals h₅ ((e, enumObj it ((i : Int) + 1) us[i]) :: (it, oi) :: news₁) := fun p hp => by
      rcases List.mem_cons.mp hp with rfl | hp
      · exact ⟨up₅ _ _ (Ne.symm hLe) hoe₃, Ne.symm hLe, he₀⟩
      rcases List.mem_cons.mp hp with rfl | hp
      · exact ⟨up₅ _ _ (Ne.symm hLi) hoi₃, Ne.symm hLi, hi₀⟩
      · exact N₅ p hp
    refine wpAny_mono (turn i us[i] m₁ news₁ e it _ oi h₅ _ tk hJ' (by simp [hlt]) F₅ N₆ off') (fun fl s₄ h₄ => ?_) fun _ _ x => False.elim x
    have fin : (X4 (fun m' news' h' tk' => T5 (s₄ = { s with heap := h', toks := tk' }) (Fr h₀ env.locals h' m') (News h₀ env.locals h' ((e, enumObj it ((i : Int) + 1) us[i]) :: (it, oi) :: news')) (∀ p ∈ news', p.1 ≠ e ∧ p.1 ≠ it) (J (i + 1) m' news'))) →
        ∃ k', k' < us.length + 1 - i ∧ X6 (fun i m₁ news₁ h tk old => T9 (s₄ = { s with heap := h, toks := tk }) (k' = us.length + 1 - i) (i ≤ us.length) (J i m₁ news₁) (IsEnum h e it ((i : Nat) : Int) old) (h.IsListIter it l i) (Fr h₀ env.locals h m₁) (News h₀ env.locals h news₁) (∀ p ∈ news₁, p.1 ≠ e ∧ p.1 ≠ it)) := by
      rintro ⟨m', news', h', tk', rfl, F₇, N₇, off₇, hJ₇⟩
      exact ⟨us.length + 1 - (i + 1), by omega, i + 1, m', news', h', tk', us[i], rfl, rfl, by omega, hJ₇, (N₇ _ (.head _)).1, ⟨oi, (N₇ (it, oi) (.tail _ (.head _))).1, hci, hdi⟩, F₇, fun p hp => N₇ p (.tail _ (.tail _ hp)), off₇⟩
    cases fl with
    | ret v => exact h₄
    | brk => exact h₄
    | next => obtain ⟨a0, a1, a2, a3, a4, a5, a6, a7, a8⟩ := h₄; exact fin ⟨a0, a1, a2, a3, a4, a5, a6, a7, a8⟩
    | cont => obtain ⟨a0, a1, a2, a3, a4, a5, a6, a7, a8⟩ := h₄; exact fin ⟨a0, a1, a2, a3, a4, a5, a6, a7, a8⟩
  · obtain rfl : i = us.length := Nat.le_antisymm hi (Nat.not_lt.mp hlt)
    refine wpAny_pyNext_enum_end hh he' hit' hl' (by simp) fun h₁ hs₁ => wpAny_pure ?_
    refine done m₁ news₁ h₁ tk hJ' ⟨F'.ns.at' fun o x => hs₁ _ o hLi x, fun b o x => hs₁ b o (fun q => ?_) (F'.keep b o x), F'.above⟩ fun p hp => ⟨hs₁ _ _ (off' p hp).2 (N' p hp).1, (N' p hp).2⟩
    rw [q, hi₀] at x; cases x
end
end
section
/-- the walk halts at this word -/
noncomputable def Stop (P : Prop) : Prop := P
theorem stop_of {P : Prop} (h : Stop P) : P := h
theorem go_on {P : Prop} (h : P) : Stop P := h
noncomputable def over : List (Str × Value) → (Str → Option Value) → Str → Option Value
  | [], m => m
  | (x, v) :: r, m => fun y => if y = x then some v else over r m y
/-- what is known of a frame's names -/
noncomputable def Knows (m : Str → Option Value) : List (Str × Value) → Prop
  | [] => True
  | p :: r => m p.1 = some p.2 ∧ Knows m r
theorem over_eq {m : Str → Option Value} : ∀ {l : List (Str × Value)}, Knows m l → over l m = m
  | [], _ => rfl
  | (x, v) :: r, h => by
    funext y
    show (if y = x then some v else over r m y) = m y
    rw [over_eq h.2]
    by_cases q : y = x
    · rw [if_pos q, q]; exact h.1.symm
    · rw [if_neg q]
theorem frOver {h₀ h : Heap} {L : Addr} {m : Str → Option Value} {l : List (Str × Value)} (F : Fr h₀ L h m) (K : Knows m l) : Fr h₀ L h (over l m) := by rw [over_eq K]; exact F
theorem knows_upd {m : Str → Option Value} {x : Str} {v : Option Value} {l : List (Str × Value)} (K : Knows m l) (hx : (l.map (·.1)).contains x = false) : Knows (fun y => if y = x then v else m y) l := by
  induction l with
  | nil => trivial
  | cons p r ih =>
    simp only [List.map_cons, List.contains_cons, Bool.or_eq_false_iff, beq_eq_false_iff_ne] at hx
    exact ⟨(if_neg (Ne.symm hx.1)).trans K.1, ih K.2 hx.2⟩
theorem off1_keys {a : Addr} {l l' : Led} (h : ∀ p ∈ l, p.1 ≠ a) (hk : l'.map (·.1) = l.map (·.1)) : ∀ p ∈ l', p.1 ≠ a := fun p hp => by
  obtain ⟨q, hq, e⟩ := List.mem_map.mp (hk ▸ List.mem_map_of_mem (f := fun x : Addr × Obj => x.1) hp)
  exact e ▸ h q hq
theorem off2_keys {a b : Addr} {l l' : Led} (h : ∀ p ∈ l, p.1 ≠ a ∧ p.1 ≠ b) (hk : l'.map (·.1) = l.map (·.1)) : ∀ p ∈ l', p.1 ≠ a ∧ p.1 ≠ b := fun p hp =>
  ⟨off1_keys (fun q hq => (h q hq).1) hk p hp, off1_keys (fun q hq => (h q hq).2) hk p hp⟩
noncomputable def selP (ps : Option Int) (ns : List Int) : List Int := match ps with
  | none => ns
  | some p => (ns.drop (p - 1).toNat).take 1
/-- a step's predicates in the ledger -/
noncomputable def PredAt (w : World) (news : Led) (pl : Addr) : Option Int → Prop
  | none => ∃ k, (pl, listOf ([] : List Value).toArray k) ∈ news
  | some p => X9 fun e d q u u1 u2 t1 t2 k => T4 ((pl, listOf [Value.ref e].toArray k) ∈ news) ((e, instObj 525 d) ∈ news) ((d, dictOf [⟨PyData.keyHash w.params (Str.ofString "value"), .str (Str.ofString "value") u, .ref q⟩] t1) ∈ news)
      ((q, tupOf #[.int p u1, .int 1 u2] t2) ∈ news)
theorem PredAt.mono {w : World} {news news' : Led} {a : Addr} {x : Option Int} (h : PredAt w news a x) (hs : ∀ p ∈ news, p ∈ news') : PredAt w news' a x := by
  cases x with
  | none => obtain ⟨k, h⟩ := h; exact ⟨k, hs _ h⟩
  | some p => obtain ⟨e, d, q, u, u1, u2, t1, t2, k, a, b, c, f⟩ := h; exact ⟨e, d, q, u, u1, u2, t1, t2, k, hs _ a, hs _ b, hs _ c, hs _ f⟩
theorem sel_step {p : Int} {ns : List Int} {i : Nat} (hp : 1 ≤ p) (hi : i < ns.length) :
    ((ns.take (i + 1)).drop (p - 1).toNat).take 1 = if p == (i : Int) + 1 then ((ns.take i).drop (p - 1).toNat).take 1 ++ [ns[i]] else ((ns.take i).drop (p - 1).toNat).take 1 := by
  have e : ns.take (i + 1) = ns.take i ++ [ns[i]] := by rw [List.take_add_one]; simp [hi]
  obtain ⟨q, rfl⟩ : ∃ q : Nat, p = (q : Int) + 1 := ⟨(p - 1).toNat, by omega⟩
  have e2 : ((q : Int) + 1 - 1).toNat = q := by omega
  rw [e2, e]
  by_cases h : q = i
  · subst h
    rw [if_pos (by simp)]
    have e3 : (ns.take q).length = q := by simp; omega
    have e4 : (ns.take q ++ [ns[q]]).drop q = [ns[q]] := by
      rw [List.drop_append_of_le_length (by omega), List.drop_eq_nil_of_le (by omega)]; rfl
    rw [e4, List.drop_eq_nil_of_le (by omega)]
    rfl
  · rw [if_neg (by simp; omega)]
    rcases Nat.lt_or_ge q i with h1 | h1
    · rw [List.drop_append_of_le_length (by simp; omega), List.take_append_of_le_length (by simp; omega)]
    · rw [List.drop_eq_nil_of_le (by simp; omega), List.drop_eq_nil_of_le (by simp; omega)]
end
section
open LCg (NsObj Off3 Off1 lst)
theorem says_defC {w : World} {mean : ExcName → Option Value} {mg mb : Str → Option Value} {dd uu : Nat} {f : Addr} {vs : List Value} {Pre : Led → Prop} {Post : Led → Led → Value → Prop}
    {name qual : Str} {params : Arguments} {body : List Stmt} {scope : Scope} {dV kV doc pm cdv ct oc : Value} {an od : Option Addr} {osl : Array (Option Value)} (binds : List (Str × Value))
    (ho : (K39 w.params).lookup f = some ⟨oc, od, .func (fnOf name qual params body scope dV kV doc pm an cdv ct), osl⟩) (hcd : codeIn (K39 w.params) cdv qual = true)
    (hbind : bindArgs (fnOf name qual params body scope dV kV doc pm an cdv ct) ⟨vs, []⟩ = pure binds) (hkd : (binds.all fun y => scope.names.lookup y.1 == some .local || scope.names.lookup y.1 == some .cell) = true)
    (hnd : ((cellsFrom 0 scope.names []).map (·.1)).Nodup)
    (hco : scope.isCoroutine = false) (hgen : scope.isGenerator = false) (hk : scope.kind = .function)
    (h : ∀ (dp un : Nat) (gd : Option (List Code)) (outer : List Env) (A₁ : Around) (base g : Heap) (L : Addr) (news cells : Led) (s : Shared),
      Below A₁ base outer g → Fr g L s.heap (bindL (envOfC qual scope L f cdv).kindOf binds fun _ => none) → (K39 w.params).In g → News g L s.heap (cells ++ news) →
      CellsAre (bindC (envOfC qual scope L f cdv).kindOf binds fun _ => none) (cellsFrom (L + 1) scope.names []) cells → (∀ p ∈ news, p.1 < L) →
      Top V39 (looseW V39 []) mean mg mb g → Pre news → dp + dd < recursionLimit → un + uu < cLine →
      wpAny (model PySem.Challenge.rw_nu0072_01.prog w) (ktrTop dp un gd qual scope L f cdv (cellsFrom (L + 1) scope.names []) outer) (execs body (envX qual scope L f cdv (cellsFrom (L + 1) scope.names []))) (DoneF g L (Post news) s) (fun _ _ => False) s) :
    Says w mean mg mb (dd + 1) (uu + 3) (.ref f) vs Pre Post := by
  intro dp un gd cn cs a ccd cl outer A₀ base h₀ L m news s Q E B F X N T hkk hpre hdp hu hret
  refine wpAny_call ?_
  refine code_defC B F X N T rfl rfl hkk ho hcd (by show dp < recursionLimit; omega) (BindsTo.of_eq hbind) hkd hnd ?_ hco hgen hk
  intro g L' h₁ tk cells FG F' N' Y B' X' T' lt'
  refine wpAny_mono (h (dp + 1) (un + 3) gd _ _ base g L' news cells { s with heap := h₁, toks := tk } B' F' X' N' Y lt' T' hpre (by omega) (by omega)) ?_ (fun _ _ e => e.elim)
  rintro fl s' ⟨m', news', h', tk', rfl, F₂, N₂, hp⟩
  exact leaveK_ F₂ N₂ fun F₃ N₃ => hret _ _ _ _ F₃ N₃ hp
inductive StepAt (w : World) (news : Led) (st : Addr) (b : Bool) (x : Tst) (ps : Option Int)  : Prop
  | mk : ∀ sd tt pl t0 t1 t2 ta, ((st, instObj 553 sd) ∈ news) → ((sd, dictOf [⟨PyData.keyHash w.params (Str.ofString "axis"), .str (Str.ofString "axis") t0, .str (axS b) ta⟩, ⟨PyData.keyHash w.params (Str.ofString "test"), .str (Str.ofString "test") t1, .ref tt⟩, ⟨PyData.keyHash w.params (Str.ofString "predicates"), .str (Str.ofString "predicates") t2, .ref pl⟩] 3) ∈ news) → (TstAt news tt x) → (PredAt w news pl ps) → (∀ p, ps = some p → 1 ≤ p) → StepAt w news st b x ps
theorem StepAt.mono {w : World} {news news' : Led} {a : Addr} {b : Bool} {x : Tst} {ps : Option Int} (h : StepAt w news a b x ps) (hs : ∀ p ∈ news, p ∈ news') : StepAt w news' a b x ps := by
  obtain ⟨sd, tt, pl, t0, t1, t2, ta, h1, h2, h3, h4, h5⟩ := h
  exact ⟨sd, tt, pl, t0, t1, t2, ta, hs _ h1, hs _ h2, h3.mono hs, h4.mono hs, h5⟩
noncomputable def passAt (T : MTree) (x : Tst) (b : Bool) (z : Int) : Bool := match rowOf T z with
  | some r => passB r x b
  | none => false
noncomputable def selM (T : MTree) (r : MRow) (b : Bool) (x : Tst) (ps : Option Int) : List Int := selP ps ((axL r b).filter (passAt T x b))
theorem selP_le {ps : Option Int} {ns : List Int} : (selP ps ns).length ≤ ns.length := by
  cases ps with
  | none => exact Nat.le_refl _
  | some p => simp [selP]; omega
theorem filter_step {f : Int → Bool} {ns : List Int} {i : Nat} {n : Int} (h : ns[i]? = some n) : (ns.take (i + 1)).filter f = if f n = true then (ns.take i).filter f ++ [n] else (ns.take i).filter f := by
  rw [List.take_add_one, h]
  cases hf : f n <;> simp [List.filter_append, hf]
section
variable {M : Model} {A : Around} {E : Value → Shared → Prop} {s : Shared} {env : Env} {h₀ : Heap} {L : Addr}
/-- a captured name within a comprehension -/
theorem ld_cell {news : Led} {scope : Scope} {cl : List (Str × Addr)} {C c : Addr} {o : Obj} {x : Str} {v : Value} {pos : Pos} {Q : Value → Shared → Prop}
    (N : News h₀ L s.heap news) (hc : cl.lookup x = some c) (hm : (c, o) ∈ news) (hd : o.data = .cell (some v)) (h : Q v s)
    (hk : (compEnvC scope cl C env).scope.kind = .function) (hx : (compEnvC scope cl C env).kindOf x = some .cell) (hb : (x == ("__debug__" : Str)) = false) :
    wpAny M A (eval (.Name x pos) (compEnvC scope cl C env)) Q E s := wpAny_Name (wpAny_loadName_cell hk hx hc ⟨o, N.get hm, hd⟩ h) hb
theorem my_comp {elt target iter : PySem.Expr} {ifs : List PySem.Expr} {rest : List Comprehension} {scope : Scope} {cl : List (Str × Addr)} {pos : Pos} {Q : Value → Shared → Prop}
    (hclos : closureFor scope env = pure cl) (hkind : scope.kind = .function) (hnames : ∀ x ∈ scope.names, x.2 = .local → scope.names.lookup x.1 = some .local)
    (h : wpAny M A (eval iter env) (fun x s₁ => wpAny M A (pyIter x) (fun it s₂ => wpAny M A (newList []) (fun acc s₃ =>
      wpAny M A (newFunctionEnv scope env.globals cl [] env.qual none .none (some env)) (fun cenv s₄ =>
        codeAny M A (.compStart (.ListComp elt (⟨target, iter, ifs, 0⟩ :: rest) scope pos) 0 it acc { cenv with scope := relabel scope env }) (compPost M A E none Q acc cenv.locals) s₄) E s₃) E s₂) E s₁) E s)
    (hs : ∀ x, foldedSetIterable iter env x = pure x := by intro _; rfl) :
    wpAny M A (eval (.ListComp elt (⟨target, iter, ifs, 0⟩ :: rest) scope pos) env) Q E s := by
  rw [eval_ListComp]
  exact wpAny_comprehension_free (use := none) rfl hs hclos hkind hnames h
theorem my_comp_use {elt target iter : PySem.Expr} {ifs : List PySem.Expr} {rest : List Comprehension} {scope : Scope} {cl : List (Str × Addr)} {y : Str} {py pos spos : Pos} {Q : Flow → Shared → Prop}
    (hsw : swapsWith (.ListComp elt (⟨target, iter, ifs, 0⟩ :: rest) scope pos) (some (.Name y py)) spos.line env = pure true)
    (hclos : closureFor scope env = pure cl) (hkind : scope.kind = .function) (hnames : ∀ x ∈ scope.names, x.2 = .local → scope.names.lookup x.1 = some .local)
    (h : wpAny M A (eval iter env) (fun x s₁ => wpAny M A (pyIter x) (fun it s₂ => wpAny M A (newList []) (fun acc s₃ =>
      wpAny M A (newFunctionEnv scope env.globals cl [] env.qual none .none (some env)) (fun cenv s₄ =>
        codeAny M A (.compStart (.ListComp elt (⟨target, iter, ifs, 0⟩ :: rest) scope pos) 0 it acc { cenv with scope := relabel scope env }) (compPost M A E (some (assign (.Name y py) env)) (fun _ s' => Q .next s') acc cenv.locals) s₄) E s₃) E s₂) E s₁) E s)
    (hs : ∀ x, foldedSetIterable iter env x = pure x := by intro _; rfl) :
    wpAny M A (exec (.Assign [.Name y py] (.ListComp elt (⟨target, iter, ifs, 0⟩ :: rest) scope pos) spos) env) Q E s := by
  rw [exec_Assign_Name_used _ _ _ _ hsw]
  refine wpAny_bind (wpAny_standAt (wpAny_bind ?_))
  show wpAny _ A (do let _ ← comprehension (.ListComp elt (⟨target, iter, ifs, 0⟩ :: rest) scope pos) scope env _ (newList []) false (eval iter env) (some (assign (.Name y py) env))) _ _ s
  exact wpAny_bind (wpAny_mono (wpAny_comprehension_free (use := some (assign (.Name y py) env)) rfl hs hclos hkind hnames h) (fun _ s' hq => wpAny_pure (wpAny_pure hq)) fun _ _ e => e)
end
end
section
/-- where a turn of a while ends -/
inductive WOn (h₀ : Heap) (L : Addr) (P : (Str → Option Value) → Led → Prop) (s : Shared) (s' : Shared) : Prop
  | mk : ∀ m' news' h' tk', (s' = { s with heap := h', toks := tk' }) → (Fr h₀ L h' m') → (News h₀ L h' news') → (P m' news') → WOn h₀ L P s s'
noncomputable def WEnd (h₀ : Heap) (L : Addr) (P : (Str → Option Value) → Led → Prop) (Q : Flow → Shared → Prop) (s : Shared) (fl : Flow) (s' : Shared) : Prop :=
  match fl with | .ret v => Q (.ret v) s' | .brk => Q .next s' | _ => WOn h₀ L P s s'
theorem my_while {prog : Program} {w : World} {A : Around} {E : Value → Shared → Prop} {s : Shared} {env : Env} {h₀ : Heap} {test : PySem.Expr} {body : List Stmt} {pos : Pos} {m : Str → Option Value} {news : Led} {Q : Flow → Shared → Prop}
    (n : Nat) (J : Nat → (Str → Option Value) → Led → Prop)
    (F : Fr h₀ env.locals s.heap m) (N : News h₀ env.locals s.heap news) (hJ : J n m news)
    (turn : ∀ n m₁ news₁ h tk, J n m₁ news₁ → Fr h₀ env.locals h m₁ → News h₀ env.locals h news₁ →
      wpAny (model prog w) A (isTrue test env (eval test env)) (fun b s₂ => if b = true then wpAny (model prog w) A (execs body env) (WEnd h₀ env.locals (fun m' news' => ∃ k, k < n ∧ J k m' news') Q { s with heap := h, toks := tk }) (fun _ _ => False) s₂ else Q .next s₂) (fun _ _ => False) { s with heap := h, toks := tk }) :
    wpAny (model prog w) A (exec (.While test body [] pos) env) Q E s := by
  refine wpAny_While (codeAny_whileLoop (fun k s' => X4 (fun m₁ news₁ h tk => T4 (s' = { s with heap := h, toks := tk }) (J k m₁ news₁) (Fr h₀ env.locals h m₁) (News h₀ env.locals h news₁))) ?_ n ⟨m, news, s.heap, s.toks, rfl, hJ, F, N⟩)
  rintro k s' ⟨m₁, news₁, h, tk, rfl, hJ', F', N'⟩
  refine wpAny_mono (turn k m₁ news₁ h tk hJ' F' N') (fun b s₂ hb => ?_) fun _ _ e => False.elim e
  cases b with
  | false => exact wpAny_pure (by simpa using hb)
  | true =>
    simp only [if_true] at hb ⊢
    refine wpAny_mono hb (fun fl s₃ h₃ => ?_) fun _ _ e => False.elim e
    have fin : (X4 (fun m' news' h' tk' => T4 (s₃ = { s with heap := h', toks := tk' }) (Fr h₀ env.locals h' m') (News h₀ env.locals h' news') (∃ j, j < k ∧ J j m' news'))) →
        ∃ j, j < k ∧ X4 (fun m₁ news₁ h tk => T4 (s₃ = { s with heap := h, toks := tk }) (J j m₁ news₁) (Fr h₀ env.locals h m₁) (News h₀ env.locals h news₁)) := by
      rintro ⟨m', news', h', tk', rfl, F₅, N₅, j, hj, hJ₅⟩
      exact ⟨j, hj, m', news', h', tk', rfl, hJ₅, F₅, N₅⟩
    cases fl with
    | ret v => exact h₃
    | brk => exact h₃
    | next => obtain ⟨a0, a1, a2, a3, a4, a5, a6, a7⟩ := h₃; exact fin ⟨a0, a1, a2, a3, a4, a5, a6, a7⟩
    | cont => obtain ⟨a0, a1, a2, a3, a4, a5, a6, a7⟩ := h₃; exact fin ⟨a0, a1, a2, a3, a4, a5, a6, a7⟩
/-- one part of a pattern: attribute?, test, position, deep? -/
structure PSp where
  attr : Bool
  tst : Tst
  pos : Option Int
  deep : Bool
inductive PartAt (w : World) (news : Led) (pa : Addr) (p : PSp)  : Prop
  | mk : ∀ pd st t0 t1, ((pa, instObj 204 pd) ∈ news) → ((pd, dictOf [⟨PyData.keyHash w.params (Str.ofString "step"), .str (Str.ofString "step") t0, .ref st⟩, ⟨PyData.keyHash w.params (Str.ofString "is_deep"), .str (Str.ofString "is_deep") t1, .bool p.deep⟩] 2) ∈ news) → (StepAt w news st p.attr p.tst p.pos) → PartAt w news pa p
theorem PartAt.mono {w : World} {news news' : Led} {a : Addr} {p : PSp} (h : PartAt w news a p) (hs : ∀ p ∈ news, p ∈ news') : PartAt w news' a p := by
  obtain ⟨pd, st, t0, t1, h1, h2, h3⟩ := h
  exact ⟨pd, st, t0, t1, hs _ h1, hs _ h2, h3.mono hs⟩
noncomputable def startV (rooted : Bool) (t : Tok) : Value := if rooted then .str (Str.ofString "root") t else .none
inductive PatAt (w : World) (news : Led) (pt : Addr) (rooted : Bool) (rows : List PSp)  : Prop
  | mk : ∀ (ptd pl : Addr) (pvs : List Value) (k : Nat) (pv : Value) (t0 t1 t2 ts : Tok), ((pt, instObj 225 ptd) ∈ news) → ((ptd, dictOf [⟨PyData.keyHash w.params (Str.ofString "start"), .str (Str.ofString "start") t0, startV rooted ts⟩, ⟨PyData.keyHash w.params (Str.ofString "parts"), .str (Str.ofString "parts") t1, .ref pl⟩, ⟨PyData.keyHash w.params (Str.ofString "priority"), .str (Str.ofString "priority") t2, pv⟩] 3) ∈ news) → ((pl, listOf pvs.toArray k) ∈ news) → (pvs.length = rows.length) → (rows.length ≤ 3) → (∀ (i : Nat) (p : PSp), rows[i]? = some p → ∃ a, pvs[i]? = some (.ref a) ∧ PartAt w news a p) → PatAt w news pt rooted rows
theorem PatAt.mono {w : World} {news news' : Led} {a : Addr} {b : Bool} {ps : List PSp} (h : PatAt w news a b ps) (hs : ∀ p ∈ news, p ∈ news') : PatAt w news' a b ps := by
  obtain ⟨ptd, pl, pvs, k, pv, t0, t1, t2, ts, h1, h2, h3, h4, h5, h6⟩ := h
  exact ⟨ptd, pl, pvs, k, pv, t0, t1, t2, ts, hs _ h1, hs _ h2, hs _ h3, h4, h5, fun i p hi => let ⟨a, e, q⟩ := h6 i p hi; ⟨a, e, q.mono hs⟩⟩
inductive LookAt (w : World) (news : Led) (lk t : Addr)  : Prop
  | mk : ∀ ld nv t0 t1 t2, ((lk, instObj 246 ld) ∈ news) → ((ld, dictOf [⟨PyData.keyHash w.params (Str.ofString "tree"), .str (Str.ofString "tree") t0, .ref t⟩, ⟨PyData.keyHash w.params (Str.ofString "names"), .str (Str.ofString "names") t1, .ref nv⟩, ⟨PyData.keyHash w.params (Str.ofString "value_of"), .str (Str.ofString "value_of") t2, .ref 633⟩] 3) ∈ news) → LookAt w news lk t
theorem LookAt.mono {w : World} {news news' : Led} {a t : Addr} (h : LookAt w news a t) (hs : ∀ p ∈ news, p ∈ news') : LookAt w news' a t := by
  obtain ⟨ld, nv, t0, t1, t2, h1, h2⟩ := h
  exact ⟨ld, nv, t0, t1, t2, hs _ h1, hs _ h2⟩
theorem axS_attr (b : Bool) : (axS b == Str.ofString "attribute") = b := by cases b <;> decide
/-- what the matching asks of a tree -/
noncomputable def WFl (T : MTree) : Prop := ∀ z r, rowOf T z = some r → (∀ p, r.par = some p → 0 ≤ p ∧ p < z ∧ ∃ rp, rowOf T p = some rp) ∧ (∀ c ∈ r.ch, ∃ r', rowOf T c = some r') ∧ (∀ c ∈ r.ats, ∃ r', rowOf T c = some r') ∧ r.ch.length ≤ 1000 ∧ r.ats.length ≤ 1000
theorem WFl.axl {T : MTree} (h : WFl T) {z : Int} {r : MRow} (hz : rowOf T z = some r) (b : Bool) : (∀ c ∈ axL r b, ∃ r', rowOf T c = some r') ∧ (axL r b).length ≤ 1000 := by
  obtain ⟨_, h2, h3, h4, h5⟩ := h z r hz
  cases b with
  | false => exact ⟨h2, h4⟩
  | true =>
    unfold axL
    simp only [if_true]
    split
    · exact ⟨h3, h5⟩
    · exact ⟨fun c hc => (nomatch hc), Nat.zero_le _⟩
noncomputable def parOf (T : MTree) (z : Int) : Option Int := (rowOf T z).bind (·.par)
noncomputable def isRootAt (T : MTree) (z : Int) : Bool := match rowOf T z with | some r => r.kd.s == Str.ofString "root" | none => false
noncomputable def fitSr (T : MTree) (p : PSp) (z : Int) (r : MRow) : Bool :=
  !((p.attr != (r.kd.s == Str.ofString "attribute")) || [Str.ofString "root", Str.ofString "namespace"].any (· == r.kd.s)) &&
  (match r.par with
   | none => false
   | some q => passB r p.tst p.attr && (p.pos.isNone || (match rowOf T q with | some rq => (selM T rq p.attr p.tst p.pos).any (· == z) | none => false)))
noncomputable def fitS (T : MTree) (p : PSp) (z : Int) : Bool := match rowOf T z with | some r => fitSr T p z r | none => false
noncomputable def climb (T : MTree) (f : Int → Bool) (deep : Bool) : Nat → Option Int → Bool
  | 0, _ => false
  | _ + 1, none => false
  | n + 1, some a => f a || (deep && climb T f deep n (parOf T a))
noncomputable def upB (T : MTree) (rooted : Bool) (f : Option (Int → Bool)) (deep : Bool) (z : Int) : Bool := match f with
  | none => if rooted then climb T (isRootAt T) deep (z.toNat + 1) (parOf T z) else true
  | some f => climb T f deep (z.toNat + 1) (parOf T z)
/-- parts: the last first -/
noncomputable def fitsB (T : MTree) (rooted : Bool) : List PSp → Int → Bool
  | [], _ => false
  | [p], z => fitS T p z && upB T rooted none p.deep z
  | p :: q :: rest, z => fitS T p z && upB T rooted (some (fitsB T rooted (q :: rest))) p.deep z
end
section
noncomputable def FitsFrom (w : World) (mean : ExcName → Option Value) (mg mb : Str → Option Value) (k : Nat) (T : MTree) : Prop :=
  ∀ (t lk pt : Addr) (rooted : Bool) (rows : List PSp) (i z : Int) (ti n : Tok) (r : MRow),
    Says w mean mg mb (80 + 2 * k + 1) (800 + 10 * k + 3) (.ref 278) [.ref pt, .int i ti, .int z n, .ref lk]
      (fun news => TreeAt w news t T ∧ rowOf T z = some r ∧ LookAt w news lk t ∧ PatAt w news pt rooted rows ∧ WFl T ∧ i = (k : Int) ∧ k < rows.length)
      (fun news news' v => news' = news ∧ v = .bool (fitsB T rooted (rows.take (k + 1)).reverse z))
theorem fitsfrom_use {w : World} {mean : ExcName → Option Value} {mg mb : Str → Option Value} {k : Nat} {T : MTree} (C : FitsFrom w mean mg mb k T) {t lk pt : Addr} {rooted : Bool} {rows : List PSp} {i z : Int} {ti n : Tok} {r : MRow}
    {dp un : Nat} {gd : Option (List Code)} {cn : Str} {cs : Scope} {a : Addr} {ccd : Value} {cl : List (Str × Addr)} {outer : List Env} {A₀ : Around} {base h₀ : Heap} {L : Addr} {m : Str → Option Value} {news : Led} {s : Shared} {Q E : Value → Shared → Prop}
    (B : Below A₀ base outer h₀) (F : Fr h₀ L s.heap m) (X : (K39 w.params).In h₀) (N : News h₀ L s.heap news) (TT : Top V39 (looseW V39 []) mean mg mb h₀) (hk : cs.kind = .function)
    (pre : TreeAt w news t T ∧ rowOf T z = some r ∧ LookAt w news lk t ∧ PatAt w news pt rooted rows ∧ WFl T ∧ i = (k : Int) ∧ k < rows.length) (hdp : dp + (80 + 2 * k + 1) < recursionLimit) (hu : un + (800 + 10 * k + 3) < cLine)
    (ret : ∀ (h' : Heap) (tk' : Nat), Fr h₀ L h' m → News h₀ L h' news → Q (.bool (fitsB T rooted (rows.take (k + 1)).reverse z)) { s with heap := h', toks := tk' }) :
    wpAny (model PySem.Challenge.rw_nu0072_01.prog w) (ktrTop dp un gd cn cs L a ccd cl outer) (call (.ref 278) [.ref pt, .int i ti, .int z n, .ref lk]) Q E s :=
  says_use (C t lk pt rooted rows i z ti n r) B F X N TT hk pre hdp hu (fun r news' h' tk' F' N' hp => by
    obtain ⟨rfl, rfl⟩ := hp
    exact ret h' tk' F' N')
theorem take_rev {α : Type} {l : List α} {k : Nat} {x : α} (h : l[k]? = some x) : (l.take (k + 1)).reverse = x :: (l.take k).reverse := by
  rw [List.take_add_one, h]; simp
theorem fitsB_one {T : MTree} {rooted : Bool} {p : PSp} {z : Int} {r : MRow} (hz : rowOf T z = some r) : fitsB T rooted [p] z = (fitSr T p z r && upB T rooted none p.deep z) := by
  simp only [fitsB, fitS, hz]
theorem fitsB_more {T : MTree} {rooted : Bool} {p q : PSp} {rest : List PSp} {z : Int} {r : MRow} (hz : rowOf T z = some r) : fitsB T rooted (p :: q :: rest) z = (fitSr T p z r && climb T (fitsB T rooted (q :: rest)) p.deep (z.toNat + 1) (parOf T z)) := by
  simp only [fitsB, fitS, hz, upB]
/-- climbing: what the loop keeps -/
noncomputable def Climbs (T : MTree) (f : Int → Bool) (deep : Bool) (n : Nat) (ab : Option Int) (target : Bool) : Prop :=
  climb T f deep n ab = target ∧ ∀ a, ab = some a → 0 ≤ a ∧ a.toNat < n ∧ ∃ ra, rowOf T a = some ra
theorem Climbs.start {T : MTree} {f : Int → Bool} {deep : Bool} {z : Int} {r : MRow} (hW : WFl T) (hz : rowOf T z = some r) : Climbs T f deep (z.toNat + 1) r.par (climb T f deep (z.toNat + 1) (parOf T z)) := by
  have e : parOf T z = r.par := by unfold parOf; rw [hz]; rfl
  refine ⟨by rw [e], fun a ha => ?_⟩
  obtain ⟨h1, h2, h3⟩ := (hW z r hz).1 a ha
  exact ⟨h1, by omega, h3⟩
theorem Climbs.none {T : MTree} {f : Int → Bool} {deep : Bool} {n : Nat} {b : Bool} (h : Climbs T f deep n none b) : b = false := by
  rw [← h.1]; cases n <;> rfl
theorem Climbs.some {T : MTree} {f : Int → Bool} {deep : Bool} {n : Nat} {b : Bool} {a : Int} (hW : WFl T) (h : Climbs T f deep n (some a) b) :
    ∃ ra j, rowOf T a = some ra ∧ j < n ∧ (f a = true → b = true) ∧ (f a = false → deep = false → b = false) ∧ (f a = false → deep = true → Climbs T f deep j ra.par b) := by
  obtain ⟨h1, h2⟩ := h
  obtain ⟨h0, hn, ra, hra⟩ := h2 a rfl
  obtain ⟨j, rfl⟩ : ∃ j, n = j + 1 := ⟨n - 1, by omega⟩
  have e : parOf T a = ra.par := by unfold parOf; rw [hra]; rfl
  simp only [climb] at h1
  refine ⟨ra, j, hra, Nat.lt_succ_self _, fun hf => ?_, fun hf hd => ?_, fun hf hd => ⟨?_, fun a' ha' => ?_⟩⟩
  · rw [← h1, hf]; rfl
  · rw [← h1, hf, hd]; rfl
  · rw [← h1, hf, hd, e]; simp
  · obtain ⟨q1, q2, q3⟩ := (hW a ra hra).1 a' ha'
    exact ⟨q1, by omega, q3⟩
end
section
noncomputable def matchB (T : MTree) (way : Bool × List PSp) (z : Int) (r : MRow) : Bool := match way.2 with
  | [] => r.kd.s == Str.ofString "root"
  | _ => fitsB T way.1 way.2.reverse z
theorem eq_nil {prog : Program} {w : World} {A : Around} {E : Value → Shared → Prop} {s : Shared} {h₀ : Heap} {L a b : Addr} {news : Led} {vs : List Value} {k c : Nat} {Q : Value → Shared → Prop}
    (N : News h₀ L s.heap news) (ha : (a, listOf vs.toArray k) ∈ news) (hb : (b, listOf ([] : List Value).toArray c) ∈ news) (hu : A.units < cLine) (h : Q (.bool vs.isEmpty) s) :
    wpAny (model prog w) A (compareOp .Eq (.ref a) (.ref b)) Q E s := by
  cases vs with
  | nil => exact SeqAt.eq_listAt (e := fun _ => true) (N.isList ha) (N.isList hb) rfl hu (by intro i hi; simp at hi) (by simpa using h)
  | cons x r => exact SeqAt.eq_list_lengthsAt (N.isList ha) (N.isList hb) (by simp) hu (by simpa using h)
end
section
inductive WaysAt (w : World) (news : Led) (wl : Addr) (ways : List (Bool × List PSp))  : Prop
  | mk : ∀ (wvs : List Value) (k : Nat), ((wl, listOf wvs.toArray k) ∈ news) → (wvs.length = ways.length) → (ways.length ≤ 3) → (∀ (i : Nat) (q : Bool × List PSp), ways[i]? = some q → ∃ a : Addr, wvs[i]? = some (.ref a) ∧ PatAt w news a q.1 q.2) → WaysAt w news wl ways
theorem WaysAt.mono {w : World} {news news' : Led} {a : Addr} {ways : List (Bool × List PSp)} (h : WaysAt w news a ways) (hs : ∀ p ∈ news, p ∈ news') : WaysAt w news' a ways := by
  obtain ⟨wvs, k, h1, h2, h3, h4⟩ := h
  exact ⟨wvs, k, hs _ h1, h2, h3, fun i q hi => let ⟨a, e, q⟩ := h4 i q hi; ⟨a, e, q.mono hs⟩⟩
theorem any_take_false {α : Type} {f : α → Bool} {l : List α} (h : ∀ q ∈ l.take l.length, f q = false) : l.any f = false := by
  rw [List.take_length] at h
  simpa [List.any_eq_false] using h
theorem take_next {α : Type} {P : α → Prop} {l : List α} {i : Nat} {a : α} (ha : l[i]? = some a) (h : ∀ q ∈ l.take i, P q) (hp : P a) : ∀ q ∈ l.take (i + 1), P q := by
  intro q hq
  rw [List.take_add_one, ha] at hq
  rcases List.mem_append.mp hq with hq | hq
  · exact h q hq
  · simp at hq; exact hq ▸ hp
theorem take_le {α : Type} {P : α → Prop} {l : List α} {i : Nat} (hi : l.length ≤ i) (h : ∀ q ∈ l.take i, P q) : ∀ q ∈ l, P q := by
  rwa [List.take_of_length_le hi] at h
end
section
theorem pigeon : ∀ (n : Nat) (l : List Nat), l.Nodup → (∀ x ∈ l, x < n) → l.length ≤ n
  | 0, l, _, h => by
    cases l with
    | nil => exact Nat.le_refl _
    | cons x _ => exact absurd (h x (.head _)) (Nat.not_lt_zero _)
  | n + 1, l, hn, h => by
    by_cases hm : n ∈ l
    · have e := List.length_erase_of_mem hm
      have ih := pigeon n (l.erase n) (hn.erase n) (fun x hx => by
        have h1 := h x (List.mem_of_mem_erase hx)
        have h2 : x ≠ n := fun q => by
          subst q
          exact (hn.mem_erase_iff.mp hx).1 rfl
        omega)
      have : 0 < l.length := List.length_pos_of_mem hm
      omega
    · have ih := pigeon n l hn (fun x hx => by
        have h1 := h x hx
        have h2 : x ≠ n := fun q => hm (q ▸ hx)
        omega)
      omega
theorem pigeonZ {n : Nat} {l : List Int} (hn : l.Nodup) (h : ∀ x ∈ l, 0 ≤ x ∧ x < (n : Int)) : l.length ≤ n := by
  have := pigeon n (l.map Int.toNat) (by
    rw [List.nodup_iff_pairwise_ne, List.pairwise_map]
    refine List.Pairwise.imp_of_mem ?_ (List.nodup_iff_pairwise_ne.mp hn)
    intro a b ha hb hab
    have h1 := h a ha
    have h2 := h b hb
    omega) (fun x hx => by
      obtain ⟨y, hy, rfl⟩ := List.mem_map.mp hx
      have := h y hy
      omega)
  simpa using this
theorem rowOf_lt {T : MTree} {z : Int} {r : MRow} (h : rowOf T z = some r) : 0 ≤ z ∧ z < (T.length : Int) := by
  unfold rowOf at h
  split at h
  · rename_i hz
    rcases Nat.lt_or_ge z.toNat T.length with h2 | h2
    · exact ⟨hz, by omega⟩
    · rw [List.getElem?_eq_none h2] at h; cases h
  · cases h
/-- a tree of the law's making -/
structure WF (T : MTree) : Prop where
  root : ∃ r, rowOf T 0 = some r ∧ r.kd = .root ∧ r.par = none
  par : ∀ z r, rowOf T z = some r → z ≠ 0 → ∃ p rp, r.par = some p ∧ 0 ≤ p ∧ p < z ∧ rowOf T p = some rp ∧ (rp.kd = .root ∨ rp.kd = .element) ∧ r.kd ≠ .root ∧ (r.kd = .attribute → rp.kd = .element ∧ z ∈ rp.ats) ∧ (r.kd ≠ .attribute → z ∈ rp.ch)
  ch : ∀ z r, rowOf T z = some r → ∀ c ∈ r.ch, z < c ∧ ∃ rc, rowOf T c = some rc ∧ rc.par = some z ∧ rc.kd ≠ .attribute ∧ rc.kd ≠ .root
  ats : ∀ z r, rowOf T z = some r → ∀ c ∈ r.ats, z < c ∧ ∃ rc, rowOf T c = some rc ∧ rc.par = some z ∧ rc.kd = .attribute
  nd : ∀ z r, rowOf T z = some r → r.ch.Nodup ∧ r.ats.Nodup
  len : T.length ≤ 30
theorem WF.le {T : MTree} (W : WF T) {l : List Int} (hn : l.Nodup) (h : ∀ x ∈ l, ∃ r, rowOf T x = some r) : l.length ≤ 30 :=
  Nat.le_trans (pigeonZ hn fun x hx => let ⟨_, e⟩ := h x hx; rowOf_lt e) W.len
theorem WF.chl {T : MTree} (W : WF T) {z : Int} {r : MRow} (h : rowOf T z = some r) : r.ch.length ≤ 30 :=
  W.le (W.nd z r h).1 fun c hc => let ⟨_, rc, e, _⟩ := W.ch z r h c hc; ⟨rc, e⟩
theorem WF.atl {T : MTree} (W : WF T) {z : Int} {r : MRow} (h : rowOf T z = some r) : r.ats.length ≤ 30 :=
  W.le (W.nd z r h).2 fun c hc => let ⟨_, rc, e, _⟩ := W.ats z r h c hc; ⟨rc, e⟩
theorem WF.axl {T : MTree} (W : WF T) {z : Int} {r : MRow} (h : rowOf T z = some r) (b : Bool) : (axL r b).length ≤ 30 ∧ (axL r b).Nodup ∧ ∀ c ∈ axL r b, ∃ rc, rowOf T c = some rc ∧ rc.par = some z := by
  cases b with
  | false => exact ⟨W.chl h, (W.nd z r h).1, fun c hc => let ⟨_, rc, e, p, _⟩ := W.ch z r h c hc; ⟨rc, e, p⟩⟩
  | true =>
    unfold axL
    simp only [if_true]
    split
    · exact ⟨W.atl h, (W.nd z r h).2, fun c hc => let ⟨_, rc, e, p, _⟩ := W.ats z r h c hc; ⟨rc, e, p⟩⟩
    · exact ⟨Nat.zero_le _, List.nodup_nil, fun c hc => (nomatch hc)⟩
theorem WF.fl {T : MTree} (W : WF T) : WFl T := fun z r h => by
  refine ⟨fun p hp => ?_, fun c hc => let ⟨_, rc, e, _⟩ := W.ch z r h c hc; ⟨rc, e⟩, fun c hc => let ⟨_, rc, e, _⟩ := W.ats z r h c hc; ⟨rc, e⟩, Nat.le_trans (W.chl h) (by decide), Nat.le_trans (W.atl h) (by decide)⟩
  by_cases h0 : z = 0
  · subst h0
    obtain ⟨r0, e, _, h2⟩ := W.root
    rw [e] at h
    cases h
    rw [h2] at hp
    cases hp
  · obtain ⟨p', rp, h1, h2, h3, h4, _⟩ := W.par z r h h0
    rw [h1] at hp
    cases hp
    exact ⟨h2, h3, rp, h4⟩
noncomputable def isEl (T : MTree) (c : Int) : Bool := match rowOf T c with | some rc => rc.kd.s == Str.ofString "element" | none => false
noncomputable def elch (T : MTree) (r : MRow) : List Int := r.ch.filter (isEl T)
theorem of_allLt {d : Nat} {l : List (Addr × Obj)} (h : AllLt d l) : ∀ p ∈ l, @LT.lt Nat _ p.1 d := by
  induction l with
  | nil => intro p hp; cases hp
  | cons x r ih =>
    intro p hp
    rcases List.mem_cons.mp hp with e | hp
    · rw [e]; exact h.1
    · exact ih h.2 p hp
inductive Reach (T : MTree) (z : Int) : Int → Prop
  | refl : Reach T z z
  | step {y c : Int} {ry : MRow} : Reach T z y → rowOf T y = some ry → c ∈ elch T ry → Reach T z c
/-- the walk downwards after i turns -/
structure BInv (T : MTree) (z : Int) (i : Nat) (fs : List Int) : Prop where
  nd : fs.Nodup
  all : ∀ x ∈ fs, (∃ rx, rowOf T x = some rx) ∧ Reach T z x ∧ z ≤ x
  par : ∀ x ∈ fs, x = z ∨ ∃ (j : Nat) (p : Int), j < i ∧ fs[j]? = some p ∧ parOf T x = some p
  closed : ∀ (j : Nat) (p : Int), j < i → fs[j]? = some p → ∀ rp, rowOf T p = some rp → ∀ c ∈ elch T rp, c ∈ fs
  here : z ∈ fs
theorem BInv.start {T : MTree} {z : Int} {r : MRow} (h : rowOf T z = some r) : BInv T z 0 [z] where
  nd := by simp
  all := fun x hx => by rw [List.mem_singleton.mp hx]; exact ⟨⟨r, h⟩, .refl, Int.le_refl _⟩
  par := fun x hx => .inl (List.mem_singleton.mp hx)
  closed := fun j p hj => absurd hj (Nat.not_lt_zero _)
  here := .head _
theorem BInv.le {T : MTree} (W : WF T) {z : Int} {i : Nat} {fs : List Int} (I : BInv T z i fs) : fs.length ≤ 30 := W.le I.nd fun x hx => (I.all x hx).1
theorem BInv.next {T : MTree} (W : WF T) {z : Int} {i : Nat} {fs : List Int} (I : BInv T z i fs) {p : Int} {rp : MRow} (hp : fs[i]? = some p) (hr : rowOf T p = some rp) : BInv T z (i + 1) (fs ++ elch T rp) := by
  have hpm := List.mem_of_getElem? hp
  obtain ⟨_, hre, hzp⟩ := I.all p hpm
  have hel : ∀ c ∈ elch T rp, p < c ∧ (∃ rc, rowOf T c = some rc) ∧ parOf T c = some p := fun c hc => by
    obtain ⟨h1, rc, h2, h3, _⟩ := W.ch p rp hr c (List.mem_filter.mp hc).1
    exact ⟨h1, ⟨rc, h2⟩, by simp [parOf, h2, h3]⟩
  have hil : i < fs.length := by
    rcases Nat.lt_or_ge i fs.length with h | h
    · exact h
    · rw [List.getElem?_eq_none h] at hp; cases hp
  have old : ∀ (j : Nat) (q : Int), fs[j]? = some q → (fs ++ elch T rp)[j]? = some q := fun j q h => by
    have : j < fs.length := by
      rcases Nat.lt_or_ge j fs.length with h2 | h2
      · exact h2
      · rw [List.getElem?_eq_none h2] at h; cases h
    rw [List.getElem?_append_left this]; exact h
  have new : ∀ (j : Nat) (q : Int), j < i + 1 → (fs ++ elch T rp)[j]? = some q → fs[j]? = some q := fun j q hj h => by
    rwa [List.getElem?_append_left (by omega)] at h
  refine ⟨?_, ?_, ?_, ?_, List.mem_append_left _ I.here⟩
  · rw [List.nodup_append]
    refine ⟨I.nd, (W.nd p rp hr).1.filter _, fun a ha b hb hab => ?_⟩
    subst hab
    obtain ⟨h1, _, h3⟩ := hel a hb
    rcases I.par a ha with rfl | ⟨j, q, hj, hq, hpa⟩
    · omega
    · rw [h3] at hpa
      cases hpa
      have := (List.getElem?_inj (i := i) (j := j) hil I.nd).mp (hp.trans hq.symm)
      omega
  · intro x hx
    rcases List.mem_append.mp hx with hx | hx
    · exact I.all x hx
    · obtain ⟨h1, h2, _⟩ := hel x hx
      exact ⟨h2, .step hre hr hx, by omega⟩
  · intro x hx
    rcases List.mem_append.mp hx with hx | hx
    · rcases I.par x hx with h | ⟨j, q, hj, hq, hpa⟩
      · exact .inl h
      · exact .inr ⟨j, q, by omega, old j q hq, hpa⟩
    · exact .inr ⟨i, p, by omega, old i p hp, (hel x hx).2.2⟩
  · intro j q hj hq rq hrq c hc
    have hq' := new j q hj hq
    rcases Nat.lt_or_ge j i with h | h
    · exact List.mem_append_left _ (I.closed j q h hq' rq hrq c hc)
    · obtain rfl : j = i := by omega
      rw [hp] at hq'
      cases hq'
      rw [hr] at hrq
      cases hrq
      exact List.mem_append_right _ hc
theorem BInv.done {T : MTree} {z : Int} {i : Nat} {fs : List Int} (I : BInv T z i fs) (hi : fs.length ≤ i) (x : Int) : x ∈ fs ↔ Reach T z x := by
  refine ⟨fun hx => (I.all x hx).2.1, fun hx => ?_⟩
  induction hx with
  | refl => exact I.here
  | step _ hr hc ih =>
    obtain ⟨j, hj, rfl⟩ := List.mem_iff_getElem.mp ih
    exact I.closed j _ (by omega) (List.getElem?_eq_getElem hj) _ hr _ hc
end
section
noncomputable def extC (a b : List Value) (c : Nat) : Nat := if (a.toArray ++ b.toArray).size == a.toArray.size then c else c + 1
theorem my_extend {prog : Program} {w : World} {A : Around} {E : Value → Shared → Prop} {s : Shared} {h₀ : Heap} {L D b : Addr} {m : Str → Option Value} {news news' : Led} {vs us : List Value} {c n2 : Nat} {Q : Value → Shared → Prop}
    (F : Fr h₀ L s.heap m) (N : News h₀ L s.heap news) (hb : (b, listOf us.toArray n2) ∈ news) (U : Upd D (listOf vs.toArray c) (listOf (vs ++ us).toArray (extC vs us c)) news news') (hfit : vs.length + us.length ≤ 100000)
    (h : ∀ h', Fr h₀ L h' m → News h₀ L h' news' → Q .none { s with heap := h' }) : wpAny (model prog w) A (call (.builtin "list.extend") [.ref D, .ref b]) Q E s := by
  obtain ⟨pre, post, rfl, rfl, a, c'⟩ := U.split
  have hm := N (D, listOf vs.toArray c) (List.mem_append.mpr (.inr (.head _)))
  have hsz' : vs.toArray.size + us.toArray.size ≤ sizeLine := by rw [List.size_toArray, List.size_toArray, sizeLine_eq]; omega
  refine call_meets PySem.F.slot_list_extend ⟨_, hm.1, rfl⟩ PySem.F.entry_list_extend (PySem.F.args_list_extend_2 _ _) (AutoSeq1.list_extend_list_list_0 D vs.toArray c b us.toArray n2 (extend_door hsz') (Nat.le_trans (Nat.le_add_right _ _) hsz') (Nat.le_succ_of_le hsz')) ⟨hm.1, (N _ hb).1, ?_⟩
  have e : vs.toArray ++ us.toArray = (vs ++ us).toArray := by simp
  have ho' : (s.heap.update D (Obj.mapSeq fun x => x ++ us.toArray)).get? D = some (listOf (vs ++ us).toArray (extC vs us c)) := by
    rw [Heap.get?_update_self _ hm.1 (by rw [mapSeq_app]; rfl), mapSeq_app, e, extC, ← e]
  exact h _ (F.change (Heap.SameBut.update ..) hm.2.1 hm.2.2) (news_set N a c' (Heap.SameBut.update ..) ho')
namespace F
theorem entry_dict_update_loop : entryFor table "dict.update.loop" = some Builtin.«dict.update.loop» := entryFor_of_tree (by kernel_rfl)
theorem plain_dict_update_loop : plainId "dict.update.loop" = true := by decide +kernel
end F
section
variable {prog : Program} {w : World} {A : Around} {R : Result → Shared → Prop} {s : Shared}
theorem upd_loop (hh : A.handled = none) {d it l : Addr} {us : List Value} {h1 : Heap} {c : Nat} {ns : List Int} {res : Value}
    (hdi : d ≠ it) (hdl : l ≠ d) (hil : l ≠ it) (hl : h1.get? l = some (listOf us.toArray c)) (hlen : us.length = ns.length) (hfit : us.length ≤ 1000)
    (hp : ∀ (i : Nat) (n : Int), ns[i]? = some n → ∃ (a : Addr) (t : Tok) (k : Nat) (x : Value), us[i]? = some (.ref a) ∧ h1.get? a = some { cls := .type "tuple", data := .seq #[.int n t, x] k } ∧ a ≠ d ∧ a ≠ it)
    (hR : ∀ (h' : Heap) (tk : Nat) (kvs : List (Int × Value)), (∀ b o, b ≠ d → b ≠ it → h1.get? b = some o → h'.get? b = some o) → h'.DictOf (intKind prog w) d kvs → (∀ x, x ∈ kvs.map (·.1) ↔ x ∈ ns) → kvs.length ≤ ns.length → R (.ok (.ret res)) { s with heap := h', toks := tk }) :
    ∀ (k i : Nat) (h : Heap) (tk : Nat) (kvs : List (Int × Value)) (j : Int), ns.length - i = k → i ≤ ns.length → (∀ b o, b ≠ d → b ≠ it → h1.get? b = some o → h.get? b = some o) → h.IsListIter it l i → h.DictOf (intKind prog w) d kvs →
      (∀ x, x ∈ kvs.map (·.1) ↔ x ∈ ns.take i) → kvs.length ≤ i →
      codeAny (model prog w) A (.builtin "dict.update.loop" ⟨[.ref d, .ref it, rawInt j, res], []⟩) R { s with heap := h, toks := tk } := by
  intro k
  induction k with
  | zero =>
    intro i h tk kvs j hk hi keep hit hD hx hle
    obtain rfl : i = ns.length := by omega
    refine codeAny_builtin F.entry_dict_update_loop ?_
    rw [Around.under_plainId F.plain_dict_update_loop _]
    show wpAny _ A.in1 (pyNext (.ref it) >>= _) _ _ _
    have hl' : h.IsList l us.toArray := ⟨_, keep _ _ hdl hil hl, rfl, _, rfl⟩
    refine wpAny_bind (wpAny_pyNext_list_end (by simp [hh]) hit hl' (by simp [hlen]) fun h2 hs2 => ?_)
    refine wpAny_pure ?_
    refine hR h2 tk kvs (fun b o h1 h2' e => hs2 b o h2' (keep b o h1 h2' e)) ?_ (by rwa [List.take_length] at hx) hle
    exact hD.extBut hs2 hdi
  | succ k ih =>
    intro i h tk kvs j hk hi keep hit hD hx hle
    have hlt : i < ns.length := by omega
    obtain ⟨a, t, kk, x, hu, ha, had, hai⟩ := hp i ns[i] (by simp [hlt])
    refine codeAny_builtin F.entry_dict_update_loop ?_
    rw [Around.under_plainId F.plain_dict_update_loop _]
    show wpAny _ A.in1 (pyNext (.ref it) >>= _) _ _ _
    have hl' : h.IsList l us.toArray := ⟨_, keep _ _ hdl hil hl, rfl, _, rfl⟩
    refine wpAny_bind (wpAny_pyNext_list_item hit hl' (show us.toArray[i]? = some (.ref a) by simpa using hu) fun h2 hit2 hs2 => ?_)
    have ha2 : h2.get? a = some { cls := .type "tuple", data := .seq #[.int ns[i] t, x] kk } := (hs2.2 a hai).trans (keep _ _ had hai ha)
    have hD2 : h2.DictOf (intKind prog w) d kvs := hD.sameBut hs2 hdi
    refine wpAny_bind (wpAny_holding ?_)
    refine wpAny_bind (wpAny_tryCatch ?_)
    unfold Builtin.Dict.pairItems
    refine wpAny_bind (wpAny_typeOf (T := "tuple") ⟨_, ha2, rfl⟩ ?_)
    rw [if_pos (by decide)]
    refine wpAny_bind (wpAny_seqItems ha2 rfl ?_)
    refine wpAny_pure ?_
    show wpAny _ _ (holding [.int ns[i] t, x] (dictSet d (.int ns[i] t) x)) _ _ _
    refine wpAny_holding ?_
    refine wpAny_dictSet_pairs (knd := intKind prog w) (k := ns[i]) (intKind_is _ _ _ _) hD2 (fun h3 hD3 hs3 => ?_) (by rw [sizeLine_eq]; omega)
    refine wpAny_pure ⟨plainId_quiet F.plain_dict_update_loop _, ih (i + 1) h3 _ _ _ (by omega) hlt ?_ ?_ hD3 ?_ ?_⟩
    · exact fun b o h1 h2' e => (hs3.2 b h1).trans ((hs2.2 b h2').trans (keep b o h1 h2' e))
    · obtain ⟨oi, hoi, hc, hd⟩ := hit2
      exact ⟨oi, (hs3.2 _ (Ne.symm hdi)).trans hoi, hc, hd⟩
    · intro y
      have hiff := hx y
      rw [List.take_add_one, List.getElem?_eq_getElem hlt]
      simp only [Option.toList_some, List.mem_append, List.mem_singleton, ← hiff]
      unfold stored
      split
      · rename_i hany
        rw [keys_map_store]
        constructor
        · exact .inl
        · rintro (h | rfl)
          · exact h
          · obtain ⟨kv, hkv, he⟩ := List.any_eq_true.mp hany
            exact List.mem_map.mpr ⟨kv, hkv, of_decide_eq_true he⟩
      · simp
    · have := stored_length_le kvs ns[i] x
      omega
end
end
section
theorem tup31 {prog : Program} {w : World} {A : Around} {E : Value → Shared → Prop} {s : Shared} {h₀ : Heap} {L a b : Addr} {news : Led} {x u : Str} {t0 t1 : Tok} {y z : Value} {n k : Nat} {Q : Value → Shared → Prop}
    (N : News h₀ L s.heap news) (ha : (a, tupOf #[.str x t0, y, z] n) ∈ news) (hb : (b, tupOf #[.str u t1] k) ∈ news) (hu : A.units < cLine) (h : Q (.bool false) s) :
    wpAny (model prog w) A (compareOp .Eq (.ref a) (.ref b)) Q E s := by
  refine SeqAt.eq_tupleAt (e := fun _ => x == u) ⟨_, N.get ha, rfl, _, rfl⟩ ⟨_, N.get hb, rfl, _, rfl⟩ hu ?_ (by simpa using h)
  intro j h1 h2
  obtain rfl : j = 0 := by simp at h2; exact h2
  exact SeqAt.EqAt.str_str _ _ _ _
theorem news_sub {h₀ h : Heap} {L : Addr} {a b : Led} (N : News h₀ L h b) (S : ∀ p ∈ a, p ∈ b) : News h₀ L h a := fun p hp => N p (S p hp)
end
section
theorem keys_none {prog : Program} {w : World} {A : Around} {E : Value → Shared → Prop} {s : Shared} {a : Addr} {xs : Array Value} {k : Nat} {Q : Option Value → Shared → Prop}
    (hx : s.heap.get? a = some { cls := .type "list", dict := none, data := .seq xs k, slots := #[] }) (hA : A.handled = none)
    (h : ∀ h' tk, (∀ b o, s.heap.get? b = some o → h'.get? b = some o) → Q none { s with heap := h', toks := tk }) :
    wpAny (model prog w) A (getAttr? (.ref a) (Str.ofString "keys")) Q E s := by
  obtain ⟨hp, g, d, tk, os⟩ := s
  have hT : ∀ tk', (⟨hp, g, d, tk', os⟩ : Shared).TypeIs (.ref a) "list" := fun _ => ⟨_, hx, rfl⟩
  have f1 := sub_AttributeError
  have f3 := F.slot_list_getattribute.lookup
  have f4 := F.slot_list_getattribute.bind (.ref a)
  have f5 := am_list_getattr_none
  have hmiss : typeLookup (.type "list") (Str.ofString "keys") = pure none := am_miss_of_fast (by kernel_rfl)
  unfold getAttr? getAttrBy? getAttrBy
  repeat (any_goals (first | assumption | exact hT _ | ((with_reducible show wpAny _ _ (call (Value.builtin "list.__getattribute__") _ _) _ _ _); refine call_meets F.slot_list_getattribute (hT _) am_entry_list_getattribute (F.args_list_getattribute_2 _ _) (meets_getattribute_miss_list a xs k #[] (Str.ofString "keys") _ hmiss (by decide +kernel) (by decide +kernel)) ⟨hx, hA, fun h' tk' e hx' => ?_⟩) | wp_step))
  obtain ⟨t', u', he⟩ := hx'.there
  show wpAny _ _ (getattributeRaised _ _ _ _ _ _ _) _ _ _
  unfold getattributeRaised
  repeat (any_goals (first | assumption | wp_step))
  exact h _ _ hx'.keeps
end
section
theorem call_dict_pairs {prog : Program} {w : World} {A : Around} {E : Value → Shared → Prop} {s : Shared} {l : Addr} {us : List Value} {c : Nat} {ns : List Int} {Q : Value → Shared → Prop}
    (hh : A.handled = none) (hl : s.heap.get? l = some (listOf us.toArray c)) (hlen : us.length = ns.length) (hfit : us.length ≤ 1000)
    (hp : ∀ (i : Nat) (n : Int), ns[i]? = some n → ∃ (a : Addr) (t : Tok) (k : Nat) (x : Value), us[i]? = some (.ref a) ∧ s.heap.get? a = some { cls := .type "tuple", data := .seq #[.int n t, x] k })
    (h : ∀ (h' : Heap) (tk : Nat) (kvs : List (Int × Value)), (∀ b o, s.heap.get? b = some o → h'.get? b = some o) → h'.DictOf (intKind prog w) s.heap.objs.size kvs → (∀ x, x ∈ kvs.map (·.1) ↔ x ∈ ns) → kvs.length ≤ ns.length → Q (.ref s.heap.objs.size) { s with heap := h', toks := tk }) :
    wpAny (model prog w) A (call (.type "dict") [.ref l]) Q E s := by
  refine callType_codes (Q₁ := fun obj s₁ => obj = .ref s.heap.objs.size ∧ s₁ = { s with heap := s.heap.push { cls := .type "dict", data := .dict #[] } }) F.kt_called_dict (F.kt_typeCall_dict_1 _) F.entry_dict_init (kt_code_dict_new _ ⟨rfl, rfl⟩) ?_
  rintro obj s₁ ⟨rfl, rfl⟩
  have hnew : (s.heap.push { cls := .type "dict", data := .dict #[] }).DictOf (intKind prog w) s.heap.objs.size [] := Heap.DictOf.new s.heap
  have up : ∀ b o, s.heap.get? b = some o → (s.heap.push { cls := .type "dict", data := .dict #[] }).get? b = some o := fun b o e => Heap.get?_push_of_some _ e
  generalize hH : s.heap.push { cls := .type "dict", data := .dict #[] } = H at hnew up
  have hHs : H.objs.size = s.heap.objs.size + 1 := by rw [← hH, Heap.size_push]
  refine ⟨hnew.typeIs, F.args_dict_init_2 _ _, ?_⟩
  unfold Builtin.«dict.__init__»
  refine wpAny_bind ?_
  unfold Builtin.Dict.selfAndRest
  refine wpAny_bind (wpAny_notOrdered_dict hnew.typeIs ?_)
  show wpAny _ _ (pure (s.heap.objs.size, [Value.ref l])) _ _ _
  refine wpAny_pure ?_
  show wpAny _ _ (Builtin.Dict.updateFrom "dict.__init__" s.heap.objs.size (.ref l) [] .none) _ _ _
  unfold Builtin.Dict.updateFrom
  refine wpAny_bind (wpAny_typeOf (T := "list") ⟨_, up _ _ hl, rfl⟩ ?_)
  rw [if_pos (by decide)]
  refine wpAny_bind (keys_none (up _ _ hl) (by simp [hh]) fun h2 tk2 k2 => ?_)
  dsimp only [Option.isNone]
  rw [if_pos rfl]
  refine wpAny_bind (wpAny_rule ?_)
  refine wpAny_bind ?_
  have hl2 : h2.get? l = some (listOf us.toArray c) := k2 _ _ (up _ _ hl)
  refine wpAny_pyIter_list (l := l) (items := us.toArray) ⟨_, hl2, rfl, _, rfl⟩ ?_
  have lts : ∀ b o, s.heap.get? b = some o → b < s.heap.objs.size := fun b o e => Heap.lt_size e
  have hsz2 : s.heap.objs.size < h2.objs.size := by
    obtain ⟨o, ho, _⟩ := Heap.dictOf_iff.mp hnew
    exact Heap.lt_size (k2 _ _ ho)
  have k3 : ∀ b o, h2.get? b = some o → (h2.push { cls := .type "list_iterator", data := .fields #[.ref l, .int 0 0] }).get? b = some o := fun b o e => Heap.get?_push_of_some _ e
  have hit3 : (h2.push { cls := .type "list_iterator", data := .fields #[.ref l, .int 0 0] }).IsListIter h2.objs.size l 0 := ⟨_, Heap.get?_push_size _ rfl, rfl, rfl⟩
  have hD3 : (h2.push { cls := .type "list_iterator", data := .fields #[.ref l, .int 0 0] }).DictOf (intKind prog w) s.heap.objs.size [] := by
    obtain ⟨o, ho, hd⟩ := Heap.dictOf_iff.mp hnew
    exact Heap.dictOf_iff.mpr ⟨o, k3 _ _ (k2 _ _ ho), hd⟩
  refine wpAny_pure ⟨plainId_quiet F.plain_dict_update_loop _, ?_⟩
  refine upd_loop (s := s) (h1 := h2.push { cls := .type "list_iterator", data := .fields #[.ref l, .int 0 0] }) (by simp [hh]) (Nat.ne_of_lt hsz2) (Nat.ne_of_lt (lts _ _ hl)) (Nat.ne_of_lt (Nat.lt_trans (lts _ _ hl) hsz2)) (k3 _ _ hl2) hlen hfit ?_ ?_ ns.length 0 _ _ [] 0 rfl (Nat.zero_le _) (fun _ _ _ _ e => e) hit3 hD3 (by simp) (Nat.le_refl _)
  · intro i n hn
    obtain ⟨a, t, k, x, h5, h6⟩ := hp i n hn
    exact ⟨a, t, k, x, h5, k3 _ _ (k2 _ _ (up _ _ h6)), Nat.ne_of_lt (lts _ _ h6), Nat.ne_of_lt (Nat.lt_trans (lts _ _ h6) hsz2)⟩
  · intro h' tk kvs hk hD hx hle
    exact ⟨rfl, h h' tk kvs (fun b o e => hk b o (Nat.ne_of_lt (lts _ _ e)) (Nat.ne_of_lt (Nat.lt_trans (lts _ _ e) hsz2)) (k3 _ _ (k2 _ _ (up _ _ e)))) hD hx hle⟩
/-- list(dict([(node, True) ..])) in the ledger's words -/
theorem my_dict {prog : Program} {w : World} {A : Around} {E : Value → Shared → Prop} {s : Shared} {h₀ : Heap} {L l : Addr} {m : Str → Option Value} {news : Led} {us : List Value} {c : Nat} {ns : List Int} {Q : Value → Shared → Prop}
    (hh : A.handled = none) (F : Fr h₀ L s.heap m) (N : News h₀ L s.heap news) (hbig : h₀.NoLimit) (hl : (l, listOf us.toArray c) ∈ news) (hlen : us.length = ns.length) (hfit : us.length ≤ 1000)
    (hp : ∀ (i : Nat) (n : Int), ns[i]? = some n → ∃ (a : Addr) (t : Tok) (k : Nat) (x : Value), us[i]? = some (.ref a) ∧ (a, tupOf #[.int n t, x] k) ∈ news)
    (h : ∀ (d : Addr) (o : Obj) (h' : Heap) (tk : Nat) (kvs : List (Int × Value)), Fr h₀ L h' m → News h₀ L h' ((d, o) :: news) → (∀ p ∈ news, p.1 < d) → (d == sysModules) = false → o.IsDictOf (intKind prog w) kvs → (∀ x, x ∈ kvs.map (·.1) ↔ x ∈ ns) → kvs.length ≤ ns.length → Q (.ref d) { s with heap := h', toks := tk }) :
    wpAny (model prog w) A (call (.type "dict") [.ref l]) Q E s := by
  refine call_dict_pairs hh (N.get hl) hlen hfit (fun i n hn => let ⟨a, t, k, x, h1, h2⟩ := hp i n hn; ⟨a, t, k, x, h1, N.get h2⟩) fun h' tk kvs hk hD hx hle => ?_
  obtain ⟨o, ho, hd⟩ := Heap.dictOf_iff.mp hD
  have hLs : L < s.heap.objs.size := F.ns.lt
  refine h _ o h' tk kvs (F.keeps hk) (fun p hp => ?_) (fun p hp => Heap.lt_size (N p hp).1) (F.notModules (modules_low hbig)) hd hx hle
  rcases List.mem_cons.mp hp with rfl | hp
  · refine ⟨ho, Nat.ne_of_gt hLs, ?_⟩
    show h₀.get? s.heap.objs.size = none
    cases e : h₀.get? s.heap.objs.size with
    | none => rfl
    | some o' => exact absurd (Heap.lt_size (F.keep _ o' e)) (Nat.lt_irrefl _)
  · exact ⟨hk _ _ (N p hp).1, (N p hp).2⟩
theorem my_list_dict {prog : Program} {w : World} {A : Around} {E : Value → Shared → Prop} {s : Shared} {h₀ : Heap} {L d : Addr} {o : Obj} {m : Str → Option Value} {news : Led} {kvs : List (Int × Value)} {Q : Value → Shared → Prop}
    (hh : A.handled = none) (F : Fr h₀ L s.heap m) (N : News h₀ L s.heap news) (hd : (d, o) ∈ news) (hds : (d == sysModules) = false) (ho : o.IsDictOf (intKind prog w) kvs) (hfit : kvs.length ≤ 1000)
    (h : ∀ (D : Addr) (c : Nat) (h' : Heap) (tk : Nat) (vs : List Value), Fr h₀ L h' m → News h₀ L h' ((D, listOf vs.toArray c) :: news) → (∀ q ∈ news, q.1 < D) → IntsAre vs (kvs.map (·.1)) → (kvs.map (·.1)).Nodup → Q (.ref D) { s with heap := h', toks := tk }) :
    wpAny (model prog w) A (call (.type "list") [.ref d]) Q E s := by
  obtain ⟨ep, hat⟩ : ∃ ep, s.heap.DictAt (intKind prog w) d kvs ep := by
    obtain ⟨es, ep, r⟩ := ho
    exact ⟨ep, _, _, N.get hd, r⟩
  refine kdl_N (kdl_dict (knd := intKind prog w) (kvs := kvs) (ep := ep) hds) hh F N hat (by rw [sizeLine_eq]; omega) fun D c h' tk vs F' N' lt hlen hv => ?_
  refine h D c h' tk vs F' N' lt ?_ ?_
  · clear hat ho F F' N N' lt h hfit
    induction kvs generalizing vs with
    | nil =>
      obtain rfl := List.length_eq_zero_iff.mp hlen
      exact .nil
    | cons q r ih =>
      cases vs with
      | nil => simp at hlen
      | cons v vs =>
        obtain ⟨k, x, h1, h2⟩ := hv 0 v rfl
        simp only [List.getElem?_cons_zero, Option.some.injEq] at h1
        subst h1
        obtain ⟨t, rfl⟩ : ∃ t, v = .int k t := Value.isInt_shape (show Value.isInt k v = true from h2)
        exact .cons _ _ (ih vs (by simpa using hlen) fun j u hu => by simpa using hv (j + 1) u (by simpa using hu))
  · obtain ⟨_, _, _, _, _, _, hn⟩ := ho
    exact hn
end
section
open LCg (NsObj Off3 Off1 lst)
section
variable {prog : Program} {w : World} {A : Around} {E : Value → Shared → Prop} {s : Shared} {env : Env} {h₀ : Heap} {L : Addr} {m : Str → Option Value}
theorem comp_list2 {iter iter2 : PySem.Expr} {x x2 : Str} {px px2 pe : Pos} {scope : Scope} {cl : List (Str × Addr)} {pos : Pos} {l : Addr} {us : List Value} {news : Led} {Q : Value → Shared → Prop}
    (Bs : Nat) (K : Nat → List Value → Led → Prop)
    (hh : A.handled = none) (hcell : ∀ y ∈ scope.names, y.2 ≠ .cell) (hkind : scope.kind = .function) (hx : scope.names.lookup x = some .local) (hx2 : scope.names.lookup x2 = some .local) (hd : (x2 == ("__debug__" : Str)) = false)
    (hs2 : ∀ C y, foldedSetIterable iter2 (compEnvC scope cl C env) y = pure y) (hBs : Bs ≤ 100000)
    (F : Fr h₀ L s.heap m) (N : News h₀ L s.heap news) (hK : K 0 [] news)
    (hin : ∀ i ys news, K i ys news → (∃ c, (l, listOf us.toArray c) ∈ news) ∧ ys.length ≤ Bs)
    (turn : ∀ i ys v it oi C oC D m₃ h tk news₁, us[i]? = some v → K i ys news₁ → NsObj oC m₃ → m₃ x = some v → Fr h₀ L h m → News h₀ L h ((it, oi) :: (C, oC) :: (D, lst ys) :: news₁) → Off3 it C D news₁ → (@Ne Nat it C ∧ @Ne Nat it D ∧ @Ne Nat C D) →
      wpAny (model prog w) A (eval iter2 (compEnvC scope cl C env)) (CEnd2 h₀ L m { s with heap := h, toks := tk } it oi C oC D ys (fun us2 news' => K (i + 1) (ys ++ us2) news')) (fun _ _ => False) { s with heap := h, toks := tk })
    (done : ∀ ys D h tk news₁, K us.length ys news₁ → Fr h₀ L h m → News h₀ L h ((D, lst ys) :: news₁) → Off1 D news₁ → Q (.ref D) { s with heap := h, toks := tk }) :
    wpAny (model prog w) A (pyIter (.ref l)) (fun it s₂ => wpAny (model prog w) A (newList []) (fun acc s₃ => wpAny (model prog w) A (newFunctionEnv scope env.globals cl [] env.qual none .none (some env)) (fun cenv s₄ =>
      codeAny (model prog w) A (.compStart (.ListComp (.Name x2 pe) [⟨.Name x px, iter, [], 0⟩, ⟨.Name x2 px2, iter2, [], 0⟩] scope pos) 0 it acc { cenv with scope := relabel scope env }) (compPost (model prog w) A E none Q acc cenv.locals) s₄) E s₃) E s₂) E s := by
  obtain ⟨⟨c, hm⟩, _⟩ := hin _ _ _ hK
  refine comp_open hcell hkind F N hm ?_
  intro it C D m₂ h tk hit F' N' hC hCL hC₀ hiL hi₀ hDL hD₀ hCD hiC hiD off
  refine comp_loop2 (s := { s with heap := h, toks := tk }) (us := us) (ys₀ := []) (news := news) (l := l) Bs K hh hx hx2 hkind hd (hs2 C) hBs hin hit F' N' hC hCL hC₀ hiL hi₀ hCD hiC hiD off hK ?_ ?_
  · intro i ys v oi oC m₃ h' tk' news₁ hv hK' hoC hmx F₁ N₁ off₁
    exact turn i ys v it oi C oC D m₃ h' tk' news₁ hv hK' hoC hmx F₁ N₁ off₁ ⟨hiC, hiD, hCD⟩
  · intro ys m₃ h' tk' news₁ hK' F₁ N₁ hC' off₁
    refine ⟨m₃, hC', fun h'' hs'' => done ys D h'' tk' news₁ hK' (F₁.change hs'' hCL hC₀) (fun p hp => ?_) off₁.one⟩
    refine ⟨(hs''.2 _ ?_).trans (N₁ p hp).1, (N₁ p hp).2⟩
    rcases List.mem_cons.mp hp with rfl | hp
    · exact Ne.symm hCD
    · exact (off3_ne off₁ p hp).2.1
end
end
section
/-- a place at which the walk halts while this is at hand -/
noncomputable def StopHere : Prop := True
inductive Mid (h₀ : Heap) (L : Addr) (P : (Str → Option Value) → Led → Prop) (s : Shared) (fl : Flow) (s' : Shared)  : Prop
  | mk : (fl = .next) → ∀ m' news' h' tk', (s' = { s with heap := h', toks := tk' }) → (Fr h₀ L h' m') → (News h₀ L h' news') → (P m' news') → Mid h₀ L P s fl s'
theorem cut {M : Model} {A : Around} {X : Sem Flow} {Q : Flow → Shared → Prop} {E : Value → Shared → Prop} {s : Shared} {h₀ : Heap} {L : Addr} (P : (Str → Option Value) → Led → Prop)
    (h : wpAny M A X (Mid h₀ L P s) (fun _ _ => False) s) (k : ∀ m' news' h' tk', Fr h₀ L h' m' → News h₀ L h' news' → P m' news' → Q .next { s with heap := h', toks := tk' }) : wpAny M A X Q E s :=
  wpAny_mono h (fun _ _ ⟨e, m', news', h', tk', e2, F, N, p⟩ => by subst e; subst e2; exact k m' news' h' tk' F N p) fun _ _ e => e.elim
noncomputable def posV : Option Int → Tok → Value
  | none, _ => .none
  | some p, t => .int p t
theorem handed_posV (o : Option Int) (t : Tok) : handedIn (posV o t) = true := by cases o <;> (simp only [posV, handedIn])
inductive RowTup (news : Led) (ra : Addr) (p : PSp)  : Prop
  | mk : ∀ (ta : Addr) (tp : Tok) (k : Nat), ((ra, tupOf #[.bool p.attr, .ref ta, posV p.pos tp, .bool p.deep] k) ∈ news) → (TstAt news ta p.tst) → RowTup news ra p
theorem RowTup.mono {news news' : Led} {a : Addr} {p : PSp} (h : RowTup news a p) (hs : ∀ p ∈ news, p ∈ news') : RowTup news' a p := by
  obtain ⟨ta, tp, k, h1, h2⟩ := h
  exact ⟨ta, tp, k, hs _ h1, h2.mono hs⟩
inductive RowsL (news : Led) (rl : Addr) (rows : List PSp)  : Prop
  | mk : ∀ (rvs : List Value) (k : Nat), ((rl, listOf rvs.toArray k) ∈ news) → (rvs.length = rows.length) → (rows.length ≤ 3) → (∀ (i : Nat) (p : PSp), rows[i]? = some p → ∃ a : Addr, rvs[i]? = some (.ref a) ∧ RowTup news a p) → RowsL news rl rows
theorem RowsL.mono {news news' : Led} {a : Addr} {rows : List PSp} (h : RowsL news a rows) (hs : ∀ p ∈ news, p ∈ news') : RowsL news' a rows := by
  obtain ⟨rvs, k, h1, h2, h3, h4⟩ := h
  exact ⟨rvs, k, hs _ h1, h2, h3, fun i p hi => let ⟨a, e, q⟩ := h4 i p hi; ⟨a, e, q.mono hs⟩⟩
noncomputable def RowsOK (rows : List PSp) : Prop := ∀ p ∈ rows, ∀ k, p.pos = some k → 1 ≤ k ∧ k ≤ 2
noncomputable def pick (T : MTree) (p : PSp) (b : Int) : List Int := match rowOf T b with
  | some rb => selM T rb p.attr p.tst p.pos
  | none => []
noncomputable def conR (r : MRow) : Bool := [Str.ofString "root", Str.ofString "element"].any (· == r.kd.s)
noncomputable def isCon (T : MTree) (x : Int) : Bool := match rowOf T x with | some r => conR r | none => false
noncomputable def Base (T : MTree) (p : PSp) (H : Int → Prop) (b : Int) : Prop := if p.deep = true then ∃ a, H a ∧ Reach T a b else H b
noncomputable def Found (T : MTree) (p : PSp) (H : Int → Prop) (x : Int) : Prop := ∃ b, Base T p H b ∧ x ∈ pick T p b
noncomputable def stW (T : MTree) (z : Int) (rows : List PSp) : (Int → Prop) × (Int → Prop) :=
  rows.foldl (fun q p => (fun x => Found T p q.1 x ∧ isCon T x = true, Found T p q.1)) (fun y => y = z ∧ isCon T z = true, fun _ => False)
noncomputable def WalkP (T : MTree) (rows : List PSp) (z x : Int) : Prop := (stW T z rows).2 x
noncomputable def Due (T : MTree) (rooted : Bool) (rows : List PSp) (Ns : List Int) (x : Int) : Prop := ∃ b, (if rooted = true then b = 0 else b = 0 ∨ b ∈ Ns) ∧ WalkP T rows b x
theorem stW_next {T : MTree} {z : Int} {rows : List PSp} {i : Nat} {p : PSp} (h : rows[i]? = some p) :
    stW T z (rows.take (i + 1)) = (fun x => Found T p (stW T z (rows.take i)).1 x ∧ isCon T x = true, Found T p (stW T z (rows.take i)).1) := by
  rw [List.take_add_one, h]
  simp [stW, List.foldl_append]
theorem pick_valid {T : MTree} (W : WF T) {p : PSp} {b x : Int} (h : x ∈ pick T p b) : ∃ rx, rowOf T x = some rx := by
  unfold pick at h
  split at h
  · rename_i rb hb
    have h2 : x ∈ axL rb p.attr := by
      unfold selM selP at h
      split at h
      · exact (List.mem_filter.mp h).1
      · exact (List.mem_filter.mp (List.mem_of_mem_drop (List.mem_of_mem_take h))).1
    obtain ⟨rx, e, _⟩ := (W.axl hb p.attr).2.2 x h2
    exact ⟨rx, e⟩
  · cases h
theorem pick_le {T : MTree} (W : WF T) {p : PSp} {b : Int} : (pick T p b).length ≤ 30 := by
  unfold pick
  split
  · rename_i rb hb
    exact Nat.le_trans selP_le (Nat.le_trans (List.length_filter_le _ _) (W.axl hb p.attr).1)
  · exact Nat.zero_le _
theorem flat_le {f : Int → List Int} (h : ∀ b, (f b).length ≤ 30) (l : List Int) : (l.flatMap f).length ≤ 30 * l.length := by
  induction l with
  | nil => exact Nat.le_refl _
  | cons a r ih => simp only [List.flatMap_cons, List.length_append, List.length_cons]; have := h a; omega
theorem flat_next {f : Int → List Int} {l : List Int} {i : Nat} {a : Int} (h : l[i]? = some a) : (l.take (i + 1)).flatMap f = (l.take i).flatMap f ++ f a := by
  rw [List.take_add_one, h]; simp
theorem take_mem_next {l : List Int} {i : Nat} {a b : Int} (h : l[i]? = some a) : b ∈ l.take (i + 1) ↔ b ∈ l.take i ∨ b = a := by
  rw [List.take_add_one, h]; simp
theorem slice_sel {vs : List Value} {ns : List Int} {k : Int} (h : IntsAre vs ns) : IntsAre ((vs.drop (k - 1).toNat).take 1) (selP (some k) ns) := by
  have hd : ∀ (j : Nat) {vs : List Value} {ns : List Int}, IntsAre vs ns → IntsAre (vs.drop j) (ns.drop j) := by
    intro j
    induction j with
    | zero => intro vs ns h; exact h
    | succ j ih =>
      intro vs ns h
      cases h with
      | nil => exact .nil
      | cons n t hr => exact ih hr
  have ht : ∀ {vs : List Value} {ns : List Int}, IntsAre vs ns → IntsAre (vs.take 1) (ns.take 1) := by
    intro vs ns h
    cases h with
    | nil => exact .nil
    | cons n t hr => exact .cons _ _ .nil
  exact ht (hd _ h)
theorem nt_of {b : Bool} (h : b = false) : ¬ b = true := by rw [h]; decide
theorem ff_of {b : Bool} (h : ¬ b = true) : b = false := by simpa using h
theorem axL_ats {r : MRow} {b : Bool} {vs : List Value} (h1 : b = true) (h2 : (r.kd.s == Str.ofString "element") = true) (h : IntsAre vs r.ats) : IntsAre vs (axL r b) := by
  rw [axL, if_pos h1, if_pos h2]; exact h
theorem axL_nil {r : MRow} {b : Bool} (h1 : b = true) (h2 : (r.kd.s == Str.ofString "element") = false) : IntsAre [] (axL r b) := by
  rw [axL, if_pos h1, if_neg (nt_of h2)]; exact .nil
theorem axL_ch {r : MRow} {b : Bool} {vs : List Value} (h1 : b = false) (h : IntsAre vs r.ch) : IntsAre vs (axL r b) := by
  rw [axL, if_neg (nt_of h1)]; exact h
theorem slice_eq {k : Int} {X : List Int} (hk : 1 ≤ k) : List.take (min k.toNat X.length - (k - 1).toNat) (List.drop (k - 1).toNat X) = selP (some k) X := by
  show _ = (X.drop (k - 1).toNat).take 1
  rcases Nat.lt_or_ge (k - 1).toNat X.length with h | h
  · rw [show min k.toNat X.length - (k - 1).toNat = 1 from by omega]
  · rw [List.drop_eq_nil_of_le h, List.take_nil, List.take_nil]
end
section
open LCg (NsObj Off3 Off1 lst)
section
variable {prog : Program} {w : World} {A : Around} {E : Value → Shared → Prop} {s : Shared} {env : Env} {h₀ : Heap}
theorem open_range {L : Addr} {n : Nat} {N9 : Int} {t : Tok} {m : Str → Option Value} {news : Led} {Q : Value → Shared → Prop}
    (hN : N9 = (n : Int)) (hn : n ≤ 1000)
    (F : Fr h₀ L s.heap m) (N : News h₀ L s.heap news)
    (h : ∀ (it : Addr) (H : Heap) (tk : Nat), IsRangeIter H it ((0 : Nat) : Int) ((n : Int) - ((0 : Nat) : Int)) 1 → Fr h₀ L H m → News h₀ L H news → (∀ p ∈ news, p.1 ≠ it) → L ≠ it → h₀.get? it = none → it < H.objs.size → Q (.ref it) { s with heap := H, toks := tk }) :
    wpAny (model prog w) A (call (.type "range") [.int N9 t]) (fun v s₁ => wpAny (model prog w) A (pyIter v) Q E s₁) E s := by
  subst hN
  refine call_range_1 ?_
  refine wpAny_pyIter_range (a := 0) (b := n) (c := 1) (t := s.toks) (u := t) (v := s.toks + 1) (Heap.get?_push_size _ rfl) (small_one (by omega) (by omega) (by omega) (by omega)) ?_
  dsimp only
  generalize hH1 : s.heap.push { cls := .type "range", data := .fields #[.int 0 s.toks, .int n t, .int 1 (s.toks + 1)] } = H1
  have e1 : H1.objs.size = s.heap.objs.size + 1 := by rw [← hH1, Heap.size_push]
  have k1 : ∀ b o, s.heap.get? b = some o → H1.get? b = some o := fun b o e => hH1 ▸ Heap.get?_push_of_some _ e
  have none₀ : ∀ a, s.heap.objs.size ≤ a → h₀.get? a = none := fun a ha => by
    cases q : h₀.get? a with
    | none => rfl
    | some o' => exact absurd (Heap.lt_size (F.keep a o' q)) (Nat.not_lt.mpr ha)
  have hLs : L < s.heap.objs.size := F.ns.lt
  have hrs : Builtin.Range.rangeSize 0 n 1 = (n : Int) := by rw [rangeSize_one]; split <;> omega
  rw [hrs]
  refine h _ _ _ ?_ ((F.keeps k1).keeps fun b o e => Heap.get?_push_of_some _ e) ((N.grown k1).grown fun b o e => Heap.get?_push_of_some _ e) (fun p hp q => ?_) ?_ (none₀ _ (by rw [e1]; exact Nat.le_succ _)) ?_
  · have := Heap.get?_push_size H1 (o := { cls := .type "range_iterator", data := .fields #[rawInt 0, rawInt n, rawInt 1] }) rfl
    simpa [IsRangeIter] using this
  · have := Heap.lt_size (N p hp).1
    rw [q, e1] at this
    exact absurd this (Nat.not_lt.mpr (Nat.le_succ _))
  · rw [e1]; exact Nat.ne_of_lt (Nat.lt_succ_of_lt hLs)
  · rw [Heap.size_push]; exact Nat.lt_succ_self _
/-- a for loop over range(n) -/
theorem iter_range {x : Str} {px : Pos} {body : List Stmt} {n : Nat} {N9 : Int} {t : Tok} {m : Str → Option Value} {news : Led} {Q : Flow → Shared → Prop} {G : Value → Shared → Prop}
    (J : Nat → (Str → Option Value) → Led → Prop)
    (hh : A.handled = none) (hx : env.kindOf x = some .local) (hp : (env.scope.kind == .class || (env.scope.kind == .module && env.locals != env.globals)) = false)
    (hN : N9 = (n : Int)) (hn : n ≤ 1000)
    (F : Fr h₀ env.locals s.heap m) (N : News h₀ env.locals s.heap news) (hJ : J 0 m news)
    (turn : ∀ i m₁ news₁ it oi h tk t, i < n → oi.cls = .type "range_iterator" → J i m₁ news₁ → Fr h₀ env.locals h (fun y => if y = x then some (.int i t) else m₁ y) → News h₀ env.locals h ((it, oi) :: news₁) → (∀ p ∈ news₁, @Ne Nat p.1 it) →
      wpAny (model prog w) A (execs body env) (TurnEnd h₀ env.locals (it, oi) (J (i + 1)) Q { s with heap := h, toks := tk }) (fun _ _ => False) { s with heap := h, toks := tk })
    (done : ∀ m₁ news₁ h tk, J n m₁ news₁ → Fr h₀ env.locals h m₁ → News h₀ env.locals h news₁ → Q .next { s with heap := h, toks := tk }) :
    wpAny (model prog w) A (call (.type "range") [.int N9 t]) (fun v s₁ => wpAny (model prog w) A (pyIter v) (fun it s₂ => codeAny (model prog w) A (.forLoop (.Name x px) it body [] env) (fun r s' => match r with | .ok f => Q f s' | .error e => G e s') s₂) E s₁) E s := by
  refine open_range hN hn F N fun it H tk₀ hit F' N' off hLi hi₀ _ => ?_
  refine codeAny_forLoop_any (fun k s' => X5 (fun i m₁ news₁ h tk => T8 (s' = { s with heap := h, toks := tk }) (k = n + 1 - i) (i ≤ n) (J i m₁ news₁) (IsRangeIter h it ((i : Nat) : Int) ((n : Int) - (i : Nat)) 1) (Fr h₀ env.locals h m₁) (News h₀ env.locals h news₁) (∀ p ∈ news₁, p.1 ≠ it))) ?_ (n + 1)
    ⟨0, m, news, H, tk₀, rfl, rfl, Nat.zero_le _, hJ, hit, F', N', off⟩
  rintro k s' ⟨i, m₁, news₁, h, tk, rfl, rfl, hi, hJ', hit', F₁, N₁, off'⟩
  by_cases hlt : i < n
  · refine wpAny_pyNext_range_item hit' (by omega) fun h₂ hit₂ hs₂ => ?_
    refine wpAny_of_eq (show letOwnedTupleGo (.Name x px) (.ref it) _ = pure () from rfl) ?_
    have F₂ : Fr h₀ env.locals h₂ m₁ := F₁.change hs₂ (Ne.symm hLi) hi₀
    have N₂ : News h₀ env.locals h₂ ((it, krsIt (((i + 1 : Nat) : Int)) ((n : Int) - ((i + 1 : Nat) : Int)) 1) :: news₁) := fun p hp => by
      rcases List.mem_cons.mp hp with rfl | hp
      · refine ⟨?_, Ne.symm hLi, hi₀⟩
        have e1 : ((i : Int) + 1) = ((i + 1 : Nat) : Int) := by omega
        have e2 : ((n : Int) - (i : Int) - 1) = (n : Int) - ((i + 1 : Nat) : Int) := by omega
        have h9 : IsRangeIter h₂ it ((i : Int) + 1) ((n : Int) - (i : Int) - 1) 1 := hit₂
        rw [e1, e2] at h9
        exact h9
      · exact ⟨(hs₂.2 _ (off' p hp)).trans (N₁ p hp).1, (N₁ p hp).2⟩
    refine wpAny_assign_Name (wpAny_storeName_local hx F₂.ns (fun h₃ hn₃ hs₃ => ?_) hp)
    have F₃ := F₂.set hn₃ hs₃
    have N₃ := N₂.set hs₃
    refine wpAny_mono (turn i m₁ news₁ it _ h₃ _ tk hlt rfl hJ' F₃ N₃ off') (fun fl s₄ h₄ => ?_) fun _ _ e => False.elim e
    have fin : (X4 (fun m' news' h' tk' => T5 (s₄ = { s with heap := h', toks := tk' }) (Fr h₀ env.locals h' m') (News h₀ env.locals h' ((it, krsIt (((i + 1 : Nat) : Int)) ((n : Int) - ((i + 1 : Nat) : Int)) 1) :: news')) (∀ p ∈ news', p.1 ≠ it) (J (i + 1) m' news'))) →
        ∃ k', k' < n + 1 - i ∧ X5 (fun i m₁ news₁ h tk => T8 (s₄ = { s with heap := h, toks := tk }) (k' = n + 1 - i) (i ≤ n) (J i m₁ news₁) (IsRangeIter h it ((i : Nat) : Int) ((n : Int) - (i : Nat)) 1) (Fr h₀ env.locals h m₁) (News h₀ env.locals h news₁) (∀ p ∈ news₁, p.1 ≠ it)) := by
      rintro ⟨m', news', h', tk', rfl, F₅, N₅, off₅, hJ₅⟩
      exact ⟨n + 1 - (i + 1), by omega, i + 1, m', news', h', tk', rfl, rfl, by omega, hJ₅, (N₅ _ (.head _)).1, F₅, fun p hp => N₅ p (.tail _ hp), off₅⟩
    cases fl with
    | ret v => exact h₄
    | brk => exact h₄
    | next => obtain ⟨a0, a1, a2, a3, a4, a5, a6, a7, a8⟩ := h₄; exact fin ⟨a0, a1, a2, a3, a4, a5, a6, a7, a8⟩
    | cont => obtain ⟨a0, a1, a2, a3, a4, a5, a6, a7, a8⟩ := h₄; exact fin ⟨a0, a1, a2, a3, a4, a5, a6, a7, a8⟩
  · obtain rfl : i = n := Nat.le_antisymm hi (Nat.not_lt.mp hlt)
    refine wpAny_pyNext_range_end hh hit' (by omega) fun h₂ hs₂ => wpAny_pure ?_
    refine done m₁ news₁ h₂ tk hJ' ⟨F₁.ns.at' fun o x => hs₂ _ o hLi x, fun b o x => hs₂ b o (fun q => ?_) (F₁.keep b o x), F₁.above⟩ fun p hp => ⟨hs₂ _ _ (off' p hp) (N₁ p hp).1, (N₁ p hp).2⟩
    rw [q, hi₀] at x; cases x
/-- rows = [elt for x in range(n)] -/
theorem comp_range_use {elt iter : PySem.Expr} {x y : Str} {px py : Pos} {scope : Scope} {cl : List (Str × Addr)} {pos : Pos} {n : Nat} {N9 : Int} {t : Tok} {L : Addr} {m : Str → Option Value} {news : Led} {Q : Value → Shared → Prop}
    (Bs : Nat) (K : Nat → List Value → Led → Prop)
    (hLe : env.locals = L) (hy : env.kindOf y = some .local) (hp : (env.scope.kind == .class || (env.scope.kind == .module && env.locals != env.globals)) = false)
    (hh : A.handled = none) (hcell : ∀ y ∈ scope.names, y.2 ≠ .cell) (hkind : scope.kind = .function) (hx : scope.names.lookup x = some .local) (hBs : Bs ≤ 100000)
    (hN : N9 = (n : Int)) (hn : n ≤ 1000)
    (F : Fr h₀ L s.heap m) (N : News h₀ L s.heap news) (hK : K 0 [] news)
    (hin : ∀ i ys news, K i ys news → ys.length ≤ Bs)
    (turn : ∀ i ys it oi C oC D m₃ h tk t news₁, i < n → oi.cls = .type "range_iterator" → K i ys news₁ → NsObj oC m₃ → m₃ x = some (.int i t) → Fr h₀ L h m → News h₀ L h ((it, oi) :: (C, oC) :: (D, lst ys) :: news₁) → Off3 it C D news₁ → (@Ne Nat it C ∧ @Ne Nat it D ∧ @Ne Nat C D) →
      wpAny (model prog w) A (eval elt (compEnvC scope cl C env)) (CEnd h₀ L m { s with heap := h, toks := tk } it oi C oC D ys (fun y news' => K (i + 1) (ys ++ [y]) news')) (fun _ _ => False) { s with heap := h, toks := tk })
    (done : ∀ ys D h tk news₁, K n ys news₁ → Fr h₀ L h (fun z => if z = y then some (.ref D) else m z) → News h₀ L h ((D, lst ys) :: news₁) → Off1 D news₁ → Q .none { s with heap := h, toks := tk }) :
    wpAny (model prog w) A (call (.type "range") [.int N9 t]) (fun v s₁ => wpAny (model prog w) A (pyIter v) (fun it s₂ => wpAny (model prog w) A (newList []) (fun acc s₃ => wpAny (model prog w) A (newFunctionEnv scope env.globals cl [] env.qual none .none (some env)) (fun cenv s₄ =>
      codeAny (model prog w) A (.compStart (.ListComp elt [⟨.Name x px, iter, [], 0⟩] scope pos) 0 it acc { cenv with scope := relabel scope env }) (compPost (model prog w) A E (some (assign (.Name y py) env)) Q acc cenv.locals) s₄) E s₃) E s₂) E s₁) E s := by
  subst hLe
  refine open_range hN hn F N fun it H tk₀ hit F' N' off hLi hi₀ hitl => ?_
  refine wpAny_newObj_type (wpAny_newFunctionEnv hcell (by intro y hy; simp at hy) (fun h₁ hns₁ hsb₁ => ?_) hkind)
  dsimp only at hns₁ hsb₁ ⊢
  generalize hH2 : H.push { cls := .type "list", dict := none, data := .seq ([] : List Value).toArray } = H2 at hns₁ hsb₁ ⊢
  have e2 : H2.objs.size = H.objs.size + 1 := by rw [← hH2, Heap.size_push]
  have k2 : ∀ b o, H.get? b = some o → H2.get? b = some o := fun b o e => hH2 ▸ Heap.get?_push_of_some _ e
  have z2 : H2.get? H.objs.size = some (lst []) := hH2 ▸ Heap.get?_push_size _ rfl
  have below : ∀ b o, H2.get? b = some o → h₁.get? b = some o := fun b o e => hsb₁.extBut b o (Nat.ne_of_lt (Heap.lt_size e)) (Heap.get?_push_of_some _ e)
  have old : ∀ b o, H.get? b = some o → h₁.get? b = some o := fun b o e => below _ _ (k2 _ _ e)
  have none₀ : ∀ a, H.objs.size ≤ a → h₀.get? a = none := fun a ha => by
    cases e : h₀.get? a with
    | none => rfl
    | some o' => exact absurd (Heap.lt_size (F'.keep a o' e)) (Nat.not_lt.mpr ha)
  have hLs : env.locals < H.objs.size := F'.ns.lt
  have lt : ∀ p ∈ news, p.1 < H.objs.size := fun p hp => Heap.lt_size (N' p hp).1
  have big : ∀ a, H.objs.size ≤ a → a ≠ env.locals := fun a ha q => by rw [q] at ha; exact absurd hLs (Nat.not_lt.mpr ha)
  have hD := below _ _ z2
  have q1 : H.objs.size ≤ H.objs.size := Nat.le_refl _
  have q2 : H.objs.size ≤ H2.objs.size := by rw [e2]; omega
  have hit1 : IsRangeIter h₁ it ((0 : Nat) : Int) ((n : Int) - ((0 : Nat) : Int)) 1 := old _ _ hit
  generalize hC : H2.objs.size = C at hns₁ hsb₁ q2 ⊢
  generalize hDD : H.objs.size = D at hD ⊢
  have hCL : C ≠ env.locals := big _ q2
  have hC₀ : h₀.get? C = none := none₀ _ q2
  have hDL : D ≠ env.locals := big _ (by rw [← hDD]; exact Nat.le_refl _)
  have hD₀ : h₀.get? D = none := none₀ _ (by rw [← hDD]; exact Nat.le_refl _)
  have hCD : C ≠ D := by rw [← hC, e2, hDD]; exact Nat.succ_ne_self _
  have hiC : it ≠ C := Nat.ne_of_lt (Nat.lt_of_lt_of_le hitl q2)
  have hiD : it ≠ D := Nat.ne_of_lt (by rw [← hDD]; exact hitl)
  have offN : Off3 it C D news := Off3.of fun p hp => by
    have := lt p hp
    exact ⟨off p hp, Nat.ne_of_lt (Nat.lt_of_lt_of_le this q2), Nat.ne_of_lt (by rw [← hDD]; exact this)⟩
  have N₁ : News h₀ env.locals h₁ ((D, lst []) :: news) := fun p hp => by
    rcases List.mem_cons.mp hp with rfl | hp
    · exact ⟨hD, hDL, hD₀⟩
    · exact ⟨old _ _ (N' p hp).1, (N' p hp).2⟩
  have LL : codeAny (model prog w) A (.compLoop (.ListComp elt [⟨.Name x px, iter, [], 0⟩] scope pos) 0 (.ref it) (.ref D) (compEnvC scope cl C env)) (compPost (model prog w) A E (some (assign (.Name y py) env)) Q (.ref D) C) { s with heap := h₁, toks := tk₀ + ([] : List (Str × Value)).length } := by
    refine codeAny_compLoop_tests (fun k s' => X6 (fun i ys m₃ h tk news₁ => T9 (s' = { s with heap := h, toks := tk }) (k = n + 1 - i) (i ≤ n) (K i ys news₁) (IsRangeIter h it ((i : Nat) : Int) ((n : Int) - (i : Nat)) 1) (Fr h₀ env.locals h m) (News h₀ env.locals h ((D, lst ys) :: news₁)) (h.Ns C m₃) (Off3 it C D news₁))) ?_ (n + 1)
      ⟨0, [], _, h₁, _, news, rfl, rfl, Nat.zero_le _, hK, hit1, F'.keeps old, N₁, hns₁, offN⟩
    rintro k s' ⟨i, ys, m₃, h, tk, news₁, rfl, rfl, hi, hK', hit', F₁, N₂, hC', off'⟩
    have hBy := hin _ _ _ hK'
    have ne3 := off3_ne off'
    by_cases hlt : i < n
    · refine wpAny_pyNext_range_item hit' (by omega) fun h₂ hit₂ hs₂ => ?_
      have hC₂ : h₂.Ns C m₃ := hC'.sameBut hs₂ (Ne.symm hiC)
      refine wpAny_assign_Name (wpAny_storeName_local (lookup_relabel_local hx) hC₂ (fun h₃ hn₃ hs₃ => ?_) (by simp [compEnvC, relabel, hkind]))
      obtain ⟨oC, heC, hoC⟩ := LCg.ns_obj hn₃
      have hit₃ : h₂.get? it = some (krsIt (((i + 1 : Nat) : Int)) ((n : Int) - ((i + 1 : Nat) : Int)) 1) := by
        have e1 : ((i : Int) + 1) = ((i + 1 : Nat) : Int) := by omega
        have e2 : ((n : Int) - (i : Int) - 1) = (n : Int) - ((i + 1 : Nat) : Int) := by omega
        have h9 : IsRangeIter h₂ it ((i : Int) + 1) ((n : Int) - (i : Int) - 1) 1 := hit₂
        rw [e1, e2] at h9
        exact h9
      have hoi₃ := (hs₃.2 _ hiC).trans hit₃
      have F₃ : Fr h₀ env.locals h₃ m := (F₁.change hs₂ (Ne.symm hLi) hi₀).change hs₃ hCL hC₀
      have both : ∀ b, b ≠ it → b ≠ C → h₃.get? b = h.get? b := fun b h1 h2 => (hs₃.2 b h2).trans (hs₂.2 b h1)
      have N₃ : News h₀ env.locals h₃ ((it, krsIt (((i + 1 : Nat) : Int)) ((n : Int) - ((i + 1 : Nat) : Int)) 1) :: (C, oC) :: (D, lst ys) :: news₁) := fun p hp => by
        rcases List.mem_cons.mp hp with rfl | hp
        · exact ⟨hoi₃, Ne.symm hLi, hi₀⟩
        rcases List.mem_cons.mp hp with rfl | hp
        · exact ⟨heC, hCL, hC₀⟩
        refine ⟨(both _ ?_ ?_).trans (N₂ p hp).1, (N₂ p hp).2⟩
        · rcases List.mem_cons.mp hp with rfl | hp
          · exact Ne.symm hiD
          · exact (ne3 p hp).1
        · rcases List.mem_cons.mp hp with rfl | hp
          · exact Ne.symm hCD
          · exact (ne3 p hp).2.1
      have T := turn i ys it _ C oC D _ h₃ (tk + 1 + 1) tk news₁ hlt rfl hK' hoC (by simp) F₃ N₃ off' ⟨hiC, hiD, hCD⟩
      refine wpAny_tests_nil ?_
      simp only [if_true]
      refine wpAny_mono T (fun yv s₄ h₄' => ?_) fun _ _ e => False.elim e
      obtain ⟨h₄, tk₄, news₄, rfl, F₄, N₄, off₄, K₄⟩ := h₄'
      have ne4 := off3_ne off₄
      have zD := N₄ (D, lst ys) (.tail _ (.tail _ (.head _)))
      refine append_at (hsz := by show ys.toArray.size ≤ sizeLine; rw [List.size_toArray, sizeLine_eq]; omega) zD.1 fun h₅ hs₅ hD₅ => ?_
      refine ⟨n + 1 - (i + 1), by omega, i + 1, ys ++ [yv], _, h₅, tk₄, news₄, rfl, rfl, by omega, K₄, (hs₅.2 _ hiD).trans (N₄ _ (.head _)).1, F₄.change hs₅ zD.2.1 zD.2.2, fun p hp => ?_, hoC.ns ((hs₅.2 _ hCD).trans (N₄ (C, oC) (.tail _ (.head _))).1), off₄⟩
      rcases List.mem_cons.mp hp with rfl | hp
      · exact ⟨hD₅.trans (congrArg some (LCg.lst_snoc ys yv)), zD.2⟩
      · have z := N₄ p (.tail _ (.tail _ (.tail _ hp)))
        exact ⟨(hs₅.2 _ (ne4 p hp).2.2).trans z.1, z.2⟩
    · obtain rfl : i = n := Nat.le_antisymm hi (Nat.not_lt.mp hlt)
      refine wpAny_pyNext_range_end hh hit' (by omega) fun h₂ hs₂ => ?_
      have F₂ : Fr h₀ env.locals h₂ m := by
        refine ⟨F₁.ns.at' fun o e => hs₂ _ o hLi e, fun b o e => hs₂ b o (fun q => ?_) (F₁.keep b o e), F₁.above⟩
        rw [q, hi₀] at e; cases e
      have N₃ : News h₀ env.locals h₂ ((D, lst ys) :: news₁) := fun p hp => ⟨hs₂ _ _ (by
        rcases List.mem_cons.mp hp with rfl | hp
        · exact Ne.symm hiD
        · exact (ne3 p hp).1) (N₂ p hp).1, (N₂ p hp).2⟩
      have hC₂ : h₂.Ns C m₃ := hC'.at' fun o e => hs₂ _ o (Ne.symm hiC) e
      show wpAny _ A (assign (.Name y py) env (.ref D)) _ _ _
      refine wpAny_assign_Name (wpAny_storeName_local hy F₂.ns (fun h₃ hn₃ hs₃ => ?_) hp)
      have F₃ := F₂.set hn₃ hs₃
      refine ⟨m₃, hC₂.sameBut hs₃ hCL, fun h'' hs'' => done ys D h'' _ news₁ hK' (F₃.change hs'' hCL hC₀) (fun p hp => ?_) off'.one⟩
      refine ⟨(hs''.2 _ ?_).trans ((hs₃.2 _ (N₃ p hp).2.1).trans (N₃ p hp).1), (N₃ p hp).2⟩
      rcases List.mem_cons.mp hp with rfl | hp
      · exact Ne.symm hCD
      · exact (off3_ne off' p hp).2.1
  exact codeAny_compStart_list LL (wpAny_pyIter_rangeiter hit1 LL)
end
end
section
/-- a ledger names one object at an address -/
noncomputable def Fun1 (news : Led) : Prop := ∀ (a : Addr) (o o' : Obj), (a, o) ∈ news → (a, o') ∈ news → o = o'
theorem fun1_of {h₀ h : Heap} {L : Addr} {news : Led} (N : News h₀ L h news) : Fun1 news := fun a o o' h1 h2 => by
  have e1 := (N _ h1).1
  have e2 := (N _ h2).1
  exact Option.some.inj (e1.symm.trans e2)
noncomputable def setL (D : Addr) (o : Obj) (news : Led) : Led := (D, o) :: news.filter fun p => decide (@Ne Nat p.1 D)
theorem mem_setL {D : Addr} {o : Obj} {news : Led} {p : Addr × Obj} (h : p ∈ news) (hne : @Ne Nat p.1 D) : p ∈ setL D o news :=
  .tail _ (List.mem_filter.mpr ⟨h, by simpa using hne⟩)
theorem setL_upd {D : Addr} {o o' : Obj} {news : Led} : Upd D o o' ((D, o) :: news.filter fun p => decide (@Ne Nat p.1 D)) (setL D o' news) :=
  .head fun p hp => by simpa using (List.mem_filter.mp hp).2
theorem news_filter {h₀ h : Heap} {L D : Addr} {o : Obj} {news : Led} (N : News h₀ L h news) (hm : (D, o) ∈ news) : News h₀ L h ((D, o) :: news.filter fun p => decide (@Ne Nat p.1 D)) := fun p hp => by
  rcases List.mem_cons.mp hp with rfl | hp
  · exact N _ hm
  · exact N _ (List.mem_filter.mp hp).1
section
variable {prog : Program} {w : World} {A : Around} {E : Value → Shared → Prop} {s : Shared} {h₀ : Heap} {L D : Addr} {m : Str → Option Value} {news : Led}
/-- append, whatever else the ledger holds -/
theorem app_any {vs : List Value} {c : Nat} {x : Value} {Q : Value → Shared → Prop}
    (F : Fr h₀ L s.heap m) (N : News h₀ L s.heap news) (hm : (D, listOf vs.toArray c) ∈ news) (hfit : vs.length ≤ 100000)
    (h : ∀ h' news', Fr h₀ L h' m → News h₀ L h' news' → (D, listOf (vs ++ [x]).toArray (c + 1)) ∈ news' → (∀ p ∈ news, @Ne Nat p.1 D → p ∈ news') → Q .none { s with heap := h' }) : wpAny (model prog w) A (call (.builtin "list.append") [.ref D, x]) Q E s :=
  my_append F (news_filter N hm) setL_upd hfit fun h' F' N' => h h' _ F' N' (.head _) fun p hp hne => mem_setL hp hne
theorem set_any {vs : List Value} {c : Nat} {k : Int} {t : Tok} {x : Value} {Q : Unit → Shared → Prop}
    (F : Fr h₀ L s.heap m) (N : News h₀ L s.heap news) (hm : (D, listOf vs.toArray c) ∈ news) (h0 : 0 ≤ k) (hk : k.toNat < vs.length) (hfit : vs.length ≤ 100000)
    (h : ∀ h' c' news', Fr h₀ L h' m → News h₀ L h' news' → (D, listOf (vs.set k.toNat x).toArray c') ∈ news' → (∀ p ∈ news, @Ne Nat p.1 D → p ∈ news') → Q () { s with heap := h' }) : wpAny (model prog w) A (setItem (.ref D) (.int k t) x) Q E s := by
  have z := N _ hm
  have hl : s.heap.IsList D vs.toArray := N.isList hm
  obtain ⟨o, ho, hc, ne, hd⟩ := id hl
  unfold setItem
  try with_reducible refine wpAny_holding ?_
  first | refine wpAny_bind (wpAny_pure ?_) | skip
  refine wpAny_bind (wpAny_sequenceKey hl.typeIs (by decide) ?_)
  refine wpAny_bind (wpAny_callSpecial?_slot (name := Str.ofString "__setitem__") hl.typeIs slot_list_setitem
    (wpAny_call_entry slot_list_setitem hl.typeIs entry_list_setitem ?_ (args_list_setitem _ _ _)))
  show wpAny _ _ (Builtin.List.listSubscript? (.int k t) >>= _) _ _ s
  refine wpAny_bind (wpAny_listSubscript_int (fitsIndex_of h0 (by omega)) ?_)
  obtain ⟨j, rfl⟩ := Int.eq_ofNat_of_zero_le h0
  have hj : j < vs.toArray.size := by simpa using hk
  have hx' : vs.toArray[j]? = some vs.toArray[j] := Array.getElem?_eq_getElem hj
  show wpAny _ _ ((seqItemAt D j >>= fun r => pure (r.map (j, ·))) >>= _) _ _ s
  refine wpAny_bind (wpAny_bind (wpAny_seqItemAt ho hd (wpAny_pure ?_)))
  rw [hx']
  show wpAny _ _ (setSeqItemAt D j x >>= _) _ _ s
  obtain ⟨n', hd'⟩ := Obj.data_mapSeq hd (·.setIfInBounds j x)
  have ho0 : o = listOf vs.toArray c := Option.some.inj (ho.symm.trans z.1)
  have hfin : (s.heap.update D (Obj.mapSeq (·.setIfInBounds j x))).get? D = some (listOf (vs.set j x).toArray n') := by
    have h9 := Heap.get?_update_self (Obj.mapSeq (·.setIfInBounds j x)) ho (Obj.isFreed_of_seq hd')
    rw [h9]
    congr 1
    subst ho0
    have e : vs.toArray.setIfInBounds j x = (vs.set j x).toArray := by simp
    rw [e] at hd'
    show ({ cls := _, dict := _, data := (Obj.mapSeq (·.setIfInBounds j x) (listOf vs.toArray c)).data, slots := _ } : Obj) = _
    rw [hd']
  refine wpAny_bind (wpAny_setSeqItemAt ho hd ?_)
  have G : Q () { s with heap := s.heap.update D (Obj.mapSeq (·.setIfInBounds j x)) } := by
    refine h _ n' (setL D (listOf (vs.set j x).toArray n') news) (F.change (Heap.SameBut.update ..) z.2.1 z.2.2) (fun p hp => ?_) (.head _) fun p hp hne => mem_setL hp hne
    rcases List.mem_cons.mp hp with rfl | hp
    · exact ⟨hfin, z.2⟩
    · obtain ⟨h1, h2⟩ := List.mem_filter.mp hp
      have hne : @Ne Nat p.1 D := by simpa using h2
      exact ⟨((Heap.SameBut.update ..).2 _ hne).trans (N p h1).1, (N p h1).2⟩
  first
    | exact wpAny_bind (wpAny_pure (wpAny_pure ⟨.none, rfl, wpAny_pure G⟩))
    | exact wpAny_pure ⟨.none, rfl, wpAny_pure G⟩
end
theorem inst_list {c d : Addr} {a : Array Value} {k : Nat} (h : instObj c d = listOf a k) : False := by
  have := congrArg Obj.data h
  cases this
theorem dict_list {es : List DictEntry} {n : Nat} {a : Array Value} {k : Nat} (h : dictOf es n = listOf a k) : False := by
  have := congrArg Obj.data h
  cases this
/-- a row's objects, the two lists by name -/
inductive RowF (w : World) (news : Led) (x : Addr) (r : MRow) (ca aa : Addr)  : Prop
  | mk : ∀ (d na : Addr) (v : Str) (t0 t1 t2 t3 t4 t5 t6 t7 t8 v0 v1 v2 v3 v4 v5 : Tok) (cvs avs : List Value) (k1 k2 : Nat), ((x, instObj 303 d) ∈ news) → ((d, dictOf (rowDict w r v ca aa na t0 t1 t2 t3 t4 t5 t6 t7 t8 v0 v1 v2 v3 v4 v5) 9) ∈ news) → ((ca, listOf cvs.toArray k1) ∈ news) → ((aa, listOf avs.toArray k2) ∈ news) → (IntsAre cvs r.ch) → (IntsAre avs r.ats) → RowF w news x r ca aa
structure TreeF (w : World) (news : Led) (t : Addr) (T : MTree) (rl : Addr) (cas aas : List Addr) (vs : List Value) : Prop where
  inst : ∃ dt tk, (t, instObj 492 dt) ∈ news ∧ (dt, dictOf [⟨PyData.keyHash w.params (Str.ofString "rows"), .str (Str.ofString "rows") tk, .ref rl⟩] 1) ∈ news
  rows : ∃ k, (rl, listOf vs.toArray k) ∈ news
  lv : vs.length = T.length
  lc : cas.length = T.length
  la : aas.length = T.length
  nd : (rl :: (cas ++ aas)).Nodup
  row : ∀ (i : Nat) (r : MRow), T[i]? = some r → ∃ x ca aa, vs[i]? = some (.ref x) ∧ cas[i]? = some ca ∧ aas[i]? = some aa ∧ RowF w news x r ca aa
noncomputable def Foot (rl : Addr) (cas aas : List Addr) : List Addr := rl :: (cas ++ aas)
theorem RowF.at {w : World} {news : Led} {x ca aa : Addr} {r : MRow} (h : RowF w news x r ca aa) (h1 : r.ch.length ≤ 1000) (h2 : r.ats.length ≤ 1000) : RowAt w news x r := by
  obtain ⟨d, na, v, t0, t1, t2, t3, t4, t5, t6, t7, t8, v0, v1, v2, v3, v4, v5, cvs, avs, k1, k2, a, b, c, e, f, g⟩ := h
  exact ⟨d, ca, aa, na, v, t0, t1, t2, t3, t4, t5, t6, t7, t8, v0, v1, v2, v3, v4, v5, cvs, avs, k1, k2, a, b, c, e, f, g, h1, h2⟩
noncomputable def Small (T : MTree) : Prop := ∀ (i : Nat) (r : MRow), T[i]? = some r → r.ch.length ≤ 1000 ∧ r.ats.length ≤ 1000
theorem TreeF.at {w : World} {news : Led} {t : Addr} {T : MTree} {rl : Addr} {cas aas : List Addr} {vs : List Value} (h : TreeF w news t T rl cas aas vs) (hs : Small T) (hl : T.length ≤ 1000) : TreeAt w news t T := by
  obtain ⟨dt, tk, h1, h2⟩ := h.inst
  obtain ⟨k, h3⟩ := h.rows
  refine ⟨dt, rl, tk, k, vs, h1, h2, h3, ⟨h.lv, fun i r hi => ?_⟩, hl⟩
  obtain ⟨x, ca, aa, e1, _, _, e2⟩ := h.row i r hi
  obtain ⟨s1, s2⟩ := hs i r hi
  exact ⟨x, e1, e2.at s1 s2⟩
/-- a row kept -/
theorem RowF.keep {w : World} {news news' : Led} {x ca aa D : Addr} {r : MRow} {us : List Value} {k : Nat} (h : RowF w news x r ca aa) (hf : Fun1 news) (hD : (D, listOf us.toArray k) ∈ news) (h1 : ca ≠ D) (h2 : aa ≠ D) (hs : ∀ p ∈ news, @Ne Nat p.1 D → p ∈ news') : RowF w news' x r ca aa := by
  obtain ⟨d, na, v, t0, t1, t2, t3, t4, t5, t6, t7, t8, v0, v1, v2, v3, v4, v5, cvs, avs, k1, k2, a, b, c, e, f, g⟩ := h
  refine ⟨d, na, v, t0, t1, t2, t3, t4, t5, t6, t7, t8, v0, v1, v2, v3, v4, v5, cvs, avs, k1, k2, hs _ a ?_, hs _ b ?_, hs _ c h1, hs _ e h2, f, g⟩
  · intro q
    have q' : x = D := q
    exact inst_list (hf D _ _ (q' ▸ a) hD)
  · intro q
    have q' : d = D := q
    exact dict_list (hf D _ _ (q' ▸ b) hD)
theorem TreeF.keepI {w : World} {news news' : Led} {t : Addr} {T : MTree} {rl : Addr} {cas aas : List Addr} {vs : List Value} {D : Addr} {us : List Value} {k : Nat} (h : TreeF w news t T rl cas aas vs) (hf : Fun1 news) (hD : (D, listOf us.toArray k) ∈ news) (hs : ∀ p ∈ news, @Ne Nat p.1 D → p ∈ news') :
    ∃ dt tk, (t, instObj 492 dt) ∈ news' ∧ (dt, dictOf [⟨PyData.keyHash w.params (Str.ofString "rows"), .str (Str.ofString "rows") tk, .ref rl⟩] 1) ∈ news' := by
  obtain ⟨dt, tk, h1, h2⟩ := h.inst
  refine ⟨dt, tk, hs _ h1 ?_, hs _ h2 ?_⟩
  · intro q
    have q' : t = D := q
    exact inst_list (hf D _ _ (q' ▸ h1) hD)
  · intro q
    have q' : dt = D := q
    exact dict_list (hf D _ _ (q' ▸ h2) hD)
theorem TreeF.keep {w : World} {news news' : Led} {t : Addr} {T : MTree} {rl : Addr} {cas aas : List Addr} {vs : List Value} {D : Addr} {us : List Value} {k : Nat} (h : TreeF w news t T rl cas aas vs) (hf : Fun1 news) (hD : (D, listOf us.toArray k) ∈ news) (hn : D ∉ Foot rl cas aas) (hs : ∀ p ∈ news, @Ne Nat p.1 D → p ∈ news') : TreeF w news' t T rl cas aas vs := by
  obtain ⟨k0, hr⟩ := h.rows
  refine ⟨h.keepI hf hD hs, ⟨k0, hs _ hr fun q => hn (by have q' : rl = D := q; rw [q']; exact .head _)⟩, h.lv, h.lc, h.la, h.nd, fun i r hi => ?_⟩
  obtain ⟨x, ca, aa, e1, e2, e3, e4⟩ := h.row i r hi
  refine ⟨x, ca, aa, e1, e2, e3, e4.keep hf hD (fun q => hn ?_) (fun q => hn ?_) hs⟩
  · exact .tail _ (List.mem_append_left _ (q ▸ List.mem_of_getElem? e2))
  · exact .tail _ (List.mem_append_right _ (q ▸ List.mem_of_getElem? e3))
theorem TreeF.mono {w : World} {news news' : Led} {t : Addr} {T : MTree} {rl : Addr} {cas aas : List Addr} {vs : List Value} (h : TreeF w news t T rl cas aas vs) (hs : ∀ p ∈ news, p ∈ news') : TreeF w news' t T rl cas aas vs := by
  obtain ⟨dt, tk, h1, h2⟩ := h.inst
  obtain ⟨k0, hr⟩ := h.rows
  refine ⟨⟨dt, tk, hs _ h1, hs _ h2⟩, ⟨k0, hs _ hr⟩, h.lv, h.lc, h.la, h.nd, fun i r hi => ?_⟩
  obtain ⟨x, ca, aa, e1, e2, e3, d, na, v, t0, t1, t2, t3, t4, t5, t6, t7, t8, v0, v1, v2, v3, v4, v5, cvs, avs, k1, k2, a, b, c, e, f, g⟩ := h.row i r hi
  exact ⟨x, ca, aa, e1, e2, e3, d, na, v, t0, t1, t2, t3, t4, t5, t6, t7, t8, v0, v1, v2, v3, v4, v5, cvs, avs, k1, k2, hs _ a, hs _ b, hs _ c, hs _ e, f, g⟩
/-- every address of the footprint is the ledger's -/
theorem TreeF.foot {w : World} {news : Led} {t : Addr} {T : MTree} {rl : Addr} {cas aas : List Addr} {vs : List Value} (h : TreeF w news t T rl cas aas vs) {a : Addr} (ha : a ∈ Foot rl cas aas) : ∃ (us : List Value) (k : Nat), (a, listOf us.toArray k) ∈ news := by
  rcases List.mem_cons.mp ha with rfl | ha
  · obtain ⟨k, h3⟩ := h.rows
    exact ⟨_, _, h3⟩
  rcases List.mem_append.mp ha with ha | ha
  · obtain ⟨i, hi, rfl⟩ := List.mem_iff_getElem.mp ha
    obtain ⟨x, ca, aa, _, e2, _, e⟩ := h.row i _ (List.getElem?_eq_getElem (by rw [← h.lc]; exact hi))
    rw [List.getElem?_eq_getElem hi] at e2
    cases e2
    obtain ⟨d, na, v, t0, t1, t2, t3, t4, t5, t6, t7, t8, v0, v1, v2, v3, v4, v5, cvs, avs, k1, k2, a, b, c, e, f, g⟩ := e
    exact ⟨_, _, c⟩
  · obtain ⟨i, hi, rfl⟩ := List.mem_iff_getElem.mp ha
    obtain ⟨x, ca, aa, _, _, e2, e⟩ := h.row i _ (List.getElem?_eq_getElem (by rw [← h.la]; exact hi))
    rw [List.getElem?_eq_getElem hi] at e2
    cases e2
    obtain ⟨d, na, v, t0, t1, t2, t3, t4, t5, t6, t7, t8, v0, v1, v2, v3, v4, v5, cvs, avs, k1, k2, a, b, c, e, f, g⟩ := e
    exact ⟨_, _, e⟩
/-- one row more -/
theorem TreeF.push {w : World} {news news' : Led} {t : Addr} {T : MTree} {rl : Addr} {cas aas : List Addr} {vs : List Value} {x ca aa : Addr} {r : MRow} {k' : Nat} (h : TreeF w news t T rl cas aas vs) (hf : Fun1 news)
    (hs : ∀ p ∈ news, @Ne Nat p.1 rl → p ∈ news') (hm : (rl, listOf (vs ++ [Value.ref x]).toArray k') ∈ news') (hr : RowF w news' x r ca aa) (hca : ∀ p ∈ news, @Ne Nat p.1 ca) (haa : ∀ p ∈ news, @Ne Nat p.1 aa) (hne : @Ne Nat ca aa) :
    TreeF w news' t (T ++ [r]) rl (cas ++ [ca]) (aas ++ [aa]) (vs ++ [Value.ref x]) := by
  obtain ⟨k0, hr0⟩ := h.rows
  have nd := h.nd
  have fc : ca ∉ Foot rl cas aas := fun q => by obtain ⟨us, k, e⟩ := h.foot q; exact hca _ e rfl
  have fa : aa ∉ Foot rl cas aas := fun q => by obtain ⟨us, k, e⟩ := h.foot q; exact haa _ e rfl
  refine ⟨h.keepI hf hr0 hs, ⟨k', hm⟩, by simp [h.lv], by simp [h.lc], by simp [h.la], ?_, fun i ri hi => ?_⟩
  · have hp : (rl :: (cas ++ [ca] ++ (aas ++ [aa]))).Perm (ca :: aa :: (rl :: (cas ++ aas))) := by
      have e1 : (rl :: (cas ++ [ca] ++ (aas ++ [aa]))) = (rl :: cas) ++ ca :: (aas ++ [aa]) := by simp
      rw [e1]
      refine List.perm_middle.trans (List.Perm.cons _ ?_)
      have e2 : rl :: cas ++ (aas ++ [aa]) = (rl :: (cas ++ aas)) ++ aa :: [] := by simp
      rw [e2]
      exact List.perm_middle.trans (by rw [List.append_nil])
    rw [hp.nodup_iff, List.nodup_cons, List.nodup_cons]
    refine ⟨?_, fa, nd⟩
    intro q
    rcases List.mem_cons.mp q with q | q
    · exact hne q
    · exact fc q
  · rcases Nat.lt_or_ge i T.length with hlt | hge
    · rw [List.getElem?_append_left hlt] at hi
      obtain ⟨x', ca', aa', e1, e2, e3, e4⟩ := h.row i ri hi
      rw [List.nodup_cons] at nd
      refine ⟨x', ca', aa', by rw [List.getElem?_append_left (by rw [h.lv]; exact hlt)]; exact e1, by rw [List.getElem?_append_left (by rw [h.lc]; exact hlt)]; exact e2, by rw [List.getElem?_append_left (by rw [h.la]; exact hlt)]; exact e3, e4.keep hf hr0 (fun q => nd.1 ?_) (fun q => nd.1 ?_) hs⟩
      · exact List.mem_append_left _ (q ▸ List.mem_of_getElem? e2)
      · exact List.mem_append_right _ (q ▸ List.mem_of_getElem? e3)
    · have hil : i < (T ++ [r]).length := by
        rcases Nat.lt_or_ge i (T ++ [r]).length with h | h
        · exact h
        · rw [List.getElem?_eq_none h] at hi; cases hi
      obtain rfl : i = T.length := by simp at hil; omega
      rw [List.getElem?_append_right (Nat.le_refl _), Nat.sub_self] at hi
      cases hi
      refine ⟨x, ca, aa, ?_, ?_, ?_, hr⟩
      · rw [← h.lv]; simp
      · rw [← h.lc]; simp
      · rw [← h.la]; simp
theorem nd_getElem {l : List Addr} (h : l.Nodup) {i j : Nat} {a : Addr} (hi : l[i]? = some a) (hj : l[j]? = some a) : i = j := by
  have hil : i < l.length := by
    rcases Nat.lt_or_ge i l.length with h | h
    · exact h
    · rw [List.getElem?_eq_none h] at hi; cases hi
  exact (List.getElem?_inj (i := i) (j := j) hil h).mp (hi.trans hj.symm)
/-- a child more in a row -/
theorem TreeF.addch {w : World} {news news' : Led} {t : Addr} {T : MTree} {rl : Addr} {cas aas : List Addr} {vs : List Value} {p : Nat} {ca : Addr} {r : MRow} {cvs us : List Value} {k k' : Nat} {n : Int} (h : TreeF w news t T rl cas aas vs) (hf : Fun1 news)
    (hp : T[p]? = some r) (hca : cas[p]? = some ca) (hs : ∀ q ∈ news, @Ne Nat q.1 ca → q ∈ news') (hD : (ca, listOf us.toArray k) ∈ news) (hm : (ca, listOf cvs.toArray k') ∈ news') (hi : IntsAre cvs (r.ch ++ [n])) :
    TreeF w news' t (T.set p { r with ch := r.ch ++ [n] }) rl cas aas vs := by
  obtain ⟨k0, hr0⟩ := h.rows
  have nd := h.nd
  rw [List.nodup_cons, List.nodup_append] at nd
  obtain ⟨n1, n2, n3, n4⟩ := nd
  have cam := List.mem_of_getElem? hca
  refine ⟨h.keepI hf hD hs, ⟨k0, hs _ hr0 fun q => n1 ?_⟩, by simp [h.lv], by simp [h.lc], by simp [h.la], h.nd, fun i ri hri => ?_⟩
  · have q' : rl = ca := q
    exact q' ▸ List.mem_append_left _ cam
  · rw [List.getElem?_set] at hri
    split at hri
    · rename_i e
      subst e
      split at hri
      · cases hri
        obtain ⟨x, ca', aa, e1, e2, e3, d, na, v, t0, t1, t2, t3, t4, t5, t6, t7, t8, v0, v1, v2, v3, v4, v5, cvs', avs, k1, k2, a, b, c, e, f, g⟩ := h.row p r hp
        rw [hca] at e2
        cases e2
        refine ⟨x, ca, aa, e1, hca, e3, d, na, v, t0, t1, t2, t3, t4, t5, t6, t7, t8, v0, v1, v2, v3, v4, v5, cvs, avs, k', k2, hs _ a ?_, hs _ b ?_, hm, hs _ e ?_, hi, g⟩
        · intro q
          have q' : x = ca := q
          exact inst_list (hf ca _ _ (q' ▸ a) hD)
        · intro q
          have q' : d = ca := q
          exact dict_list (hf ca _ _ (q' ▸ b) hD)
        · intro q
          exact n4 ca cam aa (List.mem_of_getElem? e3) (Eq.symm q)
      · cases hri
    · rename_i hne
      obtain ⟨x, ca', aa, e1, e2, e3, e4⟩ := h.row i ri hri
      refine ⟨x, ca', aa, e1, e2, e3, e4.keep hf hD (fun q => hne ?_) (fun q => n4 ca cam aa (List.mem_of_getElem? e3) q.symm) hs⟩
      subst q
      exact nd_getElem n2 hca e2
theorem TreeF.addat {w : World} {news news' : Led} {t : Addr} {T : MTree} {rl : Addr} {cas aas : List Addr} {vs : List Value} {p : Nat} {aa : Addr} {r : MRow} {avs us : List Value} {k k' : Nat} {n : Int} (h : TreeF w news t T rl cas aas vs) (hf : Fun1 news)
    (hp : T[p]? = some r) (haa : aas[p]? = some aa) (hs : ∀ q ∈ news, @Ne Nat q.1 aa → q ∈ news') (hD : (aa, listOf us.toArray k) ∈ news) (hm : (aa, listOf avs.toArray k') ∈ news') (hi : IntsAre avs (r.ats ++ [n])) :
    TreeF w news' t (T.set p { r with ats := r.ats ++ [n] }) rl cas aas vs := by
  obtain ⟨k0, hr0⟩ := h.rows
  have nd := h.nd
  rw [List.nodup_cons, List.nodup_append] at nd
  obtain ⟨n1, n2, n3, n4⟩ := nd
  have aam := List.mem_of_getElem? haa
  refine ⟨h.keepI hf hD hs, ⟨k0, hs _ hr0 fun q => n1 ?_⟩, by simp [h.lv], by simp [h.lc], by simp [h.la], h.nd, fun i ri hri => ?_⟩
  · have q' : rl = aa := q
    exact q' ▸ List.mem_append_right _ aam
  · rw [List.getElem?_set] at hri
    split at hri
    · rename_i e
      subst e
      split at hri
      · cases hri
        obtain ⟨x, ca, aa', e1, e2, e3, d, na, v, t0, t1, t2, t3, t4, t5, t6, t7, t8, v0, v1, v2, v3, v4, v5, cvs, avs', k1, k2, a, b, c, e, f, g⟩ := h.row p r hp
        rw [haa] at e3
        cases e3
        refine ⟨x, ca, aa, e1, e2, haa, d, na, v, t0, t1, t2, t3, t4, t5, t6, t7, t8, v0, v1, v2, v3, v4, v5, cvs, avs, k1, k', hs _ a ?_, hs _ b ?_, hs _ c ?_, hm, f, hi⟩
        · intro q
          have q' : x = aa := q
          exact inst_list (hf aa _ _ (q' ▸ a) hD)
        · intro q
          have q' : d = aa := q
          exact dict_list (hf aa _ _ (q' ▸ b) hD)
        · intro q
          exact n4 ca (List.mem_of_getElem? e2) aa aam q
      · cases hri
    · rename_i hne
      obtain ⟨x, ca, aa', e1, e2, e3, e4⟩ := h.row i ri hri
      refine ⟨x, ca, aa', e1, e2, e3, e4.keep hf hD (fun q => n4 ca (List.mem_of_getElem? e2) aa aam q) (fun q => hne ?_) hs⟩
      subst q
      exact nd_getElem n3 haa e3
/-- what a builder leaves of the rest -/
noncomputable def Kept (F F' : List Addr) (news news' : Led) : Prop := (∀ p ∈ news, p.1 ∉ F → p ∈ news') ∧ ∀ a ∈ F', a ∈ F ∨ ∀ p ∈ news, @Ne Nat p.1 a
theorem Kept.out {F F' : List Addr} {news news' : Led} (h : Kept F F' news news') {p : Addr × Obj} (hp : p ∈ news) (hn : p.1 ∉ F) : p ∈ news' ∧ p.1 ∉ F' :=
  ⟨h.1 p hp hn, fun q => by
    rcases h.2 _ q with q | q
    · exact hn q
    · exact q p hp rfl⟩
/-- the source of draws -/
inductive Src (news : Led) (sl : Addr)  : Prop
  | mk : ∀ (a b : Int) (ta tb : Tok) (k : Nat), ((sl, listOf [.int a ta, .int b tb].toArray k) ∈ news) → (0 ≤ a ∧ 0 ≤ b ∧ b < 2147483647) → Src news sl
theorem Src.mono {news news' : Led} {sl : Addr} (h : Src news sl) (hs : ∀ p ∈ news, p ∈ news') : Src news' sl := by
  obtain ⟨a, b, ta, tb, k, h1, h2, h3, h4⟩ := h
  exact ⟨a, b, ta, tb, k, hs _ h1, h2, h3, h4⟩
theorem fmod_bd (a : Int) {t : Int} (h : 0 < t) : 0 ≤ a.fmod t ∧ a.fmod t < t := by
  rw [Int.fmod_eq_emod_of_nonneg a (Int.le_of_lt h)]
  exact ⟨Int.emod_nonneg a (by omega), Int.emod_lt_of_pos a h⟩
theorem fdiv_nn {a t : Int} (ha : 0 ≤ a) (h : 0 < t) : 0 ≤ a.fdiv t := by
  rw [Int.fdiv_eq_ediv_of_nonneg a (Int.le_of_lt h)]
  exact Int.ediv_nonneg ha (Int.le_of_lt h)
/-- kept but for one address -/
noncomputable def KeptB (D : Addr) (news news' : Led) : Prop := ∀ p ∈ news, @Ne Nat p.1 D → p ∈ news'
theorem KeptB.trans {D : Addr} {a b c : Led} (h1 : KeptB D a b) (h2 : KeptB D b c) : KeptB D a c := fun p hp hn => h2 p (h1 p hp hn) hn
theorem KeptB.refl {D : Addr} {a : Led} : KeptB D a a := fun _ h _ => h
end
section
/-- a call's end, with a word on the base heap -/
theorem call_defH {w : World} {mean : ExcName → Option Value} {mg mb : Str → Option Value} {f : Addr} {vs : List Value} {Post : Led → Value → Prop}
    {name qual : Str} {params : Arguments} {body : List Stmt} {scope : Scope} {dV kV doc pm cdv ct oc : Value} {an od : Option Addr} {osl : Array (Option Value)} (binds : List (Str × Value)) {dd uu : Nat}
    {dp un : Nat} {gd : Option (List Code)} {cn : Str} {cs : Scope} {a : Addr} {ccd : Value} {cl : List (Str × Addr)} {outer : List Env} {A₀ : Around} {base h₀ : Heap} {L : Addr} {m : Str → Option Value} {news : Led} {s : Shared} {Q E : Value → Shared → Prop}
    (B : Below A₀ base outer h₀) (F : Fr h₀ L s.heap m) (X : (K39 w.params).In h₀) (N : News h₀ L s.heap news) (T : Top V39 (looseW V39 []) mean mg mb h₀) (hkk : cs.kind = .function) (hdp : dp + (dd + 1) < recursionLimit) (hu : un + (uu + 3) < cLine)
    (ho : (K39 w.params).lookup f = some ⟨oc, od, .func (fnOf name qual params body scope dV kV doc pm an cdv ct), osl⟩) (hcd : codeIn (K39 w.params) cdv qual = true)
    (hbind : bindArgs (fnOf name qual params body scope dV kV doc pm an cdv ct) ⟨vs, []⟩ = pure binds) (hloc : ∀ y ∈ binds, scope.names.lookup y.1 = some .local)
    (hco : scope.isCoroutine = false) (hgen : scope.isGenerator = false) (hk : scope.kind = .function) (hcell : ∀ x ∈ scope.names, x.2 ≠ .cell)
    (h : ∀ (dp un : Nat) (gd : Option (List Code)) (outer : List Env) (A₁ : Around) (base g : Heap) (L : Addr) (s : Shared), (∀ b o, h₀.get? b = some o → g.get? b = some o) →
      Below A₁ base outer g → Fr g L s.heap (fun y => binds.reverse.lookup y) → (K39 w.params).In g → News g L s.heap news → Top V39 (looseW V39 []) mean mg mb g → dp + dd < recursionLimit → un + uu < cLine →
      wpAny (model PySem.Challenge.rw_nu0072_01.prog w) (ktrTop dp un gd qual scope L f cdv [] outer) (execs body (envX qual scope L f cdv [])) (DoneF g L Post s) (fun _ _ => False) s)
    (ret : ∀ r news' h' tk', Fr h₀ L h' m → News h₀ L h' news' → Post news' r → Q r { s with heap := h', toks := tk' }) :
    wpAny (model PySem.Challenge.rw_nu0072_01.prog w) (ktrTop dp un gd cn cs L a ccd cl outer) (call (.ref f) vs) Q E s := by
  refine wpAny_call ?_
  refine code_def B F X N T rfl rfl hkk ho hcd (by show dp < recursionLimit; omega) (BindsTo.of_eq hbind) hloc ?_ hco hgen hk hcell
  intro g L' h₁ FG F' N' B' X' T'
  refine wpAny_mono (h (dp + 1) (un + 3) gd _ _ base g L' { s with heap := h₁, toks := s.toks + binds.length } FG.keep B' F' X' N' T' (by omega) (by omega)) ?_ (fun _ _ e => e.elim)
  rintro fl s' ⟨m', news', h', tk', rfl, F₂, N₂, hp⟩
  exact leaveK_ F₂ N₂ fun F₃ N₃ => ret _ _ _ _ F₃ N₃ hp
theorem keptb_mem {D : Addr} {a b : Led} {p : Addr × Obj} (h : KeptB D a b) (hp : p ∈ a) (hn : @Ne Nat p.1 D) : p ∈ b := h p hp hn
end
section
/-- a class's contract, from its __init__ -/
theorem says_cls {w : World} {mean : ExcName → Option Value} {mg mb : Str → Option Value} {dd uu : Nat} {C f : Addr} {vs : List Value} {Pre : Led → Prop} {Post : Led → Led → Value → Prop}
    {name qual : Str} {params : Arguments} {body : List Stmt} {scope : Scope} {dV kV doc pm cdv ct oc : Value} {an od : Option Addr} {osl : Array (Option Value)} (binds : Addr → List (Str × Value))
    (hm : makesIn (K39 w.params) C = true) (hi : findIn (K39 w.params) (.ref C) "__init__" = some (some (.ref f))) (hf : isFn (K39 w.params) (.ref f) = true)
    (ho : (K39 w.params).lookup f = some ⟨oc, od, .func (fnOf name qual params body scope dV kV doc pm an cdv ct), osl⟩) (hcd : codeIn (K39 w.params) cdv qual = true)
    (hbind : ∀ x, bindArgs (fnOf name qual params body scope dV kV doc pm an cdv ct) ⟨.ref x :: vs, []⟩ = pure (binds x)) (hloc : ∀ x, ∀ y ∈ binds x, scope.names.lookup y.1 = some .local)
    (hco : scope.isCoroutine = false) (hgen : scope.isGenerator = false) (hk : scope.kind = .function) (hcell : ∀ x ∈ scope.names, x.2 ≠ .cell)
    (h : ∀ (dp un : Nat) (gd : Option (List Code)) (outer : List Env) (A₁ : Around) (base g : Heap) (L : Addr) (news : Led) (x dx : Addr) (s : Shared),
      Below A₁ base outer g → Fr g L s.heap (fun y => (binds x).reverse.lookup y) → (K39 w.params).In g → News g L s.heap ((x, instObj C dx) :: (dx, dictOf [] 0) :: news) → (∀ p ∈ news, p.1 < dx) → dx < x → Top V39 (looseW V39 []) mean mg mb g → Pre news → dp + dd < recursionLimit → un + uu < cLine →
      wpAny (model PySem.Challenge.rw_nu0072_01.prog w) (ktrTop dp un gd qual scope L f cdv [] outer) (execs body (envX qual scope L f cdv [])) (DoneF g L (fun news' v => v = .none ∧ Post news news' (.ref x)) s) (fun _ _ => False) s) :
    Says w mean mg mb (dd + 2) (uu + 10) (.ref C) vs Pre Post := by
  intro dp un gd cn cs a ccd cl outer A₀ base h₀ L m news s Q E B F X N T hkk hpre hdp hu hret
  refine call_cls F X N hm hi hf ?_
  intro x dx h₂ F₁ N₁ l1 l2
  refine code_def B F₁ X N₁ T rfl rfl hkk ho hcd (by rw [depth_under_make]; show dp + 1 < recursionLimit; omega) (BindsTo.of_eq (hbind x)) (hloc x) ?_ hco hgen hk hcell
  intro g L' h₁ FG F' N' B' X' T'
  refine wpAny_mono (h (dp + 2) _ gd _ _ base g L' news x dx { s with heap := h₁, toks := s.toks + (binds x).length } B' F' X' N' l1 l2 T' hpre (by omega) ?hun) ?_ (fun _ _ e => e.elim)
  case hun => first | (show un + 3 + uu < cLine; omega) | (show un + 1 + 3 + uu < cLine; omega) | (show un + 2 + 3 + uu < cLine; omega) | (show un + 3 + 3 + uu < cLine; omega)
  rintro fl s' ⟨m', news', h', tk', rfl, F₂, N₂, hp1, hp2⟩
  exact leaveK_ F₂ N₂ fun F₃ N₃ => ⟨hp1, hret _ _ _ _ F₃ N₃ hp2⟩
end
section
theorem kd_el (k : Kd) : (k.s == Str.ofString "element") = true ↔ k = .element := by cases k <;> decide
theorem kd_at (k : Kd) : (k.s == Str.ofString "attribute") = true ↔ k = .attribute := by cases k <;> decide
theorem kd_ro (k : Kd) : (k.s == Str.ofString "root") = true ↔ k = .root := by cases k <;> decide
theorem kd_con (k : Kd) : [Str.ofString "root", Str.ofString "element"].any (· == k.s) = true ↔ k = .root ∨ k = .element := by cases k <;> decide
theorem kd_rn (k : Kd) : [Str.ofString "root", Str.ofString "namespace"].any (· == k.s) = true ↔ k = .root := by cases k <;> decide
theorem kd_prin (k : Kd) (b : Bool) : (k.s == prinS b) = true ↔ k = (if b then .attribute else .element) := by cases k <;> cases b <;> decide
theorem isCon_iff {T : MTree} {b : Int} {r : MRow} (h : rowOf T b = some r) : isCon T b = true ↔ r.kd = .root ∨ r.kd = .element := by
  simp only [isCon, h, conR]; exact kd_con r.kd
theorem isEl_iff {T : MTree} {b : Int} {r : MRow} (h : rowOf T b = some r) : isEl T b = true ↔ r.kd = .element := by
  simp only [isEl, h]; exact kd_el r.kd
theorem parOf_eq {T : MTree} {b : Int} {r : MRow} (h : rowOf T b = some r) : parOf T b = r.par := by
  simp only [parOf, h]; rfl
/-- an ancestor, or the node itself -/
inductive Anc (T : MTree) (a : Int) : Int → Prop
  | refl : Anc T a a
  | up {b p : Int} : parOf T b = some p → Anc T a p → Anc T a b
theorem WF.up {T : MTree} (W : WF T) {b p : Int} (h : parOf T b = some p) : ∃ rb rp, rowOf T b = some rb ∧ rowOf T p = some rp ∧ 0 ≤ p ∧ p < b ∧ (rp.kd = .root ∨ rp.kd = .element) ∧ rb.kd ≠ .root ∧ (rb.kd = .attribute → rp.kd = .element ∧ b ∈ rp.ats) ∧ (rb.kd ≠ .attribute → b ∈ rp.ch) := by
  cases hb : rowOf T b with
  | none => simp [parOf, hb] at h
  | some rb =>
    rw [parOf_eq hb] at h
    by_cases h0 : b = 0
    · subst h0
      obtain ⟨r0, e, _, h2⟩ := W.root
      rw [e] at hb
      cases hb
      rw [h2] at h
      cases h
    · obtain ⟨p', rp, h1, h2, h3, h4, h5, h6, h7, h8⟩ := W.par b rb hb h0
      rw [h1] at h
      cases h
      exact ⟨rb, rp, rfl, h4, h2, h3, h5, h6, h7, h8⟩
theorem WF.root0 {T : MTree} (W : WF T) {b : Int} {r : MRow} (h : rowOf T b = some r) : r.kd = .root ↔ b = 0 := by
  constructor
  · intro hk
    by_cases h0 : b = 0
    · exact h0
    · obtain ⟨p', rp, _, _, _, _, _, h6, _⟩ := W.par b r h h0
      exact absurd hk h6
  · rintro rfl
    obtain ⟨r0, e, hk, _⟩ := W.root
    rw [e] at h
    cases h
    exact hk
theorem reach_anc {T : MTree} (W : WF T) {a b : Int} (h : Reach T a b) : Anc T a b := by
  induction h with
  | refl => exact .refl
  | step _ hr hc ih =>
    obtain ⟨_, rc, h2, h3, _⟩ := W.ch _ _ hr _ (List.mem_filter.mp hc).1
    exact .up (by rw [parOf_eq h2, h3]) ih
theorem anc_reach {T : MTree} (W : WF T) {a b : Int} (h : Anc T a b) (hb : isCon T b = true) : Reach T a b := by
  induction h with
  | refl => exact .refl
  | up hp _ ih =>
    obtain ⟨rb, rp, h1, h2, _, _, h5, h6, _, h8⟩ := W.up hp
    have hc : rb.kd = .element := by
      rcases (isCon_iff h1).mp hb with h | h
      · exact absurd h h6
      · exact h
    exact .step (ih ((isCon_iff h2).mpr h5)) h2 (List.mem_filter.mpr ⟨h8 (by rw [hc]; decide), (isEl_iff h1).mpr hc⟩)
theorem climb_none {T : MTree} {f : Int → Bool} {d : Bool} {n : Nat} : climb T f d n none = false := by cases n <;> rfl
theorem climb_flat {T : MTree} {f : Int → Bool} {n : Nat} {a : Int} : climb T f false (n + 1) (some a) = f a := by simp [climb]
theorem climb_deep {T : MTree} (W : WF T) {f : Int → Bool} : ∀ (n : Nat) (a : Int), 0 ≤ a → a.toNat < n → (climb T f true n (some a) = true ↔ ∃ c, Anc T c a ∧ f c = true)
  | 0, a, _, h => absurd h (Nat.not_lt_zero _)
  | n + 1, a, h0, h => by
    simp only [climb, Bool.true_and, Bool.or_eq_true]
    cases hp : parOf T a with
    | none =>
      rw [climb_none]
      constructor
      · rintro (h | h)
        · exact ⟨a, .refl, h⟩
        · cases h
      · rintro ⟨c, hc, hf⟩
        cases hc with
        | refl => exact .inl hf
        | up h1 _ => rw [hp] at h1; cases h1
    | some q =>
      obtain ⟨_, _, _, _, h5, h6, _⟩ := W.up hp
      rw [climb_deep W n q h5 (by omega)]
      constructor
      · rintro (h | ⟨c, hc, hf⟩)
        · exact ⟨a, .refl, h⟩
        · exact ⟨c, .up hp hc, hf⟩
      · rintro ⟨c, hc, hf⟩
        cases hc with
        | refl => exact .inl hf
        | up h1 h2 => rw [hp] at h1; cases h1; exact .inr ⟨c, h2, hf⟩
theorem selM_sub {T : MTree} {r : MRow} {b : Bool} {x : Tst} {ps : Option Int} {z : Int} (h : z ∈ selM T r b x ps) : z ∈ axL r b ∧ passAt T x b z = true := by
  unfold selM selP at h
  split at h
  · exact List.mem_filter.mp h
  · exact List.mem_filter.mp (List.mem_of_mem_drop (List.mem_of_mem_take h))
theorem mem_axL {T : MTree} (W : WF T) {b z : Int} {rb : MRow} {t : Bool} (h : rowOf T b = some rb) (hz : z ∈ axL rb t) : ∃ rz, rowOf T z = some rz ∧ rz.par = some b ∧ ((rz.kd = .attribute) ↔ t = true) ∧ rz.kd ≠ .root := by
  unfold axL at hz
  cases t with
  | false =>
    obtain ⟨_, rc, h2, h3, h4, h5⟩ := W.ch b rb h z hz
    exact ⟨rc, h2, h3, by simp [h4], h5⟩
  | true =>
    simp only [if_true] at hz
    split at hz
    · obtain ⟨_, rc, h2, h3, h4⟩ := W.ats b rb h z hz
      exact ⟨rc, h2, h3, by simp [h4], by rw [h4]; decide⟩
    · cases hz
theorem pick_par {T : MTree} (W : WF T) {p : PSp} {b x : Int} (h : x ∈ pick T p b) : parOf T x = some b := by
  unfold pick at h
  split at h
  · rename_i rb hb
    obtain ⟨rz, h1, h2, _⟩ := mem_axL W hb (selM_sub h).1
    rw [parOf_eq h1, h2]
  · cases h
theorem fit_pick {T : MTree} (W : WF T) {p : PSp} {b x : Int} (hp : parOf T x = some b) : fitS T p x = true ↔ x ∈ pick T p b := by
  obtain ⟨rx, rb, h1, h2, h3, h4, h5, h6, h7, h8⟩ := W.up hp
  have hpar : rx.par = some b := by rw [← parOf_eq h1]; exact hp
  have hps : passAt T p.tst p.attr x = passB rx p.tst p.attr := by simp only [passAt, h1]
  simp only [fitS, h1, fitSr, hpar, h2, pick]
  have hroot : [Str.ofString "root", Str.ofString "namespace"].any (· == rx.kd.s) = false := by
    rw [← Bool.not_eq_true, kd_rn]; exact h6
  rw [hroot, Bool.or_false, Bool.and_eq_true, Bool.and_eq_true, Bool.or_eq_true]
  have hattr : (!(p.attr != (rx.kd.s == Str.ofString "attribute"))) = true ↔ (rx.kd = .attribute ↔ p.attr = true) := by
    have := kd_at rx.kd
    cases ha : p.attr <;> cases hk : (rx.kd.s == Str.ofString "attribute") <;> simp [hk] at this <;> simp [this]
  rw [hattr]
  have hin : (rx.kd = .attribute ↔ p.attr = true) → x ∈ axL rb p.attr := by
    intro h
    unfold axL
    cases ha : p.attr with
    | true =>
      obtain ⟨q1, q2⟩ := h7 (h.mpr ha)
      simp only [if_true]
      rw [if_pos ((kd_el _).mpr q1)]
      exact q2
    | false =>
      simp only [Bool.false_eq_true, if_false]
      exact h8 (fun q => by have := h.mp q; rw [ha] at this; cases this)
  constructor
  · rintro ⟨k1, k2, k3⟩
    rcases k3 with k3 | k3
    · have : p.pos = none := by simpa using k3
      unfold selM selP
      rw [this]
      exact List.mem_filter.mpr ⟨hin k1, by rw [hps]; exact k2⟩
    · obtain ⟨y, hy, e⟩ := List.any_eq_true.mp k3
      have : y = x := by simpa using e
      exact this ▸ hy
  · intro h
    obtain ⟨q1, q2⟩ := selM_sub h
    obtain ⟨rz, e1, e2, e3, _⟩ := mem_axL W h2 q1
    rw [h1] at e1
    cases e1
    exact ⟨e3, by rw [← hps]; exact q2, .inr (List.any_eq_true.mpr ⟨x, h, by simp⟩)⟩
theorem fit_none {T : MTree} {p : PSp} {x : Int} (hp : parOf T x = none) : fitS T p x = false := by
  unfold fitS
  cases h : rowOf T x with
  | none => rfl
  | some r =>
    rw [parOf_eq h] at hp
    simp [fitSr, hp]
theorem par_con {T : MTree} (W : WF T) {b x : Int} (hp : parOf T x = some b) : isCon T b = true := by
  obtain ⟨rx, rb, h1, h2, h3, h4, h5, _⟩ := W.up hp
  exact (isCon_iff h2).mpr h5
/-- a step, seen from the found node -/
theorem found_iff {T : MTree} (W : WF T) {p : PSp} {H : Int → Prop} {x : Int} : Found T p H x ↔ ∃ b, parOf T x = some b ∧ fitS T p x = true ∧ Base T p H b := by
  constructor
  · rintro ⟨b, hb, hx⟩
    exact ⟨b, pick_par W hx, (fit_pick W (pick_par W hx)).mpr hx, hb⟩
  · rintro ⟨b, hp, hf, hb⟩
    exact ⟨b, hb, (fit_pick W hp).mp hf⟩
theorem base_climb {T : MTree} (W : WF T) {p : PSp} {H : Int → Prop} {f : Int → Bool} {b x : Int} (hp : parOf T x = some b) (hf : ∀ c, isCon T c = true → (f c = true ↔ H c)) :
    climb T f p.deep (x.toNat + 1) (some b) = true ↔ Base T p H b := by
  obtain ⟨rx, rb, h1, h2, h3, h4, h5, _⟩ := W.up hp
  have hc : isCon T b = true := (isCon_iff h2).mpr h5
  unfold Base
  cases hd : p.deep with
  | false =>
    rw [climb_flat]
    simp only [Bool.false_eq_true, if_false]
    exact hf b hc
  | true =>
    rw [climb_deep W _ b h3 (by omega)]
    simp only [if_true]
    have conA : ∀ c, Anc T c b → isCon T c = true := by
      intro c hc'
      clear hp hf h3 h4 h5 h2 h1
      induction hc' with
      | refl => exact hc
      | up hq _ ih => exact ih (par_con W hq)
    constructor
    · rintro ⟨c, hc', hfc⟩
      exact ⟨c, (hf c (conA c hc')).mp hfc, anc_reach W hc' hc⟩
    · rintro ⟨c, hH, hr⟩
      have := reach_anc W hr
      exact ⟨c, this, (hf c (conA c this)).mpr hH⟩
noncomputable def Begin (T : MTree) (rooted : Bool) (Ns : List Int) (b : Int) : Prop := if rooted = true then b = 0 else b = 0 ∨ b ∈ Ns
noncomputable def GH (T : MTree) (rooted : Bool) (Ns : List Int) (rows : List PSp) (x : Int) : Prop := ∃ b, Begin T rooted Ns b ∧ (stW T b rows).1 x
theorem stW_snoc {T : MTree} {z : Int} {rows : List PSp} {p : PSp} :
    stW T z (rows ++ [p]) = (fun x => Found T p (stW T z rows).1 x ∧ isCon T x = true, Found T p (stW T z rows).1) := by
  simp [stW, List.foldl_append]
theorem found_ex {T : MTree} {p : PSp} {P : Int → Prop} {H : Int → Int → Prop} {x : Int} : (∃ b, P b ∧ Found T p (H b) x) ↔ Found T p (fun y => ∃ b, P b ∧ H b y) x := by
  unfold Found Base
  cases p.deep with
  | false =>
    simp only [Bool.false_eq_true, if_false]
    constructor
    · rintro ⟨b, hb, y, hy, hx⟩
      exact ⟨y, ⟨b, hb, hy⟩, hx⟩
    · rintro ⟨y, ⟨b, hb, hy⟩, hx⟩
      exact ⟨b, hb, y, hy, hx⟩
  | true =>
    simp only [if_true]
    constructor
    · rintro ⟨b, hb, y, ⟨a, ha, hr⟩, hx⟩
      exact ⟨y, ⟨a, ⟨b, hb, ha⟩, hr⟩, hx⟩
    · rintro ⟨y, ⟨a, ⟨b, hb, ha⟩, hr⟩, hx⟩
      exact ⟨b, hb, y, ⟨a, ha, hr⟩, hx⟩
theorem due_snoc {T : MTree} {rooted : Bool} {Ns : List Int} {rows : List PSp} {p : PSp} {x : Int} : Due T rooted (rows ++ [p]) Ns x ↔ Found T p (GH T rooted Ns rows) x := by
  unfold GH
  rw [← found_ex]
  unfold Due WalkP Begin
  simp only [stW_snoc]
theorem gh_snoc {T : MTree} {rooted : Bool} {Ns : List Int} {rows : List PSp} {p : PSp} {x : Int} : GH T rooted Ns (rows ++ [p]) x ↔ Due T rooted (rows ++ [p]) Ns x ∧ isCon T x = true := by
  unfold GH Due WalkP Begin
  simp only [stW_snoc]
  constructor
  · rintro ⟨b, h1, h2, h3⟩
    exact ⟨⟨b, h1, h2⟩, h3⟩
  · rintro ⟨⟨b, h1, h2⟩, h3⟩
    exact ⟨b, h1, h2, h3⟩
theorem gh_nil {T : MTree} {rooted : Bool} {Ns : List Int} {x : Int} : GH T rooted Ns [] x ↔ Begin T rooted Ns x ∧ isCon T x = true := by
  unfold GH
  constructor
  · rintro ⟨b, h1, h2, h3⟩
    subst h2
    exact ⟨h1, h3⟩
  · rintro ⟨h1, h2⟩
    exact ⟨x, h1, rfl, h2⟩
theorem isRoot_iff {T : MTree} (W : WF T) {c : Int} (h : isCon T c = true) : isRootAt T c = true ↔ c = 0 := by
  unfold isRootAt
  cases hr : rowOf T c with
  | none => simp [isCon, hr] at h
  | some r => exact (kd_ro r.kd).trans (W.root0 hr)
theorem rev_ind {P : List PSp → Prop} (h1 : ∀ p, P [p]) (h2 : ∀ rows q p, P (rows ++ [q]) → P (rows ++ [q] ++ [p])) : ∀ (l : List PSp), l ≠ [] → P l := by
  have : ∀ (n : Nat) (l : List PSp), l.length = n → l ≠ [] → P l := by
    intro n
    induction n with
    | zero => intro l hl h; exact absurd (List.length_eq_zero_iff.mp hl) h
    | succ n ih =>
      intro l hl h
      have e := List.dropLast_concat_getLast h
      rw [← e]
      cases hd : l.dropLast with
      | nil => exact h1 _
      | cons a r =>
        have hne : l.dropLast ≠ [] := by rw [hd]; simp
        have e2 := List.dropLast_concat_getLast hne
        have hlen : l.dropLast.length = n := by rw [List.length_dropLast]; omega
        have := ih l.dropLast hlen hne
        rw [← e2] at this
        have := h2 _ _ (l.getLast h) this
        rw [e2] at this
        rw [← hd]
        exact this
  exact fun l h => this l.length l rfl h
theorem fits_due {T : MTree} (W : WF T) {rooted : Bool} {Ns : List Int} (hN : ∀ x r, rowOf T x = some r → x ∈ Ns) : ∀ (rows : List PSp), rows ≠ [] → ∀ x, (fitsB T rooted rows.reverse x = true ↔ Due T rooted rows Ns x) := by
  refine rev_ind ?_ ?_
  · intro p x
    have e : Due T rooted [p] Ns x ↔ Found T p (GH T rooted Ns []) x := due_snoc (rows := [])
    rw [e, found_iff W]
    show (fitS T p x && upB T rooted none p.deep x) = true ↔ _
    rw [Bool.and_eq_true]
    cases hp : parOf T x with
    | none =>
      rw [fit_none hp]
      simp
    | some b =>
      obtain ⟨rx, rb, h1, h2, h3, h4, h5, _⟩ := W.up hp
      have hub : upB T rooted none p.deep x = true ↔ Base T p (GH T rooted Ns []) b := by
        unfold upB
        cases rooted with
        | true =>
          simp only [if_true]
          rw [hp]
          exact base_climb W hp fun c hc => by
            rw [isRoot_iff W hc, gh_nil]
            simp [Begin, hc]
        | false =>
          simp only [Bool.false_eq_true, if_false, true_iff]
          have hg : GH T false Ns [] b := gh_nil.mpr ⟨by simp [Begin, hN b rb h2], (isCon_iff h2).mpr h5⟩
          unfold Base
          split
          · exact ⟨b, hg, .refl⟩
          · exact hg
      rw [hub]
      constructor
      · rintro ⟨k1, k2⟩
        exact ⟨b, rfl, k1, k2⟩
      · rintro ⟨b', e, k1, k2⟩
        cases e
        exact ⟨k1, k2⟩
  · intro rows q p ih x
    rw [due_snoc, found_iff W]
    have er : (rows ++ [q] ++ [p]).reverse = p :: q :: rows.reverse := by simp
    have er2 : (rows ++ [q]).reverse = q :: rows.reverse := by simp
    rw [er]
    rw [er2] at ih
    show (fitS T p x && climb T (fitsB T rooted (q :: rows.reverse)) p.deep (x.toNat + 1) (parOf T x)) = true ↔ _
    rw [Bool.and_eq_true]
    cases hp : parOf T x with
    | none =>
      rw [fit_none hp]
      simp
    | some b =>
      rw [base_climb (H := GH T rooted Ns (rows ++ [q])) W hp fun c hc => by rw [ih c, gh_snoc]; simp [hc]]
      constructor
      · rintro ⟨k1, k2⟩
        exact ⟨b, rfl, k1, k2⟩
      · rintro ⟨b', e, k1, k2⟩
        cases e
        exact ⟨k1, k2⟩
theorem match_due {T : MTree} (W : WF T) {rooted : Bool} {Ns : List Int} (hN : ∀ x r, rowOf T x = some r → x ∈ Ns) {rows : List PSp} (h : rows ≠ []) {x : Int} {r : MRow} : matchB T (rooted, rows) x r = true ↔ Due T rooted rows Ns x := by
  rw [← fits_due W hN rows h x]
  cases rows with
  | nil => exact absurd rfl h
  | cons a l => exact Iff.rfl
end
section
theorem notin_top {prog : Program} {w : World} {A : Around} {E : Value → Shared → Prop} {s : Shared} {K : Frag} {h₀ : Heap} {L a : Addr} {m : Str → Option Value} {l : List Value} {ys : List Str} {dd : Option Addr} {sl : Array (Option Value)} {n : Nat} {x : Str} {u : Tok} {Q : Value → Shared → Prop}
    (F : Fr h₀ L s.heap m) (X₀ : K.In h₀) (hl : K.lookup a = some ⟨.type "tuple", dd, .seq l.toArray n, sl⟩) (hi : StrsAre l ys)
    (h : Q (.bool (!(ys.any (· == x)))) s) : wpAny (model prog w) A (compareOp .NotIn (.str x u) (.ref a)) Q E s :=
  notin_tuple_strs (items := l.toArray) ⟨_, (X₀.keeps F.keep) _ _ hl, rfl, _, rfl⟩ (by simpa using hi) h
noncomputable def addT (T : MTree) (p : Int) (rp r : MRow) : MTree := (T ++ [r]).set p.toNat { rp with ch := rp.ch ++ [(T.length : Int)] }
noncomputable def addA (T : MTree) (p : Int) (rp r : MRow) : MTree := (T ++ [r]).set p.toNat { rp with ats := rp.ats ++ [(T.length : Int)] }
theorem rowOf_nat {T : MTree} {p : Int} {r : MRow} (h : rowOf T p = some r) : 0 ≤ p ∧ T[p.toNat]? = some r ∧ p.toNat < T.length := by
  obtain ⟨h0, h1⟩ := rowOf_lt h
  unfold rowOf at h
  rw [if_pos h0] at h
  exact ⟨h0, h, by omega⟩
theorem push_at {α : Type} {T : List α} {x y : α} {i : Nat} (h : T[i]? = some y) : (T ++ [x])[i]? = some y := by
  have hi : i < T.length := by
    rcases Nat.lt_or_ge i T.length with h2 | h2
    · exact h2
    · rw [List.getElem?_eq_none h2] at h; cases h
  rw [List.getElem?_append_left hi]; exact h
theorem not_par {k : Kd} (h : k = .root ∨ k = .element) : (!([Str.ofString "root", Str.ofString "element"].any (· == k.s))) = false := by
  rw [(kd_con k).mpr h]; rfl
/-- the tree, the footprint hidden -/
inductive TreeX (w : World) (news : Led) (t : Addr) (T : MTree) (F : List Addr)  : Prop
  | mk : ∀ rl cas aas vs, (F = Foot rl cas aas) → (TreeF w news t T rl cas aas vs) → TreeX w news t T F
theorem TreeX.at {w : World} {news : Led} {t : Addr} {T : MTree} {F : List Addr} (h : TreeX w news t T F) (hs : Small T) (hl : T.length ≤ 1000) : TreeAt w news t T := by
  obtain ⟨rl, cas, aas, vs, _, h⟩ := h
  exact h.at hs hl
theorem TreeX.mono {w : World} {news news' : Led} {t : Addr} {T : MTree} {F : List Addr} (h : TreeX w news t T F) (hs : ∀ p ∈ news, p ∈ news') : TreeX w news' t T F := by
  obtain ⟨rl, cas, aas, vs, e, h⟩ := h
  exact ⟨rl, cas, aas, vs, e, h.mono hs⟩
theorem TreeX.keep {w : World} {news news' : Led} {t : Addr} {T : MTree} {F : List Addr} {D : Addr} {us : List Value} {k : Nat} (h : TreeX w news t T F) (hf : Fun1 news) (hD : (D, listOf us.toArray k) ∈ news) (hn : D ∉ F) (hs : KeptB D news news') : TreeX w news' t T F := by
  obtain ⟨rl, cas, aas, vs, rfl, h⟩ := h
  exact ⟨rl, cas, aas, vs, rfl, h.keep hf hD hn hs⟩
theorem TreeX.key {w : World} {news : Led} {t : Addr} {T : MTree} {F : List Addr} (h : TreeX w news t T F) {a : Addr} (ha : a ∈ F) : ∃ (us : List Value) (k : Nat), (a, listOf us.toArray k) ∈ news := by
  obtain ⟨rl, cas, aas, vs, rfl, h⟩ := h
  exact h.foot ha
/-- an address apart from the ledger is no footprint's -/
theorem TreeX.apart {w : World} {news : Led} {t : Addr} {T : MTree} {F : List Addr} (h : TreeX w news t T F) {a : Addr} (ha : ∀ p ∈ news, @Ne Nat p.1 a) : a ∉ F := fun q => by
  obtain ⟨us, k, e⟩ := h.key q
  exact ha _ e rfl
theorem WF.small {T : MTree} (W : WF T) : Small T := fun i r h => by
  have e : rowOf T (i : Int) = some r := by unfold rowOf; rw [if_pos (by omega)]; simpa using h
  exact ⟨Nat.le_trans (W.chl e) (by decide), Nat.le_trans (W.atl e) (by decide)⟩
theorem foot_mem {rl a ca aa : Addr} {cas aas : List Addr} (h : a ∈ Foot rl (cas ++ [ca]) (aas ++ [aa])) : a ∈ Foot rl cas aas ∨ a = ca ∨ a = aa := by
  rcases List.mem_cons.mp h with rfl | h
  · exact .inl (.head _)
  rcases List.mem_append.mp h with h | h <;> rcases List.mem_append.mp h with h | h
  · exact .inl (.tail _ (List.mem_append_left _ h))
  · exact .inr (.inl (List.mem_singleton.mp h))
  · exact .inl (.tail _ (List.mem_append_right _ h))
  · exact .inr (.inr (List.mem_singleton.mp h))
/-- a row pushed, then one of the lists grown -/
theorem kept_grow {rl ca aa D : Addr} {cas aas : List Addr} {news nn nn2 : Led} (h1 : KeptB rl news nn) (h2 : KeptB D nn nn2) (hD : D ∈ Foot rl (cas ++ [ca]) (aas ++ [aa])) (hca : ∀ p ∈ news, @Ne Nat p.1 ca) (haa : ∀ p ∈ news, @Ne Nat p.1 aa) :
    Kept (Foot rl cas aas) (Foot rl (cas ++ [ca]) (aas ++ [aa])) news nn2 := by
  refine ⟨fun p hp hn => h2 p (h1 p hp fun q => hn ?_) fun q => ?_, fun a ha => ?_⟩
  · have q' : p.1 = rl := q
    rw [q']; exact .head _
  · have q' : p.1 = D := q
    rcases foot_mem (q' ▸ hD) with h | h | h
    · exact hn h
    · exact hca p hp h
    · exact haa p hp h
  · rcases foot_mem ha with h | h | h
    · exact .inl h
    · exact .inr fun p hp => h ▸ hca p hp
    · exact .inr fun p hp => h ▸ haa p hp
theorem in_foot_c {rl D ca aa : Addr} {cas aas : List Addr} {i : Nat} (h : (cas ++ [ca])[i]? = some D) : D ∈ Foot rl (cas ++ [ca]) (aas ++ [aa]) := .tail _ (List.mem_append_left _ (List.mem_of_getElem? h))
theorem in_foot_a {rl D ca aa : Addr} {cas aas : List Addr} {i : Nat} (h : (aas ++ [aa])[i]? = some D) : D ∈ Foot rl (cas ++ [ca]) (aas ++ [aa]) := .tail _ (List.mem_append_right _ (List.mem_of_getElem? h))
end
section
theorem rowOf_set {T : MTree} {p : Int} {rp rp' r : MRow} (hp : rowOf T p = some rp) (z : Int) :
    rowOf ((T ++ [r]).set p.toNat rp') z = if z = p then some rp' else if z = (T.length : Int) then some r else rowOf T z := by
  obtain ⟨h0, h1, h2⟩ := rowOf_nat hp
  unfold rowOf
  by_cases hz : 0 ≤ z
  · rw [if_pos hz, List.getElem?_set]
    by_cases e : z = p
    · subst e
      rw [if_pos rfl, if_pos rfl, if_pos (by simp; omega)]
    · rw [if_neg (show ¬ p.toNat = z.toNat from by omega), if_neg e, if_pos hz]
      by_cases e2 : z = (T.length : Int)
      · rw [if_pos e2, List.getElem?_append_right (by omega)]
        have : z.toNat - T.length = 0 := by omega
        rw [this]; rfl
      · rw [if_neg e2]
        rcases Nat.lt_or_ge z.toNat T.length with h | h
        · rw [List.getElem?_append_left h]
        · rw [List.getElem?_eq_none h, List.getElem?_eq_none (by simp; omega)]
  · rw [if_neg hz, if_neg (by omega), if_neg (by omega), if_neg hz]
theorem WF.grow {T : MTree} (W : WF T) {p : Int} {rp rp' r : MRow} {C A : List Int} (hp : rowOf T p = some rp) (hk : rp.kd = .root ∨ rp.kd = .element)
    (e1 : rp'.kd = rp.kd) (e2 : rp'.par = rp.par) (e3 : rp'.ch = rp.ch ++ C) (e4 : rp'.ats = rp.ats ++ A)
    (hr : r.kd ≠ .root) (hrp : r.par = some p) (hrc : r.ch = []) (hra : r.ats = [])
    (hca : (r.kd = .attribute ∧ rp.kd = .element ∧ C = [] ∧ A = [(T.length : Int)]) ∨ (r.kd ≠ .attribute ∧ C = [(T.length : Int)] ∧ A = []))
    (hl : T.length + 1 ≤ 30) : WF ((T ++ [r]).set p.toNat rp') := by
  obtain ⟨h0, h1, h2⟩ := rowOf_nat hp
  have R := rowOf_set (rp' := rp') (r := r) hp
  have old : ∀ {q : Int} {rq : MRow}, rowOf T q = some rq → ∃ rq', rowOf ((T ++ [r]).set p.toNat rp') q = some rq' ∧ rq'.kd = rq.kd ∧ rq'.par = rq.par ∧ (∀ c ∈ rq.ch, c ∈ rq'.ch) ∧ (∀ c ∈ rq.ats, c ∈ rq'.ats) := by
    intro q rq hq
    obtain ⟨q0, q1⟩ := rowOf_lt hq
    rw [R]
    by_cases e : q = p
    · subst e
      rw [hp] at hq
      cases hq
      rw [if_pos rfl]
      exact ⟨rp', rfl, e1, e2, fun c hc => by rw [e3]; exact List.mem_append_left _ hc, fun c hc => by rw [e4]; exact List.mem_append_left _ hc⟩
    · rw [if_neg e, if_neg (by omega)]
      exact ⟨rq, hq, rfl, rfl, fun _ h => h, fun _ h => h⟩
  have new : rowOf ((T ++ [r]).set p.toNat rp') (T.length : Int) = some r := by rw [R, if_neg (by omega), if_pos rfl]
  have hC : ∀ c ∈ C, c = (T.length : Int) ∧ r.kd ≠ .attribute := by
    intro c hc
    rcases hca with ⟨_, _, q, _⟩ | ⟨q0, q, _⟩ <;> rw [q] at hc
    · cases hc
    · exact ⟨List.mem_singleton.mp hc, q0⟩
  have hA : ∀ c ∈ A, c = (T.length : Int) ∧ r.kd = .attribute := by
    intro c hc
    rcases hca with ⟨q0, _, _, q⟩ | ⟨_, _, q⟩ <;> rw [q] at hc
    · exact ⟨List.mem_singleton.mp hc, q0⟩
    · cases hc
  have ltc : ∀ {z : Int} {rz : MRow}, rowOf T z = some rz → ∀ c, (c ∈ rz.ch ∨ c ∈ rz.ats) → c < (T.length : Int) := by
    intro z rz hz c hc
    rcases hc with hc | hc
    · obtain ⟨_, rc, q, _⟩ := W.ch z rz hz c hc
      exact (rowOf_lt q).2
    · obtain ⟨_, rc, q, _⟩ := W.ats z rz hz c hc
      exact (rowOf_lt q).2
  refine ⟨?_, ?_, ?_, ?_, ?_, by simp; omega⟩
  · obtain ⟨r0, q1, q2, q3⟩ := W.root
    obtain ⟨r0', k1, k2, k3, _⟩ := old q1
    exact ⟨r0', k1, by rw [k2]; exact q2, by rw [k3]; exact q3⟩
  · intro z rz hz hz0
    have key : ∀ {rz0 : MRow}, rowOf T z = some rz0 → rz.kd = rz0.kd → rz.par = rz0.par → ∃ q rq, rz.par = some q ∧ 0 ≤ q ∧ q < z ∧ rowOf ((T ++ [r]).set p.toNat rp') q = some rq ∧ (rq.kd = .root ∨ rq.kd = .element) ∧ rz.kd ≠ .root ∧ (rz.kd = .attribute → rq.kd = .element ∧ z ∈ rq.ats) ∧ (rz.kd ≠ .attribute → z ∈ rq.ch) := by
      intro rz0 hz9 c1 c2
      obtain ⟨q, rq, k1, k2, k3, k4, k5, k6, k7, k8⟩ := W.par z rz0 hz9 hz0
      obtain ⟨rq', j1, j2, j3, j4, j5⟩ := old k4
      exact ⟨q, rq', by rw [c2]; exact k1, k2, k3, j1, by rw [j2]; exact k5, by rw [c1]; exact k6, fun h => by rw [c1] at h; rw [j2]; exact ⟨(k7 h).1, j5 _ (k7 h).2⟩, fun h => by rw [c1] at h; exact j4 _ (k8 h)⟩
    have hz' := hz
    rw [R] at hz'
    by_cases e : z = p
    · rw [if_pos e] at hz'
      cases hz'
      exact key (e ▸ hp) e1 e2
    · rw [if_neg e] at hz'
      by_cases e9 : z = (T.length : Int)
      · rw [if_pos e9] at hz'
        cases hz'
        refine ⟨p, rp', hrp, h0, by omega, by rw [R, if_pos rfl], by rw [e1]; exact hk, hr, fun h => ?_, fun h => ?_⟩
        · rcases hca with ⟨_, q, _, q2⟩ | ⟨q, _⟩
          · rw [e1, e4, q2, e9]
            exact ⟨q, List.mem_append_right _ (.head _)⟩
          · exact absurd h q
        · rcases hca with ⟨q, _⟩ | ⟨_, q, _⟩
          · exact absurd q h
          · rw [e3, q, e9]
            exact List.mem_append_right _ (.head _)
      · rw [if_neg e9] at hz'
        exact key hz' rfl rfl
  · intro z rz hz c hc
    rw [R] at hz
    have key : ∀ {rz0 : MRow}, rowOf T z = some rz0 → c ∈ rz0.ch → z < c ∧ ∃ rc, rowOf ((T ++ [r]).set p.toNat rp') c = some rc ∧ rc.par = some z ∧ rc.kd ≠ .attribute ∧ rc.kd ≠ .root := by
      intro rz0 q1 q2
      obtain ⟨k1, rc, k2, k3, k4, k5⟩ := W.ch z rz0 q1 c q2
      obtain ⟨rc', j1, j2, j3, _⟩ := old k2
      exact ⟨k1, rc', j1, by rw [j3]; exact k3, by rw [j2]; exact k4, by rw [j2]; exact k5⟩
    by_cases e : z = p
    · rw [if_pos e] at hz
      cases hz
      rw [e3] at hc
      rcases List.mem_append.mp hc with hc | hc
      · exact key (e ▸ hp) hc
      · obtain ⟨q, q2⟩ := hC c hc
        rw [q, e]
        exact ⟨by omega, r, new, hrp, q2, hr⟩
    · rw [if_neg e] at hz
      by_cases e9 : z = (T.length : Int)
      · rw [if_pos e9] at hz
        cases hz
        rw [hrc] at hc
        cases hc
      · rw [if_neg e9] at hz
        exact key hz hc
  · intro z rz hz c hc
    rw [R] at hz
    have key : ∀ {rz0 : MRow}, rowOf T z = some rz0 → c ∈ rz0.ats → z < c ∧ ∃ rc, rowOf ((T ++ [r]).set p.toNat rp') c = some rc ∧ rc.par = some z ∧ rc.kd = .attribute := by
      intro rz0 q1 q2
      obtain ⟨k1, rc, k2, k3, k4⟩ := W.ats z rz0 q1 c q2
      obtain ⟨rc', j1, j2, j3, _⟩ := old k2
      exact ⟨k1, rc', j1, by rw [j3]; exact k3, by rw [j2]; exact k4⟩
    by_cases e : z = p
    · rw [if_pos e] at hz
      cases hz
      rw [e4] at hc
      rcases List.mem_append.mp hc with hc | hc
      · exact key (e ▸ hp) hc
      · obtain ⟨q, q2⟩ := hA c hc
        rw [q, e]
        exact ⟨by omega, r, new, hrp, q2⟩
    · rw [if_neg e] at hz
      by_cases e9 : z = (T.length : Int)
      · rw [if_pos e9] at hz
        cases hz
        rw [hra] at hc
        cases hc
      · rw [if_neg e9] at hz
        exact key hz hc
  · intro z rz hz
    rw [R] at hz
    by_cases e : z = p
    · rw [if_pos e] at hz
      cases hz
      obtain ⟨n1, n2⟩ := W.nd p rp hp
      rw [e3, e4]
      refine ⟨List.nodup_append.mpr ⟨n1, ?_, fun a ha b hb q => ?_⟩, List.nodup_append.mpr ⟨n2, ?_, fun a ha b hb q => ?_⟩⟩
      · rcases hca with ⟨_, _, q, _⟩ | ⟨_, q, _⟩ <;> rw [q] <;> simp
      · have k1 := ltc hp a (.inl ha)
        have k2 := (hC b hb).1
        omega
      · rcases hca with ⟨_, _, _, q⟩ | ⟨_, _, q⟩ <;> rw [q] <;> simp
      · have k1 := ltc hp a (.inr ha)
        have k2 := (hA b hb).1
        omega
    · rw [if_neg e] at hz
      by_cases e9 : z = (T.length : Int)
      · rw [if_pos e9] at hz
        cases hz
        rw [hrc, hra]
        exact ⟨List.nodup_nil, List.nodup_nil⟩
      · rw [if_neg e9] at hz
        exact W.nd z rz hz
theorem WF.addT {T : MTree} (W : WF T) {p : Int} {rp : MRow} {kd : Kd} {nm : Str} (hp : rowOf T p = some rp) (hk : rp.kd = .root ∨ rp.kd = .element) (h1 : kd ≠ .root) (h2 : kd ≠ .attribute) (hl : T.length + 1 ≤ 30) :
    WF (addT T p rp ⟨kd, nm, some p, [], []⟩) :=
  W.grow (C := [(T.length : Int)]) (A := []) hp hk rfl rfl rfl (by simp) h1 rfl rfl rfl (.inr ⟨h2, rfl, rfl⟩) hl
theorem WF.addA {T : MTree} (W : WF T) {p : Int} {rp : MRow} {nm : Str} (hp : rowOf T p = some rp) (hk : rp.kd = .element) (hl : T.length + 1 ≤ 30) :
    WF (addA T p rp ⟨.attribute, nm, some p, [], []⟩) :=
  W.grow (C := []) (A := [(T.length : Int)]) hp (.inr hk) rfl rfl (by simp) rfl (fun h => nomatch h) rfl rfl rfl (.inl ⟨rfl, hk, rfl, rfl⟩) hl
theorem len_addT {T : MTree} {p : Int} {rp r : MRow} : (addT T p rp r).length = T.length + 1 := by simp [addT]
theorem len_addA {T : MTree} {p : Int} {rp r : MRow} : (addA T p rp r).length = T.length + 1 := by simp [addA]
/-- an elder row keeps its kind -/
theorem kd_addT {T : MTree} {p z : Int} {rp r rz : MRow} (hp : rowOf T p = some rp) (hz : rowOf T z = some rz) : ∃ rz', rowOf (addT T p rp r) z = some rz' ∧ rz'.kd = rz.kd := by
  have h := rowOf_lt hz
  rw [addT, rowOf_set hp]
  by_cases e : z = p
  · subst e
    rw [hp] at hz
    cases hz
    exact ⟨_, if_pos rfl, rfl⟩
  · rw [if_neg e, if_neg (by omega)]
    exact ⟨rz, hz, rfl⟩
theorem kd_addA {T : MTree} {p z : Int} {rp r rz : MRow} (hp : rowOf T p = some rp) (hz : rowOf T z = some rz) : ∃ rz', rowOf (addA T p rp r) z = some rz' ∧ rz'.kd = rz.kd := by
  have h := rowOf_lt hz
  rw [addA, rowOf_set hp]
  by_cases e : z = p
  · subst e
    rw [hp] at hz
    cases hz
    exact ⟨_, if_pos rfl, rfl⟩
  · rw [if_neg e, if_neg (by omega)]
    exact ⟨rz, hz, rfl⟩
theorem new_addT {T : MTree} {p : Int} {rp r : MRow} (hp : rowOf T p = some rp) : rowOf (addT T p rp r) (T.length : Int) = some r := by
  have h := rowOf_lt hp
  rw [addT, rowOf_set hp, if_neg (by omega), if_pos rfl]
theorem wf_root : WF [⟨.root, Str.ofString "", none, [], []⟩] := by
  have key : ∀ z r, rowOf [(⟨.root, Str.ofString "", none, [], []⟩ : MRow)] z = some r → z = 0 ∧ r = ⟨.root, Str.ofString "", none, [], []⟩ := by
    intro z r h
    have h2 := rowOf_lt h
    obtain rfl : z = 0 := by simp at h2; omega
    exact ⟨rfl, (Option.some.inj h).symm⟩
  refine ⟨⟨_, rfl, rfl, rfl⟩, fun z r h h0 => absurd (key z r h).1 h0, fun z r h c hc => ?_, fun z r h c hc => ?_, fun z r h => ?_, by decide⟩
  · rw [(key z r h).2] at hc; cases hc
  · rw [(key z r h).2] at hc; cases hc
  · rw [(key z r h).2]; exact ⟨List.nodup_nil, List.nodup_nil⟩
noncomputable def upto (n : Nat) : List Int := (List.range n).map Int.ofNat
theorem upto_succ (n : Nat) : upto (n + 1) = upto n ++ [(n : Int)] := by simp [upto, List.range_succ]
theorem upto_len (n : Nat) : (upto n).length = n := by simp [upto]
theorem mem_upto {n : Nat} {z : Int} : z ∈ upto n ↔ 0 ≤ z ∧ z < (n : Int) := by
  simp only [upto, List.mem_map, List.mem_range]
  constructor
  · rintro ⟨a, h, rfl⟩
    exact ⟨Int.natCast_nonneg a, by have : Int.ofNat a = (a : Int) := rfl; omega⟩
  · rintro ⟨h1, h2⟩
    exact ⟨z.toNat, by omega, by show ((z.toNat : Nat) : Int) = z; omega⟩
theorem rowOf_upto {T : MTree} {z : Int} : (∃ r, rowOf T z = some r) ↔ z ∈ upto T.length := by
  rw [mem_upto]
  constructor
  · rintro ⟨r, h⟩; exact rowOf_lt h
  · rintro ⟨h1, h2⟩
    exact ⟨T[z.toNat]'(by omega), by unfold rowOf; rw [if_pos h1]; exact List.getElem?_eq_getElem _⟩
end
section
noncomputable def NoIt (o : Obj) : Prop := o.cls ≠ .type "range_iterator"
theorem noit_list {a : Array Value} {k : Nat} : NoIt (listOf a k) := fun h => by
  have h' : (Value.type "list" : Value) = .type "range_iterator" := h
  injection h' with h'
  exact absurd h' (by decide)
theorem noit_dict {es : List DictEntry} {k : Nat} : NoIt (dictOf es k) := fun h => by
  have h' : (Value.type "dict" : Value) = .type "range_iterator" := h
  injection h' with h'
  exact absurd h' (by decide)
theorem noit_inst {c d : Addr} : NoIt (instObj c d) := fun h => by
  have h' : (Value.ref c : Value) = .type "range_iterator" := h
  cases h'
theorem TreeF.keepG {w : World} {news news' : Led} {t : Addr} {T : MTree} {rl : Addr} {cas aas : List Addr} {vs : List Value} (h : TreeF w news t T rl cas aas vs) (hs : ∀ p ∈ news, NoIt p.2 → p ∈ news') : TreeF w news' t T rl cas aas vs := by
  obtain ⟨dt, tk, h1, h2⟩ := h.inst
  obtain ⟨k0, hr⟩ := h.rows
  refine ⟨⟨dt, tk, hs _ h1 noit_inst, hs _ h2 noit_dict⟩, ⟨k0, hs _ hr noit_list⟩, h.lv, h.lc, h.la, h.nd, fun i r hi => ?_⟩
  obtain ⟨x, ca, aa, e1, e2, e3, d, na, v, t0, t1, t2, t3, t4, t5, t6, t7, t8, v0, v1, v2, v3, v4, v5, cvs, avs, k1, k2, a, b, c, e, f, g⟩ := h.row i r hi
  exact ⟨x, ca, aa, e1, e2, e3, d, na, v, t0, t1, t2, t3, t4, t5, t6, t7, t8, v0, v1, v2, v3, v4, v5, cvs, avs, k1, k2, hs _ a noit_inst, hs _ b noit_dict, hs _ c noit_list, hs _ e noit_list, f, g⟩
theorem TreeX.keepG {w : World} {news news' : Led} {t : Addr} {T : MTree} {F : List Addr} (h : TreeX w news t T F) (hs : ∀ p ∈ news, NoIt p.2 → p ∈ news') : TreeX w news' t T F := by
  obtain ⟨rl, cas, aas, vs, e, h⟩ := h
  exact ⟨rl, cas, aas, vs, e, h.keepG hs⟩
/-- the document as the ledger bears it; news₀ is the ledger ahead of it -/
structure DocAt (w : World) (news₀ news : Led) (sl t pl nl : Addr) (T : MTree) (FF : List Addr) (Ps : List Int) (n : Nat) : Prop where
  tree : TreeX w news t T FF
  src : Src news sl
  pars : ∃ (pvs : List Value) (k : Nat), (pl, listOf pvs.toArray k) ∈ news ∧ IntsAre pvs Ps
  nods : ∃ (nvs : List Value) (k : Nat), (nl, listOf nvs.toArray k) ∈ news ∧ IntsAre nvs (upto n)
  s1 : sl ∉ FF
  p1 : pl ∉ FF
  n1 : nl ∉ FF
  ps : @Ne Nat pl sl
  ns : @Ne Nat nl sl
  pn : @Ne Nat pl nl
  out : ∀ p ∈ news₀, @Ne Nat p.1 sl → p ∈ news
  outF : ∀ p ∈ news₀, p.1 ∉ FF ∧ @Ne Nat p.1 pl ∧ @Ne Nat p.1 nl
section
variable {w : World} {news₀ news news' : Led} {sl t pl nl : Addr} {T T' : MTree} {FF FF' : List Addr} {Ps : List Int} {n : Nat}
theorem DocAt.mono (d : DocAt w news₀ news sl t pl nl T FF Ps n) (hs : ∀ p ∈ news, p ∈ news') : DocAt w news₀ news' sl t pl nl T FF Ps n := by
  obtain ⟨tr, sr, ⟨pvs, k, a, b⟩, ⟨nvs, j, c, e⟩, s1, p1, n1, ps, ns, pn, o, oF⟩ := d
  exact ⟨tr.mono hs, sr.mono hs, ⟨pvs, k, hs _ a, b⟩, ⟨nvs, j, hs _ c, e⟩, s1, p1, n1, ps, ns, pn, fun p hp hn => hs _ (o p hp hn), oF⟩
theorem DocAt.draw (d : DocAt w news₀ news sl t pl nl T FF Ps n) (hf : Fun1 news) (hs : Src news' sl) (hk : KeptB sl news news') : DocAt w news₀ news' sl t pl nl T FF Ps n := by
  obtain ⟨tr, sr, ⟨pvs, k, a, b⟩, ⟨nvs, j, c, e⟩, s1, p1, n1, ps, ns, pn, o, oF⟩ := d
  obtain ⟨x, y, tx, ty, k9, hsl, _⟩ := sr
  exact ⟨tr.keep hf hsl s1 hk, hs, ⟨pvs, k, hk _ a ps, b⟩, ⟨nvs, j, hk _ c ns, e⟩, s1, p1, n1, ps, ns, pn, fun p hp hn => hk _ (o p hp hn) hn, oF⟩
theorem Kept.notin {F F' : List Addr} {news news' : Led} (h : Kept F F' news news') {a : Addr} {o : Obj} (hm : (a, o) ∈ news) (hn : a ∉ F) : a ∉ F' := (h.out hm hn).2
theorem DocAt.grow (d : DocAt w news₀ news sl t pl nl T FF Ps n) (tr' : TreeX w news' t T' FF') (hk : Kept FF FF' news news') : DocAt w news₀ news' sl t pl nl T' FF' Ps n := by
  obtain ⟨tr, sr, ⟨pvs, k, a, b⟩, ⟨nvs, j, c, e⟩, s1, p1, n1, ps, ns, pn, o, oF⟩ := d
  obtain ⟨x, y, tx, ty, k9, hsl, hb⟩ := sr
  obtain ⟨m1, f1⟩ := hk.out hsl s1
  obtain ⟨m2, f2⟩ := hk.out a p1
  obtain ⟨m3, f3⟩ := hk.out c n1
  by_cases hsl0 : ∃ p ∈ news₀, p.1 = sl
  · obtain ⟨p0, hp0, hp1⟩ := hsl0
    refine ⟨tr', ⟨x, y, tx, ty, k9, m1, hb⟩, ⟨pvs, k, m2, b⟩, ⟨nvs, j, m3, e⟩, f1, f2, f3, ps, ns, pn, fun p hp hn => (hk.out (o p hp hn) (oF p hp).1).1, fun p hp => ⟨?_, (oF p hp).2⟩⟩
    by_cases hn : @Ne Nat p.1 sl
    · exact (hk.out (o p hp hn) (oF p hp).1).2
    · have : p.1 = sl := Classical.not_not.mp hn
      rw [this]; exact f1
  · refine ⟨tr', ⟨x, y, tx, ty, k9, m1, hb⟩, ⟨pvs, k, m2, b⟩, ⟨nvs, j, m3, e⟩, f1, f2, f3, ps, ns, pn, fun p hp hn => (hk.out (o p hp hn) (oF p hp).1).1, fun p hp => ⟨?_, (oF p hp).2⟩⟩
    exact (hk.out (o p hp fun q => hsl0 ⟨p, hp, q⟩) (oF p hp).1).2
theorem DocAt.appN {nvs : List Value} {k' : Nat} {tk : Tok} (d : DocAt w news₀ news sl t pl nl T FF Ps n) (hf : Fun1 news) (hm : (nl, listOf (nvs ++ [Value.int (n : Int) tk]).toArray k') ∈ news') (hi : IntsAre nvs (upto n)) (hk : KeptB nl news news') : DocAt w news₀ news' sl t pl nl T FF Ps (n + 1) := by
  obtain ⟨tr, sr, ⟨pvs, k, a, b⟩, ⟨nvs0, j, c, e⟩, s1, p1, n1, ps, ns, pn, o, oF⟩ := d
  obtain ⟨x, y, tx, ty, k9, hsl, hb⟩ := sr
  exact ⟨tr.keep hf c n1 hk, ⟨x, y, tx, ty, k9, hk _ hsl (Ne.symm ns), hb⟩, ⟨pvs, k, hk _ a pn, b⟩, ⟨_, k', hm, by rw [upto_succ]; exact hi.append (.cons _ _ .nil)⟩, s1, p1, n1, ps, ns, pn, fun p hp hn => hk _ (o p hp hn) (oF p hp).2.2, oF⟩
theorem DocAt.appP {pvs : List Value} {k' : Nat} {z : Int} {tk : Tok} (d : DocAt w news₀ news sl t pl nl T FF Ps n) (hf : Fun1 news) (hm : (pl, listOf (pvs ++ [Value.int z tk]).toArray k') ∈ news') (hi : IntsAre pvs Ps) (hk : KeptB pl news news') : DocAt w news₀ news' sl t pl nl T FF (Ps ++ [z]) n := by
  obtain ⟨tr, sr, ⟨pvs0, k, a, b⟩, ⟨nvs, j, c, e⟩, s1, p1, n1, ps, ns, pn, o, oF⟩ := d
  obtain ⟨x, y, tx, ty, k9, hsl, hb⟩ := sr
  exact ⟨tr.keep hf a p1 hk, ⟨x, y, tx, ty, k9, hk _ hsl (Ne.symm ps), hb⟩, ⟨_, k', hm, hi.append (.cons _ _ .nil)⟩, ⟨nvs, j, hk _ c (Ne.symm pn), e⟩, s1, p1, n1, ps, ns, pn, fun p hp hn => hk _ (o p hp hn) (oF p hp).2.1, oF⟩
theorem TreeX.inst {w : World} {news : Led} {t : Addr} {T : MTree} {F : List Addr} (h : TreeX w news t T F) : ∃ dt tk rl, (t, instObj 492 dt) ∈ news ∧ (dt, dictOf [⟨PyData.keyHash w.params (Str.ofString "rows"), .str (Str.ofString "rows") tk, .ref rl⟩] 1) ∈ news := by
  obtain ⟨rl, cas, aas, vs, _, h⟩ := h
  obtain ⟨dt, tk, h1, h2⟩ := h.inst
  exact ⟨dt, tk, rl, h1, h2⟩
/-- a turn left: its iterator dropped -/
theorem DocAt.leave {g h : Heap} {L it : Addr} {oi : Obj} (d : DocAt w news₀ news sl t pl nl T FF Ps n) (N : News g L h news) (hm : (it, oi) ∈ news) (hc : oi.cls = .type "range_iterator") (h0 : ∀ p ∈ news₀, @Ne Nat p.1 sl → @Ne Nat p.1 it) :
    ∃ news', News g L h ((it, oi) :: news') ∧ (∀ p ∈ news', @Ne Nat p.1 it) ∧ DocAt w news₀ news' sl t pl nl T FF Ps n := by
  have hf := fun1_of N
  have hs : ∀ p ∈ news, NoIt p.2 → p ∈ news.filter fun p => decide (@Ne Nat p.1 it) := fun p hp hn => List.mem_filter.mpr ⟨hp, by
    simp only [ne_eq, decide_not, Bool.not_eq_true', decide_eq_false_iff_not]
    intro q
    have q' : p.1 = it := q
    have := hf it p.2 oi (q' ▸ hp) hm
    exact hn (this ▸ hc)⟩
  obtain ⟨tr, ⟨x, y, tx, ty, k9, hsl, hb⟩, ⟨pvs, k, a, b⟩, ⟨nvs, j, c, e⟩, s1, p1, n1, ps, ns, pn, o, oF⟩ := d
  refine ⟨news.filter fun p => decide (@Ne Nat p.1 it), fun p hp => ?_, fun p hp => by simpa using (List.mem_filter.mp hp).2, tr.keepG hs, ⟨x, y, tx, ty, k9, hs _ hsl noit_list, hb⟩, ⟨pvs, k, hs _ a noit_list, b⟩, ⟨nvs, j, hs _ c noit_list, e⟩, s1, p1, n1, ps, ns, pn, fun p hp hn => List.mem_filter.mpr ⟨o p hp hn, by simpa using h0 p hp hn⟩, oF⟩
  rcases List.mem_cons.mp hp with rfl | hp
  · exact N _ hm
  · exact N _ (List.mem_filter.mp hp).1
end
/-- the tree as the law's turns make it -/
structure DocT (T : MTree) (Ps : List Int) : Prop where
  wf : WF T
  ne : 1 ≤ Ps.length
  le : Ps.length ≤ T.length
  el : ∀ p ∈ Ps, ∃ rp, rowOf T p = some rp ∧ rp.kd = .element
  one : ∃ r, rowOf T 1 = some r ∧ r.kd = .element
theorem DocT.text {T : MTree} {Ps : List Int} (d : DocT T Ps) {p : Int} {rp : MRow} {kd : Kd} {nm : Str} (hp : rowOf T p = some rp) (hk : rp.kd = .root ∨ rp.kd = .element) (h1 : kd ≠ .root) (h2 : kd ≠ .attribute) (hl : T.length + 1 ≤ 30) : DocT (addT T p rp ⟨kd, nm, some p, [], []⟩) Ps := by
  obtain ⟨wf, ne, le, el, r1, o1, o2⟩ := d
  refine ⟨wf.addT hp hk h1 h2 hl, ne, by rw [len_addT]; omega, fun q hq => ?_, ?_⟩
  · obtain ⟨rq, e1, e2⟩ := el q hq
    obtain ⟨rq', f1, f2⟩ := kd_addT (r := ⟨kd, nm, some p, [], []⟩) hp e1
    exact ⟨rq', f1, by rw [f2, e2]⟩
  · obtain ⟨rq', f1, f2⟩ := kd_addT (r := ⟨kd, nm, some p, [], []⟩) hp o1
    exact ⟨rq', f1, by rw [f2, o2]⟩
theorem DocT.elem {T : MTree} {Ps : List Int} (d : DocT T Ps) {p : Int} {rp : MRow} {nm : Str} (hp : rowOf T p = some rp) (hk : rp.kd = .root ∨ rp.kd = .element) (hl : T.length + 1 ≤ 30) : DocT (addT T p rp ⟨.element, nm, some p, [], []⟩) (Ps ++ [(T.length : Int)]) := by
  obtain ⟨wf, ne, le, el, one⟩ := d.text (kd := .element) (nm := nm) hp hk (fun h => nomatch h) (fun h => nomatch h) hl
  refine ⟨wf, by simp, by rw [len_addT]; have := d.le; simp; omega, fun q hq => ?_, one⟩
  rcases List.mem_append.mp hq with hq | hq
  · exact el q hq
  · rw [List.mem_singleton.mp hq]
    exact ⟨_, new_addT hp, rfl⟩
theorem DocT.attr {T : MTree} {Ps : List Int} (d : DocT T Ps) {p : Int} {rp : MRow} {nm : Str} (hp : rowOf T p = some rp) (hk : rp.kd = .element) (hl : T.length + 1 ≤ 30) : DocT (addA T p rp ⟨.attribute, nm, some p, [], []⟩) Ps := by
  obtain ⟨wf, ne, le, el, r1, o1, o2⟩ := d
  refine ⟨wf.addA hp hk hl, ne, by rw [len_addA]; omega, fun q hq => ?_, ?_⟩
  · obtain ⟨rq, e1, e2⟩ := el q hq
    obtain ⟨rq', f1, f2⟩ := kd_addA (r := ⟨.attribute, nm, some p, [], []⟩) hp e1
    exact ⟨rq', f1, by rw [f2, e2]⟩
  · obtain ⟨rq', f1, f2⟩ := kd_addA (r := ⟨.attribute, nm, some p, [], []⟩) hp o1
    exact ⟨rq', f1, by rw [f2, o2]⟩
theorem doc_start {w : World} {news nn1 nn2 nn3 nn4 : Led} {sl t pl nl rl : Addr} {FF1 FF2 : List Addr} {tp t0 t1 : Tok} {kp kn : Nat} (hR : Src news sl) (hs1 : ∀ p ∈ news, p ∈ nn1) (hfr : ∀ p ∈ news, @Ne Nat p.1 rl) (hkp1 : Kept [rl] FF1 nn1 nn2) (hkp2 : Kept FF1 FF2 nn2 nn3)
    (htx2 : TreeX w nn3 t (addT [⟨.root, Str.ofString "", none, [], []⟩] 0 ⟨.root, Str.ofString "", none, [], []⟩ ⟨.element, Str.ofString "a", some 0, [], []⟩) FF2) (lp : ∀ p ∈ nn3, @LT.lt Nat _ p.1 pl) (ln : @LT.lt Nat _ pl nl ∧ AllLt nl nn3)
    (mp : (pl, listOf [Value.int 1 tp].toArray kp) ∈ nn4) (mn : (nl, listOf [Value.int 0 t0, Value.int 1 t1].toArray kn) ∈ nn4) (hs4 : ∀ p ∈ nn3, p ∈ nn4) :
    ∃ T, T.length = 2 ∧ DocT T [1] ∧ DocAt w news nn4 sl t pl nl T FF2 [1] T.length := by
  have ch : ∀ p ∈ news, p ∈ nn3 ∧ p.1 ∉ FF2 := fun p hp => by
    obtain ⟨a1, b1⟩ := hkp1.out (hs1 p hp) (fun q => hfr p hp (List.mem_singleton.mp q))
    exact hkp2.out a1 b1
  have ln2 := of_allLt ln.2
  obtain ⟨x, y, tx, ty, k9, hsl, hb⟩ := hR
  obtain ⟨c1, c2⟩ := ch _ hsl
  have W2 := wf_root.addT (p := 0) (rp := ⟨.root, Str.ofString "", none, [], []⟩) (kd := .element) (nm := Str.ofString "a") rfl (.inl rfl) (fun h => nomatch h) (fun h => nomatch h) (by decide)
  refine ⟨_, rfl, ⟨W2, by decide, by decide, fun p hp => ?_, ⟨_, rfl, rfl⟩⟩, htx2.mono hs4, ⟨x, y, tx, ty, k9, hs4 _ c1, hb⟩, ⟨_, _, mp, .cons _ _ .nil⟩, ⟨_, _, mn, .cons _ _ (.cons _ _ .nil)⟩, c2, htx2.apart fun p hp => Nat.ne_of_lt (lp p hp), htx2.apart fun p hp => Nat.ne_of_lt (ln2 p hp), Ne.symm (Nat.ne_of_lt (lp _ c1)), Ne.symm (Nat.ne_of_lt (ln2 _ c1)), Nat.ne_of_lt ln.1, fun p hp _ => hs4 _ (ch p hp).1,
    fun p hp => ⟨(ch p hp).2, Nat.ne_of_lt (lp _ (ch p hp).1), Nat.ne_of_lt (ln2 _ (ch p hp).1)⟩⟩
  rw [List.mem_singleton.mp hp]
  exact ⟨_, rfl, rfl⟩
theorem pick_five {a b c d e x : Value} {j : Nat} (h : [a, b, c, d, e][j]? = some x) : x = a ∨ x = b ∨ x = c ∨ x = d ∨ x = e := by
  have := List.mem_of_getElem? h
  simpa using this
theorem pick_two {a b x : Value} {j : Nat} (h : [a, b][j]? = some x) : x = a ∨ x = b := by
  have := List.mem_of_getElem? h
  simpa using this
theorem pick_three {a b c x : Value} {j : Nat} (h : [a, b, c][j]? = some x) : x = a ∨ x = b ∨ x = c := by
  have := List.mem_of_getElem? h
  simpa using this
theorem pick_four {a b c d x : Value} {j : Nat} (h : [a, b, c, d][j]? = some x) : x = a ∨ x = b ∨ x = c ∨ x = d := by
  have := List.mem_of_getElem? h
  simpa using this
theorem mem_tail' {x : Addr × Obj} {l : Led} : ∀ p ∈ l, p ∈ x :: l := fun _ h => .tail _ h
theorem mem_tail2 {x y : Addr × Obj} {l : Led} : ∀ p ∈ l, p ∈ x :: y :: l := fun _ h => .tail _ (.tail _ h)
theorem Src.ne {news : Led} {sl D : Addr} (h : Src news sl) (hD : ∀ p ∈ news, @LT.lt Nat _ p.1 D) : @Ne Nat D sl := by
  obtain ⟨_, _, _, _, _, hs, _⟩ := h
  exact Ne.symm (Nat.ne_of_lt (hD _ hs))
theorem rowOf_one {T : MTree} {x : MRow} {l : MTree} (h : T = x :: l) : rowOf T 0 = some x := by subst h; rfl
end
section
theorem tup_list {a b : Array Value} {k j : Nat} (h : tupOf a k = listOf b j) : False := by
  have h2 : (Value.type "tuple" : Value) = .type "list" := congrArg Obj.cls h
  injection h2 with h2
  exact absurd h2 (by decide)
section
variable {news news' : Led} {sl : Addr}
theorem Src.ntup (h : Src news sl) (hf : Fun1 news) {a : Addr} {xs : Array Value} {k : Nat} (ha : (a, tupOf xs k) ∈ news) : @Ne Nat a sl := fun q => by
  obtain ⟨_, _, _, _, _, hs, _⟩ := h
  have q' : a = sl := q
  exact tup_list (hf sl _ _ (q' ▸ ha) hs)
theorem TstAt.keepB {a : Addr} {x : Tst} (h : TstAt news a x) (hf : Fun1 news) (hs : Src news sl) (hk : KeptB sl news news') : TstAt news' a x := by
  cases x
  · obtain ⟨t0, t1, t2, n, h⟩ := h
    exact ⟨t0, t1, t2, n, hk _ h (hs.ntup hf h)⟩
  all_goals
    obtain ⟨t0, n, h⟩ := h
    exact ⟨t0, n, hk _ h (hs.ntup hf h)⟩
theorem RowTup.keepB {a : Addr} {p : PSp} (h : RowTup news a p) (hf : Fun1 news) (hs : Src news sl) (hk : KeptB sl news news') : RowTup news' a p := by
  obtain ⟨ta, tp, k, h1, h2⟩ := h
  exact ⟨ta, tp, k, hk _ h1 (hs.ntup hf h1), h2.keepB hf hs hk⟩
end
theorem posV_four {t1 t2 : Tok} {x : Value} {j : Nat} (h : [Value.none, .none, .int 1 t1, .int 2 t2][j]? = some x) : ∃ (po : Option Int) (tp : Tok), x = posV po tp ∧ ∀ k, po = some k → 1 ≤ k ∧ k ≤ 2 := by
  rcases pick_four h with rfl | rfl | rfl | rfl
  · exact ⟨none, 0, rfl, fun k h => nomatch h⟩
  · exact ⟨none, 0, rfl, fun k h => nomatch h⟩
  · exact ⟨some 1, t1, rfl, fun k h => by cases h; decide⟩
  · exact ⟨some 2, t2, rfl, fun k h => by cases h; decide⟩
theorem part_turn {w : World} {g h : Heap} {L it pl x2 : Addr} {oi : Obj} {pvs : List Value} {c i : Nat} {fr base news nnE : Led} {rows : List PSp} {p : PSp} (new : Led)
    (NE : News g L h nnE) (hmE : (pl, listOf (pvs ++ [Value.ref x2]).toArray (c + 1)) ∈ nnE) (hkE : ∀ q ∈ new ++ (it, oi) :: (pl, listOf pvs.toArray c) :: (fr ++ news), @Ne Nat q.1 pl → q ∈ nnE)
    (hnew : ∀ q ∈ new, @LT.lt Nat _ it q.1 ∧ @LT.lt Nat _ pl q.1) (n1 : @Ne Nat pl it) (n2 : ∀ q ∈ fr ++ news, @Ne Nat q.1 it) (hne : ∀ q ∈ fr ++ news, @Ne Nat q.1 pl) (hlp : ∀ p ∈ news, @LT.lt Nat _ p.1 pl) (hfr : ∀ q ∈ fr, ∀ p ∈ news, @LT.lt Nat _ p.1 q.1)
    (hP : PartAt w (new ++ (fr ++ base)) x2 p) (hp : rows[i]? = some p) (hpl : pvs.length = i)
    (hall : ∀ (j : Nat) (p : PSp), j < i → rows[j]? = some p → ∃ a, pvs[j]? = some (.ref a) ∧ PartAt w (fr ++ base) a p) :
    ∃ fr', News g L h ((it, oi) :: (pl, listOf (pvs ++ [Value.ref x2]).toArray (c + 1)) :: (fr' ++ news)) ∧ (∀ q ∈ (pl, listOf (pvs ++ [Value.ref x2]).toArray (c + 1)) :: (fr' ++ news), @Ne Nat q.1 it) ∧ (∀ q ∈ fr', ∀ p ∈ news, @LT.lt Nat _ p.1 q.1) ∧ (∀ q ∈ fr' ++ news, @Ne Nat q.1 pl) ∧ (pvs ++ [Value.ref x2]).length = i + 1 ∧
      ∀ (j : Nat) (p : PSp), j < i + 1 → rows[j]? = some p → ∃ a, (pvs ++ [Value.ref x2])[j]? = some (.ref a) ∧ PartAt w (fr' ++ base) a p := by
  have hk : ∀ q ∈ new ++ (fr ++ news), q ∈ nnE := fun q hq => by
    rcases List.mem_append.mp hq with hq | hq
    · exact hkE q (List.mem_append_left _ hq) (Ne.symm (Nat.ne_of_lt (hnew q hq).2))
    · exact hkE q (List.mem_append_right _ (.tail _ (.tail _ hq))) (hne q hq)
  have hit : (it, oi) ∈ nnE := hkE _ (List.mem_append_right _ (.head _)) (Ne.symm n1)
  refine ⟨new ++ fr, fun q hq => ?_, fun q hq => ?_, fun q hq => ?_, fun q hq => ?_, by simp [hpl], fun j p' hj hp' => ?_⟩
  · rcases List.mem_cons.mp hq with rfl | hq
    · exact NE _ hit
    rcases List.mem_cons.mp hq with rfl | hq
    · exact NE _ hmE
    · rw [List.append_assoc] at hq
      exact NE _ (hk q hq)
  · rcases List.mem_cons.mp hq with rfl | hq
    · exact n1
    rw [List.append_assoc] at hq
    rcases List.mem_append.mp hq with hq | hq
    · exact Ne.symm (Nat.ne_of_lt (hnew q hq).1)
    · exact n2 q hq
  · intro p9 hp9
    rcases List.mem_append.mp hq with hq | hq
    · exact Nat.lt_trans (hlp p9 hp9) (hnew q hq).2
    · exact hfr q hq p9 hp9
  · rw [List.append_assoc] at hq
    rcases List.mem_append.mp hq with hq | hq
    · exact Ne.symm (Nat.ne_of_lt (hnew q hq).2)
    · exact hne q hq
  · rw [List.append_assoc]
    rcases Nat.lt_or_ge j i with h | h
    · obtain ⟨a, e1, e2⟩ := hall j p' h hp'
      exact ⟨a, push_at e1, e2.mono fun q hq => List.mem_append_right _ hq⟩
    · obtain rfl : j = i := by omega
      rw [hp] at hp'
      cases hp'
      exact ⟨x2, by rw [← hpl]; simp, hP⟩
end
section
theorem TreeF.keepS {w : World} {news news' : Led} {t : Addr} {T : MTree} {rl : Addr} {cas aas : List Addr} {vs : List Value} {S : List Addr} (h : TreeF w news t T rl cas aas vs) (hf : Fun1 news)
    (hS : ∀ s ∈ S, s ∉ Foot rl cas aas ∧ ∃ o, (s, o) ∈ news ∧ (∀ c d, o ≠ instObj c d) ∧ (∀ es k, o ≠ dictOf es k)) (hs : ∀ p ∈ news, p.1 ∉ S → p ∈ news') : TreeF w news' t T rl cas aas vs := by
  have hi : ∀ x c d, (x, instObj c d) ∈ news → (x, instObj c d) ∈ news' := fun x c d hx => hs _ hx fun q => by
    obtain ⟨_, o, ho, h1, _⟩ := hS _ q
    exact h1 c d (hf x _ _ ho hx)
  have hd : ∀ x es k, (x, dictOf es k) ∈ news → (x, dictOf es k) ∈ news' := fun x es k hx => hs _ hx fun q => by
    obtain ⟨_, o, ho, _, h1⟩ := hS _ q
    exact h1 es k (hf x _ _ ho hx)
  have hl : ∀ x o, x ∈ Foot rl cas aas → (x, o) ∈ news → (x, o) ∈ news' := fun x o hx hm => hs _ hm fun q => (hS _ q).1 hx
  obtain ⟨dt, tk, h1, h2⟩ := h.inst
  obtain ⟨k0, hr⟩ := h.rows
  refine ⟨⟨dt, tk, hi _ _ _ h1, hd _ _ _ h2⟩, ⟨k0, hl _ _ (.head _) hr⟩, h.lv, h.lc, h.la, h.nd, fun i r hri => ?_⟩
  obtain ⟨x, ca, aa, e1, e2, e3, d, na, v, t0, t1, t2, t3, t4, t5, t6, t7, t8, v0, v1, v2, v3, v4, v5, cvs, avs, k1, k2, a, b, c, e, f, g⟩ := h.row i r hri
  exact ⟨x, ca, aa, e1, e2, e3, d, na, v, t0, t1, t2, t3, t4, t5, t6, t7, t8, v0, v1, v2, v3, v4, v5, cvs, avs, k1, k2, hi _ _ _ a, hd _ _ _ b, hl _ _ (.tail _ (List.mem_append_left _ (List.mem_of_getElem? e2))) c, hl _ _ (.tail _ (List.mem_append_right _ (List.mem_of_getElem? e3))) e, f, g⟩
theorem cell_inst {o : Obj} {v : Option Value} (h : o.data = .cell v) : (∀ c d, o ≠ instObj c d) ∧ (∀ es k, o ≠ dictOf es k) ∧ (∀ a k, o ≠ listOf a k) ∧ ∀ a k, o ≠ tupOf a k :=
  ⟨(fun c d q => by rw [q] at h; cases h), (fun c d q => by rw [q] at h; cases h), (fun c d q => by rw [q] at h; cases h), (fun c d q => by rw [q] at h; cases h)⟩
/-- the document, with what stands beside it set aside -/
theorem doc_rest {w : World} {g h : Heap} {L : Addr} {news₀ nn : Led} {sl t pl nl D : Addr} {xs : Array Value} {kD : Nat} {T : MTree} {FF : List Addr} {Ps : List Int} {n : Nat} (d : DocAt w news₀ nn sl t pl nl T FF Ps n) (N : News g L h nn) (hD : (D, tupOf xs kD) ∈ nn)
    (hS : Small T) (hl : T.length ≤ 1000) (cs : List Addr) (hc : ∀ c ∈ cs, @Ne Nat c sl ∧ ∃ o v, (c, o) ∈ news₀ ∧ o.data = .cell v) :
    ∃ rest, News g L h rest ∧ (∀ q ∈ rest, q ∈ nn) ∧ (∀ q ∈ rest, q.1 ∉ sl :: cs) ∧ TreeAt w rest t T ∧ (∃ nvs k, (nl, listOf nvs.toArray k) ∈ rest ∧ IntsAre nvs (upto n)) ∧ (D, tupOf xs kD) ∈ rest := by
  have hf := fun1_of N
  obtain ⟨tr, ⟨x, y, tx, ty, k9, hsl, hb⟩, ⟨pvs, k, a, b⟩, ⟨nvs, j, c, e⟩, s1, p1, n1, ps, ns, pn, o, oF⟩ := d
  have hk : ∀ p ∈ nn, p.1 ∉ sl :: cs → p ∈ nn.filter fun p => decide (p.1 ∉ sl :: cs) := fun p hp hn => List.mem_filter.mpr ⟨hp, by simpa using hn⟩
  have hcn : ∀ c ∈ cs, ∃ o v, (c, o) ∈ nn ∧ o.data = .cell v := fun c hcc => by
    obtain ⟨h1, o', v, h2, h3⟩ := hc c hcc
    exact ⟨o', v, o _ h2 h1, h3⟩
  have notl : ∀ {x : Addr} {b : Array Value} {k : Nat}, (x, listOf b k) ∈ nn → @Ne Nat x sl → x ∉ sl :: cs := fun {x b k} hx hn q => by
    rcases List.mem_cons.mp q with q | q
    · exact hn q
    · obtain ⟨o', v, h2, h3⟩ := hcn _ q
      exact (cell_inst h3).2.2.1 _ _ (hf _ _ _ h2 hx)
  refine ⟨nn.filter fun p => decide (p.1 ∉ sl :: cs), fun p hp => N p (List.mem_filter.mp hp).1, fun p hp => (List.mem_filter.mp hp).1, fun p hp => by simpa using (List.mem_filter.mp hp).2, ?_, ⟨nvs, j, hk _ c (notl c ns), e⟩, hk _ hD fun q => ?_⟩
  · obtain ⟨rl, cas, aas, vs, rfl, tr⟩ := tr
    refine TreeF.at (tr.keepS (S := sl :: cs) hf (fun s hs => ?_) hk) hS hl
    rcases List.mem_cons.mp hs with rfl | hs
    · exact ⟨s1, _, hsl, fun c d q => inst_list q.symm, fun es k q => dict_list q.symm⟩
    · obtain ⟨o', v, h2, h3⟩ := hcn s hs
      obtain ⟨_, o2, v2, h4, _⟩ := hc s hs
      exact ⟨(oF _ h4).1, o', h2, (cell_inst h3).1, (cell_inst h3).2.1⟩
  · rcases List.mem_cons.mp q with q | q
    · have q' : D = sl := q
      exact tup_list (hf _ _ _ (q' ▸ hD) hsl)
    · obtain ⟨o', v, h2, h3⟩ := hcn _ q
      exact (cell_inst h3).2.2.2 _ _ (hf _ _ _ h2 hD)
theorem norm_mid {pre post nn : Led} {sl : Addr} {o o' : Obj} (hk : KeptB sl (pre ++ (sl, o) :: post) nn) (h' : (sl, o') ∈ nn) (h1 : ∀ q ∈ pre, @Ne Nat q.1 sl) (h2 : ∀ q ∈ post, @Ne Nat q.1 sl) : ∀ q ∈ pre ++ (sl, o') :: post, q ∈ nn := fun q hq => by
  rcases List.mem_append.mp hq with hq | hq
  · exact hk q (List.mem_append_left _ hq) (h1 q hq)
  · rcases List.mem_cons.mp hq with rfl | hq
    · exact h'
    · exact hk q (List.mem_append_right _ (.tail _ hq)) (h2 q hq)
theorem RowTup.sep {nn : Led} {ra : Addr} {p : PSp} (h : RowTup nn ra p) : ∃ fr : Led, (∀ q ∈ fr, q ∈ nn ∧ ∃ xs k, q.2 = tupOf xs k) ∧ RowTup fr ra p := by
  obtain ⟨ta, tp, k, h1, h2⟩ := h
  obtain ⟨pa, pt, pp, pd⟩ := p
  cases pt
  · obtain ⟨t0, t1, t2, n, h2⟩ := h2
    exact ⟨[_, _], (fun q hq => by
      rcases List.mem_cons.mp hq with rfl | hq
      · exact ⟨h1, _, _, rfl⟩
      rcases List.mem_cons.mp hq with rfl | hq
      · exact ⟨h2, _, _, rfl⟩
      · cases hq), ta, tp, k, .head _, t0, t1, t2, n, .tail _ (.head _)⟩
  all_goals
    obtain ⟨t0, n, h2⟩ := h2
    exact ⟨[_, _], (fun q hq => by
      rcases List.mem_cons.mp hq with rfl | hq
      · exact ⟨h1, _, _, rfl⟩
      rcases List.mem_cons.mp hq with rfl | hq
      · exact ⟨h2, _, _, rfl⟩
      · cases hq), ta, tp, k, .head _, t0, n, .tail _ (.head _)⟩
theorem tup_apart {nn fr : Led} {a : Addr} {o : Obj} (hf : Fun1 nn) (hfr : ∀ q ∈ fr, q ∈ nn ∧ ∃ xs k, q.2 = tupOf xs k) (ha : (a, o) ∈ nn) (ho : ∀ xs k, o ≠ tupOf xs k) : ∀ q ∈ fr, @Ne Nat q.1 a := fun q hq e => by
  obtain ⟨h1, xs, k, h2⟩ := hfr q hq
  have e' : q.1 = a := e
  exact ho xs k ((hf a _ _ ha (e' ▸ h1)).trans h2)
theorem list_ntup {a : Array Value} {k : Nat} : ∀ xs j, listOf a k ≠ tupOf xs j := fun _ _ q => tup_list q.symm
theorem it_ntup {o : Obj} (h : o.cls = .type "range_iterator") : ∀ xs j, o ≠ tupOf xs j := fun xs j q => by
  subst q
  have h' : (Value.type "tuple" : Value) = .type "range_iterator" := h
  injection h' with h'
  exact absurd h' (by decide)
theorem ns_ntup {o : Obj} {m : Str → Option Value} (h : LCg.NsObj o m) : ∀ xs j, o ≠ tupOf xs j := fun xs j q => by
  subst q
  obtain ⟨es, ep, h, _⟩ := h
  cases h
/-- what has been drawn: pairs of a bool and a list of rows -/
noncomputable def DrawnAt (rest : Led) (dvs : List Value) (ways : List (Bool × List PSp)) : Prop := dvs.length = ways.length ∧ ∀ (j : Nat) (q : Bool × List PSp), ways[j]? = some q → ∃ tl rl kt, dvs[j]? = some (.ref tl) ∧ (tl, tupOf #[.bool q.1, .ref rl] kt) ∈ rest ∧ RowsL rest rl q.2 ∧ q.2 ≠ [] ∧ RowsOK q.2
theorem DrawnAt.mono {a b : Led} {dvs : List Value} {ways : List (Bool × List PSp)} (h : DrawnAt a dvs ways) (hs : ∀ p ∈ a, p ∈ b) : DrawnAt b dvs ways :=
  ⟨h.1, fun j q hj => let ⟨tl, rl, kt, h1, h2, h3, h4⟩ := h.2 j q hj; ⟨tl, rl, kt, h1, hs _ h2, h3.mono hs, h4⟩⟩
theorem getElem?_snoc {α : Type} {l : List α} {x y : α} {j : Nat} (h : (l ++ [x])[j]? = some y) : l[j]? = some y ∨ (j = l.length ∧ y = x) := by
  rcases Nat.lt_or_ge j l.length with hj | hj
  · rw [List.getElem?_append_left hj] at h; exact .inl h
  · rw [List.getElem?_append_right hj] at h
    rcases Nat.lt_or_ge (j - l.length) 1 with h2 | h2
    · have e : j - l.length = 0 := by omega
      rw [e] at h
      exact .inr ⟨by omega, (Option.some.inj h).symm⟩
    · rw [List.getElem?_eq_none (by simpa using h2)] at h; cases h
theorem DrawnAt.snoc {a : Led} {dvs : List Value} {ways : List (Bool × List PSp)} {tl rl : Addr} {kt : Nat} {b : Bool} {rows : List PSp} (h : DrawnAt a dvs ways) (h1 : (tl, tupOf #[.bool b, .ref rl] kt) ∈ a) (h2 : RowsL a rl rows) (h3 : rows ≠ []) (h4 : RowsOK rows) : DrawnAt a (dvs ++ [.ref tl]) (ways ++ [(b, rows)]) := by
  refine ⟨by simp [h.1], fun j q hj => ?_⟩
  rcases getElem?_snoc hj with hj | ⟨rfl, rfl⟩
  · obtain ⟨tl', rl', kt', e1, e⟩ := h.2 j q hj
    exact ⟨tl', rl', kt', push_at e1, e⟩
  · exact ⟨tl, rl, kt, by rw [← h.1]; simp, h1, h2, h3, h4⟩
section
theorem bl_lay : ∀ bs : List Bool, PyData.canLayAll0 (bs.map PyData.bool) = true
  | [] => rfl
  | _ :: r => by simp [PyData.canLayAll0, PyData.canLay0, bl_lay r]
theorem bl_depth : ∀ bs : List Bool, PyData.depthAll (bs.map PyData.bool) = 0
  | [] => rfl
  | _ :: r => by simp [PyData.depthAll, PyData.depth, bl_depth r]
theorem bl_shaped (bs : List Bool) : SeqAt.shaped (.list (bs.map PyData.bool)) = true := by
  simp [SeqAt.shaped, PyData.canLay0, PyData.depth, bl_lay, bl_depth]
theorem bl_same : ∀ as bs : List Bool, PySem.Spec.sameAll (as.map PyData.bool) (bs.map PyData.bool) = decide (as = bs)
  | [], [] => by simp [PySem.Spec.sameAll]
  | [], _ :: _ => by simp [PySem.Spec.sameAll]
  | _ :: _, [] => by simp [PySem.Spec.sameAll]
  | a :: r, b :: t => by
    simp only [List.map_cons, PySem.Spec.sameAll, PySem.Spec.same, bl_same r t]
    by_cases h : a = b <;> by_cases h' : r = t <;> simp [h, h']
theorem bl_carried : ∀ bs : List Bool, CarriedAll (bs.map Value.bool) (bs.map PyData.bool)
  | [] => .nil
  | b :: r => .cons (.bool b) (bl_carried r)
variable {prog : Program} {w : World} {A : Around} {E : Value → Shared → Prop} {s : Shared} {a b : Addr} {xs ys : List Bool} {Q : Value → Shared → Prop}
theorem ne_bools (ha : s.heap.IsList a (xs.map Value.bool).toArray) (hb : s.heap.IsList b (ys.map Value.bool).toArray) (hu : A.units + 64 < cLine) (h : Q (.bool (!decide (xs = ys))) s) :
    wpAny (model prog w) A (compareOp .NotEq (.ref a) (.ref b)) Q E s :=
  ne_dataH_same (reads_newData ha (bl_carried xs)) (reads_newData hb (bl_carried ys)) (bl_shaped _) (bl_shaped _) hu (SeqAt.noMix_of_shape (.list .bool) rfl _ _ (list_map_has fun _ => rfl) (list_map_has fun _ => rfl)) (by rw [show PySem.Spec.same (.list (xs.map PyData.bool)) (.list (ys.map PyData.bool)) = decide (xs = ys) from by simp only [PySem.Spec.same]; exact bl_same xs ys]; exact h)
theorem in_bools (ha : s.heap.IsList a (xs.map Value.bool).toArray) (h : Q (.bool (xs.any id)) s) :
    wpAny (model prog w) A (compareOp .In (.bool true) (.ref a)) Q E s := by
  refine SeqAt.in_listAt (fun v => match v with | .bool b => b | _ => false) ha (fun y hy => ?_) ?_
  · have hy' : y ∈ xs.map Value.bool := by simpa using hy
    obtain ⟨b, _, rfl⟩ := List.mem_map.mp hy'
    have := SeqAt.EqAt.bool_bool (A := A.in1) (s := s) b true
    cases b <;> exact this
  · have e : (xs.map Value.bool).toArray.any (fun v => match v with | .bool b => b | _ => false) = xs.any id := by
      simp [List.any_map]
      rfl
    rw [e]; exact h
theorem in_ints {vs : List Value} {ns : List Int} {z : Int} {u : Tok} (ha : s.heap.IsList a vs.toArray) (hi : IntsAre vs ns) (h : Q (.bool (decide (z ∈ ns))) s) :
    wpAny (model prog w) A (compareOp .In (.int z u) (.ref a)) Q E s := by
  refine SeqAt.in_listAt (fun v => match v with | .int i _ => i == z | _ => false) ha (fun y hy => ?_) ?_
  · have hy' : y ∈ vs := by simpa using hy
    obtain ⟨j, hj, rfl⟩ := List.mem_iff_getElem.mp hy'
    obtain ⟨i, t, e, _⟩ := hi.at j _ (List.getElem?_eq_getElem hj)
    rw [e]
    exact SeqAt.EqAt.int_int i t z u
  · have e : vs.toArray.any (fun v => match v with | .int i _ => i == z | _ => false) = decide (z ∈ ns) := by
      rw [List.any_toArray]
      clear ha h
      induction hi with
      | nil => simp
      | cons n t hr ih =>
        rw [List.any_cons, ih]
        by_cases h1 : n = z
        · subst h1; simp
        · have h2 : ¬ z = n := fun q => h1 q.symm
          simp [h1, h2]
    rw [e]; exact h
theorem in_intsN {h₀ : Heap} {L : Addr} {news : Led} {vs : List Value} {ns : List Int} {z : Int} {u : Tok} {k : Nat} (N : News h₀ L s.heap news) (hm : (a, listOf vs.toArray k) ∈ news) (hi : IntsAre vs ns) (h : Q (.bool (decide (z ∈ ns))) s) :
    wpAny (model prog w) A (compareOp .In (.int z u) (.ref a)) Q E s := in_ints (N.isList hm) hi h
theorem in_boolsN {h₀ : Heap} {L : Addr} {news : Led} {k : Nat} (N : News h₀ L s.heap news) (hm : (a, listOf (xs.map Value.bool).toArray k) ∈ news) (h : Q (.bool (xs.any id)) s) :
    wpAny (model prog w) A (compareOp .In (.bool true) (.ref a)) Q E s := in_bools (N.isList hm) h
theorem ne_boolsN {h₀ : Heap} {L : Addr} {news : Led} {k j : Nat} (N : News h₀ L s.heap news) (hm : (a, listOf (xs.map Value.bool).toArray k) ∈ news) (hn : (b, listOf (ys.map Value.bool).toArray j) ∈ news) (hu : A.units + 64 < cLine) (h : Q (.bool (!decide (xs = ys))) s) :
    wpAny (model prog w) A (compareOp .NotEq (.ref a) (.ref b)) Q E s := ne_bools (N.isList hm) (N.isList hn) hu h
end
end
local macro_rules | `(tactic| walk_at $s:str) => `(tactic| k_extra $s)
local macro_rules | `(tactic| k_mem) => `(tactic| first | k_extra "memF" | k_extra "memS")
local macro_rules | `(tactic| k_handed) => `(tactic| first | exact handed_parV _ _ | exact handed_posV _ _ | with_reducible assumption)
local macro_rules | `(tactic| k_all) => `(tactic| assumption)
local macro_rules | `(tactic| k_ne) => `(tactic| (refine neN ?_; k_extra "ne9"))
theorem word1 : True := by
  k_with_none
  (k_with "gq" => (((with_reducible first | refine' genq (D := DoneF _ _ _ _) ?_ | refine' genq (D := TurnEnd _ _ _ _ _ _) ?_ | refine' genq (D := TurnEnd2 _ _ _ _ _ _ _) ?_ | refine' genq (D := WEnd _ _ _ _ _) ?_ | refine' genq (D := Mid _ _ _ _) ?_ | refine' genq (D := CEnd _ _ _ _ _ _ _ _ _ _ _) ?_ | refine' genq (D := CEnd2 _ _ _ _ _ _ _ _ _ _ _) ?_); intro _ _)))
  (k_with "uq" => (first | (refine' unq ?u9 ?_; (case u9 => with_reducible assumption)) | (refine' unqv ?u9 ?_; (case u9 => with_reducible assumption))))
  (k_with "lts" => (first | exact Nat.le.refl | (refine Nat.le.step ?_; k_extra "lts")))
  (k_with "cj" => (first | assumption | (refine' And.left ?a9; (case a9 => assumption)) | (refine' And.left (And.right ?a9); (case a9 => assumption)) | (refine' And.left (And.right (And.right ?a9)); (case a9 => assumption)) | (refine' And.left (And.right (And.right (And.right ?a9))); (case a9 => assumption)) | (refine' And.left (And.right (And.right (And.right (And.right ?a9)))); (case a9 => assumption)) | (refine' And.left (And.right (And.right (And.right (And.right (And.right ?a9))))); (case a9 => assumption)) | (refine' And.left (And.right (And.right (And.right (And.right (And.right (And.right ?a9)))))); (case a9 => assumption)) | (refine' And.left (And.right (And.right (And.right (And.right (And.right (And.right (And.right ?a9))))))); (case a9 => assumption)) | (refine' And.left (And.right (And.right (And.right (And.right (And.right (And.right (And.right (And.right ?a9)))))))); (case a9 => assumption)) | (refine' And.left (And.right (And.right (And.right (And.right (And.right (And.right (And.right (And.right (And.right ?a9))))))))); (case a9 => assumption)) | (refine' And.left (And.right (And.right (And.right (And.right (And.right (And.right (And.right (And.right (And.right (And.right ?a9)))))))))); (case a9 => assumption)) | (refine' And.left (And.right (And.right (And.right (And.right (And.right (And.right (And.right (And.right (And.right (And.right (And.right ?a9))))))))))); (case a9 => assumption))))
  (k_with "ne9" => (first | assumption | exact Ne.symm (by assumption) | (refine' Nat.ne_of_lt ?a8; (case a8 => first | assumption | k_extra "lts" | k_extra "cj" | (refine' Nat.lt_of_le_of_lt ?b9 ?c9; (case c9 => assumption); (case b9 => k_extra "lts")))) | (refine' Nat.ne_of_gt ?a8; (case a8 => first | assumption | k_extra "lts" | k_extra "cj" | (refine' Nat.lt_of_le_of_lt ?b9 ?c9; (case c9 => assumption); (case b9 => k_extra "lts")))) | ((try dsimp only); (repeat (rename @Ne Nat _ _ => q9; clear q9)); omega) | ((try dsimp only); omega)))
  (k_with "om" => (first | with_reducible assumption | (refine neN ?_; k_extra "ne9") | (refine' Nat.le_trans ?a9 ?b9; (case a9 => assumption); (case b9 => exact Nat.le_of_ble_eq_true rfl)) | (refine' le_eq_le ?a9 ?b9 ?c9; (case a9 => assumption); (case b9 => assumption); (case c9 => exact Nat.le_of_ble_eq_true rfl)) | (refine ltN ?_; k_extra "cj") | ((repeat (rename @Ne Nat _ _ => q9; clear q9)); omega) | omega))
  (k_with "room" => (first | (refine' room_of ?a9 ?b9; (case a9 => assumption); (case b9 => exact Nat.le_of_ble_eq_true rfl)) | omega))
  (k_with "call builtin:list.append" => ((k_here; (with_reducible show wpAny _ _ (call (Value.builtin "list.append") [Value.ref _, _]) _ _ _); k_dflt (refine' my_append ?k1 ?k2 ?k3 ?k4 ?_; (case k1 => k_asm); (case k2 => k_asm); (case k3 => k_upd); (case k4 => k_extra "om"); k_whole); intro _ _ _; (try k_sweep))))
  (k_with "memF" => (first | exact mem_head | with_reducible assumption | (refine' mem_tail ?_; k_extra "memF")))
  (k_with "memS" => (first | exact mem_head | assumption | (refine' mem_tail ?_; k_extra "memS")))
  (k_with "call type:list" => ((k_here; (with_reducible show wpAny _ _ (call (Value.type "list") [Value.ref _]) _ _ _); k_dflt (refine' my_listcopy ?k0 ?k1 ?k2 ?k3 ?_; (case k0 => k_asm); (case k1 => k_asm); (case k2 => k_mem); (case k3 => k_extra "om"); k_whole); intro _ _ _ _ _ _)))
  (k_with "call builtin:len" => ((k_here; (with_reducible show wpAny _ _ (call (Value.builtin "len") [Value.ref _]) _ _ _); k_dflt (refine' my_len ?k1 ?k2 ?k3 ?_; (case k1 => k_asm); (case k2 => k_mem); (case k3 => k_extra "om"); k_whole))))
  (k_with "subscriptTail" => ((k_here; (with_reducible show wpAny _ _ (subscriptTail _ _ (Value.ref _) (Value.int _ _)) _ _ _); k_dflt (refine' my_item ?k1 ?k2 ?k3 ?k4 ?k5 ?_; (case k1 => k_asm); (case k2 => k_mem); (case k3 => k_extra "om"); (case k4 => k_extra "om"); (case k5 => first | with_reducible assumption | rfl); k_whole))))
  (k_with "sub" => (first | with_reducible exact fun _ h => h | (refine' sub_cons ?m ?_; (case m => k_mem); k_extra "sub") | (refine sub_tail ?_; k_extra "sub")))
  (k_with "fin" => (((try k_extra "uq"); (try dsimp only [WEnd, TurnEnd, TurnEnd2]); (try k_extra "uq"); refine' fin_same ?F ?N ?S (And.intro rfl ?_); (case F => k_asm); (case N => k_asm); (case S => k_extra "sub"))))
  (k_with "bools" => (simp only [fitSr, axS_attr, *, Bool.or_true, Bool.true_or, Bool.not_true, Bool.false_and, Bool.and_false, Bool.not_false, Bool.true_and, Bool.and_true, Bool.or_self, Bool.or_false, Bool.false_or, Bool.and_self, Option.isNone_none, Option.isNone_some, beq_self_eq_true]))
  (k_with "finL" => (((try k_extra "uq"); refine' fin_new ?F ?N ?M ?S ⟨_, _, _, rfl, rfl, ?_, ?_⟩; (case F => k_asm); (case N => k_asm); (case M => k_mem); (case S => k_extra "sub"))))
  (k_with "tree" => (first | with_reducible assumption | (refine' TreeAt.mono ?h ?s; (case h => assumption); (case s => k_extra "sub"))))
  trivial
noncomputable abbrev row_P (w : World) (t : Addr) (T : MTree) (z : Int) (n : Tok) (r : MRow) (news news' : Led) (v : Value) : Prop := news' = news ∧ ∃ x, v = .ref x ∧ RowAt w news x r
theorem row_ok {w : World} {mean : ExcName → Option Value} {mg mb : Str → Option Value} {t : Addr} {T : MTree} {z : Int} {n : Tok} {r : MRow} :
    Says w mean mg mb (4 + 1) (40 + 3) (.ref 335) [.ref t, .int z n] (fun news => TreeAt w news t T ∧ rowOf T z = some r) (row_P w t T z n r) := by
  k_dflt (refine' says_def [(Str.ofString "self", .ref t), (Str.ofString "node", .int z n)] ?k6 ?k7 ?k9 ?kB ?c2 ?c3 ?c4 ?c5 ?_; (case k6 => k_is); (case k7 => k_is); (case k9 => rfl); (case c5 => decide); (case kB => exact locs rfl); (case c2 => exact rfl); (case c3 => exact rfl); (case c4 => exact rfl); k_whole)
  intro dp un gd outer A₁ base g L news s B F X N TT hR hdp hu
  obtain ⟨⟨dt, rl, tk, k, vs, h1, h2, h3, hrows, hlen⟩, hz⟩ := hR
  obtain ⟨hz0, hz1, x, hx, hrow⟩ := TreeAt.row hrows hz
  have hl := hrows.1
  ((try k_extra "gq"); k_steps; (all_goals try k_extra "uq"))
  k_extra "fin"
  exact ⟨_, rfl, hrow⟩
theorem row_use {w : World} {mean : ExcName → Option Value} {mg mb : Str → Option Value} {t : Addr} {T : MTree} {z : Int} {n : Tok} {r : MRow} : UseOf w mean mg mb 5 43 (.ref 335) [.ref t, .int z n] (fun news => TreeAt w news t T ∧ rowOf T z = some r) (fun news C => ∀ (x d ca aa na : Addr) (v : Str) (t0 t1 t2 t3 t4 t5 t6 t7 t8 v0 v1 v2 v3 v4 v5 : Tok) (cvs avs : List Value) (k1 k2 : Nat), C (news) (fun G => (x, instObj 303 d) ∈ news → (d, dictOf (rowDict w r v ca aa na t0 t1 t2 t3 t4 t5 t6 t7 t8 v0 v1 v2 v3 v4 v5) 9) ∈ news → (ca, listOf cvs.toArray k1) ∈ news → (aa, listOf avs.toArray k2) ∈ news → IntsAre cvs r.ch → IntsAre avs r.ats → r.ch.length ≤ 1000 → r.ats.length ≤ 1000 → cvs.length = r.ch.length → avs.length = r.ats.length → G) (.ref x)) :=
  useOf row_ok fun news news' r C hp ret => by
    obtain ⟨rfl, x, rfl, d, ca, aa, na, v, t0, t1, t2, t3, t4, t5, t6, t7, t8, v0, v1, v2, v3, v4, v5, cvs, avs, k1, k2, hf0, hf1, hf2, hf3, hf4, hf5, hf6, hf7⟩ := hp
    exact ⟨_, ret x d ca aa na v t0 t1 t2 t3 t4 t5 t6 t7 t8 v0 v1 v2 v3 v4 v5 cvs avs k1 k2, fun G h => h hf0 hf1 hf2 hf3 hf4 hf5 hf6 hf7 hf4.length hf5.length⟩
theorem word2 : True := by
  (k_with "call ref" => ((k_here; (with_reducible show wpAny _ _ (call (Value.ref 335) _) _ _ _); k_dflt (refine' row_use ?kB ?kF ?kX ?kN ?kT ?kk ?pre ?k1 ?k2 ?_; (case kB => k_asm); (case kF => k_asm); (case kX => k_asm); (case kN => k_asm); (case kT => k_asm); (case kk => exact rfl); (case pre => exact ⟨by k_extra "tree", by assumption⟩); (case k1 => k_extra "room"); (case k2 => k_extra "room"); k_whole); intro _ _ _ _ _ _ _ _ _ _ _ _ _ _ _ _ _ _ _ _ _ _ _ _ _ _ _ _ _ _ _ _ _ _ _ _ _ _ _; (try dsimp only); (try k_fold))))
  trivial
noncomputable abbrev parent_P (w : World) (t : Addr) (T : MTree) (z : Int) (n : Tok) (r : MRow) (news news' : Led) (v : Value) : Prop := news' = news ∧ ∃ tk, v = parV r.par tk
theorem parent_ok {w : World} {mean : ExcName → Option Value} {mg mb : Str → Option Value} {t : Addr} {T : MTree} {z : Int} {n : Tok} {r : MRow} :
    Says w mean mg mb (6 + 1) (60 + 3) (.ref 447) [.ref t, .int z n] (fun news => TreeAt w news t T ∧ rowOf T z = some r) (parent_P w t T z n r) := by
  k_dflt (refine' says_def [(Str.ofString "self", .ref t), (Str.ofString "node", .int z n)] ?k6 ?k7 ?k9 ?kB ?c2 ?c3 ?c4 ?c5 ?_; (case k6 => k_is); (case k7 => k_is); (case k9 => rfl); (case c5 => decide); (case kB => exact locs rfl); (case c2 => exact rfl); (case c3 => exact rfl); (case c4 => exact rfl); k_whole)
  intro dp un gd outer A₁ base g L news s B F X N TT hR hdp hu
  obtain ⟨hT, hz⟩ := hR
  have hT' := hT
  obtain ⟨dt, rl, tk, k, vs, h1, h2, h3, hrows, hlen⟩ := hT'
  ((try k_extra "gq"); k_steps; (all_goals try k_extra "uq"))
  k_extra "fin"
  exact ⟨_, rfl⟩
theorem parent_use {w : World} {mean : ExcName → Option Value} {mg mb : Str → Option Value} {t : Addr} {T : MTree} {z : Int} {n : Tok} {r : MRow} : UseOf w mean mg mb 7 63 (.ref 447) [.ref t, .int z n] (fun news => TreeAt w news t T ∧ rowOf T z = some r) (fun news C => ∀ (tk : Tok), C (news) (fun G => G) (parV r.par tk)) :=
  useOf parent_ok fun news news' r C hp ret => by
    obtain ⟨rfl, tk, rfl⟩ := hp
    exact ⟨_, ret tk, fun G h => h ⟩
theorem word3 : True := by
  (k_with "call ref" => ((k_here; (with_reducible show wpAny _ _ (call (Value.ref 447) _) _ _ _); k_dflt (refine' parent_use ?kB ?kF ?kX ?kN ?kT ?kk ?pre ?k1 ?k2 ?_; (case kB => k_asm); (case kF => k_asm); (case kX => k_asm); (case kN => k_asm); (case kT => k_asm); (case kk => exact rfl); (case pre => exact ⟨by k_extra "tree", by assumption⟩); (case k1 => k_extra "room"); (case k2 => k_extra "room"); k_whole); intro _ _ _ _ _; (try dsimp only); (try k_fold))))
  trivial
noncomputable abbrev kind_P (w : World) (t : Addr) (T : MTree) (z : Int) (n : Tok) (r : MRow) (news news' : Led) (v : Value) : Prop := news' = news ∧ ∃ tk, v = .str r.kd.s tk
theorem kind_ok {w : World} {mean : ExcName → Option Value} {mg mb : Str → Option Value} {t : Addr} {T : MTree} {z : Int} {n : Tok} {r : MRow} :
    Says w mean mg mb (6 + 1) (60 + 3) (.ref 412) [.ref t, .int z n] (fun news => TreeAt w news t T ∧ rowOf T z = some r) (kind_P w t T z n r) := by
  k_dflt (refine' says_def [(Str.ofString "self", .ref t), (Str.ofString "node", .int z n)] ?k6 ?k7 ?k9 ?kB ?c2 ?c3 ?c4 ?c5 ?_; (case k6 => k_is); (case k7 => k_is); (case k9 => rfl); (case c5 => decide); (case kB => exact locs rfl); (case c2 => exact rfl); (case c3 => exact rfl); (case c4 => exact rfl); k_whole)
  intro dp un gd outer A₁ base g L news s B F X N TT hR hdp hu
  obtain ⟨hT, hz⟩ := hR
  have hT' := hT
  obtain ⟨dt, rl, tk, k, vs, h1, h2, h3, hrows, hlen⟩ := hT'
  ((try k_extra "gq"); k_steps; (all_goals try k_extra "uq"))
  k_extra "fin"
  exact ⟨_, rfl⟩
theorem kind_use {w : World} {mean : ExcName → Option Value} {mg mb : Str → Option Value} {t : Addr} {T : MTree} {z : Int} {n : Tok} {r : MRow} : UseOf w mean mg mb 7 63 (.ref 412) [.ref t, .int z n] (fun news => TreeAt w news t T ∧ rowOf T z = some r) (fun news C => ∀ (tk : Tok), C (news) (fun G => G) (.str r.kd.s tk)) :=
  useOf kind_ok fun news news' r C hp ret => by
    obtain ⟨rfl, tk, rfl⟩ := hp
    exact ⟨_, ret tk, fun G h => h ⟩
theorem word4 : True := by
  (k_with "call ref" => ((k_here; (with_reducible show wpAny _ _ (call (Value.ref 412) _) _ _ _); k_dflt (refine' kind_use ?kB ?kF ?kX ?kN ?kT ?kk ?pre ?k1 ?k2 ?_; (case kB => k_asm); (case kF => k_asm); (case kX => k_asm); (case kN => k_asm); (case kT => k_asm); (case kk => exact rfl); (case pre => exact ⟨by k_extra "tree", by assumption⟩); (case k1 => k_extra "room"); (case k2 => k_extra "room"); k_whole); intro _ _ _ _ _; (try dsimp only); (try k_fold))))
  trivial
noncomputable abbrev name_P (w : World) (t : Addr) (T : MTree) (z : Int) (n : Tok) (r : MRow) (news news' : Led) (v : Value) : Prop := news' = news ∧ ∃ tk, v = .str r.nm tk
theorem name_ok {w : World} {mean : ExcName → Option Value} {mg mb : Str → Option Value} {t : Addr} {T : MTree} {z : Int} {n : Tok} {r : MRow} :
    Says w mean mg mb (6 + 1) (60 + 3) (.ref 419) [.ref t, .int z n] (fun news => TreeAt w news t T ∧ rowOf T z = some r) (name_P w t T z n r) := by
  k_dflt (refine' says_def [(Str.ofString "self", .ref t), (Str.ofString "node", .int z n)] ?k6 ?k7 ?k9 ?kB ?c2 ?c3 ?c4 ?c5 ?_; (case k6 => k_is); (case k7 => k_is); (case k9 => rfl); (case c5 => decide); (case kB => exact locs rfl); (case c2 => exact rfl); (case c3 => exact rfl); (case c4 => exact rfl); k_whole)
  intro dp un gd outer A₁ base g L news s B F X N TT hR hdp hu
  obtain ⟨hT, hz⟩ := hR
  have hT' := hT
  obtain ⟨dt, rl, tk, k, vs, h1, h2, h3, hrows, hlen⟩ := hT'
  ((try k_extra "gq"); k_steps; (all_goals try k_extra "uq"))
  k_extra "fin"
  exact ⟨_, rfl⟩
theorem name_use {w : World} {mean : ExcName → Option Value} {mg mb : Str → Option Value} {t : Addr} {T : MTree} {z : Int} {n : Tok} {r : MRow} : UseOf w mean mg mb 7 63 (.ref 419) [.ref t, .int z n] (fun news => TreeAt w news t T ∧ rowOf T z = some r) (fun news C => ∀ (tk : Tok), C (news) (fun G => G) (.str r.nm tk)) :=
  useOf name_ok fun news news' r C hp ret => by
    obtain ⟨rfl, tk, rfl⟩ := hp
    exact ⟨_, ret tk, fun G h => h ⟩
theorem word5 : True := by
  (k_with "call ref" => ((k_here; (with_reducible show wpAny _ _ (call (Value.ref 419) _) _ _ _); k_dflt (refine' name_use ?kB ?kF ?kX ?kN ?kT ?kk ?pre ?k1 ?k2 ?_; (case kB => k_asm); (case kF => k_asm); (case kX => k_asm); (case kN => k_asm); (case kT => k_asm); (case kk => exact rfl); (case pre => exact ⟨by k_extra "tree", by assumption⟩); (case k1 => k_extra "room"); (case k2 => k_extra "room"); k_whole); intro _ _ _ _ _; (try dsimp only); (try k_fold))))
  trivial
noncomputable abbrev local_P (w : World) (t : Addr) (T : MTree) (z : Int) (n : Tok) (r : MRow) (news news' : Led) (v : Value) : Prop := news' = news ∧ ∃ tk, v = .str r.nm tk
theorem local_ok {w : World} {mean : ExcName → Option Value} {mg mb : Str → Option Value} {t : Addr} {T : MTree} {z : Int} {n : Tok} {r : MRow} :
    Says w mean mg mb (6 + 1) (60 + 3) (.ref 433) [.ref t, .int z n] (fun news => TreeAt w news t T ∧ rowOf T z = some r) (local_P w t T z n r) := by
  k_dflt (refine' says_def [(Str.ofString "self", .ref t), (Str.ofString "node", .int z n)] ?k6 ?k7 ?k9 ?kB ?c2 ?c3 ?c4 ?c5 ?_; (case k6 => k_is); (case k7 => k_is); (case k9 => rfl); (case c5 => decide); (case kB => exact locs rfl); (case c2 => exact rfl); (case c3 => exact rfl); (case c4 => exact rfl); k_whole)
  intro dp un gd outer A₁ base g L news s B F X N TT hR hdp hu
  obtain ⟨hT, hz⟩ := hR
  have hT' := hT
  obtain ⟨dt, rl, tk, k, vs, h1, h2, h3, hrows, hlen⟩ := hT'
  ((try k_extra "gq"); k_steps; (all_goals try k_extra "uq"))
  k_extra "fin"
  exact ⟨_, rfl⟩
theorem local_use {w : World} {mean : ExcName → Option Value} {mg mb : Str → Option Value} {t : Addr} {T : MTree} {z : Int} {n : Tok} {r : MRow} : UseOf w mean mg mb 7 63 (.ref 433) [.ref t, .int z n] (fun news => TreeAt w news t T ∧ rowOf T z = some r) (fun news C => ∀ (tk : Tok), C (news) (fun G => G) (.str r.nm tk)) :=
  useOf local_ok fun news news' r C hp ret => by
    obtain ⟨rfl, tk, rfl⟩ := hp
    exact ⟨_, ret tk, fun G h => h ⟩
theorem word6 : True := by
  (k_with "call ref" => ((k_here; (with_reducible show wpAny _ _ (call (Value.ref 433) _) _ _ _); k_dflt (refine' local_use ?kB ?kF ?kX ?kN ?kT ?kk ?pre ?k1 ?k2 ?_; (case kB => k_asm); (case kF => k_asm); (case kX => k_asm); (case kN => k_asm); (case kT => k_asm); (case kk => exact rfl); (case pre => exact ⟨by k_extra "tree", by assumption⟩); (case k1 => k_extra "room"); (case k2 => k_extra "room"); k_whole); intro _ _ _ _ _; (try dsimp only); (try k_fold))))
  trivial
noncomputable abbrev uri_P (w : World) (t : Addr) (T : MTree) (z : Int) (n : Tok) (r : MRow) (news news' : Led) (v : Value) : Prop := news' = news ∧ ∃ tk, v = .str (Str.ofString "") tk
theorem uri_ok {w : World} {mean : ExcName → Option Value} {mg mb : Str → Option Value} {t : Addr} {T : MTree} {z : Int} {n : Tok} {r : MRow} :
    Says w mean mg mb (6 + 1) (60 + 3) (.ref 426) [.ref t, .int z n] (fun news => TreeAt w news t T ∧ rowOf T z = some r) (uri_P w t T z n r) := by
  k_dflt (refine' says_def [(Str.ofString "self", .ref t), (Str.ofString "node", .int z n)] ?k6 ?k7 ?k9 ?kB ?c2 ?c3 ?c4 ?c5 ?_; (case k6 => k_is); (case k7 => k_is); (case k9 => rfl); (case c5 => decide); (case kB => exact locs rfl); (case c2 => exact rfl); (case c3 => exact rfl); (case c4 => exact rfl); k_whole)
  intro dp un gd outer A₁ base g L news s B F X N TT hR hdp hu
  obtain ⟨hT, hz⟩ := hR
  have hT' := hT
  obtain ⟨dt, rl, tk, k, vs, h1, h2, h3, hrows, hlen⟩ := hT'
  ((try k_extra "gq"); k_steps; (all_goals try k_extra "uq"))
  k_extra "fin"
  exact ⟨_, rfl⟩
theorem uri_use {w : World} {mean : ExcName → Option Value} {mg mb : Str → Option Value} {t : Addr} {T : MTree} {z : Int} {n : Tok} {r : MRow} : UseOf w mean mg mb 7 63 (.ref 426) [.ref t, .int z n] (fun news => TreeAt w news t T ∧ rowOf T z = some r) (fun news C => ∀ (tk : Tok), C (news) (fun G => G) (.str (Str.ofString "") tk)) :=
  useOf uri_ok fun news news' r C hp ret => by
    obtain ⟨rfl, tk, rfl⟩ := hp
    exact ⟨_, ret tk, fun G h => h ⟩
theorem word7 : True := by
  (k_with "call ref" => ((k_here; (with_reducible show wpAny _ _ (call (Value.ref 426) _) _ _ _); k_dflt (refine' uri_use ?kB ?kF ?kX ?kN ?kT ?kk ?pre ?k1 ?k2 ?_; (case kB => k_asm); (case kF => k_asm); (case kX => k_asm); (case kN => k_asm); (case kT => k_asm); (case kk => exact rfl); (case pre => exact ⟨by k_extra "tree", by assumption⟩); (case k1 => k_extra "room"); (case k2 => k_extra "room"); k_whole); intro _ _ _ _ _; (try dsimp only); (try k_fold))))
  trivial
theorem parent_two {w : World} {mean : ExcName → Option Value} {mg mb : Str → Option Value} {t : Addr} {T : MTree} {z : Int} {n : Tok} {r : MRow} {dp un : Nat} {gd : Option (List Code)} {cn : Str} {cs : Scope} {a : Addr} {ccd : Value} {cl : List (Str × Addr)} {outer : List Env} {A₀ : Around} {base h₀ : Heap} {L : Addr} {m : Str → Option Value} {news : Led} {s : Shared} {Q E : Value → Shared → Prop} (B : Below A₀ base outer h₀) (F : Fr h₀ L s.heap m) (X : (K39 w.params).In h₀) (N : News h₀ L s.heap news) (TT : Top V39 (looseW V39 []) mean mg mb h₀) (hk : cs.kind = .function) (pre : TreeAt w news t T ∧ rowOf T z = some r) (hdp : dp + 7 < recursionLimit) (hu : un + 63 < cLine)
    (ret0 : r.par = none → ∀ (h' : Heap) (tk' : Nat), Fr h₀ L h' m → News h₀ L h' news → Q .none { s with heap := h', toks := tk' })
    (ret1 : ∀ (q : Int) (tk : Tok), r.par = some q → ∀ (h' : Heap) (tk' : Nat), Fr h₀ L h' m → News h₀ L h' news → Q (.int q tk) { s with heap := h', toks := tk' }) :
    wpAny (model PySem.Challenge.rw_nu0072_01.prog w) (ktrTop dp un gd cn cs L a ccd cl outer) (call (.ref 447) [.ref t, .int z n]) Q E s :=
  parent_use B F X N TT hk pre hdp hu (fun tk h' tk' F' N' => by
    cases hq : r.par with
    | none => exact ret0 hq h' tk' F' N'
    | some q => exact ret1 q tk hq h' tk' F' N')
theorem word8 : True := by
  (k_with "call ref" => ((k_here; (with_reducible show wpAny _ _ (call (Value.ref 447) _) _ _ _); k_dflt (refine' parent_two ?kB ?kF ?kX ?kN ?kT ?kk ?pre ?k1 ?k2 ?_ ?_; (case kB => k_asm); (case kF => k_asm); (case kX => k_asm); (case kN => k_asm); (case kT => k_asm); (case kk => exact rfl); (case pre => exact ⟨by k_extra "tree", by assumption⟩); (case k1 => k_extra "room"); (case k2 => k_extra "room")); (first | (intro _ _ _ _ _; (try dsimp only); (try k_fold)) | skip); (rotate_left; (intro _ _ _ _ _ _ _; (try dsimp only); (try k_fold)); rotate_left))))
  trivial
inductive children_P (w : World) (t : Addr) (T : MTree) (z : Int) (n : Tok) (r : MRow) (news news' : Led) (v : Value) : Prop
  | mk : ∀ D c vs, (news' = (D, listOf vs.toArray c) :: news) → (v = .ref D) → (IntsAre vs r.ch) → ((∀ p ∈ news, p.1 < D)) → (r.ch.length ≤ 1000) → children_P w t T z n r news news' v
theorem children_ok {w : World} {mean : ExcName → Option Value} {mg mb : Str → Option Value} {t : Addr} {T : MTree} {z : Int} {n : Tok} {r : MRow} :
    Says w mean mg mb (6 + 1) (60 + 3) (.ref 454) [.ref t, .int z n] (fun news => TreeAt w news t T ∧ rowOf T z = some r) (children_P w t T z n r) := by
  k_dflt (refine' says_def [(Str.ofString "self", .ref t), (Str.ofString "node", .int z n)] ?k6 ?k7 ?k9 ?kB ?c2 ?c3 ?c4 ?c5 ?_; (case k6 => k_is); (case k7 => k_is); (case k9 => rfl); (case c5 => decide); (case kB => exact locs rfl); (case c2 => exact rfl); (case c3 => exact rfl); (case c4 => exact rfl); k_whole)
  intro dp un gd outer A₁ base g L news s B F X N TT hR hdp hu
  obtain ⟨hT, hz⟩ := hR
  have hT' := hT
  obtain ⟨dt, rl, tk, k, vs, h1, h2, h3, hrows, hlen⟩ := hT'
  ((try k_extra "gq"); k_steps; (all_goals try k_extra "uq"))
  exact ⟨_, _, _, _, rfl, by k_asm, by k_asm, _, _, _, rfl, rfl, by assumption, by assumption, by assumption⟩
theorem children_use {w : World} {mean : ExcName → Option Value} {mg mb : Str → Option Value} {t : Addr} {T : MTree} {z : Int} {n : Tok} {r : MRow} : UseOf w mean mg mb 7 63 (.ref 454) [.ref t, .int z n] (fun news => TreeAt w news t T ∧ rowOf T z = some r) (fun news C => ∀ (D : Addr) (c : Nat) (vs : List Value), C ((D, listOf vs.toArray c) :: news) (fun G => IntsAre vs r.ch → (∀ p ∈ news, p.1 < D) → r.ch.length ≤ 1000 → vs.length = r.ch.length → G) (.ref D)) :=
  useOf children_ok fun news news' r C hp ret => by
    obtain ⟨D, c, vs, rfl, rfl, hf0, hf1, hf2⟩ := hp
    exact ⟨_, ret D c vs, fun G h => h hf0 hf1 hf2 hf0.length⟩
theorem word9 : True := by
  (k_with "call ref" => ((k_here; (with_reducible show wpAny _ _ (call (Value.ref 454) _) _ _ _); k_dflt (refine' children_use ?kB ?kF ?kX ?kN ?kT ?kk ?pre ?k1 ?k2 ?_; (case kB => k_asm); (case kF => k_asm); (case kX => k_asm); (case kN => k_asm); (case kT => k_asm); (case kk => exact rfl); (case pre => exact ⟨by k_extra "tree", by assumption⟩); (case k1 => k_extra "room"); (case k2 => k_extra "room"); k_whole); intro _ _ _ _ _ _ _ _ _ _ _; (try dsimp only); (try k_fold))))
  trivial
inductive attributes_P (w : World) (t : Addr) (T : MTree) (z : Int) (n : Tok) (r : MRow) (news news' : Led) (v : Value) : Prop
  | mk : ∀ D c vs, (news' = (D, listOf vs.toArray c) :: news) → (v = .ref D) → (IntsAre vs r.ats) → ((∀ p ∈ news, p.1 < D)) → (r.ats.length ≤ 1000) → attributes_P w t T z n r news news' v
theorem attributes_ok {w : World} {mean : ExcName → Option Value} {mg mb : Str → Option Value} {t : Addr} {T : MTree} {z : Int} {n : Tok} {r : MRow} :
    Says w mean mg mb (6 + 1) (60 + 3) (.ref 461) [.ref t, .int z n] (fun news => TreeAt w news t T ∧ rowOf T z = some r) (attributes_P w t T z n r) := by
  k_dflt (refine' says_def [(Str.ofString "self", .ref t), (Str.ofString "node", .int z n)] ?k6 ?k7 ?k9 ?kB ?c2 ?c3 ?c4 ?c5 ?_; (case k6 => k_is); (case k7 => k_is); (case k9 => rfl); (case c5 => decide); (case kB => exact locs rfl); (case c2 => exact rfl); (case c3 => exact rfl); (case c4 => exact rfl); k_whole)
  intro dp un gd outer A₁ base g L news s B F X N TT hR hdp hu
  obtain ⟨hT, hz⟩ := hR
  have hT' := hT
  obtain ⟨dt, rl, tk, k, vs, h1, h2, h3, hrows, hlen⟩ := hT'
  ((try k_extra "gq"); k_steps; (all_goals try k_extra "uq"))
  exact ⟨_, _, _, _, rfl, by k_asm, by k_asm, _, _, _, rfl, rfl, by assumption, by assumption, by assumption⟩
theorem attributes_use {w : World} {mean : ExcName → Option Value} {mg mb : Str → Option Value} {t : Addr} {T : MTree} {z : Int} {n : Tok} {r : MRow} : UseOf w mean mg mb 7 63 (.ref 461) [.ref t, .int z n] (fun news => TreeAt w news t T ∧ rowOf T z = some r) (fun news C => ∀ (D : Addr) (c : Nat) (vs : List Value), C ((D, listOf vs.toArray c) :: news) (fun G => IntsAre vs r.ats → (∀ p ∈ news, p.1 < D) → r.ats.length ≤ 1000 → vs.length = r.ats.length → G) (.ref D)) :=
  useOf attributes_ok fun news news' r C hp ret => by
    obtain ⟨D, c, vs, rfl, rfl, hf0, hf1, hf2⟩ := hp
    exact ⟨_, ret D c vs, fun G h => h hf0 hf1 hf2 hf0.length⟩
theorem word10 : True := by
  (k_with "call ref" => ((k_here; (with_reducible show wpAny _ _ (call (Value.ref 461) _) _ _ _); k_dflt (refine' attributes_use ?kB ?kF ?kX ?kN ?kT ?kk ?pre ?k1 ?k2 ?_; (case kB => k_asm); (case kF => k_asm); (case kX => k_asm); (case kN => k_asm); (case kT => k_asm); (case kk => exact rfl); (case pre => exact ⟨by k_extra "tree", by assumption⟩); (case k1 => k_extra "room"); (case k2 => k_extra "room"); k_whole); intro _ _ _ _ _ _ _ _ _ _ _; (try dsimp only); (try k_fold))))
  trivial
theorem word11 : True := by
  (k_with "setItem ref int" => ((k_here; (with_reducible show wpAny _ _ (PySem.setItem (Value.ref _) (Value.int _ _) _) _ _ _); k_dflt (refine' set_any ?F ?N ?m ?h0 ?hk ?hf ?_; (case F => k_asm); (case N => k_asm); (case m => k_mem); (case h0 => k_extra "om"); (case hk => (simp only [List.length_cons, List.length_nil]; k_extra "om")); (case hf => (simp only [List.length_cons, List.length_nil]; k_extra "om")); k_whole); intro _ _ _ _ _ _ _; (try k_fold))))
  trivial
inductive take_P (w : World) (sl : Addr) (top : Int) (tt : Tok) (news news' : Led) (v : Value) : Prop
  | mk : ∀ r tk, (v = .int r tk) → (0 ≤ r) → (r < top) → (Src news' sl) → (KeptB sl news news') → take_P w sl top tt news news' v
theorem take_ok {w : World} {mean : ExcName → Option Value} {mg mb : Str → Option Value} {sl : Addr} {top : Int} {tt : Tok} :
    Says w mean mg mb (10 + 1) (100 + 3) (.ref 571) [.ref sl, .int top tt] (fun news => T3 (Src news sl) (1 ≤ top) (top ≤ 100)) (take_P w sl top tt) := by
  k_dflt (refine' says_def [(Str.ofString "source", .ref sl), (Str.ofString "top", .int top tt)] ?k6 ?k7 ?k9 ?kB ?c2 ?c3 ?c4 ?c5 ?_; (case k6 => k_is); (case k7 => k_is); (case k9 => rfl); (case c5 => decide); (case kB => exact locs rfl); (case c2 => exact rfl); (case c3 => exact rfl); (case c4 => exact rfl); k_whole)
  intro dp un gd outer A₁ base g L news s B F X N TT hR hdp hu
  obtain ⟨⟨a, b, ta, tb, k, hs, ha, hb, hb2⟩, ht1, ht2⟩ := hR
  have ht : 0 < top := by k_extra "om"
  ((try k_extra "gq"); k_steps; (all_goals try k_extra "uq"))
  · rename_i hm' hs'
    exact ⟨_, _, _, _, rfl, by k_asm, by k_asm, _, _, rfl, (fmod_bd _ ht).1, (fmod_bd _ ht).2, ⟨_, _, _, _, _, hm', fdiv_nn ha ht, hb, hb2⟩, hs'⟩
  · rename_i hm' hs'
    exact ⟨_, _, _, _, rfl, by k_asm, by k_asm, _, _, rfl, (fmod_bd _ ht).1, (fmod_bd _ ht).2, ⟨_, _, _, _, _, hm', ha, (fmod_bd _ (by decide)).1, (fmod_bd _ (by decide)).2⟩, hs'⟩
theorem take_use {w : World} {mean : ExcName → Option Value} {mg mb : Str → Option Value} {sl : Addr} {top : Int} {tt : Tok} : UseOf w mean mg mb 11 103 (.ref 571) [.ref sl, .int top tt] (fun news => T3 (Src news sl) (1 ≤ top) (top ≤ 100)) (fun news C => ∀ (r : Int) (tk : Tok) (news' : Led), C (news') (fun G => 0 ≤ r → r < top → Src news' sl → KeptB sl news news' → G) (.int r tk)) :=
  useOf take_ok fun news news' r C hp ret => by
    obtain ⟨r, tk, rfl, hf0, hf1, hf2, hf3⟩ := hp
    exact ⟨_, ret r tk _, fun G h => h hf0 hf1 hf2 hf3⟩
theorem word12 : True := by
  (k_with "call ref" => ((k_here; (with_reducible show wpAny _ _ (call (Value.ref 571) _) _ _ _); k_dflt (refine' take_use ?kB ?kF ?kX ?kN ?kT ?kk ?pre ?k1 ?k2 ?_; (case kB => k_asm); (case kF => k_asm); (case kX => k_asm); (case kN => k_asm); (case kT => k_asm); (case kk => exact rfl); (case pre => exact ⟨by k_extra "src", by k_extra "om", by k_extra "om"⟩); (case k1 => k_extra "room"); (case k2 => k_extra "room"); k_whole); intro _ _ _ _ _ _ _ _ _ _ _; (try dsimp only); (try k_fold))))
  (k_with "src" => (first | with_reducible assumption | (refine' Src.mono ?h ?s; (case h => assumption); (case s => k_extra "sub"))))
  trivial
theorem word13 : True := by
  (k_with "memS" => ((refine' keptb_mem ?h ?m ?n; (case h => with_reducible assumption); (case m => k_mem); (case n => (dsimp only; first | assumption | k_extra "om")))))
  (k_with "subscriptTail" => ((k_here; (have q9 : StopHere := by with_reducible assumption); clear q9; refine stop_of ?_)))
  trivial
noncomputable abbrev one_P (w : World) (sl thl : Addr) (vs : List Value) (k : Nat) (news news' : Led) (v : Value) : Prop := ∃ i : Nat, vs[i]? = some v ∧ Src news' sl ∧ KeptB sl news news'
theorem one_ok {w : World} {mean : ExcName → Option Value} {mg mb : Str → Option Value} {sl thl : Addr} {vs : List Value} {k : Nat} :
    Says w mean mg mb (20 + 1) (200 + 3) (.ref 578) [.ref sl, .ref thl] (fun news => T5 (Src news sl) ((thl, listOf vs.toArray k) ∈ news) (@Ne Nat thl sl) (1 ≤ vs.length) (vs.length ≤ 100)) (one_P w sl thl vs k) := by
  k_dflt (refine' says_def [(Str.ofString "source", .ref sl), (Str.ofString "things", .ref thl)] ?k6 ?k7 ?k9 ?kB ?c2 ?c3 ?c4 ?c5 ?_; (case k6 => k_is); (case k7 => k_is); (case k9 => rfl); (case c5 => decide); (case kB => exact locs rfl); (case c2 => exact rfl); (case c3 => exact rfl); (case c4 => exact rfl); k_whole)
  intro dp un gd outer A₁ base g L news s B F X N TT hR hdp hu
  obtain ⟨hs, hm, hne, hl1, hl2⟩ := hR
  have hst : StopHere := trivial
  ((try k_extra "gq"); k_steps; (all_goals try k_extra "uq"))
  rename_i r' vt' nn' h' tk' F' N' h0' h1' hsr' hkb'
  obtain ⟨x, hx⟩ : ∃ x, vs[r'.toNat]? = some x := ⟨_, List.getElem?_eq_getElem (by k_extra "om")⟩
  refine go_on (my_item N' (hkb' _ hm hne) h0' (by k_extra "om") hx ?_)
  ((try k_extra "gq"); k_steps; (all_goals try k_extra "uq"))
  exact ⟨_, _, _, _, rfl, by k_asm, by k_asm, _, hx, hsr', hkb'⟩
theorem one_use {w : World} {mean : ExcName → Option Value} {mg mb : Str → Option Value} {sl thl : Addr} {vs : List Value} {k : Nat} : UseOf w mean mg mb 21 203 (.ref 578) [.ref sl, .ref thl] (fun news => T5 (Src news sl) ((thl, listOf vs.toArray k) ∈ news) (@Ne Nat thl sl) (1 ≤ vs.length) (vs.length ≤ 100)) (fun news C => ∀ (x : Value) (i : Nat) (news' : Led), C (news') (fun G => vs[i]? = some x → Src news' sl → KeptB sl news news' → G) (x)) :=
  useOf one_ok fun news news' r C hp ret => by
    obtain ⟨i, hf0, hf1, hf2⟩ := hp
    exact ⟨_, ret _ i _, fun G h => h hf0 hf1 hf2⟩
theorem word14 : True := by
  (k_with "call ref" => ((k_here; (with_reducible show wpAny _ _ (call (Value.ref 578) _) _ _ _); k_dflt (refine' one_use ?kB ?kF ?kX ?kN ?kT ?kk ?pre ?k1 ?k2 ?_; (case kB => k_asm); (case kF => k_asm); (case kX => k_asm); (case kN => k_asm); (case kT => k_asm); (case kk => exact rfl); (case pre => exact ⟨by k_extra "src", by k_mem, by first | assumption | k_extra "om", by first | assumption | (simp only [List.length_cons, List.length_nil]; k_extra "om"), by first | assumption | (simp only [List.length_cons, List.length_nil]; k_extra "om")⟩); (case k1 => k_extra "room"); (case k2 => k_extra "room"); k_whole); intro _ _ _ _ _ _ _ _ _ _; (try dsimp only); (try k_fold))))
  trivial
theorem word15 : True := by
  (k_with "unstop" => ((rename StopHere => q9; clear q9)))
  trivial
theorem word16 : True := by
  (k_with "call ref" => ((k_here; (with_reducible show wpAny _ _ (call (Value.ref 578) _) _ _ _); refine stop_of ?_)))
  (k_with "call ref" => ((k_here; (with_reducible show wpAny _ _ (call (Value.ref 571) _) _ _ _); refine stop_of ?_)))
  (k_with "exec If" => (((have q9 : StopHere := by with_reducible assumption); clear q9; refine stop_of ?_)))
  (k_with "exec Assign cons IfExp" => (((have q9 : StopHere := by with_reducible assumption); clear q9; refine stop_of ?_)))
  (k_with "exec Assign Name IfExp" => (((have q9 : StopHere := by with_reducible assumption); clear q9; refine stop_of ?_)))
  (k_with "exec Assign cons BoolOp" => (((have q9 : StopHere := by with_reducible assumption); clear q9; refine stop_of ?_)))
  (k_with "exec Assign Name BoolOp" => (((have q9 : StopHere := by with_reducible assumption); clear q9; refine stop_of ?_)))
  trivial
inductive part_P (w : World) (sl : Addr) (bl : Bool) (news news' : Led) (v : Value) : Prop
  | mk : ∀ (ra : Addr) (p : PSp), (v = .ref ra) → (RowTup news' ra p) → ((∀ k, p.pos = some k → 1 ≤ k ∧ k ≤ 2)) → (Src news' sl) → (KeptB sl news news') → part_P w sl bl news news' v
theorem part_ok {w : World} {mean : ExcName → Option Value} {mg mb : Str → Option Value} {sl : Addr} {bl : Bool} :
    Says w mean mg mb (40 + 1) (400 + 3) (.ref 592) [.ref sl, .bool bl] (fun news => Src news sl) (part_P w sl bl) := by
  k_dflt (refine' says_def [(Str.ofString "source", .ref sl), (Str.ofString "is_last", .bool bl)] ?k6 ?k7 ?k9 ?kB ?c2 ?c3 ?c4 ?c5 ?_; (case k6 => k_is); (case k7 => k_is); (case k9 => rfl); (case c5 => decide); (case kB => exact locs rfl); (case c2 => exact rfl); (case c3 => exact rfl); (case c4 => exact rfl); k_whole)
  intro dp un gd outer A₁ base g L news s B F X N TT hR hdp hu
  have hst : StopHere := trivial
  ((try k_extra "gq"); k_steps; (all_goals try k_extra "uq"))
  let jj1 : (Str → Option Value) → Led → Prop := (fun m' news' => ∃ (ba : Bool), T3 (Knows m' [(Str.ofString "source", .ref sl), (Str.ofString "is_last", .bool bl), (Str.ofString "is_attribute", .bool ba)]) (Src news' sl) (KeptB sl news news'))
  refine go_on (cut (h₀ := g) (L := L) jj1 ?_ ?_)
  · k_extra "unstop"
    cases bl
    · ((try k_extra "gq"); k_steps; (all_goals try k_extra "uq"))
      exact ⟨rfl, _, _, _, _, rfl, by k_asm, by k_asm, false, ⟨rfl, rfl, rfl, trivial⟩, hR, KeptB.refl⟩
    · ((try k_extra "gq"); k_steps; (all_goals try k_extra "uq"))
      refine go_on (take_use (by k_asm) (by k_asm) (by k_asm) (by k_asm) (by k_asm) (by exact rfl) ⟨hR, by decide, by decide⟩ (by k_extra "room") (by k_extra "room") ?_)
      intro r1 tk1 nn1 h1 tk1' F1 N1 hr0 hr1 hs1 hk1
      ((try k_extra "gq"); k_steps; (all_goals try k_extra "uq"))
      all_goals exact ⟨rfl, _, _, _, _, rfl, by k_asm, by k_asm, _, ⟨rfl, rfl, rfl, trivial⟩, hs1, hk1⟩
  · rintro m1 nn1 h1 tk1 F1 N1 ⟨ba, hK1, hs1, hk1⟩
    replace F1 : Fr g L h1 _ := frOver F1 hK1
    replace N1 : News g L h1 _ := N1
    ((try k_extra "gq"); k_steps; (all_goals try k_extra "uq"))
    rename_i D1 hA lA D2 hB lB D3 hC lC D4 hD FD ND lD
    refine go_on (one_use (by k_asm) (by k_asm) (by k_asm) (by k_asm) (by k_asm) (by exact rfl) ⟨hs1.mono (fun _ h => .tail _ (.tail _ (.tail _ (.tail _ h)))), .head _, hs1.ne (of_allLt lD.2.2.2), by simp, by simp⟩ (by k_extra "room") (by k_extra "room") ?_)
    intro x2 j2 nn2 h2 tk2 F2 N2 hx2 hs2 hk2
    obtain ⟨ta, tst, rfl, hT2⟩ : ∃ ta tst, x2 = .ref ta ∧ TstAt nn2 ta tst := by
      rcases pick_three hx2 with rfl | rfl | rfl
      · exact ⟨_, .name _, rfl, _, _, _, _, hk2 _ (.tail _ (.tail _ (.tail _ (.head _)))) (hs1.ne lA)⟩
      · exact ⟨_, .name _, rfl, _, _, _, _, hk2 _ (.tail _ (.tail _ (.head _))) (hs1.ne (of_allLt lB.2))⟩
      · exact ⟨_, .any, rfl, _, _, hk2 _ (.tail _ (.head _)) (hs1.ne (of_allLt lC.2.2))⟩
    have hk2' : KeptB sl news nn2 := fun p hp hn => hk2 p (.tail _ (.tail _ (.tail _ (.tail _ (hk1 p hp hn))))) hn
    clear hk2 hx2 hk1 hs1
    ((try k_extra "gq"); k_steps; (all_goals try k_extra "uq"))
    let jj2 : (Str → Option Value) → Led → Prop := (fun m' news' => X2 (fun ta tst => T4 (Knows m' [(Str.ofString "source", .ref sl), (Str.ofString "is_attribute", .bool ba), (Str.ofString "test", .ref ta)]) (TstAt news' ta tst) (Src news' sl) (KeptB sl news news')))
    refine go_on (cut (h₀ := g) (L := L) jj2 ?_ ?_)
    · k_extra "unstop"
      cases ba
      · cases bl
        · ((try k_extra "gq"); k_steps; (all_goals try k_extra "uq"))
          exact ⟨rfl, _, _, _, _, rfl, by k_asm, by k_asm, ta, tst, ⟨rfl, rfl, rfl, trivial⟩, hT2, hs2, hk2'⟩
        · ((try k_extra "gq"); k_steps; (all_goals try k_extra "uq"))
          refine go_on (take_use (by k_asm) (by k_asm) (by k_asm) (by k_asm) (by k_asm) (by exact rfl) ⟨hs2, by decide, by decide⟩ (by k_extra "room") (by k_extra "room") ?_)
          intro r3 tk3 nn3 h3 tk3' F3 N3 hr30 hr31 hs3 hk3
          have hT3 := hT2.keepB (fun1_of ‹News g L _ nn2›) hs2 hk3
          have hk3' := hk2'.trans hk3
          ((try k_extra "gq"); k_steps; (all_goals try k_extra "uq"))
          · rename_i hc3 E1 hE1 lE1 E2 hE2 lE2 El hEl FE NE lEl
            refine go_on (one_use (by k_asm) (by k_asm) (by k_asm) (by k_asm) (by k_asm) (by exact rfl) ⟨hs3.mono (fun _ h => .tail _ (.tail _ (.tail _ h))), .head _, hs3.ne (of_allLt lEl.2.2), by simp, by simp⟩ (by k_extra "room") (by k_extra "room") ?_)
            intro x4 j4 nn4 h4 tk4 F4 N4 hx4 hs4 hk4
            obtain ⟨ta, tst, rfl, hT4⟩ : ∃ ta tst, x4 = .ref ta ∧ TstAt nn4 ta tst := by
              rcases pick_two hx4 with rfl | rfl
              · exact ⟨_, .text, rfl, _, _, hk4 _ (.tail _ (.tail _ (.head _))) (hs3.ne lE1)⟩
              · exact ⟨_, .node, rfl, _, _, hk4 _ (.tail _ (.head _)) (hs3.ne (of_allLt lE2.2))⟩
            have hk4' : KeptB sl news nn4 := fun p hp hn => hk4 p (.tail _ (.tail _ (.tail _ (hk3' p hp hn)))) hn
            ((try k_extra "gq"); k_steps; (all_goals try k_extra "uq"))
            exact ⟨rfl, _, _, _, _, rfl, by k_asm, by k_asm, ta, tst, ⟨rfl, rfl, rfl, trivial⟩, hT4, hs4, hk4'⟩
          · exact ⟨rfl, _, _, _, _, rfl, by k_asm, by k_asm, ta, tst, ⟨rfl, rfl, rfl, trivial⟩, hT3, hs3, hk3'⟩
      · ((try k_extra "gq"); k_steps; (all_goals try k_extra "uq"))
        exact ⟨rfl, _, _, _, _, rfl, by k_asm, by k_asm, ta, tst, ⟨rfl, rfl, rfl, trivial⟩, hT2, hs2, hk2'⟩
    · rintro m3 nn3 h3 tk3 F3 N3 ⟨ta3, tst3, hK3, hT3, hs3, hk3⟩
      replace F3 : Fr g L h3 _ := frOver F3 hK3
      replace N3 : News g L h3 _ := N3
      clear hT2 hs2 hk2'
      ((try k_extra "gq"); k_steps; (all_goals try k_extra "uq"))
      let jj3 : (Str → Option Value) → Led → Prop := (fun m' news' => X2 (fun po tp => T5 (Knows m' [(Str.ofString "source", .ref sl), (Str.ofString "is_attribute", .bool ba), (Str.ofString "test", .ref ta3), (Str.ofString "position", posV po tp)]) (∀ k, po = some k → 1 ≤ k ∧ k ≤ 2) (TstAt news' ta3 tst3) (Src news' sl) (KeptB sl news news')))
      refine go_on (cut (h₀ := g) (L := L) jj3 ?_ ?_)
      · k_extra "unstop"
        cases ba
        · ((try k_extra "gq"); k_steps; (all_goals try k_extra "uq"))
          rename_i El hEl FE NE lEl
          refine go_on (one_use (by k_asm) (by k_asm) (by k_asm) (by k_asm) (by k_asm) (by exact rfl) ⟨hs3.mono mem_tail', .head _, hs3.ne lEl, by simp, by simp⟩ (by k_extra "room") (by k_extra "room") ?_)
          intro x4 j4 nn4 h4 tk4 F4 N4 hx4 hs4 hk4
          obtain ⟨po, tp, rfl, hpo⟩ := posV_four hx4
          have hT4 := (hT3.mono mem_tail').keepB (fun1_of NE) (hs3.mono mem_tail') hk4
          have hk4' : KeptB sl news nn4 := fun p hp hn => hk4 p (.tail _ (hk3 p hp hn)) hn
          ((try k_extra "gq"); k_steps; (all_goals try k_extra "uq"))
          exact ⟨rfl, _, _, _, _, rfl, by k_asm, by k_asm, po, tp, ⟨rfl, rfl, rfl, rfl, trivial⟩, hpo, hT4, hs4, hk4'⟩
        · ((try k_extra "gq"); k_steps; (all_goals try k_extra "uq"))
          exact ⟨rfl, _, _, _, _, rfl, by k_asm, by k_asm, none, 0, ⟨rfl, rfl, rfl, rfl, trivial⟩, fun k h => (nomatch h), hT3, hs3, hk3⟩
      · rintro m4 nn4 h4 tk4 F4 N4 ⟨po, tp, hK4, hpo, hT4, hs4, hk4⟩
        replace F4 : Fr g L h4 _ := frOver F4 hK4
        replace N4 : News g L h4 _ := N4
        k_extra "unstop"
        clear hT3 hs3 hk3
        ((try k_extra "gq"); k_steps; (all_goals try k_extra "uq"))
        refine go_on (take_use (by k_asm) (by k_asm) (by k_asm) (by k_asm) (by k_asm) (by exact rfl) ⟨hs4, by decide, by decide⟩ (by k_extra "room") (by k_extra "room") ?_)
        intro r5 tk5 nn5 h5 tk5' F5 N5 hr50 hr51 hs5 hk5
        have hT5 := hT4.keepB (fun1_of ‹News g L _ nn4›) hs4 hk5
        have hk5' := hk4.trans hk5
        ((try k_extra "gq"); k_steps; (all_goals try k_extra "uq"))
        exact ⟨_, _, _, _, rfl, by k_asm, by k_asm, _, ⟨ba, tst3, po, (r5 == 0)⟩, rfl, ⟨ta3, tp, _, .head _, hT5.mono mem_tail'⟩, hpo, hs5.mono mem_tail', fun p hp hn => .tail _ (hk5' p hp hn)⟩
theorem word17 : True := by
  k_with_none
  (k_with "gq" => (((with_reducible first | refine' genq (D := DoneF _ _ _ _) ?_ | refine' genq (D := TurnEnd _ _ _ _ _ _) ?_ | refine' genq (D := TurnEnd2 _ _ _ _ _ _ _) ?_ | refine' genq (D := WEnd _ _ _ _ _) ?_ | refine' genq (D := Mid _ _ _ _) ?_ | refine' genq (D := CEnd _ _ _ _ _ _ _ _ _ _ _) ?_ | refine' genq (D := CEnd2 _ _ _ _ _ _ _ _ _ _ _) ?_); intro _ _)))
  (k_with "uq" => (first | (refine' unq ?u9 ?_; (case u9 => with_reducible assumption)) | (refine' unqv ?u9 ?_; (case u9 => with_reducible assumption))))
  (k_with "lts" => (first | exact Nat.le.refl | (refine Nat.le.step ?_; k_extra "lts")))
  (k_with "cj" => (first | assumption | (refine' And.left ?a9; (case a9 => assumption)) | (refine' And.left (And.right ?a9); (case a9 => assumption)) | (refine' And.left (And.right (And.right ?a9)); (case a9 => assumption)) | (refine' And.left (And.right (And.right (And.right ?a9))); (case a9 => assumption)) | (refine' And.left (And.right (And.right (And.right (And.right ?a9)))); (case a9 => assumption)) | (refine' And.left (And.right (And.right (And.right (And.right (And.right ?a9))))); (case a9 => assumption)) | (refine' And.left (And.right (And.right (And.right (And.right (And.right (And.right ?a9)))))); (case a9 => assumption)) | (refine' And.left (And.right (And.right (And.right (And.right (And.right (And.right (And.right ?a9))))))); (case a9 => assumption)) | (refine' And.left (And.right (And.right (And.right (And.right (And.right (And.right (And.right (And.right ?a9)))))))); (case a9 => assumption)) | (refine' And.left (And.right (And.right (And.right (And.right (And.right (And.right (And.right (And.right (And.right ?a9))))))))); (case a9 => assumption)) | (refine' And.left (And.right (And.right (And.right (And.right (And.right (And.right (And.right (And.right (And.right (And.right ?a9)))))))))); (case a9 => assumption)) | (refine' And.left (And.right (And.right (And.right (And.right (And.right (And.right (And.right (And.right (And.right (And.right (And.right ?a9))))))))))); (case a9 => assumption))))
  (k_with "ne9" => (first | assumption | exact Ne.symm (by assumption) | (refine' Nat.ne_of_lt ?a8; (case a8 => first | assumption | k_extra "lts" | k_extra "cj" | (refine' Nat.lt_of_le_of_lt ?b9 ?c9; (case c9 => assumption); (case b9 => k_extra "lts")))) | (refine' Nat.ne_of_gt ?a8; (case a8 => first | assumption | k_extra "lts" | k_extra "cj" | (refine' Nat.lt_of_le_of_lt ?b9 ?c9; (case c9 => assumption); (case b9 => k_extra "lts")))) | ((try dsimp only); (repeat (rename @Ne Nat _ _ => q9; clear q9)); omega) | ((try dsimp only); omega)))
  (k_with "om" => (first | with_reducible assumption | (refine neN ?_; k_extra "ne9") | (refine' Nat.le_trans ?a9 ?b9; (case a9 => assumption); (case b9 => exact Nat.le_of_ble_eq_true rfl)) | (refine' le_eq_le ?a9 ?b9 ?c9; (case a9 => assumption); (case b9 => assumption); (case c9 => exact Nat.le_of_ble_eq_true rfl)) | (refine ltN ?_; k_extra "cj") | ((repeat (rename @Ne Nat _ _ => q9; clear q9)); omega) | omega))
  (k_with "room" => (first | (refine' room_of ?a9 ?b9; (case a9 => assumption); (case b9 => exact Nat.le_of_ble_eq_true rfl)) | omega))
  (k_with "call builtin:list.append" => ((k_here; (with_reducible show wpAny _ _ (call (Value.builtin "list.append") [Value.ref _, _]) _ _ _); k_dflt (refine' my_append ?k1 ?k2 ?k3 ?k4 ?_; (case k1 => k_asm); (case k2 => k_asm); (case k3 => k_upd); (case k4 => k_extra "om"); k_whole); intro _ _ _; (try k_sweep))))
  (k_with "memF" => (first | exact mem_head | with_reducible assumption | (refine' mem_tail ?_; k_extra "memF")))
  (k_with "memS" => (first | exact mem_head | assumption | (refine' mem_tail ?_; k_extra "memS")))
  (k_with "call type:list" => ((k_here; (with_reducible show wpAny _ _ (call (Value.type "list") [Value.ref _]) _ _ _); k_dflt (refine' my_listcopy ?k0 ?k1 ?k2 ?k3 ?_; (case k0 => k_asm); (case k1 => k_asm); (case k2 => k_mem); (case k3 => k_extra "om"); k_whole); intro _ _ _ _ _ _)))
  (k_with "call builtin:len" => ((k_here; (with_reducible show wpAny _ _ (call (Value.builtin "len") [Value.ref _]) _ _ _); k_dflt (refine' my_len ?k1 ?k2 ?k3 ?_; (case k1 => k_asm); (case k2 => k_mem); (case k3 => k_extra "om"); k_whole))))
  (k_with "subscriptTail" => ((k_here; (with_reducible show wpAny _ _ (subscriptTail _ _ (Value.ref _) (Value.int _ _)) _ _ _); k_dflt (refine' my_item ?k1 ?k2 ?k3 ?k4 ?k5 ?_; (case k1 => k_asm); (case k2 => k_mem); (case k3 => k_extra "om"); (case k4 => k_extra "om"); (case k5 => first | with_reducible assumption | rfl); k_whole))))
  (k_with "sub" => (first | with_reducible exact fun _ h => h | (refine' sub_cons ?m ?_; (case m => k_mem); k_extra "sub") | (refine sub_tail ?_; k_extra "sub")))
  (k_with "fin" => (((try k_extra "uq"); (try dsimp only [WEnd, TurnEnd, TurnEnd2]); (try k_extra "uq"); refine' fin_same ?F ?N ?S (And.intro rfl ?_); (case F => k_asm); (case N => k_asm); (case S => k_extra "sub"))))
  (k_with "bools" => (simp only [fitSr, axS_attr, *, Bool.or_true, Bool.true_or, Bool.not_true, Bool.false_and, Bool.and_false, Bool.not_false, Bool.true_and, Bool.and_true, Bool.or_self, Bool.or_false, Bool.false_or, Bool.and_self, Option.isNone_none, Option.isNone_some, beq_self_eq_true]))
  (k_with "finL" => (((try k_extra "uq"); refine' fin_new ?F ?N ?M ?S ⟨_, _, _, rfl, rfl, ?_, ?_⟩; (case F => k_asm); (case N => k_asm); (case M => k_mem); (case S => k_extra "sub"))))
  (k_with "tree" => (first | with_reducible assumption | (refine' TreeAt.mono ?h ?s; (case h => assumption); (case s => k_extra "sub"))))
  (k_with "call ref" => ((k_here; (with_reducible show wpAny _ _ (call (Value.ref 335) _) _ _ _); k_dflt (refine' row_use ?kB ?kF ?kX ?kN ?kT ?kk ?pre ?k1 ?k2 ?_; (case kB => k_asm); (case kF => k_asm); (case kX => k_asm); (case kN => k_asm); (case kT => k_asm); (case kk => exact rfl); (case pre => exact ⟨by k_extra "tree", by assumption⟩); (case k1 => k_extra "room"); (case k2 => k_extra "room"); k_whole); intro _ _ _ _ _ _ _ _ _ _ _ _ _ _ _ _ _ _ _ _ _ _ _ _ _ _ _ _ _ _ _ _ _ _ _ _ _ _ _; (try dsimp only); (try k_fold))))
  (k_with "call ref" => ((k_here; (with_reducible show wpAny _ _ (call (Value.ref 447) _) _ _ _); k_dflt (refine' parent_use ?kB ?kF ?kX ?kN ?kT ?kk ?pre ?k1 ?k2 ?_; (case kB => k_asm); (case kF => k_asm); (case kX => k_asm); (case kN => k_asm); (case kT => k_asm); (case kk => exact rfl); (case pre => exact ⟨by k_extra "tree", by assumption⟩); (case k1 => k_extra "room"); (case k2 => k_extra "room"); k_whole); intro _ _ _ _ _; (try dsimp only); (try k_fold))))
  (k_with "call ref" => ((k_here; (with_reducible show wpAny _ _ (call (Value.ref 412) _) _ _ _); k_dflt (refine' kind_use ?kB ?kF ?kX ?kN ?kT ?kk ?pre ?k1 ?k2 ?_; (case kB => k_asm); (case kF => k_asm); (case kX => k_asm); (case kN => k_asm); (case kT => k_asm); (case kk => exact rfl); (case pre => exact ⟨by k_extra "tree", by assumption⟩); (case k1 => k_extra "room"); (case k2 => k_extra "room"); k_whole); intro _ _ _ _ _; (try dsimp only); (try k_fold))))
  (k_with "call ref" => ((k_here; (with_reducible show wpAny _ _ (call (Value.ref 419) _) _ _ _); k_dflt (refine' name_use ?kB ?kF ?kX ?kN ?kT ?kk ?pre ?k1 ?k2 ?_; (case kB => k_asm); (case kF => k_asm); (case kX => k_asm); (case kN => k_asm); (case kT => k_asm); (case kk => exact rfl); (case pre => exact ⟨by k_extra "tree", by assumption⟩); (case k1 => k_extra "room"); (case k2 => k_extra "room"); k_whole); intro _ _ _ _ _; (try dsimp only); (try k_fold))))
  (k_with "call ref" => ((k_here; (with_reducible show wpAny _ _ (call (Value.ref 433) _) _ _ _); k_dflt (refine' local_use ?kB ?kF ?kX ?kN ?kT ?kk ?pre ?k1 ?k2 ?_; (case kB => k_asm); (case kF => k_asm); (case kX => k_asm); (case kN => k_asm); (case kT => k_asm); (case kk => exact rfl); (case pre => exact ⟨by k_extra "tree", by assumption⟩); (case k1 => k_extra "room"); (case k2 => k_extra "room"); k_whole); intro _ _ _ _ _; (try dsimp only); (try k_fold))))
  (k_with "call ref" => ((k_here; (with_reducible show wpAny _ _ (call (Value.ref 426) _) _ _ _); k_dflt (refine' uri_use ?kB ?kF ?kX ?kN ?kT ?kk ?pre ?k1 ?k2 ?_; (case kB => k_asm); (case kF => k_asm); (case kX => k_asm); (case kN => k_asm); (case kT => k_asm); (case kk => exact rfl); (case pre => exact ⟨by k_extra "tree", by assumption⟩); (case k1 => k_extra "room"); (case k2 => k_extra "room"); k_whole); intro _ _ _ _ _; (try dsimp only); (try k_fold))))
  (k_with "call ref" => ((k_here; (with_reducible show wpAny _ _ (call (Value.ref 447) _) _ _ _); k_dflt (refine' parent_two ?kB ?kF ?kX ?kN ?kT ?kk ?pre ?k1 ?k2 ?_ ?_; (case kB => k_asm); (case kF => k_asm); (case kX => k_asm); (case kN => k_asm); (case kT => k_asm); (case kk => exact rfl); (case pre => exact ⟨by k_extra "tree", by assumption⟩); (case k1 => k_extra "room"); (case k2 => k_extra "room")); (first | (intro _ _ _ _ _; (try dsimp only); (try k_fold)) | skip); (rotate_left; (intro _ _ _ _ _ _ _; (try dsimp only); (try k_fold)); rotate_left))))
  (k_with "call ref" => ((k_here; (with_reducible show wpAny _ _ (call (Value.ref 454) _) _ _ _); k_dflt (refine' children_use ?kB ?kF ?kX ?kN ?kT ?kk ?pre ?k1 ?k2 ?_; (case kB => k_asm); (case kF => k_asm); (case kX => k_asm); (case kN => k_asm); (case kT => k_asm); (case kk => exact rfl); (case pre => exact ⟨by k_extra "tree", by assumption⟩); (case k1 => k_extra "room"); (case k2 => k_extra "room"); k_whole); intro _ _ _ _ _ _ _ _ _ _ _; (try dsimp only); (try k_fold))))
  (k_with "call ref" => ((k_here; (with_reducible show wpAny _ _ (call (Value.ref 461) _) _ _ _); k_dflt (refine' attributes_use ?kB ?kF ?kX ?kN ?kT ?kk ?pre ?k1 ?k2 ?_; (case kB => k_asm); (case kF => k_asm); (case kX => k_asm); (case kN => k_asm); (case kT => k_asm); (case kk => exact rfl); (case pre => exact ⟨by k_extra "tree", by assumption⟩); (case k1 => k_extra "room"); (case k2 => k_extra "room"); k_whole); intro _ _ _ _ _ _ _ _ _ _ _; (try dsimp only); (try k_fold))))
  (k_with "setItem ref int" => ((k_here; (with_reducible show wpAny _ _ (PySem.setItem (Value.ref _) (Value.int _ _) _) _ _ _); k_dflt (refine' set_any ?F ?N ?m ?h0 ?hk ?hf ?_; (case F => k_asm); (case N => k_asm); (case m => k_mem); (case h0 => omega); (case hk => (simp only [List.length_cons, List.length_nil]; omega)); (case hf => (simp only [List.length_cons, List.length_nil]; omega)); k_whole); intro _ _ _ _ _ _ _; (try k_fold))))
  (k_with "call ref" => ((k_here; (with_reducible show wpAny _ _ (call (Value.ref 571) _) _ _ _); k_dflt (refine' take_use ?kB ?kF ?kX ?kN ?kT ?kk ?pre ?k1 ?k2 ?_; (case kB => k_asm); (case kF => k_asm); (case kX => k_asm); (case kN => k_asm); (case kT => k_asm); (case kk => exact rfl); (case pre => exact ⟨by k_extra "src", by omega, by omega⟩); (case k1 => k_extra "room"); (case k2 => k_extra "room"); k_whole); intro _ _ _ _ _ _ _ _ _ _ _; (try dsimp only); (try k_fold))))
  (k_with "src" => (first | with_reducible assumption | (refine' Src.mono ?h ?s; (case h => assumption); (case s => k_extra "sub"))))
  (k_with "memS" => ((refine' keptb_mem ?h ?m ?n; (case h => with_reducible assumption); (case m => k_mem); (case n => (dsimp only; first | assumption | omega)))))
  (k_with "subscriptTail" => ((k_here; (have q9 : StopHere := by with_reducible assumption); clear q9; refine stop_of ?_)))
  (k_with "call ref" => ((k_here; (with_reducible show wpAny _ _ (call (Value.ref 578) _) _ _ _); k_dflt (refine' one_use ?kB ?kF ?kX ?kN ?kT ?kk ?pre ?k1 ?k2 ?_; (case kB => k_asm); (case kF => k_asm); (case kX => k_asm); (case kN => k_asm); (case kT => k_asm); (case kk => exact rfl); (case pre => exact ⟨by k_extra "src", by k_mem, by first | assumption | omega, by first | assumption | (simp only [List.length_cons, List.length_nil]; omega), by first | assumption | (simp only [List.length_cons, List.length_nil]; omega)⟩); (case k1 => k_extra "room"); (case k2 => k_extra "room"); k_whole); intro _ _ _ _ _ _ _ _ _ _; (try dsimp only); (try k_fold))))
  trivial
inductive noderow_P (w : World) (kd : Kd) (nm v0 : Str) (par : Option Int) (k0 k1 k2 k3 k4 k5 : Tok) (news news' : Led) (v : Value) : Prop
  | mk : ∀ x ca aa, (v = .ref x) → (RowF w news' x ⟨kd, nm, par, [], []⟩ ca aa) → ((∀ p ∈ news, p ∈ news')) → ((∀ p ∈ news, @Ne Nat p.1 ca)) → ((∀ p ∈ news, @Ne Nat p.1 aa)) → (@Ne Nat ca aa) → noderow_P w kd nm v0 par k0 k1 k2 k3 k4 k5 news news' v
theorem noderow_ok {w : World} {mean : ExcName → Option Value} {mg mb : Str → Option Value} {kd : Kd} {nm v0 : Str} {par : Option Int} {k0 k1 k2 k3 k4 k5 : Tok} :
    Says w mean mg mb (10 + 2) (100 + 10) (.ref 303) [.str kd.s k0, .str nm k1, .str (Str.ofString "") k2, .str nm k3, .str v0 k4, parV par k5] (fun news => True) (noderow_P w kd nm v0 par k0 k1 k2 k3 k4 k5) := by
  k_dflt (refine' says_cls (fun x => [(Str.ofString "self", .ref x), (Str.ofString "kind", .str kd.s k0), (Str.ofString "name", .str nm k1), (Str.ofString "uri", .str (Str.ofString "") k2), (Str.ofString "local", .str nm k3), (Str.ofString "value", .str v0 k4), (Str.ofString "parent", parV par k5)]) ?k3 ?k4 ?k5 ?k6 ?k7 ?k9 ?kB ?c2 ?c3 ?c4 ?c5 ?_; (case k3 => k_is); (case k4 => k_is); (case k5 => k_is); (case k6 => k_is); (case k7 => k_is); (case k9 => intro _; rfl); (case c5 => decide); (case kB => intro _; exact locs rfl); (case c2 => exact rfl); (case c3 => exact rfl); (case c4 => exact rfl); k_whole)
  intro dp un gd outer A₁ base g L news x dx s B F X N l1 l2 TT hR hdp hu
  replace l1 := allLt_of l1
  replace l2 : @LT.lt Nat _ dx x := l2
  ((try k_extra "gq"); k_steps; (all_goals try k_extra "uq"))
  rename_i ca hA lA hB tA aa hC lB hD tB na hE lC hF FF NN
  exact ⟨_, _, _, _, rfl, FF, NN, rfl, x, ca, aa, rfl, ⟨dx, na, v0, _, _, _, _, _, _, _, _, _, _, _, _, _, _, _, [], [], 0, 0, (.tail _ (.tail _ (.tail _ (.head _)))), (.tail _ (.tail _ (.tail _ (.tail _ (.head _))))), (.tail _ (.tail _ (.head _))), (.tail _ (.head _)), .nil, .nil⟩, by k_extra "sub",
    fun p hp => Nat.ne_of_lt (of_allLt lA.2.2 p hp), fun p hp => Nat.ne_of_lt (of_allLt lB.2.2.2 p hp), Nat.ne_of_lt lB.1⟩
theorem noderow_use {w : World} {mean : ExcName → Option Value} {mg mb : Str → Option Value} {kd : Kd} {nm v0 : Str} {par : Option Int} {k0 k1 k2 k3 k4 k5 : Tok} : UseOf w mean mg mb 12 110 (.ref 303) [.str kd.s k0, .str nm k1, .str (Str.ofString "") k2, .str nm k3, .str v0 k4, parV par k5] (fun news => True) (fun news C => ∀ (x ca aa : Addr) (news' : Led), C (news') (fun G => RowF w news' x ⟨kd, nm, par, [], []⟩ ca aa → (∀ p ∈ news, p ∈ news') → (∀ p ∈ news, @Ne Nat p.1 ca) → (∀ p ∈ news, @Ne Nat p.1 aa) → @Ne Nat ca aa → G) (.ref x)) :=
  useOf noderow_ok fun news news' r C hp ret => by
    obtain ⟨x, ca, aa, rfl, hf0, hf1, hf2, hf3, hf4⟩ := hp
    exact ⟨_, ret _ _ _ _, fun G h => h hf0 hf1 hf2 hf3 hf4⟩
theorem word18 : True := by
  (k_with "call ref" => ((k_here; (with_reducible show wpAny _ _ (call (Value.ref 303) _) _ _ _); k_dflt (refine' noderow_use ?kB ?kF ?kX ?kN ?kT ?kk ?pre ?k1 ?k2 ?_; (case kB => k_asm); (case kF => k_asm); (case kX => k_asm); (case kN => k_asm); (case kT => k_asm); (case kk => exact rfl); (case pre => trivial); (case k1 => k_extra "room"); (case k2 => k_extra "room"); k_whole); intro _ _ _ _ _ _ _ _ _ _ _ _ _; (try dsimp only); (try k_fold))))
  (k_with "call builtin:list.append" => ((k_here; (have q9 : StopHere := by with_reducible assumption); clear q9; refine stop_of ?_)))
  (k_with "memS" => (((rename (∀ p ∈ _, p ∈ _) => hs9); exact hs9 _ (by k_mem))))
  trivial
inductive newrow_P (w : World) (t rl : Addr) (T : MTree) (cas aas : List Addr) (vs : List Value) (kd : Kd) (nm v0 : Str) (par : Option Int) (k0 k1 k2 k3 k4 k5 : Tok) (news news' : Led) (v : Value) : Prop
  | mk : ∀ x ca aa tk, (v = .int (T.length : Int) tk) → (TreeF w news' t (T ++ [⟨kd, nm, par, [], []⟩]) rl (cas ++ [ca]) (aas ++ [aa]) (vs ++ [.ref x])) → (KeptB rl news news') → ((∀ p ∈ news, @Ne Nat p.1 ca)) → ((∀ p ∈ news, @Ne Nat p.1 aa)) → newrow_P w t rl T cas aas vs kd nm v0 par k0 k1 k2 k3 k4 k5 news news' v
theorem newrow_ok {w : World} {mean : ExcName → Option Value} {mg mb : Str → Option Value} {t rl : Addr} {T : MTree} {cas aas : List Addr} {vs : List Value} {kd : Kd} {nm v0 : Str} {par : Option Int} {k0 k1 k2 k3 k4 k5 : Tok} :
    Says w mean mg mb (20 + 1) (200 + 3) (.ref 328) [.ref t, .str kd.s k0, .str nm k1, .str (Str.ofString "") k2, .str nm k3, .str v0 k4, parV par k5] (fun news => TreeF w news t T rl cas aas vs ∧ T.length ≤ 100) (newrow_P w t rl T cas aas vs kd nm v0 par k0 k1 k2 k3 k4 k5) := by
  k_dflt (refine' says_def [(Str.ofString "self", .ref t), (Str.ofString "kind", .str kd.s k0), (Str.ofString "name", .str nm k1), (Str.ofString "uri", .str (Str.ofString "") k2), (Str.ofString "local", .str nm k3), (Str.ofString "value", .str v0 k4), (Str.ofString "parent", parV par k5)] ?k6 ?k7 ?k9 ?kB ?c2 ?c3 ?c4 ?c5 ?_; (case k6 => k_is); (case k7 => k_is); (case k9 => rfl); (case c5 => decide); (case kB => exact locs rfl); (case c2 => exact rfl); (case c3 => exact rfl); (case c4 => exact rfl); k_whole)
  intro dp un gd outer A₁ base g L news s B F X N TT hR hdp hu
  obtain ⟨hT, hTl⟩ := hR
  have hT' := hT
  obtain ⟨⟨dt, tk, hi1, hi2⟩, ⟨k, hrl⟩, hlv, _⟩ := hT'
  have hst : StopHere := trivial
  ((try k_extra "gq"); k_steps; (all_goals try k_extra "uq"))
  rename_i x' ca' aa' nn' h' tk' F' N' hrf hs hfc hfa hne
  refine go_on (app_any F' N' (hs _ hrl) (by k_extra "om") ?_)
  intro h2 nn2 F2 N2 hm2 hk2
  have e1 : @Ne Nat ca' rl := fun q => hfc _ hrl q.symm
  have e2 : @Ne Nat aa' rl := fun q => hfa _ hrl q.symm
  have T2 := hT.push (fun1_of (news_sub N' hs)) (fun p hp hn => hk2 p (hs p hp) hn) hm2 (hrf.keep (fun1_of N') (hs _ hrl) e1 e2 hk2) hfc hfa hne
  have T2' := T2
  obtain ⟨⟨dt2, tk2, gi1, gi2⟩, _⟩ := T2'
  have e3 : ((vs ++ [Value.ref x']).length : Int) - 1 = (T.length : Int) := by simp; k_extra "om"
  have e4 : (vs ++ [Value.ref x']).length ≤ 102 := by simp; k_extra "om"
  ((try k_extra "gq"); k_steps; (all_goals try k_extra "uq"))
  exact ⟨_, _, _, _, rfl, by k_asm, by k_asm, x', ca', aa', _, congrArg (fun z => Value.int z _) e3, T2, fun p hp hn => hk2 p (hs p hp) hn, hfc, hfa⟩
theorem newrow_use {w : World} {mean : ExcName → Option Value} {mg mb : Str → Option Value} {t rl : Addr} {T : MTree} {cas aas : List Addr} {vs : List Value} {kd : Kd} {nm v0 : Str} {par : Option Int} {k0 k1 k2 k3 k4 k5 : Tok} : UseOf w mean mg mb 21 203 (.ref 328) [.ref t, .str kd.s k0, .str nm k1, .str (Str.ofString "") k2, .str nm k3, .str v0 k4, parV par k5] (fun news => TreeF w news t T rl cas aas vs ∧ T.length ≤ 100) (fun news C => ∀ (x ca aa : Addr) (tk : Tok) (news' : Led), C (news') (fun G => TreeF w news' t (T ++ [⟨kd, nm, par, [], []⟩]) rl (cas ++ [ca]) (aas ++ [aa]) (vs ++ [.ref x]) → KeptB rl news news' → (∀ p ∈ news, @Ne Nat p.1 ca) → (∀ p ∈ news, @Ne Nat p.1 aa) → G) (.int (T.length : Int) tk)) :=
  useOf newrow_ok fun news news' r C hp ret => by
    obtain ⟨x, ca, aa, tk, rfl, hf0, hf1, hf2, hf3⟩ := hp
    exact ⟨_, ret _ _ _ _ _, fun G h => h hf0 hf1 hf2 hf3⟩
theorem word19 : True := by
  (k_with "call ref" => ((k_here; (with_reducible show wpAny _ _ (call (Value.ref 328) _) _ _ _); k_dflt (refine' newrow_use ?kB ?kF ?kX ?kN ?kT ?kk ?pre ?k1 ?k2 ?_; (case kB => k_asm); (case kF => k_asm); (case kX => k_asm); (case kN => k_asm); (case kT => k_asm); (case kk => exact rfl); (case pre => exact ⟨by assumption, by k_extra "om"⟩); (case k1 => k_extra "room"); (case k2 => k_extra "room"); k_whole); intro _ _ _ _ _ _ _ _ _ _ _ _ _; (try dsimp only); (try k_fold))))
  trivial
noncomputable abbrev treenew_P (w : World)  (news news' : Led) (v : Value) : Prop := ∃ t rl, v = .ref t ∧ TreeF w news' t [] rl [] [] [] ∧ (∀ p ∈ news, p ∈ news') ∧ (∀ p ∈ news, @Ne Nat p.1 rl)
theorem treenew_ok {w : World} {mean : ExcName → Option Value} {mg mb : Str → Option Value}  :
    Says w mean mg mb (10 + 2) (100 + 10) (.ref 492) [] (fun news => True) (treenew_P w ) := by
  k_dflt (refine' says_cls (fun x => [(Str.ofString "self", .ref x)]) ?k3 ?k4 ?k5 ?k6 ?k7 ?k9 ?kB ?c2 ?c3 ?c4 ?c5 ?_; (case k3 => k_is); (case k4 => k_is); (case k5 => k_is); (case k6 => k_is); (case k7 => k_is); (case k9 => intro _; rfl); (case c5 => decide); (case kB => intro _; exact locs rfl); (case c2 => exact rfl); (case c3 => exact rfl); (case c4 => exact rfl); k_whole)
  intro dp un gd outer A₁ base g L news x dx s B F X N l1 l2 TT hR hdp hu
  replace l1 := allLt_of l1
  replace l2 : @LT.lt Nat _ dx x := l2
  ((try k_extra "gq"); k_steps; (all_goals try k_extra "uq"))
  rename_i rl hA lA hB FF NN
  exact ⟨_, _, _, _, rfl, FF, NN, rfl, x, rl, rfl, ⟨⟨dx, _, .tail _ (.head _), .tail _ (.tail _ (.head _))⟩, ⟨0, .head _⟩, rfl, rfl, rfl, by simp, fun i r h => by simp at h⟩, by k_extra "sub", fun p hp => Nat.ne_of_lt (of_allLt lA.2.2 p hp)⟩
theorem treenew_use {w : World} {mean : ExcName → Option Value} {mg mb : Str → Option Value}  : UseOf w mean mg mb 12 110 (.ref 492) [] (fun news => True) (fun news C => ∀ (t rl : Addr) (news' : Led), C (news') (fun G => TreeF w news' t [] rl [] [] [] → (∀ p ∈ news, p ∈ news') → (∀ p ∈ news, @Ne Nat p.1 rl) → G) (.ref t)) :=
  useOf treenew_ok fun news news' r C hp ret => by
    obtain ⟨t, rl, rfl, hf0, hf1, hf2⟩ := hp
    exact ⟨_, ret _ _ _, fun G h => h hf0 hf1 hf2⟩
theorem word20 : True := by
  (k_with "call ref" => ((k_here; (with_reducible show wpAny _ _ (call (Value.ref 492) _) _ _ _); k_dflt (refine' treenew_use ?kB ?kF ?kX ?kN ?kT ?kk ?pre ?k1 ?k2 ?_; (case kB => k_asm); (case kF => k_asm); (case kX => k_asm); (case kN => k_asm); (case kT => k_asm); (case kk => exact rfl); (case pre => trivial); (case k1 => k_extra "room"); (case k2 => k_extra "room"); k_whole); intro _ _ _ _ _ _ _ _ _ _; (try dsimp only); (try k_fold))))
  (k_with "compareOp NotIn str ref" => ((k_here; (with_reducible show wpAny _ _ (compareOp CmpOp.NotIn (Value.str _ _) (Value.ref _)) _ _ _); k_dflt (refine' notin_top ?F ?X ?l ?i ?_; (case F => k_asm); (case X => k_asm); (case l => k_is); (case i => kde_strs); k_whole))))
  (k_with "ite" => ((k_dflt (refine' ite_neg ?h ?_; (case h => (rw [not_par (by assumption)]; decide))))))
  (k_with "call ref" => ((k_here; (with_reducible show wpAny _ _ (call (Value.ref 328) _) _ _ _); k_dflt (refine' newrow_use (par := some _) ?kB ?kF ?kX ?kN ?kT ?kk ?pre ?k1 ?k2 ?_; (case kB => k_asm); (case kF => k_asm); (case kX => k_asm); (case kN => k_asm); (case kT => k_asm); (case kk => exact rfl); (case pre => exact ⟨by assumption, by k_extra "om"⟩); (case k1 => k_extra "room"); (case k2 => k_extra "room"); k_whole); intro _ _ _ _ _ _ _ _ _ _ _ _ _; (try dsimp only); (try k_fold))))
  trivial
noncomputable abbrev addchild_P (w : World) (t : Addr) (T : MTree) (FF : List Addr) (p : Int) (rp : MRow) (kd : Kd) (nm v0 : Str) (kp k0 k1 k2 k3 k4 : Tok) (news news' : Led) (v : Value) : Prop := ∃ FF' tk, v = .int (T.length : Int) tk ∧ TreeX w news' t (addT T p rp ⟨kd, nm, some p, [], []⟩) FF' ∧ Kept FF FF' news news'
theorem addchild_ok {w : World} {mean : ExcName → Option Value} {mg mb : Str → Option Value} {t : Addr} {T : MTree} {FF : List Addr} {p : Int} {rp : MRow} {kd : Kd} {nm v0 : Str} {kp k0 k1 k2 k3 k4 : Tok} :
    Says w mean mg mb (40 + 1) (400 + 3) (.ref 349) [.ref t, .int p kp, .str kd.s k0, .str nm k1, .str (Str.ofString "") k2, .str nm k3, .str v0 k4] (fun news => T5 (TreeX w news t T FF) (Small T) (T.length ≤ 100) (rowOf T p = some rp) (rp.kd = .root ∨ rp.kd = .element)) (addchild_P w t T FF p rp kd nm v0 kp k0 k1 k2 k3 k4) := by
  k_dflt (refine' says_def [(Str.ofString "self", .ref t), (Str.ofString "parent", .int p kp), (Str.ofString "kind", .str kd.s k0), (Str.ofString "name", .str nm k1), (Str.ofString "uri", .str (Str.ofString "") k2), (Str.ofString "local", .str nm k3), (Str.ofString "value", .str v0 k4)] ?k6 ?k7 ?k9 ?kB ?c2 ?c3 ?c4 ?c5 ?_; (case k6 => k_is); (case k7 => k_is); (case k9 => rfl); (case c5 => decide); (case kB => exact locs rfl); (case c2 => exact rfl); (case c3 => exact rfl); (case c4 => exact rfl); k_whole)
  intro dp un gd outer A₁ base g L news s B F X N TT hR hdp hu
  obtain ⟨⟨rl, cas, aas, vs, rfl, hT⟩, hS, hTl, hp, hkp⟩ := hR
  have hTA := hT.at hS (by k_extra "om")
  have hT' := hT
  obtain ⟨⟨dt, tk, hi1, hi2⟩, ⟨k, hrl⟩, hlv, _⟩ := hT'
  have hst : StopHere := trivial
  ((try k_extra "gq"); k_steps; (all_goals try k_extra "uq"))
  rename_i x' ca' aa' vt' nn' h' tk' htf hkb hfc hfa h2 F2 N2
  obtain ⟨hp0, hp1, hp2⟩ := rowOf_nat hp
  have hp1' := push_at (x := (⟨kd, nm, some p, [], []⟩ : MRow)) hp1
  have htf' := htf
  obtain ⟨⟨dt2, tk2, gi1, gi2⟩, ⟨k2, grl⟩, glv, _⟩ := htf'
  obtain ⟨x, ca, aa, e1, e2, e3, hrf⟩ := htf.row _ _ hp1'
  obtain ⟨d, na, v, t0, t1, t2, t3, t4, t5, t6, t7, t8, v0, v1, v2, v3, v4, v5, cvs, avs, j1, j2, ra, rb, rc, rd, re, rf⟩ := hrf
  have hcl := re.length
  have hcs := (hS _ _ hp1).1
  ((try k_extra "gq"); k_steps; (all_goals try k_extra "uq"))
  refine go_on (my_item (by k_asm) grl hp0 (by k_extra "om") e1 ?_)
  ((try k_extra "gq"); k_steps; (all_goals try k_extra "uq"))
  refine go_on (app_any (by k_asm) (by k_asm) rc (by k_extra "om") ?_)
  intro h3 nn3 F3 N3 hm3 hk3
  have T3 := htf.addch (fun1_of N2) hp1' e2 hk3 rc hm3 (re.append (.cons (T.length : Int) vt' .nil))
  ((try k_extra "gq"); k_steps; (all_goals try k_extra "uq"))
  exact ⟨_, _, _, _, rfl, by k_asm, by k_asm, _, _, rfl, ⟨rl, _, _, _, rfl, T3⟩, kept_grow hkb hk3 (in_foot_c e2) hfc hfa⟩
theorem addchild_use {w : World} {mean : ExcName → Option Value} {mg mb : Str → Option Value} {t : Addr} {T : MTree} {FF : List Addr} {p : Int} {rp : MRow} {kd : Kd} {nm v0 : Str} {kp k0 k1 k2 k3 k4 : Tok} : UseOf w mean mg mb 41 403 (.ref 349) [.ref t, .int p kp, .str kd.s k0, .str nm k1, .str (Str.ofString "") k2, .str nm k3, .str v0 k4] (fun news => T5 (TreeX w news t T FF) (Small T) (T.length ≤ 100) (rowOf T p = some rp) (rp.kd = .root ∨ rp.kd = .element)) (fun news C => ∀ (FF' : List Addr) (tk : Tok) (news' : Led), C (news') (fun G => TreeX w news' t (addT T p rp ⟨kd, nm, some p, [], []⟩) FF' → Kept FF FF' news news' → G) (.int (T.length : Int) tk)) :=
  useOf addchild_ok fun news news' r C hp ret => by
    obtain ⟨FF', tk, rfl, hf0, hf1⟩ := hp
    exact ⟨_, ret _ _ _, fun G h => h hf0 hf1⟩
theorem word21 : True := by
  (k_with "call ref" => ((k_here; (with_reducible show wpAny _ _ (call (Value.ref 349) _) _ _ _); k_dflt (refine' addchild_use ?kB ?kF ?kX ?kN ?kT ?kk ?pre ?k1 ?k2 ?_; (case kB => k_asm); (case kF => k_asm); (case kX => k_asm); (case kN => k_asm); (case kT => k_asm); (case kk => exact rfl); (case pre => exact ⟨by assumption, by assumption, by k_extra "om", by assumption, by assumption⟩); (case k1 => k_extra "room"); (case k2 => k_extra "room"); k_whole); intro _ _ _ _ _ _ _ _ _; (try dsimp only); (try k_fold))))
  trivial
theorem word22 : True := by
  (k_with "call ref" => ((k_here; (with_reducible show wpAny _ _ (call (Value.ref 349) _) _ _ _); k_dflt (refine' addchild_use (kd := Kd.element) ?kB ?kF ?kX ?kN ?kT ?kk ?pre ?k1 ?k2 ?_; (case kB => k_asm); (case kF => k_asm); (case kX => k_asm); (case kN => k_asm); (case kT => k_asm); (case kk => exact rfl); (case pre => exact ⟨by assumption, by assumption, by k_extra "om", by assumption, by assumption⟩); (case k1 => k_extra "room"); (case k2 => k_extra "room"); k_whole); intro _ _ _ _ _ _ _ _ _; (try dsimp only); (try k_fold))))
  trivial
noncomputable abbrev addelement_P (w : World) (t : Addr) (T : MTree) (FF : List Addr) (p : Int) (rp : MRow) (nm : Str) (kp k1 k2 k3 : Tok) (news news' : Led) (v : Value) : Prop := ∃ FF' tk, v = .int (T.length : Int) tk ∧ TreeX w news' t (addT T p rp ⟨.element, nm, some p, [], []⟩) FF' ∧ Kept FF FF' news news'
theorem addelement_ok {w : World} {mean : ExcName → Option Value} {mg mb : Str → Option Value} {t : Addr} {T : MTree} {FF : List Addr} {p : Int} {rp : MRow} {nm : Str} {kp k1 k2 k3 : Tok} :
    Says w mean mg mb (50 + 1) (500 + 3) (.ref 356) [.ref t, .int p kp, .str nm k1, .str (Str.ofString "") k2, .str nm k3] (fun news => T5 (TreeX w news t T FF) (Small T) (T.length ≤ 100) (rowOf T p = some rp) (rp.kd = .root ∨ rp.kd = .element)) (addelement_P w t T FF p rp nm kp k1 k2 k3) := by
  k_dflt (refine' says_def [(Str.ofString "self", .ref t), (Str.ofString "parent", .int p kp), (Str.ofString "name", .str nm k1), (Str.ofString "uri", .str (Str.ofString "") k2), (Str.ofString "local", .str nm k3)] ?k6 ?k7 ?k9 ?kB ?c2 ?c3 ?c4 ?c5 ?_; (case k6 => k_is); (case k7 => k_is); (case k9 => rfl); (case c5 => decide); (case kB => exact locs rfl); (case c2 => exact rfl); (case c3 => exact rfl); (case c4 => exact rfl); k_whole)
  intro dp un gd outer A₁ base g L news s B F X N TT hR hdp hu
  obtain ⟨hT, hS, hTl, hp, hkp⟩ := hR
  have hT' := hT
  obtain ⟨rl, cas, aas, vs, hff, ⟨⟨dt, tk, hi1, hi2⟩, _⟩⟩ := hT'
  ((try k_extra "gq"); k_steps; (all_goals try k_extra "uq"))
  rename_i ff' vt' nn' h' tk' F' N' htx' hkp'
  exact ⟨_, _, _, _, rfl, by k_asm, by k_asm, ff', vt', rfl, htx', hkp'⟩
theorem addelement_use {w : World} {mean : ExcName → Option Value} {mg mb : Str → Option Value} {t : Addr} {T : MTree} {FF : List Addr} {p : Int} {rp : MRow} {nm : Str} {kp k1 k2 k3 : Tok} : UseOf w mean mg mb 51 503 (.ref 356) [.ref t, .int p kp, .str nm k1, .str (Str.ofString "") k2, .str nm k3] (fun news => T5 (TreeX w news t T FF) (Small T) (T.length ≤ 100) (rowOf T p = some rp) (rp.kd = .root ∨ rp.kd = .element)) (fun news C => ∀ (FF' : List Addr) (tk : Tok) (news' : Led), C (news') (fun G => TreeX w news' t (addT T p rp ⟨.element, nm, some p, [], []⟩) FF' → Kept FF FF' news news' → G) (.int (T.length : Int) tk)) :=
  useOf addelement_ok fun news news' r C hp ret => by
    obtain ⟨FF', tk, rfl, hf0, hf1⟩ := hp
    exact ⟨_, ret _ _ _, fun G h => h hf0 hf1⟩
theorem word23 : True := by
  (k_with "call ref" => ((k_here; (with_reducible show wpAny _ _ (call (Value.ref 356) _) _ _ _); k_dflt (refine' addelement_use ?kB ?kF ?kX ?kN ?kT ?kk ?pre ?k1 ?k2 ?_; (case kB => k_asm); (case kF => k_asm); (case kX => k_asm); (case kN => k_asm); (case kT => k_asm); (case kk => exact rfl); (case pre => exact ⟨by assumption, by assumption, by k_extra "om", by assumption, by assumption⟩); (case k1 => k_extra "room"); (case k2 => k_extra "room"); k_whole); intro _ _ _ _ _ _ _ _ _; (try dsimp only); (try k_fold))))
  trivial
theorem word24 : True := by
  (k_with "call ref" => ((k_here; (with_reducible show wpAny _ _ (call (Value.ref 349) _) _ _ _); k_dflt (refine' addchild_use (kd := Kd.text) (nm := Str.ofString "") ?kB ?kF ?kX ?kN ?kT ?kk ?pre ?k1 ?k2 ?_; (case kB => k_asm); (case kF => k_asm); (case kX => k_asm); (case kN => k_asm); (case kT => k_asm); (case kk => exact rfl); (case pre => exact ⟨by assumption, by assumption, by k_extra "om", by assumption, by assumption⟩); (case k1 => k_extra "room"); (case k2 => k_extra "room"); k_whole); intro _ _ _ _ _ _ _ _ _; (try dsimp only); (try k_fold))))
  trivial
noncomputable abbrev addtext_P (w : World) (t : Addr) (T : MTree) (FF : List Addr) (p : Int) (rp : MRow) (v0 : Str) (kp k1 : Tok) (news news' : Led) (v : Value) : Prop := ∃ FF' tk, v = .int (T.length : Int) tk ∧ TreeX w news' t (addT T p rp ⟨.text, Str.ofString "", some p, [], []⟩) FF' ∧ Kept FF FF' news news'
theorem addtext_ok {w : World} {mean : ExcName → Option Value} {mg mb : Str → Option Value} {t : Addr} {T : MTree} {FF : List Addr} {p : Int} {rp : MRow} {v0 : Str} {kp k1 : Tok} :
    Says w mean mg mb (50 + 1) (500 + 3) (.ref 363) [.ref t, .int p kp, .str v0 k1] (fun news => T5 (TreeX w news t T FF) (Small T) (T.length ≤ 100) (rowOf T p = some rp) (rp.kd = .root ∨ rp.kd = .element)) (addtext_P w t T FF p rp v0 kp k1) := by
  k_dflt (refine' says_def [(Str.ofString "self", .ref t), (Str.ofString "parent", .int p kp), (Str.ofString "value", .str v0 k1)] ?k6 ?k7 ?k9 ?kB ?c2 ?c3 ?c4 ?c5 ?_; (case k6 => k_is); (case k7 => k_is); (case k9 => rfl); (case c5 => decide); (case kB => exact locs rfl); (case c2 => exact rfl); (case c3 => exact rfl); (case c4 => exact rfl); k_whole)
  intro dp un gd outer A₁ base g L news s B F X N TT hR hdp hu
  obtain ⟨hT, hS, hTl, hp, hkp⟩ := hR
  have hT' := hT
  obtain ⟨rl, cas, aas, vs, hff, ⟨⟨dt, tk, hi1, hi2⟩, _⟩⟩ := hT'
  ((try k_extra "gq"); k_steps; (all_goals try k_extra "uq"))
  rename_i ff' vt' nn' h' tk' F' N' htx' hkp'
  exact ⟨_, _, _, _, rfl, by k_asm, by k_asm, ff', vt', rfl, htx', hkp'⟩
theorem addtext_use {w : World} {mean : ExcName → Option Value} {mg mb : Str → Option Value} {t : Addr} {T : MTree} {FF : List Addr} {p : Int} {rp : MRow} {v0 : Str} {kp k1 : Tok} : UseOf w mean mg mb 51 503 (.ref 363) [.ref t, .int p kp, .str v0 k1] (fun news => T5 (TreeX w news t T FF) (Small T) (T.length ≤ 100) (rowOf T p = some rp) (rp.kd = .root ∨ rp.kd = .element)) (fun news C => ∀ (FF' : List Addr) (tk : Tok) (news' : Led), C (news') (fun G => TreeX w news' t (addT T p rp ⟨.text, Str.ofString "", some p, [], []⟩) FF' → Kept FF FF' news news' → G) (.int (T.length : Int) tk)) :=
  useOf addtext_ok fun news news' r C hp ret => by
    obtain ⟨FF', tk, rfl, hf0, hf1⟩ := hp
    exact ⟨_, ret _ _ _, fun G h => h hf0 hf1⟩
theorem word25 : True := by
  (k_with "call ref" => ((k_here; (with_reducible show wpAny _ _ (call (Value.ref 363) _) _ _ _); k_dflt (refine' addtext_use ?kB ?kF ?kX ?kN ?kT ?kk ?pre ?k1 ?k2 ?_; (case kB => k_asm); (case kF => k_asm); (case kX => k_asm); (case kN => k_asm); (case kT => k_asm); (case kk => exact rfl); (case pre => exact ⟨by assumption, by assumption, by k_extra "om", by assumption, by assumption⟩); (case k1 => k_extra "room"); (case k2 => k_extra "room"); k_whole); intro _ _ _ _ _ _ _ _ _; (try dsimp only); (try k_fold))))
  (k_with "call ref" => ((k_here; (with_reducible show wpAny _ _ (call (Value.ref 328) _) _ _ _); k_dflt (refine' newrow_use (kd := Kd.root) (par := none) (k5 := 0) ?kB ?kF ?kX ?kN ?kT ?kk ?pre ?k1 ?k2 ?_; (case kB => k_asm); (case kF => k_asm); (case kX => k_asm); (case kN => k_asm); (case kT => k_asm); (case kk => exact rfl); (case pre => exact ⟨by assumption, by simp⟩); (case k1 => k_extra "room"); (case k2 => k_extra "room"); k_whole); intro _ _ _ _ _ _ _ _ _ _ _ _ _; (try dsimp only); (try k_fold))))
  trivial
noncomputable abbrev newroot_P (w : World) (t rl : Addr) (news news' : Led) (v : Value) : Prop := ∃ FF' tk, v = .int 0 tk ∧ TreeX w news' t [⟨.root, Str.ofString "", none, [], []⟩] FF' ∧ Kept [rl] FF' news news'
theorem newroot_ok {w : World} {mean : ExcName → Option Value} {mg mb : Str → Option Value} {t rl : Addr} :
    Says w mean mg mb (30 + 1) (300 + 3) (.ref 342) [.ref t] (fun news => TreeF w news t [] rl [] [] []) (newroot_P w t rl) := by
  k_dflt (refine' says_def [(Str.ofString "self", .ref t)] ?k6 ?k7 ?k9 ?kB ?c2 ?c3 ?c4 ?c5 ?_; (case k6 => k_is); (case k7 => k_is); (case k9 => rfl); (case c5 => decide); (case kB => exact locs rfl); (case c2 => exact rfl); (case c3 => exact rfl); (case c4 => exact rfl); k_whole)
  intro dp un gd outer A₁ base g L news s B F X N TT hR hdp hu
  have hT' := hR
  obtain ⟨⟨dt, tk, hi1, hi2⟩, _⟩ := hT'
  ((try k_extra "gq"); k_steps; (all_goals try k_extra "uq"))
  rename_i x' ca' aa' vt' nn' h' tk' F' N' htf' hkb' hfc' hfa'
  exact ⟨_, _, _, _, rfl, by k_asm, by k_asm, _, vt', rfl, ⟨rl, _, _, _, rfl, htf'⟩, fun p hp hn => hkb' p hp (fun q => hn (List.mem_singleton.mpr q)), fun a ha => by
    rcases foot_mem ha with h | h | h
    · exact .inl h
    · exact .inr fun p hp => h ▸ hfc' p hp
    · exact .inr fun p hp => h ▸ hfa' p hp⟩
theorem newroot_use {w : World} {mean : ExcName → Option Value} {mg mb : Str → Option Value} {t rl : Addr} : UseOf w mean mg mb 31 303 (.ref 342) [.ref t] (fun news => TreeF w news t [] rl [] [] []) (fun news C => ∀ (FF' : List Addr) (tk : Tok) (news' : Led), C (news') (fun G => TreeX w news' t [⟨.root, Str.ofString "", none, [], []⟩] FF' → Kept [rl] FF' news news' → G) (.int 0 tk)) :=
  useOf newroot_ok fun news news' r C hp ret => by
    obtain ⟨FF', tk, rfl, hf0, hf1⟩ := hp
    exact ⟨_, ret _ _ _, fun G h => h hf0 hf1⟩
theorem word26 : True := by
  (k_with "call ref" => ((k_here; (with_reducible show wpAny _ _ (call (Value.ref 342) _) _ _ _); k_dflt (refine' newroot_use ?kB ?kF ?kX ?kN ?kT ?kk ?pre ?k1 ?k2 ?_; (case kB => k_asm); (case kF => k_asm); (case kX => k_asm); (case kN => k_asm); (case kT => k_asm); (case kk => exact rfl); (case pre => assumption); (case k1 => k_extra "room"); (case k2 => k_extra "room"); k_whole); intro _ _ _ _ _ _ _ _ _; (try dsimp only); (try k_fold))))
  trivial
noncomputable abbrev rowi_P (w : World) (t rl : Addr) (T : MTree) (cas aas : List Addr) (vs : List Value) (z : Int) (n : Tok) (r : MRow) (news news' : Led) (v : Value) : Prop := news' = news ∧ ∃ x, v = .ref x ∧ vs[z.toNat]? = some (.ref x)
theorem rowi_ok {w : World} {mean : ExcName → Option Value} {mg mb : Str → Option Value} {t rl : Addr} {T : MTree} {cas aas : List Addr} {vs : List Value} {z : Int} {n : Tok} {r : MRow} :
    Says w mean mg mb (4 + 1) (40 + 3) (.ref 335) [.ref t, .int z n] (fun news => T3 (TreeF w news t T rl cas aas vs) (rowOf T z = some r) (T.length ≤ 1000)) (rowi_P w t rl T cas aas vs z n r) := by
  k_dflt (refine' says_def [(Str.ofString "self", .ref t), (Str.ofString "node", .int z n)] ?k6 ?k7 ?k9 ?kB ?c2 ?c3 ?c4 ?c5 ?_; (case k6 => k_is); (case k7 => k_is); (case k9 => rfl); (case c5 => decide); (case kB => exact locs rfl); (case c2 => exact rfl); (case c3 => exact rfl); (case c4 => exact rfl); k_whole)
  intro dp un gd outer A₁ base g L news s B F X N TT hR hdp hu
  obtain ⟨hT, hz, hl⟩ := hR
  obtain ⟨⟨dt, tk, hi1, hi2⟩, ⟨k, hrl⟩, hlv, _, _, _, hrow⟩ := hT
  obtain ⟨hz0, hz1, hz2⟩ := rowOf_nat hz
  obtain ⟨x, ca, aa, hx, _⟩ := hrow _ _ hz1
  have hz3 : z < (T.length : Int) := by k_extra "om"
  ((try k_extra "gq"); k_steps; (all_goals try k_extra "uq"))
  k_extra "fin"
  exact ⟨_, rfl, hx⟩
theorem rowi_use {w : World} {mean : ExcName → Option Value} {mg mb : Str → Option Value} {t rl : Addr} {T : MTree} {cas aas : List Addr} {vs : List Value} {z : Int} {n : Tok} {r : MRow} : UseOf w mean mg mb 5 43 (.ref 335) [.ref t, .int z n] (fun news => T3 (TreeF w news t T rl cas aas vs) (rowOf T z = some r) (T.length ≤ 1000)) (fun news C => ∀ (x : Addr), C (news) (fun G => vs[z.toNat]? = some (.ref x) → G) (.ref x)) :=
  useOf rowi_ok fun news news' r C hp ret => by
    obtain ⟨rfl, x, rfl, hf0⟩ := hp
    exact ⟨_, ret _, fun G h => h hf0⟩
theorem word27 : True := by
  (k_with "call ref" => ((k_here; (with_reducible show wpAny _ _ (call (Value.ref 335) _) _ _ _); k_dflt (refine' rowi_use ?kB ?kF ?kX ?kN ?kT ?kk ?pre ?k1 ?k2 ?_; (case kB => k_asm); (case kF => k_asm); (case kX => k_asm); (case kN => k_asm); (case kT => k_asm); (case kk => exact rfl); (case pre => exact ⟨by assumption, by assumption, by k_extra "om"⟩); (case k1 => k_extra "room"); (case k2 => k_extra "room"); k_whole); intro _ _ _ _ _ _; (try dsimp only); (try k_fold))))
  trivial
noncomputable abbrev elrow_P (w : World) (t rl : Addr) (T : MTree) (cas aas : List Addr) (vs : List Value) (z : Int) (n : Tok) (r : MRow) (news news' : Led) (v : Value) : Prop := news' = news ∧ ∃ x, v = .ref x ∧ vs[z.toNat]? = some (.ref x)
theorem elrow_ok {w : World} {mean : ExcName → Option Value} {mg mb : Str → Option Value} {t rl : Addr} {T : MTree} {cas aas : List Addr} {vs : List Value} {z : Int} {n : Tok} {r : MRow} :
    Says w mean mg mb (10 + 1) (100 + 3) (.ref 384) [.ref t, .int z n] (fun news => T4 (TreeF w news t T rl cas aas vs) (rowOf T z = some r) (T.length ≤ 1000) (r.kd = .element)) (elrow_P w t rl T cas aas vs z n r) := by
  k_dflt (refine' says_def [(Str.ofString "self", .ref t), (Str.ofString "element", .int z n)] ?k6 ?k7 ?k9 ?kB ?c2 ?c3 ?c4 ?c5 ?_; (case k6 => k_is); (case k7 => k_is); (case k9 => rfl); (case c5 => decide); (case kB => exact locs rfl); (case c2 => exact rfl); (case c3 => exact rfl); (case c4 => exact rfl); k_whole)
  intro dp un gd outer A₁ base g L news s B F X N TT hR hdp hu
  obtain ⟨hT, hz, hl, hkd⟩ := hR
  have hT' := hT
  obtain ⟨⟨dt, tk, hi1, hi2⟩, ⟨k, hrl⟩, hlv, _, _, _, hrow⟩ := hT'
  obtain ⟨hz0, hz1, hz2⟩ := rowOf_nat hz
  obtain ⟨x, ca, aa, hx, _, _, d, na, v, t0, t1, t2, t3, t4, t5, t6, t7, t8, v0, v1, v2, v3, v4, v5, cvs, avs, j1, j2, ra, rb, rc, rd, re, rf⟩ := hrow _ _ hz1
  ((try k_extra "gq"); k_steps; (all_goals try k_extra "uq"))
  rename_i x2 h2 tk2 hx2 h3 F2 N2
  rw [hx] at hx2
  obtain rfl : x = x2 := by injection hx2 with e; injection e
  have hks : r.kd.s = Str.ofString "element" := by rw [hkd]; rfl
  ((try k_extra "gq"); k_steps; (all_goals try k_extra "uq"))
  · rename_i ha
    rw [hks] at ha
    exact absurd ha (by decide)
  · k_extra "fin"
    exact ⟨_, rfl, hx⟩
theorem elrow_use {w : World} {mean : ExcName → Option Value} {mg mb : Str → Option Value} {t rl : Addr} {T : MTree} {cas aas : List Addr} {vs : List Value} {z : Int} {n : Tok} {r : MRow} : UseOf w mean mg mb 11 103 (.ref 384) [.ref t, .int z n] (fun news => T4 (TreeF w news t T rl cas aas vs) (rowOf T z = some r) (T.length ≤ 1000) (r.kd = .element)) (fun news C => ∀ (x : Addr), C (news) (fun G => vs[z.toNat]? = some (.ref x) → G) (.ref x)) :=
  useOf elrow_ok fun news news' r C hp ret => by
    obtain ⟨rfl, x, rfl, hf0⟩ := hp
    exact ⟨_, ret _, fun G h => h hf0⟩
theorem word28 : True := by
  (k_with "call ref" => ((k_here; (with_reducible show wpAny _ _ (call (Value.ref 384) _) _ _ _); k_dflt (refine' elrow_use ?kB ?kF ?kX ?kN ?kT ?kk ?pre ?k1 ?k2 ?_; (case kB => k_asm); (case kF => k_asm); (case kX => k_asm); (case kN => k_asm); (case kT => k_asm); (case kk => exact rfl); (case pre => exact ⟨by assumption, by assumption, by k_extra "om", by assumption⟩); (case k1 => k_extra "room"); (case k2 => k_extra "room"); k_whole); intro _ _ _ _ _ _; (try dsimp only); (try k_fold))))
  trivial
theorem word29 : True := by
  (k_with "exec For" => ((k_here; k_dflt (refine wpAny_For ?_); (try k_fold))))
  (k_with "exec For Name Name cons nil" => ((k_here; k_dflt (refine wpAny_For ?_); (try k_fold))))
  (k_with "exec For Name Call cons nil" => ((k_here; k_dflt (refine wpAny_For ?_); (try k_fold))))
  (k_with "exec For Tuple Name cons nil" => ((k_here; k_dflt (refine wpAny_For ?_); (try k_fold))))
  (k_with "exec For Tuple Call cons nil" => ((k_here; k_dflt (refine wpAny_For ?_); (try k_fold))))
  (k_with "exec For Name Attribute cons nil" => ((k_here; k_dflt (refine wpAny_For ?_); (try k_fold))))
  (k_with "pyIter ref" => ((k_here; refine stop_of ?_)))
  (k_with "call ref" => ((k_here; (with_reducible show wpAny _ _ (call (Value.ref 328) _) _ _ _); k_dflt (refine' newrow_use (kd := Kd.attribute) (par := some _) ?kB ?kF ?kX ?kN ?kT ?kk ?pre ?k1 ?k2 ?_; (case kB => k_asm); (case kF => k_asm); (case kX => k_asm); (case kN => k_asm); (case kT => k_asm); (case kk => exact rfl); (case pre => exact ⟨by assumption, by k_extra "om"⟩); (case k1 => k_extra "room"); (case k2 => k_extra "room"); k_whole); intro _ _ _ _ _ _ _ _ _ _ _ _ _; (try dsimp only); (try k_fold))))
  trivial
noncomputable abbrev setattr_P (w : World) (t : Addr) (T : MTree) (FF : List Addr) (p : Int) (rp : MRow) (nm v0 : Str) (kp k1 k2 k3 k4 : Tok) (news news' : Led) (v : Value) : Prop := ∃ FF' tk, v = .int (T.length : Int) tk ∧ TreeX w news' t (addA T p rp ⟨.attribute, nm, some p, [], []⟩) FF' ∧ Kept FF FF' news news'
theorem setattr_ok {w : World} {mean : ExcName → Option Value} {mg mb : Str → Option Value} {t : Addr} {T : MTree} {FF : List Addr} {p : Int} {rp : MRow} {nm v0 : Str} {kp k1 k2 k3 k4 : Tok} :
    Says w mean mg mb (40 + 1) (400 + 3) (.ref 391) [.ref t, .int p kp, .str nm k1, .str (Str.ofString "") k2, .str nm k3, .str v0 k4] (fun news => T6 (TreeX w news t T FF) (Small T) (T.length ≤ 100) (rowOf T p = some rp) (rp.kd = .element) (∀ c ∈ rp.ats, ∃ rc, rowOf T c = some rc ∧ rc.nm ≠ nm)) (setattr_P w t T FF p rp nm v0 kp k1 k2 k3 k4) := by
  k_dflt (refine' says_def [(Str.ofString "self", .ref t), (Str.ofString "element", .int p kp), (Str.ofString "name", .str nm k1), (Str.ofString "uri", .str (Str.ofString "") k2), (Str.ofString "local", .str nm k3), (Str.ofString "value", .str v0 k4)] ?k6 ?k7 ?k9 ?kB ?c2 ?c3 ?c4 ?c5 ?_; (case k6 => k_is); (case k7 => k_is); (case k9 => rfl); (case c5 => decide); (case kB => exact locs rfl); (case c2 => exact rfl); (case c3 => exact rfl); (case c4 => exact rfl); k_whole)
  intro dp un gd outer A₁ base g L news s B F X N TT hR hdp hu
  obtain ⟨⟨rl, cas, aas, vs, rfl, hT⟩, hS, hTl, hp, hkp, hno⟩ := hR
  have hT' := hT
  obtain ⟨⟨dt, tk, hi1, hi2⟩, ⟨k, hrl⟩, hlv, _, _, _, hrow⟩ := hT'
  obtain ⟨hp0, hp1, hp2⟩ := rowOf_nat hp
  obtain ⟨x, ca, aa, hx, hca, haa, d, na, v, t0, t1, t2, t3, t4, t5, t6, t7, t8, v0', v1, v2, v3, v4, v5, cvs, avs, j1, j2, ra, rb, rc, rd, re, rf⟩ := hrow _ _ hp1
  have hal := rf.length
  have has := (hS _ _ hp1).2
  ((try k_extra "gq"); k_steps; (all_goals try k_extra "uq"))
  rename vs[p.toNat]? = some (Value.ref _) => hx2
  rw [hx] at hx2
  injection hx2 with hx2
  injection hx2 with hx2
  subst hx2
  ((try k_extra "gq"); k_steps; (all_goals try k_extra "uq"))
  let jj4 : Nat → List Value → (Str → Option Value) → Led → Prop := (fun i us' m₁ news₁ => T3 (us' = avs) (Knows m₁ [(Str.ofString "self", .ref t), (Str.ofString "element", .int p kp), (Str.ofString "name", .str nm k1), (Str.ofString "uri", .str (Str.ofString "") k2), (Str.ofString "local", .str nm k3), (Str.ofString "value", .str v0 k4), (Str.ofString "row", .ref x)]) (news₁ = news))
  refine go_on (iter_list 1000 jj4 rfl (by k_asm) (by k_asm) ⟨rfl, ⟨rfl, rfl, rfl, rfl, rfl, rfl, rfl, trivial⟩, rfl⟩ ?_ ?_ ?_)
  · rintro i us' m₁ news₁ ⟨rfl, _, rfl⟩
    exact ⟨by k_extra "om", _, rd⟩
  · rintro i us' v9 m₁ news₁ it oi h9 tk9 ⟨rfl, hK, rfl⟩ hv9 F9 N9 off9
    obtain ⟨c, tc, rfl, hc⟩ := rf.at i v9 hv9
    obtain ⟨rc9, hrc9, hne9⟩ := hno c (List.mem_of_getElem? hc)
    obtain ⟨c0, c1, c2⟩ := rowOf_nat hrc9
    obtain ⟨x9, ca9, aa9, hx9, _, _, d9, na9, v9', s0, s1, s2, s3, s4, s5, s6, s7, s8, u0, u1, u2, u3, u4, u5, cvs9, avs9, j91, j92, ra9, rb9, rc9', rd9, re9, rf9⟩ := hrow _ _ c1
    replace F9 : Fr g L h9 _ := frOver F9 hK
    replace N9 : News g L h9 _ := N9
    ((try k_extra "gq"); k_steps; (all_goals try k_extra "uq"))
    · rename (rc9.nm == nm) = true => hq9
      exact absurd (by simpa using hq9) hne9
    · exact ⟨_, _, _, _, rfl, by k_asm, by k_asm, off9, _, rfl, ⟨rfl, rfl, rfl, rfl, rfl, rfl, rfl, trivial⟩, rfl⟩
  · rintro i us' m₁ news₁ h9 tk9 ⟨rfl, hK, rfl⟩ hi1 hi2 F9 N9
    replace F9 : Fr g L h9 _ := frOver F9 hK
    replace N9 : News g L h9 _ := N9
    have hst : StopHere := trivial
    ((try k_extra "gq"); k_steps; (all_goals try k_extra "uq"))
    rename_i x' ca' aa' vt' nn' h' tk' htf hkb hfc hfa h2 F2 N2
    have hp1' := push_at (x := (⟨.attribute, nm, some p, [], []⟩ : MRow)) hp1
    have htf' := htf
    obtain ⟨⟨dt2, tk2, gi1, gi2⟩, ⟨k2, grl⟩, glv, _⟩ := htf'
    obtain ⟨x9, ca9, aa9, f1, f2, f3, hrf⟩ := htf.row _ _ hp1'
    have f1' := push_at (x := Value.ref x') hx
    rw [f1] at f1'
    injection f1' with f1'
    injection f1' with f1'
    subst f1'
    obtain ⟨d, na, v, t0, t1, t2, t3, t4, t5, t6, t7, t8, v0, v1, v2, v3, v4, v5, cvs, avs, j1, j2, ra, rb, rc, rd, re, rf⟩ := hrf
    have hcl := rf.length
    ((try k_extra "gq"); k_steps; (all_goals try k_extra "uq"))
    refine go_on (app_any (by k_asm) (by k_asm) rd (by k_extra "om") ?_)
    intro h3 nn3 F3 N3 hm3 hk3
    have T3 := htf.addat (fun1_of N2) hp1' f3 hk3 rd hm3 (rf.append (.cons (T.length : Int) vt' .nil))
    ((try k_extra "gq"); k_steps; (all_goals try k_extra "uq"))
    exact ⟨_, _, _, _, rfl, by k_asm, by k_asm, _, _, rfl, ⟨rl, _, _, _, rfl, T3⟩, kept_grow hkb hk3 (in_foot_a f3) hfc hfa⟩
noncomputable abbrev attrval_P (w : World) (t : Addr) (T : MTree) (p : Int) (rp : MRow) (nm : Str) (kp k2 k3 : Tok) (news news' : Led) (v : Value) : Prop := news' = news ∧ ((v = .none ∧ ∀ c ∈ rp.ats, ∃ rc, rowOf T c = some rc ∧ rc.nm ≠ nm) ∨ ∃ (u : Str) (tk : Tok), v = .str u tk)
theorem attrval_ok {w : World} {mean : ExcName → Option Value} {mg mb : Str → Option Value} {t : Addr} {T : MTree} {p : Int} {rp : MRow} {nm : Str} {kp k2 k3 : Tok} :
    Says w mean mg mb (20 + 1) (200 + 3) (.ref 489) [.ref t, .int p kp, .str (Str.ofString "") k2, .str nm k3] (fun news => T3 (TreeAt w news t T) (rowOf T p = some rp) (∀ c ∈ rp.ats, ∃ rc, rowOf T c = some rc)) (attrval_P w t T p rp nm kp k2 k3) := by
  k_dflt (refine' says_def [(Str.ofString "self", .ref t), (Str.ofString "element", .int p kp), (Str.ofString "uri", .str (Str.ofString "") k2), (Str.ofString "local", .str nm k3)] ?k6 ?k7 ?k9 ?kB ?c2 ?c3 ?c4 ?c5 ?_; (case k6 => k_is); (case k7 => k_is); (case k9 => rfl); (case c5 => decide); (case kB => exact locs rfl); (case c2 => exact rfl); (case c3 => exact rfl); (case c4 => exact rfl); k_whole)
  intro dp un gd outer A₁ base g L news s B F X N TT hR hdp hu
  obtain ⟨hT, hp, hat⟩ := hR
  have hT' := hT
  obtain ⟨dt, rl, tk, k, vs, h1, h2, h3, hrows, hlen⟩ := hT'
  have hvl := hrows.1
  ((try k_extra "gq"); k_steps; (all_goals try k_extra "uq"))
  rename_i avs j1 j2 h5 tk5 F5 N5 m1 m2 m3 m4 i1 i2 l1 l2 e1 e2
  let jj5 : Nat → List Value → (Str → Option Value) → Led → Prop := (fun i us' m₁ news₁ => T4 (us' = avs) (Knows m₁ [(Str.ofString "self", .ref t), (Str.ofString "uri", .str (Str.ofString "") k2), (Str.ofString "local", .str nm k3)]) (news₁ = news) (∀ c ∈ rp.ats.take i, ∃ rc, rowOf T c = some rc ∧ rc.nm ≠ nm))
  refine go_on (iter_list 1000 jj5 rfl (by k_asm) (by k_asm) ⟨rfl, ⟨rfl, rfl, rfl, trivial⟩, rfl, by simp⟩ ?_ ?_ ?_)
  · rintro i us' m₁ news₁ ⟨rfl, _, rfl, _⟩
    exact ⟨by k_extra "om", _, m4⟩
  · rintro i us' v9 m₁ news₁ it oi h9 tk9 ⟨rfl, hK, rfl, hall⟩ hv9 F9 N9 off9
    obtain ⟨c, tc, rfl, hc⟩ := i2.at i v9 hv9
    obtain ⟨rc, hrc⟩ := hat c (List.mem_of_getElem? hc)
    obtain ⟨c0, c1, x9, hx9, hrow9⟩ := TreeAt.row hrows hrc
    obtain ⟨d9, ca9, aa9, na9, v9', s0, s1, s2, s3, s4, s5, s6, s7, s8, u0, u1, u2, u3, u4, u5, cvs9, avs9, j91, j92, ra9, rb9, rc9', rd9, re9, rf9⟩ := hrow9
    replace F9 : Fr g L h9 _ := frOver F9 hK
    replace N9 : News g L h9 _ := N9
    ((try k_extra "gq"); k_steps; (all_goals try k_extra "uq"))
    · k_extra "fin"
      exact .inr ⟨_, _, rfl⟩
    · rename (rc.nm == nm) = false => hq9
      exact ⟨_, _, _, _, rfl, by k_asm, by k_asm, off9, _, rfl, ⟨rfl, rfl, rfl, trivial⟩, rfl, take_next hc hall ⟨rc, hrc, by simpa using hq9⟩⟩
  · rintro i us' m₁ news₁ h9 tk9 ⟨rfl, hK, rfl, hall⟩ hi1 hi2 F9 N9
    replace F9 : Fr g L h9 _ := frOver F9 hK
    replace N9 : News g L h9 _ := N9
    have hall' := take_le (by k_extra "om") hall
    ((try k_extra "gq"); k_steps; (all_goals try k_extra "uq"))
    k_extra "fin"
    exact .inl ⟨rfl, hall'⟩
theorem word30 : True := by
  (k_with "call ref" => ((k_here; (with_reducible show wpAny _ _ (call (Value.ref 492) _) _ _ _); refine stop_of ?_)))
  (k_with "call ref" => ((k_here; (with_reducible show wpAny _ _ (call (Value.ref 342) _) _ _ _); refine stop_of ?_)))
  (k_with "call ref" => ((k_here; (with_reducible show wpAny _ _ (call (Value.ref 356) _) _ _ _); refine stop_of ?_)))
  (k_with "call ref" => ((k_here; (with_reducible show wpAny _ _ (call (Value.ref 363) _) _ _ _); refine stop_of ?_)))
  (k_with "call ref" => ((k_here; (with_reducible show wpAny _ _ (call (Value.ref 391) _) _ _ _); refine stop_of ?_)))
  (k_with "call ref" => ((k_here; (with_reducible show wpAny _ _ (call (Value.ref 489) _) _ _ _); refine stop_of ?_)))
  (k_with "call ref" => ((k_here; (with_reducible show wpAny _ _ (call (Value.ref 578) _) _ _ _); refine stop_of ?_)))
  (k_with "call ref" => ((k_here; (with_reducible show wpAny _ _ (call (Value.ref 571) _) _ _ _); refine stop_of ?_)))
  (k_with "call type:range" => ((k_here; refine stop_of ?_)))
  (k_with "ite" => ((k_dflt (refine' ite_neg ?h ?_; (case h => exact nt_of (by assumption))))))
  trivial
noncomputable abbrev document_P (w : World) (sl : Addr) (news news' : Led) (v : Value) : Prop := ∃ (D t pl nl : Addr) (tk : Tok) (k : Nat) (T : MTree) (FF : List Addr) (Ps : List Int), v = .ref D ∧ (D, tupOf #[.ref t, .int 0 tk, .ref nl] k) ∈ news' ∧ DocAt w news news' sl t pl nl T FF Ps T.length ∧ DocT T Ps
theorem document_ok {w : World} {mean : ExcName → Option Value} {mg mb : Str → Option Value} {sl : Addr} :
    Says w mean mg mb (80 + 1) (900 + 3) (.ref 585) [.ref sl] (fun news => Src news sl) (document_P w sl) := by
  k_dflt (refine' says_def [(Str.ofString "source", .ref sl)] ?k6 ?k7 ?k9 ?kB ?c2 ?c3 ?c4 ?c5 ?_; (case k6 => k_is); (case k7 => k_is); (case k9 => rfl); (case c5 => decide); (case kB => exact locs rfl); (case c2 => exact rfl); (case c3 => exact rfl); (case c4 => exact rfl); k_whole)
  intro dp un gd outer A₁ base g L news s B F X N TT hR hdp hu
  have hst : StopHere := trivial
  ((try k_extra "gq"); k_steps; (all_goals try k_extra "uq"))
  refine go_on (treenew_use (by k_asm) (by k_asm) (by k_asm) (by k_asm) (by k_asm) (by exact rfl) trivial (by k_extra "room") (by k_extra "room") ?_)
  intro t rl nn1 h1 tk1 F1 N1 htf hs1 hfr
  obtain ⟨dt, tkd, hi1, hi2⟩ := htf.inst
  ((try k_extra "gq"); k_steps; (all_goals try k_extra "uq"))
  refine go_on (newroot_use (by k_asm) (by k_asm) (by k_asm) (by k_asm) (by k_asm) (by exact rfl) htf (by k_extra "room") (by k_extra "room") ?_)
  intro FF1 tk0 nn2 h2 tk2 F2 N2 htx1 hkp1
  obtain ⟨dt2, tkd2, rl2, hj1, hj2⟩ := htx1.inst
  ((try k_extra "gq"); k_steps; (all_goals try k_extra "uq"))
  refine go_on (addelement_use (by k_asm) (by k_asm) (by k_asm) (by k_asm) (by k_asm) (by exact rfl) ⟨htx1, wf_root.small, by decide, rfl, .inl rfl⟩ (by k_extra "room") (by k_extra "room") ?_)
  intro FF2 tk3 nn3 h3 tk3' F3 N3 htx2 hkp2
  clear hst
  ((try k_extra "gq"); k_steps; (all_goals try k_extra "uq"))
  rename_i pl ha1 lp nl ha2 ln D3 ha3 lD ha4 ha5 ha6 tks t1 h4 F4 N4
  obtain ⟨T2, hl2, dT, d⟩ := doc_start hR hs1 hfr hkp1 hkp2 htx2 lp ln (.tail _ (.tail _ (.head _))) (.tail _ (.head _)) (fun _ h => .tail _ (.tail _ (.tail _ h)))
  refine go_on (take_use (by k_asm) (by k_asm) (by k_asm) (by k_asm) (by k_asm) (by exact rfl) ⟨d.src, by decide, by decide⟩ (by k_extra "room") (by k_extra "room") ?_)
  intro r4 tk4 nn4 h5 tk5 F5 N5 hr0 hr1 hsr hkb
  have d2 := d.draw (fun1_of N4) hsr hkb
  ((try k_extra "gq"); k_steps; (all_goals try k_extra "uq"))
  let jj6 : Nat → (Str → Option Value) → Led → Prop := (fun i m₁ news₁ => X3 (fun (T : MTree) (FF : List Addr) (Ps : List Int) => T4 (Knows m₁ [(Str.ofString "source", .ref sl), (Str.ofString "tree", .ref t), (Str.ofString "root", .int 0 tk0), (Str.ofString "parents", .ref pl), (Str.ofString "nodes", .ref nl)]) (DocAt w news news₁ sl t pl nl T FF Ps T.length) (DocT T Ps) (T.length ≤ i + 2)))
  refine go_on (iter_range (n := (1 + r4).toNat) jj6
    rfl rfl rfl (by k_extra "om") (by k_extra "om") (by k_asm) (by k_asm) ⟨T2, FF2, [1], ⟨rfl, rfl, rfl, rfl, rfl, trivial⟩, d2, dT, by k_extra "om"⟩ ?_ ?_)
  · clear d2 dT hl2 d T2 hsr hkb htx2 htx1 hkp1 hkp2 htf
    rintro i m₁ news₁ it oi h tk t9 hi hoc ⟨T, FF, Ps, hK, d, q, hTl⟩ F9 N9 off9
    have hit0 : ∀ p ∈ news, @Ne Nat p.1 sl → @Ne Nat p.1 it := fun p hp hn => off9 p (d.out p hp hn)
    have hitF := d.tree.apart off9
    have hitS : @Ne Nat it sl := by
      obtain ⟨_, _, _, _, _, hsl, _⟩ := d.src
      exact Ne.symm (off9 _ hsl)
    have d0 := d
    replace d := d.mono (news' := (it, oi) :: news₁) fun _ h => .tail _ h
    replace F9 : Fr g L h _ := frOver F9 (knows_upd hK rfl)
    replace N9 : News g L h _ := N9
    have hst : StopHere := trivial
    have hitp : @Ne Nat it pl ∧ @Ne Nat it nl := by
      obtain ⟨_, _, hq1, _⟩ := d0.pars
      obtain ⟨_, _, hq2, _⟩ := d0.nods
      exact ⟨Ne.symm (off9 _ hq1), Ne.symm (off9 _ hq2)⟩
    clear d0
    have hqle := q.le
    obtain ⟨pvs, kp, hpm, hpi⟩ := d.pars
    have hpl := hpi.length
    have hqne := q.ne
    ((try k_extra "gq"); k_steps; (all_goals try k_extra "uq"))
    refine go_on (one_use (by k_asm) (by k_asm) (by k_asm) (by k_asm) (by k_asm) (by exact rfl) ⟨d.src, hpm, d.ps, by k_extra "om", by k_extra "om"⟩ (by k_extra "room") (by k_extra "room") ?_)
    intro x5 j5 nn5 h5 tk5 F5 N5 hx5 hsr5 hkb5
    obtain ⟨p, tp, rfl, hp⟩ := hpi.at j5 x5 hx5
    obtain ⟨rp, hrp, hrk⟩ := q.el p (List.mem_of_getElem? hp)
    have d5 := d.draw (fun1_of N9) hsr5 hkb5
    have hit5 := hkb5 _ (.head _) hitS
    clear hpm hkb5
    ((try k_extra "gq"); k_steps; (all_goals try k_extra "uq"))
    rename_i wl hA FA NA lw
    refine go_on (one_use (by k_asm) (by k_asm) (by k_asm) (by k_asm) (by k_asm) (by exact rfl) ⟨d5.src.mono mem_tail', .head _, d5.src.ne lw, by simp, by simp⟩ (by k_extra "room") (by k_extra "room") ?_)
    intro x6 j6 nn6 h6 tk6 F6 N6 hx6 hsr6 hkb6
    have d6 := (d5.mono (news' := (wl, _) :: nn5) mem_tail').draw (fun1_of NA) hsr6 hkb6
    have hit6 := hkb6 _ (.tail _ hit5) hitS
    clear hkb6 d5 hit5 hsr5 hsr6 d
    obtain ⟨dtt, tkt, rlt, hin1, hin2⟩ := d6.tree.inst
    have hw : (∃ (wd : Str) (tw : Tok), x6 = .str wd tw ∧ (wd == Str.ofString "text") = false ∧ (wd == Str.ofString "at") = false) ∨ (∃ tw, x6 = .str (Str.ofString "text") tw) ∨ ∃ tw, x6 = .str (Str.ofString "at") tw := by
      rcases pick_five hx6 with rfl | rfl | rfl | rfl | rfl
      · exact .inl ⟨_, _, rfl, by decide, by decide⟩
      · exact .inl ⟨_, _, rfl, by decide, by decide⟩
      · exact .inl ⟨_, _, rfl, by decide, by decide⟩
      · exact .inr (.inl ⟨_, rfl⟩)
      · exact .inr (.inr ⟨_, rfl⟩)
    clear hx6
    rcases hw with ⟨wd, tw, rfl, hw1, hw2⟩ | ⟨tw, rfl⟩ | ⟨tw, rfl⟩
    · ((try k_extra "gq"); k_steps; (all_goals try k_extra "uq"))
      refine go_on (addelement_use (nm := wd) (by k_asm) (by k_asm) (by k_asm) (by k_asm) (by k_asm) (by exact rfl) ⟨(d6.mono mem_tail').tree, q.wf.small, by k_extra "om", hrp, .inr hrk⟩ (by k_extra "room") (by k_extra "room") ?_)
      intro FF7 tk7 nn7 h7 tk7' F7 N7 htx7 hkp7
      have d7 := (d6.mono mem_tail').grow htx7 hkp7
      have q7 := q.elem (nm := wd) hrp (.inr hrk) (by k_extra "om")
      have hit7 := (hkp7.out (.tail _ hit6) hitF).1
      obtain ⟨pv7, kp7, hpm7, hpi7⟩ := d7.pars
      have hpl7 := hpi7.length
      ((try k_extra "gq"); k_steps; (all_goals try k_extra "uq"))
      refine go_on (app_any (by k_asm) (by k_asm) hpm7 (by k_extra "om") ?_)
      intro h8 nn8 F8 N8 hm8 hk8
      have d8 := d7.appP (fun1_of ‹News g L _ nn7›) hm8 hpi7 hk8
      have hit8 := hk8 _ hit7 hitp.1
      obtain ⟨nv8, kn8, hnm8, hni8⟩ := d8.nods
      have hnl8 := hni8.length
      rw [upto_len] at hnl8
      ((try k_extra "gq"); k_steps; (all_goals try k_extra "uq"))
      refine go_on (app_any (by k_asm) (by k_asm) hnm8 (by k_extra "om") ?_)
      intro h9 nn9 F9 N9 hm9 hk9
      have d9 := d8.appN (fun1_of ‹News g L _ nn8›) hm9 hni8 hk9
      obtain ⟨nwE, NE, offE, dE⟩ := d9.leave N9 (hk9 _ hit8 hitp.2) hoc hit0
      ((try k_extra "gq"); k_steps; (all_goals try k_extra "uq"))
      exact ⟨_, nwE, _, _, rfl, by k_asm, NE, offE, _, FF7, _, ⟨rfl, rfl, rfl, rfl, rfl, trivial⟩, by rw [len_addT]; exact dE, q7, by rw [len_addT]; k_extra "om"⟩
    · ((try k_extra "gq"); k_steps; (all_goals try k_extra "uq"))
      refine go_on (addtext_use (by k_asm) (by k_asm) (by k_asm) (by k_asm) (by k_asm) (by exact rfl) ⟨(d6.mono mem_tail').tree, q.wf.small, by k_extra "om", hrp, .inr hrk⟩ (by k_extra "room") (by k_extra "room") ?_)
      intro FF7 tk7 nn7 h7 tk7' F8 N8 htx7 hkp7
      have d8 := (d6.mono mem_tail').grow htx7 hkp7
      have q7 := q.text (kd := .text) (nm := Str.ofString "") hrp (.inr hrk) (fun h => nomatch h) (fun h => nomatch h) (by k_extra "om")
      have hit8 := (hkp7.out (.tail _ hit6) hitF).1
      obtain ⟨nv8, kn8, hnm8, hni8⟩ := d8.nods
      have hnl8 := hni8.length
      rw [upto_len] at hnl8
      ((try k_extra "gq"); k_steps; (all_goals try k_extra "uq"))
      refine go_on (app_any (by k_asm) (by k_asm) hnm8 (by k_extra "om") ?_)
      intro h9 nn9 F9 N9 hm9 hk9
      have d9 := d8.appN (fun1_of ‹News g L _ nn7›) hm9 hni8 hk9
      obtain ⟨nwE, NE, offE, dE⟩ := d9.leave N9 (hk9 _ hit8 hitp.2) hoc hit0
      ((try k_extra "gq"); k_steps; (all_goals try k_extra "uq"))
      exact ⟨_, nwE, _, _, rfl, by k_asm, NE, offE, _, FF7, _, ⟨rfl, rfl, rfl, rfl, rfl, trivial⟩, by rw [len_addT]; exact dE, q7, by rw [len_addT]; k_extra "om"⟩
    · ((try k_extra "gq"); k_steps; (all_goals try k_extra "uq"))
      rename_i wl2 hA2 FA2 NA2 lw2
      refine go_on (one_use (by k_asm) (by k_asm) (by k_asm) (by k_asm) (by k_asm) (by exact rfl) ⟨d6.src.mono mem_tail2, .head _, d6.src.ne (of_allLt lw2.2), by simp, by simp⟩ (by k_extra "room") (by k_extra "room") ?_)
      intro x7 j7 nn7 h7 tk7 F7 N7 hx7 hsr7 hkb7
      have d7 := (d6.mono mem_tail2).draw (fun1_of NA2) hsr7 hkb7
      have hit7 := hkb7 _ (.tail _ (.tail _ hit6)) hitS
      clear hkb7 d6 hit6 hsr7
      obtain ⟨dtt, tkt, rlt, hin1, hin2⟩ := d7.tree.inst
      obtain ⟨nm, tn, rfl⟩ : ∃ (nm : Str) (tn : Tok), x7 = .str nm tn := by
        rcases pick_two hx7 with rfl | rfl
        · exact ⟨_, _, rfl⟩
        · exact ⟨_, _, rfl⟩
      · ((try k_extra "gq"); k_steps; (all_goals try k_extra "uq"))
        refine go_on (says_use attrval_ok (by k_asm) (by k_asm) (by k_asm) (by k_asm) (by k_asm) (by exact rfl) ⟨d7.tree.at q.wf.small (by k_extra "om"), hrp, fun c hc => let ⟨_, rc, e, _⟩ := q.wf.ats _ _ hrp c hc; ⟨rc, e⟩⟩ (by k_extra "room") (by k_extra "room") ?_)
        rintro r8 nn8 h8 tk8 F8 N8 ⟨rfl, ⟨rfl, hno⟩ | ⟨u8, tku8, rfl⟩⟩
        · ((try k_extra "gq"); k_steps; (all_goals try k_extra "uq"))
          refine go_on (says_use setattr_ok (by k_asm) (by k_asm) (by k_asm) (by k_asm) (by k_asm) (by exact rfl) ⟨d7.tree, q.wf.small, by k_extra "om", hrp, hrk, hno⟩ (by k_extra "room") (by k_extra "room") ?_)
          rintro r7 nn7 h7 tk7' F8 N8 ⟨FF7, tk7, rfl, htx7, hkp7⟩
          have d8 := d7.grow htx7 hkp7
          have q7 := q.attr (nm := nm) hrp hrk (by k_extra "om")
          have hit8 := (hkp7.out hit7 hitF).1
          obtain ⟨nv8, kn8, hnm8, hni8⟩ := d8.nods
          have hnl8 := hni8.length
          rw [upto_len] at hnl8
          ((try k_extra "gq"); k_steps; (all_goals try k_extra "uq"))
          refine go_on (app_any (by k_asm) (by k_asm) hnm8 (by k_extra "om") ?_)
          intro h9 nn9 F9 N9 hm9 hk9
          have d9 := d8.appN (fun1_of ‹News g L _ nn7›) hm9 hni8 hk9
          obtain ⟨nwE, NE, offE, dE⟩ := d9.leave N9 (hk9 _ hit8 hitp.2) hoc hit0
          ((try k_extra "gq"); k_steps; (all_goals try k_extra "uq"))
          exact ⟨_, nwE, _, _, rfl, by k_asm, NE, offE, _, FF7, _, ⟨rfl, rfl, rfl, rfl, rfl, trivial⟩, by rw [len_addA]; exact dE, q7, by rw [len_addA]; k_extra "om"⟩
        · obtain ⟨nwE, NE, offE, dE⟩ := d7.leave N8 hit7 hoc hit0
          ((try k_extra "gq"); k_steps; (all_goals try k_extra "uq"))
          exact ⟨_, nwE, _, _, rfl, by k_asm, NE, offE, _, FF, _, ⟨rfl, rfl, rfl, rfl, rfl, trivial⟩, dE, q, by k_extra "om"⟩
  · rintro m₁ news₁ h tk ⟨T, FF, Ps, hK, d, q, hTl⟩ F9 N9
    replace F9 : Fr g L h _ := frOver F9 hK
    replace N9 : News g L h _ := N9
    ((try k_extra "gq"); k_steps; (all_goals try k_extra "uq"))
    exact ⟨_, _, _, _, rfl, by k_asm, by k_asm, _, t, pl, nl, _, _, T, FF, Ps, rfl, .head _, d.mono fun _ h => .tail _ h, q⟩
theorem word31 : True := by
  k_with_none
  (k_with "gq" => (((with_reducible first | refine' genq (D := DoneF _ _ _ _) ?_ | refine' genq (D := TurnEnd _ _ _ _ _ _) ?_ | refine' genq (D := TurnEnd2 _ _ _ _ _ _ _) ?_ | refine' genq (D := WEnd _ _ _ _ _) ?_ | refine' genq (D := Mid _ _ _ _) ?_ | refine' genq (D := CEnd _ _ _ _ _ _ _ _ _ _ _) ?_ | refine' genq (D := CEnd2 _ _ _ _ _ _ _ _ _ _ _) ?_); intro _ _)))
  (k_with "uq" => (first | (refine' unq ?u9 ?_; (case u9 => with_reducible assumption)) | (refine' unqv ?u9 ?_; (case u9 => with_reducible assumption))))
  (k_with "lts" => (first | exact Nat.le.refl | (refine Nat.le.step ?_; k_extra "lts")))
  (k_with "cj" => (first | assumption | (refine' And.left ?a9; (case a9 => assumption)) | (refine' And.left (And.right ?a9); (case a9 => assumption)) | (refine' And.left (And.right (And.right ?a9)); (case a9 => assumption)) | (refine' And.left (And.right (And.right (And.right ?a9))); (case a9 => assumption)) | (refine' And.left (And.right (And.right (And.right (And.right ?a9)))); (case a9 => assumption)) | (refine' And.left (And.right (And.right (And.right (And.right (And.right ?a9))))); (case a9 => assumption)) | (refine' And.left (And.right (And.right (And.right (And.right (And.right (And.right ?a9)))))); (case a9 => assumption)) | (refine' And.left (And.right (And.right (And.right (And.right (And.right (And.right (And.right ?a9))))))); (case a9 => assumption)) | (refine' And.left (And.right (And.right (And.right (And.right (And.right (And.right (And.right (And.right ?a9)))))))); (case a9 => assumption)) | (refine' And.left (And.right (And.right (And.right (And.right (And.right (And.right (And.right (And.right (And.right ?a9))))))))); (case a9 => assumption)) | (refine' And.left (And.right (And.right (And.right (And.right (And.right (And.right (And.right (And.right (And.right (And.right ?a9)))))))))); (case a9 => assumption)) | (refine' And.left (And.right (And.right (And.right (And.right (And.right (And.right (And.right (And.right (And.right (And.right (And.right ?a9))))))))))); (case a9 => assumption))))
  (k_with "ne9" => (first | assumption | exact Ne.symm (by assumption) | (refine' Nat.ne_of_lt ?a8; (case a8 => first | assumption | k_extra "lts" | k_extra "cj" | (refine' Nat.lt_of_le_of_lt ?b9 ?c9; (case c9 => assumption); (case b9 => k_extra "lts")))) | (refine' Nat.ne_of_gt ?a8; (case a8 => first | assumption | k_extra "lts" | k_extra "cj" | (refine' Nat.lt_of_le_of_lt ?b9 ?c9; (case c9 => assumption); (case b9 => k_extra "lts")))) | ((try dsimp only); (repeat (rename @Ne Nat _ _ => q9; clear q9)); omega) | ((try dsimp only); omega)))
  (k_with "om" => (first | with_reducible assumption | (refine neN ?_; k_extra "ne9") | (refine' Nat.le_trans ?a9 ?b9; (case a9 => assumption); (case b9 => exact Nat.le_of_ble_eq_true rfl)) | (refine' le_eq_le ?a9 ?b9 ?c9; (case a9 => assumption); (case b9 => assumption); (case c9 => exact Nat.le_of_ble_eq_true rfl)) | (refine ltN ?_; k_extra "cj") | ((repeat (rename @Ne Nat _ _ => q9; clear q9)); omega) | omega))
  (k_with "room" => (first | (refine' room_of ?a9 ?b9; (case a9 => assumption); (case b9 => exact Nat.le_of_ble_eq_true rfl)) | omega))
  (k_with "call builtin:list.append" => ((k_here; (with_reducible show wpAny _ _ (call (Value.builtin "list.append") [Value.ref _, _]) _ _ _); k_dflt (refine' my_append ?k1 ?k2 ?k3 ?k4 ?_; (case k1 => k_asm); (case k2 => k_asm); (case k3 => k_upd); (case k4 => k_extra "om"); k_whole); intro _ _ _; (try k_sweep))))
  (k_with "memF" => (first | exact mem_head | with_reducible assumption | (refine' mem_tail ?_; k_extra "memF")))
  (k_with "memS" => (first | exact mem_head | assumption | (refine' mem_tail ?_; k_extra "memS")))
  (k_with "call type:list" => ((k_here; (with_reducible show wpAny _ _ (call (Value.type "list") [Value.ref _]) _ _ _); k_dflt (refine' my_listcopy ?k0 ?k1 ?k2 ?k3 ?_; (case k0 => k_asm); (case k1 => k_asm); (case k2 => k_mem); (case k3 => k_extra "om"); k_whole); intro _ _ _ _ _ _)))
  (k_with "call builtin:len" => ((k_here; (with_reducible show wpAny _ _ (call (Value.builtin "len") [Value.ref _]) _ _ _); k_dflt (refine' my_len ?k1 ?k2 ?k3 ?_; (case k1 => k_asm); (case k2 => k_mem); (case k3 => k_extra "om"); k_whole))))
  (k_with "subscriptTail" => ((k_here; (with_reducible show wpAny _ _ (subscriptTail _ _ (Value.ref _) (Value.int _ _)) _ _ _); k_dflt (refine' my_item ?k1 ?k2 ?k3 ?k4 ?k5 ?_; (case k1 => k_asm); (case k2 => k_mem); (case k3 => k_extra "om"); (case k4 => k_extra "om"); (case k5 => first | with_reducible assumption | rfl); k_whole))))
  (k_with "sub" => (first | with_reducible exact fun _ h => h | (refine' sub_cons ?m ?_; (case m => k_mem); k_extra "sub") | (refine sub_tail ?_; k_extra "sub")))
  (k_with "fin" => (((try k_extra "uq"); (try dsimp only [WEnd, TurnEnd, TurnEnd2]); (try k_extra "uq"); refine' fin_same ?F ?N ?S (And.intro rfl ?_); (case F => k_asm); (case N => k_asm); (case S => k_extra "sub"))))
  (k_with "bools" => (simp only [fitSr, axS_attr, *, Bool.or_true, Bool.true_or, Bool.not_true, Bool.false_and, Bool.and_false, Bool.not_false, Bool.true_and, Bool.and_true, Bool.or_self, Bool.or_false, Bool.false_or, Bool.and_self, Option.isNone_none, Option.isNone_some, beq_self_eq_true]))
  (k_with "finL" => (((try k_extra "uq"); refine' fin_new ?F ?N ?M ?S ⟨_, _, _, rfl, rfl, ?_, ?_⟩; (case F => k_asm); (case N => k_asm); (case M => k_mem); (case S => k_extra "sub"))))
  (k_with "tree" => (first | with_reducible assumption | (refine' TreeAt.mono ?h ?s; (case h => assumption); (case s => k_extra "sub"))))
  (k_with "call ref" => ((k_here; (with_reducible show wpAny _ _ (call (Value.ref 335) _) _ _ _); k_dflt (refine' row_use ?kB ?kF ?kX ?kN ?kT ?kk ?pre ?k1 ?k2 ?_; (case kB => k_asm); (case kF => k_asm); (case kX => k_asm); (case kN => k_asm); (case kT => k_asm); (case kk => exact rfl); (case pre => exact ⟨by k_extra "tree", by assumption⟩); (case k1 => k_extra "room"); (case k2 => k_extra "room"); k_whole); intro _ _ _ _ _ _ _ _ _ _ _ _ _ _ _ _ _ _ _ _ _ _ _ _ _ _ _ _ _ _ _ _ _ _ _ _ _ _ _; (try dsimp only); (try k_fold))))
  (k_with "call ref" => ((k_here; (with_reducible show wpAny _ _ (call (Value.ref 447) _) _ _ _); k_dflt (refine' parent_use ?kB ?kF ?kX ?kN ?kT ?kk ?pre ?k1 ?k2 ?_; (case kB => k_asm); (case kF => k_asm); (case kX => k_asm); (case kN => k_asm); (case kT => k_asm); (case kk => exact rfl); (case pre => exact ⟨by k_extra "tree", by assumption⟩); (case k1 => k_extra "room"); (case k2 => k_extra "room"); k_whole); intro _ _ _ _ _; (try dsimp only); (try k_fold))))
  (k_with "call ref" => ((k_here; (with_reducible show wpAny _ _ (call (Value.ref 412) _) _ _ _); k_dflt (refine' kind_use ?kB ?kF ?kX ?kN ?kT ?kk ?pre ?k1 ?k2 ?_; (case kB => k_asm); (case kF => k_asm); (case kX => k_asm); (case kN => k_asm); (case kT => k_asm); (case kk => exact rfl); (case pre => exact ⟨by k_extra "tree", by assumption⟩); (case k1 => k_extra "room"); (case k2 => k_extra "room"); k_whole); intro _ _ _ _ _; (try dsimp only); (try k_fold))))
  (k_with "call ref" => ((k_here; (with_reducible show wpAny _ _ (call (Value.ref 419) _) _ _ _); k_dflt (refine' name_use ?kB ?kF ?kX ?kN ?kT ?kk ?pre ?k1 ?k2 ?_; (case kB => k_asm); (case kF => k_asm); (case kX => k_asm); (case kN => k_asm); (case kT => k_asm); (case kk => exact rfl); (case pre => exact ⟨by k_extra "tree", by assumption⟩); (case k1 => k_extra "room"); (case k2 => k_extra "room"); k_whole); intro _ _ _ _ _; (try dsimp only); (try k_fold))))
  (k_with "call ref" => ((k_here; (with_reducible show wpAny _ _ (call (Value.ref 433) _) _ _ _); k_dflt (refine' local_use ?kB ?kF ?kX ?kN ?kT ?kk ?pre ?k1 ?k2 ?_; (case kB => k_asm); (case kF => k_asm); (case kX => k_asm); (case kN => k_asm); (case kT => k_asm); (case kk => exact rfl); (case pre => exact ⟨by k_extra "tree", by assumption⟩); (case k1 => k_extra "room"); (case k2 => k_extra "room"); k_whole); intro _ _ _ _ _; (try dsimp only); (try k_fold))))
  (k_with "call ref" => ((k_here; (with_reducible show wpAny _ _ (call (Value.ref 426) _) _ _ _); k_dflt (refine' uri_use ?kB ?kF ?kX ?kN ?kT ?kk ?pre ?k1 ?k2 ?_; (case kB => k_asm); (case kF => k_asm); (case kX => k_asm); (case kN => k_asm); (case kT => k_asm); (case kk => exact rfl); (case pre => exact ⟨by k_extra "tree", by assumption⟩); (case k1 => k_extra "room"); (case k2 => k_extra "room"); k_whole); intro _ _ _ _ _; (try dsimp only); (try k_fold))))
  (k_with "call ref" => ((k_here; (with_reducible show wpAny _ _ (call (Value.ref 447) _) _ _ _); k_dflt (refine' parent_two ?kB ?kF ?kX ?kN ?kT ?kk ?pre ?k1 ?k2 ?_ ?_; (case kB => k_asm); (case kF => k_asm); (case kX => k_asm); (case kN => k_asm); (case kT => k_asm); (case kk => exact rfl); (case pre => exact ⟨by k_extra "tree", by assumption⟩); (case k1 => k_extra "room"); (case k2 => k_extra "room")); (first | (intro _ _ _ _ _; (try dsimp only); (try k_fold)) | skip); (rotate_left; (intro _ _ _ _ _ _ _; (try dsimp only); (try k_fold)); rotate_left))))
  (k_with "call ref" => ((k_here; (with_reducible show wpAny _ _ (call (Value.ref 454) _) _ _ _); k_dflt (refine' children_use ?kB ?kF ?kX ?kN ?kT ?kk ?pre ?k1 ?k2 ?_; (case kB => k_asm); (case kF => k_asm); (case kX => k_asm); (case kN => k_asm); (case kT => k_asm); (case kk => exact rfl); (case pre => exact ⟨by k_extra "tree", by assumption⟩); (case k1 => k_extra "room"); (case k2 => k_extra "room"); k_whole); intro _ _ _ _ _ _ _ _ _ _ _; (try dsimp only); (try k_fold))))
  (k_with "call ref" => ((k_here; (with_reducible show wpAny _ _ (call (Value.ref 461) _) _ _ _); k_dflt (refine' attributes_use ?kB ?kF ?kX ?kN ?kT ?kk ?pre ?k1 ?k2 ?_; (case kB => k_asm); (case kF => k_asm); (case kX => k_asm); (case kN => k_asm); (case kT => k_asm); (case kk => exact rfl); (case pre => exact ⟨by k_extra "tree", by assumption⟩); (case k1 => k_extra "room"); (case k2 => k_extra "room"); k_whole); intro _ _ _ _ _ _ _ _ _ _ _; (try dsimp only); (try k_fold))))
  trivial
theorem word32 : True := by
  (k_with "nsub" => ((refine' news_sub ?N ?S; (case N => k_asm); (case S => k_extra "sub"))))
  trivial
inductive numnew_P (w : World) (q : Addr) (news news' : Led) (v : Value) : Prop
  | mk : ∀ (x dx : Addr) (o : Obj), (news' = (x, instObj 525 dx) :: (dx, o) :: news) → (v = .ref x) → ((∃ t0 : Tok, o = dictOf [⟨PyData.keyHash w.params (Str.ofString "value"), .str (Str.ofString "value") t0, .ref q⟩] 1)) → ((∀ p ∈ news, @LT.lt Nat _ p.1 dx)) → (@LT.lt Nat _ dx x) → numnew_P w q news news' v
theorem numnew_ok {w : World} {mean : ExcName → Option Value} {mg mb : Str → Option Value} {q : Addr} :
    Says w mean mg mb (10 + 2) (100 + 10) (.ref 525) [.ref q] (fun news => True) (numnew_P w q) := by
  k_dflt (refine' says_cls (fun x => [(Str.ofString "self", .ref x), (Str.ofString "value", .ref q)]) ?k3 ?k4 ?k5 ?k6 ?k7 ?k9 ?kB ?c2 ?c3 ?c4 ?c5 ?_; (case k3 => k_is); (case k4 => k_is); (case k5 => k_is); (case k6 => k_is); (case k7 => k_is); (case k9 => intro _; rfl); (case c5 => decide); (case kB => intro _; exact locs rfl); (case c2 => exact rfl); (case c3 => exact rfl); (case c4 => exact rfl); k_whole)
  intro dp un gd outer A₁ base g L news x dx s B F X N l1 l2 TT hR hdp hu
  replace l1 := allLt_of l1
  replace l2 : @LT.lt Nat _ dx x := l2
  ((try k_extra "gq"); k_steps; (all_goals try k_extra "uq"))
  exact ⟨_, (x, instObj 525 dx) :: (dx, _) :: news, _, _, rfl, by k_asm, by k_asm, rfl, x, dx, _, rfl, rfl, ⟨_, rfl⟩, of_allLt l1, l2⟩
theorem numnew_use {w : World} {mean : ExcName → Option Value} {mg mb : Str → Option Value} {q : Addr} : UseOf w mean mg mb 12 110 (.ref 525) [.ref q] (fun news => True) (fun news C => ∀ (x dx : Addr) (o : Obj), C ((x, instObj 525 dx) :: (dx, o) :: news) (fun G => (∃ t0 : Tok, o = dictOf [⟨PyData.keyHash w.params (Str.ofString "value"), .str (Str.ofString "value") t0, .ref q⟩] 1) → (∀ p ∈ news, @LT.lt Nat _ p.1 dx) → @LT.lt Nat _ dx x → G) (.ref x)) :=
  useOf numnew_ok fun news news' r C hp ret => by
    obtain ⟨x, dx, o, rfl, rfl, hf0, hf1, hf2⟩ := hp
    exact ⟨_, ret _ _ _, fun G h => h hf0 hf1 hf2⟩
theorem word33 : True := by
  (k_with "call ref" => ((k_here; (with_reducible show wpAny _ _ (call (Value.ref 525) _) _ _ _); k_dflt (refine' numnew_use ?kB ?kF ?kX ?kN ?kT ?kk ?pre ?k1 ?k2 ?_; (case kB => k_asm); (case kF => k_asm); (case kX => k_asm); (case kN => k_asm); (case kT => k_asm); (case kk => exact rfl); (case pre => trivial); (case k1 => k_extra "room"); (case k2 => k_extra "room"); k_whole); intro _ _ _ _ _ _ _ _ _ _; (try dsimp only); (try k_fold))))
  trivial
inductive stepnew_P (w : World) (sx : Str) (kx : Tok) (ta pl : Addr) (news news' : Led) (v : Value) : Prop
  | mk : ∀ (x dx : Addr) (o : Obj), (news' = (x, instObj 553 dx) :: (dx, o) :: news) → (v = .ref x) → ((∃ t0 t1 t2 : Tok, o = dictOf [⟨PyData.keyHash w.params (Str.ofString "axis"), .str (Str.ofString "axis") t0, .str sx kx⟩, ⟨PyData.keyHash w.params (Str.ofString "test"), .str (Str.ofString "test") t1, .ref ta⟩, ⟨PyData.keyHash w.params (Str.ofString "predicates"), .str (Str.ofString "predicates") t2, .ref pl⟩] 3)) → ((∀ p ∈ news, @LT.lt Nat _ p.1 dx)) → (@LT.lt Nat _ dx x) → stepnew_P w sx kx ta pl news news' v
theorem stepnew_ok {w : World} {mean : ExcName → Option Value} {mg mb : Str → Option Value} {sx : Str} {kx : Tok} {ta pl : Addr} :
    Says w mean mg mb (10 + 2) (100 + 10) (.ref 553) [.str sx kx, .ref ta, .ref pl] (fun news => True) (stepnew_P w sx kx ta pl) := by
  k_dflt (refine' says_cls (fun x => [(Str.ofString "self", .ref x), (Str.ofString "axis", .str sx kx), (Str.ofString "test", .ref ta), (Str.ofString "predicates", .ref pl)]) ?k3 ?k4 ?k5 ?k6 ?k7 ?k9 ?kB ?c2 ?c3 ?c4 ?c5 ?_; (case k3 => k_is); (case k4 => k_is); (case k5 => k_is); (case k6 => k_is); (case k7 => k_is); (case k9 => intro _; rfl); (case c5 => decide); (case kB => intro _; exact locs rfl); (case c2 => exact rfl); (case c3 => exact rfl); (case c4 => exact rfl); k_whole)
  intro dp un gd outer A₁ base g L news x dx s B F X N l1 l2 TT hR hdp hu
  replace l1 := allLt_of l1
  replace l2 : @LT.lt Nat _ dx x := l2
  ((try k_extra "gq"); k_steps; (all_goals try k_extra "uq"))
  exact ⟨_, (x, instObj 553 dx) :: (dx, _) :: news, _, _, rfl, by k_asm, by k_asm, rfl, x, dx, _, rfl, rfl, ⟨_, _, _, rfl⟩, of_allLt l1, l2⟩
theorem stepnew_use {w : World} {mean : ExcName → Option Value} {mg mb : Str → Option Value} {sx : Str} {kx : Tok} {ta pl : Addr} : UseOf w mean mg mb 12 110 (.ref 553) [.str sx kx, .ref ta, .ref pl] (fun news => True) (fun news C => ∀ (x dx : Addr) (o : Obj), C ((x, instObj 553 dx) :: (dx, o) :: news) (fun G => (∃ t0 t1 t2 : Tok, o = dictOf [⟨PyData.keyHash w.params (Str.ofString "axis"), .str (Str.ofString "axis") t0, .str sx kx⟩, ⟨PyData.keyHash w.params (Str.ofString "test"), .str (Str.ofString "test") t1, .ref ta⟩, ⟨PyData.keyHash w.params (Str.ofString "predicates"), .str (Str.ofString "predicates") t2, .ref pl⟩] 3) → (∀ p ∈ news, @LT.lt Nat _ p.1 dx) → @LT.lt Nat _ dx x → G) (.ref x)) :=
  useOf stepnew_ok fun news news' r C hp ret => by
    obtain ⟨x, dx, o, rfl, rfl, hf0, hf1, hf2⟩ := hp
    exact ⟨_, ret _ _ _, fun G h => h hf0 hf1 hf2⟩
theorem word34 : True := by
  (k_with "call ref" => ((k_here; (with_reducible show wpAny _ _ (call (Value.ref 553) _) _ _ _); k_dflt (refine' stepnew_use ?kB ?kF ?kX ?kN ?kT ?kk ?pre ?k1 ?k2 ?_; (case kB => k_asm); (case kF => k_asm); (case kX => k_asm); (case kN => k_asm); (case kT => k_asm); (case kk => exact rfl); (case pre => trivial); (case k1 => k_extra "room"); (case k2 => k_extra "room"); k_whole); intro _ _ _ _ _ _ _ _ _ _; (try dsimp only); (try k_fold))))
  trivial
inductive partnew_P (w : World) (st : Addr) (b : Bool) (news news' : Led) (v : Value) : Prop
  | mk : ∀ (x dx : Addr) (o : Obj), (news' = (x, instObj 204 dx) :: (dx, o) :: news) → (v = .ref x) → ((∃ t0 t1 : Tok, o = dictOf [⟨PyData.keyHash w.params (Str.ofString "step"), .str (Str.ofString "step") t0, .ref st⟩, ⟨PyData.keyHash w.params (Str.ofString "is_deep"), .str (Str.ofString "is_deep") t1, .bool b⟩] 2)) → ((∀ p ∈ news, @LT.lt Nat _ p.1 dx)) → (@LT.lt Nat _ dx x) → partnew_P w st b news news' v
theorem partnew_ok {w : World} {mean : ExcName → Option Value} {mg mb : Str → Option Value} {st : Addr} {b : Bool} :
    Says w mean mg mb (10 + 2) (100 + 10) (.ref 204) [.ref st, .bool b] (fun news => True) (partnew_P w st b) := by
  k_dflt (refine' says_cls (fun x => [(Str.ofString "self", .ref x), (Str.ofString "step", .ref st), (Str.ofString "is_deep", .bool b)]) ?k3 ?k4 ?k5 ?k6 ?k7 ?k9 ?kB ?c2 ?c3 ?c4 ?c5 ?_; (case k3 => k_is); (case k4 => k_is); (case k5 => k_is); (case k6 => k_is); (case k7 => k_is); (case k9 => intro _; rfl); (case c5 => decide); (case kB => intro _; exact locs rfl); (case c2 => exact rfl); (case c3 => exact rfl); (case c4 => exact rfl); k_whole)
  intro dp un gd outer A₁ base g L news x dx s B F X N l1 l2 TT hR hdp hu
  replace l1 := allLt_of l1
  replace l2 : @LT.lt Nat _ dx x := l2
  ((try k_extra "gq"); k_steps; (all_goals try k_extra "uq"))
  exact ⟨_, (x, instObj 204 dx) :: (dx, _) :: news, _, _, rfl, by k_asm, by k_asm, rfl, x, dx, _, rfl, rfl, ⟨_, _, rfl⟩, of_allLt l1, l2⟩
theorem partnew_use {w : World} {mean : ExcName → Option Value} {mg mb : Str → Option Value} {st : Addr} {b : Bool} : UseOf w mean mg mb 12 110 (.ref 204) [.ref st, .bool b] (fun news => True) (fun news C => ∀ (x dx : Addr) (o : Obj), C ((x, instObj 204 dx) :: (dx, o) :: news) (fun G => (∃ t0 t1 : Tok, o = dictOf [⟨PyData.keyHash w.params (Str.ofString "step"), .str (Str.ofString "step") t0, .ref st⟩, ⟨PyData.keyHash w.params (Str.ofString "is_deep"), .str (Str.ofString "is_deep") t1, .bool b⟩] 2) → (∀ p ∈ news, @LT.lt Nat _ p.1 dx) → @LT.lt Nat _ dx x → G) (.ref x)) :=
  useOf partnew_ok fun news news' r C hp ret => by
    obtain ⟨x, dx, o, rfl, rfl, hf0, hf1, hf2⟩ := hp
    exact ⟨_, ret _ _ _, fun G h => h hf0 hf1 hf2⟩
theorem word35 : True := by
  (k_with "call ref" => ((k_here; (with_reducible show wpAny _ _ (call (Value.ref 204) _) _ _ _); k_dflt (refine' partnew_use ?kB ?kF ?kX ?kN ?kT ?kk ?pre ?k1 ?k2 ?_; (case kB => k_asm); (case kF => k_asm); (case kX => k_asm); (case kN => k_asm); (case kT => k_asm); (case kk => exact rfl); (case pre => trivial); (case k1 => k_extra "room"); (case k2 => k_extra "room"); k_whole); intro _ _ _ _ _ _ _ _ _ _; (try dsimp only); (try k_fold))))
  trivial
inductive patnew_P (w : World) (sv : Value) (pl pr : Addr) (news news' : Led) (v : Value) : Prop
  | mk : ∀ (x dx : Addr) (o : Obj), (news' = (x, instObj 225 dx) :: (dx, o) :: news) → (v = .ref x) → ((∃ t0 t1 t2 : Tok, o = dictOf [⟨PyData.keyHash w.params (Str.ofString "start"), .str (Str.ofString "start") t0, sv⟩, ⟨PyData.keyHash w.params (Str.ofString "parts"), .str (Str.ofString "parts") t1, .ref pl⟩, ⟨PyData.keyHash w.params (Str.ofString "priority"), .str (Str.ofString "priority") t2, .ref pr⟩] 3)) → ((∀ p ∈ news, @LT.lt Nat _ p.1 dx)) → (@LT.lt Nat _ dx x) → patnew_P w sv pl pr news news' v
theorem patnew_ok {w : World} {mean : ExcName → Option Value} {mg mb : Str → Option Value} {sv : Value} {pl pr : Addr} :
    Says w mean mg mb (10 + 2) (100 + 10) (.ref 225) [sv, .ref pl, .ref pr] (fun news => handedIn sv = true) (patnew_P w sv pl pr) := by
  k_dflt (refine' says_cls (fun x => [(Str.ofString "self", .ref x), (Str.ofString "start", sv), (Str.ofString "parts", .ref pl), (Str.ofString "priority", .ref pr)]) ?k3 ?k4 ?k5 ?k6 ?k7 ?k9 ?kB ?c2 ?c3 ?c4 ?c5 ?_; (case k3 => k_is); (case k4 => k_is); (case k5 => k_is); (case k6 => k_is); (case k7 => k_is); (case k9 => intro _; rfl); (case c5 => decide); (case kB => intro _; exact locs rfl); (case c2 => exact rfl); (case c3 => exact rfl); (case c4 => exact rfl); k_whole)
  intro dp un gd outer A₁ base g L news x dx s B F X N l1 l2 TT hR hdp hu
  replace l1 := allLt_of l1
  replace l2 : @LT.lt Nat _ dx x := l2
  ((try k_extra "gq"); k_steps; (all_goals try k_extra "uq"))
  exact ⟨_, (x, instObj 225 dx) :: (dx, _) :: news, _, _, rfl, by k_asm, by k_asm, rfl, x, dx, _, rfl, rfl, ⟨_, _, _, rfl⟩, of_allLt l1, l2⟩
theorem patnew_use {w : World} {mean : ExcName → Option Value} {mg mb : Str → Option Value} {sv : Value} {pl pr : Addr} : UseOf w mean mg mb 12 110 (.ref 225) [sv, .ref pl, .ref pr] (fun news => handedIn sv = true) (fun news C => ∀ (x dx : Addr) (o : Obj), C ((x, instObj 225 dx) :: (dx, o) :: news) (fun G => (∃ t0 t1 t2 : Tok, o = dictOf [⟨PyData.keyHash w.params (Str.ofString "start"), .str (Str.ofString "start") t0, sv⟩, ⟨PyData.keyHash w.params (Str.ofString "parts"), .str (Str.ofString "parts") t1, .ref pl⟩, ⟨PyData.keyHash w.params (Str.ofString "priority"), .str (Str.ofString "priority") t2, .ref pr⟩] 3) → (∀ p ∈ news, @LT.lt Nat _ p.1 dx) → @LT.lt Nat _ dx x → G) (.ref x)) :=
  useOf patnew_ok fun news news' r C hp ret => by
    obtain ⟨x, dx, o, rfl, rfl, hf0, hf1, hf2⟩ := hp
    exact ⟨_, ret _ _ _, fun G h => h hf0 hf1 hf2⟩
theorem word36 : True := by
  (k_with "call ref" => ((k_here; (with_reducible show wpAny _ _ (call (Value.ref 225) _) _ _ _); k_dflt (refine' patnew_use ?kB ?kF ?kX ?kN ?kT ?kk ?pre ?k1 ?k2 ?_; (case kB => k_asm); (case kF => k_asm); (case kX => k_asm); (case kN => k_asm); (case kT => k_asm); (case kk => exact rfl); (case pre => first | assumption | rfl | exact handed_posV _ _); (case k1 => k_extra "room"); (case k2 => k_extra "room"); k_whole); intro _ _ _ _ _ _ _ _ _ _; (try dsimp only); (try k_fold))))
  trivial
inductive looknew_P (w : World) (t nv : Addr) (news news' : Led) (v : Value) : Prop
  | mk : ∀ (x dx : Addr) (o : Obj), (news' = (x, instObj 246 dx) :: (dx, o) :: news) → (v = .ref x) → ((∃ t0 t1 t2 : Tok, o = dictOf [⟨PyData.keyHash w.params (Str.ofString "tree"), .str (Str.ofString "tree") t0, .ref t⟩, ⟨PyData.keyHash w.params (Str.ofString "names"), .str (Str.ofString "names") t1, .ref nv⟩, ⟨PyData.keyHash w.params (Str.ofString "value_of"), .str (Str.ofString "value_of") t2, .ref 633⟩] 3)) → ((∀ p ∈ news, @LT.lt Nat _ p.1 dx)) → (@LT.lt Nat _ dx x) → looknew_P w t nv news news' v
theorem looknew_ok {w : World} {mean : ExcName → Option Value} {mg mb : Str → Option Value} {t nv : Addr} :
    Says w mean mg mb (10 + 2) (100 + 10) (.ref 246) [.ref t, .ref nv, .ref 633] (fun news => True) (looknew_P w t nv) := by
  k_dflt (refine' says_cls (fun x => [(Str.ofString "self", .ref x), (Str.ofString "tree", .ref t), (Str.ofString "names", .ref nv), (Str.ofString "value_of", .ref 633)]) ?k3 ?k4 ?k5 ?k6 ?k7 ?k9 ?kB ?c2 ?c3 ?c4 ?c5 ?_; (case k3 => k_is); (case k4 => k_is); (case k5 => k_is); (case k6 => k_is); (case k7 => k_is); (case k9 => intro _; rfl); (case c5 => decide); (case kB => intro _; exact locs rfl); (case c2 => exact rfl); (case c3 => exact rfl); (case c4 => exact rfl); k_whole)
  intro dp un gd outer A₁ base g L news x dx s B F X N l1 l2 TT hR hdp hu
  replace l1 := allLt_of l1
  replace l2 : @LT.lt Nat _ dx x := l2
  ((try k_extra "gq"); k_steps; (all_goals try k_extra "uq"))
  exact ⟨_, (x, instObj 246 dx) :: (dx, _) :: news, _, _, rfl, by k_asm, by k_asm, rfl, x, dx, _, rfl, rfl, ⟨_, _, _, rfl⟩, of_allLt l1, l2⟩
theorem looknew_use {w : World} {mean : ExcName → Option Value} {mg mb : Str → Option Value} {t nv : Addr} : UseOf w mean mg mb 12 110 (.ref 246) [.ref t, .ref nv, .ref 633] (fun news => True) (fun news C => ∀ (x dx : Addr) (o : Obj), C ((x, instObj 246 dx) :: (dx, o) :: news) (fun G => (∃ t0 t1 t2 : Tok, o = dictOf [⟨PyData.keyHash w.params (Str.ofString "tree"), .str (Str.ofString "tree") t0, .ref t⟩, ⟨PyData.keyHash w.params (Str.ofString "names"), .str (Str.ofString "names") t1, .ref nv⟩, ⟨PyData.keyHash w.params (Str.ofString "value_of"), .str (Str.ofString "value_of") t2, .ref 633⟩] 3) → (∀ p ∈ news, @LT.lt Nat _ p.1 dx) → @LT.lt Nat _ dx x → G) (.ref x)) :=
  useOf looknew_ok fun news news' r C hp ret => by
    obtain ⟨x, dx, o, rfl, rfl, hf0, hf1, hf2⟩ := hp
    exact ⟨_, ret _ _ _, fun G h => h hf0 hf1 hf2⟩
theorem word37 : True := by
  (k_with "call ref" => ((k_here; (with_reducible show wpAny _ _ (call (Value.ref 246) _) _ _ _); k_dflt (refine' looknew_use ?kB ?kF ?kX ?kN ?kT ?kk ?pre ?k1 ?k2 ?_; (case kB => k_asm); (case kF => k_asm); (case kX => k_asm); (case kN => k_asm); (case kT => k_asm); (case kk => exact rfl); (case pre => trivial); (case k1 => k_extra "room"); (case k2 => k_extra "room"); k_whole); intro _ _ _ _ _ _ _ _ _ _; (try dsimp only); (try k_fold))))
  trivial
theorem word38 : True := by
  (k_with "exec For" => ((k_here; k_dflt (refine wpAny_For ?_); (try k_fold))))
  (k_with "exec For Name Name cons nil" => ((k_here; k_dflt (refine wpAny_For ?_); (try k_fold))))
  (k_with "exec For Name Call cons nil" => ((k_here; k_dflt (refine wpAny_For ?_); (try k_fold))))
  (k_with "exec For Tuple Name cons nil" => ((k_here; k_dflt (refine wpAny_For ?_); (try k_fold))))
  (k_with "exec For Tuple Call cons nil" => ((k_here; k_dflt (refine wpAny_For ?_); (try k_fold))))
  (k_with "exec For Name Attribute cons nil" => ((k_here; k_dflt (refine wpAny_For ?_); (try k_fold))))
  (k_with "pyIter ref" => ((k_here; refine stop_of ?_)))
  (k_with "nsub" => ((refine' news_sub ?N ?S; (case N => k_asm); (case S => k_extra "sub"))))
  trivial
noncomputable abbrev pattern_P (w : World) (bs : Led) (tl rl : Addr) (rooted : Bool) (kt : Nat) (rows : List PSp) (news news' : Led) (v : Value) : Prop := ∃ (pt : Addr) (fr : Led), v = .ref pt ∧ news' = fr ++ news ∧ (∀ q ∈ fr, ∀ p ∈ news, @LT.lt Nat _ p.1 q.1) ∧ PatAt w (fr ++ bs) pt rooted rows
theorem pattern_ok {w : World} {mean : ExcName → Option Value} {mg mb : Str → Option Value} {bs : Led} {tl rl : Addr} {rooted : Bool} {kt : Nat} {rows : List PSp} :
    Says w mean mg mb (40 + 1) (400 + 3) (.ref 599) [.ref tl] (fun news => T4 ((tl, tupOf #[.bool rooted, .ref rl] kt) ∈ news) (∀ q ∈ bs, q ∈ news) (RowsL bs rl rows) (RowsOK rows)) (pattern_P w bs tl rl rooted kt rows) := by
  k_dflt (refine' says_def [(Str.ofString "told", .ref tl)] ?k6 ?k7 ?k9 ?kB ?c2 ?c3 ?c4 ?c5 ?_; (case k6 => k_is); (case k7 => k_is); (case k9 => rfl); (case c5 => decide); (case kB => exact locs rfl); (case c2 => exact rfl); (case c3 => exact rfl); (case c4 => exact rfl); k_whole)
  intro dp un gd outer A₁ base g L news s B F X N TT hR hdp hu
  obtain ⟨htl, hbs, hrl, hrk⟩ := hR
  obtain ⟨rvs, rk, hr1, hr2, hr3, hr4⟩ := hrl
  ((try k_extra "gq"); k_steps; (all_goals try k_extra "uq"))
  rename_i pl ha1 l1 ha2 F1 N1
  let jj7 : Nat → List Value → (Str → Option Value) → Led → Prop := (fun i us' m₁ news₁ => us' = rvs ∧ X3 (fun (pvs : List Value) (c : Nat) (fr : Led) => T7 (Knows m₁ [(Str.ofString "is_rooted", .bool rooted), (Str.ofString "parts", .ref pl)]) (news₁ = (pl, listOf pvs.toArray c) :: (fr ++ news)) (∀ q ∈ fr, ∀ p ∈ news, @LT.lt Nat _ p.1 q.1) (∀ p ∈ fr ++ news, @Ne Nat p.1 pl) (pvs.length = i) (i ≤ rows.length) (∀ (j : Nat) (p : PSp), j < i → rows[j]? = some p → ∃ a, pvs[j]? = some (.ref a) ∧ PartAt w (fr ++ bs) a p)))
  refine go_on (iter_list 3 jj7
      rfl (by k_asm) (by k_asm) ⟨rfl, [], 0, [], ⟨rfl, rfl, trivial⟩, rfl, fun q hq => (nomatch hq), fun p hp => Nat.ne_of_lt (l1 p hp), rfl, Nat.zero_le _, fun j p hj => absurd hj (Nat.not_lt_zero _)⟩ ?_ ?_ ?_)
  · rintro i us' m₁ news₁ ⟨rfl, pvs, c, fr, _, rfl, hs, _⟩
    exact ⟨by k_extra "om", _, .tail _ (List.mem_append_right _ (hbs _ hr1))⟩
  · rintro i us' v m₁ news₁ it oi h tk ⟨rfl, pvs, c, fr, hK, rfl, hs, hne, hpl, hil, hall⟩ hv F9 N9 off9
    have hil : i < rows.length := by
      rcases Nat.lt_or_ge i rows.length with h | h
      · exact h
      · rw [List.getElem?_eq_none (by k_extra "om")] at hv; cases hv
    obtain ⟨p, hp⟩ : ∃ p, rows[i]? = some p := ⟨_, List.getElem?_eq_getElem hil⟩
    obtain ⟨ra, hra, hrt⟩ := hr4 i _ hp
    rw [hra] at hv
    obtain rfl := Option.some.inj hv
    obtain ⟨ta, tp, kp, hrt0, hrt2⟩ := hrt
    have hrt1 := hbs _ hrt0
    have hlp : ∀ p ∈ news, @LT.lt Nat _ p.1 pl := l1
    have hpk := hrk p (List.mem_of_getElem? hp)
    have n1 : @Ne Nat pl it := off9 _ (.head _)
    have n2 : ∀ q ∈ fr ++ news, @Ne Nat q.1 it := fun q hq => off9 q (.tail _ hq)
    clear hr4 hr1
    replace hrt1 : _ ∈ fr ++ news := List.mem_append_right _ hrt1
    obtain ⟨rest, hfn⟩ : ∃ rest, rest = fr ++ news := ⟨_, rfl⟩
    rw [← hfn] at N9 off9 n2 hne hrt1
    replace F9 : Fr g L h _ := frOver F9 hK
    replace N9 : News g L h _ := N9
    obtain ⟨pa, pt, pp, pd⟩ := p
    cases pa
    all_goals cases pp
    all_goals simp only [posV] at hrt1 hrt0
    · ((try k_extra "gq"); k_steps; (all_goals try k_extra "uq"))
      rename_i l9 b1 ll b2 b3 b4 x1 d1 o1 b5 b6 b7 b8 hoA hltA hlA b9 b10 x2 d2 o2 b11 b12 FE NE hoB hltB hlB
      have g1 : @LT.lt Nat _ l9 d1 := hltA _ (.head _)
      have g2 : @LT.lt Nat _ x1 d2 := hltB _ (.head _)
      obtain ⟨u0, u1, u2, rfl⟩ := hoA
      obtain ⟨s0, s1, rfl⟩ := hoB
      refine app_any (by k_asm) (by k_asm) (.tail _ (.tail _ (.tail _ (.tail _ (.tail _ (.tail _ (.head _))))))) (by k_extra "om") ?_
      intro hE nnE FE2 NE2 hmE hkE
      obtain ⟨fr', z1, z2, z3, z4, z5, z6⟩ := part_turn (rows := rows) (base := bs) (fr := fr) (news := news) [(x2, instObj 204 d2), (d2, _), (x1, instObj 553 d1), (d1, _), (l9, _)] NE2 hmE (hfn ▸ hkE)
        (fun q hq => by
          simp only [List.mem_cons, List.not_mem_nil, or_false] at hq
          rcases hq with rfl | rfl | rfl | rfl | rfl <;> (dsimp only; exact ⟨by k_extra "om", by k_extra "om"⟩))
        n1 (hfn ▸ n2) (hfn ▸ hne) hlp hs ⟨d2, x1, s0, s1, by k_mem, by k_mem, d1, ta, l9, u0, u1, u2, _, by k_mem, by k_mem, hrt2.mono (fun _ h => .tail _ (.tail _ (.tail _ (.tail _ (.tail _ (List.mem_append_right fr h : _ ∈ fr ++ bs)))))), ⟨_, by k_mem⟩, fun k hk => (hpk k hk).1⟩ hp hpl hall
      ((try k_extra "gq"); k_steps; (all_goals try k_extra "uq"))
      exact ⟨_, _, _, _, rfl, by k_asm, z1, z2, us', rfl, _, _, fr', ⟨rfl, rfl, trivial⟩, rfl, z3, z4, z5, by k_extra "om", z6⟩
    · ((try k_extra "gq"); k_steps; (all_goals try k_extra "uq"))
      rename_i D9 c1 lD x0 d0 o0 c2 c3 ho0 hlt0 hl0 c4 c5 l9 b1 ll b2 b3 b4 x1 d1 o1 b5 b6 b7 b8 hoA hltA hlA b9 b10 x2 d2 o2 b11 b12 FE NE hoB hltB hlB
      obtain ⟨v0, rfl⟩ := ho0
      have g0 : @LT.lt Nat _ D9 d0 := hlt0 _ (.head _)
      have g1 : @LT.lt Nat _ l9 d1 := hltA _ (.head _)
      have g2 : @LT.lt Nat _ x1 d2 := hltB _ (.head _)
      obtain ⟨u0, u1, u2, rfl⟩ := hoA
      obtain ⟨s0, s1, rfl⟩ := hoB
      refine app_any (by k_asm) (by k_asm) (.tail _ (.tail _ (.tail _ (.tail _ (.tail _ (.tail _ (.tail _ (.tail _ (.tail _ (.head _)))))))))) (by k_extra "om") ?_
      intro hE nnE FE2 NE2 hmE hkE
      obtain ⟨fr', z1, z2, z3, z4, z5, z6⟩ := part_turn (rows := rows) (base := bs) (fr := fr) (news := news) [(x2, instObj 204 d2), (d2, _), (x1, instObj 553 d1), (d1, _), (l9, _), (x0, instObj 525 d0), (d0, _), (D9, _)] NE2 hmE (hfn ▸ hkE)
        (fun q hq => by
          simp only [List.mem_cons, List.not_mem_nil, or_false] at hq
          rcases hq with rfl | rfl | rfl | rfl | rfl | rfl | rfl | rfl <;> (dsimp only; exact ⟨by k_extra "om", by k_extra "om"⟩))
        n1 (hfn ▸ n2) (hfn ▸ hne) hlp hs ⟨d2, x1, s0, s1, by k_mem, by k_mem, d1, ta, l9, u0, u1, u2, _, by k_mem, by k_mem, hrt2.mono (fun _ h => .tail _ (.tail _ (.tail _ (.tail _ (.tail _ (.tail _ (.tail _ (.tail _ (List.mem_append_right fr h : _ ∈ fr ++ bs))))))))), ⟨x0, d0, D9, _, _, _, _, _, _, by k_mem, by k_mem, by k_mem, by k_mem⟩, fun k hk => (hpk k hk).1⟩ hp hpl hall
      ((try k_extra "gq"); k_steps; (all_goals try k_extra "uq"))
      exact ⟨_, _, _, _, rfl, by k_asm, z1, z2, us', rfl, _, _, fr', ⟨rfl, rfl, trivial⟩, rfl, z3, z4, z5, by k_extra "om", z6⟩
    · ((try k_extra "gq"); k_steps; (all_goals try k_extra "uq"))
      rename_i l9 b1 ll b2 b3 b4 x1 d1 o1 b5 b6 b7 b8 hoA hltA hlA b9 b10 x2 d2 o2 b11 b12 FE NE hoB hltB hlB
      have g1 : @LT.lt Nat _ l9 d1 := hltA _ (.head _)
      have g2 : @LT.lt Nat _ x1 d2 := hltB _ (.head _)
      obtain ⟨u0, u1, u2, rfl⟩ := hoA
      obtain ⟨s0, s1, rfl⟩ := hoB
      refine app_any (by k_asm) (by k_asm) (.tail _ (.tail _ (.tail _ (.tail _ (.tail _ (.tail _ (.head _))))))) (by k_extra "om") ?_
      intro hE nnE FE2 NE2 hmE hkE
      obtain ⟨fr', z1, z2, z3, z4, z5, z6⟩ := part_turn (rows := rows) (base := bs) (fr := fr) (news := news) [(x2, instObj 204 d2), (d2, _), (x1, instObj 553 d1), (d1, _), (l9, _)] NE2 hmE (hfn ▸ hkE)
        (fun q hq => by
          simp only [List.mem_cons, List.not_mem_nil, or_false] at hq
          rcases hq with rfl | rfl | rfl | rfl | rfl <;> (dsimp only; exact ⟨by k_extra "om", by k_extra "om"⟩))
        n1 (hfn ▸ n2) (hfn ▸ hne) hlp hs ⟨d2, x1, s0, s1, by k_mem, by k_mem, d1, ta, l9, u0, u1, u2, _, by k_mem, by k_mem, hrt2.mono (fun _ h => .tail _ (.tail _ (.tail _ (.tail _ (.tail _ (List.mem_append_right fr h : _ ∈ fr ++ bs)))))), ⟨_, by k_mem⟩, fun k hk => (hpk k hk).1⟩ hp hpl hall
      ((try k_extra "gq"); k_steps; (all_goals try k_extra "uq"))
      exact ⟨_, _, _, _, rfl, by k_asm, z1, z2, us', rfl, _, _, fr', ⟨rfl, rfl, trivial⟩, rfl, z3, z4, z5, by k_extra "om", z6⟩
    · ((try k_extra "gq"); k_steps; (all_goals try k_extra "uq"))
      rename_i D9 c1 lD x0 d0 o0 c2 c3 ho0 hlt0 hl0 c4 c5 l9 b1 ll b2 b3 b4 x1 d1 o1 b5 b6 b7 b8 hoA hltA hlA b9 b10 x2 d2 o2 b11 b12 FE NE hoB hltB hlB
      obtain ⟨v0, rfl⟩ := ho0
      have g0 : @LT.lt Nat _ D9 d0 := hlt0 _ (.head _)
      have g1 : @LT.lt Nat _ l9 d1 := hltA _ (.head _)
      have g2 : @LT.lt Nat _ x1 d2 := hltB _ (.head _)
      obtain ⟨u0, u1, u2, rfl⟩ := hoA
      obtain ⟨s0, s1, rfl⟩ := hoB
      refine app_any (by k_asm) (by k_asm) (.tail _ (.tail _ (.tail _ (.tail _ (.tail _ (.tail _ (.tail _ (.tail _ (.tail _ (.head _)))))))))) (by k_extra "om") ?_
      intro hE nnE FE2 NE2 hmE hkE
      obtain ⟨fr', z1, z2, z3, z4, z5, z6⟩ := part_turn (rows := rows) (base := bs) (fr := fr) (news := news) [(x2, instObj 204 d2), (d2, _), (x1, instObj 553 d1), (d1, _), (l9, _), (x0, instObj 525 d0), (d0, _), (D9, _)] NE2 hmE (hfn ▸ hkE)
        (fun q hq => by
          simp only [List.mem_cons, List.not_mem_nil, or_false] at hq
          rcases hq with rfl | rfl | rfl | rfl | rfl | rfl | rfl | rfl <;> (dsimp only; exact ⟨by k_extra "om", by k_extra "om"⟩))
        n1 (hfn ▸ n2) (hfn ▸ hne) hlp hs ⟨d2, x1, s0, s1, by k_mem, by k_mem, d1, ta, l9, u0, u1, u2, _, by k_mem, by k_mem, hrt2.mono (fun _ h => .tail _ (.tail _ (.tail _ (.tail _ (.tail _ (.tail _ (.tail _ (.tail _ (List.mem_append_right fr h : _ ∈ fr ++ bs))))))))), ⟨x0, d0, D9, _, _, _, _, _, _, by k_mem, by k_mem, by k_mem, by k_mem⟩, fun k hk => (hpk k hk).1⟩ hp hpl hall
      ((try k_extra "gq"); k_steps; (all_goals try k_extra "uq"))
      exact ⟨_, _, _, _, rfl, by k_asm, z1, z2, us', rfl, _, _, fr', ⟨rfl, rfl, trivial⟩, rfl, z3, z4, z5, by k_extra "om", z6⟩
  · rintro i us' m₁ news₁ h tk ⟨rfl, pvs, c, fr, hK, rfl, hs, hne, hpl, hil, hall⟩ hi1 hi2 F9 N9
    replace F9 : Fr g L h _ := frOver F9 hK
    replace N9 : News g L h _ := N9
    ((try k_extra "gq"); k_steps; (all_goals try k_extra "uq"))
    · rename_i hro D1 e1 e2 e3 lD x2 d2 o2 e4 e5 FE NE ho hlt2 hl2
      subst hro
      obtain ⟨t0, t1, t2, rfl⟩ := ho
      have g1 : @LT.lt Nat _ D1 d2 := hlt2 _ (.head _)
      refine ⟨_, _, _, _, rfl, by k_asm, by k_asm, x2, (x2, _) :: (d2, _) :: (D1, _) :: (pl, _) :: fr, rfl, rfl, fun q hq p hp => ?_, d2, pl, pvs, c, _, t0, t1, t2, _, .head _, .tail _ (.head _), .tail _ (.tail _ (.tail _ (.head _))), by k_extra "om", hr3, fun j p hp => ?_⟩
      · have g2 : @LT.lt Nat _ p.1 pl := l1 p hp
        rcases List.mem_cons.mp hq with rfl | hq
        · dsimp only; k_extra "om"
        rcases List.mem_cons.mp hq with rfl | hq
        · dsimp only; k_extra "om"
        rcases List.mem_cons.mp hq with rfl | hq
        · dsimp only; k_extra "om"
        rcases List.mem_cons.mp hq with rfl | hq
        · exact g2
        · exact hs q hq p hp
      have hj : j < rows.length := by
        rcases Nat.lt_or_ge j rows.length with h | h
        · exact h
        · rw [List.getElem?_eq_none h] at hp; cases hp
      obtain ⟨a, q1, q2⟩ := hall j p (by k_extra "om") hp
      exact ⟨a, q1, q2.mono fun q hq => .tail _ (.tail _ (.tail _ (.tail _ hq)))⟩
    · rename_i hro D1 e1 e2 e3 lD x2 d2 o2 e4 e5 FE NE ho hlt2 hl2
      subst hro
      obtain ⟨t0, t1, t2, rfl⟩ := ho
      have g1 : @LT.lt Nat _ D1 d2 := hlt2 _ (.head _)
      refine ⟨_, _, _, _, rfl, by k_asm, by k_asm, x2, (x2, _) :: (d2, _) :: (D1, _) :: (pl, _) :: fr, rfl, rfl, fun q hq p hp => ?_, d2, pl, pvs, c, _, t0, t1, t2, 0, .head _, .tail _ (.head _), .tail _ (.tail _ (.tail _ (.head _))), by k_extra "om", hr3, fun j p hp => ?_⟩
      · have g2 : @LT.lt Nat _ p.1 pl := l1 p hp
        rcases List.mem_cons.mp hq with rfl | hq
        · dsimp only; k_extra "om"
        rcases List.mem_cons.mp hq with rfl | hq
        · dsimp only; k_extra "om"
        rcases List.mem_cons.mp hq with rfl | hq
        · dsimp only; k_extra "om"
        rcases List.mem_cons.mp hq with rfl | hq
        · exact g2
        · exact hs q hq p hp
      have hj : j < rows.length := by
        rcases Nat.lt_or_ge j rows.length with h | h
        · exact h
        · rw [List.getElem?_eq_none h] at hp; cases hp
      obtain ⟨a, q1, q2⟩ := hall j p (by k_extra "om") hp
      exact ⟨a, q1, q2.mono fun q hq => .tail _ (.tail _ (.tail _ (.tail _ hq)))⟩
theorem word39 : True := by
  k_with_none
  (k_with "gq" => (((with_reducible first | refine' genq (D := DoneF _ _ _ _) ?_ | refine' genq (D := TurnEnd _ _ _ _ _ _) ?_ | refine' genq (D := TurnEnd2 _ _ _ _ _ _ _) ?_ | refine' genq (D := WEnd _ _ _ _ _) ?_ | refine' genq (D := Mid _ _ _ _) ?_ | refine' genq (D := CEnd _ _ _ _ _ _ _ _ _ _ _) ?_ | refine' genq (D := CEnd2 _ _ _ _ _ _ _ _ _ _ _) ?_); intro _ _)))
  (k_with "uq" => (first | (refine' unq ?u9 ?_; (case u9 => with_reducible assumption)) | (refine' unqv ?u9 ?_; (case u9 => with_reducible assumption))))
  (k_with "lts" => (first | exact Nat.le.refl | (refine Nat.le.step ?_; k_extra "lts")))
  (k_with "cj" => (first | assumption | (refine' And.left ?a9; (case a9 => assumption)) | (refine' And.left (And.right ?a9); (case a9 => assumption)) | (refine' And.left (And.right (And.right ?a9)); (case a9 => assumption)) | (refine' And.left (And.right (And.right (And.right ?a9))); (case a9 => assumption)) | (refine' And.left (And.right (And.right (And.right (And.right ?a9)))); (case a9 => assumption)) | (refine' And.left (And.right (And.right (And.right (And.right (And.right ?a9))))); (case a9 => assumption)) | (refine' And.left (And.right (And.right (And.right (And.right (And.right (And.right ?a9)))))); (case a9 => assumption)) | (refine' And.left (And.right (And.right (And.right (And.right (And.right (And.right (And.right ?a9))))))); (case a9 => assumption)) | (refine' And.left (And.right (And.right (And.right (And.right (And.right (And.right (And.right (And.right ?a9)))))))); (case a9 => assumption)) | (refine' And.left (And.right (And.right (And.right (And.right (And.right (And.right (And.right (And.right (And.right ?a9))))))))); (case a9 => assumption)) | (refine' And.left (And.right (And.right (And.right (And.right (And.right (And.right (And.right (And.right (And.right (And.right ?a9)))))))))); (case a9 => assumption)) | (refine' And.left (And.right (And.right (And.right (And.right (And.right (And.right (And.right (And.right (And.right (And.right (And.right ?a9))))))))))); (case a9 => assumption))))
  (k_with "ne9" => (first | assumption | exact Ne.symm (by assumption) | (refine' Nat.ne_of_lt ?a8; (case a8 => first | assumption | k_extra "lts" | k_extra "cj" | (refine' Nat.lt_of_le_of_lt ?b9 ?c9; (case c9 => assumption); (case b9 => k_extra "lts")))) | (refine' Nat.ne_of_gt ?a8; (case a8 => first | assumption | k_extra "lts" | k_extra "cj" | (refine' Nat.lt_of_le_of_lt ?b9 ?c9; (case c9 => assumption); (case b9 => k_extra "lts")))) | ((try dsimp only); (repeat (rename @Ne Nat _ _ => q9; clear q9)); omega) | ((try dsimp only); omega)))
  (k_with "om" => (first | with_reducible assumption | (refine neN ?_; k_extra "ne9") | (refine' Nat.le_trans ?a9 ?b9; (case a9 => assumption); (case b9 => exact Nat.le_of_ble_eq_true rfl)) | (refine' le_eq_le ?a9 ?b9 ?c9; (case a9 => assumption); (case b9 => assumption); (case c9 => exact Nat.le_of_ble_eq_true rfl)) | (refine ltN ?_; k_extra "cj") | ((repeat (rename @Ne Nat _ _ => q9; clear q9)); omega) | omega))
  (k_with "room" => (first | (refine' room_of ?a9 ?b9; (case a9 => assumption); (case b9 => exact Nat.le_of_ble_eq_true rfl)) | omega))
  (k_with "call builtin:list.append" => ((k_here; (with_reducible show wpAny _ _ (call (Value.builtin "list.append") [Value.ref _, _]) _ _ _); k_dflt (refine' my_append ?k1 ?k2 ?k3 ?k4 ?_; (case k1 => k_asm); (case k2 => k_asm); (case k3 => k_upd); (case k4 => k_extra "om"); k_whole); intro _ _ _; (try k_sweep))))
  (k_with "memF" => (first | exact mem_head | with_reducible assumption | (refine' mem_tail ?_; k_extra "memF")))
  (k_with "memS" => (first | exact mem_head | assumption | (refine' mem_tail ?_; k_extra "memS")))
  (k_with "call type:list" => ((k_here; (with_reducible show wpAny _ _ (call (Value.type "list") [Value.ref _]) _ _ _); k_dflt (refine' my_listcopy ?k0 ?k1 ?k2 ?k3 ?_; (case k0 => k_asm); (case k1 => k_asm); (case k2 => k_mem); (case k3 => k_extra "om"); k_whole); intro _ _ _ _ _ _)))
  (k_with "call builtin:len" => ((k_here; (with_reducible show wpAny _ _ (call (Value.builtin "len") [Value.ref _]) _ _ _); k_dflt (refine' my_len ?k1 ?k2 ?k3 ?_; (case k1 => k_asm); (case k2 => k_mem); (case k3 => k_extra "om"); k_whole))))
  (k_with "subscriptTail" => ((k_here; (with_reducible show wpAny _ _ (subscriptTail _ _ (Value.ref _) (Value.int _ _)) _ _ _); k_dflt (refine' my_item ?k1 ?k2 ?k3 ?k4 ?k5 ?_; (case k1 => k_asm); (case k2 => k_mem); (case k3 => k_extra "om"); (case k4 => k_extra "om"); (case k5 => first | with_reducible assumption | rfl); k_whole))))
  (k_with "sub" => (first | with_reducible exact fun _ h => h | (refine' sub_cons ?m ?_; (case m => k_mem); k_extra "sub") | (refine sub_tail ?_; k_extra "sub")))
  (k_with "fin" => (((try k_extra "uq"); (try dsimp only [WEnd, TurnEnd, TurnEnd2]); (try k_extra "uq"); refine' fin_same ?F ?N ?S (And.intro rfl ?_); (case F => k_asm); (case N => k_asm); (case S => k_extra "sub"))))
  (k_with "bools" => (simp only [fitSr, axS_attr, *, Bool.or_true, Bool.true_or, Bool.not_true, Bool.false_and, Bool.and_false, Bool.not_false, Bool.true_and, Bool.and_true, Bool.or_self, Bool.or_false, Bool.false_or, Bool.and_self, Option.isNone_none, Option.isNone_some, beq_self_eq_true]))
  (k_with "finL" => (((try k_extra "uq"); refine' fin_new ?F ?N ?M ?S ⟨_, _, _, rfl, rfl, ?_, ?_⟩; (case F => k_asm); (case N => k_asm); (case M => k_mem); (case S => k_extra "sub"))))
  (k_with "tree" => (first | with_reducible assumption | (refine' TreeAt.mono ?h ?s; (case h => assumption); (case s => k_extra "sub"))))
  (k_with "call ref" => ((k_here; (with_reducible show wpAny _ _ (call (Value.ref 335) _) _ _ _); k_dflt (refine' row_use ?kB ?kF ?kX ?kN ?kT ?kk ?pre ?k1 ?k2 ?_; (case kB => k_asm); (case kF => k_asm); (case kX => k_asm); (case kN => k_asm); (case kT => k_asm); (case kk => exact rfl); (case pre => exact ⟨by k_extra "tree", by assumption⟩); (case k1 => k_extra "room"); (case k2 => k_extra "room"); k_whole); intro _ _ _ _ _ _ _ _ _ _ _ _ _ _ _ _ _ _ _ _ _ _ _ _ _ _ _ _ _ _ _ _ _ _ _ _ _ _ _; (try dsimp only); (try k_fold))))
  (k_with "call ref" => ((k_here; (with_reducible show wpAny _ _ (call (Value.ref 447) _) _ _ _); k_dflt (refine' parent_use ?kB ?kF ?kX ?kN ?kT ?kk ?pre ?k1 ?k2 ?_; (case kB => k_asm); (case kF => k_asm); (case kX => k_asm); (case kN => k_asm); (case kT => k_asm); (case kk => exact rfl); (case pre => exact ⟨by k_extra "tree", by assumption⟩); (case k1 => k_extra "room"); (case k2 => k_extra "room"); k_whole); intro _ _ _ _ _; (try dsimp only); (try k_fold))))
  (k_with "call ref" => ((k_here; (with_reducible show wpAny _ _ (call (Value.ref 412) _) _ _ _); k_dflt (refine' kind_use ?kB ?kF ?kX ?kN ?kT ?kk ?pre ?k1 ?k2 ?_; (case kB => k_asm); (case kF => k_asm); (case kX => k_asm); (case kN => k_asm); (case kT => k_asm); (case kk => exact rfl); (case pre => exact ⟨by k_extra "tree", by assumption⟩); (case k1 => k_extra "room"); (case k2 => k_extra "room"); k_whole); intro _ _ _ _ _; (try dsimp only); (try k_fold))))
  (k_with "call ref" => ((k_here; (with_reducible show wpAny _ _ (call (Value.ref 419) _) _ _ _); k_dflt (refine' name_use ?kB ?kF ?kX ?kN ?kT ?kk ?pre ?k1 ?k2 ?_; (case kB => k_asm); (case kF => k_asm); (case kX => k_asm); (case kN => k_asm); (case kT => k_asm); (case kk => exact rfl); (case pre => exact ⟨by k_extra "tree", by assumption⟩); (case k1 => k_extra "room"); (case k2 => k_extra "room"); k_whole); intro _ _ _ _ _; (try dsimp only); (try k_fold))))
  (k_with "call ref" => ((k_here; (with_reducible show wpAny _ _ (call (Value.ref 433) _) _ _ _); k_dflt (refine' local_use ?kB ?kF ?kX ?kN ?kT ?kk ?pre ?k1 ?k2 ?_; (case kB => k_asm); (case kF => k_asm); (case kX => k_asm); (case kN => k_asm); (case kT => k_asm); (case kk => exact rfl); (case pre => exact ⟨by k_extra "tree", by assumption⟩); (case k1 => k_extra "room"); (case k2 => k_extra "room"); k_whole); intro _ _ _ _ _; (try dsimp only); (try k_fold))))
  (k_with "call ref" => ((k_here; (with_reducible show wpAny _ _ (call (Value.ref 426) _) _ _ _); k_dflt (refine' uri_use ?kB ?kF ?kX ?kN ?kT ?kk ?pre ?k1 ?k2 ?_; (case kB => k_asm); (case kF => k_asm); (case kX => k_asm); (case kN => k_asm); (case kT => k_asm); (case kk => exact rfl); (case pre => exact ⟨by k_extra "tree", by assumption⟩); (case k1 => k_extra "room"); (case k2 => k_extra "room"); k_whole); intro _ _ _ _ _; (try dsimp only); (try k_fold))))
  (k_with "call ref" => ((k_here; (with_reducible show wpAny _ _ (call (Value.ref 447) _) _ _ _); k_dflt (refine' parent_two ?kB ?kF ?kX ?kN ?kT ?kk ?pre ?k1 ?k2 ?_ ?_; (case kB => k_asm); (case kF => k_asm); (case kX => k_asm); (case kN => k_asm); (case kT => k_asm); (case kk => exact rfl); (case pre => exact ⟨by k_extra "tree", by assumption⟩); (case k1 => k_extra "room"); (case k2 => k_extra "room")); (first | (intro _ _ _ _ _; (try dsimp only); (try k_fold)) | skip); (rotate_left; (intro _ _ _ _ _ _ _; (try dsimp only); (try k_fold)); rotate_left))))
  (k_with "call ref" => ((k_here; (with_reducible show wpAny _ _ (call (Value.ref 454) _) _ _ _); k_dflt (refine' children_use ?kB ?kF ?kX ?kN ?kT ?kk ?pre ?k1 ?k2 ?_; (case kB => k_asm); (case kF => k_asm); (case kX => k_asm); (case kN => k_asm); (case kT => k_asm); (case kk => exact rfl); (case pre => exact ⟨by k_extra "tree", by assumption⟩); (case k1 => k_extra "room"); (case k2 => k_extra "room"); k_whole); intro _ _ _ _ _ _ _ _ _ _ _; (try dsimp only); (try k_fold))))
  (k_with "call ref" => ((k_here; (with_reducible show wpAny _ _ (call (Value.ref 461) _) _ _ _); k_dflt (refine' attributes_use ?kB ?kF ?kX ?kN ?kT ?kk ?pre ?k1 ?k2 ?_; (case kB => k_asm); (case kF => k_asm); (case kX => k_asm); (case kN => k_asm); (case kT => k_asm); (case kk => exact rfl); (case pre => exact ⟨by k_extra "tree", by assumption⟩); (case k1 => k_extra "room"); (case k2 => k_extra "room"); k_whole); intro _ _ _ _ _ _ _ _ _ _ _; (try dsimp only); (try k_fold))))
  trivial
theorem ite01 {P : Prop} [Decidable P] : (0 : Int) ≤ (if P then 1 else 0) := by split <;> decide
theorem pool_use {w : World} {mean : ExcName → Option Value} {mg mb : Str → Option Value} {la : Addr} {vs : List Value} {ns : List Int} {tk0 : Tok} {dp un : Nat} {gd : Option (List Code)} {cn : Str} {cs : Scope} {a : Addr} {ccd : Value} {cl : List (Str × Addr)} {outer : List Env} {A₀ : Around} {base h₀ : Heap} {L : Addr} {m : Str → Option Value} {news : Led} {s : Shared} {Q E : Value → Shared → Prop} (B : Below A₀ base outer h₀) (F : Fr h₀ L s.heap m) (X : (K39 w.params).In h₀) (N : News h₀ L s.heap news) (TT : Top V39 (looseW V39 []) mean mg mb h₀) (hk : cs.kind = .function) (hL : h₀.IsList la vs.toArray) (hI : IntsAre vs ns) (hn : ns.length ≤ 63) (hdp : dp + 41 < recursionLimit) (hu : un + 403 < cLine)
    (ret : ∀ (D : Addr) (x y : Int) (tx ty : Tok) (c : Nat) (h' : Heap) (tk' : Nat), Fr h₀ L h' m → News h₀ L h' ((D, listOf [Value.int x tx, Value.int y ty].toArray c) :: news) → 0 ≤ x → 0 ≤ y → y < 2147483647 → (∀ p ∈ news, @LT.lt Nat _ p.1 D) → Q (.ref D) { s with heap := h', toks := tk' }) :
    wpAny (model PySem.Challenge.rw_nu0072_01.prog w) (ktrTop dp un gd cn cs L a ccd cl outer) (call (.ref 564) [.ref la, .int 0 tk0]) Q E s := by
  k_dflt (refine' call_defH (dd := 40) (uu := 400) (Post := fun news' v => ∃ (D : Addr) (x y : Int) (tx ty : Tok) (c : Nat), v = .ref D ∧ news' = (D, listOf [Value.int x tx, Value.int y ty].toArray c) :: news ∧ 0 ≤ x ∧ 0 ≤ y ∧ y < 2147483647 ∧ (∀ p ∈ news, @LT.lt Nat _ p.1 D)) [(Str.ofString "script", .ref la), (Str.ofString "k", .int 0 tk0)] B F X N TT hk hdp hu ?k6 ?k7 ?k9 ?kB ?c2 ?c3 ?c4 ?c5 ?_ ?_; (case k6 => k_is); (case k7 => k_is); (case k9 => rfl); (case c5 => decide); (case kB => exact locs rfl); (case c2 => exact rfl); (case c3 => exact rfl); (case c4 => exact rfl))
  rotate_left
  · rintro r news' h' tk' F' N' ⟨D, x, y, tx, ty, c, rfl, rfl, h1, h2, h3, h4⟩
    exact ret D x y tx ty c h' tk' F' N' h1 h2 h3 h4
  clear ret F N B X TT hdp hu
  intro dp un gd outer A₁ base g L s hkeep B F X N TT hdp hu
  obtain ⟨oL, hoL, hoR⟩ := hL
  have hLg : g.IsList la vs.toArray := ⟨oL, hkeep _ _ hoL, hoR⟩
  clear hoL hoR hkeep
  have hle := hI.length
  ((try k_extra "gq"); k_steps; (all_goals try k_extra "uq"))
  all_goals exact ⟨_, _, _, _, rfl, by k_asm, by k_asm, _, _, _, _, _, _, rfl, rfl, Int.mul_nonneg (by split <;> k_extra "om") ite01, (fmod_bd _ (by decide)).1, (fmod_bd _ (by decide)).2, by assumption⟩
theorem word40 : True := by
  k_with_none
  (k_with "gq" => (((with_reducible first | refine' genq (D := DoneF _ _ _ _) ?_ | refine' genq (D := TurnEnd _ _ _ _ _ _) ?_ | refine' genq (D := TurnEnd2 _ _ _ _ _ _ _) ?_ | refine' genq (D := WEnd _ _ _ _ _) ?_ | refine' genq (D := Mid _ _ _ _) ?_ | refine' genq (D := CEnd _ _ _ _ _ _ _ _ _ _ _) ?_ | refine' genq (D := CEnd2 _ _ _ _ _ _ _ _ _ _ _) ?_); intro _ _)))
  (k_with "uq" => (first | (refine' unq ?u9 ?_; (case u9 => with_reducible assumption)) | (refine' unqv ?u9 ?_; (case u9 => with_reducible assumption))))
  (k_with "lts" => (first | exact Nat.le.refl | (refine Nat.le.step ?_; k_extra "lts")))
  (k_with "cj" => (first | assumption | (refine' And.left ?a9; (case a9 => assumption)) | (refine' And.left (And.right ?a9); (case a9 => assumption)) | (refine' And.left (And.right (And.right ?a9)); (case a9 => assumption)) | (refine' And.left (And.right (And.right (And.right ?a9))); (case a9 => assumption)) | (refine' And.left (And.right (And.right (And.right (And.right ?a9)))); (case a9 => assumption)) | (refine' And.left (And.right (And.right (And.right (And.right (And.right ?a9))))); (case a9 => assumption)) | (refine' And.left (And.right (And.right (And.right (And.right (And.right (And.right ?a9)))))); (case a9 => assumption)) | (refine' And.left (And.right (And.right (And.right (And.right (And.right (And.right (And.right ?a9))))))); (case a9 => assumption)) | (refine' And.left (And.right (And.right (And.right (And.right (And.right (And.right (And.right (And.right ?a9)))))))); (case a9 => assumption)) | (refine' And.left (And.right (And.right (And.right (And.right (And.right (And.right (And.right (And.right (And.right ?a9))))))))); (case a9 => assumption)) | (refine' And.left (And.right (And.right (And.right (And.right (And.right (And.right (And.right (And.right (And.right (And.right ?a9)))))))))); (case a9 => assumption)) | (refine' And.left (And.right (And.right (And.right (And.right (And.right (And.right (And.right (And.right (And.right (And.right (And.right ?a9))))))))))); (case a9 => assumption))))
  (k_with "ne9" => (first | assumption | exact Ne.symm (by assumption) | (refine' Nat.ne_of_lt ?a8; (case a8 => first | assumption | k_extra "lts" | k_extra "cj" | (refine' Nat.lt_of_le_of_lt ?b9 ?c9; (case c9 => assumption); (case b9 => k_extra "lts")))) | (refine' Nat.ne_of_gt ?a8; (case a8 => first | assumption | k_extra "lts" | k_extra "cj" | (refine' Nat.lt_of_le_of_lt ?b9 ?c9; (case c9 => assumption); (case b9 => k_extra "lts")))) | ((try dsimp only); (repeat (rename @Ne Nat _ _ => q9; clear q9)); omega) | ((try dsimp only); omega)))
  (k_with "om" => (first | with_reducible assumption | (refine neN ?_; k_extra "ne9") | (refine' Nat.le_trans ?a9 ?b9; (case a9 => assumption); (case b9 => exact Nat.le_of_ble_eq_true rfl)) | (refine' le_eq_le ?a9 ?b9 ?c9; (case a9 => assumption); (case b9 => assumption); (case c9 => exact Nat.le_of_ble_eq_true rfl)) | (refine ltN ?_; k_extra "cj") | ((repeat (rename @Ne Nat _ _ => q9; clear q9)); omega) | omega))
  (k_with "room" => (first | (refine' room_of ?a9 ?b9; (case a9 => assumption); (case b9 => exact Nat.le_of_ble_eq_true rfl)) | omega))
  (k_with "call builtin:list.append" => ((k_here; (with_reducible show wpAny _ _ (call (Value.builtin "list.append") [Value.ref _, _]) _ _ _); k_dflt (refine' my_append ?k1 ?k2 ?k3 ?k4 ?_; (case k1 => k_asm); (case k2 => k_asm); (case k3 => k_upd); (case k4 => k_extra "om"); k_whole); intro _ _ _; (try k_sweep))))
  (k_with "memF" => (first | exact mem_head | with_reducible assumption | (refine' mem_tail ?_; k_extra "memF")))
  (k_with "memS" => (first | exact mem_head | assumption | (refine' mem_tail ?_; k_extra "memS")))
  (k_with "call type:list" => ((k_here; (with_reducible show wpAny _ _ (call (Value.type "list") [Value.ref _]) _ _ _); k_dflt (refine' my_listcopy ?k0 ?k1 ?k2 ?k3 ?_; (case k0 => k_asm); (case k1 => k_asm); (case k2 => k_mem); (case k3 => k_extra "om"); k_whole); intro _ _ _ _ _ _)))
  (k_with "call builtin:len" => ((k_here; (with_reducible show wpAny _ _ (call (Value.builtin "len") [Value.ref _]) _ _ _); k_dflt (refine' my_len ?k1 ?k2 ?k3 ?_; (case k1 => k_asm); (case k2 => k_mem); (case k3 => k_extra "om"); k_whole))))
  (k_with "subscriptTail" => ((k_here; (with_reducible show wpAny _ _ (subscriptTail _ _ (Value.ref _) (Value.int _ _)) _ _ _); k_dflt (refine' my_item ?k1 ?k2 ?k3 ?k4 ?k5 ?_; (case k1 => k_asm); (case k2 => k_mem); (case k3 => k_extra "om"); (case k4 => k_extra "om"); (case k5 => first | with_reducible assumption | rfl); k_whole))))
  (k_with "sub" => (first | with_reducible exact fun _ h => h | (refine' sub_cons ?m ?_; (case m => k_mem); k_extra "sub") | (refine sub_tail ?_; k_extra "sub")))
  (k_with "fin" => (((try k_extra "uq"); (try dsimp only [WEnd, TurnEnd, TurnEnd2]); (try k_extra "uq"); refine' fin_same ?F ?N ?S (And.intro rfl ?_); (case F => k_asm); (case N => k_asm); (case S => k_extra "sub"))))
  (k_with "bools" => (simp only [fitSr, axS_attr, *, Bool.or_true, Bool.true_or, Bool.not_true, Bool.false_and, Bool.and_false, Bool.not_false, Bool.true_and, Bool.and_true, Bool.or_self, Bool.or_false, Bool.false_or, Bool.and_self, Option.isNone_none, Option.isNone_some, beq_self_eq_true]))
  (k_with "finL" => (((try k_extra "uq"); refine' fin_new ?F ?N ?M ?S ⟨_, _, _, rfl, rfl, ?_, ?_⟩; (case F => k_asm); (case N => k_asm); (case M => k_mem); (case S => k_extra "sub"))))
  (k_with "tree" => (first | with_reducible assumption | (refine' TreeAt.mono ?h ?s; (case h => assumption); (case s => k_extra "sub"))))
  (k_with "call ref" => ((k_here; (with_reducible show wpAny _ _ (call (Value.ref 335) _) _ _ _); k_dflt (refine' row_use ?kB ?kF ?kX ?kN ?kT ?kk ?pre ?k1 ?k2 ?_; (case kB => k_asm); (case kF => k_asm); (case kX => k_asm); (case kN => k_asm); (case kT => k_asm); (case kk => exact rfl); (case pre => exact ⟨by k_extra "tree", by assumption⟩); (case k1 => k_extra "room"); (case k2 => k_extra "room"); k_whole); intro _ _ _ _ _ _ _ _ _ _ _ _ _ _ _ _ _ _ _ _ _ _ _ _ _ _ _ _ _ _ _ _ _ _ _ _ _ _ _; (try dsimp only); (try k_fold))))
  (k_with "call ref" => ((k_here; (with_reducible show wpAny _ _ (call (Value.ref 447) _) _ _ _); k_dflt (refine' parent_use ?kB ?kF ?kX ?kN ?kT ?kk ?pre ?k1 ?k2 ?_; (case kB => k_asm); (case kF => k_asm); (case kX => k_asm); (case kN => k_asm); (case kT => k_asm); (case kk => exact rfl); (case pre => exact ⟨by k_extra "tree", by assumption⟩); (case k1 => k_extra "room"); (case k2 => k_extra "room"); k_whole); intro _ _ _ _ _; (try dsimp only); (try k_fold))))
  (k_with "call ref" => ((k_here; (with_reducible show wpAny _ _ (call (Value.ref 412) _) _ _ _); k_dflt (refine' kind_use ?kB ?kF ?kX ?kN ?kT ?kk ?pre ?k1 ?k2 ?_; (case kB => k_asm); (case kF => k_asm); (case kX => k_asm); (case kN => k_asm); (case kT => k_asm); (case kk => exact rfl); (case pre => exact ⟨by k_extra "tree", by assumption⟩); (case k1 => k_extra "room"); (case k2 => k_extra "room"); k_whole); intro _ _ _ _ _; (try dsimp only); (try k_fold))))
  (k_with "call ref" => ((k_here; (with_reducible show wpAny _ _ (call (Value.ref 419) _) _ _ _); k_dflt (refine' name_use ?kB ?kF ?kX ?kN ?kT ?kk ?pre ?k1 ?k2 ?_; (case kB => k_asm); (case kF => k_asm); (case kX => k_asm); (case kN => k_asm); (case kT => k_asm); (case kk => exact rfl); (case pre => exact ⟨by k_extra "tree", by assumption⟩); (case k1 => k_extra "room"); (case k2 => k_extra "room"); k_whole); intro _ _ _ _ _; (try dsimp only); (try k_fold))))
  (k_with "call ref" => ((k_here; (with_reducible show wpAny _ _ (call (Value.ref 433) _) _ _ _); k_dflt (refine' local_use ?kB ?kF ?kX ?kN ?kT ?kk ?pre ?k1 ?k2 ?_; (case kB => k_asm); (case kF => k_asm); (case kX => k_asm); (case kN => k_asm); (case kT => k_asm); (case kk => exact rfl); (case pre => exact ⟨by k_extra "tree", by assumption⟩); (case k1 => k_extra "room"); (case k2 => k_extra "room"); k_whole); intro _ _ _ _ _; (try dsimp only); (try k_fold))))
  (k_with "call ref" => ((k_here; (with_reducible show wpAny _ _ (call (Value.ref 426) _) _ _ _); k_dflt (refine' uri_use ?kB ?kF ?kX ?kN ?kT ?kk ?pre ?k1 ?k2 ?_; (case kB => k_asm); (case kF => k_asm); (case kX => k_asm); (case kN => k_asm); (case kT => k_asm); (case kk => exact rfl); (case pre => exact ⟨by k_extra "tree", by assumption⟩); (case k1 => k_extra "room"); (case k2 => k_extra "room"); k_whole); intro _ _ _ _ _; (try dsimp only); (try k_fold))))
  (k_with "call ref" => ((k_here; (with_reducible show wpAny _ _ (call (Value.ref 447) _) _ _ _); k_dflt (refine' parent_two ?kB ?kF ?kX ?kN ?kT ?kk ?pre ?k1 ?k2 ?_ ?_; (case kB => k_asm); (case kF => k_asm); (case kX => k_asm); (case kN => k_asm); (case kT => k_asm); (case kk => exact rfl); (case pre => exact ⟨by k_extra "tree", by assumption⟩); (case k1 => k_extra "room"); (case k2 => k_extra "room")); (first | (intro _ _ _ _ _; (try dsimp only); (try k_fold)) | skip); (rotate_left; (intro _ _ _ _ _ _ _; (try dsimp only); (try k_fold)); rotate_left))))
  (k_with "call ref" => ((k_here; (with_reducible show wpAny _ _ (call (Value.ref 454) _) _ _ _); k_dflt (refine' children_use ?kB ?kF ?kX ?kN ?kT ?kk ?pre ?k1 ?k2 ?_; (case kB => k_asm); (case kF => k_asm); (case kX => k_asm); (case kN => k_asm); (case kT => k_asm); (case kk => exact rfl); (case pre => exact ⟨by k_extra "tree", by assumption⟩); (case k1 => k_extra "room"); (case k2 => k_extra "room"); k_whole); intro _ _ _ _ _ _ _ _ _ _ _; (try dsimp only); (try k_fold))))
  (k_with "call ref" => ((k_here; (with_reducible show wpAny _ _ (call (Value.ref 461) _) _ _ _); k_dflt (refine' attributes_use ?kB ?kF ?kX ?kN ?kT ?kk ?pre ?k1 ?k2 ?_; (case kB => k_asm); (case kF => k_asm); (case kX => k_asm); (case kN => k_asm); (case kT => k_asm); (case kk => exact rfl); (case pre => exact ⟨by k_extra "tree", by assumption⟩); (case k1 => k_extra "room"); (case k2 => k_extra "room"); k_whole); intro _ _ _ _ _ _ _ _ _ _ _; (try dsimp only); (try k_fold))))
  trivial
theorem word41 : True := by
  (k_with "ite" => ((k_dflt (refine ite_neg (kd_ns _) ?_))))
  (k_with "tst" => (first | with_reducible assumption | (refine' TstAt.mono ?h ?s; (case h => assumption); (case s => k_extra "sub"))))
  trivial
noncomputable abbrev prin_P (w : World) (b : Bool) (n : Tok) (news news' : Led) (v : Value) : Prop := news' = news ∧ ∃ tk, v = .str (prinS b) tk
theorem prin_ok {w : World} {mean : ExcName → Option Value} {mg mb : Str → Option Value} {b : Bool} {n : Tok} :
    Says w mean mg mb (4 + 1) (40 + 3) (.ref 72) [.str (axS b) n] (fun news => True) (prin_P w b n) := by
  k_dflt (refine' says_def [(Str.ofString "axis", .str (axS b) n)] ?k6 ?k7 ?k9 ?kB ?c2 ?c3 ?c4 ?c5 ?_; (case k6 => k_is); (case k7 => k_is); (case k9 => rfl); (case c5 => decide); (case kB => exact locs rfl); (case c2 => exact rfl); (case c3 => exact rfl); (case c4 => exact rfl); k_whole)
  intro dp un gd outer A₁ base g L news s B F X N TT hR hdp hu
  cases b
  all_goals ((try k_extra "gq"); k_steps; (all_goals try k_extra "uq"))
  all_goals (k_extra "fin"; exact ⟨_, rfl⟩)
theorem prin_use {w : World} {mean : ExcName → Option Value} {mg mb : Str → Option Value} {b : Bool} {n : Tok} : UseOf w mean mg mb 5 43 (.ref 72) [.str (axS b) n] (fun news => True) (fun news C => ∀ (tk : Tok), C (news) (fun G => G) (.str (prinS b) tk)) :=
  useOf prin_ok fun news news' r C hp ret => by
    obtain ⟨rfl, tk, rfl⟩ := hp
    exact ⟨_, ret tk, fun G h => h ⟩
theorem word42 : True := by
  (k_with "call ref" => ((k_here; (with_reducible show wpAny _ _ (call (Value.ref 72) _) _ _ _); k_dflt (refine' prin_use ?kB ?kF ?kX ?kN ?kT ?kk ?pre ?k1 ?k2 ?_; (case kB => k_asm); (case kF => k_asm); (case kX => k_asm); (case kN => k_asm); (case kT => k_asm); (case kk => exact rfl); (case pre => trivial); (case k1 => k_extra "room"); (case k2 => k_extra "room"); k_whole); intro _ _ _ _ _; (try dsimp only); (try k_fold))))
  trivial
noncomputable abbrev buri_P (w : World) (nv : Value) (n : Tok) (news news' : Led) (v : Value) : Prop := news' = news ∧ ∃ tk, v = .str (Str.ofString "") tk
theorem buri_ok {w : World} {mean : ExcName → Option Value} {mg mb : Str → Option Value} {nv : Value} {n : Tok} :
    Says w mean mg mb (4 + 1) (40 + 3) (.ref 79) [.str (Str.ofString "") n, nv] (fun news => True) (buri_P w nv n) := by
  k_dflt (refine' says_def [(Str.ofString "prefix", .str (Str.ofString "") n), (Str.ofString "names", nv)] ?k6 ?k7 ?k9 ?kB ?c2 ?c3 ?c4 ?c5 ?_; (case k6 => k_is); (case k7 => k_is); (case k9 => rfl); (case c5 => decide); (case kB => exact locs rfl); (case c2 => exact rfl); (case c3 => exact rfl); (case c4 => exact rfl); k_whole)
  intro dp un gd outer A₁ base g L news s B F X N TT hR hdp hu
  ((try k_extra "gq"); k_steps; (all_goals try k_extra "uq"))
  all_goals (k_extra "fin"; exact ⟨_, rfl⟩)
theorem buri_use {w : World} {mean : ExcName → Option Value} {mg mb : Str → Option Value} {nv : Value} {n : Tok} : UseOf w mean mg mb 5 43 (.ref 79) [.str (Str.ofString "") n, nv] (fun news => True) (fun news C => ∀ (tk : Tok), C (news) (fun G => G) (.str (Str.ofString "") tk)) :=
  useOf buri_ok fun news news' r C hp ret => by
    obtain ⟨rfl, tk, rfl⟩ := hp
    exact ⟨_, ret tk, fun G h => h ⟩
theorem word43 : True := by
  (k_with "call ref" => ((k_here; (with_reducible show wpAny _ _ (call (Value.ref 79) _) _ _ _); k_dflt (refine' buri_use ?kB ?kF ?kX ?kN ?kT ?kk ?pre ?k1 ?k2 ?_; (case kB => k_asm); (case kF => k_asm); (case kX => k_asm); (case kN => k_asm); (case kT => k_asm); (case kk => exact rfl); (case pre => trivial); (case k1 => k_extra "room"); (case k2 => k_extra "room"); k_whole); intro _ _ _ _ _; (try dsimp only); (try k_fold))))
  trivial
noncomputable abbrev named_P (w : World) (t : Addr) (T : MTree) (z : Int) (n : Tok) (r : MRow) (ta : Addr) (nv : Value) (nm : Str) (news news' : Led) (v : Value) : Prop := news' = news ∧ v = .bool (namedB r nm)
theorem named_ok {w : World} {mean : ExcName → Option Value} {mg mb : Str → Option Value} {t : Addr} {T : MTree} {z : Int} {n : Tok} {r : MRow} {ta : Addr} {nv : Value} {nm : Str} :
    Says w mean mg mb (10 + 1) (100 + 3) (.ref 86) [.ref t, .int z n, .ref ta, nv] (fun news => T3 (TreeAt w news t T) (rowOf T z = some r) (TstAt news ta (.name nm))) (named_P w t T z n r ta nv nm) := by
  k_dflt (refine' says_def [(Str.ofString "tree", .ref t), (Str.ofString "node", .int z n), (Str.ofString "test", .ref ta), (Str.ofString "names", nv)] ?k6 ?k7 ?k9 ?kB ?c2 ?c3 ?c4 ?c5 ?_; (case k6 => k_is); (case k7 => k_is); (case k9 => rfl); (case c5 => decide); (case kB => exact locs rfl); (case c2 => exact rfl); (case c3 => exact rfl); (case c4 => exact rfl); k_whole)
  intro dp un gd outer A₁ base g L news s B F X N TT hR hdp hu
  obtain ⟨hT, hz, hx⟩ := hR
  have hT' := hT
  obtain ⟨dt, rl, tk, k, vs, h1, h2, h3, hrows, hlen⟩ := hT'
  obtain ⟨t0, t1, t2, n9, h4⟩ := hx
  ((try k_extra "gq"); k_steps; (all_goals try k_extra "uq"))
  all_goals (k_extra "fin"; simp_all [namedB])
theorem named_use {w : World} {mean : ExcName → Option Value} {mg mb : Str → Option Value} {t : Addr} {T : MTree} {z : Int} {n : Tok} {r : MRow} {ta : Addr} {nv : Value} {nm : Str} : UseOf w mean mg mb 11 103 (.ref 86) [.ref t, .int z n, .ref ta, nv] (fun news => T3 (TreeAt w news t T) (rowOf T z = some r) (TstAt news ta (.name nm))) (fun news C => C (news) (fun G => G) (.bool (namedB r nm))) :=
  useOf named_ok fun news news' r C hp ret => by
    obtain ⟨rfl, rfl⟩ := hp
    exact ⟨_, ret , fun G h => h ⟩
theorem word44 : True := by
  (k_with "call ref" => ((k_here; (with_reducible show wpAny _ _ (call (Value.ref 86) _) _ _ _); k_dflt (refine' named_use ?kB ?kF ?kX ?kN ?kT ?kk ?pre ?k1 ?k2 ?_; (case kB => k_asm); (case kF => k_asm); (case kX => k_asm); (case kN => k_asm); (case kT => k_asm); (case kk => exact rfl); (case pre => exact ⟨by k_extra "tree", by assumption, by k_extra "tst"⟩); (case k1 => k_extra "room"); (case k2 => k_extra "room"); k_whole); intro _ _ _ _; (try dsimp only); (try k_fold))))
  trivial
noncomputable abbrev passes_P (w : World) (t : Addr) (T : MTree) (z : Int) (n : Tok) (r : MRow) (ta : Addr) (nv : Value) (x : Tst) (b : Bool) (n2 : Tok) (news news' : Led) (v : Value) : Prop := news' = news ∧ v = .bool (passB r x b)
theorem passes_ok {w : World} {mean : ExcName → Option Value} {mg mb : Str → Option Value} {t : Addr} {T : MTree} {z : Int} {n : Tok} {r : MRow} {ta : Addr} {nv : Value} {x : Tst} {b : Bool} {n2 : Tok} :
    Says w mean mg mb (20 + 1) (200 + 3) (.ref 93) [.ref t, .int z n, .str (axS b) n2, .ref ta, nv] (fun news => T3 (TreeAt w news t T) (rowOf T z = some r) (TstAt news ta x)) (passes_P w t T z n r ta nv x b n2) := by
  k_dflt (refine' says_def [(Str.ofString "tree", .ref t), (Str.ofString "node", .int z n), (Str.ofString "axis", .str (axS b) n2), (Str.ofString "test", .ref ta), (Str.ofString "names", nv)] ?k6 ?k7 ?k9 ?kB ?c2 ?c3 ?c4 ?c5 ?_; (case k6 => k_is); (case k7 => k_is); (case k9 => rfl); (case c5 => decide); (case kB => exact locs rfl); (case c2 => exact rfl); (case c3 => exact rfl); (case c4 => exact rfl); k_whole)
  intro dp un gd outer A₁ base g L news s B F X N TT hR hdp hu
  obtain ⟨hT, hz, hx⟩ := hR
  have hT' := hT
  obtain ⟨dt, rl, tk, k, vs, h1, h2, h3, hrows, hlen⟩ := hT'
  have hx' := hx
  cases x
  · obtain ⟨t0, t1, t2, n9, h4⟩ := hx
    ((try k_extra "gq"); k_steps; (all_goals try k_extra "uq"))
    all_goals (k_extra "fin"; simp_all [passB])
  all_goals
    obtain ⟨t0, n9, h4⟩ := hx
    ((try k_extra "gq"); k_steps; (all_goals try k_extra "uq"))
    all_goals (k_extra "fin"; simp_all [passB])
theorem passes_use {w : World} {mean : ExcName → Option Value} {mg mb : Str → Option Value} {t : Addr} {T : MTree} {z : Int} {n : Tok} {r : MRow} {ta : Addr} {nv : Value} {x : Tst} {b : Bool} {n2 : Tok} : UseOf w mean mg mb 21 203 (.ref 93) [.ref t, .int z n, .str (axS b) n2, .ref ta, nv] (fun news => T3 (TreeAt w news t T) (rowOf T z = some r) (TstAt news ta x)) (fun news C => C (news) (fun G => G) (.bool (passB r x b))) :=
  useOf passes_ok fun news news' r C hp ret => by
    obtain ⟨rfl, rfl⟩ := hp
    exact ⟨_, ret , fun G h => h ⟩
theorem word45 : True := by
  (k_with "call ref" => ((k_here; (with_reducible show wpAny _ _ (call (Value.ref 93) _) _ _ _); k_dflt (refine' passes_use ?kB ?kF ?kX ?kN ?kT ?kk ?pre ?k1 ?k2 ?_; (case kB => k_asm); (case kF => k_asm); (case kX => k_asm); (case kN => k_asm); (case kT => k_asm); (case kk => exact rfl); (case pre => exact ⟨by k_extra "tree", by assumption, by k_extra "tst"⟩); (case k1 => k_extra "room"); (case k2 => k_extra "room"); k_whole); intro _ _ _ _; (try dsimp only); (try k_fold))))
  trivial
noncomputable abbrev saxis_P (w : World) (t : Addr) (T : MTree) (z : Int) (n n2 : Tok) (r : MRow) (b : Bool) (news news' : Led) (v : Value) : Prop := ∃ D c vs, news' = (D, listOf vs.toArray c) :: news ∧ v = .ref D ∧ IntsAre vs (axL r b) ∧ (axL r b).length ≤ 1000
theorem saxis_ok {w : World} {mean : ExcName → Option Value} {mg mb : Str → Option Value} {t : Addr} {T : MTree} {z : Int} {n n2 : Tok} {r : MRow} {b : Bool} :
    Says w mean mg mb (10 + 1) (100 + 3) (.ref 161) [.ref t, .int z n, .str (axS b) n2] (fun news => TreeAt w news t T ∧ rowOf T z = some r) (saxis_P w t T z n n2 r b) := by
  k_dflt (refine' says_def [(Str.ofString "tree", .ref t), (Str.ofString "node", .int z n), (Str.ofString "name", .str (axS b) n2)] ?k6 ?k7 ?k9 ?kB ?c2 ?c3 ?c4 ?c5 ?_; (case k6 => k_is); (case k7 => k_is); (case k9 => rfl); (case c5 => decide); (case kB => exact locs rfl); (case c2 => exact rfl); (case c3 => exact rfl); (case c4 => exact rfl); k_whole)
  intro dp un gd outer A₁ base g L news s B F X N TT hR hdp hu
  obtain ⟨hT, hz⟩ := hR
  have hT' := hT
  obtain ⟨dt, rl, tk, k, vs, h1, h2, h3, hrows, hlen⟩ := hT'
  cases b
  all_goals ((try k_extra "gq"); k_steps; (all_goals try k_extra "uq"))
  all_goals (k_extra "finL" <;> (simp [axL, *] <;> first | assumption | exact IntsAre.nil))
theorem saxis_use {w : World} {mean : ExcName → Option Value} {mg mb : Str → Option Value} {t : Addr} {T : MTree} {z : Int} {n n2 : Tok} {r : MRow} {b : Bool} : UseOf w mean mg mb 11 103 (.ref 161) [.ref t, .int z n, .str (axS b) n2] (fun news => TreeAt w news t T ∧ rowOf T z = some r) (fun news C => ∀ (D : Addr) (c : Nat) (vs : List Value), C ((D, listOf vs.toArray c) :: news) (fun G => IntsAre vs (axL r b) → (axL r b).length ≤ 1000 → vs.length = (axL r b).length → G) (.ref D)) :=
  useOf saxis_ok fun news news' r C hp ret => by
    obtain ⟨D, c, vs, rfl, rfl, hf0, hf1⟩ := hp
    exact ⟨_, ret D c vs, fun G h => h hf0 hf1 hf0.length⟩
theorem word46 : True := by
  (k_with "call ref" => ((k_here; (with_reducible show wpAny _ _ (call (Value.ref 161) _) _ _ _); k_dflt (refine' saxis_use ?kB ?kF ?kX ?kN ?kT ?kk ?pre ?k1 ?k2 ?_; (case kB => k_asm); (case kF => k_asm); (case kX => k_asm); (case kN => k_asm); (case kT => k_asm); (case kk => exact rfl); (case pre => exact ⟨by k_extra "tree", by assumption⟩); (case k1 => k_extra "room"); (case k2 => k_extra "room"); k_whole); intro _ _ _ _ _ _ _ _ _ _; (try dsimp only); (try k_fold))))
  trivial
noncomputable abbrev axis_P (w : World) (t : Addr) (T : MTree) (z : Int) (n n2 : Tok) (r : MRow) (b : Bool) (news news' : Led) (v : Value) : Prop := ∃ D c vs, news' = (D, listOf vs.toArray c) :: news ∧ v = .ref D ∧ IntsAre vs (axL r b) ∧ (axL r b).length ≤ 1000
theorem axis_ok {w : World} {mean : ExcName → Option Value} {mg mb : Str → Option Value} {t : Addr} {T : MTree} {z : Int} {n n2 : Tok} {r : MRow} {b : Bool} :
    Says w mean mg mb (20 + 1) (200 + 3) (.ref 168) [.ref t, .int z n, .str (axS b) n2] (fun news => TreeAt w news t T ∧ rowOf T z = some r) (axis_P w t T z n n2 r b) := by
  k_dflt (refine' says_def [(Str.ofString "tree", .ref t), (Str.ofString "node", .int z n), (Str.ofString "name", .str (axS b) n2)] ?k6 ?k7 ?k9 ?kB ?c2 ?c3 ?c4 ?c5 ?_; (case k6 => k_is); (case k7 => k_is); (case k9 => rfl); (case c5 => decide); (case kB => exact locs rfl); (case c2 => exact rfl); (case c3 => exact rfl); (case c4 => exact rfl); k_whole)
  intro dp un gd outer A₁ base g L news s B F X N TT hR hdp hu
  obtain ⟨hT, hz⟩ := hR
  have hT' := hT
  obtain ⟨dt, rl, tk, k, vs, h1, h2, h3, hrows, hlen⟩ := hT'
  ((try k_extra "gq"); k_steps; (all_goals try k_extra "uq"))
  all_goals (k_extra "finL" <;> assumption)
theorem axis_use {w : World} {mean : ExcName → Option Value} {mg mb : Str → Option Value} {t : Addr} {T : MTree} {z : Int} {n n2 : Tok} {r : MRow} {b : Bool} : UseOf w mean mg mb 21 203 (.ref 168) [.ref t, .int z n, .str (axS b) n2] (fun news => TreeAt w news t T ∧ rowOf T z = some r) (fun news C => ∀ (D : Addr) (c : Nat) (vs : List Value), C ((D, listOf vs.toArray c) :: news) (fun G => IntsAre vs (axL r b) → (axL r b).length ≤ 1000 → vs.length = (axL r b).length → G) (.ref D)) :=
  useOf axis_ok fun news news' r C hp ret => by
    obtain ⟨D, c, vs, rfl, rfl, hf0, hf1⟩ := hp
    exact ⟨_, ret D c vs, fun G h => h hf0 hf1 hf0.length⟩
theorem word47 : True := by
  (k_with "call ref" => ((k_here; (with_reducible show wpAny _ _ (call (Value.ref 168) _) _ _ _); k_dflt (refine' axis_use ?kB ?kF ?kX ?kN ?kT ?kk ?pre ?k1 ?k2 ?_; (case kB => k_asm); (case kF => k_asm); (case kX => k_asm); (case kN => k_asm); (case kT => k_asm); (case kk => exact rfl); (case pre => exact ⟨by k_extra "tree", by assumption⟩); (case k1 => k_extra "room"); (case k2 => k_extra "room"); k_whole); intro _ _ _ _ _ _ _ _ _ _; (try dsimp only); (try k_fold))))
  trivial
noncomputable abbrev lvalue_P (w : World) (e d : Addr) (nv p sz : Value) (q : Addr) (tq : Nat) (u : Tok) (news news' : Led) (v : Value) : Prop := news' = news ∧ v = .ref q
theorem lvalue_ok {w : World} {mean : ExcName → Option Value} {mg mb : Str → Option Value} {e d : Addr} {nv p sz : Value} {q : Addr} {tq : Nat} {u : Tok} :
    Says w mean mg mb (10 + 1) (100 + 3) (.ref 633) [.ref e, nv, p, sz] (fun news => (e, instObj 525 d) ∈ news ∧ (d, dictOf [⟨PyData.keyHash w.params (Str.ofString "value"), .str (Str.ofString "value") u, .ref q⟩] tq) ∈ news) (lvalue_P w e d nv p sz q tq u) := by
  k_dflt (refine' says_def [(Str.ofString "expr", .ref e), (Str.ofString "node", nv), (Str.ofString "position", p), (Str.ofString "size", sz)] ?k6 ?k7 ?k9 ?kB ?c2 ?c3 ?c4 ?c5 ?_; (case k6 => k_is); (case k7 => k_is); (case k9 => rfl); (case c5 => decide); (case kB => exact locs rfl); (case c2 => exact rfl); (case c3 => exact rfl); (case c4 => exact rfl); k_whole)
  intro dp un gd outer A₁ base g L news s B F X N TT hR hdp hu
  obtain ⟨h1, h2⟩ := hR
  ((try k_extra "gq"); k_steps; (all_goals try k_extra "uq"))
  all_goals (k_extra "fin"; rfl)
theorem lvalue_use {w : World} {mean : ExcName → Option Value} {mg mb : Str → Option Value} {e d : Addr} {nv p sz : Value} {q : Addr} {tq : Nat} {u : Tok} : UseOf w mean mg mb 11 103 (.ref 633) [.ref e, nv, p, sz] (fun news => (e, instObj 525 d) ∈ news ∧ (d, dictOf [⟨PyData.keyHash w.params (Str.ofString "value"), .str (Str.ofString "value") u, .ref q⟩] tq) ∈ news) (fun news C => C (news) (fun G => G) (.ref q)) :=
  useOf lvalue_ok fun news news' r C hp ret => by
    obtain ⟨rfl, rfl⟩ := hp
    exact ⟨_, ret , fun G h => h ⟩
theorem word48 : True := by
  (k_with "call ref" => ((k_here; (with_reducible show wpAny _ _ (call (Value.ref 633) _) _ _ _); k_dflt (refine' lvalue_use ?kB ?kF ?kX ?kN ?kT ?kk ?pre ?k1 ?k2 ?_; (case kB => k_asm); (case kF => k_asm); (case kX => k_asm); (case kN => k_asm); (case kT => k_asm); (case kk => exact rfl); (case pre => exact ⟨by k_mem, by k_mem⟩); (case k1 => k_extra "room"); (case k2 => k_extra "room"); k_whole); intro _ _ _ _; (try dsimp only); (try k_fold))))
  trivial
noncomputable abbrev holds_P (w : World) (q : Addr) (p i : Int) (tq : Nat) (u1 u2 u3 : Tok) (news news' : Led) (v : Value) : Prop := news' = news ∧ v = .bool (p == i)
theorem holds_ok {w : World} {mean : ExcName → Option Value} {mg mb : Str → Option Value} {q : Addr} {p i : Int} {tq : Nat} {u1 u2 u3 : Tok} :
    Says w mean mg mb (10 + 1) (100 + 3) (.ref 175) [.ref q, .int i u3] (fun news => (q, tupOf #[.int p u1, .int 1 u2] tq) ∈ news) (holds_P w q p i tq u1 u2 u3) := by
  k_dflt (refine' says_def [(Str.ofString "value", .ref q), (Str.ofString "position", .int i u3)] ?k6 ?k7 ?k9 ?kB ?c2 ?c3 ?c4 ?c5 ?_; (case k6 => k_is); (case k7 => k_is); (case k9 => rfl); (case c5 => decide); (case kB => exact locs rfl); (case c2 => exact rfl); (case c3 => exact rfl); (case c4 => exact rfl); k_whole)
  intro dp un gd outer A₁ base g L news s B F X N TT hR hdp hu
  ((try k_extra "gq"); k_steps; (all_goals try k_extra "uq"))
  all_goals (k_extra "fin"; rfl)
theorem holds_use {w : World} {mean : ExcName → Option Value} {mg mb : Str → Option Value} {q : Addr} {p i : Int} {tq : Nat} {u1 u2 u3 : Tok} : UseOf w mean mg mb 11 103 (.ref 175) [.ref q, .int i u3] (fun news => (q, tupOf #[.int p u1, .int 1 u2] tq) ∈ news) (fun news C => C (news) (fun G => G) (.bool (p == i))) :=
  useOf holds_ok fun news news' r C hp ret => by
    obtain ⟨rfl, rfl⟩ := hp
    exact ⟨_, ret , fun G h => h ⟩
theorem word49 : True := by
  (k_with "call ref" => ((k_here; (with_reducible show wpAny _ _ (call (Value.ref 175) _) _ _ _); k_dflt (refine' holds_use ?kB ?kF ?kX ?kN ?kT ?kk ?pre ?k1 ?k2 ?_; (case kB => k_asm); (case kF => k_asm); (case kX => k_asm); (case kN => k_asm); (case kT => k_asm); (case kk => exact rfl); (case pre => k_mem); (case k1 => k_extra "room"); (case k2 => k_extra "room"); k_whole); intro _ _ _ _; (try dsimp only); (try k_fold))))
  trivial
theorem word50 : True := by
  (k_with "exec For" => ((k_here; k_dflt (refine wpAny_For ?_); (try k_fold))))
  (k_with "exec For Name Name cons nil" => ((k_here; k_dflt (refine wpAny_For ?_); (try k_fold))))
  (k_with "exec For Name Call cons nil" => ((k_here; k_dflt (refine wpAny_For ?_); (try k_fold))))
  (k_with "exec For Tuple Name cons nil" => ((k_here; k_dflt (refine wpAny_For ?_); (try k_fold))))
  (k_with "exec For Tuple Call cons nil" => ((k_here; k_dflt (refine wpAny_For ?_); (try k_fold))))
  (k_with "exec For Name Attribute cons nil" => ((k_here; k_dflt (refine wpAny_For ?_); (try k_fold))))
  (k_with "pyIter ref" => ((k_here; refine stop_of ?_)))
  (k_with "call type:enumerate" => ((k_here; refine stop_of ?_)))
  (k_with "pred" => (first | with_reducible assumption | (refine' PredAt.mono ?h ?s; (case h => assumption); (case s => k_extra "sub"))))
  trivial
noncomputable abbrev kept_P (w : World) (l pl : Addr) (us : List Value) (c : Nat) (ns : List Int) (ps : Option Int) (news news' : Led) (v : Value) : Prop := ∃ D c vs, news' = (D, listOf vs.toArray c) :: news ∧ v = .ref D ∧ IntsAre vs (selP ps ns) ∧ (selP ps ns).length ≤ 1000
theorem kept_ok {w : World} {mean : ExcName → Option Value} {mg mb : Str → Option Value} {l pl : Addr} {us : List Value} {c : Nat} {ns : List Int} {ps : Option Int} :
    Says w mean mg mb (20 + 1) (200 + 3) (.ref 182) [.ref l, .ref pl, .ref 633] (fun news => T5 ((l, listOf us.toArray c) ∈ news) (IntsAre us ns) (ns.length ≤ 1000) (PredAt w news pl ps) (∀ p, ps = some p → 1 ≤ p)) (kept_P w l pl us c ns ps) := by
  k_dflt (refine' says_def [(Str.ofString "nodes", .ref l), (Str.ofString "predicates", .ref pl), (Str.ofString "value_of", .ref 633)] ?k6 ?k7 ?k9 ?kB ?c2 ?c3 ?c4 ?c5 ?_; (case k6 => k_is); (case k7 => k_is); (case k9 => rfl); (case c5 => decide); (case kB => exact locs rfl); (case c2 => exact rfl); (case c3 => exact rfl); (case c4 => exact rfl); k_whole)
  intro dp un gd outer A₁ base g L news s B F X N TT hR hdp hu
  obtain ⟨hl, hi, hn, hp, hp1⟩ := hR
  have hle := hi.length
  ((try k_extra "gq"); k_steps; (all_goals try k_extra "uq"))
  cases ps with
  | none =>
    obtain ⟨k, hp⟩ := hp
    let jj8 : Nat → List Value → (Str → Option Value) → Led → Prop := (fun i us' m₁ news₁ => T3 (us' = []) (Knows m₁ [(Str.ofString "nodes", .ref l)]) (news₁ = news))
    refine go_on (iter_list 0 jj8 rfl (by k_asm) (by k_asm) ⟨rfl, ⟨rfl, trivial⟩, rfl⟩ ?_ ?_ ?_)
    · rintro i us' m₁ news₁ ⟨rfl, h1, rfl⟩
      exact ⟨Nat.le_refl _, _, hp⟩
    · rintro i us' v m₁ news₁ it oi h tk ⟨rfl, h1, rfl⟩ hv
      simp at hv
    · rintro i us' m₁ news₁ h tk ⟨rfl, h1, rfl⟩ _ _ F' N'
      replace F' : Fr g L h _ := frOver F' h1
      replace N' : News g L h _ := N'
      ((try k_extra "gq"); k_steps; (all_goals try k_extra "uq"))
      k_extra "finL" <;> assumption
  | some p =>
    obtain ⟨e, d, q, u, u1, u2, t1, t2, k, hp, h2, h3, h4⟩ := hp
    have hp1 := hp1 p rfl
    let jj9 : Nat → List Value → (Str → Option Value) → Led → Prop := (fun i us' m₁ news₁ => us' = [.ref e] ∧ ((i = 0 ∧ Knows m₁ [(Str.ofString "nodes", .ref l), (Str.ofString "value_of", .ref 633)] ∧ news₁ = news) ∨ (1 ≤ i ∧ ∃ D c vs, Knows m₁ [(Str.ofString "nodes", .ref D)] ∧ news₁ = (D, listOf vs.toArray c) :: news ∧ IntsAre vs (selP (some p) ns))))
    refine go_on (iter_list 1 jj9 rfl (by k_asm) (by k_asm) ⟨rfl, .inl ⟨rfl, ⟨rfl, rfl, trivial⟩, rfl⟩⟩ ?_ ?_ ?_)
    · rintro i us' m₁ news₁ ⟨rfl, ⟨_, _, rfl⟩ | ⟨_, D, c, vs, _, rfl, _⟩⟩
      · exact ⟨Nat.le_refl _, _, hp⟩
      · exact ⟨Nat.le_refl _, _, .tail _ hp⟩
    · rintro i us' v m₁ news₁ it oi h tk ⟨rfl, hJ⟩ hv F' N' off'
      rcases hJ with ⟨rfl, hK, hnn⟩ | ⟨hi1, _⟩
      · simp only [List.getElem?_cons_zero, Option.some.injEq] at hv
        subst hv
        subst news₁
        replace F' : Fr g L h _ := frOver F' hK
        replace N' : News g L h _ := N'
        ((try k_extra "gq"); k_steps; (all_goals try k_extra "uq"))
        let jj10 : Nat → (Str → Option Value) → Led → Prop := (fun j m₂ news₂ => X4 (fun fd fvs cf tz => T4 (Knows m₂ [(Str.ofString "found", .ref fd), (Str.ofString "size", .int us.length tz), (Str.ofString "predicate", .ref e), (Str.ofString "nodes", .ref l), (Str.ofString "value_of", .ref 633)]) (news₂ = (fd, listOf fvs.toArray cf) :: (it, oi) :: news) (IntsAre fvs (((ns.take j).drop (p - 1).toNat).take 1)) (@LT.lt Nat _ it fd ∧ AllLt fd news)))
        refine go_on (iter_enum jj10 rfl rfl rfl rfl (by k_asm) (by k_asm) (List.Mem.tail _ (List.Mem.tail _ hl)) ⟨_, _, _, _, ⟨rfl, rfl, rfl, rfl, rfl, trivial⟩, rfl, (by rw [List.take_zero, List.drop_nil]; exact .nil), by assumption⟩ ?_ ?_ ?_)
        · rintro j m₂ news₂ ⟨fd, fvs, cf, tz, _, rfl, _⟩
          exact ⟨_, List.Mem.tail _ (List.Mem.tail _ hl)⟩
        · rintro j v m₂ news₂ e2 it2 oe oi2 h5 tk5 t5 ⟨fd, fvs, cf, tz, hK2, rfl, hfv, hlt⟩ hv F5 N5 off5
          have hne := off5 _ (.head _)
          dsimp only at hne
          obtain ⟨n, tn, rfl, hnj⟩ := hi.at j v hv
          have hfl := hfv.length
          have hfl2 : (((ns.take j).drop (p - 1).toNat).take 1).length ≤ 1 := by simp; k_extra "om"
          have hjl : j < ns.length := by
            rcases Nat.lt_or_ge j ns.length with h | h
            · exact h
            · rw [List.getElem?_eq_none h] at hnj; cases hnj
          have hst := sel_step hp1 hjl
          have hnj' : ns[j] = n := by rw [List.getElem?_eq_getElem hjl] at hnj; exact Option.some.inj hnj
          rw [hnj'] at hst
          replace F5 : Fr g L h5 _ := frOver F5 (knows_upd (knows_upd hK2 rfl) rfl)
          replace N5 : News g L h5 _ := N5
          ((try k_extra "gq"); k_steps; (all_goals try k_extra "uq"))
          · rename p = (j : Int) + 1 => hc
            rw [if_pos (by simpa using hc)] at hst
            refine ⟨_, (fd, listOf (fvs ++ [Value.int n tn]).toArray (cf + 1)) :: _, _, _, rfl, by k_asm, by k_asm, off2_keys off5 rfl, _, _, _, _, ⟨rfl, rfl, rfl, rfl, rfl, trivial⟩, rfl, ?_, hlt⟩
            rw [hst]
            exact hfv.append (.cons _ _ .nil)
          · rename p ≠ (j : Int) + 1 => hc
            rw [if_neg (by simpa using hc)] at hst
            refine ⟨_, _, _, _, rfl, by k_asm, by k_asm, off5, _, _, _, _, ⟨rfl, rfl, rfl, rfl, rfl, trivial⟩, rfl, ?_, hlt⟩
            rw [hst]
            exact hfv
        · rintro m₂ news₂ h5 tk5 ⟨fd, fvs, cf, tz, hK2, rfl, hfv, hlt⟩ F5 N5
          replace F5 : Fr g L h5 _ := frOver F5 hK2
          replace N5 : News g L h5 _ := N5
          ((try k_extra "gq"); k_steps; (all_goals try k_extra "uq"))
          rw [hle, List.take_length] at hfv
          refine ⟨_, (fd, listOf fvs.toArray cf) :: news, _, _, rfl, by k_asm, ?_, ?_, _, rfl, .inr ⟨Nat.le_refl _, _, _, _, ⟨rfl, trivial⟩, rfl, hfv⟩⟩
          · rename News g L _ _ => N9
            exact fun p hp => N9 p (sub_cons (.tail _ (.head _)) (sub_cons (.head _) (sub_tail (sub_tail fun _ h => h))) p hp)
          · intro p hp
            rcases List.mem_cons.mp hp with rfl | hp
            · exact Nat.ne_of_gt hlt.1
            · exact off' p hp
      · rw [List.getElem?_eq_none (by simpa using hi1)] at hv
        cases hv
    · rintro i us' m₁ news₁ h tk ⟨rfl, hJ⟩ hi1 hi2 F' N'
      rcases hJ with ⟨rfl, hK, rfl⟩ | ⟨hi1, D, c, vs, hK, rfl, hvs⟩
      · simp at hi1
      · replace F' : Fr g L h _ := frOver F' hK
        replace N' : News g L h _ := N'
        ((try k_extra "gq"); k_steps; (all_goals try k_extra "uq"))
        k_extra "finL"
        · assumption
        · simp [selP]; k_extra "om"
theorem kept_use {w : World} {mean : ExcName → Option Value} {mg mb : Str → Option Value} {l pl : Addr} {us : List Value} {c : Nat} {ns : List Int} {ps : Option Int} : UseOf w mean mg mb 21 203 (.ref 182) [.ref l, .ref pl, .ref 633] (fun news => T5 ((l, listOf us.toArray c) ∈ news) (IntsAre us ns) (ns.length ≤ 1000) (PredAt w news pl ps) (∀ p, ps = some p → 1 ≤ p)) (fun news C => ∀ (D : Addr) (c : Nat) (vs : List Value), C ((D, listOf vs.toArray c) :: news) (fun G => IntsAre vs (selP ps ns) → (selP ps ns).length ≤ 1000 → vs.length = (selP ps ns).length → G) (.ref D)) :=
  useOf kept_ok fun news news' r C hp ret => by
    obtain ⟨D, c, vs, rfl, rfl, hf0, hf1⟩ := hp
    exact ⟨_, ret D c vs, fun G h => h hf0 hf1 hf0.length⟩
theorem word51 : True := by
  (k_with "call ref" => ((k_here; (with_reducible show wpAny _ _ (call (Value.ref 182) _) _ _ _); k_dflt (refine' kept_use ?kB ?kF ?kX ?kN ?kT ?kk ?pre ?k1 ?k2 ?_; (case kB => k_asm); (case kF => k_asm); (case kX => k_asm); (case kN => k_asm); (case kT => k_asm); (case kk => exact rfl); (case pre => exact ⟨by k_mem, by assumption, by assumption, by k_extra "pred", by assumption⟩); (case k1 => k_extra "room"); (case k2 => k_extra "room"); k_whole); intro _ _ _ _ _ _ _ _ _ _; (try dsimp only); (try k_fold))))
  trivial
theorem word52 : True := by
  (k_with "eval Name" => ((k_here; (with_reducible show wpAny _ _ (eval (Expr.Name _ _) (compEnvC _ _ _ _)) _ _ _); k_dflt (first | (refine' LCgL.ld_own ?N ?M ?C ?X ?_; (case N => k_asm); (case M => k_mem); (case C => assumption); (case X => assumption); k_whole) | (refine' ld_cell ?N ?c ?M ?d ?_ ?k ?x ?b; (case c => rfl); (case N => k_asm); (case M => k_mem); (case d => assumption); (case k => rfl); (case x => rfl); (case b => decide); k_whole) | refine LCgL.ld_global (by k_asm) (by k_asm) (by k_asm) (by k_is) ?_))))
  (k_with "eval ListComp" => ((k_here; k_dflt (refine' my_comp ?c1 ?c2 ?c3 ?_ (by intro _; rfl); (case c1 => with_unfolding_all rfl); (case c2 => exact rfl); (case c3 => decide)); (try k_fold))))
  (k_with "exec Assign cons ListComp" => ((k_here; k_dflt (refine' my_comp_use ?c0 ?c1 ?c2 ?c3 ?_ (by intro _; rfl); (case c0 => with_unfolding_all rfl); (case c1 => with_unfolding_all rfl); (case c2 => exact rfl); (case c3 => decide)); (try k_fold))))
  (k_with "step" => (first | with_reducible assumption | (refine' StepAt.mono ?h ?s; (case h => assumption); (case s => k_extra "sub"))))
  trivial
noncomputable abbrev stepfrom_P (w : World) (t st : Addr) (T : MTree) (z : Int) (n : Tok) (r : MRow) (nv : Value) (b : Bool) (x : Tst) (ps : Option Int) (news news' : Led) (v : Value) : Prop := ∃ D c vs, news' = (D, listOf vs.toArray c) :: news ∧ v = .ref D ∧ IntsAre vs (selM T r b x ps) ∧ (selM T r b x ps).length ≤ 1000
theorem stepfrom_ok {w : World} {mean : ExcName → Option Value} {mg mb : Str → Option Value} {t st : Addr} {T : MTree} {z : Int} {n : Tok} {r : MRow} {nv : Value} {b : Bool} {x : Tst} {ps : Option Int} :
    Says w mean mg mb (40 + 1) (400 + 3) (.ref 187) [.ref t, .int z n, .ref st, nv, .ref 633] (fun news => T5 (TreeAt w news t T) (rowOf T z = some r) (StepAt w news st b x ps) (∀ c ∈ axL r b, ∃ r', rowOf T c = some r') ((axL r b).length ≤ 1000)) (stepfrom_P w t st T z n r nv b x ps) := by
  k_dflt (refine' says_defC [(Str.ofString "tree", .ref t), (Str.ofString "node", .int z n), (Str.ofString "step", .ref st), (Str.ofString "names", nv), (Str.ofString "value_of", .ref 633)] ?k6 ?k7 ?k9 ?kB ?kD ?c2 ?c3 ?c4 ?_; (case k6 => k_is); (case k7 => k_is); (case k9 => rfl); (case kB => rfl); (case kD => decide); (case c2 => exact rfl); (case c3 => exact rfl); (case c4 => exact rfl); k_whole)
  intro dp un gd outer A₁ base g L news cells s B F X N hY hlL TT hR hdp hu
  obtain ⟨hT, hz, hst, hch, hal⟩ := hR
  obtain ⟨o1, o2, o3, rfl, hc1, hc2, hc3⟩ := CellsAre.three (show CellsAre _ [(_, _), (_, _), (_, _)] _ from hY)
  replace N : News g L s.heap ((_, o1) :: (_, o2) :: (_, o3) :: news) := N
  replace hc1 : o1.data = .cell (some nv) := hc1
  replace hc2 : o2.data = .cell (some (.ref st)) := hc2
  replace hc3 : o3.data = .cell (some (.ref t)) := hc3
  clear hY
  have hst' := hst
  obtain ⟨sd, tt, pl, t0, t1, t2, ta, hs1, hs2, hs3, hs4, hs5⟩ := hst'
  ((try k_extra "gq"); k_steps; (all_goals try k_extra "uq"))
  rename_i D1 c1 vs1 h1 tk1 F1 N1 hi1 hln1 hle1
  refine go_on (comp_list_use (us := vs1) 1000 (fun i ys news' => news' = (D1, listOf vs1.toArray c1) :: (_, o1) :: (_, o2) :: (_, o3) :: news ∧ IntsAre ys (((axL r b).take i).filter (passAt T x b)))
    rfl rfl rfl rfl (by decide) rfl rfl (by decide) (by k_asm) (by k_asm) ⟨rfl, .nil⟩ ?_ ?_ ?_)
  · rintro i ys news' ⟨rfl, hys⟩
    refine ⟨⟨_, .head _⟩, ?_⟩
    rw [hys.length]
    exact Nat.le_trans (List.length_filter_le _ _) (by rw [List.length_take]; k_extra "om")
  · rintro i ys v it oi C oC D m₃ h2 tk2 news₁ hv ⟨rfl, hys⟩ hoC hmx F2 N2 off hne
    obtain ⟨n2, tn, rfl, hn2⟩ := hi1.at i v hv
    have hfs := filter_step (f := passAt T x b) hn2
    obtain ⟨r2, hr2⟩ := hch n2 (List.mem_of_getElem? hn2)
    unfold CTurn
    dsimp only
    ((try k_extra "gq"); k_steps; (all_goals try k_extra "uq"))
    · refine ⟨_, _, _, rfl, by k_asm, by k_asm, off, rfl, ?_⟩
      rw [hfs, if_pos (by simp only [passAt, hr2]; assumption)]
      exact hys.append (.cons _ _ .nil)
    · refine ⟨_, _, _, rfl, by k_asm, by k_asm, off, rfl, ?_⟩
      rw [hfs, if_neg (by simp only [passAt, hr2]; simp_all)]
      exact hys
  · rintro ys D h2 tk2 news₁ ⟨rfl, hys⟩ F2 N2 off
    rw [hle1, List.take_length] at hys
    have hfl : ((axL r b).filter (passAt T x b)).length ≤ 1000 := Nat.le_trans (List.length_filter_le _ _) hal
    ((try k_extra "gq"); k_steps; (all_goals try k_extra "uq"))
    k_extra "finL" <;> assumption
theorem stepfrom_use {w : World} {mean : ExcName → Option Value} {mg mb : Str → Option Value} {t st : Addr} {T : MTree} {z : Int} {n : Tok} {r : MRow} {nv : Value} {b : Bool} {x : Tst} {ps : Option Int} : UseOf w mean mg mb 41 403 (.ref 187) [.ref t, .int z n, .ref st, nv, .ref 633] (fun news => T5 (TreeAt w news t T) (rowOf T z = some r) (StepAt w news st b x ps) (∀ c ∈ axL r b, ∃ r', rowOf T c = some r') ((axL r b).length ≤ 1000)) (fun news C => ∀ (D : Addr) (c : Nat) (vs : List Value), C ((D, listOf vs.toArray c) :: news) (fun G => IntsAre vs (selM T r b x ps) → (selM T r b x ps).length ≤ 1000 → vs.length = (selM T r b x ps).length → G) (.ref D)) :=
  useOf stepfrom_ok fun news news' r C hp ret => by
    obtain ⟨D, c, vs, rfl, rfl, hf0, hf1⟩ := hp
    exact ⟨_, ret D c vs, fun G h => h hf0 hf1 hf0.length⟩
theorem word53 : True := by
  (k_with "call ref" => ((k_here; (with_reducible show wpAny _ _ (call (Value.ref 187) _) _ _ _); k_dflt (refine' stepfrom_use ?kB ?kF ?kX ?kN ?kT ?kk ?pre ?k1 ?k2 ?_; (case kB => k_asm); (case kF => k_asm); (case kX => k_asm); (case kN => k_asm); (case kT => k_asm); (case kk => exact rfl); (case pre => exact ⟨by k_extra "tree", by assumption, by k_extra "step", by assumption, by assumption⟩); (case k1 => k_extra "room"); (case k2 => k_extra "room"); k_whole); intro _ _ _ _ _ _ _ _ _ _; (try dsimp only); (try k_fold))))
  trivial
theorem word54 : True := by
  (k_with "look" => (first | with_reducible assumption | (refine' LookAt.mono ?h ?s; (case h => assumption); (case s => k_extra "sub"))))
  (k_with "part" => (first | with_reducible assumption | (refine' PartAt.mono ?h ?s; (case h => assumption); (case s => k_extra "sub"))))
  (k_with "pat" => (first | with_reducible assumption | (refine' PatAt.mono ?h ?s; (case h => assumption); (case s => k_extra "sub"))))
  trivial
noncomputable abbrev started_P (w : World) (t lk : Addr) (T : MTree) (z : Int) (n ts : Tok) (r : MRow) (news news' : Led) (v : Value) : Prop := news' = news ∧ v = .bool (r.kd.s == Str.ofString "root")
theorem started_ok {w : World} {mean : ExcName → Option Value} {mg mb : Str → Option Value} {t lk : Addr} {T : MTree} {z : Int} {n ts : Tok} {r : MRow} :
    Says w mean mg mb (30 + 1) (300 + 3) (.ref 271) [.str (Str.ofString "root") ts, .int z n, .ref lk] (fun news => T3 (TreeAt w news t T) (rowOf T z = some r) (LookAt w news lk t)) (started_P w t lk T z n ts r) := by
  k_dflt (refine' says_def [(Str.ofString "start", .str (Str.ofString "root") ts), (Str.ofString "node", .int z n), (Str.ofString "look", .ref lk)] ?k6 ?k7 ?k9 ?kB ?c2 ?c3 ?c4 ?c5 ?_; (case k6 => k_is); (case k7 => k_is); (case k9 => rfl); (case c5 => decide); (case kB => exact locs rfl); (case c2 => exact rfl); (case c3 => exact rfl); (case c4 => exact rfl); k_whole)
  intro dp un gd outer A₁ base g L news s B F X N TT hR hdp hu
  obtain ⟨hT, hz, hlk⟩ := hR
  have hT' := hT
  obtain ⟨dt, rl, tkT, kT, vsT, hT1, hT2, _⟩ := hT'
  have hlk' := hlk
  obtain ⟨ld, nv, lt0, lt1, lt2, hl1, hl2⟩ := hlk'
  ((try k_extra "gq"); k_steps; (all_goals try k_extra "uq"))
  k_extra "fin"
  rfl
theorem started_use {w : World} {mean : ExcName → Option Value} {mg mb : Str → Option Value} {t lk : Addr} {T : MTree} {z : Int} {n ts : Tok} {r : MRow} : UseOf w mean mg mb 31 303 (.ref 271) [.str (Str.ofString "root") ts, .int z n, .ref lk] (fun news => T3 (TreeAt w news t T) (rowOf T z = some r) (LookAt w news lk t)) (fun news C => C (news) (fun G => G) (.bool (r.kd.s == Str.ofString "root"))) :=
  useOf started_ok fun news news' r C hp ret => by
    obtain ⟨rfl, rfl⟩ := hp
    exact ⟨_, ret , fun G h => h ⟩
theorem word55 : True := by
  (k_with "call ref" => ((k_here; (with_reducible show wpAny _ _ (call (Value.ref 271) _) _ _ _); k_dflt (refine' started_use ?kB ?kF ?kX ?kN ?kT ?kk ?pre ?k1 ?k2 ?_; (case kB => k_asm); (case kF => k_asm); (case kX => k_asm); (case kN => k_asm); (case kT => k_asm); (case kk => exact rfl); (case pre => exact ⟨by k_extra "tree", by assumption, by k_extra "look"⟩); (case k1 => k_extra "room"); (case k2 => k_extra "room"); k_whole); intro _ _ _ _; (try dsimp only); (try k_fold))))
  trivial
noncomputable abbrev fitsstep_P (w : World) (t lk st : Addr) (T : MTree) (z : Int) (n : Tok) (r : MRow) (p : PSp) (news news' : Led) (v : Value) : Prop := news' = news ∧ v = .bool (fitSr T p z r)
theorem fitsstep_ok {w : World} {mean : ExcName → Option Value} {mg mb : Str → Option Value} {t lk st : Addr} {T : MTree} {z : Int} {n : Tok} {r : MRow} {p : PSp} :
    Says w mean mg mb (60 + 1) (600 + 3) (.ref 285) [.ref st, .int z n, .ref lk] (fun news => T5 (TreeAt w news t T) (rowOf T z = some r) (LookAt w news lk t) (StepAt w news st p.attr p.tst p.pos) (WFl T)) (fitsstep_P w t lk st T z n r p) := by
  k_dflt (refine' says_def [(Str.ofString "step", .ref st), (Str.ofString "node", .int z n), (Str.ofString "look", .ref lk)] ?k6 ?k7 ?k9 ?kB ?c2 ?c3 ?c4 ?c5 ?_; (case k6 => k_is); (case k7 => k_is); (case k9 => rfl); (case c5 => decide); (case kB => exact locs rfl); (case c2 => exact rfl); (case c3 => exact rfl); (case c4 => exact rfl); k_whole)
  intro dp un gd outer A₁ base g L news s B F X N TT hR hdp hu
  obtain ⟨hT, hz, hlk, hst, hW⟩ := hR
  obtain ⟨b, x, ps, dp'⟩ := p
  dsimp only at hst
  have hT' := hT
  obtain ⟨dt, rl, tkT, kT, vsT, hT1, hT2, _⟩ := hT'
  have hlk' := hlk
  obtain ⟨ld, nv, lt0, lt1, lt2, hl1, hl2⟩ := hlk'
  have hst' := hst
  obtain ⟨sd, tt, pl, t0, t1, t2, ta, hs1, hs2, hs3, hs4, hs5⟩ := hst'
  ((try k_extra "gq"); k_steps; (all_goals try k_extra "uq"))
  all_goals (try simp only [axS_attr] at *)
  all_goals (try (k_extra "fin"; k_extra "bools"; done))
  rename r.par = some _ => hq
  obtain ⟨hq0, hq1, rq, hrq⟩ := (hW z r hz).1 _ hq
  obtain ⟨hc1, hc2⟩ := hW.axl hrq b
  cases ps with
  | none =>
    have hs4' := hs4
    obtain ⟨k9, h9⟩ := hs4'
    ((try k_extra "gq"); k_steps; (all_goals try k_extra "uq"))
    all_goals (k_extra "fin"; k_extra "bools"; done)
  | some p9 =>
    have hs4' := hs4
    obtain ⟨e9, d9, q9, u9, u91, u92, t91, t92, k9, h9, _⟩ := hs4'
    ((try k_extra "gq"); k_steps; (all_goals try k_extra "uq"))
    all_goals (k_extra "fin"; k_extra "bools"; done)
theorem fitsstep_use {w : World} {mean : ExcName → Option Value} {mg mb : Str → Option Value} {t lk st : Addr} {T : MTree} {z : Int} {n : Tok} {r : MRow} {p : PSp} : UseOf w mean mg mb 61 603 (.ref 285) [.ref st, .int z n, .ref lk] (fun news => T5 (TreeAt w news t T) (rowOf T z = some r) (LookAt w news lk t) (StepAt w news st p.attr p.tst p.pos) (WFl T)) (fun news C => C (news) (fun G => G) (.bool (fitSr T p z r))) :=
  useOf fitsstep_ok fun news news' r C hp ret => by
    obtain ⟨rfl, rfl⟩ := hp
    exact ⟨_, ret , fun G h => h ⟩
theorem word56 : True := by
  (k_with "call ref" => ((k_here; (with_reducible show wpAny _ _ (call (Value.ref 285) _) _ _ _); k_dflt (refine' fitsstep_use ?kB ?kF ?kX ?kN ?kT ?kk ?pre ?k1 ?k2 ?_; (case kB => k_asm); (case kF => k_asm); (case kX => k_asm); (case kN => k_asm); (case kT => k_asm); (case kk => exact rfl); (case pre => exact ⟨by k_extra "tree", by assumption, by k_extra "look", by k_extra "step", by assumption⟩); (case k1 => k_extra "room"); (case k2 => k_extra "room"); k_whole); intro _ _ _ _; (try dsimp only); (try k_fold))))
  trivial
theorem word57 : True := by
  (k_with "exec While" => ((k_here; refine stop_of ?_)))
  (k_with "exec While Compare cons nil" => ((k_here; refine stop_of ?_)))
  (k_with "call ref" => ((k_here; (with_reducible show wpAny _ _ (call (Value.ref 278) _) _ _ _); k_dflt (refine' fitsfrom_use ?kC ?kB ?kF ?kX ?kN ?kT ?kk ?pre ?k1 ?k2 ?_; (case kC => assumption); (case kB => k_asm); (case kF => k_asm); (case kX => k_asm); (case kN => k_asm); (case kT => k_asm); (case kk => exact rfl); (case pre => exact ⟨by k_extra "tree", by assumption, by k_extra "look", by k_extra "pat", by assumption, by k_extra "om", by k_extra "om"⟩); (case k1 => k_extra "room"); (case k2 => k_extra "room"); k_whole); intro _ _ _ _; (try dsimp only); (try k_fold))))
  (k_with "call ref" => ((k_here; (with_reducible show wpAny _ _ (call (Value.ref 447) _) _ _ _); k_dflt (refine' parent_use ?kB ?kF ?kX ?kN ?kT ?kk ?pre ?k1 ?k2 ?_; (case kB => k_asm); (case kF => k_asm); (case kX => k_asm); (case kN => k_asm); (case kT => k_asm); (case kk => exact rfl); (case pre => exact ⟨by k_extra "tree", by assumption⟩); (case k1 => k_extra "room"); (case k2 => k_extra "room"); k_whole); intro _ _ _ _ _; (try dsimp only); (try k_fold))))
  (k_with "ite" => ((k_dflt (refine' ite_neg ?h ?_; (case h => (simp only [beq_iff_eq]; k_extra "om"))))))
  trivial
theorem fits_zero {w : World} {mean : ExcName → Option Value} {mg mb : Str → Option Value} {T : MTree} : FitsFrom w mean mg mb 0 T := by
  intro t lk pt rooted rows i z ti n r
  k_dflt (refine' says_def [(Str.ofString "pattern", .ref pt), (Str.ofString "at", .int i ti), (Str.ofString "node", .int z n), (Str.ofString "look", .ref lk)] ?k6 ?k7 ?k9 ?kB ?c2 ?c3 ?c4 ?c5 ?_; (case k6 => k_is); (case k7 => k_is); (case k9 => rfl); (case c5 => decide); (case kB => exact locs rfl); (case c2 => exact rfl); (case c3 => exact rfl); (case c4 => exact rfl); k_whole)
  intro dp un gd outer A₁ base g L news s B F X N TT hR hdp hu
  obtain ⟨hT, hz, hlk, hpt, hW, hi, hk⟩ := hR
  have hT' := hT
  obtain ⟨dt, rl, tkT, kT, vsT, hT1, hT2, _⟩ := hT'
  have hlk' := hlk
  obtain ⟨ld, nv, lt0, lt1, lt2, hl1, hl2⟩ := hlk'
  have hpt' := hpt
  obtain ⟨ptd, pl, pvs, k9, pv, pt0, pt1, pt2, pts, hp1, hp2, hp3, hp4, hp5, hp6⟩ := hpt'
  obtain ⟨p, hp⟩ : ∃ p, rows[0]? = some p := ⟨_, List.getElem?_eq_getElem hk⟩
  obtain ⟨pa, hpa, hpart⟩ := hp6 _ p hp
  have hpa' : pvs[i.toNat]? = some (.ref pa) := by rw [hi]; simpa using hpa
  have hpart' := hpart
  obtain ⟨pd, st, ps0, ps1, hq1, hq2, hq3⟩ := hpart'
  have hrev := take_rev hp
  rw [hrev, show rows.take 0 = [] from rfl, List.reverse_nil, fitsB_one hz]
  obtain rfl : i = 0 := hi
  cases rooted
  · simp only [startV, Bool.false_eq_true, if_false] at hp2
    ((try k_extra "gq"); k_steps; (all_goals try k_extra "uq"))
    all_goals (k_extra "fin"; simp only [upB, Bool.false_eq_true, if_false, *, Bool.and_true, Bool.and_false, Bool.true_and, Bool.false_and])
  · simp only [startV, if_true] at hp2
    ((try k_extra "gq"); k_steps; (all_goals try k_extra "uq"))
    rotate_left
    · k_extra "fin"
      simp only [*, Bool.and_true, Bool.and_false, Bool.true_and, Bool.false_and]
    let jj11 : Nat → (Str → Option Value) → Led → Prop := (fun n9 m₁ news₁ => X2 (fun ab ta => T3 (Knows m₁ [(Str.ofString "above", parV ab ta), (Str.ofString "part", .ref pa), (Str.ofString "pattern", .ref pt), (Str.ofString "at", .int 0 ti), (Str.ofString "look", .ref lk)]) (news₁ = news) (Climbs T (isRootAt T) p.deep n9 ab (climb T (isRootAt T) p.deep (z.toNat + 1) (parOf T z)))))
    refine go_on (my_while (z.toNat + 1) jj11 (by k_asm) (by k_asm) ⟨_, _, ⟨rfl, rfl, rfl, rfl, rfl, trivial⟩, rfl, Climbs.start hW hz⟩ ?_)
    rintro n9 m₁ news₁ h9 tk9 ⟨ab, ta, hK, rfl, hC⟩ F9 N9
    cases ab with
    | none =>
      replace F9 : Fr g L h9 _ := frOver F9 hK
      simp only [parV] at F9
      replace N9 : News g L h9 _ := N9
      have hCb := hC.none
      ((try k_extra "gq"); k_steps; (all_goals try k_extra "uq"))
      k_extra "fin"
      (try simp only [upB, if_true])
      rw [hCb]
      simp only [Bool.and_false]
    | some a9 =>
      replace F9 : Fr g L h9 _ := frOver F9 hK
      simp only [parV] at F9
      replace N9 : News g L h9 _ := N9
      obtain ⟨ra, j9, hra, hj9, hc1, hc2, hc3⟩ := hC.some hW
      (have hroot : isRootAt T a9 = (ra.kd.s == Str.ofString "root") := by (simp only [isRootAt, hra])); rw [hroot] at hc1 hc2 hc3
      ((try k_extra "gq"); k_steps; (all_goals try k_extra "uq"))
      all_goals first
        | exact ⟨_, _, _, _, rfl, by k_asm, by k_asm, j9, hj9, _, _, ⟨rfl, rfl, rfl, rfl, rfl, trivial⟩, rfl, hc3 (by assumption) (by assumption)⟩
        | (have hCb := hc1 (by assumption); k_extra "fin"; (try simp only [upB, if_true]); rw [hCb]; simp only [*, Bool.and_true]; done)
        | (have hCb := hc2 (by assumption) (by assumption); k_extra "fin"; (try simp only [upB, if_true]); rw [hCb]; simp only [Bool.and_false]; done)
theorem fits_succ {w : World} {mean : ExcName → Option Value} {mg mb : Str → Option Value} {T : MTree} {k : Nat} (ih : FitsFrom w mean mg mb k T) : FitsFrom w mean mg mb (k + 1) T := by
  intro t lk pt rooted rows i z ti n r
  k_dflt (refine' says_def [(Str.ofString "pattern", .ref pt), (Str.ofString "at", .int i ti), (Str.ofString "node", .int z n), (Str.ofString "look", .ref lk)] ?k6 ?k7 ?k9 ?kB ?c2 ?c3 ?c4 ?c5 ?_; (case k6 => k_is); (case k7 => k_is); (case k9 => rfl); (case c5 => decide); (case kB => exact locs rfl); (case c2 => exact rfl); (case c3 => exact rfl); (case c4 => exact rfl); k_whole)
  intro dp un gd outer A₁ base g L news s B F X N TT hR hdp hu
  obtain ⟨hT, hz, hlk, hpt, hW, hi, hk⟩ := hR
  have hT' := hT
  obtain ⟨dt, rl, tkT, kT, vsT, hT1, hT2, _⟩ := hT'
  have hlk' := hlk
  obtain ⟨ld, nv, lt0, lt1, lt2, hl1, hl2⟩ := hlk'
  have hpt' := hpt
  obtain ⟨ptd, pl, pvs, k9, pv, pt0, pt1, pt2, pts, hp1, hp2, hp3, hp4, hp5, hp6⟩ := hpt'
  obtain ⟨p, hp⟩ : ∃ p, rows[k + 1]? = some p := ⟨_, List.getElem?_eq_getElem hk⟩
  obtain ⟨pa, hpa, hpart⟩ := hp6 _ p hp
  have hpa' : pvs[i.toNat]? = some (.ref pa) := by rw [hi]; simpa using hpa
  have hpart' := hpart
  obtain ⟨pd, st, ps0, ps1, hq1, hq2, hq3⟩ := hpart'
  have hrev := take_rev hp
  obtain ⟨q, hq⟩ : ∃ q, rows[k]? = some q := ⟨_, List.getElem?_eq_getElem (by k_extra "om")⟩
  have hrev2 := take_rev hq
  rw [hrev, hrev2, fitsB_more hz, ← hrev2]
  rw [Int.natCast_add, Int.natCast_one] at hi
  ((try k_extra "gq"); k_steps; (all_goals try k_extra "uq"))
  rotate_left
  · k_extra "fin"
    simp only [*, Bool.and_true, Bool.and_false, Bool.true_and, Bool.false_and]
  · skip
    let jj12 : Nat → (Str → Option Value) → Led → Prop := (fun n9 m₁ news₁ => X2 (fun ab ta => T3 (Knows m₁ [(Str.ofString "above", parV ab ta), (Str.ofString "part", .ref pa), (Str.ofString "pattern", .ref pt), (Str.ofString "at", .int i ti), (Str.ofString "look", .ref lk)]) (news₁ = news) (Climbs T (fitsB T rooted (rows.take (k + 1)).reverse) p.deep n9 ab (climb T (fitsB T rooted (rows.take (k + 1)).reverse) p.deep (z.toNat + 1) (parOf T z)))))
    refine go_on (my_while (z.toNat + 1) jj12 (by k_asm) (by k_asm) ⟨_, _, ⟨rfl, rfl, rfl, rfl, rfl, trivial⟩, rfl, Climbs.start hW hz⟩ ?_)
    rintro n9 m₁ news₁ h9 tk9 ⟨ab, ta, hK, rfl, hC⟩ F9 N9
    cases ab with
    | none =>
      replace F9 : Fr g L h9 _ := frOver F9 hK
      simp only [parV] at F9
      replace N9 : News g L h9 _ := N9
      have hCb := hC.none
      ((try k_extra "gq"); k_steps; (all_goals try k_extra "uq"))
      k_extra "fin"
      (try simp only [upB, if_true])
      rw [hCb]
      simp only [Bool.and_false]
    | some a9 =>
      replace F9 : Fr g L h9 _ := frOver F9 hK
      simp only [parV] at F9
      replace N9 : News g L h9 _ := N9
      obtain ⟨ra, j9, hra, hj9, hc1, hc2, hc3⟩ := hC.some hW
      skip
      ((try k_extra "gq"); k_steps; (all_goals try k_extra "uq"))
      all_goals first
        | exact ⟨_, _, _, _, rfl, by k_asm, by k_asm, j9, hj9, _, _, ⟨rfl, rfl, rfl, rfl, rfl, trivial⟩, rfl, hc3 (by assumption) (by assumption)⟩
        | (have hCb := hc1 (by assumption); k_extra "fin"; (try simp only [upB, if_true]); rw [hCb]; simp only [*, Bool.and_true]; done)
        | (have hCb := hc2 (by assumption) (by assumption); k_extra "fin"; (try simp only [upB, if_true]); rw [hCb]; simp only [Bool.and_false]; done)
theorem fits_all {w : World} {mean : ExcName → Option Value} {mg mb : Str → Option Value} {T : MTree} : ∀ k, FitsFrom w mean mg mb k T
  | 0 => fits_zero
  | k + 1 => fits_succ (fits_all k)
theorem word58 : True := by
  (k_with "compareOp Eq ref ref" => ((k_here; (with_reducible show wpAny _ _ (compareOp CmpOp.Eq (Value.ref _) (Value.ref _)) _ _ _); k_dflt (refine' eq_nil ?N ?a ?b ?u ?_; (case N => k_asm); (case b => k_mem); (case a => k_mem); (case u => (dsimp only [ktrTop]; k_extra "om")); k_whole))))
  trivial
noncomputable abbrev matches_P (w : World) (t lk pt : Addr) (T : MTree) (z : Int) (n : Tok) (r : MRow) (rooted : Bool) (rows : List PSp) (news news' : Led) (v : Value) : Prop := news' = news ∧ v = .bool (matchB T (rooted, rows) z r)
theorem matches_ok {w : World} {mean : ExcName → Option Value} {mg mb : Str → Option Value} {t lk pt : Addr} {T : MTree} {z : Int} {n : Tok} {r : MRow} {rooted : Bool} {rows : List PSp} :
    Says w mean mg mb (100 + 1) (1000 + 3) (.ref 257) [.ref pt, .int z n, .ref lk] (fun news => T6 (TreeAt w news t T) (rowOf T z = some r) (LookAt w news lk t) (PatAt w news pt rooted rows) (WFl T) (rows = [] → rooted = true)) (matches_P w t lk pt T z n r rooted rows) := by
  k_dflt (refine' says_def [(Str.ofString "pattern", .ref pt), (Str.ofString "node", .int z n), (Str.ofString "look", .ref lk)] ?k6 ?k7 ?k9 ?kB ?c2 ?c3 ?c4 ?c5 ?_; (case k6 => k_is); (case k7 => k_is); (case k9 => rfl); (case c5 => decide); (case kB => exact locs rfl); (case c2 => exact rfl); (case c3 => exact rfl); (case c4 => exact rfl); k_whole)
  intro dp un gd outer A₁ base g L news s B F X N TT hR hdp hu
  obtain ⟨hT, hz, hlk, hpt, hW, hrr⟩ := hR
  have hT' := hT
  obtain ⟨dt, rl, tkT, kT, vsT, hT1, hT2, _⟩ := hT'
  have hlk' := hlk
  obtain ⟨ld, nv, lt0, lt1, lt2, hl1, hl2⟩ := hlk'
  have hpt' := hpt
  obtain ⟨ptd, pl, pvs, k9, pv, pt0, pt1, pt2, pts, hp1, hp2, hp3, hp4, hp5, hp6⟩ := hpt'
  have ih := fits_all (w := w) (mean := mean) (mg := mg) (mb := mb) (T := T) (rows.length - 1)
  cases rows with
  | nil =>
    obtain rfl := hrr rfl
    simp only [startV, if_true] at hp2
    obtain rfl : pvs = [] := List.length_eq_zero_iff.mp hp4
    ((try k_extra "gq"); k_steps; (all_goals try k_extra "uq"))
    k_extra "fin"
    rfl
  | cons p0 rest =>
    have hle : pvs.isEmpty = false := by cases pvs with | nil => simp at hp4 | cons _ _ => rfl
    have hlen : (p0 :: rest).length = rest.length + 1 := rfl
    ((try k_extra "gq"); k_steps; (all_goals try k_extra "uq"))
    k_extra "fin"
    rw [show (p0 :: rest).length - 1 + 1 = (p0 :: rest).length from by k_extra "om", List.take_length]
    rfl
theorem matches_use {w : World} {mean : ExcName → Option Value} {mg mb : Str → Option Value} {t lk pt : Addr} {T : MTree} {z : Int} {n : Tok} {r : MRow} {rooted : Bool} {rows : List PSp} : UseOf w mean mg mb 101 1003 (.ref 257) [.ref pt, .int z n, .ref lk] (fun news => T6 (TreeAt w news t T) (rowOf T z = some r) (LookAt w news lk t) (PatAt w news pt rooted rows) (WFl T) (rows = [] → rooted = true)) (fun news C => C (news) (fun G => G) (.bool (matchB T (rooted, rows) z r))) :=
  useOf matches_ok fun news news' r C hp ret => by
    obtain ⟨rfl, rfl⟩ := hp
    exact ⟨_, ret , fun G h => h ⟩
theorem word59 : True := by
  (k_with "call ref" => ((k_here; (with_reducible show wpAny _ _ (call (Value.ref 257) _) _ _ _); k_dflt (refine' matches_use ?kB ?kF ?kX ?kN ?kT ?kk ?pre ?k1 ?k2 ?_; (case kB => k_asm); (case kF => k_asm); (case kX => k_asm); (case kN => k_asm); (case kT => k_asm); (case kk => exact rfl); (case pre => exact ⟨by k_extra "tree", by assumption, by k_extra "look", by k_extra "pat", by assumption, by assumption⟩); (case k1 => k_extra "room"); (case k2 => k_extra "room"); k_whole); intro _ _ _ _; (try dsimp only); (try k_fold))))
  trivial
noncomputable abbrev matchesany_P (w : World) (t lk wl : Addr) (T : MTree) (z : Int) (n : Tok) (r : MRow) (ways : List (Bool × List PSp)) (news news' : Led) (v : Value) : Prop := news' = news ∧ v = .bool (ways.any fun q => matchB T q z r)
theorem matchesany_ok {w : World} {mean : ExcName → Option Value} {mg mb : Str → Option Value} {t lk wl : Addr} {T : MTree} {z : Int} {n : Tok} {r : MRow} {ways : List (Bool × List PSp)} :
    Says w mean mg mb (110 + 1) (1100 + 3) (.ref 264) [.ref wl, .int z n, .ref lk] (fun news => T6 (TreeAt w news t T) (rowOf T z = some r) (LookAt w news lk t) (WaysAt w news wl ways) (WFl T) (∀ q ∈ ways, q.2 = [] → q.1 = true)) (matchesany_P w t lk wl T z n r ways) := by
  k_dflt (refine' says_def [(Str.ofString "ways", .ref wl), (Str.ofString "node", .int z n), (Str.ofString "look", .ref lk)] ?k6 ?k7 ?k9 ?kB ?c2 ?c3 ?c4 ?c5 ?_; (case k6 => k_is); (case k7 => k_is); (case k9 => rfl); (case c5 => decide); (case kB => exact locs rfl); (case c2 => exact rfl); (case c3 => exact rfl); (case c4 => exact rfl); k_whole)
  intro dp un gd outer A₁ base g L news s B F X N TT hR hdp hu
  obtain ⟨hT, hz, hlk, hws, hW, hrr⟩ := hR
  have hws' := hws
  obtain ⟨wvs, k, hw1, hw2, hw3, hw4⟩ := hws'
  ((try k_extra "gq"); k_steps; (all_goals try k_extra "uq"))
  let jj13 : Nat → List Value → (Str → Option Value) → Led → Prop := (fun i us' m₁ news₁ => T4 (us' = wvs) (Knows m₁ [(Str.ofString "node", .int z n), (Str.ofString "look", .ref lk)]) (news₁ = news) (∀ q ∈ ways.take i, matchB T q z r = false))
  refine go_on (iter_list 3 jj13 rfl (by k_asm) (by k_asm) ⟨rfl, ⟨rfl, rfl, trivial⟩, rfl, by simp⟩ ?_ ?_ ?_)
  · rintro i us' m₁ news₁ ⟨rfl, hK, rfl, _⟩
    exact ⟨by k_extra "om", _, hw1⟩
  · rintro i us' v m₁ news₁ it oi h tk ⟨rfl, hK, rfl, hall⟩ hv F' N' off'
    have hil : i < ways.length := by
      rcases Nat.lt_or_ge i ways.length with h | h
      · exact h
      · rw [List.getElem?_eq_none (by k_extra "om")] at hv; cases hv
    obtain ⟨⟨qb, qr⟩, hq⟩ : ∃ q, ways[i]? = some q := ⟨_, List.getElem?_eq_getElem hil⟩
    obtain ⟨pa, hpa, hpat⟩ := hw4 i _ hq
    dsimp only at hpat
    have hqm := hrr _ (List.mem_of_getElem? hq)
    dsimp only at hqm
    rw [hpa] at hv
    obtain rfl := Option.some.inj hv
    replace F' : Fr g L h _ := frOver F' hK
    replace N' : News g L h _ := N'
    ((try k_extra "gq"); k_steps; (all_goals try k_extra "uq"))
    all_goals first
      | exact ⟨_, _, _, _, rfl, by k_asm, by k_asm, off', _, rfl, ⟨rfl, rfl, trivial⟩, rfl, take_next hq hall (by simp_all)⟩
      | (k_extra "fin"; rw [List.any_eq_true.mpr ⟨_, List.mem_of_getElem? hq, by assumption⟩]; done)
  · rintro i us' m₁ news₁ h tk ⟨rfl, hK, rfl, hall⟩ hi1 hi2 F' N'
    replace F' : Fr g L h _ := frOver F' hK
    replace N' : News g L h _ := N'
    have hall' := take_le (by k_extra "om") hall
    ((try k_extra "gq"); k_steps; (all_goals try k_extra "uq"))
    k_extra "fin"
    rw [List.any_eq_false.mpr (fun q hq => by simp [hall' q hq])]
theorem matchesany_use {w : World} {mean : ExcName → Option Value} {mg mb : Str → Option Value} {t lk wl : Addr} {T : MTree} {z : Int} {n : Tok} {r : MRow} {ways : List (Bool × List PSp)} : UseOf w mean mg mb 111 1103 (.ref 264) [.ref wl, .int z n, .ref lk] (fun news => T6 (TreeAt w news t T) (rowOf T z = some r) (LookAt w news lk t) (WaysAt w news wl ways) (WFl T) (∀ q ∈ ways, q.2 = [] → q.1 = true)) (fun news C => C (news) (fun G => G) (.bool (ways.any fun q => matchB T q z r))) :=
  useOf matchesany_ok fun news news' r C hp ret => by
    obtain ⟨rfl, rfl⟩ := hp
    exact ⟨_, ret , fun G h => h ⟩
theorem word60 : True := by
  (k_with "call ref" => ((k_here; (with_reducible show wpAny _ _ (call (Value.ref 264) _) _ _ _); k_dflt (refine' matchesany_use ?kB ?kF ?kX ?kN ?kT ?kk ?pre ?k1 ?k2 ?_; (case kB => k_asm); (case kF => k_asm); (case kX => k_asm); (case kN => k_asm); (case kT => k_asm); (case kk => exact rfl); (case pre => exact ⟨by k_extra "tree", by assumption, by k_extra "look", by k_extra "ways", by assumption, by assumption⟩); (case k1 => k_extra "room"); (case k2 => k_extra "room"); k_whole); intro _ _ _ _; (try dsimp only); (try k_fold))))
  (k_with "ways" => (first | with_reducible assumption | (refine' WaysAt.mono ?h ?s; (case h => assumption); (case s => k_extra "sub"))))
  trivial
theorem word61 : True := by
  k_with_none
  (k_with "gq" => (((with_reducible first | refine' genq (D := DoneF _ _ _ _) ?_ | refine' genq (D := TurnEnd _ _ _ _ _ _) ?_ | refine' genq (D := TurnEnd2 _ _ _ _ _ _ _) ?_ | refine' genq (D := WEnd _ _ _ _ _) ?_ | refine' genq (D := Mid _ _ _ _) ?_ | refine' genq (D := CEnd _ _ _ _ _ _ _ _ _ _ _) ?_ | refine' genq (D := CEnd2 _ _ _ _ _ _ _ _ _ _ _) ?_); intro _ _)))
  (k_with "uq" => (first | (refine' unq ?u9 ?_; (case u9 => with_reducible assumption)) | (refine' unqv ?u9 ?_; (case u9 => with_reducible assumption))))
  (k_with "lts" => (first | exact Nat.le.refl | (refine Nat.le.step ?_; k_extra "lts")))
  (k_with "cj" => (first | assumption | (refine' And.left ?a9; (case a9 => assumption)) | (refine' And.left (And.right ?a9); (case a9 => assumption)) | (refine' And.left (And.right (And.right ?a9)); (case a9 => assumption)) | (refine' And.left (And.right (And.right (And.right ?a9))); (case a9 => assumption)) | (refine' And.left (And.right (And.right (And.right (And.right ?a9)))); (case a9 => assumption)) | (refine' And.left (And.right (And.right (And.right (And.right (And.right ?a9))))); (case a9 => assumption)) | (refine' And.left (And.right (And.right (And.right (And.right (And.right (And.right ?a9)))))); (case a9 => assumption)) | (refine' And.left (And.right (And.right (And.right (And.right (And.right (And.right (And.right ?a9))))))); (case a9 => assumption)) | (refine' And.left (And.right (And.right (And.right (And.right (And.right (And.right (And.right (And.right ?a9)))))))); (case a9 => assumption)) | (refine' And.left (And.right (And.right (And.right (And.right (And.right (And.right (And.right (And.right (And.right ?a9))))))))); (case a9 => assumption)) | (refine' And.left (And.right (And.right (And.right (And.right (And.right (And.right (And.right (And.right (And.right (And.right ?a9)))))))))); (case a9 => assumption)) | (refine' And.left (And.right (And.right (And.right (And.right (And.right (And.right (And.right (And.right (And.right (And.right (And.right ?a9))))))))))); (case a9 => assumption))))
  (k_with "ne9" => (first | assumption | exact Ne.symm (by assumption) | (refine' Nat.ne_of_lt ?a8; (case a8 => first | assumption | k_extra "lts" | k_extra "cj" | (refine' Nat.lt_of_le_of_lt ?b9 ?c9; (case c9 => assumption); (case b9 => k_extra "lts")))) | (refine' Nat.ne_of_gt ?a8; (case a8 => first | assumption | k_extra "lts" | k_extra "cj" | (refine' Nat.lt_of_le_of_lt ?b9 ?c9; (case c9 => assumption); (case b9 => k_extra "lts")))) | ((try dsimp only); (repeat (rename @Ne Nat _ _ => q9; clear q9)); omega) | ((try dsimp only); omega)))
  (k_with "om" => (first | with_reducible assumption | (refine neN ?_; k_extra "ne9") | (refine' Nat.le_trans ?a9 ?b9; (case a9 => assumption); (case b9 => exact Nat.le_of_ble_eq_true rfl)) | (refine' le_eq_le ?a9 ?b9 ?c9; (case a9 => assumption); (case b9 => assumption); (case c9 => exact Nat.le_of_ble_eq_true rfl)) | (refine ltN ?_; k_extra "cj") | ((repeat (rename @Ne Nat _ _ => q9; clear q9)); omega) | omega))
  (k_with "room" => (first | (refine' room_of ?a9 ?b9; (case a9 => assumption); (case b9 => exact Nat.le_of_ble_eq_true rfl)) | omega))
  (k_with "call builtin:list.append" => ((k_here; (with_reducible show wpAny _ _ (call (Value.builtin "list.append") [Value.ref _, _]) _ _ _); k_dflt (refine' my_append ?k1 ?k2 ?k3 ?k4 ?_; (case k1 => k_asm); (case k2 => k_asm); (case k3 => k_upd); (case k4 => k_extra "om"); k_whole); intro _ _ _; (try k_sweep))))
  (k_with "memF" => (first | exact mem_head | with_reducible assumption | (refine' mem_tail ?_; k_extra "memF")))
  (k_with "memS" => (first | exact mem_head | assumption | (refine' mem_tail ?_; k_extra "memS")))
  (k_with "call type:list" => ((k_here; (with_reducible show wpAny _ _ (call (Value.type "list") [Value.ref _]) _ _ _); k_dflt (refine' my_listcopy ?k0 ?k1 ?k2 ?k3 ?_; (case k0 => k_asm); (case k1 => k_asm); (case k2 => k_mem); (case k3 => k_extra "om"); k_whole); intro _ _ _ _ _ _)))
  (k_with "call builtin:len" => ((k_here; (with_reducible show wpAny _ _ (call (Value.builtin "len") [Value.ref _]) _ _ _); k_dflt (refine' my_len ?k1 ?k2 ?k3 ?_; (case k1 => k_asm); (case k2 => k_mem); (case k3 => k_extra "om"); k_whole))))
  (k_with "subscriptTail" => ((k_here; (with_reducible show wpAny _ _ (subscriptTail _ _ (Value.ref _) (Value.int _ _)) _ _ _); k_dflt (refine' my_item ?k1 ?k2 ?k3 ?k4 ?k5 ?_; (case k1 => k_asm); (case k2 => k_mem); (case k3 => k_extra "om"); (case k4 => k_extra "om"); (case k5 => first | with_reducible assumption | rfl); k_whole))))
  (k_with "sub" => (first | with_reducible exact fun _ h => h | (refine' sub_cons ?m ?_; (case m => k_mem); k_extra "sub") | (refine sub_tail ?_; k_extra "sub")))
  (k_with "fin" => (((try k_extra "uq"); (try dsimp only [WEnd, TurnEnd, TurnEnd2]); (try k_extra "uq"); refine' fin_same ?F ?N ?S (And.intro rfl ?_); (case F => k_asm); (case N => k_asm); (case S => k_extra "sub"))))
  (k_with "bools" => (simp only [fitSr, axS_attr, *, Bool.or_true, Bool.true_or, Bool.not_true, Bool.false_and, Bool.and_false, Bool.not_false, Bool.true_and, Bool.and_true, Bool.or_self, Bool.or_false, Bool.false_or, Bool.and_self, Option.isNone_none, Option.isNone_some, beq_self_eq_true]))
  (k_with "finL" => (((try k_extra "uq"); refine' fin_new ?F ?N ?M ?S ⟨_, _, _, rfl, rfl, ?_, ?_⟩; (case F => k_asm); (case N => k_asm); (case M => k_mem); (case S => k_extra "sub"))))
  (k_with "tree" => (first | with_reducible assumption | (refine' TreeAt.mono ?h ?s; (case h => assumption); (case s => k_extra "sub"))))
  (k_with "call ref" => ((k_here; (with_reducible show wpAny _ _ (call (Value.ref 335) _) _ _ _); k_dflt (refine' row_use ?kB ?kF ?kX ?kN ?kT ?kk ?pre ?k1 ?k2 ?_; (case kB => k_asm); (case kF => k_asm); (case kX => k_asm); (case kN => k_asm); (case kT => k_asm); (case kk => exact rfl); (case pre => exact ⟨by k_extra "tree", by assumption⟩); (case k1 => k_extra "room"); (case k2 => k_extra "room"); k_whole); intro _ _ _ _ _ _ _ _ _ _ _ _ _ _ _ _ _ _ _ _ _ _ _ _ _ _ _ _ _ _ _ _ _ _ _ _ _ _ _; (try dsimp only); (try k_fold))))
  (k_with "call ref" => ((k_here; (with_reducible show wpAny _ _ (call (Value.ref 447) _) _ _ _); k_dflt (refine' parent_use ?kB ?kF ?kX ?kN ?kT ?kk ?pre ?k1 ?k2 ?_; (case kB => k_asm); (case kF => k_asm); (case kX => k_asm); (case kN => k_asm); (case kT => k_asm); (case kk => exact rfl); (case pre => exact ⟨by k_extra "tree", by assumption⟩); (case k1 => k_extra "room"); (case k2 => k_extra "room"); k_whole); intro _ _ _ _ _; (try dsimp only); (try k_fold))))
  (k_with "call ref" => ((k_here; (with_reducible show wpAny _ _ (call (Value.ref 412) _) _ _ _); k_dflt (refine' kind_use ?kB ?kF ?kX ?kN ?kT ?kk ?pre ?k1 ?k2 ?_; (case kB => k_asm); (case kF => k_asm); (case kX => k_asm); (case kN => k_asm); (case kT => k_asm); (case kk => exact rfl); (case pre => exact ⟨by k_extra "tree", by assumption⟩); (case k1 => k_extra "room"); (case k2 => k_extra "room"); k_whole); intro _ _ _ _ _; (try dsimp only); (try k_fold))))
  (k_with "call ref" => ((k_here; (with_reducible show wpAny _ _ (call (Value.ref 419) _) _ _ _); k_dflt (refine' name_use ?kB ?kF ?kX ?kN ?kT ?kk ?pre ?k1 ?k2 ?_; (case kB => k_asm); (case kF => k_asm); (case kX => k_asm); (case kN => k_asm); (case kT => k_asm); (case kk => exact rfl); (case pre => exact ⟨by k_extra "tree", by assumption⟩); (case k1 => k_extra "room"); (case k2 => k_extra "room"); k_whole); intro _ _ _ _ _; (try dsimp only); (try k_fold))))
  (k_with "call ref" => ((k_here; (with_reducible show wpAny _ _ (call (Value.ref 433) _) _ _ _); k_dflt (refine' local_use ?kB ?kF ?kX ?kN ?kT ?kk ?pre ?k1 ?k2 ?_; (case kB => k_asm); (case kF => k_asm); (case kX => k_asm); (case kN => k_asm); (case kT => k_asm); (case kk => exact rfl); (case pre => exact ⟨by k_extra "tree", by assumption⟩); (case k1 => k_extra "room"); (case k2 => k_extra "room"); k_whole); intro _ _ _ _ _; (try dsimp only); (try k_fold))))
  (k_with "call ref" => ((k_here; (with_reducible show wpAny _ _ (call (Value.ref 426) _) _ _ _); k_dflt (refine' uri_use ?kB ?kF ?kX ?kN ?kT ?kk ?pre ?k1 ?k2 ?_; (case kB => k_asm); (case kF => k_asm); (case kX => k_asm); (case kN => k_asm); (case kT => k_asm); (case kk => exact rfl); (case pre => exact ⟨by k_extra "tree", by assumption⟩); (case k1 => k_extra "room"); (case k2 => k_extra "room"); k_whole); intro _ _ _ _ _; (try dsimp only); (try k_fold))))
  (k_with "call ref" => ((k_here; (with_reducible show wpAny _ _ (call (Value.ref 447) _) _ _ _); k_dflt (refine' parent_two ?kB ?kF ?kX ?kN ?kT ?kk ?pre ?k1 ?k2 ?_ ?_; (case kB => k_asm); (case kF => k_asm); (case kX => k_asm); (case kN => k_asm); (case kT => k_asm); (case kk => exact rfl); (case pre => exact ⟨by k_extra "tree", by assumption⟩); (case k1 => k_extra "room"); (case k2 => k_extra "room")); (first | (intro _ _ _ _ _; (try dsimp only); (try k_fold)) | skip); (rotate_left; (intro _ _ _ _ _ _ _; (try dsimp only); (try k_fold)); rotate_left))))
  (k_with "call ref" => ((k_here; (with_reducible show wpAny _ _ (call (Value.ref 454) _) _ _ _); k_dflt (refine' children_use ?kB ?kF ?kX ?kN ?kT ?kk ?pre ?k1 ?k2 ?_; (case kB => k_asm); (case kF => k_asm); (case kX => k_asm); (case kN => k_asm); (case kT => k_asm); (case kk => exact rfl); (case pre => exact ⟨by k_extra "tree", by assumption⟩); (case k1 => k_extra "room"); (case k2 => k_extra "room"); k_whole); intro _ _ _ _ _ _ _ _ _ _ _; (try dsimp only); (try k_fold))))
  (k_with "call ref" => ((k_here; (with_reducible show wpAny _ _ (call (Value.ref 461) _) _ _ _); k_dflt (refine' attributes_use ?kB ?kF ?kX ?kN ?kT ?kk ?pre ?k1 ?k2 ?_; (case kB => k_asm); (case kF => k_asm); (case kX => k_asm); (case kN => k_asm); (case kT => k_asm); (case kk => exact rfl); (case pre => exact ⟨by k_extra "tree", by assumption⟩); (case k1 => k_extra "room"); (case k2 => k_extra "room"); k_whole); intro _ _ _ _ _ _ _ _ _ _ _; (try dsimp only); (try k_fold))))
  (k_with "ite" => ((k_dflt (refine ite_neg (kd_ns _) ?_))))
  (k_with "tst" => (first | with_reducible assumption | (refine' TstAt.mono ?h ?s; (case h => assumption); (case s => k_extra "sub"))))
  (k_with "call ref" => ((k_here; (with_reducible show wpAny _ _ (call (Value.ref 72) _) _ _ _); k_dflt (refine' prin_use ?kB ?kF ?kX ?kN ?kT ?kk ?pre ?k1 ?k2 ?_; (case kB => k_asm); (case kF => k_asm); (case kX => k_asm); (case kN => k_asm); (case kT => k_asm); (case kk => exact rfl); (case pre => trivial); (case k1 => k_extra "room"); (case k2 => k_extra "room"); k_whole); intro _ _ _ _ _; (try dsimp only); (try k_fold))))
  (k_with "call ref" => ((k_here; (with_reducible show wpAny _ _ (call (Value.ref 79) _) _ _ _); k_dflt (refine' buri_use ?kB ?kF ?kX ?kN ?kT ?kk ?pre ?k1 ?k2 ?_; (case kB => k_asm); (case kF => k_asm); (case kX => k_asm); (case kN => k_asm); (case kT => k_asm); (case kk => exact rfl); (case pre => trivial); (case k1 => k_extra "room"); (case k2 => k_extra "room"); k_whole); intro _ _ _ _ _; (try dsimp only); (try k_fold))))
  (k_with "call ref" => ((k_here; (with_reducible show wpAny _ _ (call (Value.ref 86) _) _ _ _); k_dflt (refine' named_use ?kB ?kF ?kX ?kN ?kT ?kk ?pre ?k1 ?k2 ?_; (case kB => k_asm); (case kF => k_asm); (case kX => k_asm); (case kN => k_asm); (case kT => k_asm); (case kk => exact rfl); (case pre => exact ⟨by k_extra "tree", by assumption, by k_extra "tst"⟩); (case k1 => k_extra "room"); (case k2 => k_extra "room"); k_whole); intro _ _ _ _; (try dsimp only); (try k_fold))))
  (k_with "call ref" => ((k_here; (with_reducible show wpAny _ _ (call (Value.ref 93) _) _ _ _); k_dflt (refine' passes_use ?kB ?kF ?kX ?kN ?kT ?kk ?pre ?k1 ?k2 ?_; (case kB => k_asm); (case kF => k_asm); (case kX => k_asm); (case kN => k_asm); (case kT => k_asm); (case kk => exact rfl); (case pre => exact ⟨by k_extra "tree", by assumption, by k_extra "tst"⟩); (case k1 => k_extra "room"); (case k2 => k_extra "room"); k_whole); intro _ _ _ _; (try dsimp only); (try k_fold))))
  (k_with "call ref" => ((k_here; (with_reducible show wpAny _ _ (call (Value.ref 161) _) _ _ _); k_dflt (refine' saxis_use ?kB ?kF ?kX ?kN ?kT ?kk ?pre ?k1 ?k2 ?_; (case kB => k_asm); (case kF => k_asm); (case kX => k_asm); (case kN => k_asm); (case kT => k_asm); (case kk => exact rfl); (case pre => exact ⟨by k_extra "tree", by assumption⟩); (case k1 => k_extra "room"); (case k2 => k_extra "room"); k_whole); intro _ _ _ _ _ _ _ _ _ _; (try dsimp only); (try k_fold))))
  (k_with "call ref" => ((k_here; (with_reducible show wpAny _ _ (call (Value.ref 168) _) _ _ _); k_dflt (refine' axis_use ?kB ?kF ?kX ?kN ?kT ?kk ?pre ?k1 ?k2 ?_; (case kB => k_asm); (case kF => k_asm); (case kX => k_asm); (case kN => k_asm); (case kT => k_asm); (case kk => exact rfl); (case pre => exact ⟨by k_extra "tree", by assumption⟩); (case k1 => k_extra "room"); (case k2 => k_extra "room"); k_whole); intro _ _ _ _ _ _ _ _ _ _; (try dsimp only); (try k_fold))))
  (k_with "call ref" => ((k_here; (with_reducible show wpAny _ _ (call (Value.ref 633) _) _ _ _); k_dflt (refine' lvalue_use ?kB ?kF ?kX ?kN ?kT ?kk ?pre ?k1 ?k2 ?_; (case kB => k_asm); (case kF => k_asm); (case kX => k_asm); (case kN => k_asm); (case kT => k_asm); (case kk => exact rfl); (case pre => exact ⟨by k_mem, by k_mem⟩); (case k1 => k_extra "room"); (case k2 => k_extra "room"); k_whole); intro _ _ _ _; (try dsimp only); (try k_fold))))
  (k_with "call ref" => ((k_here; (with_reducible show wpAny _ _ (call (Value.ref 175) _) _ _ _); k_dflt (refine' holds_use ?kB ?kF ?kX ?kN ?kT ?kk ?pre ?k1 ?k2 ?_; (case kB => k_asm); (case kF => k_asm); (case kX => k_asm); (case kN => k_asm); (case kT => k_asm); (case kk => exact rfl); (case pre => k_mem); (case k1 => k_extra "room"); (case k2 => k_extra "room"); k_whole); intro _ _ _ _; (try dsimp only); (try k_fold))))
  (k_with "exec For" => ((k_here; k_dflt (refine wpAny_For ?_); (try k_fold))))
  (k_with "exec For Name Name cons nil" => ((k_here; k_dflt (refine wpAny_For ?_); (try k_fold))))
  (k_with "exec For Name Call cons nil" => ((k_here; k_dflt (refine wpAny_For ?_); (try k_fold))))
  (k_with "exec For Tuple Name cons nil" => ((k_here; k_dflt (refine wpAny_For ?_); (try k_fold))))
  (k_with "exec For Tuple Call cons nil" => ((k_here; k_dflt (refine wpAny_For ?_); (try k_fold))))
  (k_with "exec For Name Attribute cons nil" => ((k_here; k_dflt (refine wpAny_For ?_); (try k_fold))))
  (k_with "pyIter ref" => ((k_here; refine stop_of ?_)))
  (k_with "call type:enumerate" => ((k_here; refine stop_of ?_)))
  (k_with "pred" => (first | with_reducible assumption | (refine' PredAt.mono ?h ?s; (case h => assumption); (case s => k_extra "sub"))))
  (k_with "call ref" => ((k_here; (with_reducible show wpAny _ _ (call (Value.ref 182) _) _ _ _); k_dflt (refine' kept_use ?kB ?kF ?kX ?kN ?kT ?kk ?pre ?k1 ?k2 ?_; (case kB => k_asm); (case kF => k_asm); (case kX => k_asm); (case kN => k_asm); (case kT => k_asm); (case kk => exact rfl); (case pre => exact ⟨by k_mem, by assumption, by assumption, by k_extra "pred", by assumption⟩); (case k1 => k_extra "room"); (case k2 => k_extra "room"); k_whole); intro _ _ _ _ _ _ _ _ _ _; (try dsimp only); (try k_fold))))
  (k_with "eval Name" => ((k_here; (with_reducible show wpAny _ _ (eval (Expr.Name _ _) (compEnvC _ _ _ _)) _ _ _); k_dflt (first | (refine' LCgL.ld_own ?N ?M ?C ?X ?_; (case N => k_asm); (case M => k_mem); (case C => assumption); (case X => assumption); k_whole) | (refine' ld_cell ?N ?c ?M ?d ?_ ?k ?x ?b; (case c => rfl); (case N => k_asm); (case M => k_mem); (case d => assumption); (case k => rfl); (case x => rfl); (case b => decide); k_whole) | refine LCgL.ld_global (by k_asm) (by k_asm) (by k_asm) (by k_is) ?_))))
  (k_with "eval ListComp" => ((k_here; k_dflt (refine' my_comp ?c1 ?c2 ?c3 ?_ (by intro _; rfl); (case c1 => with_unfolding_all rfl); (case c2 => exact rfl); (case c3 => decide)); (try k_fold))))
  (k_with "exec Assign cons ListComp" => ((k_here; k_dflt (refine' my_comp_use ?c0 ?c1 ?c2 ?c3 ?_ (by intro _; rfl); (case c0 => with_unfolding_all rfl); (case c1 => with_unfolding_all rfl); (case c2 => exact rfl); (case c3 => decide)); (try k_fold))))
  (k_with "step" => (first | with_reducible assumption | (refine' StepAt.mono ?h ?s; (case h => assumption); (case s => k_extra "sub"))))
  (k_with "call ref" => ((k_here; (with_reducible show wpAny _ _ (call (Value.ref 187) _) _ _ _); k_dflt (refine' stepfrom_use ?kB ?kF ?kX ?kN ?kT ?kk ?pre ?k1 ?k2 ?_; (case kB => k_asm); (case kF => k_asm); (case kX => k_asm); (case kN => k_asm); (case kT => k_asm); (case kk => exact rfl); (case pre => exact ⟨by k_extra "tree", by assumption, by k_extra "step", by assumption, by assumption⟩); (case k1 => k_extra "room"); (case k2 => k_extra "room"); k_whole); intro _ _ _ _ _ _ _ _ _ _; (try dsimp only); (try k_fold))))
  trivial
theorem word62 : True := by
  (k_with "compareOp Eq ref ref" => ((k_here; (with_reducible show wpAny _ _ (compareOp CmpOp.Eq (Value.ref _) (Value.ref _)) _ _ _); k_dflt (refine' tup31 ?N ?a ?b ?u ?_; (case N => k_asm); (case b => k_mem); (case a => k_mem); (case u => (dsimp only [ktrTop]; k_extra "om")); k_whole))))
  trivial
noncomputable abbrev lpasses_P (w : World) (t : Addr) (T : MTree) (z : Int) (n : Tok) (r : MRow) (ta : Addr) (x : Tst) (b : Bool) (news news' : Led) (v : Value) : Prop := news' = news ∧ v = .bool (passB r x b)
theorem lpasses_ok {w : World} {mean : ExcName → Option Value} {mg mb : Str → Option Value} {t : Addr} {T : MTree} {z : Int} {n : Tok} {r : MRow} {ta : Addr} {x : Tst} {b : Bool} :
    Says w mean mg mb (20 + 1) (200 + 3) (.ref 606) [.ref t, .int z n, .ref ta, .bool b] (fun news => T3 (TreeAt w news t T) (rowOf T z = some r) (TstAt news ta x)) (lpasses_P w t T z n r ta x b) := by
  k_dflt (refine' says_def [(Str.ofString "tree", .ref t), (Str.ofString "node", .int z n), (Str.ofString "test", .ref ta), (Str.ofString "is_attribute", .bool b)] ?k6 ?k7 ?k9 ?kB ?c2 ?c3 ?c4 ?c5 ?_; (case k6 => k_is); (case k7 => k_is); (case k9 => rfl); (case c5 => decide); (case kB => exact locs rfl); (case c2 => exact rfl); (case c3 => exact rfl); (case c4 => exact rfl); k_whole)
  intro dp un gd outer A₁ base g L news s B F X N TT hR hdp hu
  obtain ⟨hT, hz, hx⟩ := hR
  have hT' := hT
  obtain ⟨dt, rl, tk, k, vs, h1, h2, h3, hrows, hlen⟩ := hT'
  have hx' := hx
  cases x
  · obtain ⟨t0, t1, t2, n9, h4⟩ := hx
    cases b
    all_goals ((try k_extra "gq"); k_steps; (all_goals try k_extra "uq"))
    all_goals (k_extra "fin"; simp_all [passB, prinS, namedB])
  all_goals
    obtain ⟨t0, n9, h4⟩ := hx
    cases b
    all_goals ((try k_extra "gq"); k_steps; (all_goals try k_extra "uq"))
    all_goals (k_extra "fin"; simp_all [passB, prinS])
theorem lpasses_use {w : World} {mean : ExcName → Option Value} {mg mb : Str → Option Value} {t : Addr} {T : MTree} {z : Int} {n : Tok} {r : MRow} {ta : Addr} {x : Tst} {b : Bool} : UseOf w mean mg mb 21 203 (.ref 606) [.ref t, .int z n, .ref ta, .bool b] (fun news => T3 (TreeAt w news t T) (rowOf T z = some r) (TstAt news ta x)) (fun news C => C (news) (fun G => G) (.bool (passB r x b))) :=
  useOf lpasses_ok fun news news' r C hp ret => by
    obtain ⟨rfl, rfl⟩ := hp
    exact ⟨_, ret , fun G h => h ⟩
theorem word63 : True := by
  (k_with "call ref" => ((k_here; (with_reducible show wpAny _ _ (call (Value.ref 606) _) _ _ _); k_dflt (refine' lpasses_use ?kB ?kF ?kX ?kN ?kT ?kk ?pre ?k1 ?k2 ?_; (case kB => k_asm); (case kF => k_asm); (case kX => k_asm); (case kN => k_asm); (case kT => k_asm); (case kk => exact rfl); (case pre => exact ⟨by k_extra "tree", by assumption, by k_extra "tst"⟩); (case k1 => k_extra "room"); (case k2 => k_extra "room"); k_whole); intro _ _ _ _; (try dsimp only); (try k_fold))))
  (k_with "call builtin:list.extend" => ((k_here; (with_reducible show wpAny _ _ (call (Value.builtin "list.extend") [Value.ref _, Value.ref _]) _ _ _); k_dflt (refine' my_extend ?k1 ?k2 ?kb ?k3 ?k4 ?_; (case k1 => k_asm); (case k2 => k_asm); (case kb => k_mem); (case k3 => k_upd); (case k4 => k_extra "om"); k_whole); intro _ _ _; (try k_sweep))))
  trivial
theorem word64 : True := by
  (k_with "nsub" => ((refine' news_sub ?N ?S; (case N => k_asm); (case S => k_extra "sub"))))
  trivial
inductive beneath_P (w : World) (t : Addr) (T : MTree) (z : Int) (n : Tok) (r : MRow) (news news' : Led) (v : Value) : Prop
  | mk : ∀ D c vs Ls, (news' = (D, listOf vs.toArray c) :: news) → (v = .ref D) → (IntsAre vs Ls) → (Ls.Nodup) → ((∀ x, x ∈ Ls ↔ Reach T z x)) → ((∀ x ∈ Ls, ∃ rx, rowOf T x = some rx)) → (Ls.length ≤ 30) → ((∀ p ∈ news, p.1 < D)) → beneath_P w t T z n r news news' v
theorem beneath_ok {w : World} {mean : ExcName → Option Value} {mg mb : Str → Option Value} {t : Addr} {T : MTree} {z : Int} {n : Tok} {r : MRow} :
    Says w mean mg mb (30 + 1) (300 + 3) (.ref 611) [.ref t, .int z n] (fun news => T3 (TreeAt w news t T) (rowOf T z = some r) (WF T)) (beneath_P w t T z n r) := by
  k_dflt (refine' says_defC [(Str.ofString "tree", .ref t), (Str.ofString "node", .int z n)] ?k6 ?k7 ?k9 ?kB ?kD ?c2 ?c3 ?c4 ?_; (case k6 => k_is); (case k7 => k_is); (case k9 => rfl); (case kB => rfl); (case kD => decide); (case c2 => exact rfl); (case c3 => exact rfl); (case c4 => exact rfl); k_whole)
  intro dp un gd outer A₁ base g L news cells s B F X N hY hlL TT hR hdp hu
  obtain ⟨hT, hz, hW⟩ := hR
  have hT' := hT
  obtain ⟨dt, rlT, tkT, kT, vsT, hT1, hT2, _⟩ := hT'
  obtain ⟨o1, rfl, hc1⟩ := CellsAre.one (show CellsAre _ [(_, _)] _ from hY)
  replace N : News g L s.heap ((_, o1) :: news) := N
  replace hc1 : o1.data = .cell (some (.ref t)) := hc1
  clear hY
  ((try k_extra "gq"); k_steps; (all_goals try k_extra "uq"))
  rename_i fd h1 l1 h2 F1 N1
  have hfd1 := l1.1
  refine go_on (iter_list 30 (fun i us' m₁ news₁ => X2 (fun c fs => T4 (news₁ = (fd, listOf us'.toArray c) :: (_, o1) :: news) (Knows m₁ [(Str.ofString "found", .ref fd)]) (IntsAre us' fs) (BInv T z i fs))) rfl (by k_asm) (by k_asm) ⟨_, _, rfl, ⟨rfl, trivial⟩, .cons z n .nil, BInv.start hz⟩ ?_ ?_ ?_)
  · rintro i us' m₁ news₁ ⟨c, fs, rfl, hK, hi, hI⟩
    exact ⟨by rw [hi.length]; exact hI.le hW, _, .head _⟩
  · rintro i us' v m₁ news₁ it oi h tk ⟨c, fs, rfl, hK, hi, hI⟩ hv F' N' off'
    obtain ⟨p, tp, rfl, hp⟩ := hi.at i v hv
    obtain ⟨⟨rp, hrp⟩, _, _⟩ := hI.all p (List.mem_of_getElem? hp)
    have hnext := hI.next hW hp hrp
    have hfl := hnext.le hW
    have hil := hi.length
    rw [List.length_append] at hfl
    have hne := off' _ (.head _)
    dsimp only at hne
    replace F' : Fr g L h _ := frOver F' hK
    replace N' : News g L h _ := N'
    ((try k_extra "gq"); k_steps; (all_goals try k_extra "uq"))
    rename_i D2 c2 vs2 h3 tk3 F3 N3 hi2 hlt2 hln2 hle2
    have hch := hW.ch p rp hrp
    let jj14 : Nat → List Value → Led → Prop := (fun i ys news' => news' = (D2, listOf vs2.toArray c2) :: (it, oi) :: (fd, listOf us'.toArray c) :: (L + 1, o1) :: news ∧ IntsAre ys ((rp.ch.take i).filter (isEl T)))
    refine go_on (comp_list (us := vs2) 30 jj14
      rfl (by decide) rfl rfl (by decide) (by k_asm) (by k_asm) ⟨rfl, .nil⟩ ?_ ?_ ?_)
    · rintro j ys news' ⟨rfl, hys⟩
      refine ⟨⟨_, .head _⟩, ?_⟩
      rw [hys.length]
      exact Nat.le_trans (List.length_filter_le _ _) (by rw [List.length_take]; have := hW.chl hrp; k_extra "om")
    · rintro j ys v it2 oi2 C oC D m₃ h5 tk5 news₁ hv5 ⟨rfl, hys⟩ hoC hmx F5 N5 off hne5
      obtain ⟨n5, tn5, rfl, hn5⟩ := hi2.at j v hv5
      have hfs := filter_step (f := isEl T) hn5
      obtain ⟨_, r5, hr5, _⟩ := hch n5 (List.mem_of_getElem? hn5)
      unfold CTurn
      dsimp only
      ((try k_extra "gq"); k_steps; (all_goals try k_extra "uq"))
      · refine ⟨_, _, _, rfl, by k_asm, by k_asm, off, rfl, ?_⟩
        rw [hfs, if_pos (by simp only [isEl, hr5]; assumption)]
        exact hys.append (.cons _ _ .nil)
      · refine ⟨_, _, _, rfl, by k_asm, by k_asm, off, rfl, ?_⟩
        rw [hfs, if_neg (by simp only [isEl, hr5]; simp_all)]
        exact hys
    · rintro ys D h5 tk5 news₁ ⟨rfl, hys⟩ F5 N5 off
      rw [hle2, List.take_length] at hys
      have hel := hys.length
      have hel2 : (List.filter (isEl T) rp.ch).length = (elch T rp).length := rfl
      obtain ⟨e1, e2, e3, _⟩ := off
      have e4 : @Ne Nat fd D := e3
      have e5 : @Ne Nat it fd := Ne.symm hne
      have e6 : @LT.lt Nat _ fd D2 := hlt2 _ (.tail _ (.head _))
      ((try k_extra "gq"); k_steps; (all_goals try k_extra "uq"))
      exact ⟨_, (fd, listOf (us' ++ ys).toArray (extC us' ys c)) :: (L + 1, o1) :: news, _, _, rfl, by k_asm, by k_extra "nsub", off1_keys off' rfl, us' ++ ys, _, fs ++ elch T rp, rfl, ⟨rfl, trivial⟩, hi.append hys, hnext⟩
  · rintro i us' m₁ news₁ h tk ⟨c, fs, rfl, hK, hi, hI⟩ hi1 hi2 F' N'
    replace F' : Fr g L h _ := frOver F' hK
    replace N' : News g L h _ := N'
    have hil := hi.length
    ((try k_extra "gq"); k_steps; (all_goals try k_extra "uq"))
    refine fin_new (by k_asm) (by k_asm) (.head _) (by k_extra "sub") ⟨_, _, _, _, rfl, rfl, hi, hI.nd, hI.done (by k_extra "om"), fun x hx => (hI.all x hx).1, hI.le hW, of_allLt l1.2⟩
theorem beneath_use {w : World} {mean : ExcName → Option Value} {mg mb : Str → Option Value} {t : Addr} {T : MTree} {z : Int} {n : Tok} {r : MRow} : UseOf w mean mg mb 31 303 (.ref 611) [.ref t, .int z n] (fun news => T3 (TreeAt w news t T) (rowOf T z = some r) (WF T)) (fun news C => ∀ (D : Addr) (c : Nat) (vs : List Value) (Ls : List Int), C ((D, listOf vs.toArray c) :: news) (fun G => IntsAre vs Ls → Ls.Nodup → (∀ x, x ∈ Ls ↔ Reach T z x) → (∀ x ∈ Ls, ∃ rx, rowOf T x = some rx) → Ls.length ≤ 30 → (∀ p ∈ news, p.1 < D) → vs.length = Ls.length → G) (.ref D)) :=
  useOf beneath_ok fun news news' r C hp ret => by
    obtain ⟨D, c, vs, Ls, rfl, rfl, hf0, hf1, hf2, hf3, hf4, hf5⟩ := hp
    exact ⟨_, ret D c vs Ls, fun G h => h hf0 hf1 hf2 hf3 hf4 hf5 hf0.length⟩
theorem word65 : True := by
  (k_with "call ref" => ((k_here; (with_reducible show wpAny _ _ (call (Value.ref 611) _) _ _ _); k_dflt (refine' beneath_use ?kB ?kF ?kX ?kN ?kT ?kk ?pre ?k1 ?k2 ?_; (case kB => k_asm); (case kF => k_asm); (case kX => k_asm); (case kN => k_asm); (case kT => k_asm); (case kk => exact rfl); (case pre => exact ⟨by k_extra "tree", by assumption, by assumption⟩); (case k1 => k_extra "room"); (case k2 => k_extra "room"); k_whole); intro _ _ _ _ _ _ _ _ _ _ _ _ _ _ _; (try dsimp only); (try k_fold))))
  trivial
theorem word66 : True := by
  (k_with "call type:list" => ((k_here; (with_reducible show wpAny _ _ (call (Value.type "list") [Value.ref _]) _ _ _); k_dflt (refine' my_list_dict ?k9 ?k0 ?k1 ?k2 ?k4 ?k5 ?k3 ?_; (case k9 => exact rfl); (case k0 => k_asm); (case k1 => k_asm); (case k2 => k_mem); (case k4 => assumption); (case k5 => assumption); (case k3 => k_extra "om"); k_whole); intro _ _ _ _ _ _ _ _ _ _)))
  (k_with "call type:list" => ((k_here; (with_reducible show wpAny _ _ (call (Value.type "list") [Value.ref _]) _ _ _); k_dflt (refine' my_listcopy ?k0 ?k1 ?k2 ?k3 ?_; (case k0 => k_asm); (case k1 => k_asm); (case k2 => k_mem); (case k3 => k_extra "om"); k_whole); intro _ _ _ _ _ _)))
  (k_with "call type:dict" => ((k_here; (with_reducible show wpAny _ _ (call (Value.type "dict") [Value.ref _]) _ _ _); k_dflt (refine' my_dict (ns := ?ns) ?k9 ?k0 ?k1 ?kT ?k2 ?k4 ?k3 ?k5 ?_; (case k9 => exact rfl); (case k0 => k_asm); (case k1 => k_asm); (case kT => exact Top.nolimit (by k_asm)); (case k2 => k_mem); (case k5 => assumption); (case k4 => assumption); (case k3 => k_extra "om"); k_whole); intro _ _ _ _ _ _ _ _ _ _ _ _)))
  trivial
inductive once_P (w : World) (l : Addr) (us : List Value) (c₀ : Nat) (ns : List Int) (news news' : Led) (v : Value) : Prop
  | mk : ∀ D c vs Ls, (news' = (D, listOf vs.toArray c) :: news) → (v = .ref D) → (IntsAre vs Ls) → (Ls.Nodup) → ((∀ x, x ∈ Ls ↔ x ∈ ns)) → (Ls.length ≤ ns.length) → ((∀ p ∈ news, p.1 < D)) → once_P w l us c₀ ns news news' v
theorem once_ok {w : World} {mean : ExcName → Option Value} {mg mb : Str → Option Value} {l : Addr} {us : List Value} {c : Nat} {ns : List Int} :
    Says w mean mg mb (10 + 1) (100 + 3) (.ref 616) [.ref l] (fun news => T3 ((l, listOf us.toArray c) ∈ news) (IntsAre us ns) (ns.length ≤ 1000)) (once_P w l us c ns) := by
  k_dflt (refine' says_def [(Str.ofString "nodes", .ref l)] ?k6 ?k7 ?k9 ?kB ?c2 ?c3 ?c4 ?c5 ?_; (case k6 => k_is); (case k7 => k_is); (case k9 => rfl); (case c5 => decide); (case kB => exact locs rfl); (case c2 => exact rfl); (case c3 => exact rfl); (case c4 => exact rfl); k_whole)
  intro dp un gd outer A₁ base g L news s B F X N TT hR hdp hu
  obtain ⟨hl, hi, hn⟩ := hR
  have hle := hi.length
  ((try k_extra "gq"); k_steps; (all_goals try k_extra "uq"))
  let jj15 : Nat → List Value → Led → Prop := (fun i ys news' => T4 (∀ p ∈ news, p ∈ news') (ys.length = i) (i ≤ us.length) (∀ (j : Nat) (n : Int), j < i → ns[j]? = some n → ∃ (a : Addr) (t : Tok) (k : Nat) (x : Value), ys[j]? = some (.ref a) ∧ (a, tupOf #[.int n t, x] k) ∈ news'))
  refine go_on (comp_list (us := us) 1000 jj15
    rfl (by decide) rfl rfl (by decide) (by k_asm) (by k_asm) ⟨fun _ h => h, rfl, Nat.zero_le _, fun j n hj => absurd hj (Nat.not_lt_zero _)⟩ ?_ ?_ ?_)
  · rintro i ys news' ⟨hs, hy, hiu, _⟩
    exact ⟨⟨_, hs _ hl⟩, by k_extra "om"⟩
  · rintro i ys v it oi C oC D m₃ h2 tk2 news₁ hv ⟨hs, hy, hiu, hall⟩ hoC hmx F2 N2 off hne
    obtain ⟨n2, tn, rfl, hn2⟩ := hi.at i v hv
    have hil : i < us.length := by
      rcases Nat.lt_or_ge i us.length with h | h
      · exact h
      · rw [List.getElem?_eq_none h] at hv; cases hv
    unfold CTurn
    dsimp only
    ((try k_extra "gq"); k_steps; (all_goals try k_extra "uq"))
    rename_i D3 h3 F3 N3 l3
    obtain ⟨x1, x2, x3, _⟩ := l3
    have y1 : @Ne Nat D3 it := by k_extra "om"
    have y2 : @Ne Nat D3 C := by k_extra "om"
    have y3 : @Ne Nat D3 D := by k_extra "om"
    refine ⟨_, _, (D3, tupOf #[.int n2 tn, .bool true] 0) :: news₁, rfl, by k_asm, by k_extra "nsub", LCg.Off3.of fun p hp => ?_, fun p hp => .tail _ (hs p hp), by simp [hy], by k_extra "om", fun j n hj hjn => ?_⟩
    · rcases List.mem_cons.mp hp with rfl | hp
      · exact ⟨y1, y2, y3⟩
      · exact off3_ne off p hp
    · rcases Nat.lt_or_ge j i with h | h
      · obtain ⟨a, t, k, x, h1, h2⟩ := hall j n h hjn
        exact ⟨a, t, k, x, by rw [List.getElem?_append_left (by k_extra "om")]; exact h1, .tail _ h2⟩
      · obtain rfl : j = i := by k_extra "om"
        rw [hn2] at hjn
        cases hjn
        exact ⟨D3, tn, 0, .bool true, by rw [← hy]; simp, .head _⟩
  · rintro ys D h2 tk2 news₁ ⟨hs, hy, hiu, hall⟩ F2 N2 off
    have hall' : ∀ (i : Nat) (n : Int), ns[i]? = some n → ∃ (a : Addr) (t : Tok) (k : Nat) (x : Value), ys[i]? = some (.ref a) ∧ (a, tupOf #[.int n t, x] k) ∈ (D, LCg.lst ys) :: news₁ := fun i n hn2 => by
      have hil : i < ns.length := by
        rcases Nat.lt_or_ge i ns.length with h | h
        · exact h
        · rw [List.getElem?_eq_none h] at hn2; cases hn2
      obtain ⟨a, t, k, x, h1, h2⟩ := hall i n (by k_extra "om") hn2
      exact ⟨a, t, k, x, h1, .tail _ h2⟩
    have hyn : ys.length = ns.length := by k_extra "om"
    ((try k_extra "gq"); k_steps; (all_goals try k_extra "uq"))
    rename_i d4 o4 h4 tk4 kvs4 F4 N4 lt4 ds4 do4 dm4 dl4 D5 c5 h5 tk5 vs5 F5 N5 lt5 vi5 nd5
    refine fin_new (by k_asm) (by k_asm) (.head _) (fun p hp => .tail _ (.tail _ (.tail _ (hs p hp)))) ⟨_, _, _, _, rfl, rfl, vi5, nd5, dm4, by simpa using dl4, fun p hp => lt5 p (.tail _ (.tail _ (hs p hp)))⟩
theorem once_use {w : World} {mean : ExcName → Option Value} {mg mb : Str → Option Value} {l : Addr} {us : List Value} {c : Nat} {ns : List Int} : UseOf w mean mg mb 11 103 (.ref 616) [.ref l] (fun news => T3 ((l, listOf us.toArray c) ∈ news) (IntsAre us ns) (ns.length ≤ 1000)) (fun news C => ∀ (D : Addr) (c : Nat) (vs : List Value) (Ls : List Int), C ((D, listOf vs.toArray c) :: news) (fun G => IntsAre vs Ls → Ls.Nodup → (∀ x, x ∈ Ls ↔ x ∈ ns) → Ls.length ≤ ns.length → (∀ p ∈ news, p.1 < D) → vs.length = Ls.length → G) (.ref D)) :=
  useOf once_ok fun news news' r C hp ret => by
    obtain ⟨D, c, vs, Ls, rfl, rfl, hf0, hf1, hf2, hf3, hf4⟩ := hp
    exact ⟨_, ret D c vs Ls, fun G h => h hf0 hf1 hf2 hf3 hf4 hf0.length⟩
theorem word67 : True := by
  (k_with "call ref" => ((k_here; (with_reducible show wpAny _ _ (call (Value.ref 616) _) _ _ _); k_dflt (refine' once_use ?kB ?kF ?kX ?kN ?kT ?kk ?pre ?k1 ?k2 ?_; (case kB => k_asm); (case kF => k_asm); (case kX => k_asm); (case kN => k_asm); (case kT => k_asm); (case kk => exact rfl); (case pre => exact ⟨by k_mem, by assumption, by assumption⟩); (case k1 => k_extra "room"); (case k2 => k_extra "room"); k_whole); intro _ _ _ _ _ _ _ _ _ _ _ _ _ _; (try dsimp only); (try k_fold))))
  trivial
theorem word68 : True := by
  (k_with "sub" => (with_reducible assumption))
  (k_with "unstop" => ((rename StopHere => q9; clear q9)))
  trivial
theorem word69 : True := by
  (k_with "call builtin:list.extend" => ((k_here; (with_reducible show wpAny _ _ (call (Value.builtin "list.extend") [Value.ref _, Value.ref _]) _ _ _); (have hI9' := IntsAre.length (‹IntsAre _ (List.take _ _)›)); k_dflt (refine' my_extend ?k1 ?k2 ?kb ?k3 ?k4 ?_; (case k1 => k_asm); (case k2 => k_asm); (case kb => k_mem); (case k3 => k_upd); (case k4 => k_extra "om"); k_whole); clear hI9'; intro _ _ _; (try k_sweep))))
  (k_with "nsub8" => ((refine' news_sub ?N ?S; (case N => k_asm); (case S => exact sub_cons (by k_mem) (sub_tail (sub_tail (by k_extra "sub")))))))
  (k_with "memn" => (first | assumption | (refine' List.Mem.tail _ ?_; k_extra "memn")))
  (k_with "exec If" => (((have q9 : StopHere := by with_reducible assumption); clear q9; refine stop_of ?_)))
  (k_with "exec Assign cons IfExp" => (((have q9 : StopHere := by with_reducible assumption); clear q9; refine stop_of ?_)))
  (k_with "exec Assign Name IfExp" => (((have q9 : StopHere := by with_reducible assumption); clear q9; refine stop_of ?_)))
  trivial
inductive walked_P (w : World) (t rl : Addr) (T : MTree) (z : Int) (n : Tok) (r : MRow) (rows : List PSp) (news news' : Led) (v : Value) : Prop
  | mk : ∀ D c vs Ls, (news' = (D, listOf vs.toArray c) :: news) → (v = .ref D) → (IntsAre vs Ls) → (Ls.Nodup) → ((∀ x, x ∈ Ls ↔ WalkP T rows z x)) → ((∀ x ∈ Ls, ∃ rx, rowOf T x = some rx)) → (Ls.length ≤ 30) → ((∀ p ∈ news, p.1 < D)) → walked_P w t rl T z n r rows news news' v
theorem walked_ok {w : World} {mean : ExcName → Option Value} {mg mb : Str → Option Value} {t rl : Addr} {T : MTree} {z : Int} {n : Tok} {r : MRow} {rows : List PSp} :
    Says w mean mg mb (60 + 1) (600 + 3) (.ref 621) [.ref t, .int z n, .ref rl] (fun news => T6 (TreeAt w news t T) (rowOf T z = some r) (WF T) (RowsL news rl rows) (rows ≠ []) (RowsOK rows)) (walked_P w t rl T z n r rows) := by
  k_dflt (refine' says_defC [(Str.ofString "tree", .ref t), (Str.ofString "begin", .int z n), (Str.ofString "rows", .ref rl)] ?k6 ?k7 ?k9 ?kB ?kD ?c2 ?c3 ?c4 ?_; (case k6 => k_is); (case k7 => k_is); (case k9 => rfl); (case kB => rfl); (case kD => decide); (case c2 => exact rfl); (case c3 => exact rfl); (case c4 => exact rfl); k_whole)
  intro dp un gd outer A₁ base g L news cells s B F X N hY hlL TT hR hdp hu
  obtain ⟨hT, hz, hW, hrl, hr0, hrk⟩ := hR
  have hT' := hT
  obtain ⟨dt, rlT, tkT, kT, vsT, hT1, hT2, _⟩ := hT'
  obtain ⟨o1, o2, o3, rfl, hc1, hc2, hc3⟩ := CellsAre.three (show CellsAre _ [(_, _), (_, _), (_, _)] _ from hY)
  replace N : News g L s.heap ((_, o1) :: (_, o2) :: (_, o3) :: news) := N
  replace hc3 : o3.data = .cell (some (.ref t)) := hc3
  clear hY
  replace hc1 : ∃ v0, o1.data = .cell v0 := ⟨_, hc1⟩
  replace hc2 : ∃ v0, o2.data = .cell v0 := ⟨_, hc2⟩
  have hA3 : AllLt (L + 1 + 1 + 1) news := allLt_of fun p hp => Nat.lt_succ_of_lt (Nat.lt_succ_of_lt (Nat.lt_succ_of_lt (hlL p hp)))
  have hA2 : AllLt (L + 1 + 1) news := allLt_of fun p hp => Nat.lt_succ_of_lt (Nat.lt_succ_of_lt (hlL p hp))
  have hst : StopHere := trivial
  ((try k_extra "gq"); k_steps; (all_goals try k_extra "uq"))
  let jj16 : (Str → Option Value) → Led → Prop := (fun m' news' => X4 (fun (hl : Addr) (hvs : List Value) (c : Nat) (Hs : List Int) => T8 (news' = (hl, listOf hvs.toArray c) :: (L + 1 + 1 + 1, o1) :: (L + 1 + 1, o2) :: (L + 1, o3) :: news) (Knows m' [(Str.ofString "here", .ref hl), (Str.ofString "rows", .ref rl)]) (IntsAre hvs Hs) (Hs.Nodup) (∀ x ∈ Hs, ∃ rx, rowOf T x = some rx) (∀ x, x ∈ Hs ↔ (stW T z []).1 x) (@Ne Nat hl (L + 1 + 1 + 1)) (@Ne Nat hl (L + 1 + 1))))
  refine go_on (cut (h₀ := g) (L := L) jj16 ?_ ?_)
  · k_extra "unstop"
    have hcon : isCon T z = conR r := by simp only [isCon, hz]
    ((try k_extra "gq"); k_steps; (all_goals try k_extra "uq"))
    · rename_i lA hA l1A aA lB hB l1B hB2 FB NB
      replace aA : conR r = true := aA
      exact ⟨rfl, _, (lB, listOf [Value.int z n].toArray 0) :: (L + 1 + 1 + 1, o1) :: (L + 1 + 1, o2) :: (L + 1, o3) :: news, _, _, rfl, by k_asm, by k_extra "nsub", lB, [.int z n], 0, [z], rfl, ⟨rfl, rfl, trivial⟩, .cons _ _ .nil, by simp,
        fun x hx => by rw [List.mem_singleton.mp hx]; exact ⟨r, hz⟩, fun x => by show x ∈ [z] ↔ (x = z ∧ isCon T z = true); rw [hcon, aA]; simp, by k_extra "om", by k_extra "om"⟩
    · rename_i lA hA l1A aA lB hB l1B hB2 FB NB
      replace aA : conR r = false := aA
      exact ⟨rfl, _, (lB, listOf ([] : List Value).toArray 0) :: (L + 1 + 1 + 1, o1) :: (L + 1 + 1, o2) :: (L + 1, o3) :: news, _, _, rfl, by k_asm, by k_extra "nsub", lB, [], 0, [], rfl, ⟨rfl, rfl, trivial⟩, .nil, by simp,
        fun x hx => (nomatch hx), fun x => by show x ∈ [] ↔ (x = z ∧ isCon T z = true); rw [hcon, aA]; simp, by k_extra "om", by k_extra "om"⟩
  · rintro m1 news1 h1 tk1 F1 N1 ⟨hl, hvs, c1, Hs, rfl, hK1, hi1, hnd1, hva1, hm1, hlt1, hal1⟩
    replace F1 : Fr g L h1 _ := frOver F1 hK1
    replace N1 : News g L h1 _ := N1
    have hrl' := hrl
    obtain ⟨rvs, rk, hr1, hr2, hr3, hr4⟩ := hrl'
    ((try k_extra "gq"); k_steps; (all_goals try k_extra "uq"))
    let jj17 : Nat → List Value → (Str → Option Value) → Led → Prop := (fun i us' m₁ news₁ => us' = rvs ∧ X7 (fun (hl : Addr) (hvs : List Value) (c : Nat) (Hs : List Int) (o1 o2 : Obj) (bs : Led) => T11 (∃ v0, o1.data = .cell v0) (∃ v0, o2.data = .cell v0) (bs = (hl, listOf hvs.toArray c) :: (L + 1 + 1 + 1, o1) :: (L + 1 + 1, o2) :: (L + 1, o3) :: news) (Knows m₁ [(Str.ofString "here", .ref hl)]) (IntsAre hvs Hs) (Hs.Nodup) (∀ x ∈ Hs, ∃ rx, rowOf T x = some rx) (∀ x, x ∈ Hs ↔ (stW T z (rows.take i)).1 x) (@Ne Nat hl (L + 1 + 1 + 1)) (@Ne Nat hl (L + 1 + 1)) ((i = 0 ∧ news₁ = bs) ∨ ∃ (fl : Addr) (fvs : List Value) (cf : Nat) (Fs : List Int), news₁ = (fl, listOf fvs.toArray cf) :: bs ∧ Knows m₁ [(Str.ofString "found", .ref fl)] ∧ IntsAre fvs Fs ∧ Fs.Nodup ∧ (∀ x, x ∈ Fs ↔ (stW T z (rows.take i)).2 x) ∧ (∀ x ∈ Fs, ∃ rx, rowOf T x = some rx) ∧ AllLt fl news)))
    refine go_on (iter_list 3 jj17
      rfl (by k_asm) (by k_asm) ⟨rfl, hl, hvs, c1, Hs, o1, o2, _, hc1, hc2, rfl, ⟨rfl, trivial⟩, hi1, hnd1, hva1, hm1, hlt1, hal1, .inl ⟨rfl, rfl⟩⟩ ?_ ?_ ?_)
    · rintro i us' m₁ news₁ ⟨rfl, hl2, hvs2, c2, Hs2, o12, o22, bs, _, _, rfl, _, _, _, _, _, _, _, ⟨_, rfl⟩ | ⟨fl, fvs, cf, Fs, rfl, _⟩⟩
      · exact ⟨by k_extra "om", _, .tail _ (.tail _ (.tail _ (.tail _ hr1)))⟩
      · exact ⟨by k_extra "om", _, .tail _ (.tail _ (.tail _ (.tail _ (.tail _ hr1))))⟩
    · rintro i us' v m₁ news₁ it oi h tk ⟨rfl, hl2, hvs2, c2, Hs2, o12, o22, bs, ⟨v12, hv12⟩, ⟨v22, hv22⟩, hbs, hK2, hi2, hnd2, hva2, hm2, hlt2, hal2, hbb⟩ hv F2 N2 off2
      have hil : i < rows.length := by
        rcases Nat.lt_or_ge i rows.length with h | h
        · exact h
        · rw [List.getElem?_eq_none (by k_extra "om")] at hv; cases hv
      obtain ⟨p, hp⟩ : ∃ p, rows[i]? = some p := ⟨_, List.getElem?_eq_getElem hil⟩
      have hst := stW_next (T := T) (z := z) hp
      obtain ⟨ra, hra, hrt⟩ := hr4 i _ hp
      rw [hra] at hv
      obtain rfl := Option.some.inj hv
      obtain ⟨ta, tp, kp, hrt1, hrt2⟩ := hrt
      have hpk := hrk p (List.mem_of_getElem? hp)
      have off3 : ∀ q ∈ bs, @Ne Nat q.1 it := by
        rcases hbb with ⟨_, rfl⟩ | ⟨_, _, _, _, rfl, _⟩
        · exact off2
        · exact fun q hq => off2 q (.tail _ hq)
      have N3 : News g L h ((it, oi) :: bs) := by
        rcases hbb with ⟨_, rfl⟩ | ⟨_, _, _, _, rfl, _⟩
        · exact N2
        · exact news_sub N2 (sub_cons (.head _) (sub_tail (sub_tail fun _ h => h)))
      clear N2 off2 hbb
      subst hbs
      replace F2 : Fr g L h _ := frOver F2 hK2
      have w1 : @Ne Nat hl2 it := off3 _ (.head _)
      have w2 : @Ne Nat (L + 1 + 1 + 1) it := off3 _ (.tail _ (.head _))
      have w3 : @Ne Nat (L + 1 + 1) it := off3 _ (.tail _ (.tail _ (.head _)))
      ((try k_extra "gq"); k_steps; (all_goals try k_extra "uq"))
      rename_i hq1 hq2 oA dA hq3 oT dT hq4 hq5 F3 N3
      have hsub0 : ∀ q ∈ news, q ∈ (it, oi) :: (hl2, listOf hvs2.toArray c2) :: (L + 1 + 1 + 1, oT) :: (L + 1 + 1, oA) :: (L + 1, o3) :: news := by k_extra "sub"
      let jj18 : (Str → Option Value) → Led → Prop := (fun m' news' => X4 (fun (hl3 : Addr) (hvs3 : List Value) (c3 : Nat) (Hs3 : List Int) => T7 (news' = (it, oi) :: (hl3, listOf hvs3.toArray c3) :: (L + 1 + 1 + 1, oT) :: (L + 1 + 1, oA) :: (L + 1, o3) :: news) (Knows m' [(Str.ofString "here", .ref hl3), (Str.ofString "position", posV p.pos tp)]) (IntsAre hvs3 Hs3) (Hs3.Nodup) (∀ x ∈ Hs3, ∃ rx, rowOf T x = some rx) (∀ x, x ∈ Hs3 ↔ Base T p (stW T z (rows.take i)).1 x) (@Ne Nat hl3 it)))
      refine go_on (cut (h₀ := g) (L := L) jj18 ?_ ?_)
      · k_extra "unstop"
        ((try k_extra "gq"); k_steps; (all_goals try k_extra "uq"))
        · have hdeep : p.deep = true := by assumption
          have hHle := hW.le hnd2 hva2
          let jj19 : Nat → List Value → Led → Prop := (fun j ys news' => (∀ q ∈ (it, oi) :: (hl2, listOf hvs2.toArray c2) :: (L + 1 + 1 + 1, oT) :: (L + 1 + 1, oA) :: (L + 1, o3) :: news, q ∈ news') ∧ ∃ Ys, T5 (IntsAre ys Ys) (Ys.length ≤ 30 * j) (j ≤ Hs2.length) (∀ x, x ∈ Ys ↔ ∃ b ∈ Hs2.take j, Reach T b x) (∀ x ∈ Ys, ∃ rx, rowOf T x = some rx))
          refine go_on (comp_list2 (us := hvs2) 1000 jj19
            rfl (by decide) rfl rfl rfl (by decide) (by intro _ _; rfl) (by decide) (by k_asm) (by k_asm) ⟨fun _ h => h, [], .nil, Nat.zero_le _, Nat.zero_le _, fun x => by simp, fun x hx => (nomatch hx)⟩ ?_ ?_ ?_)
          · rintro j ys news' ⟨hs, Ys, hy, hyl, hj, _⟩
            exact ⟨⟨_, hs _ (.tail _ (.head _))⟩, by rw [hy.length]; k_extra "om"⟩
          · rintro j ys v it5 oi5 C5 oC5 D5 m₅ h5 tk5 news₅ hv5 ⟨hs5, Ys, hy, hyl, hj, hym, hyv⟩ hoC5 hmx5 F5 N5 off5 hne5
            obtain ⟨b, tb, rfl, hb⟩ := hi2.at j v hv5
            obtain ⟨rb, hrb⟩ := hva2 b (List.mem_of_getElem? hb)
            have hT5 : TreeAt w news₅ t T := hT.mono fun q hq => hs5 q (hsub0 q hq)
            have hm35 : (L + 1, o3) ∈ news₅ := hs5 _ (.tail _ (.tail _ (.tail _ (.tail _ (.head _)))))
            have hjl : j < Hs2.length := by
              rcases Nat.lt_or_ge j Hs2.length with h | h
              · exact h
              · rw [List.getElem?_eq_none h] at hb; cases hb
            ((try k_extra "gq"); k_steps; (all_goals try k_extra "uq"))
            rename_i D6 c6 vs6 Ls6 h6 tk6 F6 N6 hi6 hnd6 hmm6 hva6 hln6 hlt6 hle6
            refine ⟨D6, vs6, c6, _, _, (D6, listOf vs6.toArray c6) :: news₅, rfl, rfl, by k_asm, by k_extra "nsub", LCg.Off3.of fun q hq => ?_, .head _, fun q hq => .tail _ (hs5 q hq), Ys ++ Ls6, hy.append hi6, by rw [List.length_append]; k_extra "om", by k_extra "om", fun x => ?_, fun x hx => ?_⟩
            · rcases List.mem_cons.mp hq with rfl | hq
              · exact ⟨Ne.symm (Nat.ne_of_lt (hlt6 _ (.head _))), Ne.symm (Nat.ne_of_lt (hlt6 _ (.tail _ (.head _)))), Ne.symm (Nat.ne_of_lt (hlt6 _ (.tail _ (.tail _ (.head _)))))⟩
              · exact off3_ne off5 q hq
            · simp only [List.mem_append, hym x, hmm6 x, take_mem_next hb]
              constructor
              · rintro (⟨b', h1, h2⟩ | h)
                · exact ⟨b', .inl h1, h2⟩
                · exact ⟨b, .inr rfl, h⟩
              · rintro ⟨b', h1 | rfl, h2⟩
                · exact .inl ⟨b', h1, h2⟩
                · exact .inr h2
            · rcases List.mem_append.mp hx with hx | hx
              · exact hyv x hx
              · exact hva6 x hx
          · rintro ys D5 h5 tk5 news₅ ⟨hs5, Ys, hy, hyl, hj, hym, hyv⟩ F5 N5 off5
            have hyle := hy.length
            have hHl := hi2.length
            rw [hHl, List.take_length] at hym
            have hsub5 : ∀ q ∈ news, q ∈ news₅ := fun q hq => hs5 q (hsub0 q hq)
            have hm1 : (it, oi) ∈ news₅ := hs5 _ (.head _)
            have hm2' : (L + 1 + 1 + 1, oT) ∈ news₅ := hs5 _ (.tail _ (.tail _ (.head _)))
            have hm3' : (L + 1 + 1, oA) ∈ news₅ := hs5 _ (.tail _ (.tail _ (.tail _ (.head _))))
            have hm4' : (L + 1, o3) ∈ news₅ := hs5 _ (.tail _ (.tail _ (.tail _ (.tail _ (.head _)))))
            have hY1 : Ys.length ≤ 1000 := by k_extra "om"
            ((try k_extra "gq"); k_steps; (all_goals try k_extra "uq"))
            rename_i D6 c6 vs6 Ls6 h6 tk6 hi6 hnd6 hmm6 hln6 hlt6 hle6 h7 F7 N7
            exact ⟨rfl, _, (it, oi) :: (D6, listOf vs6.toArray c6) :: (L + 1 + 1 + 1, oT) :: (L + 1 + 1, oA) :: (L + 1, o3) :: news, _, _, rfl, by k_asm, by k_extra "nsub", D6, vs6, c6, Ls6, rfl, ⟨rfl, rfl, trivial⟩, hi6, hnd6, fun x hx => hyv x ((hmm6 x).mp hx),
              fun x => by rw [hmm6 x, hym x, Base, if_pos hdeep]; exact exists_congr fun b => by rw [hm2 b], Ne.symm (Nat.ne_of_lt (hlt6 _ (.tail _ hm1)))⟩
        · have hdeep : ¬ p.deep = true := by simp_all
          exact ⟨rfl, _, _, _, _, rfl, by k_asm, by k_asm, hl2, hvs2, c2, Hs2, rfl, ⟨rfl, rfl, trivial⟩, hi2, hnd2, hva2, fun x => by rw [Base, if_neg hdeep]; exact hm2 x, w1⟩
      · rintro m4 news4 h4 tk4 F4 N4 ⟨hl3, hvs3, c3, Hs3, rfl, hK4, hi3, hnd3, hva3, hm3, hne3⟩
        replace F4 : Fr g L h4 _ := frOver F4 hK4
        replace N4 : News g L h4 _ := N4
        have hB3 := hW.le hnd3 hva3
        have hL3 := hi3.length
        ((try k_extra "gq"); k_steps; (all_goals try k_extra "uq"))
        rename_i fl hf1 lf hf2 FF NF
        obtain ⟨lf1, lf2, lf3, lf4, lf5, lf6⟩ := lf
        let jj20 : Nat → List Value → (Str → Option Value) → Led → Prop := (fun j us' m₁ news₁ => us' = hvs3 ∧ X2 (fun (fvs : List Value) (cf : Nat) => T3 (news₁ = (fl, listOf fvs.toArray cf) :: (it, oi) :: (hl3, listOf hvs3.toArray c3) :: (L + 1 + 1 + 1, oT) :: (L + 1 + 1, oA) :: (L + 1, o3) :: news) (Knows m₁ [(Str.ofString "found", .ref fl), (Str.ofString "position", posV p.pos tp)]) (IntsAre fvs ((Hs3.take j).flatMap (pick T p)))))
        refine go_on (iter_list 30 jj20 rfl (by k_asm) (by k_asm) ⟨rfl, [], 0, rfl, ⟨rfl, rfl, trivial⟩, .nil⟩ ?_ ?_ ?_)
        · rintro j us' m₁ news₁ ⟨rfl, fvs, cf, rfl, _⟩
          exact ⟨by k_extra "om", _, .tail _ (.tail _ (.head _))⟩
        · rintro j us' v m₁ news₁ it5 oi5 h5 tk5 ⟨rfl, fvs, cf, rfl, hK5, hfv5⟩ hv5 F5 N5 off5
          obtain ⟨b, tb, rfl, hb⟩ := hi3.at j v hv5
          obtain ⟨rb, hrb⟩ := hva3 b (List.mem_of_getElem? hb)
          have hfn := flat_next (f := pick T p) hb
          replace F5 : Fr g L h5 _ := frOver F5 hK5
          replace N5 : News g L h5 _ := N5
          ((try k_extra "gq"); k_steps; (all_goals try k_extra "uq"))
          rename_i hz1 D6 c6 vs6 h6 tk6 hi6 hlt6 hln6 hle6 h7 F7 N7
          have g6 : @LT.lt Nat _ fl D6 := hlt6 (fl, listOf fvs.toArray cf) (.tail _ (.head _))
          let jj21 : (Str → Option Value) → Led → Prop := (fun m' news' => X3 (fun (sl : Addr) (cs : Nat) (svs : List Value) => T4 (news' = (sl, listOf svs.toArray cs) :: (it5, oi5) :: (fl, listOf fvs.toArray cf) :: (it, oi) :: (hl3, listOf us'.toArray c3) :: (L + 1 + 1 + 1, oT) :: (L + 1 + 1, oA) :: (L + 1, o3) :: news) (Knows m' [(Str.ofString "some", .ref sl), (Str.ofString "found", .ref fl), (Str.ofString "position", posV p.pos tp)]) (IntsAre svs (axL rb p.attr)) (@Ne Nat fl sl)))
          refine go_on (cut (h₀ := g) (L := L) jj21 ?_ ?_)
          · k_extra "unstop"
            ((try k_extra "gq"); k_steps; (all_goals try k_extra "uq"))
            · rename_i D8 c8 vs8 h8 tk8 hi8 hlt8 hln8 hle8 h9 F9 N9
              have g8 : @LT.lt Nat _ fl D8 := hlt8 (fl, listOf fvs.toArray cf) (.tail _ (.tail _ (.head _)))
              exact ⟨rfl, _, _, _, _, rfl, by k_asm, by k_extra "nsub8", D8, c8, vs8, rfl, ⟨rfl, rfl, rfl, trivial⟩, axL_ats (by assumption) (by assumption) hi8, by k_extra "om"⟩
            · rename_i D8 h8 l8 h9 F9 N9
              exact ⟨rfl, _, _, _, _, rfl, by k_asm, by k_extra "nsub8", D8, 0, [], rfl, ⟨rfl, rfl, rfl, trivial⟩, axL_nil (by assumption) (by first | assumption | exact ff_of (by assumption)), by k_extra "om"⟩
            · exact ⟨rfl, _, _, _, _, rfl, by k_asm, by k_asm, D6, c6, vs6, rfl, ⟨rfl, rfl, rfl, trivial⟩, axL_ch (by first | assumption | exact ff_of (by assumption)) hi6, by k_extra "om"⟩
          · rintro m8 news8 h8 tk8 F8 N8 ⟨sl, cs, svs, rfl, hK8, hi8, hne8⟩
            replace F8 : Fr g L h8 _ := frOver F8 hK8
            replace N8 : News g L h8 _ := N8
            obtain ⟨hax, _, hav⟩ := hW.axl hrb p.attr
            have hsl := hi8.length
            have hpick : pick T p b = selP p.pos ((axL rb p.attr).filter (passAt T p.tst p.attr)) := by simp only [pick, hrb, selM]
            have hfvl := hfv5.length
            have hfvm := flat_le (f := pick T p) (fun b => pick_le hW) (Hs3.take j)
            have hjt : (Hs3.take j).length ≤ 30 := Nat.le_trans (List.length_take_le' _ _) hB3
            ((try k_extra "gq"); k_steps; (all_goals try k_extra "uq"))
            let jj22 : Nat → List Value → Led → Prop := (fun i ys news' => news' = (sl, listOf svs.toArray cs) :: (it5, oi5) :: (fl, listOf fvs.toArray cf) :: (it, oi) :: (hl3, listOf us'.toArray c3) :: (L + 1 + 1 + 1, oT) :: (L + 1 + 1, oA) :: (L + 1, o3) :: news ∧ IntsAre ys (((axL rb p.attr).take i).filter (passAt T p.tst p.attr)))
            refine go_on (comp_list_use (us := svs) 1000 jj22
              rfl rfl rfl rfl (by decide) rfl rfl (by decide) (by k_asm) (by k_asm) ⟨rfl, .nil⟩ ?_ ?_ ?_)
            · rintro i ys news' ⟨rfl, hys⟩
              refine ⟨⟨_, .head _⟩, ?_⟩
              rw [hys.length]
              exact Nat.le_trans (List.length_filter_le _ _) (by rw [List.length_take]; k_extra "om")
            · rintro i ys v it9 oi9 C oC D m₃ h2 tk2 news₁ hv ⟨rfl, hys⟩ hoC hmx F2 N2 off hne
              replace F2 : Fr g L h2 _ := F2
              replace N2 : News g L h2 _ := N2
              obtain ⟨n2, tn, rfl, hn2⟩ := hi8.at i v hv
              have hfs := filter_step (f := passAt T p.tst p.attr) hn2
              obtain ⟨r2, hr2, _⟩ := hav n2 (List.mem_of_getElem? hn2)
              unfold CTurn
              dsimp only
              ((try k_extra "gq"); k_steps; (all_goals try k_extra "uq"))
              · refine ⟨_, _, _, rfl, by k_asm, by k_asm, off, rfl, ?_⟩
                rw [hfs, if_pos (by simp only [passAt, hr2]; assumption)]
                exact hys.append (.cons _ _ .nil)
              · refine ⟨_, _, _, rfl, by k_asm, by k_asm, off, rfl, ?_⟩
                rw [hfs, if_neg (by simp only [passAt, hr2]; first | exact nt_of (by assumption) | assumption)]
                exact hys
            · rintro ys D h2 tk2 news₁ ⟨rfl, hys⟩ F2 N2 off
              replace F2 : Fr g L h2 _ := F2
              replace N2 : News g L h2 _ := N2
              rw [hsl, List.take_length] at hys
              have hysl := hys.length
              have hflt : ((axL rb p.attr).filter (passAt T p.tst p.attr)).length ≤ 30 := Nat.le_trans (List.length_filter_le _ _) hax
              obtain ⟨e1, e2, e3, _⟩ := off
              have e4 : @Ne Nat fl D := e3
              have e5 : @Ne Nat it5 fl := Ne.symm (off5 _ (.head _))
              cases hpos : p.pos with
              | none =>
                rw [hpos] at F2 hpick
                simp only [posV] at F2
                ((try k_extra "gq"); k_steps; (all_goals try k_extra "uq"))
                exact ⟨_, (fl, listOf (fvs ++ ys).toArray (extC fvs ys cf)) :: (it, oi) :: (hl3, listOf us'.toArray c3) :: (L + 1 + 1 + 1, oT) :: (L + 1 + 1, oA) :: (L + 1, o3) :: news, _, _, rfl, by k_asm, by k_extra "nsub", off1_keys off5 rfl, us', rfl, _, _, rfl, ⟨rfl, by rw [hpos]; rfl, trivial⟩, by rw [hfn, hpick]; exact hfv5.append hys⟩
              | some k =>
                obtain ⟨hk1, hk2⟩ := hpk k hpos
                rw [hpos] at F2 hpick
                simp only [posV] at F2
                ((try k_extra "gq"); k_steps; (all_goals try k_extra "uq"))
                rename_i D9 ws9 h9 hI9 hC9 hL9 l9 h10 F10 N10
                rw [slice_eq hk1] at hI9
                exact ⟨_, (fl, listOf (fvs ++ ws9).toArray (extC fvs ws9 cf)) :: (it, oi) :: (hl3, listOf us'.toArray c3) :: (L + 1 + 1 + 1, oT) :: (L + 1 + 1, oA) :: (L + 1, o3) :: news, _, _, rfl, by k_asm, by k_extra "nsub", off1_keys off5 rfl, us', rfl, _, _, rfl, ⟨rfl, by rw [hpos]; rfl, trivial⟩, by rw [hfn, hpick]; exact hfv5.append hI9⟩
        · rintro j us' m₁ news₁ h5 tk5 ⟨rfl, fvs, cf, rfl, hK5, hfv5⟩ hj1 hj2 F5 N5
          replace F5 : Fr g L h5 _ := frOver F5 hK5
          replace N5 : News g L h5 _ := N5
          rw [List.take_of_length_le (by k_extra "om")] at hfv5
          have hfl5 := flat_le (f := pick T p) (fun b => pick_le hW) Hs3
          have hfl6 : (Hs3.flatMap (pick T p)).length ≤ 1000 := by k_extra "om"
          have hfl7 := hfv5.length
          ((try k_extra "gq"); k_steps; (all_goals try k_extra "uq"))
          rename_i D6 c6 vs6 Ls6 h6 tk6 hi6 hnd6 hmm6 hln6 hlt6 hle6 qk6 ek6 h7 F7 N7
          have hF : ∀ x, x ∈ Ls6 ↔ Found T p (stW T z (rows.take i)).1 x := fun x => by
            rw [hmm6 x, List.mem_flatMap]
            exact exists_congr fun b => by rw [hm3 b]
          have hva6 : ∀ x ∈ Ls6, ∃ rx, rowOf T x = some rx := fun x hx => by
            obtain ⟨b, _, hb⟩ := (hF x).mp hx
            exact pick_valid hW hb
          have hL6 := hi6.length
          have hB6 := hW.le hnd6 hva6
          let jj23 : Nat → List Value → Led → Prop := (fun i ys news' => news' = (D6, listOf vs6.toArray c6) :: (it, oi) :: (L + 1 + 1 + 1, oT) :: (L + 1 + 1, oA) :: (L + 1, o3) :: news ∧ IntsAre ys ((Ls6.take i).filter (isCon T)))
          refine go_on (comp_list_use (us := vs6) 1000 jj23
            rfl rfl rfl rfl (by decide) rfl rfl (by decide) (by k_asm) (by k_extra "nsub") ⟨rfl, .nil⟩ ?_ ?_ ?_)
          · rintro i ys news' ⟨rfl, hys⟩
            refine ⟨⟨_, .head _⟩, ?_⟩
            rw [hys.length]
            exact Nat.le_trans (List.length_filter_le _ _) (by rw [List.length_take]; k_extra "om")
          · rintro i ys v it9 oi9 C oC D m₃ h2 tk2 news₁ hv ⟨rfl, hys⟩ hoC hmx F2 N2 off hne
            replace F2 : Fr g L h2 _ := F2
            replace N2 : News g L h2 _ := N2
            obtain ⟨n2, tn, rfl, hn2⟩ := hi6.at i v hv
            have hfs := filter_step (f := isCon T) hn2
            obtain ⟨r2, hr2⟩ := hva6 n2 (List.mem_of_getElem? hn2)
            have hcr : isCon T n2 = conR r2 := by simp only [isCon, hr2]
            unfold CTurn
            dsimp only
            ((try k_extra "gq"); k_steps; (all_goals try k_extra "uq"))
            · refine ⟨_, _, _, rfl, by k_asm, by k_extra "nsub", off, rfl, ?_⟩
              rw [hfs, if_pos (by rw [hcr]; assumption)]
              exact hys.append (.cons _ _ .nil)
            · have hcf : conR r2 = false := by assumption
              refine ⟨_, _, _, rfl, by k_asm, by k_extra "nsub", off, rfl, ?_⟩
              rw [hfs, if_neg (by rw [hcr, hcf]; decide)]
              exact hys
          · rintro ys D h2 tk2 news₁ ⟨rfl, hys⟩ F2 N2 off
            replace F2 : Fr g L h2 _ := F2
            replace N2 : News g L h2 _ := N2
            rw [hL6, List.take_length] at hys
            obtain ⟨e1, e2, e3, e4, _⟩ := off
            have f1 : @Ne Nat D it := Ne.symm e2
            have f2 : @Ne Nat D6 it := Ne.symm (Nat.ne_of_lt (hlt6 (it, oi) (.tail _ (.head _))))
            have f3 : @Ne Nat D (L + 1 + 1 + 1) := Ne.symm e3
            have f4 : @Ne Nat D (L + 1 + 1) := Ne.symm e4
            ((try k_extra "gq"); k_steps; (all_goals try k_extra "uq"))
            refine ⟨_, (D6, listOf vs6.toArray c6) :: (D, LCg.lst ys) :: (L + 1 + 1 + 1, oT) :: (L + 1 + 1, oA) :: (L + 1, o3) :: news, _, _, rfl, by k_asm, by k_extra "nsub", ?_, _, rfl, D, ys, _, Ls6.filter (isCon T), oT, oA, _, ⟨_, dT⟩, ⟨_, dA⟩, rfl, ⟨rfl, trivial⟩, hys, hnd6.filter _, fun x hx => hva6 x (List.mem_filter.mp hx).1,
              fun x => by rw [hst, List.mem_filter, hF x], f3, f4, .inr ⟨D6, vs6, c6, Ls6, rfl, ⟨rfl, trivial⟩, hi6, hnd6, fun x => by rw [hst, hF x], hva6, allLt_of fun q hq => hlt6 q (by k_extra "memn")⟩⟩
            intro q hq
            rcases List.mem_cons.mp hq with rfl | hq
            · exact f2
            rcases List.mem_cons.mp hq with rfl | hq
            · exact f1
            · exact off1_keys (fun q hq => off3 q (.tail _ hq)) (l' := (L + 1 + 1 + 1, oT) :: (L + 1 + 1, oA) :: (L + 1, o3) :: news) (l := (L + 1 + 1 + 1, o12) :: (L + 1 + 1, o22) :: (L + 1, o3) :: news) rfl q hq
    · rintro i us' m₁ news₁ h tk ⟨rfl, hl2, hvs2, c2, Hs2, o12, o22, bs, _, _, rfl, hK2, hi2, hnd2, hva2, hm2, hlt2, hal2, ⟨rfl, rfl⟩ | ⟨fl, fvs, cf, Fs, rfl, hK3, hi3, hnd3, hm3, hva3, hal3⟩⟩ hle2 _ F2 N2
      · have : rows.length = 0 := by k_extra "om"
        exact absurd (List.length_eq_zero_iff.mp this) hr0
      · replace F2 : Fr g L h _ := frOver F2 hK3
        replace N2 : News g L h _ := N2
        rw [List.take_of_length_le (by k_extra "om")] at hm3
        k_extra "unstop"
        ((try k_extra "gq"); k_steps; (all_goals try k_extra "uq"))
        refine fin_new (by k_asm) (by k_asm) (.head _) (by k_extra "sub") ⟨_, _, _, _, rfl, rfl, hi3, hnd3, hm3, hva3, hW.le hnd3 hva3, of_allLt hal3⟩
theorem walked_use {w : World} {mean : ExcName → Option Value} {mg mb : Str → Option Value} {t rl : Addr} {T : MTree} {z : Int} {n : Tok} {r : MRow} {rows : List PSp} : UseOf w mean mg mb 61 603 (.ref 621) [.ref t, .int z n, .ref rl] (fun news => T6 (TreeAt w news t T) (rowOf T z = some r) (WF T) (RowsL news rl rows) (rows ≠ []) (RowsOK rows)) (fun news C => ∀ (D : Addr) (c : Nat) (vs : List Value) (Ls : List Int), C ((D, listOf vs.toArray c) :: news) (fun G => IntsAre vs Ls → Ls.Nodup → (∀ x, x ∈ Ls ↔ WalkP T rows z x) → (∀ x ∈ Ls, ∃ rx, rowOf T x = some rx) → Ls.length ≤ 30 → (∀ p ∈ news, p.1 < D) → vs.length = Ls.length → G) (.ref D)) :=
  useOf walked_ok fun news news' r C hp ret => by
    obtain ⟨D, c, vs, Ls, rfl, rfl, hf0, hf1, hf2, hf3, hf4, hf5⟩ := hp
    exact ⟨_, ret D c vs Ls, fun G h => h hf0 hf1 hf2 hf3 hf4 hf5 hf0.length⟩
theorem word70 : True := by
  (k_with "call ref" => ((k_here; (with_reducible show wpAny _ _ (call (Value.ref 621) _) _ _ _); k_dflt (refine' walked_use ?kB ?kF ?kX ?kN ?kT ?kk ?pre ?k1 ?k2 ?_; (case kB => k_asm); (case kF => k_asm); (case kX => k_asm); (case kN => k_asm); (case kT => k_asm); (case kk => exact rfl); (case pre => exact ⟨by k_extra "tree", by assumption, by assumption, by k_extra "rows", by assumption, by assumption⟩); (case k1 => k_extra "room"); (case k2 => k_extra "room"); k_whole); intro _ _ _ _ _ _ _ _ _ _ _ _ _ _ _; (try dsimp only); (try k_fold))))
  (k_with "rows" => (first | with_reducible assumption | (refine' RowsL.mono ?h ?s; (case h => assumption); (case s => k_extra "sub"))))
  trivial
inductive due_P (w : World) (t nl tl rl : Addr) (T : MTree) (n0 : Tok) (rows : List PSp) (rooted : Bool) (kt kn : Nat) (nvs : List Value) (Ns : List Int) (news news' : Led) (v : Value) : Prop
  | mk : ∀ D c vs Ls, (news' = (D, listOf vs.toArray c) :: news) → (v = .ref D) → (IntsAre vs Ls) → ((∀ x, x ∈ Ls ↔ Due T rooted rows Ns x)) → (Ls.length ≤ 1000) → ((∀ p ∈ news, p.1 < D)) → due_P w t nl tl rl T n0 rows rooted kt kn nvs Ns news news' v
theorem due_ok {w : World} {mean : ExcName → Option Value} {mg mb : Str → Option Value} {t nl tl rl : Addr} {T : MTree} {n0 : Tok} {rows : List PSp} {rooted : Bool} {kt kn : Nat} {nvs : List Value} {Ns : List Int} :
    Says w mean mg mb (90 + 1) (1000 + 3) (.ref 626) [.ref t, .int 0 n0, .ref tl, .ref nl] (fun news => T10 (TreeAt w news t T) (WF T) ((tl, tupOf #[.bool rooted, .ref rl] kt) ∈ news) (RowsL news rl rows) (rows ≠ []) (RowsOK rows) ((nl, listOf nvs.toArray kn) ∈ news) (IntsAre nvs Ns) (∀ x ∈ Ns, ∃ rx, rowOf T x = some rx) (Ns.length ≤ 30)) (due_P w t nl tl rl T n0 rows rooted kt kn nvs Ns) := by
  k_dflt (refine' says_defC [(Str.ofString "tree", .ref t), (Str.ofString "root", .int 0 n0), (Str.ofString "told", .ref tl), (Str.ofString "nodes", .ref nl)] ?k6 ?k7 ?k9 ?kB ?kD ?c2 ?c3 ?c4 ?_; (case k6 => k_is); (case k7 => k_is); (case k9 => rfl); (case kB => rfl); (case kD => decide); (case c2 => exact rfl); (case c3 => exact rfl); (case c4 => exact rfl); k_whole)
  intro dp un gd outer A₁ base g L news cells s B F X N hY hlL TT hR hdp hu
  obtain ⟨hT, hW, htl, hrl, hr0, hrk, hnl, hni, hnv, hnn⟩ := hR
  have hT' := hT
  obtain ⟨dt, rlT, tkT, kT, vsT, hT1, hT2, _⟩ := hT'
  obtain ⟨o1, o2, rfl, hc1, hc2⟩ := CellsAre.two (show CellsAre _ [(_, _), (_, _)] _ from hY)
  replace N : News g L s.heap ((_, o1) :: (_, o2) :: news) := N
  replace hc2 : o2.data = .cell (some (.ref t)) := hc2
  clear hY
  have hA2 : AllLt (L + 1 + 1) news := allLt_of fun p hp => Nat.lt_succ_of_lt (Nat.lt_succ_of_lt (hlL p hp))
  have hst : StopHere := trivial
  ((try k_extra "gq"); k_steps; (all_goals try k_extra "uq"))
  rename_i oR0 FR0 NR0 dR0
  let jj24 : (Str → Option Value) → Led → Prop := (fun m' news' => X5 (fun (bl : Addr) (bvs : List Value) (c : Nat) (Bs : List Int) (oR : Obj) => T7 (oR.data = .cell (some (.ref rl))) (news' = (bl, listOf bvs.toArray c) :: (L + 1 + 1, oR) :: (L + 1, o2) :: news) (Knows m' [(Str.ofString "begins", .ref bl)]) (IntsAre bvs Bs) (Bs.length ≤ 31) (∀ x ∈ Bs, ∃ rx, rowOf T x = some rx) (∀ x, x ∈ Bs ↔ if rooted = true then x = 0 else x = 0 ∨ x ∈ Ns)))
  refine go_on (cut (h₀ := g) (L := L) jj24 ?_ ?_)
  · k_extra "unstop"
    have hb : ([0] ++ Ns).length ≤ 1000 := by simp only [List.length_append, List.length_cons, List.length_nil]; k_extra "om"
    ((try k_extra "gq"); k_steps; (all_goals try k_extra "uq"))
    · have hro : rooted = true := by assumption
      rename_i lB hB l1B hB2 FB NB
      exact ⟨rfl, _, _, _, _, rfl, by k_asm, by k_asm, lB, [.int 0 n0], 0, [0], oR0, dR0, rfl, ⟨rfl, trivial⟩, .cons _ _ .nil, by decide, fun x hx => by rw [List.mem_singleton.mp hx]; obtain ⟨r0, h0, _⟩ := hW.root; exact ⟨r0, h0⟩, fun x => by rw [if_pos hro]; simp⟩
    · have hro : ¬ rooted = true := by simp_all
      rename_i D6 c6 vs6 Ls6 h6 tk6 hi6 hnd6 hmm6 hln6 hlt6 hle6 h7 F7 N7
      exact ⟨rfl, _, (D6, listOf vs6.toArray c6) :: (L + 1 + 1, oR0) :: (L + 1, o2) :: news, _, _, rfl, by k_asm, by k_extra "nsub", D6, vs6, c6, Ls6, oR0, dR0, rfl, ⟨rfl, trivial⟩, hi6, by simp only [List.length_append, List.length_cons, List.length_nil] at hln6; k_extra "om",
        fun x hx => by
          rcases List.mem_cons.mp ((hmm6 x).mp hx) with rfl | hx
          · obtain ⟨r0, h0, _⟩ := hW.root; exact ⟨r0, h0⟩
          · exact hnv x hx, fun x => by rw [if_neg hro, hmm6 x]; exact List.mem_cons⟩
  · rintro m1 news1 h1 tk1 F1 N1 ⟨bl, bvs, c1, Bs, oR, hoR, rfl, hK1, hi1, hn1, hv1, hm1⟩
    replace F1 : Fr g L h1 _ := frOver F1 hK1
    replace N1 : News g L h1 _ := N1
    k_extra "unstop"
    have hbl := hi1.length
    have hsub0 : ∀ q ∈ news, q ∈ (bl, listOf bvs.toArray c1) :: (L + 1 + 1, oR) :: (L + 1, o2) :: news := by k_extra "sub"
    ((try k_extra "gq"); k_steps; (all_goals try k_extra "uq"))
    let jj25 : Nat → List Value → Led → Prop := (fun j ys news' => (∀ q ∈ (bl, listOf bvs.toArray c1) :: (L + 1 + 1, oR) :: (L + 1, o2) :: news, q ∈ news') ∧ ∃ Ys, T4 (IntsAre ys Ys) (Ys.length ≤ 30 * j) (j ≤ Bs.length) (∀ x, x ∈ Ys ↔ ∃ b ∈ Bs.take j, WalkP T rows b x))
    refine go_on (comp_list2 (us := bvs) 1000 jj25
      rfl (by decide) rfl rfl rfl (by decide) (by intro _ _; rfl) (by decide) (by k_asm) (by k_asm) ⟨fun _ h => h, [], .nil, Nat.zero_le _, Nat.zero_le _, fun x => by simp⟩ ?_ ?_ ?_)
    · rintro j ys news' ⟨hs, Ys, hy, hyl, hj, _⟩
      exact ⟨⟨_, hs _ (.head _)⟩, by rw [hy.length]; k_extra "om"⟩
    · rintro j ys v it5 oi5 C5 oC5 D5 m₅ h5 tk5 news₅ hv5 ⟨hs5, Ys, hy, hyl, hj, hym⟩ hoC5 hmx5 F5 N5 off5 hne5
      obtain ⟨b, tb, rfl, hb⟩ := hi1.at j v hv5
      obtain ⟨rb, hrb⟩ := hv1 b (List.mem_of_getElem? hb)
      have hT5 : TreeAt w news₅ t T := hT.mono fun q hq => hs5 q (hsub0 q hq)
      have hR5 : RowsL news₅ rl rows := hrl.mono fun q hq => hs5 q (hsub0 q hq)
      have hm35 : (L + 1, o2) ∈ news₅ := hs5 _ (.tail _ (.tail _ (.head _)))
      have hm36 : (L + 1 + 1, oR) ∈ news₅ := hs5 _ (.tail _ (.head _))
      have hjl : j < Bs.length := by
        rcases Nat.lt_or_ge j Bs.length with h | h
        · exact h
        · rw [List.getElem?_eq_none h] at hb; cases hb
      ((try k_extra "gq"); k_steps; (all_goals try k_extra "uq"))
      rename_i D6 c6 vs6 Ls6 h6 tk6 F6 N6 hi6 hnd6 hmm6 hva6 hln6 hlt6 hle6
      refine ⟨D6, vs6, c6, _, _, (D6, listOf vs6.toArray c6) :: news₅, rfl, rfl, by k_asm, by k_extra "nsub", LCg.Off3.of fun q hq => ?_, .head _, fun q hq => .tail _ (hs5 q hq), Ys ++ Ls6, hy.append hi6, by rw [List.length_append]; k_extra "om", by k_extra "om", fun x => ?_⟩
      · rcases List.mem_cons.mp hq with rfl | hq
        · exact ⟨Ne.symm (Nat.ne_of_lt (hlt6 _ (.head _))), Ne.symm (Nat.ne_of_lt (hlt6 _ (.tail _ (.head _)))), Ne.symm (Nat.ne_of_lt (hlt6 _ (.tail _ (.tail _ (.head _)))))⟩
        · exact off3_ne off5 q hq
      · simp only [List.mem_append, hym x, hmm6 x, take_mem_next hb]
        constructor
        · rintro (⟨b', h1, h2⟩ | h)
          · exact ⟨b', .inl h1, h2⟩
          · exact ⟨b, .inr rfl, h⟩
        · rintro ⟨b', h1 | rfl, h2⟩
          · exact .inl ⟨b', h1, h2⟩
          · exact .inr h2
    · rintro ys D5 h5 tk5 news₅ ⟨hs5, Ys, hy, hyl, hj, hym⟩ F5 N5 off5
      have hyle := hy.length
      rw [hbl, List.take_length] at hym
      have hsub5 : ∀ q ∈ news, q ∈ news₅ := fun q hq => hs5 q (hsub0 q hq)
      have hY1 : Ys.length ≤ 1000 := by k_extra "om"
      ((try k_extra "gq"); k_steps; (all_goals try k_extra "uq"))
      rename_i D6 c6 vs6 Ls6 h6 tk6 F6 N6 hi6 hnd6 hmm6 hln6 hlt6 hle6
      exact fin_new (by k_asm) (by k_asm) (.head _) (fun q hq => .tail _ (.tail _ (hsub5 q hq))) ⟨_, _, _, _, rfl, rfl, hi6, fun x => by rw [hmm6 x, hym x]; exact exists_congr fun b => by rw [hm1 b], by k_extra "om", fun q hq => hlt6 q (.tail _ (hsub5 q hq))⟩
theorem due_use {w : World} {mean : ExcName → Option Value} {mg mb : Str → Option Value} {t nl tl rl : Addr} {T : MTree} {n0 : Tok} {rows : List PSp} {rooted : Bool} {kt kn : Nat} {nvs : List Value} {Ns : List Int} : UseOf w mean mg mb 91 1003 (.ref 626) [.ref t, .int 0 n0, .ref tl, .ref nl] (fun news => T10 (TreeAt w news t T) (WF T) ((tl, tupOf #[.bool rooted, .ref rl] kt) ∈ news) (RowsL news rl rows) (rows ≠ []) (RowsOK rows) ((nl, listOf nvs.toArray kn) ∈ news) (IntsAre nvs Ns) (∀ x ∈ Ns, ∃ rx, rowOf T x = some rx) (Ns.length ≤ 30)) (fun news C => ∀ (D : Addr) (c : Nat) (vs : List Value) (Ls : List Int), C ((D, listOf vs.toArray c) :: news) (fun G => IntsAre vs Ls → (∀ x, x ∈ Ls ↔ Due T rooted rows Ns x) → Ls.length ≤ 1000 → (∀ p ∈ news, p.1 < D) → vs.length = Ls.length → G) (.ref D)) :=
  useOf due_ok fun news news' r C hp ret => by
    obtain ⟨D, c, vs, Ls, rfl, rfl, hf0, hf1, hf2, hf3⟩ := hp
    exact ⟨_, ret D c vs Ls, fun G h => h hf0 hf1 hf2 hf3 hf0.length⟩
theorem word71 : True := by
  (k_with "call ref" => ((k_here; (with_reducible show wpAny _ _ (call (Value.ref 626) _) _ _ _); k_dflt (refine' due_use ?kB ?kF ?kX ?kN ?kT ?kk ?pre ?k1 ?k2 ?_; (case kB => k_asm); (case kF => k_asm); (case kX => k_asm); (case kN => k_asm); (case kT => k_asm); (case kk => exact rfl); (case pre => exact ⟨by k_extra "tree", by assumption, by k_mem, by k_extra "rows", by assumption, by assumption, by k_mem, by assumption, by assumption, by assumption⟩); (case k1 => k_extra "room"); (case k2 => k_extra "room"); k_whole); intro _ _ _ _ _ _ _ _ _ _ _ _ _; (try dsimp only); (try k_fold))))
  trivial
theorem word72 : True := by
  k_with_none
  (k_with "gq" => (((with_reducible first | refine' genq (D := DoneF _ _ _ _) ?_ | refine' genq (D := TurnEnd _ _ _ _ _ _) ?_ | refine' genq (D := TurnEnd2 _ _ _ _ _ _ _) ?_ | refine' genq (D := WEnd _ _ _ _ _) ?_ | refine' genq (D := Mid _ _ _ _) ?_ | refine' genq (D := CEnd _ _ _ _ _ _ _ _ _ _ _) ?_ | refine' genq (D := CEnd2 _ _ _ _ _ _ _ _ _ _ _) ?_); intro _ _)))
  (k_with "uq" => (first | (refine' unq ?u9 ?_; (case u9 => with_reducible assumption)) | (refine' unqv ?u9 ?_; (case u9 => with_reducible assumption))))
  (k_with "lts" => (first | exact Nat.le.refl | (refine Nat.le.step ?_; k_extra "lts")))
  (k_with "cj" => (first | assumption | (refine' And.left ?a9; (case a9 => assumption)) | (refine' And.left (And.right ?a9); (case a9 => assumption)) | (refine' And.left (And.right (And.right ?a9)); (case a9 => assumption)) | (refine' And.left (And.right (And.right (And.right ?a9))); (case a9 => assumption)) | (refine' And.left (And.right (And.right (And.right (And.right ?a9)))); (case a9 => assumption)) | (refine' And.left (And.right (And.right (And.right (And.right (And.right ?a9))))); (case a9 => assumption)) | (refine' And.left (And.right (And.right (And.right (And.right (And.right (And.right ?a9)))))); (case a9 => assumption)) | (refine' And.left (And.right (And.right (And.right (And.right (And.right (And.right (And.right ?a9))))))); (case a9 => assumption)) | (refine' And.left (And.right (And.right (And.right (And.right (And.right (And.right (And.right (And.right ?a9)))))))); (case a9 => assumption)) | (refine' And.left (And.right (And.right (And.right (And.right (And.right (And.right (And.right (And.right (And.right ?a9))))))))); (case a9 => assumption)) | (refine' And.left (And.right (And.right (And.right (And.right (And.right (And.right (And.right (And.right (And.right (And.right ?a9)))))))))); (case a9 => assumption)) | (refine' And.left (And.right (And.right (And.right (And.right (And.right (And.right (And.right (And.right (And.right (And.right (And.right ?a9))))))))))); (case a9 => assumption))))
  (k_with "ne9" => (first | assumption | exact Ne.symm (by assumption) | (refine' Nat.ne_of_lt ?a8; (case a8 => first | assumption | k_extra "lts" | k_extra "cj" | (refine' Nat.lt_of_le_of_lt ?b9 ?c9; (case c9 => assumption); (case b9 => k_extra "lts")))) | (refine' Nat.ne_of_gt ?a8; (case a8 => first | assumption | k_extra "lts" | k_extra "cj" | (refine' Nat.lt_of_le_of_lt ?b9 ?c9; (case c9 => assumption); (case b9 => k_extra "lts")))) | ((try dsimp only); (repeat (rename @Ne Nat _ _ => q9; clear q9)); omega) | ((try dsimp only); omega)))
  (k_with "om" => (first | with_reducible assumption | (refine neN ?_; k_extra "ne9") | (refine' Nat.le_trans ?a9 ?b9; (case a9 => assumption); (case b9 => exact Nat.le_of_ble_eq_true rfl)) | (refine' le_eq_le ?a9 ?b9 ?c9; (case a9 => assumption); (case b9 => assumption); (case c9 => exact Nat.le_of_ble_eq_true rfl)) | (refine ltN ?_; k_extra "cj") | ((repeat (rename @Ne Nat _ _ => q9; clear q9)); omega) | omega))
  (k_with "room" => (first | (refine' room_of ?a9 ?b9; (case a9 => assumption); (case b9 => exact Nat.le_of_ble_eq_true rfl)) | omega))
  (k_with "call builtin:list.append" => ((k_here; (with_reducible show wpAny _ _ (call (Value.builtin "list.append") [Value.ref _, _]) _ _ _); k_dflt (refine' my_append ?k1 ?k2 ?k3 ?k4 ?_; (case k1 => k_asm); (case k2 => k_asm); (case k3 => k_upd); (case k4 => k_extra "om"); k_whole); intro _ _ _; (try k_sweep))))
  (k_with "memF" => (first | exact mem_head | with_reducible assumption | (refine' mem_tail ?_; k_extra "memF")))
  (k_with "memS" => (first | exact mem_head | assumption | (refine' mem_tail ?_; k_extra "memS")))
  (k_with "call type:list" => ((k_here; (with_reducible show wpAny _ _ (call (Value.type "list") [Value.ref _]) _ _ _); k_dflt (refine' my_listcopy ?k0 ?k1 ?k2 ?k3 ?_; (case k0 => k_asm); (case k1 => k_asm); (case k2 => k_mem); (case k3 => k_extra "om"); k_whole); intro _ _ _ _ _ _)))
  (k_with "call builtin:len" => ((k_here; (with_reducible show wpAny _ _ (call (Value.builtin "len") [Value.ref _]) _ _ _); k_dflt (refine' my_len ?k1 ?k2 ?k3 ?_; (case k1 => k_asm); (case k2 => k_mem); (case k3 => k_extra "om"); k_whole))))
  (k_with "subscriptTail" => ((k_here; (with_reducible show wpAny _ _ (subscriptTail _ _ (Value.ref _) (Value.int _ _)) _ _ _); k_dflt (refine' my_item ?k1 ?k2 ?k3 ?k4 ?k5 ?_; (case k1 => k_asm); (case k2 => k_mem); (case k3 => k_extra "om"); (case k4 => k_extra "om"); (case k5 => first | with_reducible assumption | rfl); k_whole))))
  (k_with "sub" => (first | with_reducible exact fun _ h => h | (refine' sub_cons ?m ?_; (case m => k_mem); k_extra "sub") | (refine sub_tail ?_; k_extra "sub")))
  (k_with "fin" => (((try k_extra "uq"); (try dsimp only [WEnd, TurnEnd, TurnEnd2]); (try k_extra "uq"); refine' fin_same ?F ?N ?S (And.intro rfl ?_); (case F => k_asm); (case N => k_asm); (case S => k_extra "sub"))))
  (k_with "bools" => (simp only [fitSr, axS_attr, *, Bool.or_true, Bool.true_or, Bool.not_true, Bool.false_and, Bool.and_false, Bool.not_false, Bool.true_and, Bool.and_true, Bool.or_self, Bool.or_false, Bool.false_or, Bool.and_self, Option.isNone_none, Option.isNone_some, beq_self_eq_true]))
  (k_with "finL" => (((try k_extra "uq"); refine' fin_new ?F ?N ?M ?S ⟨_, _, _, rfl, rfl, ?_, ?_⟩; (case F => k_asm); (case N => k_asm); (case M => k_mem); (case S => k_extra "sub"))))
  (k_with "tree" => (first | with_reducible assumption | (refine' TreeAt.mono ?h ?s; (case h => assumption); (case s => k_extra "sub"))))
  (k_with "call ref" => ((k_here; (with_reducible show wpAny _ _ (call (Value.ref 335) _) _ _ _); k_dflt (refine' row_use ?kB ?kF ?kX ?kN ?kT ?kk ?pre ?k1 ?k2 ?_; (case kB => k_asm); (case kF => k_asm); (case kX => k_asm); (case kN => k_asm); (case kT => k_asm); (case kk => exact rfl); (case pre => exact ⟨by k_extra "tree", by assumption⟩); (case k1 => k_extra "room"); (case k2 => k_extra "room"); k_whole); intro _ _ _ _ _ _ _ _ _ _ _ _ _ _ _ _ _ _ _ _ _ _ _ _ _ _ _ _ _ _ _ _ _ _ _ _ _ _ _; (try dsimp only); (try k_fold))))
  (k_with "call ref" => ((k_here; (with_reducible show wpAny _ _ (call (Value.ref 447) _) _ _ _); k_dflt (refine' parent_use ?kB ?kF ?kX ?kN ?kT ?kk ?pre ?k1 ?k2 ?_; (case kB => k_asm); (case kF => k_asm); (case kX => k_asm); (case kN => k_asm); (case kT => k_asm); (case kk => exact rfl); (case pre => exact ⟨by k_extra "tree", by assumption⟩); (case k1 => k_extra "room"); (case k2 => k_extra "room"); k_whole); intro _ _ _ _ _; (try dsimp only); (try k_fold))))
  (k_with "call ref" => ((k_here; (with_reducible show wpAny _ _ (call (Value.ref 412) _) _ _ _); k_dflt (refine' kind_use ?kB ?kF ?kX ?kN ?kT ?kk ?pre ?k1 ?k2 ?_; (case kB => k_asm); (case kF => k_asm); (case kX => k_asm); (case kN => k_asm); (case kT => k_asm); (case kk => exact rfl); (case pre => exact ⟨by k_extra "tree", by assumption⟩); (case k1 => k_extra "room"); (case k2 => k_extra "room"); k_whole); intro _ _ _ _ _; (try dsimp only); (try k_fold))))
  (k_with "call ref" => ((k_here; (with_reducible show wpAny _ _ (call (Value.ref 419) _) _ _ _); k_dflt (refine' name_use ?kB ?kF ?kX ?kN ?kT ?kk ?pre ?k1 ?k2 ?_; (case kB => k_asm); (case kF => k_asm); (case kX => k_asm); (case kN => k_asm); (case kT => k_asm); (case kk => exact rfl); (case pre => exact ⟨by k_extra "tree", by assumption⟩); (case k1 => k_extra "room"); (case k2 => k_extra "room"); k_whole); intro _ _ _ _ _; (try dsimp only); (try k_fold))))
  (k_with "call ref" => ((k_here; (with_reducible show wpAny _ _ (call (Value.ref 433) _) _ _ _); k_dflt (refine' local_use ?kB ?kF ?kX ?kN ?kT ?kk ?pre ?k1 ?k2 ?_; (case kB => k_asm); (case kF => k_asm); (case kX => k_asm); (case kN => k_asm); (case kT => k_asm); (case kk => exact rfl); (case pre => exact ⟨by k_extra "tree", by assumption⟩); (case k1 => k_extra "room"); (case k2 => k_extra "room"); k_whole); intro _ _ _ _ _; (try dsimp only); (try k_fold))))
  (k_with "call ref" => ((k_here; (with_reducible show wpAny _ _ (call (Value.ref 426) _) _ _ _); k_dflt (refine' uri_use ?kB ?kF ?kX ?kN ?kT ?kk ?pre ?k1 ?k2 ?_; (case kB => k_asm); (case kF => k_asm); (case kX => k_asm); (case kN => k_asm); (case kT => k_asm); (case kk => exact rfl); (case pre => exact ⟨by k_extra "tree", by assumption⟩); (case k1 => k_extra "room"); (case k2 => k_extra "room"); k_whole); intro _ _ _ _ _; (try dsimp only); (try k_fold))))
  (k_with "call ref" => ((k_here; (with_reducible show wpAny _ _ (call (Value.ref 447) _) _ _ _); k_dflt (refine' parent_two ?kB ?kF ?kX ?kN ?kT ?kk ?pre ?k1 ?k2 ?_ ?_; (case kB => k_asm); (case kF => k_asm); (case kX => k_asm); (case kN => k_asm); (case kT => k_asm); (case kk => exact rfl); (case pre => exact ⟨by k_extra "tree", by assumption⟩); (case k1 => k_extra "room"); (case k2 => k_extra "room")); (first | (intro _ _ _ _ _; (try dsimp only); (try k_fold)) | skip); (rotate_left; (intro _ _ _ _ _ _ _; (try dsimp only); (try k_fold)); rotate_left))))
  (k_with "call ref" => ((k_here; (with_reducible show wpAny _ _ (call (Value.ref 454) _) _ _ _); k_dflt (refine' children_use ?kB ?kF ?kX ?kN ?kT ?kk ?pre ?k1 ?k2 ?_; (case kB => k_asm); (case kF => k_asm); (case kX => k_asm); (case kN => k_asm); (case kT => k_asm); (case kk => exact rfl); (case pre => exact ⟨by k_extra "tree", by assumption⟩); (case k1 => k_extra "room"); (case k2 => k_extra "room"); k_whole); intro _ _ _ _ _ _ _ _ _ _ _; (try dsimp only); (try k_fold))))
  (k_with "call ref" => ((k_here; (with_reducible show wpAny _ _ (call (Value.ref 461) _) _ _ _); k_dflt (refine' attributes_use ?kB ?kF ?kX ?kN ?kT ?kk ?pre ?k1 ?k2 ?_; (case kB => k_asm); (case kF => k_asm); (case kX => k_asm); (case kN => k_asm); (case kT => k_asm); (case kk => exact rfl); (case pre => exact ⟨by k_extra "tree", by assumption⟩); (case k1 => k_extra "room"); (case k2 => k_extra "room"); k_whole); intro _ _ _ _ _ _ _ _ _ _ _; (try dsimp only); (try k_fold))))
  (k_with "ite" => ((k_dflt (refine ite_neg (kd_ns _) ?_))))
  (k_with "tst" => (first | with_reducible assumption | (refine' TstAt.mono ?h ?s; (case h => assumption); (case s => k_extra "sub"))))
  (k_with "call ref" => ((k_here; (with_reducible show wpAny _ _ (call (Value.ref 72) _) _ _ _); k_dflt (refine' prin_use ?kB ?kF ?kX ?kN ?kT ?kk ?pre ?k1 ?k2 ?_; (case kB => k_asm); (case kF => k_asm); (case kX => k_asm); (case kN => k_asm); (case kT => k_asm); (case kk => exact rfl); (case pre => trivial); (case k1 => k_extra "room"); (case k2 => k_extra "room"); k_whole); intro _ _ _ _ _; (try dsimp only); (try k_fold))))
  (k_with "call ref" => ((k_here; (with_reducible show wpAny _ _ (call (Value.ref 79) _) _ _ _); k_dflt (refine' buri_use ?kB ?kF ?kX ?kN ?kT ?kk ?pre ?k1 ?k2 ?_; (case kB => k_asm); (case kF => k_asm); (case kX => k_asm); (case kN => k_asm); (case kT => k_asm); (case kk => exact rfl); (case pre => trivial); (case k1 => k_extra "room"); (case k2 => k_extra "room"); k_whole); intro _ _ _ _ _; (try dsimp only); (try k_fold))))
  (k_with "call ref" => ((k_here; (with_reducible show wpAny _ _ (call (Value.ref 86) _) _ _ _); k_dflt (refine' named_use ?kB ?kF ?kX ?kN ?kT ?kk ?pre ?k1 ?k2 ?_; (case kB => k_asm); (case kF => k_asm); (case kX => k_asm); (case kN => k_asm); (case kT => k_asm); (case kk => exact rfl); (case pre => exact ⟨by k_extra "tree", by assumption, by k_extra "tst"⟩); (case k1 => k_extra "room"); (case k2 => k_extra "room"); k_whole); intro _ _ _ _; (try dsimp only); (try k_fold))))
  (k_with "call ref" => ((k_here; (with_reducible show wpAny _ _ (call (Value.ref 93) _) _ _ _); k_dflt (refine' passes_use ?kB ?kF ?kX ?kN ?kT ?kk ?pre ?k1 ?k2 ?_; (case kB => k_asm); (case kF => k_asm); (case kX => k_asm); (case kN => k_asm); (case kT => k_asm); (case kk => exact rfl); (case pre => exact ⟨by k_extra "tree", by assumption, by k_extra "tst"⟩); (case k1 => k_extra "room"); (case k2 => k_extra "room"); k_whole); intro _ _ _ _; (try dsimp only); (try k_fold))))
  (k_with "call ref" => ((k_here; (with_reducible show wpAny _ _ (call (Value.ref 161) _) _ _ _); k_dflt (refine' saxis_use ?kB ?kF ?kX ?kN ?kT ?kk ?pre ?k1 ?k2 ?_; (case kB => k_asm); (case kF => k_asm); (case kX => k_asm); (case kN => k_asm); (case kT => k_asm); (case kk => exact rfl); (case pre => exact ⟨by k_extra "tree", by assumption⟩); (case k1 => k_extra "room"); (case k2 => k_extra "room"); k_whole); intro _ _ _ _ _ _ _ _ _ _; (try dsimp only); (try k_fold))))
  (k_with "call ref" => ((k_here; (with_reducible show wpAny _ _ (call (Value.ref 168) _) _ _ _); k_dflt (refine' axis_use ?kB ?kF ?kX ?kN ?kT ?kk ?pre ?k1 ?k2 ?_; (case kB => k_asm); (case kF => k_asm); (case kX => k_asm); (case kN => k_asm); (case kT => k_asm); (case kk => exact rfl); (case pre => exact ⟨by k_extra "tree", by assumption⟩); (case k1 => k_extra "room"); (case k2 => k_extra "room"); k_whole); intro _ _ _ _ _ _ _ _ _ _; (try dsimp only); (try k_fold))))
  (k_with "call ref" => ((k_here; (with_reducible show wpAny _ _ (call (Value.ref 633) _) _ _ _); k_dflt (refine' lvalue_use ?kB ?kF ?kX ?kN ?kT ?kk ?pre ?k1 ?k2 ?_; (case kB => k_asm); (case kF => k_asm); (case kX => k_asm); (case kN => k_asm); (case kT => k_asm); (case kk => exact rfl); (case pre => exact ⟨by k_mem, by k_mem⟩); (case k1 => k_extra "room"); (case k2 => k_extra "room"); k_whole); intro _ _ _ _; (try dsimp only); (try k_fold))))
  (k_with "call ref" => ((k_here; (with_reducible show wpAny _ _ (call (Value.ref 175) _) _ _ _); k_dflt (refine' holds_use ?kB ?kF ?kX ?kN ?kT ?kk ?pre ?k1 ?k2 ?_; (case kB => k_asm); (case kF => k_asm); (case kX => k_asm); (case kN => k_asm); (case kT => k_asm); (case kk => exact rfl); (case pre => k_mem); (case k1 => k_extra "room"); (case k2 => k_extra "room"); k_whole); intro _ _ _ _; (try dsimp only); (try k_fold))))
  (k_with "exec For" => ((k_here; k_dflt (refine wpAny_For ?_); (try k_fold))))
  (k_with "exec For Name Name cons nil" => ((k_here; k_dflt (refine wpAny_For ?_); (try k_fold))))
  (k_with "exec For Name Call cons nil" => ((k_here; k_dflt (refine wpAny_For ?_); (try k_fold))))
  (k_with "exec For Tuple Name cons nil" => ((k_here; k_dflt (refine wpAny_For ?_); (try k_fold))))
  (k_with "exec For Tuple Call cons nil" => ((k_here; k_dflt (refine wpAny_For ?_); (try k_fold))))
  (k_with "exec For Name Attribute cons nil" => ((k_here; k_dflt (refine wpAny_For ?_); (try k_fold))))
  (k_with "pyIter ref" => ((k_here; refine stop_of ?_)))
  (k_with "call type:enumerate" => ((k_here; refine stop_of ?_)))
  (k_with "pred" => (first | with_reducible assumption | (refine' PredAt.mono ?h ?s; (case h => assumption); (case s => k_extra "sub"))))
  (k_with "call ref" => ((k_here; (with_reducible show wpAny _ _ (call (Value.ref 182) _) _ _ _); k_dflt (refine' kept_use ?kB ?kF ?kX ?kN ?kT ?kk ?pre ?k1 ?k2 ?_; (case kB => k_asm); (case kF => k_asm); (case kX => k_asm); (case kN => k_asm); (case kT => k_asm); (case kk => exact rfl); (case pre => exact ⟨by k_mem, by assumption, by assumption, by k_extra "pred", by assumption⟩); (case k1 => k_extra "room"); (case k2 => k_extra "room"); k_whole); intro _ _ _ _ _ _ _ _ _ _; (try dsimp only); (try k_fold))))
  (k_with "eval Name" => ((k_here; (with_reducible show wpAny _ _ (eval (Expr.Name _ _) (compEnvC _ _ _ _)) _ _ _); k_dflt (first | (refine' LCgL.ld_own ?N ?M ?C ?X ?_; (case N => k_asm); (case M => k_mem); (case C => assumption); (case X => assumption); k_whole) | (refine' ld_cell ?N ?c ?M ?d ?_ ?k ?x ?b; (case c => rfl); (case N => k_asm); (case M => k_mem); (case d => assumption); (case k => rfl); (case x => rfl); (case b => decide); k_whole) | refine LCgL.ld_global (by k_asm) (by k_asm) (by k_asm) (by k_is) ?_))))
  (k_with "eval ListComp" => ((k_here; k_dflt (refine' my_comp ?c1 ?c2 ?c3 ?_ (by intro _; rfl); (case c1 => with_unfolding_all rfl); (case c2 => exact rfl); (case c3 => decide)); (try k_fold))))
  (k_with "exec Assign cons ListComp" => ((k_here; k_dflt (refine' my_comp_use ?c0 ?c1 ?c2 ?c3 ?_ (by intro _; rfl); (case c0 => with_unfolding_all rfl); (case c1 => with_unfolding_all rfl); (case c2 => exact rfl); (case c3 => decide)); (try k_fold))))
  (k_with "step" => (first | with_reducible assumption | (refine' StepAt.mono ?h ?s; (case h => assumption); (case s => k_extra "sub"))))
  (k_with "call ref" => ((k_here; (with_reducible show wpAny _ _ (call (Value.ref 187) _) _ _ _); k_dflt (refine' stepfrom_use ?kB ?kF ?kX ?kN ?kT ?kk ?pre ?k1 ?k2 ?_; (case kB => k_asm); (case kF => k_asm); (case kX => k_asm); (case kN => k_asm); (case kT => k_asm); (case kk => exact rfl); (case pre => exact ⟨by k_extra "tree", by assumption, by k_extra "step", by assumption, by assumption⟩); (case k1 => k_extra "room"); (case k2 => k_extra "room"); k_whole); intro _ _ _ _ _ _ _ _ _ _; (try dsimp only); (try k_fold))))
  trivial
theorem word73 : True := by
  (k_with "unstop" => ((rename StopHere => q9; clear q9)))
  trivial
theorem word74 : True := by
  (k_with "call type:range" => ((k_here; refine stop_of ?_)))
  (k_with "nsub" => ((refine' news_sub ?N ?S; (case N => k_asm); (case S => k_extra "sub"))))
  (k_with "call ref" => ((k_here; (with_reducible show wpAny _ _ (call (Value.ref 564) _) _ _ _); refine stop_of ?_)))
  (k_with "call ref" => ((k_here; (with_reducible show wpAny _ _ (call (Value.ref 571) _) _ _ _); refine stop_of ?_)))
  (k_with "call ref" => ((k_here; (with_reducible show wpAny _ _ (call (Value.ref 585) _) _ _ _); refine stop_of ?_)))
  (k_with "call ref" => ((k_here; (with_reducible show wpAny _ _ (call (Value.ref 592) _) _ _ _); refine stop_of ?_)))
  (k_with "call ref" => ((k_here; (with_reducible show wpAny _ _ (call (Value.ref 599) _) _ _ _); refine stop_of ?_)))
  (k_with "call ref" => ((k_here; (with_reducible show wpAny _ _ (call (Value.ref 626) _) _ _ _); refine stop_of ?_)))
  (k_with "call ref" => ((k_here; (with_reducible show wpAny _ _ (call (Value.ref 257) _) _ _ _); refine stop_of ?_)))
  (k_with "call ref" => ((k_here; (with_reducible show wpAny _ _ (call (Value.ref 264) _) _ _ _); refine stop_of ?_)))
  (k_with "call ref" => ((k_here; (with_reducible show wpAny _ _ (call (Value.ref 225) _) _ _ _); refine stop_of ?_)))
  (k_with "call ref" => ((k_here; (with_reducible show wpAny _ _ (call (Value.ref 246) _) _ _ _); refine stop_of ?_)))
  (k_with "compareOp In int ref" => ((k_here; refine stop_of ?_)))
  (k_with "compareOp In bool ref" => ((k_here; refine stop_of ?_)))
  (k_with "compareOp NotEq ref ref" => ((k_here; refine stop_of ?_)))
  trivial
theorem walk.tw11878669932545131774 : True := trivial
theorem walk.tw8702144267513968117 : True := trivial
theorem walk.tw17624073854935925647 : True := trivial
set_option Elab.async true in
theorem walk : WalkO V39 [] (XL V39 []) (Hook.says (kHook K39 A39 (fun _ => by kernel_rfl))) (OpenRow.toRowW (OpenLaw.row PySem.Challenge.rw_nu0072_01)) (DefRec.mk (PySem.Str.ofString "law") (fA (tp 56)) (kB (tp 56)) (fS (tp 56)) ⟨434, 0, 449, 122⟩) [] (fun f vs => PySem.call f vs) := by (
  conv in (fA (tp 56)) => whnf
  conv in (kB (tp 56)) => whnf
  conv in (fS (tp 56)) => whnf
  k_go0
  (all_goals try k_fold)
  rename_i w s0 s1 mg mb G Y fa o pm doc ho hg KX XX V GL TT TB TE TW wa1 wa2 M cdA wa3 hcd ns hs hlay0 hLa hr hl2 wb1 wb2 la vs wb3 hL ra w1 r0 hI hr2 hc1 hc2 K0 hD h1 tk1 F o7 o6 o5 o4 o3 o2 o1 e7 e6 e5 e4 e3 e2 e1 N0 X0
  obtain ⟨v7, e7⟩ : ∃ v, o7.data = .cell v := ⟨_, e7⟩
  obtain ⟨v6, e6⟩ : ∃ v, o6.data = .cell v := ⟨_, e6⟩
  obtain ⟨v5, e5⟩ : ∃ v, o5.data = .cell v := ⟨_, e5⟩
  obtain ⟨v4, e4⟩ : ∃ v, o4.data = .cell v := ⟨_, e4⟩
  obtain ⟨v3, e3⟩ : ∃ v, o3.data = .cell v := ⟨_, e3⟩
  obtain ⟨v2, e2⟩ : ∃ v, o2.data = .cell v := ⟨_, e2⟩
  obtain ⟨v1, e1⟩ : ∃ v, o1.data = .cell v := ⟨_, e1⟩
  have hn : ns.length ≤ 63 := by k_extra "om"
  obtain ⟨m0, F⟩ : ∃ m0, Fr s1.heap s1.heap.objs.size h1 (over [(Str.ofString "script", .ref la)] m0) := ⟨_, frOver F ⟨rfl, trivial⟩⟩
  clear X0 hD hr2 r0 w1 ra TW TE TB GL V XX Y G
  change wpAny _ (ktrTop _ _ _ _ _ _ _ _ _ _) (execs _ (envX _ _ _ _ _ _)) _ _ _
  ((try k_extra "gq"); k_steps; (all_goals try k_extra "uq"))
  refine go_on (pool_use (by k_asm) (by k_asm) (by k_asm) (by k_asm) (by k_asm) (by exact rfl) hL hI hn (by exact Nat.le_of_ble_eq_true rfl) (by exact Nat.le_of_ble_eq_true rfl) ?_)
  intro sl x0 y0 tx0 ty0 k0 h2 tk2 F2 N2 hx0 hy0 hyb0 hsl0
  have hs7 : @LT.lt Nat _ (s1.heap.objs.size + 1 + 1 + 1 + 1 + 1 + 1 + 1) sl := hsl0 _ (.head _)
  ((try k_extra "gq"); k_steps; (all_goals try k_extra "uq"))
  rename_i h3 oS FS NS eS
  refine go_on (says_use document_ok (by k_asm) (by k_asm) (by k_asm) (by k_asm) (by k_asm) (by exact rfl) ⟨x0, y0, tx0, ty0, k0, .head _, hx0, hy0, hyb0⟩ (by exact Nat.le_of_ble_eq_true rfl) (by exact Nat.le_of_ble_eq_true rfl) ?_)
  rintro r nn h4 tk4 F4 N4 ⟨D, t, pl, nl, tkr, kD, T, FF, Ps, rfl, hD, d, q⟩
  obtain ⟨rest, NR, hsub, hsep, hTree, ⟨nvs, kn, hnl, hni⟩, hDr⟩ := doc_rest d N4 hD q.wf.small (by have := q.wf.len; k_extra "om") [s1.heap.objs.size + 1, s1.heap.objs.size + 1 + 1, s1.heap.objs.size + 1 + 1 + 1, s1.heap.objs.size + 1 + 1 + 1 + 1, s1.heap.objs.size + 1 + 1 + 1 + 1 + 1, s1.heap.objs.size + 1 + 1 + 1 + 1 + 1 + 1, s1.heap.objs.size + 1 + 1 + 1 + 1 + 1 + 1 + 1] (fun c hc => by
    simp only [List.mem_cons, List.not_mem_nil, or_false] at hc
    rcases hc with rfl | rfl | rfl | rfl | rfl | rfl | rfl
    · exact ⟨by k_extra "om", oS, _, by k_mem, eS⟩
    · exact ⟨by k_extra "om", o2, _, by k_mem, e2⟩
    · exact ⟨by k_extra "om", o3, _, by k_mem, e3⟩
    · exact ⟨by k_extra "om", o4, _, by k_mem, e4⟩
    · exact ⟨by k_extra "om", o5, _, by k_mem, e5⟩
    · exact ⟨by k_extra "om", o6, _, by k_mem, e6⟩
    · exact ⟨by k_extra "om", o7, _, by k_mem, e7⟩)
  obtain ⟨x1, y1, tx1, ty1, k1, hsl1, hx1, hy1, hyb1⟩ := d.src
  have hout := d.out
  simp only [List.mem_cons, List.not_mem_nil, or_false, not_or] at hsep
  have r0 : ∀ q ∈ rest, q.1 ≠ sl := fun q hq => (hsep q hq).1
  have r1 : ∀ q ∈ rest, q.1 ≠ s1.heap.objs.size + 1 := fun q hq => (hsep q hq).2.1
  have r2 : ∀ q ∈ rest, q.1 ≠ s1.heap.objs.size + 1 + 1 := fun q hq => (hsep q hq).2.2.1
  have r3 : ∀ q ∈ rest, q.1 ≠ s1.heap.objs.size + 1 + 1 + 1 := fun q hq => (hsep q hq).2.2.2.1
  have r4 : ∀ q ∈ rest, q.1 ≠ s1.heap.objs.size + 1 + 1 + 1 + 1 := fun q hq => (hsep q hq).2.2.2.2.1
  have r5 : ∀ q ∈ rest, q.1 ≠ s1.heap.objs.size + 1 + 1 + 1 + 1 + 1 := fun q hq => (hsep q hq).2.2.2.2.2.1
  have r6 : ∀ q ∈ rest, q.1 ≠ s1.heap.objs.size + 1 + 1 + 1 + 1 + 1 + 1 := fun q hq => (hsep q hq).2.2.2.2.2.2.1
  have r7 : ∀ q ∈ rest, q.1 ≠ s1.heap.objs.size + 1 + 1 + 1 + 1 + 1 + 1 + 1 := fun q hq => (hsep q hq).2.2.2.2.2.2.2
  have N5 : News s1.heap s1.heap.objs.size h4 ((sl, listOf [Value.int x1 tx1, Value.int y1 ty1].toArray k1) :: (s1.heap.objs.size + 1 + 1 + 1 + 1 + 1 + 1 + 1, o7) :: (s1.heap.objs.size + 1 + 1 + 1 + 1 + 1 + 1, o6) :: (s1.heap.objs.size + 1 + 1 + 1 + 1 + 1, o5) :: (s1.heap.objs.size + 1 + 1 + 1 + 1, o4) :: (s1.heap.objs.size + 1 + 1 + 1, o3) :: (s1.heap.objs.size + 1 + 1, o2) :: (s1.heap.objs.size + 1, oS) :: rest) := by
    refine news_sub N4 (sub_cons hsl1 (sub_cons (hout _ (by k_mem) (by dsimp only; k_extra "om")) (sub_cons (hout _ (by k_mem) (by dsimp only; k_extra "om")) (sub_cons (hout _ (by k_mem) (by dsimp only; k_extra "om")) (sub_cons (hout _ (by k_mem) (by dsimp only; k_extra "om")) (sub_cons (hout _ (by k_mem) (by dsimp only; k_extra "om")) (sub_cons (hout _ (by k_mem) (by dsimp only; k_extra "om")) (sub_cons (hout _ (by k_mem) (by dsimp only; k_extra "om")) hsub))))))))
  clear hout d hsub NR hsep N4 hsl1 hD hx0 hy0 hyb0 hn hc1 hc2 hI hL
  ((try k_extra "gq"); k_steps; (all_goals try k_extra "uq"))
  rename_i oT eT hA oR eR hB oN FA NA eN nv hC oV FB NB lo hsd fsd hid fid lnv
  refine go_on (looknew_use (by k_asm) (by k_asm) (by k_asm) (by k_asm) (by k_asm) (by exact rfl) trivial (by exact Nat.le_of_ble_eq_true rfl) (by exact Nat.le_of_ble_eq_true rfl) ?_)
  intro lk ld oL h5 tk5 F5 N5' hoL hltL hlL
  obtain ⟨lnv1, _⟩ := id lnv
  have g1 : @LT.lt Nat _ nv ld := hltL _ (.head _)
  have rL : ∀ q ∈ rest, @LT.lt Nat _ q.1 ld := fun q hq => hltL q (.tail _ (.tail _ (.tail _ (.tail _ (.tail _ (.tail _ (.tail _ (.tail _ (.tail _ hq)))))))))
  clear hsd fsd hid fid lo hltL
  ((try k_extra "gq"); k_steps; (all_goals try k_extra "uq"))
  rename_i hB2 oK eK dl hC2 ldl hD2 FD ND
  have rdl : ∀ q ∈ rest, @LT.lt Nat _ q.1 dl := of_allLt ldl.2.2.2.2.2.2.2.2.2.2.2
  obtain ⟨restA, hAdef⟩ : ∃ r9 : Led, r9 = (lk, instObj 246 ld) :: (ld, oL) :: (nv, oV) :: (s1.heap.objs.size + 1 + 1 + 1 + 1 + 1, oK) :: (s1.heap.objs.size + 1 + 1 + 1 + 1, oN) :: (s1.heap.objs.size + 1 + 1 + 1, oR) :: (s1.heap.objs.size + 1 + 1, oT) :: (s1.heap.objs.size + 1, oS) :: rest := ⟨_, rfl⟩
  have hAr : ∀ q ∈ rest, q ∈ restA := by rw [hAdef]; exact fun q hq => .tail _ (.tail _ (.tail _ (.tail _ (.tail _ (.tail _ (.tail _ (.tail _ hq)))))))
  have hTA : TreeAt w restA t T := hTree.mono hAr
  have hnA := hAr _ hnl
  have hLA : LookAt w restA lk t := by
    obtain ⟨u0, u1, u2, rfl⟩ := hoL
    rw [hAdef]
    exact ⟨ld, nv, u0, u1, u2, by k_mem, by k_mem⟩
  have cS : (s1.heap.objs.size + 1, oS) ∈ restA := by rw [hAdef]; k_mem
  have cT : (s1.heap.objs.size + 1 + 1, oT) ∈ restA := by rw [hAdef]; k_mem
  have cR : (s1.heap.objs.size + 1 + 1 + 1, oR) ∈ restA := by rw [hAdef]; k_mem
  have cN : (s1.heap.objs.size + 1 + 1 + 1 + 1, oN) ∈ restA := by rw [hAdef]; k_mem
  have cK : (s1.heap.objs.size + 1 + 1 + 1 + 1 + 1, oK) ∈ restA := by rw [hAdef]; k_mem
  have sep : ∀ (a : Addr), (∀ q ∈ rest, @Ne Nat q.1 a) → @Ne Nat lk a → @Ne Nat ld a → @Ne Nat nv a → @Ne Nat (s1.heap.objs.size + 1 + 1 + 1 + 1 + 1) a → @Ne Nat (s1.heap.objs.size + 1 + 1 + 1 + 1) a → @Ne Nat (s1.heap.objs.size + 1 + 1 + 1) a → @Ne Nat (s1.heap.objs.size + 1 + 1) a → @Ne Nat (s1.heap.objs.size + 1) a → ∀ q ∈ restA, q.1 ≠ a := by
    intro a z0 z1 z2 z3 z4 z5 z6 z7 z8
    rw [hAdef]
    exact List.forall_mem_cons.mpr ⟨z1, List.forall_mem_cons.mpr ⟨z2, List.forall_mem_cons.mpr ⟨z3, List.forall_mem_cons.mpr ⟨z4, List.forall_mem_cons.mpr ⟨z5, List.forall_mem_cons.mpr ⟨z6, List.forall_mem_cons.mpr ⟨z7, List.forall_mem_cons.mpr ⟨z8, z0⟩⟩⟩⟩⟩⟩⟩⟩
  have s6 := sep (s1.heap.objs.size + 1 + 1 + 1 + 1 + 1 + 1) r6 (by k_extra "om") (by k_extra "om") (by k_extra "om") (by k_extra "om") (by k_extra "om") (by k_extra "om") (by k_extra "om") (by k_extra "om")
  have s7 := sep (s1.heap.objs.size + 1 + 1 + 1 + 1 + 1 + 1 + 1) r7 (by k_extra "om") (by k_extra "om") (by k_extra "om") (by k_extra "om") (by k_extra "om") (by k_extra "om") (by k_extra "om") (by k_extra "om")
  have s0' := sep sl r0 (by k_extra "om") (by k_extra "om") (by k_extra "om") (by k_extra "om") (by k_extra "om") (by k_extra "om") (by k_extra "om") (by k_extra "om")
  have sd := sep dl (fun q hq => Nat.ne_of_lt (rdl q hq)) (by k_extra "om") (by k_extra "om") (by k_extra "om") (by k_extra "om") (by k_extra "om") (by k_extra "om") (by k_extra "om") (by k_extra "om")
  have hdl7 : @LT.lt Nat _ (s1.heap.objs.size + 1 + 1 + 1 + 1 + 1 + 1 + 1) dl := by k_extra "om"
  have hdls : @Ne Nat dl sl := by k_extra "om"
  have ND2 : News s1.heap s1.heap.objs.size hD2 ((s1.heap.objs.size + 1 + 1 + 1 + 1 + 1 + 1, o6) :: (s1.heap.objs.size + 1 + 1 + 1 + 1 + 1 + 1 + 1, o7) :: (sl, listOf [Value.int x1 tx1, Value.int y1 ty1].toArray k1) :: (dl, listOf ([] : List Value).toArray 0) :: restA) := by
    refine news_sub ND ?_
    rw [hAdef]
    k_extra "sub"
  clear ldl lnv lnv1 g1 hlL hsl0
  clear ND rdl sep r0 r1 r2 r3 r4 r5 r6 r7 hTree hnl hoL rL hAr hDr
  clear hAdef
  let jj26 : Nat → (Str → Option Value) → Led → Prop := (fun i m₁ news₁ => X10 (fun (om : Obj) (x y : Int) (tx ty : Tok) (k : Nat) (dvs : List Value) (c : Nat) (rs : Led) (ways : List (Bool × List PSp)) => T13 (Knows m₁ [(Str.ofString "drawn", .ref dl)]) (news₁ = (s1.heap.objs.size + 1 + 1 + 1 + 1 + 1 + 1, om) :: (s1.heap.objs.size + 1 + 1 + 1 + 1 + 1 + 1 + 1, o7) :: (sl, listOf [Value.int x tx, Value.int y ty].toArray k) :: (dl, listOf dvs.toArray c) :: rs) (∃ v, om.data = .cell v) (0 ≤ x) (0 ≤ y) (y < 2147483647) (∀ q ∈ restA, q ∈ rs) (∀ q ∈ rs, q.1 ≠ s1.heap.objs.size + 1 + 1 + 1 + 1 + 1 + 1) (∀ q ∈ rs, q.1 ≠ s1.heap.objs.size + 1 + 1 + 1 + 1 + 1 + 1 + 1) (∀ q ∈ rs, q.1 ≠ sl) (∀ q ∈ rs, q.1 ≠ dl) (DrawnAt rs dvs ways) (ways.length = i)))
  refine go_on (iter_range (n := 2) jj26
    rfl rfl rfl rfl (by decide) (by k_asm) ND2 ⟨o6, x1, y1, tx1, ty1, k1, [], 0, restA, [], ⟨rfl, trivial⟩, rfl, ⟨_, e6⟩, hx1, hy1, hyb1, fun _ h => h, s6, s7, s0', sd, ⟨rfl, fun j q hj => by simp at hj⟩, rfl⟩ ?_ ?_)
  · rintro i m₁ news₁ it oi h tk t9 hi hoc ⟨om, x, y, tx, ty, k, dvs, c, rs, ways, hK, rfl, ⟨vm, em⟩, hx, hy, hyb, hsA, q6, q7, qs, qd, hdr, hwl⟩ F9 N9 off9
    have i6 : @Ne Nat (s1.heap.objs.size + 1 + 1 + 1 + 1 + 1 + 1) it := off9 _ (.head _)
    have i7 : @Ne Nat (s1.heap.objs.size + 1 + 1 + 1 + 1 + 1 + 1 + 1) it := off9 _ (.tail _ (.head _))
    have is' : @Ne Nat sl it := off9 _ (.tail _ (.tail _ (.head _)))
    have id' : @Ne Nat dl it := off9 _ (.tail _ (.tail _ (.tail _ (.head _))))
    have ir : ∀ q ∈ rs, q.1 ≠ it := fun q hq => off9 q (.tail _ (.tail _ (.tail _ (.tail _ hq))))
    have cS' := hsA _ cS
    replace F9 : Fr s1.heap s1.heap.objs.size h _ := frOver F9 (knows_upd hK rfl)
    replace N9 : News s1.heap s1.heap.objs.size h _ := N9
    clear ND2 off9
    ((try k_extra "gq"); k_steps; (all_goals try k_extra "uq"))
    refine go_on (take_use (by k_asm) (by k_asm) (by k_asm) (by k_asm) (by k_asm) (by exact rfl) ⟨⟨x, y, tx, ty, k, .tail _ (.tail _ (.tail _ (.head _))), hx, hy, hyb⟩, by decide, by decide⟩ (by exact Nat.le_of_ble_eq_true rfl) (by exact Nat.le_of_ble_eq_true rfl) ?_)
    intro r1 tkr1 nn1 h1' tk1' F1' N1' hr10 hr11 hs1 hk1
    obtain ⟨x2, y2, tx2, ty2, k2, hsl2, hx2, hy2, hyb2⟩ := hs1
    replace N1' : News s1.heap s1.heap.objs.size h1' ((it, oi) :: (s1.heap.objs.size + 1 + 1 + 1 + 1 + 1 + 1, om) :: (s1.heap.objs.size + 1 + 1 + 1 + 1 + 1 + 1 + 1, o7) :: (sl, listOf [Value.int x2 tx2, Value.int y2 ty2].toArray k2) :: (dl, listOf dvs.toArray c) :: rs) :=
      news_sub N1' (norm_mid (pre := [(it, oi), (s1.heap.objs.size + 1 + 1 + 1 + 1 + 1 + 1, om), (s1.heap.objs.size + 1 + 1 + 1 + 1 + 1 + 1 + 1, o7)]) (post := (dl, listOf dvs.toArray c) :: rs) hk1 hsl2 (fun q hq => by
        simp only [List.mem_cons, List.not_mem_nil, or_false] at hq
        rcases hq with rfl | rfl | rfl <;> (dsimp only; k_extra "om")) (List.forall_mem_cons.mpr ⟨by dsimp only; k_extra "om", qs⟩))
    clear hk1 hsl2
    ((try k_extra "gq"); k_steps; (all_goals try k_extra "uq"))
    rename_i h3' om2 F3 N3 em2
    have hdl1 := hdr.1
    let jj27 : Nat → List Value → Led → Prop := (fun j ys news' => X7 (fun (x y : Int) (tx ty : Tok) (k : Nat) (rs' : Led) (ps : List PSp) => T15 (news' = (it, oi) :: (s1.heap.objs.size + 1 + 1 + 1 + 1 + 1 + 1, om2) :: (s1.heap.objs.size + 1 + 1 + 1 + 1 + 1 + 1 + 1, o7) :: (sl, listOf [Value.int x tx, Value.int y ty].toArray k) :: (dl, listOf dvs.toArray c) :: rs') (0 ≤ x) (0 ≤ y) (y < 2147483647) (∀ q ∈ rs, q ∈ rs') (∀ q ∈ rs', q.1 ≠ s1.heap.objs.size + 1 + 1 + 1 + 1 + 1 + 1) (∀ q ∈ rs', q.1 ≠ s1.heap.objs.size + 1 + 1 + 1 + 1 + 1 + 1 + 1) (∀ q ∈ rs', q.1 ≠ sl) (∀ q ∈ rs', q.1 ≠ dl) (∀ q ∈ rs', q.1 ≠ it) (ys.length = j) (ps.length = j) (j ≤ 3) (RowsOK ps) (∀ (i' : Nat) (p : PSp), ps[i']? = some p → ∃ a : Addr, ys[i']? = some (.ref a) ∧ RowTup rs' a p)))
    refine go_on (comp_range_use (n := (1 + r1).toNat) 3 jj27
      rfl rfl rfl rfl (by decide) rfl rfl (by decide) (by k_extra "om") (by k_extra "om") (by k_asm) N3 ⟨x2, y2, tx2, ty2, k2, rs, [], rfl, hx2, hy2, hyb2, fun _ h => h, q6, q7, qs, qd, ir, rfl, rfl, Nat.zero_le _, fun p hp => (nomatch hp), fun i' p hp => by simp at hp⟩ ?_ ?_ ?_)
    · rintro j ys news' ⟨x3, y3, tx3, ty3, k3, rs', ps, _, _, _, _, _, _, _, _, _, _, hyl, _, hj3, _⟩
      k_extra "om"
    · rintro j ys it2 oi2 C oC D m₃ h5 tk5 t5 news₁ hj hoc2 ⟨x3, y3, tx3, ty3, k3, rs', ps, rfl, hx3, hy3, hyb3, hsr, p6, p7, p0, pd, pi, hyl, hpl, hj3, hok, hps⟩ hoC hmx F5 N5 off5 hne5
      have cS5 := hsr _ cS'
      replace F5 : Fr s1.heap s1.heap.objs.size h5 _ := F5
      replace N5 : News s1.heap s1.heap.objs.size h5 _ := N5
      clear N3 F3
      ((try k_extra "gq"); k_steps; (all_goals try k_extra "uq"))
      refine go_on (says_use part_ok (by k_asm) (by k_asm) (by k_asm) (by k_asm) (by k_asm) (by exact rfl) ⟨x3, y3, tx3, ty3, k3, (.tail _ (.tail _ (.tail _ (.tail _ (.tail _ (.tail _ (.head _))))))), hx3, hy3, hyb3⟩ (by exact Nat.le_of_ble_eq_true rfl) (by exact Nat.le_of_ble_eq_true rfl) ?_)
      rintro r nn6 h6 tk6 F6 N6 ⟨ra, p, rfl, hrt, hpos, ⟨x6, y6, tx6, ty6, k6, hsl6, hx6, hy6, hyb6⟩, hk6⟩
      obtain ⟨fr, hfr, hrt'⟩ := hrt.sep
      have z0 := off3_ne off5 (sl, listOf [Value.int x3 tx3, Value.int y3 ty3].toArray k3) (.tail _ (.tail _ (.tail _ (.head _))))
      have z1 : @Ne Nat it2 sl := Ne.symm z0.1
      have z2 : @Ne Nat C sl := Ne.symm z0.2.1
      have z3 : @Ne Nat D sl := Ne.symm z0.2.2
      have hN := norm_mid (pre := [(it2, oi2), (C, oC), (D, LCg.lst ys), (it, oi), (s1.heap.objs.size + 1 + 1 + 1 + 1 + 1 + 1, om2), (s1.heap.objs.size + 1 + 1 + 1 + 1 + 1 + 1 + 1, o7)]) (post := (dl, listOf dvs.toArray c) :: rs') hk6 hsl6 (fun q hq => by
        simp only [List.mem_cons, List.not_mem_nil, or_false] at hq
        rcases hq with rfl | rfl | rfl | rfl | rfl | rfl <;> (dsimp only; k_extra "om")) (List.forall_mem_cons.mpr ⟨by dsimp only; k_extra "om", p0⟩)
      have f6 := fun1_of N6
      have a1 := tup_apart f6 hfr (hN _ (.head _)) (it_ntup hoc2)
      have a2 := tup_apart f6 hfr (hN _ (.tail _ (.head _))) (ns_ntup hoC)
      have a3 := tup_apart f6 hfr (hN _ (.tail _ (.tail _ (.head _)))) list_ntup
      have a4 := tup_apart f6 hfr (hN _ (.tail _ (.tail _ (.tail _ (.head _))))) (it_ntup hoc)
      have a5 := tup_apart f6 hfr (hN _ (.tail _ (.tail _ (.tail _ (.tail _ (.head _)))))) (cell_inst em2).2.2.2
      have a6 := tup_apart f6 hfr (hN _ (.tail _ (.tail _ (.tail _ (.tail _ (.tail _ (.head _))))))) (cell_inst e7).2.2.2
      have a7 := tup_apart f6 hfr (hN _ (.tail _ (.tail _ (.tail _ (.tail _ (.tail _ (.tail _ (.head _)))))))) list_ntup
      have a8 := tup_apart f6 hfr (hN _ (.tail _ (.tail _ (.tail _ (.tail _ (.tail _ (.tail _ (.tail _ (.head _))))))))) list_ntup
      have N7 : News s1.heap s1.heap.objs.size h6 ((it2, oi2) :: (C, oC) :: (D, LCg.lst ys) :: (it, oi) :: (s1.heap.objs.size + 1 + 1 + 1 + 1 + 1 + 1, om2) :: (s1.heap.objs.size + 1 + 1 + 1 + 1 + 1 + 1 + 1, o7) :: (sl, listOf [Value.int x6 tx6, Value.int y6 ty6].toArray k6) :: (dl, listOf dvs.toArray c) :: (fr ++ rs')) :=
        news_sub N6 (sub_cons (hN _ (.head _)) (sub_cons (hN _ (.tail _ (.head _))) (sub_cons (hN _ (.tail _ (.tail _ (.head _)))) (sub_cons (hN _ (.tail _ (.tail _ (.tail _ (.head _))))) (sub_cons (hN _ (.tail _ (.tail _ (.tail _ (.tail _ (.head _)))))) (sub_cons (hN _ (.tail _ (.tail _ (.tail _ (.tail _ (.tail _ (.head _))))))) (sub_cons (hN _ (.tail _ (.tail _ (.tail _ (.tail _ (.tail _ (.tail _ (.head _)))))))) (sub_cons (hN _ (.tail _ (.tail _ (.tail _ (.tail _ (.tail _ (.tail _ (.tail _ (.head _))))))))) (fun q hq => (List.mem_append.mp hq).elim (fun h => (hfr q h).1) (fun h => hN q (.tail _ (.tail _ (.tail _ (.tail _ (.tail _ (.tail _ (.tail _ (.tail _ h))))))))))))))))))
      clear hN hk6 N6 f6
      ((try k_extra "gq"); k_steps; (all_goals try k_extra "uq"))
      refine ⟨_, _, (it, oi) :: (s1.heap.objs.size + 1 + 1 + 1 + 1 + 1 + 1, om2) :: (s1.heap.objs.size + 1 + 1 + 1 + 1 + 1 + 1 + 1, o7) :: (sl, listOf [Value.int x6 tx6, Value.int y6 ty6].toArray k6) :: (dl, listOf dvs.toArray c) :: (fr ++ rs'), rfl, by k_asm, by k_asm, LCg.Off3.of ?_, x6, y6, tx6, ty6, k6, fr ++ rs', ps ++ [p], rfl, hx6, hy6, hyb6, fun q hq => List.mem_append_right _ (hsr q hq),
        fun q hq => (List.mem_append.mp hq).elim (a5 q) (p6 q), fun q hq => (List.mem_append.mp hq).elim (a6 q) (p7 q), fun q hq => (List.mem_append.mp hq).elim (a7 q) (p0 q), fun q hq => (List.mem_append.mp hq).elim (a8 q) (pd q), fun q hq => (List.mem_append.mp hq).elim (a4 q) (pi q), by simp [hyl], by simp [hpl], by k_extra "om", fun p' hp' => ?_, fun i' p' hi' => ?_⟩
      · refine List.forall_mem_cons.mpr ⟨off3_ne off5 (it, oi) (.head _), List.forall_mem_cons.mpr ⟨off3_ne off5 (s1.heap.objs.size + 1 + 1 + 1 + 1 + 1 + 1, om2) (.tail _ (.head _)), List.forall_mem_cons.mpr ⟨off3_ne off5 (s1.heap.objs.size + 1 + 1 + 1 + 1 + 1 + 1 + 1, o7) (.tail _ (.tail _ (.head _))), List.forall_mem_cons.mpr ⟨z0, List.forall_mem_cons.mpr ⟨off3_ne off5 (dl, listOf dvs.toArray c) (.tail _ (.tail _ (.tail _ (.tail _ (.head _))))), fun q hq => ?_⟩⟩⟩⟩⟩
        rcases List.mem_append.mp hq with h | h
        · exact ⟨a1 q h, a2 q h, a3 q h⟩
        · exact off3_ne off5 q (.tail _ (.tail _ (.tail _ (.tail _ (.tail _ h)))))
      · rcases List.mem_append.mp hp' with h | h
        · exact hok p' h
        · rw [List.mem_singleton.mp h]; exact hpos
      · rcases getElem?_snoc hi' with h | ⟨rfl, rfl⟩
        · obtain ⟨a, q1, q2⟩ := hps _ _ h
          exact ⟨a, push_at q1, q2.mono fun q hq => List.mem_append_right _ hq⟩
        · exact ⟨ra, by rw [hpl, ← hyl]; simp, hrt'.mono fun q hq => List.mem_append_left _ hq⟩
    · rintro ys D5 h5 tk5 news₁ ⟨x3, y3, tx3, ty3, k3, rs', ps, rfl, hx3, hy3, hyb3, hsr, p6, p7, p0, pd, pi, hyl, hpl, hj3, hok, hps⟩ F5 N5 ⟨u1, u2, u3, u4, u5, u6⟩
      have cS5 := hsr _ cS'
      replace F5 : Fr s1.heap s1.heap.objs.size h5 _ := F5
      replace N5 : News s1.heap s1.heap.objs.size h5 _ := N5
      ((try k_extra "gq"); k_steps; (all_goals try k_extra "uq"))
      refine go_on (take_use (by k_asm) (by k_asm) (by k_asm) (by k_asm) (by k_asm) (by exact rfl) ⟨⟨x3, y3, tx3, ty3, k3, (.tail _ (.tail _ (.tail _ (.tail _ (.head _))))), hx3, hy3, hyb3⟩, by decide, by decide⟩ (by exact Nat.le_of_ble_eq_true rfl) (by exact Nat.le_of_ble_eq_true rfl) ?_)
      intro r8 tkr8 nn8 h8 tk8 F8 N8 hr80 hr81 hs8 hk8
      obtain ⟨x8, y8, tx8, ty8, k8, hsl8, hx8, hy8, hyb8⟩ := hs8
      have N9 : News s1.heap s1.heap.objs.size h8 ((D5, LCg.lst ys) :: (it, oi) :: (s1.heap.objs.size + 1 + 1 + 1 + 1 + 1 + 1, om2) :: (s1.heap.objs.size + 1 + 1 + 1 + 1 + 1 + 1 + 1, o7) :: (sl, listOf [Value.int x8 tx8, Value.int y8 ty8].toArray k8) :: (dl, listOf dvs.toArray c) :: rs') :=
        news_sub N8 (norm_mid (pre := [(D5, LCg.lst ys), (it, oi), (s1.heap.objs.size + 1 + 1 + 1 + 1 + 1 + 1, om2), (s1.heap.objs.size + 1 + 1 + 1 + 1 + 1 + 1 + 1, o7)]) (post := (dl, listOf dvs.toArray c) :: rs') hk8 hsl8 (fun q hq => by
          simp only [List.mem_cons, List.not_mem_nil, or_false] at hq
          rcases hq with rfl | rfl | rfl | rfl <;> (dsimp only; k_extra "om")) (List.forall_mem_cons.mpr ⟨by dsimp only; k_extra "om", p0⟩))
      clear hk8 N8
      ((try k_extra "gq"); k_steps; (all_goals try k_extra "uq"))
      rename_i tl hF ltl hG FG NG
      have hne : ps ≠ [] := fun e => by rw [e] at hpl; simp at hpl; k_extra "om"
      exact ⟨_, (s1.heap.objs.size + 1 + 1 + 1 + 1 + 1 + 1, om2) :: (s1.heap.objs.size + 1 + 1 + 1 + 1 + 1 + 1 + 1, o7) :: (sl, listOf [Value.int x8 tx8, Value.int y8 ty8].toArray k8) :: (dl, listOf (dvs ++ [Value.ref tl]).toArray (c + 1)) :: (tl, tupOf #[Value.bool (r8 == 0), Value.ref D5] 0) :: (D5, LCg.lst ys) :: rs', _, _, rfl, by k_asm, by k_extra "nsub",
        List.forall_mem_cons.mpr ⟨i6, List.forall_mem_cons.mpr ⟨i7, List.forall_mem_cons.mpr ⟨is', List.forall_mem_cons.mpr ⟨id', List.forall_mem_cons.mpr ⟨by k_ne, List.forall_mem_cons.mpr ⟨by k_ne, pi⟩⟩⟩⟩⟩⟩,
        om2, x8, y8, tx8, ty8, k8, dvs ++ [Value.ref tl], c + 1, (tl, tupOf #[Value.bool (r8 == 0), Value.ref D5] 0) :: (D5, LCg.lst ys) :: rs', ways ++ [(r8 == 0, ps)], ⟨rfl, trivial⟩, rfl, ⟨_, em2⟩, hx8, hy8, hyb8, fun q hq => .tail _ (.tail _ (hsr q (hsA q hq))),
        List.forall_mem_cons.mpr ⟨by k_ne, List.forall_mem_cons.mpr ⟨by k_ne, p6⟩⟩, List.forall_mem_cons.mpr ⟨by k_ne, List.forall_mem_cons.mpr ⟨by k_ne, p7⟩⟩,
        List.forall_mem_cons.mpr ⟨by k_ne, List.forall_mem_cons.mpr ⟨by k_ne, p0⟩⟩, List.forall_mem_cons.mpr ⟨by k_ne, List.forall_mem_cons.mpr ⟨by k_ne, pd⟩⟩,
        (hdr.mono fun q hq => .tail _ (.tail _ (hsr q hq))).snoc (.head _) ⟨ys, ys.length, .tail _ (.head _), hyl.trans hpl.symm, by k_extra "om", fun i' p hi' => let ⟨a, e1, e2⟩ := hps i' p hi'; ⟨a, e1, e2.mono fun q hq => .tail _ (.tail _ hq)⟩⟩ hne hok, by simp [hwl]⟩
  · rintro m₁ news₁ h tk ⟨om, x, y, tx, ty, k, dvs, c, rs, ways, hK, rfl, ⟨vm, em⟩, hx, hy, hyb, hsA, q6, q7, qs, qd, hdr, hwl⟩ F9 N9
    replace F9 : Fr s1.heap s1.heap.objs.size h _ := frOver F9 hK
    obtain ⟨B6, hB6⟩ : ∃ B6 : Led, B6 = (s1.heap.objs.size + 1 + 1 + 1 + 1 + 1 + 1, om) :: (sl, listOf [Value.int x tx, Value.int y ty].toArray k) :: (dl, listOf dvs.toArray c) :: rs := ⟨_, rfl⟩
    have N10 : News s1.heap s1.heap.objs.size h ((s1.heap.objs.size + 1 + 1 + 1 + 1 + 1 + 1 + 1, o7) :: B6) := by
      refine news_sub N9 ?_
      rw [hB6]
      k_extra "sub"
    have hdB : (dl, listOf dvs.toArray c) ∈ B6 := by rw [hB6]; k_mem
    have hrB : ∀ q ∈ rs, q ∈ B6 := by rw [hB6]; exact fun q hq => .tail _ (.tail _ (.tail _ hq))
    have n7 : ∀ q ∈ B6, q.1 ≠ s1.heap.objs.size + 1 + 1 + 1 + 1 + 1 + 1 + 1 := by
      rw [hB6]
      exact List.forall_mem_cons.mpr ⟨by k_ne, List.forall_mem_cons.mpr ⟨by k_ne, List.forall_mem_cons.mpr ⟨by k_ne, q7⟩⟩⟩
    have hAB : ∀ q ∈ restA, q ∈ B6 := fun q hq => hrB q (hsA q hq)
    have hdl1 := hdr.1
    clear N9 hB6 q6 q7 qs qd ND2 hsA
    have hdB' : (dl, listOf dvs.toArray c) ∈ (s1.heap.objs.size + 1 + 1 + 1 + 1 + 1 + 1 + 1, o7) :: B6 := .tail _ hdB
    ((try k_extra "gq"); k_steps; (all_goals try k_extra "uq"))
    let jj28 : Nat → List Value → Led → Prop := (fun j ys news' => ∃ (fr : Led), T5 (news' = (s1.heap.objs.size + 1 + 1 + 1 + 1 + 1 + 1 + 1, o7) :: (fr ++ B6)) (∀ q ∈ fr, q.1 ≠ s1.heap.objs.size + 1 + 1 + 1 + 1 + 1 + 1 + 1) (ys.length = j) (j ≤ 2) (∀ (i' : Nat) (q : Bool × List PSp), i' < j → ways[i']? = some q → ∃ a : Addr, ys[i']? = some (.ref a) ∧ PatAt w (fr ++ B6) a q.1 q.2))
    refine go_on (comp_list_use (us := dvs) 2 jj28
      rfl rfl rfl rfl (by decide) rfl rfl (by decide) (by k_asm) N10 ⟨[], rfl, fun q hq => (nomatch hq), rfl, Nat.zero_le _, fun i' q hi => absurd hi (Nat.not_lt_zero _)⟩ ?_ ?_ ?_)
    · rintro j ys news' ⟨fr, rfl, _, hyl, hj, _⟩
      exact ⟨⟨_, .tail _ (List.mem_append_right _ hdB)⟩, by k_extra "om"⟩
    · rintro j ys v it2 oi2 C oC D m₃ h5 tk5 news₁ hv ⟨fr, rfl, hf7, hyl, hj, hps⟩ hoC hmx F5 N5 off5 hne5
      replace F5 : Fr s1.heap s1.heap.objs.size h5 _ := F5
      replace N5 : News s1.heap s1.heap.objs.size h5 _ := N5
      have hjl : j < ways.length := by
        rcases Nat.lt_or_ge j ways.length with h | h
        · exact h
        · rw [List.getElem?_eq_none (by k_extra "om")] at hv; cases hv
      obtain ⟨⟨qb, qr⟩, hq⟩ : ∃ q, ways[j]? = some q := ⟨_, List.getElem?_eq_getElem hjl⟩
      obtain ⟨tl, rl, kt, t1, t2, t3, t4, t5⟩ := hdr.2 j _ hq
      dsimp only at t2 t3 t4 t5
      rw [t1] at hv
      obtain rfl := Option.some.inj hv
      unfold CTurn
      dsimp only
      ((try k_extra "gq"); k_steps; (all_goals try k_extra "uq"))
      refine go_on (says_use (pattern_ok (bs := rs)) (by k_asm) (by k_asm) (by k_asm) (by k_asm) (by k_asm) (by exact rfl) ⟨.tail _ (.tail _ (.tail _ (.tail _ (List.mem_append_right _ (hrB _ t2))))), fun q hq => .tail _ (.tail _ (.tail _ (.tail _ (List.mem_append_right _ (hrB _ hq))))), t3, t5⟩ (by exact Nat.le_of_ble_eq_true rfl) (by exact Nat.le_of_ble_eq_true rfl) ?_)
      rintro r nn6 h6 tk6 F6 N6 ⟨pt, fr2, rfl, rfl, hfresh, hpat⟩
      ((try k_extra "gq"); k_steps; (all_goals try k_extra "uq"))
      refine ⟨_, _, (s1.heap.objs.size + 1 + 1 + 1 + 1 + 1 + 1 + 1, o7) :: ((fr2 ++ fr) ++ B6), rfl, by k_asm, news_sub N6 (sub_cons (List.mem_append_right _ (.head _)) (sub_cons (List.mem_append_right _ (.tail _ (.head _))) (sub_cons (List.mem_append_right _ (.tail _ (.tail _ (.head _)))) (sub_cons (List.mem_append_right _ (.tail _ (.tail _ (.tail _ (.head _))))) (fun q hq => ?_))))), LCg.Off3.of (List.forall_mem_cons.mpr ⟨off3_ne off5 _ (.head _), fun q hq => ?_⟩), fr2 ++ fr, rfl, fun q hq => ?_, by simp [hyl], by k_extra "om", fun i' q' hi' hq' => ?_⟩
      · rw [List.append_assoc] at hq
        rcases List.mem_append.mp hq with h | h
        · exact List.mem_append_left _ h
        · exact List.mem_append_right _ (.tail _ (.tail _ (.tail _ (.tail _ h))))
      · rw [List.append_assoc] at hq
        rcases List.mem_append.mp hq with h | h
        · exact ⟨Ne.symm (Nat.ne_of_lt (hfresh q h _ (.head _))), Ne.symm (Nat.ne_of_lt (hfresh q h _ (.tail _ (.head _)))), Ne.symm (Nat.ne_of_lt (hfresh q h _ (.tail _ (.tail _ (.head _)))))⟩
        · exact off3_ne off5 q (.tail _ h)
      · rcases List.mem_append.mp hq with h | h
        · exact Ne.symm (Nat.ne_of_lt (hfresh q h _ (.tail _ (.tail _ (.tail _ (.head _))))))
        · exact hf7 q h
      · rcases Nat.lt_or_ge i' j with h | h
        · obtain ⟨a, z1, z2⟩ := hps i' q' h hq'
          exact ⟨a, push_at z1, z2.mono fun q hq => by rw [List.append_assoc]; exact List.mem_append_right _ hq⟩
        · obtain rfl : i' = j := by k_extra "om"
          rw [hq] at hq'
          obtain rfl := Option.some.inj hq'
          refine ⟨pt, by rw [← hyl]; simp, hpat.mono fun q hq => ?_⟩
          rw [List.append_assoc]
          rcases List.mem_append.mp hq with h | h
          · exact List.mem_append_left _ h
          · exact List.mem_append_right _ (List.mem_append_right _ (hrB q h))
    · rintro ys D6 h6 tk6 news₁ ⟨fr, rfl, hf7, hyl, hj, hps⟩ F6 N6 off6
      replace F6 : Fr s1.heap s1.heap.objs.size h6 _ := F6
      replace N6 : News s1.heap s1.heap.objs.size h6 _ := N6
      have c67 : @Ne Nat (s1.heap.objs.size + 1 + 1 + 1 + 1 + 1 + 1 + 1) D6 := off6.1
      obtain ⟨B7, hB7⟩ : ∃ B7 : Led, B7 = (D6, LCg.lst ys) :: (fr ++ B6) := ⟨_, rfl⟩
      have hWA : WaysAt w B7 D6 ways := by
        rw [hB7]
        exact ⟨ys, ys.length, .head _, by k_extra "om", by k_extra "om", fun i q hq => by
          have hil : i < ways.length := by
            rcases Nat.lt_or_ge i ways.length with h | h
            · exact h
            · rw [List.getElem?_eq_none h] at hq; cases hq
          obtain ⟨a, z1, z2⟩ := hps i q (by k_extra "om") hq
          exact ⟨a, z1, z2.mono fun q hq => .tail _ hq⟩⟩
      have n77 : ∀ q ∈ B7, q.1 ≠ s1.heap.objs.size + 1 + 1 + 1 + 1 + 1 + 1 + 1 := by
        rw [hB7]
        exact List.forall_mem_cons.mpr ⟨by k_ne, fun q hq => (List.mem_append.mp hq).elim (hf7 q) (n7 q)⟩
      have hB67 : ∀ q ∈ B6, q ∈ B7 := by rw [hB7]; exact fun q hq => .tail _ (List.mem_append_right _ hq)
      have N11 : News s1.heap s1.heap.objs.size h6 ((s1.heap.objs.size + 1 + 1 + 1 + 1 + 1 + 1 + 1, o7) :: B7) := by
        refine news_sub N6 ?_
        rw [hB7]
        exact sub_cons (.tail _ (.head _)) (sub_cons (.head _) fun q hq => .tail _ (.tail _ hq))
      have hAB7 : ∀ q ∈ restA, q ∈ B7 := fun q hq => hB67 q (hAB q hq)
      have hrB7 : ∀ q ∈ rs, q ∈ B7 := fun q hq => hB67 q (hrB q hq)
      clear N6 hB7 hps hf7 n7 off6 N10 hdB'
      have hdB7 : (dl, listOf dvs.toArray c) ∈ (s1.heap.objs.size + 1 + 1 + 1 + 1 + 1 + 1 + 1, o7) :: B7 := .tail _ (hB67 _ hdB)
      have W := q.wf
      have hnvl := hni.length
      rw [upto_len] at hnvl
      have hTl := W.len
      have hnd := List.nodup_range (n := T.length)
      ((try k_extra "gq"); k_steps; (all_goals try k_extra "uq"))
      let jj29 : Nat → List Value → Led → Prop := (fun j ys news' => ∃ (fr : Led), T5 (news' = (s1.heap.objs.size + 1 + 1 + 1 + 1 + 1 + 1 + 1, o7) :: (fr ++ B7)) (∀ q ∈ fr, q.1 ≠ s1.heap.objs.size + 1 + 1 + 1 + 1 + 1 + 1 + 1) (ys.length = j) (j ≤ 2) (∀ (i' : Nat) (q : Bool × List PSp), i' < j → ways[i']? = some q → ∃ (a : Addr) (vs : List Value) (c : Nat) (Ls : List Int), ys[i']? = some (.ref a) ∧ (a, listOf vs.toArray c) ∈ fr ++ B7 ∧ IntsAre vs Ls ∧ (∀ x, x ∈ Ls ↔ Due T q.1 q.2 (upto T.length) x)))
      refine go_on (comp_list_use (us := dvs) 2 jj29
        rfl rfl rfl rfl (by decide) rfl rfl (by decide) (by k_asm) N11 ⟨[], rfl, fun q hq => (nomatch hq), rfl, Nat.zero_le _, fun i' q hi => absurd hi (Nat.not_lt_zero _)⟩ ?_ ?_ ?_)
      · rintro j ys news' ⟨fr, rfl, _, hyl, hj, _⟩
        exact ⟨⟨_, .tail _ (List.mem_append_right _ (hB67 _ hdB))⟩, by k_extra "om"⟩
      · rintro j ys v it2 oi2 C oC D m₃ h5 tk5 news₁ hv ⟨fr, rfl, hf7, hyl, hj, hps⟩ hoC hmx F5 N5 off5 hne5
        replace F5 : Fr s1.heap s1.heap.objs.size h5 _ := F5
        replace N5 : News s1.heap s1.heap.objs.size h5 _ := N5
        have hjl : j < ways.length := by
          rcases Nat.lt_or_ge j ways.length with h | h
          · exact h
          · rw [List.getElem?_eq_none (by k_extra "om")] at hv; cases hv
        obtain ⟨⟨qb, qr⟩, hq⟩ : ∃ q, ways[j]? = some q := ⟨_, List.getElem?_eq_getElem hjl⟩
        obtain ⟨tl, rl, kt, t1, t2, t3, t4, t5⟩ := hdr.2 j _ hq
        dsimp only at t2 t3 t4 t5
        rw [t1] at hv
        obtain rfl := Option.some.inj hv
        have cT5 : (s1.heap.objs.size + 1 + 1, oT) ∈ fr ++ B7 := List.mem_append_right _ (hAB7 _ cT)
        have cR5 : (s1.heap.objs.size + 1 + 1 + 1, oR) ∈ fr ++ B7 := List.mem_append_right _ (hAB7 _ cR)
        have cN5 : (s1.heap.objs.size + 1 + 1 + 1 + 1, oN) ∈ fr ++ B7 := List.mem_append_right _ (hAB7 _ cN)
        have cn5 : (nl, listOf nvs.toArray kn) ∈ fr ++ B7 := List.mem_append_right _ (hAB7 _ hnA)
        unfold CTurn
        dsimp only
        ((try k_extra "gq"); k_steps; (all_goals try k_extra "uq"))
        rename_i Dn cn9 hn9 Fn9 Nn9 hltn
        have ap : ∀ q ∈ B7, q ∈ (Dn, listOf nvs.toArray cn9) :: (it2, oi2) :: (C, oC) :: (D, LCg.lst ys) :: (s1.heap.objs.size + 1 + 1 + 1 + 1 + 1 + 1 + 1, o7) :: (fr ++ B7) := fun q hq => .tail _ (.tail _ (.tail _ (.tail _ (.tail _ (List.mem_append_right _ hq)))))
        refine go_on (says_use due_ok (by k_asm) (by k_asm) (by k_asm) (by k_asm) (by k_asm) (by exact rfl) ⟨hTA.mono (fun q hq => ap q (hAB7 q hq)), W, ap _ (hrB7 _ t2), t3.mono (fun q hq => ap q (hrB7 q hq)), t4, t5, .head _, hni, fun x hx => rowOf_upto.mpr hx, by rw [upto_len]; exact hTl⟩ (by exact Nat.le_of_ble_eq_true rfl) (by exact Nat.le_of_ble_eq_true rfl) ?_)
        rintro r nn6 h6' tk6' F6' N6' ⟨D9, c9, vs9, Ls9, rfl, rfl, hi9, hmm9, hln9, hlt9⟩
        ((try k_extra "gq"); k_steps; (all_goals try k_extra "uq"))
        refine ⟨_, _, (s1.heap.objs.size + 1 + 1 + 1 + 1 + 1 + 1 + 1, o7) :: (((D9, listOf vs9.toArray c9) :: fr) ++ B7), rfl, by k_asm, news_sub N6' (sub_cons (.tail _ (.tail _ (.head _))) (sub_cons (.tail _ (.tail _ (.tail _ (.head _)))) (sub_cons (.tail _ (.tail _ (.tail _ (.tail _ (.head _))))) (sub_cons (.tail _ (.tail _ (.tail _ (.tail _ (.tail _ (.head _)))))) (sub_cons (.head _) fun q hq => .tail _ (.tail _ (.tail _ (.tail _ (.tail _ (.tail _ hq)))))))))),
          LCg.Off3.of (List.forall_mem_cons.mpr ⟨off3_ne off5 _ (.head _), List.forall_mem_cons.mpr ⟨⟨Ne.symm (Nat.ne_of_lt (hlt9 _ (.tail _ (.head _)))), Ne.symm (Nat.ne_of_lt (hlt9 _ (.tail _ (.tail _ (.head _))))), Ne.symm (Nat.ne_of_lt (hlt9 _ (.tail _ (.tail _ (.tail _ (.head _))))))⟩, fun q hq => off3_ne off5 q (.tail _ hq)⟩⟩),
          (D9, listOf vs9.toArray c9) :: fr, rfl, List.forall_mem_cons.mpr ⟨Ne.symm (Nat.ne_of_lt (hlt9 _ (.tail _ (.tail _ (.tail _ (.tail _ (.head _))))))), hf7⟩, by simp [hyl], by k_extra "om", fun i' q' hi' hq' => ?_⟩
        rcases Nat.lt_or_ge i' j with h | h
        · obtain ⟨a, vs', c', Ls', z1, z2, z3, z4⟩ := hps i' q' h hq'
          exact ⟨a, vs', c', Ls', push_at z1, .tail _ z2, z3, z4⟩
        · obtain rfl : i' = j := by k_extra "om"
          rw [hq] at hq'
          obtain rfl := Option.some.inj hq'
          exact ⟨D9, vs9, c9, Ls9, by rw [← hyl]; simp, .head _, hi9, hmm9⟩
      · rintro lts D7 h7 tk7 news₁ ⟨fr, rfl, hf7, hyl7, hj7, hps⟩ F7 N7 off7
        have c77 : @Ne Nat (s1.heap.objs.size + 1 + 1 + 1 + 1 + 1 + 1 + 1) D7 := off7.1
        obtain ⟨B8, hB8⟩ : ∃ B8 : Led, B8 = (D7, LCg.lst lts) :: (fr ++ B7) := ⟨_, rfl⟩
        have hl8 : (D7, listOf lts.toArray lts.length) ∈ B8 := by rw [hB8]; exact .head _
        have hlo : ∀ (i' : Nat) (q : Bool × List PSp), ways[i']? = some q → ∃ (a : Addr) (vs : List Value) (c : Nat) (Ls : List Int), lts[i']? = some (.ref a) ∧ (a, listOf vs.toArray c) ∈ B8 ∧ IntsAre vs Ls ∧ (∀ x, x ∈ Ls ↔ Due T q.1 q.2 (upto T.length) x) := fun i' q hq => by
          have hil : i' < ways.length := by
            rcases Nat.lt_or_ge i' ways.length with h | h
            · exact h
            · rw [List.getElem?_eq_none h] at hq; cases hq
          obtain ⟨a, vs', c', Ls', z1, z2, z3, z4⟩ := hps i' q (by k_extra "om") hq
          exact ⟨a, vs', c', Ls', z1, by rw [hB8]; exact .tail _ z2, z3, z4⟩
        have hB78 : ∀ q ∈ B7, q ∈ B8 := by rw [hB8]; exact fun q hq => .tail _ (List.mem_append_right _ hq)
        have n8 : ∀ q ∈ B8, q.1 ≠ s1.heap.objs.size + 1 + 1 + 1 + 1 + 1 + 1 + 1 := by
          rw [hB8]
          exact List.forall_mem_cons.mpr ⟨by k_ne, fun q hq => (List.mem_append.mp hq).elim (hf7 q) (n77 q)⟩
        have N12 : News s1.heap s1.heap.objs.size h7 ((s1.heap.objs.size + 1 + 1 + 1 + 1 + 1 + 1 + 1, o7) :: B8) := by
          refine news_sub N7 ?_
          rw [hB8]
          exact sub_cons (.tail _ (.head _)) (sub_cons (.head _) fun q hq => .tail _ (.tail _ hq))
        have hAB8 : ∀ q ∈ restA, q ∈ B8 := fun q hq => hB78 q (hAB7 q hq)
        have hW8 : WaysAt w B8 D6 ways := hWA.mono hB78
        have hT8 : TreeAt w B8 t T := hTA.mono hAB8
        have hK8 : LookAt w B8 lk t := hLA.mono hAB8
        have cN8 := hAB8 _ cN
        have cK8 := hAB8 _ cK
        have cR8 := hAB8 _ cR
        have cn8 := hAB8 _ hnA
        have hwn : ∀ q ∈ ways, q.2 ≠ [] := fun q hq => by
          obtain ⟨j, hj, rfl⟩ := List.mem_iff_getElem.mp hq
          obtain ⟨tl, rl, kt, _, _, _, h4, _⟩ := hdr.2 j _ (List.getElem?_eq_getElem hj)
          exact h4
        replace F7 : Fr s1.heap s1.heap.objs.size h7 _ := F7
        clear N7 hB8 hps hf7 n77 off7 N11 hdB7 hWA hTA hLA hAB hAB7 hAB8 hB78 hrB hrB7 hdB hB67 hdr cS cT cR cN cK hnA
        ((try k_extra "gq"); k_steps; (all_goals try k_extra "uq"))
        let jj30 : Nat → List Value → (Str → Option Value) → Led → Prop := (fun i us' m₁ news₁ => us' = nvs ∧ ∃ on, T3 (news₁ = (s1.heap.objs.size + 1 + 1 + 1 + 1 + 1 + 1 + 1, on) :: B8) (∃ v, on.data = .cell v) (Knows m₁ [(Str.ofString "ways", .ref D6), (Str.ofString "lots", .ref D7)]))
        refine go_on (iter_list 30 jj30 rfl (by k_asm) N12 ⟨rfl, o7, rfl, ⟨_, e7⟩, ⟨rfl, rfl, trivial⟩⟩ ?_ ?_ ?_)
        · rintro i us' m₁ news₁ ⟨rfl, on, rfl, _⟩
          exact ⟨by k_extra "om", _, .tail _ cn8⟩
        · rintro i us' v m₁ news₁ it oi h9 tk9 ⟨rfl, on, rfl, ⟨vn, en⟩, hK9⟩ hv F9 N9 off9
          obtain ⟨z, tz, rfl, hz⟩ := hni.at i v hv
          obtain ⟨rz, hrz⟩ := rowOf_upto.mpr (List.mem_of_getElem? hz)
          have i8 : @Ne Nat (s1.heap.objs.size + 1 + 1 + 1 + 1 + 1 + 1 + 1) it := off9 _ (.head _)
          have ir8 : ∀ q ∈ B8, q.1 ≠ it := fun q hq => off9 q (.tail _ hq)
          replace F9 : Fr s1.heap s1.heap.objs.size h9 _ := frOver F9 hK9
          replace N9 : News s1.heap s1.heap.objs.size h9 _ := N9
          clear N12 F7
          ((try k_extra "gq"); k_steps; (all_goals try k_extra "uq"))
          rename_i h10 on2 F10 N10 en2
          have hN0 : ∀ x r, rowOf T x = some r → x ∈ upto T.length := fun x r h => rowOf_upto.mp ⟨r, h⟩
          obtain ⟨bl, hbl⟩ : ∃ bl : Bool × List PSp → Bool, bl = fun q => matchB T q z rz := ⟨_, rfl⟩
          have hbd : ∀ q ∈ ways, ∀ Ls : List Int, (∀ x, x ∈ Ls ↔ Due T q.1 q.2 (upto T.length) x) → decide (z ∈ Ls) = bl q := fun q hq Ls hLs => by
            have h1 := match_due (rooted := q.1) (rows := q.2) W hN0 (hwn q hq) (x := z) (r := rz)
            rw [hbl]
            exact Bool.eq_iff_iff.mpr (by rw [decide_eq_true_iff, hLs z]; exact h1.symm)
          let jj31 : Nat → List Value → Led → Prop := (fun j ys news' => news' = (it, oi) :: (s1.heap.objs.size + 1 + 1 + 1 + 1 + 1 + 1 + 1, on2) :: B8 ∧ ys = ((ways.take j).map bl).map Value.bool)
          refine go_on (comp_list_use (us := lts) 2 jj31
            rfl rfl rfl rfl (by decide) rfl rfl (by decide) (by k_asm) N10 ⟨rfl, rfl⟩ ?_ ?_ ?_)
          · rintro j ys news' ⟨rfl, rfl⟩
            exact ⟨⟨_, .tail _ (.tail _ hl8)⟩, by simp; k_extra "om"⟩
          · rintro j ys v it2 oi2 C oC D m₃ h5 tk5 news₁ hv ⟨rfl, rfl⟩ hoC hmx F5 N5 off5 hne5
            replace F5 : Fr s1.heap s1.heap.objs.size h5 _ := F5
            replace N5 : News s1.heap s1.heap.objs.size h5 _ := N5
            have hjl : j < ways.length := by
              rcases Nat.lt_or_ge j ways.length with h | h
              · exact h
              · rw [List.getElem?_eq_none (by k_extra "om")] at hv; cases hv
            obtain ⟨q9, hq⟩ : ∃ q, ways[j]? = some q := ⟨_, List.getElem?_eq_getElem hjl⟩
            obtain ⟨a, vs9, c9, Ls9, z1, z2, z3, z4⟩ := hlo j _ hq
            rw [z1] at hv
            obtain rfl := Option.some.inj hv
            unfold CTurn
            dsimp only
            ((try k_extra "gq"); k_steps; (all_goals try k_extra "uq"))
            refine go_on (in_intsN (by k_asm) (List.Mem.tail _ (List.Mem.tail _ (List.Mem.tail _ (List.Mem.tail _ (List.Mem.tail _ z2))))) z3 ?_)
            ((try k_extra "gq"); k_steps; (all_goals try k_extra "uq"))
            refine ⟨_, _, (it, oi) :: (s1.heap.objs.size + 1 + 1 + 1 + 1 + 1 + 1 + 1, on2) :: B8, rfl, by k_asm, by k_asm, off5, rfl, ?_⟩
            rw [List.take_add_one, hq, hbd q9 (List.mem_of_getElem? hq) Ls9 z4]
            simp
          · rintro ys D8 h8 tk8 news₁ ⟨rfl, rfl⟩ F8 N8 off8
            replace F8 : Fr s1.heap s1.heap.objs.size h8 _ := F8
            replace N8 : News s1.heap s1.heap.objs.size h8 _ := N8
            rw [List.take_of_length_le (by k_extra "om")] at N8
            obtain ⟨wvs, kw, hw1, hw2, hw3, hw4⟩ := hW8
            have hw1' : (D6, listOf wvs.toArray kw) ∈ (D8, LCg.lst ((ways.map bl).map Value.bool)) :: (it, oi) :: (s1.heap.objs.size + 1 + 1 + 1 + 1 + 1 + 1 + 1, on2) :: B8 := .tail _ (.tail _ (.tail _ hw1))
            clear N10
            ((try k_extra "gq"); k_steps; (all_goals try k_extra "uq"))
            let jj32 : Nat → List Value → Led → Prop := (fun j ys news' => news' = (D8, LCg.lst ((ways.map bl).map Value.bool)) :: (it, oi) :: (s1.heap.objs.size + 1 + 1 + 1 + 1 + 1 + 1 + 1, on2) :: B8 ∧ ys = ((ways.take j).map bl).map Value.bool)
            refine go_on (comp_list (us := wvs) 2 jj32
              rfl (by decide) rfl rfl (by decide) (by k_asm) N8 ⟨rfl, rfl⟩ ?_ ?_ ?_)
            · rintro j ys news' ⟨rfl, rfl⟩
              exact ⟨⟨_, hw1'⟩, by simp; k_extra "om"⟩
            · rintro j ys v it2 oi2 C oC D m₃ h5 tk5 news₁ hv ⟨rfl, rfl⟩ hoC hmx F5 N5 off5 hne5
              replace F5 : Fr s1.heap s1.heap.objs.size h5 _ := F5
              replace N5 : News s1.heap s1.heap.objs.size h5 _ := N5
              have hjl : j < ways.length := by
                rcases Nat.lt_or_ge j ways.length with h | h
                · exact h
                · rw [List.getElem?_eq_none (by k_extra "om")] at hv; cases hv
              obtain ⟨⟨qb, qr⟩, hq⟩ : ∃ q, ways[j]? = some q := ⟨_, List.getElem?_eq_getElem hjl⟩
              obtain ⟨a, z1, z2⟩ := hw4 j _ hq
              dsimp only at z2
              have hqn := hwn _ (List.mem_of_getElem? hq)
              dsimp only at hqn
              rw [z1] at hv
              obtain rfl := Option.some.inj hv
              unfold CTurn
              dsimp only
              have ap : ∀ q ∈ B8, q ∈ (it2, oi2) :: (C, oC) :: (D, LCg.lst (((ways.take j).map bl).map Value.bool)) :: (D8, LCg.lst ((ways.map bl).map Value.bool)) :: (it, oi) :: (s1.heap.objs.size + 1 + 1 + 1 + 1 + 1 + 1 + 1, on2) :: B8 := fun q hq => .tail _ (.tail _ (.tail _ (.tail _ (.tail _ (.tail _ hq)))))
              ((try k_extra "gq"); k_steps; (all_goals try k_extra "uq"))
              refine go_on (says_use matches_ok (by k_asm) (by k_asm) (by k_asm) (by k_asm) (by k_asm) (by exact rfl) ⟨hT8.mono ap, hrz, hK8.mono ap, z2.mono ap, W.fl, fun e => absurd e hqn⟩ (by exact Nat.le_of_ble_eq_true rfl) (by exact Nat.le_of_ble_eq_true rfl) ?_)
              rintro r nn6 h6' tk6' F6' N6' ⟨rfl, rfl⟩
              ((try k_extra "gq"); k_steps; (all_goals try k_extra "uq"))
              refine ⟨_, _, (D8, LCg.lst ((ways.map bl).map Value.bool)) :: (it, oi) :: (s1.heap.objs.size + 1 + 1 + 1 + 1 + 1 + 1 + 1, on2) :: B8, rfl, by k_asm, by k_asm, off5, rfl, ?_⟩
              rw [List.take_add_one, hq, hbl]
              simp
            · rintro ys D9 h9' tk9' news₁ ⟨rfl, rfl⟩ F9' N9' off9'
              replace F9' : Fr s1.heap s1.heap.objs.size h9' _ := F9'
              replace N9' : News s1.heap s1.heap.objs.size h9' _ := N9'
              rw [List.take_of_length_le (by k_extra "om")] at N9'
              ((try k_extra "gq"); k_steps; (all_goals try k_extra "uq"))
              refine go_on (ne_boolsN (by k_asm) (List.Mem.head _) (List.Mem.tail _ (List.Mem.head _)) (by exact Nat.le_of_ble_eq_true rfl) ?_)
              rw [decide_eq_true rfl]
              have ap : ∀ q ∈ B8, q ∈ (D9, LCg.lst ((ways.map bl).map Value.bool)) :: (D8, LCg.lst ((ways.map bl).map Value.bool)) :: (it, oi) :: (s1.heap.objs.size + 1 + 1 + 1 + 1 + 1 + 1 + 1, on2) :: B8 := fun q hq => .tail _ (.tail _ (.tail _ (.tail _ hq)))
              ((try k_extra "gq"); k_steps; (all_goals try k_extra "uq"))
              refine go_on (says_use matchesany_ok (by k_asm) (by k_asm) (by k_asm) (by k_asm) (by k_asm) (by exact rfl) ⟨hT8.mono ap, hrz, hK8.mono ap, WaysAt.mono ⟨wvs, kw, hw1, hw2, hw3, hw4⟩ ap, W.fl, fun q hq e => absurd e (hwn q hq)⟩ (by exact Nat.le_of_ble_eq_true rfl) (by exact Nat.le_of_ble_eq_true rfl) ?_)
              rintro r nn6 h6' tk6' F6' N6' ⟨rfl, rfl⟩
              have hany : (ways.any fun q => matchB T q z rz) = (ways.map bl).any id := by rw [hbl, List.any_map]; rfl
              rw [hany]
              ((try k_extra "gq"); k_steps; (all_goals try k_extra "uq"))
              refine go_on (in_boolsN (by k_asm) (List.Mem.tail _ (List.Mem.head _)) ?_)
              generalize (ways.map bl).any id = b0
              cases b0
              all_goals
                ((try k_extra "gq"); k_steps; (all_goals try k_extra "uq"))
                exact ⟨_, (s1.heap.objs.size + 1 + 1 + 1 + 1 + 1 + 1 + 1, on2) :: B8, _, _, rfl, by k_asm, by k_extra "nsub", List.forall_mem_cons.mpr ⟨i8, ir8⟩, us', rfl, on2, rfl, ⟨_, en2⟩, ⟨rfl, rfl, trivial⟩⟩
        · rintro i us' m₁ news₁ h9 tk9 ⟨rfl, on, rfl, ⟨vn, en⟩, hK9⟩ hi1 hi2 F9 N9
          replace F9 : Fr s1.heap s1.heap.objs.size h9 _ := frOver F9 hK9
          replace N9 : News s1.heap s1.heap.objs.size h9 _ := N9
          obtain ⟨ra0, hra0, hka0, _⟩ := W.root
          obtain ⟨ra1, hra1, hka1⟩ := q.one
          have hT2 := (rowOf_lt hra1).2
          obtain ⟨t1v, hx1⟩ : ∃ t1v, us'[Int.toNat 1]? = some (Value.int 1 t1v) := by
            have h1 : us'[1]? = some us'[1] := List.getElem?_eq_getElem (by k_extra "om")
            obtain ⟨n9, t9, e9, f9⟩ := hni.at 1 _ h1
            have f9' : (upto T.length)[1]? = some 1 := by
              unfold upto
              rw [List.getElem?_map, List.getElem?_range (by k_extra "om")]
              rfl
            rw [f9] at f9'
            obtain rfl := Option.some.inj f9'
            exact ⟨t9, by rw [← e9]; exact h1⟩
          have hm0 : matchB T (true, []) 0 ra0 = true := by
            show (ra0.kd.s == Str.ofString "root") = true
            rw [hka0]; decide
          have hm1 : matchB T (true, []) 1 ra1 = false := by
            show (ra1.kd.s == Str.ofString "root") = false
            rw [hka1]; decide
          clear N12 F7
          ((try k_extra "gq"); k_steps; (all_goals try k_extra "uq"))
          refine go_on (patnew_use (by k_asm) (by k_asm) (by k_asm) (by k_asm) (by k_asm) (by exact rfl) rfl (by exact Nat.le_of_ble_eq_true rfl) (by exact Nat.le_of_ble_eq_true rfl) ?_)
          intro pt pd oP h10 tk10 F10 N10 hoP hltP hlP
          obtain ⟨u0, u1, u2, rfl⟩ := hoP
          ((try k_extra "gq"); k_steps; (all_goals try k_extra "uq"))
          refine go_on (says_use (matches_ok (rooted := true) (rows := [])) (by k_asm) (by k_asm) (by k_asm) (by k_asm) (by k_asm) (by exact rfl) ⟨hT8.mono (fun q hq => .tail _ (.tail _ (.tail _ (.tail _ (.tail _ hq))))), hra0, hK8.mono (fun q hq => .tail _ (.tail _ (.tail _ (.tail _ (.tail _ hq))))), ⟨pd, _, [], 0, _, u0, u1, u2, _, .head _, .tail _ (.head _), .tail _ (.tail _ (.tail _ (.head _))), rfl, by decide, fun i p h => by simp at h⟩, W.fl, fun _ => rfl⟩ (by exact Nat.le_of_ble_eq_true rfl) (by exact Nat.le_of_ble_eq_true rfl) ?_)
          rintro r nn6 h6' tk6' F6' N6' ⟨rfl, rfl⟩
          rw [hm0]
          ((try k_extra "gq"); k_steps; (all_goals try k_extra "uq"))
          refine go_on (patnew_use (by k_asm) (by k_asm) (by k_asm) (by k_asm) (by k_asm) (by exact rfl) rfl (by exact Nat.le_of_ble_eq_true rfl) (by exact Nat.le_of_ble_eq_true rfl) ?_)
          intro pt2 pd2 oP2 h12 tk12 F12 N12' hoP2 hltP2 hlP2
          obtain ⟨u3, u4, u5, rfl⟩ := hoP2
          ((try k_extra "gq"); k_steps; (all_goals try k_extra "uq"))
          refine go_on (says_use (matches_ok (rooted := true) (rows := [])) (by k_asm) (by k_asm) (by k_asm) (by k_asm) (by k_asm) (by exact rfl) ⟨hT8.mono (fun q hq => .tail _ (.tail _ (.tail _ (.tail _ (.tail _ (.tail _ (.tail _ (.tail _ (.tail _ hq))))))))), hra1, hK8.mono (fun q hq => .tail _ (.tail _ (.tail _ (.tail _ (.tail _ (.tail _ (.tail _ (.tail _ (.tail _ hq))))))))), ⟨pd2, _, [], 0, _, u3, u4, u5, _, .head _, .tail _ (.head _), .tail _ (.tail _ (.tail _ (.head _))), rfl, by decide, fun i p h => by simp at h⟩, W.fl, fun _ => rfl⟩ (by exact Nat.le_of_ble_eq_true rfl) (by exact Nat.le_of_ble_eq_true rfl) ?_)
          rintro r nn7 h7' tk7' F7' N7' ⟨rfl, rfl⟩
          rw [hm1]
          ((try k_extra "gq"); k_steps; (all_goals try k_extra "uq")))
theorem hB.tw8595859666512654665 : True := trivial
theorem hB.tw17683042889873291018 : True := trivial
theorem hB.tw5451368369866250582 : True := trivial
theorem hB.tw630909537147027927 : True := trivial
theorem hB.tw3242749586197567821 : True := trivial
theorem hB.tw3648221798207815545 : True := trivial
theorem hB.tw17696372519464277092 : True := trivial
theorem hB.tw16655670140974422176 : True := trivial
theorem hB.tw17346804337911340601 : True := trivial
theorem hB.tw5814186610414335863 : True := trivial
theorem hB.tw11965533031422494702 : True := trivial
theorem hB.tw6154739314169324079 : True := trivial
theorem hB.tw17454075087226604071 : True := trivial
theorem hB.tw13660071734282566099 : True := trivial
theorem hB.tw10331303361789928458 : True := trivial
theorem hB.tw7686456433960052260 : True := trivial
theorem hB.tw16764302394627835250 : True := trivial
theorem hB.tw6412145090700000411 : True := trivial
theorem hB.tw3353596191432808321 : True := trivial
theorem hB.tw17729825494593619733 : True := trivial
theorem hB.tw2581451024738445520 : True := trivial
theorem hB.tw11604291520445749966 : True := trivial
theorem hB.tw11244955660803334214 : True := trivial
theorem hB.tw17511581938887526960 : True := trivial
theorem hB.tw18357335972624099676 : True := trivial
theorem hB.tw5094301720427885746 : True := trivial
theorem hB.tw2331362249277174411 : True := trivial
theorem hB.tw12178357995228325305 : True := trivial
theorem hB.tw17253303767765263249 : True := trivial
theorem hB.tw14158082284398562381 : True := trivial
theorem hB.tw5374878523597933379 : True := trivial
theorem hB.tw4763085794374503229 : True := trivial
theorem hB.tw5311036207874407435 : True := trivial
theorem hB.tw16232976471457597976 : True := trivial
theorem hB.tw1493248340382506478 : True := trivial
theorem hB.tw1606926958943477045 : True := trivial
theorem hB.tw1055852315342362046 : True := trivial
theorem hB.tw15969973123766161323 : True := trivial
theorem hB.tw11025764364491462321 : True := trivial
theorem hB.tw12813280137693216628 : True := trivial
theorem hB.tw6104393634491131758 : True := trivial
theorem hB.tw7459387558516437485 : True := trivial
theorem hB.tw4865344208659571577 : True := trivial
theorem hB.tw16214043111278104055 : True := trivial
theorem hB.tw11463282602898175806 : True := trivial
theorem hB.tw12059719128303110638 : True := trivial
theorem hB.tw14595656387070143697 : True := trivial
theorem hB.tw16083641736096983459 : True := trivial
theorem hB.tw11151342670342764277 : True := trivial
theorem hB.tw13234084798659553491 : True := trivial
theorem hB.tw6519648374747517223 : True := trivial
theorem hB.tw14735985815050964008 : True := trivial
theorem hB.tw2566263521525332832 : True := trivial
theorem hB.tw9575804372748568723 : True := trivial
theorem hB.tw15951361886300780305 : True := trivial
theorem hB.tw14205377163399387001 : True := trivial
theorem hB.tw14219621104899895062 : True := trivial
theorem hB.tw5917465291433883416 : True := trivial
theorem hB.tw16998332682305557682 : True := trivial
theorem hB.tw8080281297697915656 : True := trivial
theorem hB.tw14548234282044866465 : True := trivial
theorem hB.tw12048184892494933810 : True := trivial
theorem hB.tw2731264992058053446 : True := trivial
theorem hB.tw2303377796345244479 : True := trivial
theorem hB.tw13825529013353489344 : True := trivial
theorem hB.tw13937909242282970293 : True := trivial
theorem hB.tw2167441782091351453 : True := trivial
theorem hB.tw8824867058401666271 : True := trivial
theorem hB.tw2175134535603173273 : True := trivial
theorem hB.tw2443968636350683183 : True := trivial
theorem hB.tw4187705990198804521 : True := trivial
theorem hB.tw2068415202767300718 : True := trivial
theorem hB.tw3855633912387805301 : True := trivial
theorem hB.tw15200534144636086848 : True := trivial
theorem hB.tw1929609929564983831 : True := trivial
theorem hB.tw1775058610552957577 : True := trivial
theorem hB.tw3779417925479808108 : True := trivial
theorem hB.tw13219981375850786019 : True := trivial
theorem hB.tw6933109114518443023 : True := trivial
theorem hB.tw9399533301405547772 : True := trivial
theorem hB.tw15758296122730774267 : True := trivial
theorem hB.tw5872777824395097060 : True := trivial
theorem hB.tw15388388206102944604 : True := trivial
theorem hB.tw18090597883747545003 : True := trivial
theorem hB.tw16893098561686831325 : True := trivial
theorem hB.tw10431184423719929407 : True := trivial
theorem hB.tw3236470840126961621 : True := trivial
theorem hB.tw8536769605554623646 : True := trivial
theorem hB.tw4783075274005063434 : True := trivial
theorem hB.tw10136588864010086705 : True := trivial
theorem hB.tw9015663148055929220 : True := trivial
theorem hB.tw4317205549245146193 : True := trivial
theorem hB.tw13973195372132210155 : True := trivial
theorem hB.tw10787971820622687643 : True := trivial
theorem hB.tw10003610153026591014 : True := trivial
theorem hB.tw17877436822560026037 : True := trivial
theorem hB.tw50977579001687488 : True := trivial
theorem hB.tw12624943717765950870 : True := trivial
theorem hB.tw8804221740752676995 : True := trivial
theorem hB.tw14728063754060683830 : True := trivial
theorem hB.tw6896978417913929517 : True := trivial
theorem hB.tw1466547404197763830 : True := trivial
theorem hB.tw3590505937204560847 : True := trivial
theorem hB.tw11580071305647600494 : True := trivial
theorem hB.tw1281653525193881851 : True := trivial
theorem hB.tw1037800150315062469 : True := trivial
theorem hB.tw2684825146707848803 : True := trivial
theorem hB.tw15711394277668138498 : True := trivial
theorem hB.tw3502545803136047664 : True := trivial
theorem hB.tw12559502988079268071 : True := trivial
theorem hB.tw6780440574383454442 : True := trivial
theorem hB.tw15181547679158482312 : True := trivial
theorem hB.tw973622043755561983 : True := trivial
theorem hB.tw10378255278095961604 : True := trivial
theorem hB.tw17469852180318832655 : True := trivial
theorem hB.tw10757676616466803015 : True := trivial
theorem hB.tw2900100711790340966 : True := trivial
theorem hB.tw16109672490082560953 : True := trivial
theorem hB.tw10111788426890800951 : True := trivial
theorem hB.tw2796094272503587085 : True := trivial
theorem hB.tw11436776487140754153 : True := trivial
theorem hB.tw18098436983578258050 : True := trivial
theorem hB.tw12901761207040806269 : True := trivial
theorem hB.tw12385522400206065823 : True := trivial
theorem hB.tw15422869584184714596 : True := trivial
theorem hB.tw2060472669119780558 : True := trivial
theorem hB.tw14422066655269644324 : True := trivial
theorem hB.tw6775174435804024382 : True := trivial
theorem hB.tw13380294818282588889 : True := trivial
theorem hB.tw1491222867488831527 : True := trivial
theorem hB.tw11082356589044406944 : True := trivial
theorem hB.tw17201765233984054236 : True := trivial
theorem hB.tw4423568811135931972 : True := trivial
theorem hB.tw14330133114385913520 : True := trivial
theorem hB.tw5492101316717940032 : True := trivial
theorem hB.tw10936778683022162389 : True := trivial
theorem hB.tw550911966253962442 : True := trivial
theorem hB.tw15520175072321075564 : True := trivial
theorem hB.tw13844607502976280319 : True := trivial
theorem hB.tw1909243837364508246 : True := trivial
theorem hB.tw12875827310028547481 : True := trivial
theorem hB.tw5155702099134902001 : True := trivial
theorem hB.tw3711473994232042551 : True := trivial
theorem hB.tw10432825458945966356 : True := trivial
theorem hB.tw7127093596254382979 : True := trivial
theorem hB.tw1266678790971584960 : True := trivial
theorem hB.tw2602682929156083008 : True := trivial
theorem hB.tw5754224510855331228 : True := trivial
theorem hB.tw7261099583803987143 : True := trivial
theorem hB.tw2345719910727169374 : True := trivial
theorem hB.tw14797900122469020582 : True := trivial
theorem hB.tw10529518602153190188 : True := trivial
theorem hB.tw6294368809745336517 : True := trivial
theorem hB.tw17847296133710360279 : True := trivial
theorem hB.tw8345922222560050625 : True := trivial
theorem hB.tw3011834429898191885 : True := trivial
theorem hB.tw15639722665473467464 : True := trivial
theorem hB.tw906216513907760723 : True := trivial
theorem hB.tw2260540617914795600 : True := trivial
theorem hB.tw12865899989069546340 : True := trivial
theorem hB.tw6620578469914875796 : True := trivial
theorem hB.tw4624937727293436132 : True := trivial
theorem hB.tw2965559233129401762 : True := trivial
theorem hB.tw5700180709231999916 : True := trivial
theorem hB.tw13883106443167575538 : True := trivial
theorem hB.tw12517892474946224836 : True := trivial
theorem hB.tw4286880153515973668 : True := trivial
theorem hB.tw13265408516920974925 : True := trivial
theorem hB.tw9110285334101673153 : True := trivial
theorem hB.tw17153353954410640848 : True := trivial
theorem hB.tw15081518605860580135 : True := trivial
theorem hB.tw10429782029020828122 : True := trivial
theorem hB.tw4118360023357999770 : True := trivial
theorem hB.tw17015153586396923440 : True := trivial
theorem hB.tw8387873629807810387 : True := trivial
theorem hB.tw10721978941844604827 : True := trivial
theorem hB.tw10326693934268499120 : True := trivial
theorem hB.tw5215155656368032593 : True := trivial
theorem hB.tw716531610660109051 : True := trivial
theorem hB.tw3074801093962828010 : True := trivial
theorem hB.tw2324895504063986515 : True := trivial
theorem hB.tw16181159710711368172 : True := trivial
theorem hB.tw7952841261077513305 : True := trivial
theorem hB.tw10077019665123346404 : True := trivial
theorem hB.tw13788766320257230107 : True := trivial
theorem hB.tw4352844187775527159 : True := trivial
theorem hB.tw17167296989492105049 : True := trivial
theorem hB.tw3443361208022133614 : True := trivial
theorem hB.tw15765025029086331960 : True := trivial
theorem hB.tw9642880732407915053 : True := trivial
theorem hB.tw6235262616750271800 : True := trivial
theorem hB.tw17246515049383122646 : True := trivial
theorem hB.tw811317783113010165 : True := trivial
theorem hB.tw17933524053456439328 : True := trivial
theorem hB.tw3369694084605908108 : True := trivial
theorem hB.tw6704620445362244874 : True := trivial
theorem hB.tw5164565381870472992 : True := trivial
theorem hB.tw16766577675948460250 : True := trivial
theorem hB.tw3322815322680290377 : True := trivial
theorem hB.tw13586826437688227957 : True := trivial
theorem hB.tw6646885685605622494 : True := trivial
theorem hB.tw5287160547277954417 : True := trivial
theorem hB.tw952872127851796078 : True := trivial
theorem hB.tw13192582785167949696 : True := trivial
theorem hB.tw12647227512359499711 : True := trivial
theorem hB.tw5168839592499163611 : True := trivial
theorem hB.tw965588909435615949 : True := trivial
theorem hB.tw951570966489310024 : True := trivial
theorem hB.tw2136928535845867557 : True := trivial
theorem hB.tw8298031305315236495 : True := trivial
theorem hB.tw16185109195040012264 : True := trivial
theorem hB.tw7530149821347922862 : True := trivial
theorem hB.tw6707036862862609406 : True := trivial
theorem hB.tw6846454585817135305 : True := trivial
theorem hB.tw6039265334858694673 : True := trivial
theorem hB.tw12059105067140484205 : True := trivial
theorem hB.tw12440372146782292903 : True := trivial
theorem hB.tw6175629074582727442 : True := trivial
theorem hB.tw15266781098741509130 : True := trivial
theorem hB.tw14876349221557766313 : True := trivial
theorem hB.tw6065120853012998627 : True := trivial
theorem hB.tw2403453033609182861 : True := trivial
theorem hB.tw12309041750042719470 : True := trivial
theorem hB.tw16446400077688579883 : True := trivial
theorem hB.tw10644342237479648431 : True := trivial
theorem hB.tw7120466940351309889 : True := trivial
theorem hB.tw7844353519935282854 : True := trivial
theorem hB.tw4530168525896082103 : True := trivial
theorem hB.tw5614605349225833927 : True := trivial
theorem hB.tw9092353385092467971 : True := trivial
theorem hB.tw6259223240414273470 : True := trivial
theorem hB.tw9258464048478450239 : True := trivial
theorem hB.tw7247905096535514949 : True := trivial
theorem hB.tw4730479171030348656 : True := trivial
theorem hB.tw12950491970051856971 : True := trivial
theorem hB.tw5384149809561730989 : True := trivial
theorem hB.tw9027348157684860843 : True := trivial
theorem hB.tw7462367745611126704 : True := trivial
theorem hB.tw1563095117807281046 : True := trivial
theorem hB.tw7790881786166317322 : True := trivial
theorem hB.tw1254245931134198065 : True := trivial
theorem hB.tw3872863777827400884 : True := trivial
theorem hB.tw9070435734632528066 : True := trivial
theorem hB.tw7547215557175014299 : True := trivial
theorem hB.tw1578264743405490131 : True := trivial
theorem hB.tw16125000034128948021 : True := trivial
theorem hB.tw17384046897274222582 : True := trivial
theorem hB.tw14057582702980828077 : True := trivial
theorem hB.tw14727620049109850803 : True := trivial
theorem hB.tw769131364371196486 : True := trivial
theorem hB.tw9130273323948502326 : True := trivial
theorem hB.tw15461009587622419554 : True := trivial
theorem hB.tw4265721508917838563 : True := trivial
theorem hB.tw6410845970311052700 : True := trivial
theorem hB.tw2347230028445407883 : True := trivial
theorem hB.tw5604960250391481925 : True := trivial
theorem hB.tw5583191023217226019 : True := trivial
theorem hB.tw12045245649975582237 : True := trivial
theorem hB.tw434946861435799706 : True := trivial
theorem hB.tw6980915003815435602 : True := trivial
theorem hB.tw14181232112754746305 : True := trivial
theorem hB.tw15771209158574237593 : True := trivial
theorem hB.tw5920987814374844030 : True := trivial
theorem hB.tw10753765175081421318 : True := trivial
theorem hB.tw15118392337101669075 : True := trivial
theorem hB.tw15880193292258440401 : True := trivial
theorem hB.tw16359333086672035456 : True := trivial
theorem hB.tw8492883169842386784 : True := trivial
theorem hB.tw18032356331062716199 : True := trivial
theorem hB.tw2046438061406799981 : True := trivial
theorem hB.tw11906822192892950857 : True := trivial
theorem hB.tw18270316907190406749 : True := trivial
theorem hB.tw5233772966925429767 : True := trivial
theorem hB.tw203668366642809767 : True := trivial
theorem hB.tw17426650400546841044 : True := trivial
theorem hB.tw8273347057334349459 : True := trivial
theorem hB.tw14320651574391536579 : True := trivial
theorem hB.tw16113033612908418952 : True := trivial
theorem hB.tw13405456698104957627 : True := trivial
theorem hB.tw16201732509897314854 : True := trivial
theorem hB.tw16084267564625245039 : True := trivial
theorem hB.tw5921922285851181306 : True := trivial
theorem hB.tw13222345656786268866 : True := trivial
theorem hB.tw16196843309984365983 : True := trivial
theorem hB.tw4994927608893601444 : True := trivial
theorem hB.tw4134873469806350162 : True := trivial
theorem hB.tw17089965042228834894 : True := trivial
theorem hB.tw12259790756796833700 : True := trivial
theorem hB.tw10820519114300601419 : True := trivial
theorem hB.tw5748969455493488141 : True := trivial
theorem hB.tw16844578653265302530 : True := trivial
theorem hB.tw11175366218978434282 : True := trivial
theorem hB.tw3771170289369051272 : True := trivial
theorem hB.tw7594129304953628870 : True := trivial
theorem hB.tw17412240888355294996 : True := trivial
theorem hB.tw11631242822953709861 : True := trivial
theorem hB.tw1975165659467527323 : True := trivial
theorem hB.tw870320250039466545 : True := trivial
theorem hB.tw17158662581613624928 : True := trivial
theorem hB.tw16410732139709787017 : True := trivial
theorem hB.tw1901355521768552847 : True := trivial
theorem hB.tw4463382200794487029 : True := trivial
theorem hB.tw5623424772881226422 : True := trivial
theorem hB.tw15076849822974909701 : True := trivial
theorem hB.tw17382695584010969549 : True := trivial
theorem hB.tw321004059476461555 : True := trivial
theorem hB.tw13582915914130383203 : True := trivial
theorem hB.tw10051528782341893521 : True := trivial
theorem hB.tw3961711399551963946 : True := trivial
theorem hB.tw4628225254873329064 : True := trivial
theorem hB.tw11802279199162265069 : True := trivial
theorem hB.tw1746323652142819501 : True := trivial
theorem hB.tw217933532214146184 : True := trivial
theorem hB.tw9763025604498648157 : True := trivial
theorem hB.tw6556629836757509134 : True := trivial
theorem hB.tw12174830818444692475 : True := trivial
theorem hB.tw15148711516113275053 : True := trivial
theorem hB.tw3992516088090671681 : True := trivial
theorem hB.tw8235852343382423796 : True := trivial
theorem hB.tw15003035579540265495 : True := trivial
theorem hB.tw3259421592026294532 : True := trivial
theorem hB.tw1078563351362116873 : True := trivial
theorem hB.tw7751384831381295563 : True := trivial
theorem hB.tw4401183351673968730 : True := trivial
theorem hB.tw1948085538740206096 : True := trivial
theorem hB.tw1721632370039281576 : True := trivial
theorem hB.tw2909609875557722737 : True := trivial
theorem hB.tw2998135814283870919 : True := trivial
theorem hB.tw17866212625326965529 : True := trivial
theorem hB.tw595209391318727838 : True := trivial
theorem hB.tw15367881298994282636 : True := trivial
theorem hB.tw4704262356320059396 : True := trivial
theorem hB.tw2432691723501487926 : True := trivial
theorem hB.tw5250706311790482569 : True := trivial
theorem hB.tw11356801685168343812 : True := trivial
theorem hB.tw3536107913667523218 : True := trivial
theorem hB.tw914354142620027324 : True := trivial
theorem hB.tw5367472791128869316 : True := trivial
theorem hB.tw2973874149612356794 : True := trivial
theorem hB.tw17431034513081956030 : True := trivial
theorem hB.tw18382526312208690918 : True := trivial
theorem hB.tw1700601265462150319 : True := trivial
theorem hB.tw1318698538786612216 : True := trivial
theorem hB.tw11050412161304740544 : True := trivial
theorem hB.tw6302834955959863812 : True := trivial
theorem hB.tw9497429624837926868 : True := trivial
theorem hB.tw12114366986798681066 : True := trivial
theorem hB.tw15323080598916624038 : True := trivial
theorem hB.tw11463226743811644194 : True := trivial
theorem hB.tw16909717308510364415 : True := trivial
theorem hB.tw11162022756003098723 : True := trivial
theorem hB.tw13722914515860589991 : True := trivial
theorem hB.tw18135085311107334567 : True := trivial
theorem hB.tw11105993015914469661 : True := trivial
theorem hB.tw11302821385495512783 : True := trivial
theorem hB.tw8771657881080144966 : True := trivial
theorem hB.tw12412215523295257764 : True := trivial
theorem hB.tw9013093944154731102 : True := trivial
theorem hB.tw3916451971462575888 : True := trivial
theorem hB.tw11926104250501306705 : True := trivial
theorem hB.tw7450603540836753168 : True := trivial
theorem hB.tw15565104924191014550 : True := trivial
theorem hB.tw9875920538173200310 : True := trivial
theorem hB.tw10184696088822996979 : True := trivial
theorem hB.tw17414473427952488514 : True := trivial
theorem hB.tw8413891959658308887 : True := trivial
theorem hB.tw995830416684363939 : True := trivial
theorem hB.tw10081562548773811723 : True := trivial
theorem hB.tw6103228439943572330 : True := trivial
theorem hB.tw14403128627411911423 : True := trivial
theorem hB.tw7200672145514269403 : True := trivial
theorem hB.tw17777125502974200369 : True := trivial
theorem hB.tw17945067306868374759 : True := trivial
theorem hB.tw1870885868600611577 : True := trivial
theorem hB.tw4226672406201834937 : True := trivial
theorem hB.tw17667815353169588107 : True := trivial
theorem hB.tw9205139586986797146 : True := trivial
theorem hB.tw4180189269368997681 : True := trivial
theorem hB.tw175114575557414326 : True := trivial
theorem hB.tw1200915232857903438 : True := trivial
theorem hB.tw8349418337731000166 : True := trivial
theorem hB.tw3816827006458977517 : True := trivial
theorem hB.tw2724965791793230035 : True := trivial
theorem hB.tw12892467779299639977 : True := trivial
theorem hB.tw9416129536474589136 : True := trivial
theorem hB.tw18408415666444895990 : True := trivial
theorem hB.tw9857024290509553674 : True := trivial
theorem hB.tw5267616860972660112 : True := trivial
theorem hB.tw15194903529081510798 : True := trivial
theorem hB.tw215422469474376807 : True := trivial
theorem hB.tw16254268719808009025 : True := trivial
theorem hB.tw8489604262818080016 : True := trivial
theorem hB.tw7241185628196819173 : True := trivial
theorem hB.tw2920888075985556486 : True := trivial
theorem hB.tw5482964367234644049 : True := trivial
theorem hB.tw16310278396710968675 : True := trivial
theorem hB.tw1651470457407836913 : True := trivial
theorem hB.tw2477201118150847454 : True := trivial
theorem hB.tw44720722451740789 : True := trivial
theorem hB.tw2361531095773312675 : True := trivial
theorem hB.tw17715635709166476242 : True := trivial
theorem hB.tw13748875507220369266 : True := trivial
theorem hB.tw3182197983288503929 : True := trivial
theorem hB.tw10046858909403223184 : True := trivial
theorem hB.tw12466229414632773309 : True := trivial
theorem hB.tw17174092408094925439 : True := trivial
theorem hB.tw13959666886333621054 : True := trivial
theorem hB.tw8614614615251180181 : True := trivial
theorem hB.tw1225802130379738962 : True := trivial
theorem hB.tw4711919140881565103 : True := trivial
theorem hB.tw7340337645012398932 : True := trivial
theorem hB.tw7691601585229117129 : True := trivial
theorem hB.tw4685497968107071551 : True := trivial
theorem hB.tw8453100637375074781 : True := trivial
theorem hB.tw5300300258193520214 : True := trivial
theorem hB.tw18388482424595673419 : True := trivial
theorem hB.tw6655295042381533763 : True := trivial
theorem hB.tw9019712490345163482 : True := trivial
theorem hB.tw2687638781738593568 : True := trivial
theorem hB.tw10198247271576782037 : True := trivial
theorem hB.tw5353150805935364559 : True := trivial
theorem hB.tw12919906864302493084 : True := trivial
theorem hB.tw12150634716542685594 : True := trivial
theorem hB.tw11174736075173838455 : True := trivial
theorem hB.tw4586636782161850628 : True := trivial
theorem hB.tw12092183585700020937 : True := trivial
theorem hB.tw8256073371016737219 : True := trivial
theorem hB.tw2525388869837084357 : True := trivial
theorem hB.tw7948767723739688973 : True := trivial
theorem hB.tw4821441420808234231 : True := trivial
theorem hB.tw3009325733379036412 : True := trivial
theorem hB.tw11181333856708296906 : True := trivial
theorem hB.tw7557876275825648629 : True := trivial
theorem hB.tw511880210286633280 : True := trivial
theorem hB.tw5631485593026371292 : True := trivial
theorem hB.tw2985718048207611882 : True := trivial
theorem hB.tw3232928915865150394 : True := trivial
theorem hB.tw16583215926838842825 : True := trivial
theorem hB.tw2378158196853676986 : True := trivial
theorem hB.tw2263282272186430931 : True := trivial
theorem hB.tw6266291988985125961 : True := trivial
theorem hB.tw13587699261153556025 : True := trivial
theorem hB.tw16931499751595758211 : True := trivial
theorem hB.tw11632762620094813878 : True := trivial
theorem hB.tw11368929100119215049 : True := trivial
theorem hB.tw17982094265616581419 : True := trivial
theorem hB.tw2856792023796007644 : True := trivial
theorem hB.tw13791286641958482216 : True := trivial
theorem hB.tw10106528143530927369 : True := trivial
theorem hB.tw6226870902842738227 : True := trivial
theorem hB.tw11419989048140151752 : True := trivial
theorem hB.tw4362442208150949324 : True := trivial
theorem hB.tw17694484046630579151 : True := trivial
theorem hB.tw17921122530913962285 : True := trivial
theorem hB.tw13507281810398729602 : True := trivial
theorem hB.tw17740376559789300925 : True := trivial
theorem hB.tw8203448714182309748 : True := trivial
theorem hB.tw10034740619108518319 : True := trivial
theorem hB.tw14390595297627956295 : True := trivial
theorem hB.tw17614784785658580280 : True := trivial
theorem hB.tw18195977607876055672 : True := trivial
theorem hB.tw8146086268205641512 : True := trivial
theorem hB.tw12563986594246702493 : True := trivial
theorem hB.tw13951736455027792377 : True := trivial
theorem hB.tw11159462247194434692 : True := trivial
theorem hB.tw10472010270839252026 : True := trivial
theorem hB.tw11114053866188486831 : True := trivial
theorem hB.tw8554835057135893133 : True := trivial
theorem hB.tw8509845863244015132 : True := trivial
theorem hB.tw14569820748171163665 : True := trivial
theorem hB.tw14373294454373057214 : True := trivial
theorem hB.tw5995012873844366862 : True := trivial
theorem hB.tw1271795354098536502 : True := trivial
theorem hB.tw328516146364826474 : True := trivial
theorem hB.tw16776835230589129473 : True := trivial
theorem hB.tw6509932607587088247 : True := trivial
theorem hB.tw8901298440369383523 : True := trivial
theorem hB.tw13018431118183075211 : True := trivial
theorem hB.tw4393223923295313624 : True := trivial
theorem hB.tw2581920409402867043 : True := trivial
theorem hB.tw2894901877362384266 : True := trivial
theorem hB.tw9175819605127537390 : True := trivial
theorem hB.tw649811815227927611 : True := trivial
theorem hB.tw6814661333472267765 : True := trivial
theorem hB.tw3549066613224540069 : True := trivial
theorem hB.tw17071812809926012784 : True := trivial
theorem hB.tw13835391020339318716 : True := trivial
theorem hB.tw11273536148480359505 : True := trivial
theorem hB.tw7132737241938858020 : True := trivial
theorem hB.tw2412297033630689754 : True := trivial
theorem hB.tw8478217637162889357 : True := trivial
theorem hB.tw17887785053798945640 : True := trivial
theorem hB.tw6256043819758841999 : True := trivial
theorem hB.tw15394323785424746467 : True := trivial
theorem hB.tw1067040847408151281 : True := trivial
theorem hB.tw16207918124557404813 : True := trivial
theorem hB.tw2457935667048961237 : True := trivial
theorem hB.tw14165776878845942643 : True := trivial
theorem hB.tw13012561065273490222 : True := trivial
theorem hB.tw4387480941494401162 : True := trivial
theorem hB.tw12028438498511099271 : True := trivial
theorem hB.tw10351745255172967348 : True := trivial
theorem hB.tw15126043636455895041 : True := trivial
theorem hB.tw8773010004604843253 : True := trivial
theorem hB.tw7150616458744917639 : True := trivial
theorem hB.tw10343893312056795544 : True := trivial
theorem hB.tw8891115944198924243 : True := trivial
theorem hB.tw5680451354013490806 : True := trivial
theorem hB.tw18410059097797574782 : True := trivial
theorem hB.tw6465529621341921865 : True := trivial
theorem hB.tw8419367613211109055 : True := trivial
theorem hB.tw6634426527584748952 : True := trivial
theorem hB.tw6215926814178802141 : True := trivial
theorem hB.tw16510849151387823607 : True := trivial
theorem hB.tw14375234158275637992 : True := trivial
theorem hB.tw4288784973278700225 : True := trivial
theorem hB.tw6955483179225828060 : True := trivial
theorem hB.tw11990786778067978901 : True := trivial
theorem hB.tw833513557763184556 : True := trivial
theorem hB.tw6706289601341603287 : True := trivial
theorem hB.tw5448711362843097598 : True := trivial
theorem hB.tw14651309374595532656 : True := trivial
theorem hB.tw8778195814794363480 : True := trivial
theorem hB.tw8868852576682056728 : True := trivial
theorem hB.tw6332540251498847638 : True := trivial
theorem hB.tw10220913683561013949 : True := trivial
theorem hB.tw852496679918315057 : True := trivial
theorem hB.tw1207654326329370784 : True := trivial
theorem hB.tw7766230011432922412 : True := trivial
theorem hB.tw628186785811674545 : True := trivial
theorem hB.tw7252810913406382743 : True := trivial
theorem hB.tw313031266445113043 : True := trivial
theorem hB.tw18439927100418906433 : True := trivial
theorem hB.tw11533992338248565596 : True := trivial
theorem hB.tw6579763085155169141 : True := trivial
theorem hB.tw16531967205047856777 : True := trivial
theorem hB.tw12600728439525115283 : True := trivial
theorem hB.tw1694918340669015065 : True := trivial
theorem hB.tw14876062047391093239 : True := trivial
theorem hB.tw1599729555250213317 : True := trivial
theorem hB.tw17555191534074174434 : True := trivial
theorem hB.tw5986474400966915026 : True := trivial
theorem hB.tw5223472348968294316 : True := trivial
theorem hB.tw9336664118634499428 : True := trivial
theorem hB.tw10670837689105014970 : True := trivial
theorem hB.tw15007318892623074110 : True := trivial
theorem hB.tw6366398057854572585 : True := trivial
theorem hB.tw10011249567084171119 : True := trivial
theorem hB.tw10057083442855242921 : True := trivial
theorem hB.tw11947776442483601516 : True := trivial
theorem hB.tw10556575828413096096 : True := trivial
theorem hB.tw1127765620784985084 : True := trivial
theorem hB.tw256711036062546547 : True := trivial
theorem hB.tw14204929863278027858 : True := trivial
theorem hB.tw11885558615912174831 : True := trivial
theorem hB.tw5883336439243053694 : True := trivial
theorem hB.tw14995827284389347368 : True := trivial
theorem hB.tw16484791414682090407 : True := trivial
theorem hB.tw15236869832147253486 : True := trivial
theorem hB.tw1985531614209052193 : True := trivial
theorem hB.tw11751284199421938830 : True := trivial
theorem hB.tw9011153212114638957 : True := trivial
theorem hB.tw153277227528681866 : True := trivial
theorem hB.tw8729538703008222967 : True := trivial
theorem hB.tw15423502601290566844 : True := trivial
theorem hB.tw3197965166477776891 : True := trivial
theorem hB.tw3734664217266677540 : True := trivial
theorem hB.tw11720591593778800099 : True := trivial
theorem hB.tw16854872235312313356 : True := trivial
theorem hB.tw5616215873392924834 : True := trivial
theorem hB.tw6301256177493062909 : True := trivial
theorem hB.tw10647171729052888612 : True := trivial
theorem hB.tw3376854742344200971 : True := trivial
theorem hB.tw5576499842994877965 : True := trivial
theorem hB.tw4223348172665515962 : True := trivial
theorem hB.tw9041394275598482188 : True := trivial
theorem hB.tw14361565650081056414 : True := trivial
theorem hB.tw6258839611426163770 : True := trivial
theorem hB.tw10246589190422772127 : True := trivial
theorem hB.tw13546666648445359922 : True := trivial
theorem hB.tw7755841100201451746 : True := trivial
theorem hB.tw9899201189286137059 : True := trivial
theorem hB.tw10978937230951510104 : True := trivial
theorem hB.tw17795195773678341722 : True := trivial
theorem hB.tw17963675927143526817 : True := trivial
theorem hB.tw14501564146939030595 : True := trivial
theorem hB.tw4623630525979962158 : True := trivial
theorem hB.tw16804085974519178277 : True := trivial
theorem hB.tw10524867127327519626 : True := trivial
theorem hB.tw10028115898591911371 : True := trivial
theorem hB.tw9432222487109904481 : True := trivial
theorem hB.tw217929109359814099 : True := trivial
theorem hB.tw7760020333244144636 : True := trivial
theorem hB.tw13625632242417478435 : True := trivial
theorem hB.tw4486443470371669470 : True := trivial
theorem hB.tw7178044397673023046 : True := trivial
theorem hB.tw10222284625094504772 : True := trivial
theorem hB.tw15280171777273312131 : True := trivial
theorem hB.tw11862559385970157730 : True := trivial
theorem hB.tw16120889996583113409 : True := trivial
theorem hB.tw4724638574316582542 : True := trivial
theorem hB.tw14861312818918860990 : True := trivial
theorem hB.tw16179813759354746518 : True := trivial
theorem hB.tw4544538431196626640 : True := trivial
theorem hB.tw5553295347151838268 : True := trivial
theorem hB.tw9424223197926770371 : True := trivial
theorem hB.tw17346006686492912989 : True := trivial
theorem hB.tw6579945618710788131 : True := trivial
theorem hB.tw14161663562603028694 : True := trivial
theorem hB.tw9035948947155360285 : True := trivial
theorem hB.tw12342264810905896291 : True := trivial
theorem hB.tw14124947745134470803 : True := trivial
theorem hB.tw17448052337694107971 : True := trivial
theorem hB.tw15495116279042952424 : True := trivial
theorem hB.tw18085314265728069039 : True := trivial
theorem hB.tw2956386594180691681 : True := trivial
theorem hB.tw17718557171878726873 : True := trivial
theorem hB.tw17532776259678073118 : True := trivial
theorem hB.tw13275353883189502599 : True := trivial
theorem hB.tw13198797837601861648 : True := trivial
theorem hB.tw3398640577929064985 : True := trivial
theorem hB.tw5216673192809068332 : True := trivial
theorem hB.tw6725410693356149863 : True := trivial
theorem hB.tw8417448455920076289 : True := trivial
theorem hB.tw11521346068094584629 : True := trivial
theorem hB.tw6759635630048802726 : True := trivial
theorem hB.tw7906164164091187012 : True := trivial
theorem hB.tw241901471868300033 : True := trivial
theorem hB.tw15839638551985272946 : True := trivial
theorem hB.tw3728407356715410147 : True := trivial
theorem hB.tw2609344954500870063 : True := trivial
theorem hB.tw15873098634980967459 : True := trivial
theorem hB.tw9526738308874128463 : True := trivial
theorem hB.tw16719356875944817879 : True := trivial
theorem hB.tw17719146406138479798 : True := trivial
theorem hB.tw11182373974342769534 : True := trivial
theorem hB.tw3306812250555152115 : True := trivial
theorem hB.tw11472172783908042295 : True := trivial
theorem hB.tw3685780045884340508 : True := trivial
theorem hB.tw14909486624276157246 : True := trivial
theorem hB.tw15029732312622030373 : True := trivial
theorem hB.tw41401299381285437 : True := trivial
theorem hB.tw799426999324830310 : True := trivial
theorem hB.tw15260976765200301042 : True := trivial
theorem hB.tw3428148138100399977 : True := trivial
theorem hB.tw17790584435037588422 : True := trivial
theorem hB.tw16884293217395039128 : True := trivial
theorem hB.tw14788695571672641125 : True := trivial
theorem hB.tw15840298030895114891 : True := trivial
theorem hB.tw4018545266481550905 : True := trivial
theorem hB.tw13572823033734963618 : True := trivial
theorem hB.tw289562323176574078 : True := trivial
theorem hB.tw9113224854089988568 : True := trivial
theorem hB.tw7787853440881863568 : True := trivial
theorem hB.tw8522853743342630603 : True := trivial
theorem hB.tw12508426637165553090 : True := trivial
theorem hB.tw6623594892763358429 : True := trivial
theorem hB.tw13693408978847839849 : True := trivial
theorem hB.tw3450353849777041997 : True := trivial
theorem hB.tw15441431169017787734 : True := trivial
theorem hB.tw11774008175495932034 : True := trivial
theorem hB.tw9428583844393539397 : True := trivial
theorem hB.tw12235828531423296434 : True := trivial
theorem hB.tw5998610486674315297 : True := trivial
theorem hB.tw13442789087570839741 : True := trivial
theorem hB.tw10265288793468071391 : True := trivial
theorem hB.tw7860954841633946942 : True := trivial
theorem hB.tw14856623420895029474 : True := trivial
theorem hB.tw5757734193825022525 : True := trivial
theorem hB.tw3122539384841125234 : True := trivial
theorem hB.tw9964637367170735930 : True := trivial
theorem hB.tw13636965564844466891 : True := trivial
theorem hB.tw489524959077868841 : True := trivial
theorem hB.tw14741777366147254429 : True := trivial
theorem hB.tw13412358134989367910 : True := trivial
theorem hB.tw2584917972440908682 : True := trivial
theorem hB.tw16226893241469652271 : True := trivial
theorem hB.tw10336438122225982860 : True := trivial
theorem hB.tw14544155652520140321 : True := trivial
theorem hB.tw6563153113390963268 : True := trivial
theorem hB.tw1511840031769400072 : True := trivial
theorem hB.tw18011696272310333879 : True := trivial
theorem hB.tw1964396081029216199 : True := trivial
theorem hB.tw11541433549550613843 : True := trivial
theorem hB.tw15453252959033527479 : True := trivial
theorem hB.tw4931715934024929367 : True := trivial
theorem hB.tw6823241988834171684 : True := trivial
theorem hB.tw10014456823681190884 : True := trivial
theorem hB.tw354831192033310053 : True := trivial
theorem hB.tw16762846975842643437 : True := trivial
theorem hB.tw1665540319062474406 : True := trivial
theorem hB.tw1277486546271502621 : True := trivial
theorem hB.tw17803317103108081257 : True := trivial
theorem hB.tw1168850426501063331 : True := trivial
theorem hB.tw8998523966322643310 : True := trivial
theorem hB.tw10072307040897824306 : True := trivial
theorem hB.tw10952834363412867952 : True := trivial
theorem hB.tw8400853468530855573 : True := trivial
theorem hB.tw16464175191265530202 : True := trivial
theorem hB.tw17542805916244592571 : True := trivial
theorem hB.tw9727874054835731505 : True := trivial
theorem hB.tw2239205191641641054 : True := trivial
theorem hB.tw4307274689581049916 : True := trivial
theorem hB.tw6806377186982743291 : True := trivial
theorem hB.tw2229019442753750029 : True := trivial
theorem hB.tw3271839146328618554 : True := trivial
theorem hB.tw5116413250545167474 : True := trivial
theorem hB.tw17867817129661901030 : True := trivial
theorem hB.tw14814150049662843628 : True := trivial
theorem hB.tw11878669932545131774 : True := trivial
theorem hB.tw1407790202208505268 : True := trivial
theorem hB.tw6227400958520737435 : True := trivial
theorem hB.tw4150160721543054161 : True := trivial
theorem hB.tw2271722997526412444 : True := trivial
theorem hB.tw14500124626477344878 : True := trivial
theorem hB.tw12304993583343073867 : True := trivial
theorem hB.tw10559266126327197016 : True := trivial
theorem hB.tw2218109210918346601 : True := trivial
theorem hB.tw16870365162357908303 : True := trivial
theorem hB.tw10665954418901988721 : True := trivial
theorem hB.tw14401041109204177030 : True := trivial
theorem hB.tw4234974339574623875 : True := trivial
theorem hB.tw9003624337797678345 : True := trivial
theorem hB.tw6440205994246949299 : True := trivial
theorem hB.tw4547090006488178550 : True := trivial
theorem hB.tw11194289730050383493 : True := trivial
theorem hB.tw13930698053813383608 : True := trivial
theorem hB.tw1495387605548615898 : True := trivial
theorem hB.tw689536242159248134 : True := trivial
theorem hB.tw5592670120545228485 : True := trivial
theorem hB.tw14760914041927136462 : True := trivial
theorem hB.tw456134783180453505 : True := trivial
theorem hB.tw16212421173849354921 : True := trivial
theorem hB.tw2641045056849547107 : True := trivial
theorem hB.tw5883619174806679217 : True := trivial
theorem hB.tw2039342934299647243 : True := trivial
theorem hB.tw9945171890289314537 : True := trivial
theorem hB.tw9272282898474908205 : True := trivial
theorem hB.tw8702144267513968117 : True := trivial
theorem hB.tw17624073854935925647 : True := trivial
set_option Elab.async true in
theorem hB : PySem.Challenge.rw_nu0072_01.Holds := by
  (w_on; o_law; o_head (kHook K39 A39 (fun _ => by kernel_rfl)); (case hw => w_witness2); exact walk)
end Mine
theorem PySem.Challenge.cw_nu0072_01_holds : PySem.Challenge.rw_nu0072_01.Holds :=
  Mine.hB
