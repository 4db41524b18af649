import PyProof.Rows.All
import Wide.All
import OpenK.AllK
import Wide.FinOn
import PySem.Challenge.RW_pq0179_01
open PySem PySem.W PyProof.Rows
set_option Elab.async false
set_option maxRecDepth 100000
set_option maxHeartbeats 8000000

section
open PySem PySem.W PyProof.Rows
set_option maxRecDepth 100000
set_option maxHeartbeats 8000000
namespace Mine
set_option linter.unusedVariables false
/-- the part of the heap behind the top that the walk reads; the parts of the defs come out of the program by unification -/
@[irreducible] noncomputable def hd.heap_39 : Params → Frag :=
  (fun {x1 : Stmt} {x2 : Stmt} {x3 : Stmt} {x4 : Str} {vp3m0 : Arguments} {vb3m0 : List Stmt} {x5 : List PySem.Expr} {x6 : Option PySem.Expr} {x7 : List TypeParam} {vc3m0 : Scope} {x8 : Option Scope} {x9 : Str} {x10 : Pos} {x11 : Str} {x12 : List PySem.Expr} {x13 : List Keyword} {x15 : List PySem.Expr} {x16 : List TypeParam} {x17 : Scope} {x18 : Option Scope} {x19 : Str} {x20 : List Str} {x21 : Pos} {x22 : Str} {vp4 : Arguments} {vb4 : List Stmt} {x23 : List PySem.Expr} {x24 : Option PySem.Expr} {x25 : List TypeParam} {vc4 : Scope} {x26 : Option Scope} {x27 : Str} {x28 : Pos} {x29 : Str} {vp5 : Arguments} {vb5 : List Stmt} {x30 : List PySem.Expr} {x31 : Option PySem.Expr} {x32 : List TypeParam} {vc5 : Scope} {x33 : Option Scope} {x34 : Str} {x35 : Pos} {x36 : Str} {vp6 : Arguments} {vb6 : List Stmt} {x37 : List PySem.Expr} {x38 : Option PySem.Expr} {x39 : List TypeParam} {vc6 : Scope} {x40 : Option Scope} {x41 : Str} {x42 : Pos} {x43 : Str} {vp7 : Arguments} {vb7 : List Stmt} {x44 : List PySem.Expr} {x45 : Option PySem.Expr} {x46 : List TypeParam} {vc7 : Scope} {x47 : Option Scope} {x48 : Str} {x49 : Pos} {x50 : Str} {vp8 : Arguments} {vb8 : List Stmt} {x51 : List PySem.Expr} {x52 : Option PySem.Expr} {x53 : List TypeParam} {vc8 : Scope} {x54 : Option Scope} {x55 : Str} {x56 : Pos} {x57 : Stmt} {x58 : Stmt} {x59 : Stmt} {x60 : Stmt} {x61 : Stmt} {x62 : Str} {vp14 : Arguments} {vb14 : List Stmt} {x63 : List PySem.Expr} {x64 : Option PySem.Expr} {x65 : List TypeParam} {vc14 : Scope} {x66 : Option Scope} {x67 : Str} {x68 : Pos} {x69 : Str} {vp15 : Arguments} {vb15 : List Stmt} {x70 : List PySem.Expr} {x71 : Option PySem.Expr} {x72 : List TypeParam} {vc15 : Scope} {x73 : Option Scope} {x74 : Str} {x75 : Pos} {x76 : Str} {vp16 : Arguments} {vb16 : List Stmt} {x77 : List PySem.Expr} {x78 : Option PySem.Expr} {x79 : List TypeParam} {vc16 : Scope} {x80 : Option Scope} {x81 : Str} {x82 : Pos} {x83 : Str} {vp17 : Arguments} {vb17 : List Stmt} {x84 : List PySem.Expr} {x85 : Option PySem.Expr} {x86 : List TypeParam} {vc17 : Scope} {x87 : Option Scope} {x88 : Str} {x89 : Pos} {x90 : Str} {vp18 : Arguments} {vb18 : List Stmt} {x91 : List PySem.Expr} {x92 : Option PySem.Expr} {x93 : List TypeParam} {vc18 : Scope} {x94 : Option Scope} {x95 : Str} {x96 : Pos} {x97 : Str} {vp19 : Arguments} {vb19 : List Stmt} {x98 : List PySem.Expr} {x99 : Option PySem.Expr} {x100 : List TypeParam} {vc19 : Scope} {x101 : Option Scope} {x102 : Str} {x103 : Pos} {x104 : Str} {vp20 : Arguments} {vb20 : List Stmt} {x105 : List PySem.Expr} {x106 : Option PySem.Expr} {x107 : List TypeParam} {vc20 : Scope} {x108 : Option Scope} {x109 : Str} {x110 : Pos} {x111 : Str} {vp21 : Arguments} {vb21 : List Stmt} {x112 : List PySem.Expr} {x113 : Option PySem.Expr} {x114 : List TypeParam} {vc21 : Scope} {x115 : Option Scope} {x116 : Str} {x117 : Pos} {x118 : Str} {vp22 : Arguments} {vb22 : List Stmt} {x119 : List PySem.Expr} {x120 : Option PySem.Expr} {x121 : List TypeParam} {vc22 : Scope} {x122 : Option Scope} {x123 : Str} {x124 : Pos} {x125 : Stmt} {x126 : Stmt} {x127 : Stmt} {x128 : Str} {vp26 : Arguments} {vb26 : List Stmt} {x129 : List PySem.Expr} {x130 : Option PySem.Expr} {x131 : List TypeParam} {vc26 : Scope} {x132 : Option Scope} {x133 : Str} {x134 : Pos} {x135 : Str} {vp27 : Arguments} {vb27 : List Stmt} {x136 : List PySem.Expr} {x137 : Option PySem.Expr} {x138 : List TypeParam} {vc27 : Scope} {x139 : Option Scope} {x140 : Str} {x141 : Pos} {x142 : Str} {vp28 : Arguments} {vb28 : List Stmt} {x143 : List PySem.Expr} {x144 : Option PySem.Expr} {x145 : List TypeParam} {vc28 : Scope} {x146 : Option Scope} {x147 : Str} {x148 : Pos} {x149 : Str} {vp29 : Arguments} {vb29 : List Stmt} {x150 : List PySem.Expr} {x151 : Option PySem.Expr} {x152 : List TypeParam} {vc29 : Scope} {x153 : Option Scope} {x154 : Str} {x155 : Pos} {x156 : Str} {vp30 : Arguments} {vb30 : List Stmt} {x157 : List PySem.Expr} {x158 : Option PySem.Expr} {x159 : List TypeParam} {vc30 : Scope} {x160 : Option Scope} {x161 : Str} {x162 : Pos} {x163 : Str} {vp31 : Arguments} {vb31 : List Stmt} {x164 : List PySem.Expr} {x165 : Option PySem.Expr} {x166 : List TypeParam} {vc31 : Scope} {x167 : Option Scope} {x168 : Str} {x169 : Pos} {x170 : Str} {vp32 : Arguments} {vb32 : List Stmt} {x171 : List PySem.Expr} {x172 : Option PySem.Expr} {x173 : List TypeParam} {vc32 : Scope} {x174 : Option Scope} {x175 : Str} {x176 : Pos} {x177 : Str} {vp33 : Arguments} {vb33 : List Stmt} {x178 : List PySem.Expr} {x179 : Option PySem.Expr} {x180 : List TypeParam} {vc33 : Scope} {x181 : Option Scope} {x182 : Str} {x183 : Pos} {x184 : Str} {vp34 : Arguments} {vb34 : List Stmt} {x185 : List PySem.Expr} {x186 : Option PySem.Expr} {x187 : List TypeParam} {vc34 : Scope} {x188 : Option Scope} {x189 : Str} {x190 : Pos} {x191 : Str} {vp35 : Arguments} {vb35 : List Stmt} {x192 : List PySem.Expr} {x193 : Option PySem.Expr} {x194 : List TypeParam} {vc35 : Scope} {x195 : Option Scope} {x196 : Str} {x197 : Pos} {x198 : Str} {vp36 : Arguments} {vb36 : List Stmt} {x199 : List PySem.Expr} {x200 : Option PySem.Expr} {x201 : List TypeParam} {vc36 : Scope} {x202 : Option Scope} {x203 : Str} {x204 : Pos} {x205 : Str} {vp37 : Arguments} {vb37 : List Stmt} {x206 : List PySem.Expr} {x207 : Option PySem.Expr} {x208 : List TypeParam} {vc37 : Scope} {x209 : Option Scope} {x210 : Str} {x211 : Pos} {x212 : Str} {vp38 : Arguments} {vb38 : List Stmt} {x213 : List PySem.Expr} {x214 : Option PySem.Expr} {x215 : List TypeParam} {vc38 : Scope} {x216 : Option Scope} {x217 : Str} {x218 : Pos} {x219 : Str} {vp39 : Arguments} {vb39 : List Stmt} {x220 : List PySem.Expr} {x221 : Option PySem.Expr} {x222 : List TypeParam} {vc39 : Scope} {x223 : Option Scope} {x224 : Str} {x225 : Pos} {x226 : Str} {vp40 : Arguments} {vb40 : List Stmt} {x227 : List PySem.Expr} {x228 : Option PySem.Expr} {x229 : List TypeParam} {vc40 : Scope} {x230 : Option Scope} {x231 : Str} {x232 : Pos} {x233 : Str} {vp41 : Arguments} {vb41 : List Stmt} {x234 : List PySem.Expr} {x235 : Option PySem.Expr} {x236 : List TypeParam} {vc41 : Scope} {x237 : Option Scope} {x238 : Str} {x239 : Pos} {x240 : Str} {vp42 : Arguments} {vb42 : List Stmt} {x241 : List PySem.Expr} {x242 : Option PySem.Expr} {x243 : List TypeParam} {vc42 : Scope} {x244 : Option Scope} {x245 : Str} {x246 : Pos} {x247 : Str} {vp43 : Arguments} {vb43 : List Stmt} {x248 : List PySem.Expr} {x249 : Option PySem.Expr} {x250 : List TypeParam} {vc43 : Scope} {x251 : Option Scope} {x252 : Str} {x253 : Pos} {x254 : Str} {vp44 : Arguments} {vb44 : List Stmt} {x255 : List PySem.Expr} {x256 : Option PySem.Expr} {x257 : List TypeParam} {vc44 : Scope} {x258 : Option Scope} {x259 : Str} {x260 : Pos} {x261 : Str} {vp45 : Arguments} {vb45 : List Stmt} {x262 : List PySem.Expr} {x263 : Option PySem.Expr} {x264 : List TypeParam} {vc45 : Scope} {x265 : Option Scope} {x266 : Str} {x267 : Pos} {x268 : Str} {vp46 : Arguments} {vb46 : List Stmt} {x269 : List PySem.Expr} {x270 : Option PySem.Expr} {x271 : List TypeParam} {vc46 : Scope} {x272 : Option Scope} {x273 : Str} {x274 : Pos} {x275 : Str} {vp47 : Arguments} {vb47 : List Stmt} {x276 : List PySem.Expr} {x277 : Option PySem.Expr} {x278 : List TypeParam} {vc47 : Scope} {x279 : Option Scope} {x280 : Str} {x281 : Pos} {x282 : Stmt} {x283 : Str} {vp49m0 : Arguments} {vb49m0 : List Stmt} {x284 : List PySem.Expr} {x285 : Option PySem.Expr} {x286 : List TypeParam} {vc49m0 : Scope} {x287 : Option Scope} {x288 : Str} {x289 : Pos} {x290 : Str} {x291 : List PySem.Expr} {x292 : List Keyword} {x294 : List PySem.Expr} {x295 : List TypeParam} {x296 : Scope} {x297 : Option Scope} {x298 : Str} {x299 : List Str} {x300 : Pos} {x301 : Stmt} {x302 : Str} {vp51 : Arguments} {vb51 : List Stmt} {x303 : List PySem.Expr} {x304 : Option PySem.Expr} {x305 : List TypeParam} {vc51 : Scope} {x306 : Option Scope} {x307 : Str} {x308 : Pos} {x309 : Str} {vp52 : Arguments} {vb52 : List Stmt} {x310 : List PySem.Expr} {x311 : Option PySem.Expr} {x312 : List TypeParam} {vc52 : Scope} {x313 : Option Scope} {x314 : Str} {x315 : Pos} {x316 : Str} {vp53 : Arguments} {vb53 : List Stmt} {x317 : List PySem.Expr} {x318 : Option PySem.Expr} {x319 : List TypeParam} {vc53 : Scope} {x320 : Option Scope} {x321 : Str} {x322 : Pos} {x323 : Str} {vp54 : Arguments} {vb54 : List Stmt} {x324 : List PySem.Expr} {x325 : Option PySem.Expr} {x326 : List TypeParam} {vc54 : Scope} {x327 : Option Scope} {x328 : Str} {x329 : Pos} {x330 : Str} {vp55 : Arguments} {vb55 : List Stmt} {x331 : List PySem.Expr} {x332 : Option PySem.Expr} {x333 : List TypeParam} {vc55 : Scope} {x334 : Option Scope} {x335 : Str} {x336 : Pos} {x337 : Str} {vp56 : Arguments} {vb56 : List Stmt} {x338 : List PySem.Expr} {x339 : Option PySem.Expr} {x340 : List TypeParam} {vc56 : Scope} {x341 : Option Scope} {x342 : Str} {x343 : Pos} {x344 : Str} {vp57 : Arguments} {vb57 : List Stmt} {x345 : List PySem.Expr} {x346 : Option PySem.Expr} {x347 : List TypeParam} {vc57 : Scope} {x348 : Option Scope} {x349 : Str} {x350 : Pos} {x351 : Str} {vp58 : Arguments} {vb58 : List Stmt} {x352 : List PySem.Expr} {x353 : Option PySem.Expr} {x354 : List TypeParam} {vc58 : Scope} {x355 : Option Scope} {x356 : Str} {x357 : Pos} (_ : PySem.Challenge.pw_pq0179_01.main.body = [x1, x2, x3, Stmt.ClassDef x11 x12 x13 [Stmt.FunctionDef x4 vp3m0 vb3m0 x5 x6 x7 vc3m0 x8 x9 x10] x15 x16 x17 x18 x19 x20 x21, Stmt.FunctionDef x22 vp4 vb4 x23 x24 x25 vc4 x26 x27 x28, Stmt.FunctionDef x29 vp5 vb5 x30 x31 x32 vc5 x33 x34 x35, Stmt.FunctionDef x36 vp6 vb6 x37 x38 x39 vc6 x40 x41 x42, Stmt.FunctionDef x43 vp7 vb7 x44 x45 x46 vc7 x47 x48 x49, Stmt.FunctionDef x50 vp8 vb8 x51 x52 x53 vc8 x54 x55 x56, x57, x58, x59, x60, x61, Stmt.FunctionDef x62 vp14 vb14 x63 x64 x65 vc14 x66 x67 x68, Stmt.FunctionDef x69 vp15 vb15 x70 x71 x72 vc15 x73 x74 x75, Stmt.FunctionDef x76 vp16 vb16 x77 x78 x79 vc16 x80 x81 x82, Stmt.FunctionDef x83 vp17 vb17 x84 x85 x86 vc17 x87 x88 x89, Stmt.FunctionDef x90 vp18 vb18 x91 x92 x93 vc18 x94 x95 x96, Stmt.FunctionDef x97 vp19 vb19 x98 x99 x100 vc19 x101 x102 x103, Stmt.FunctionDef x104 vp20 vb20 x105 x106 x107 vc20 x108 x109 x110, Stmt.FunctionDef x111 vp21 vb21 x112 x113 x114 vc21 x115 x116 x117, Stmt.FunctionDef x118 vp22 vb22 x119 x120 x121 vc22 x122 x123 x124, x125, x126, x127, Stmt.FunctionDef x128 vp26 vb26 x129 x130 x131 vc26 x132 x133 x134, Stmt.FunctionDef x135 vp27 vb27 x136 x137 x138 vc27 x139 x140 x141, Stmt.FunctionDef x142 vp28 vb28 x143 x144 x145 vc28 x146 x147 x148, Stmt.FunctionDef x149 vp29 vb29 x150 x151 x152 vc29 x153 x154 x155, Stmt.FunctionDef x156 vp30 vb30 x157 x158 x159 vc30 x160 x161 x162, Stmt.FunctionDef x163 vp31 vb31 x164 x165 x166 vc31 x167 x168 x169, Stmt.FunctionDef x170 vp32 vb32 x171 x172 x173 vc32 x174 x175 x176, Stmt.FunctionDef x177 vp33 vb33 x178 x179 x180 vc33 x181 x182 x183, Stmt.FunctionDef x184 vp34 vb34 x185 x186 x187 vc34 x188 x189 x190, Stmt.FunctionDef x191 vp35 vb35 x192 x193 x194 vc35 x195 x196 x197, Stmt.FunctionDef x198 vp36 vb36 x199 x200 x201 vc36 x202 x203 x204, Stmt.FunctionDef x205 vp37 vb37 x206 x207 x208 vc37 x209 x210 x211, Stmt.FunctionDef x212 vp38 vb38 x213 x214 x215 vc38 x216 x217 x218, Stmt.FunctionDef x219 vp39 vb39 x220 x221 x222 vc39 x223 x224 x225, Stmt.FunctionDef x226 vp40 vb40 x227 x228 x229 vc40 x230 x231 x232, Stmt.FunctionDef x233 vp41 vb41 x234 x235 x236 vc41 x237 x238 x239, Stmt.FunctionDef x240 vp42 vb42 x241 x242 x243 vc42 x244 x245 x246, Stmt.FunctionDef x247 vp43 vb43 x248 x249 x250 vc43 x251 x252 x253, Stmt.FunctionDef x254 vp44 vb44 x255 x256 x257 vc44 x258 x259 x260, Stmt.FunctionDef x261 vp45 vb45 x262 x263 x264 vc45 x265 x266 x267, Stmt.FunctionDef x268 vp46 vb46 x269 x270 x271 vc46 x272 x273 x274, Stmt.FunctionDef x275 vp47 vb47 x276 x277 x278 vc47 x279 x280 x281, x282, Stmt.ClassDef x290 x291 x292 [Stmt.FunctionDef x283 vp49m0 vb49m0 x284 x285 x286 vc49m0 x287 x288 x289] x294 x295 x296 x297 x298 x299 x300, x301, Stmt.FunctionDef x302 vp51 vb51 x303 x304 x305 vc51 x306 x307 x308, Stmt.FunctionDef x309 vp52 vb52 x310 x311 x312 vc52 x313 x314 x315, Stmt.FunctionDef x316 vp53 vb53 x317 x318 x319 vc53 x320 x321 x322, Stmt.FunctionDef x323 vp54 vb54 x324 x325 x326 vc54 x327 x328 x329, Stmt.FunctionDef x330 vp55 vb55 x331 x332 x333 vc55 x334 x335 x336, Stmt.FunctionDef x337 vp56 vb56 x338 x339 x340 vc56 x341 x342 x343, Stmt.FunctionDef x344 vp57 vb57 x345 x346 x347 vc57 x348 x349 x350, Stmt.FunctionDef x351 vp58 vb58 x352 x353 x354 vc58 x355 x356 x357]) => fun (P : Params) => ((nat_lit 2, { cls := Value.none, data := Data.dict #[{ hash := PyData.keyHash P (Str.ofString "type.__subclasses__.Exception.0"), key := Value.str (Str.ofString "type.__subclasses__.Exception.0") 223, val := Value.int 34 0 }, { hash := PyData.keyHash P (Str.ofString "type.__subclasses__.Exception.n"), key := Value.str (Str.ofString "type.__subclasses__.Exception.n") 224, val := Value.int 1 0 }] 2 })
:: (nat_lit 3, { cls := Value.type "dict", data := Data.dict #[{ hash := PyData.keyHash P (Str.ofString "__name__"), key := Value.str (Str.ofString "__name__") 165, val := Value.str (Str.ofString "law_pq0179_01") 638 }, { hash := PyData.keyHash P (Str.ofString "__doc__"), key := Value.str (Str.ofString "__doc__") 166, val := Value.none }, { hash := PyData.keyHash P (Str.ofString "__package__"), key := Value.str (Str.ofString "__package__") 167, val := Value.none }, { hash := PyData.keyHash P (Str.ofString "__loader__"), key := Value.str (Str.ofString "__loader__") 168, val := Value.builtin "__main__.__loader__#opaque" }, { hash := PyData.keyHash P (Str.ofString "__spec__"), key := Value.str (Str.ofString "__spec__") 169, val := Value.none }, { hash := PyData.keyHash P (Str.ofString "__annotations__"), key := Value.str (Str.ofString "__annotations__") 170, val := Value.ref 6 }, { hash := PyData.keyHash P (Str.ofString "__builtins__"), key := Value.str (Str.ofString "__builtins__") 171, val := Value.ref 4 }, { hash := PyData.keyHash P (Str.ofString "__file__"), key := Value.str (Str.ofString "__file__") 173, val := Value.str (Str.ofString "/claim/cut.py") 172 }, { hash := PyData.keyHash P (Str.ofString "__cached__"), key := Value.str (Str.ofString "__cached__") 174, val := Value.none }, { hash := PyData.keyHash P (Str.ofString "MOST_TEXT"), key := Value.str (Str.ofString "MOST_TEXT") 190, val := Value.int 255 189 }, { hash := PyData.keyHash P (Str.ofString "MOST_EXPONENT"), key := Value.str (Str.ofString "MOST_EXPONENT") 192, val := Value.int 99 191 }, { hash := PyData.keyHash P (Str.ofString "BasicError"), key := Value.str (Str.ofString "BasicError") 226, val := Value.ref 34 }, { hash := PyData.keyHash P (Str.ofString "figures_of"), key := Value.str (Str.ofString "figures_of") 235, val := Value.ref 44 }, { hash := PyData.keyHash P (Str.ofString "rounded_by"), key := Value.str (Str.ofString "rounded_by") 246, val := Value.ref 51 }, { hash := PyData.keyHash P (Str.ofString "made"), key := Value.str (Str.ofString "made") 258, val := Value.ref 58 }, { hash := PyData.keyHash P (Str.ofString "whole_near"), key := Value.str (Str.ofString "whole_near") 268, val := Value.ref 65 }, { hash := PyData.keyHash P (Str.ofString "text_of"), key := Value.str (Str.ofString "text_of") 275, val := Value.ref 72 }, { hash := PyData.keyHash P (Str.ofString "NOUGHT"), key := Value.str (Str.ofString "NOUGHT") 280, val := Value.ref 73 }, { hash := PyData.keyHash P (Str.ofString "MOST_FIGURES"), key := Value.str (Str.ofString "MOST_FIGURES") 282, val := Value.int 300 281 }, { hash := PyData.keyHash P (Str.ofString "MOST_POWER"), key := Value.str (Str.ofString "MOST_POWER") 284, val := Value.int 9999 283 }, { hash := PyData.keyHash P (Str.ofString "BLANKS_decimals"), key := Value.str (Str.ofString "BLANKS_decimals") 286, val := Value.str (Str.ofString " \t") 285 }, { hash := PyData.keyHash P (Str.ofString "figures_text"), key := Value.str (Str.ofString "figures_text") 294, val := Value.ref 80 }, { hash := PyData.keyHash P (Str.ofString "exponent_text"), key := Value.str (Str.ofString "exponent_text") 302, val := Value.ref 87 }, { hash := PyData.keyHash P (Str.ofString "size_text"), key := Value.str (Str.ofString "size_text") 314, val := Value.ref 94 }, { hash := PyData.keyHash P (Str.ofString "d_text"), key := Value.str (Str.ofString "d_text") 322, val := Value.ref 101 }, { hash := PyData.keyHash P (Str.ofString "whole_text"), key := Value.str (Str.ofString "whole_text") 329, val := Value.ref 108 }, { hash := PyData.keyHash P (Str.ofString "run_of_figures"), key := Value.str (Str.ofString "run_of_figures") 339, val := Value.ref 115 }, { hash := PyData.keyHash P (Str.ofString "exponent_at"), key := Value.str (Str.ofString "exponent_at") 352, val := Value.ref 122 }, { hash := PyData.keyHash P (Str.ofString "d_of_text"), key := Value.str (Str.ofString "d_of_text") 368, val := Value.ref 129 }, { hash := PyData.keyHash P (Str.ofString "told_decimal"), key := Value.str (Str.ofString "told_decimal") 378, val := Value.ref 136 }, { hash := PyData.keyHash P (Str.ofString "BLANKS_textfns"), key := Value.str (Str.ofString "BLANKS_textfns") 382, val := Value.str (Str.ofString " \t") 381 }, { hash := PyData.keyHash P (Str.ofString "DROPPED"), key := Value.str (Str.ofString "DROPPED") 384, val := Value.str (Str.ofString "\x0d\n\x0c\x1b\x7f\x00") 383 }, { hash := PyData.keyHash P (Str.ofString "size_told"), key := Value.str (Str.ofString "size_told") 392, val := Value.ref 143 }, { hash := PyData.keyHash P (Str.ofString "place_told"), key := Value.str (Str.ofString "place_told") 400, val := Value.ref 150 }, { hash := PyData.keyHash P (Str.ofString "number_text"), key := Value.str (Str.ofString "number_text") 408, val := Value.ref 157 }, { hash := PyData.keyHash P (Str.ofString "found_at"), key := Value.str (Str.ofString "found_at") 418, val := Value.ref 164 }, { hash := PyData.keyHash P (Str.ofString "from_left"), key := Value.str (Str.ofString "from_left") 427, val := Value.ref 171 }, { hash := PyData.keyHash P (Str.ofString "from_right"), key := Value.str (Str.ofString "from_right") 436, val := Value.ref 178 }, { hash := PyData.keyHash P (Str.ofString "great_sign"), key := Value.str (Str.ofString "great_sign") 443, val := Value.ref 185 }, { hash := PyData.keyHash P (Str.ofString "small_sign"), key := Value.str (Str.ofString "small_sign") 450, val := Value.ref 192 }, { hash := PyData.keyHash P (Str.ofString "edited_sign"), key := Value.str (Str.ofString "edited_sign") 458, val := Value.ref 199 }, { hash := PyData.keyHash P (Str.ofString "edited"), key := Value.str (Str.ofString "edited") 470, val := Value.ref 206 }, { hash := PyData.keyHash P (Str.ofString "led_by_table"), key := Value.str (Str.ofString "led_by_table") 480, val := Value.ref 213 }, { hash := PyData.keyHash P (Str.ofString "text_val"), key := Value.str (Str.ofString "text_val") 489, val := Value.ref 220 }, { hash := PyData.keyHash P (Str.ofString "text_left"), key := Value.str (Str.ofString "text_left") 498, val := Value.ref 227 }, { hash := PyData.keyHash P (Str.ofString "text_right"), key := Value.str (Str.ofString "text_right") 508, val := Value.ref 234 }, { hash := PyData.keyHash P (Str.ofString "text_mid"), key := Value.str (Str.ofString "text_mid") 519, val := Value.ref 241 }, { hash := PyData.keyHash P (Str.ofString "text_seg"), key := Value.str (Str.ofString "text_seg") 525, val := Value.ref 246 }, { hash := PyData.keyHash P (Str.ofString "text_str"), key := Value.str (Str.ofString "text_str") 533, val := Value.ref 253 }, { hash := PyData.keyHash P (Str.ofString "text_string"), key := Value.str (Str.ofString "text_string") 542, val := Value.ref 260 }, { hash := PyData.keyHash P (Str.ofString "text_ucase"), key := Value.str (Str.ofString "text_ucase") 548, val := Value.ref 265 }, { hash := PyData.keyHash P (Str.ofString "text_lcase"), key := Value.str (Str.ofString "text_lcase") 554, val := Value.ref 270 }, { hash := PyData.keyHash P (Str.ofString "text_ltrim"), key := Value.str (Str.ofString "text_ltrim") 562, val := Value.ref 277 }, { hash := PyData.keyHash P (Str.ofString "text_rtrim"), key := Value.str (Str.ofString "text_rtrim") 570, val := Value.ref 284 }, { hash := PyData.keyHash P (Str.ofString "World"), key := Value.str (Str.ofString "World") 637, val := Value.ref 302 }, { hash := PyData.keyHash P (Str.ofString "_law_draw"), key := Value.str (Str.ofString "_law_draw") 648, val := Value.ref 313 }, { hash := PyData.keyHash P (Str.ofString "_law_text"), key := Value.str (Str.ofString "_law_text") 654, val := Value.ref 318 }, { hash := PyData.keyHash P (Str.ofString "_law_cuts_agree"), key := Value.str (Str.ofString "_law_cuts_agree") 666, val := Value.ref 325 }, { hash := PyData.keyHash P (Str.ofString "_law_finds_agree"), key := Value.str (Str.ofString "_law_finds_agree") 678, val := Value.ref 332 }, { hash := PyData.keyHash P (Str.ofString "_law_flags_agree"), key := Value.str (Str.ofString "_law_flags_agree") 690, val := Value.ref 339 }, { hash := PyData.keyHash P (Str.ofString "_law_letters_agree"), key := Value.str (Str.ofString "_law_letters_agree") 700, val := Value.ref 346 }, { hash := PyData.keyHash P (Str.ofString "_law_rest_agrees"), key := Value.str (Str.ofString "_law_rest_agrees") 706, val := Value.ref 351 }, { hash := PyData.keyHash P (Str.ofString "law"), key := Value.str (Str.ofString "law") 712, val := Value.ref 356 }] 63 })
:: (nat_lit 15, { cls := Value.type "tuple", data := Data.seq #[Value.type "Exception"] })
:: (nat_lit 18, { cls := Value.type "cell", data := Data.cell (some (Value.ref 34)) })
:: (nat_lit 23, { cls := Value.type "tuple", data := Data.seq #[Value.str (Str.ofString "") 205] })
:: (nat_lit 24, { cls := Value.type "tuple", data := Data.seq #[Value.ref 18] })
:: (nat_lit 25, { cls := Value.type "tuple", data := Data.seq #[Value.str (Str.ofString "__class__") 209] })
:: (nat_lit 27, { cls := Value.type "tuple", data := Data.seq #[Value.str (Str.ofString "self") 210, Value.str (Str.ofString "code") 211, Value.str (Str.ofString "told") 212] })
:: (nat_lit 28, { cls := Value.type "tuple", data := Data.seq #[] })
:: (nat_lit 30, { cls := Value.type "code", data := Data.fields #[Value.str (Str.ofString "__init__") 206, Value.str (Str.ofString "BasicError.__init__") 207, Value.str (Str.ofString "/claim/cut.py") 208, Value.int 6 0, Value.int 3 0, Value.int 0 0, Value.int 0 0, Value.int 3 0, Value.ref 25, Value.bool true, Value.int 181 0, Value.ref 26, Value.none, Value.ref 27, Value.ref 28, Value.ref 29, Value.int 213 0, Value.int 6 0, Value.str (Str.ofString "/claim/cut.py") 214] })
:: (nat_lit 31, { cls := Value.type "function", data := Data.func { name := Str.ofString "__init__", qualname := Str.ofString "BasicError.__init__", params := vp3m0, body := FuncBody.stmts vb3m0, scope := vc3m0, globals := 3, closure := [(Str.ofString "__class__", 18)], defaults := Value.ref 23, kwdefaults := Value.none, pyModule := Value.str (Str.ofString "basicplus.values") 187, code := Value.ref 30, closureTuple := Value.ref 24 } })
:: (nat_lit 32, { cls := Value.type "tuple", data := Data.seq #[Value.str (Str.ofString "code") 216, Value.str (Str.ofString "told") 217] })
:: (nat_lit 33, { cls := Value.type "dict", data := Data.dict #[{ hash := PyData.keyHash P (Str.ofString "__module__"), key := Value.str (Str.ofString "__module__") 200, val := Value.str (Str.ofString "basicplus.values") 187 }, { hash := PyData.keyHash P (Str.ofString "__firstlineno__"), key := Value.str (Str.ofString "__firstlineno__") 204, val := Value.int 4 203 }, { hash := PyData.keyHash P (Str.ofString "__init__"), key := Value.str (Str.ofString "__init__") 215, val := Value.ref 31 }, { hash := PyData.keyHash P (Str.ofString "__static_attributes__"), key := Value.str (Str.ofString "__static_attributes__") 218, val := Value.ref 32 }, { hash := PyData.keyHash P (Str.ofString "__weakref__"), key := Value.str (Str.ofString "__weakref__") 221, val := Value.ref 35 }, { hash := PyData.keyHash P (Str.ofString "__doc__"), key := Value.str (Str.ofString "__doc__") 222, val := Value.none }] 4 })
:: (nat_lit 34, { cls := Value.type "type", data := Data.cls { name := Str.ofString "BasicError", bases := [Value.type "Exception"], mro := [Value.ref 34, Value.type "Exception", Value.type "BaseException", Value.type "object"], ns := 33, qualname := Str.ofString "BasicError" }, slots := #[some (Value.ref 15), none, some (Value.str (Str.ofString "BasicError") 193), some (Value.str (Str.ofString "BasicError") 201), some (Value.builtin "Exception.__new__"), some (Value.bool true)] })
:: (nat_lit 35, { cls := Value.type "getset_descriptor", data := Data.fields #[Value.str (Str.ofString "__weakref__") 220, Value.ref 34, Value.builtin "ExceptionGroup.__weakref__", Value.none] })
:: (nat_lit 38, { cls := Value.type "tuple", data := Data.seq #[] })
:: (nat_lit 40, { cls := Value.type "tuple", data := Data.seq #[Value.str (Str.ofString "number") 230, Value.str (Str.ofString "many") 231, Value.str (Str.ofString "bound") 232] })
:: (nat_lit 41, { cls := Value.type "tuple", data := Data.seq #[] })
:: (nat_lit 43, { cls := Value.type "code", data := Data.fields #[Value.str (Str.ofString "figures_of") 227, Value.str (Str.ofString "figures_of") 228, Value.str (Str.ofString "/claim/cut.py") 229, Value.int 10 0, Value.int 1 0, Value.int 0 0, Value.int 0 0, Value.int 3 0, Value.ref 38, Value.bool true, Value.int 181 0, Value.ref 39, Value.none, Value.ref 40, Value.ref 41, Value.ref 42, Value.int 233 0, Value.int 10 0, Value.str (Str.ofString "/claim/cut.py") 234] })
:: (nat_lit 44, { cls := Value.type "function", data := Data.func { name := Str.ofString "figures_of", qualname := Str.ofString "figures_of", params := vp4, body := FuncBody.stmts vb4, scope := vc4, globals := 3, closure := [], defaults := Value.none, kwdefaults := Value.none, pyModule := Value.str (Str.ofString "basicplus.values") 187, code := Value.ref 43 } })
:: (nat_lit 45, { cls := Value.type "tuple", data := Data.seq #[] })
:: (nat_lit 47, { cls := Value.type "tuple", data := Data.seq #[Value.str (Str.ofString "number") 239, Value.str (Str.ofString "places") 240, Value.str (Str.ofString "unit") 241, Value.str (Str.ofString "found") 242, Value.str (Str.ofString "rest") 243] })
:: (nat_lit 48, { cls := Value.type "tuple", data := Data.seq #[] })
:: (nat_lit 50, { cls := Value.type "code", data := Data.fields #[Value.str (Str.ofString "rounded_by") 236, Value.str (Str.ofString "rounded_by") 237, Value.str (Str.ofString "/claim/cut.py") 238, Value.int 16 0, Value.int 2 0, Value.int 0 0, Value.int 0 0, Value.int 3 0, Value.ref 45, Value.bool true, Value.int 181 0, Value.ref 46, Value.none, Value.ref 47, Value.ref 48, Value.ref 49, Value.int 244 0, Value.int 16 0, Value.str (Str.ofString "/claim/cut.py") 245] })
:: (nat_lit 51, { cls := Value.type "function", data := Data.func { name := Str.ofString "rounded_by", qualname := Str.ofString "rounded_by", params := vp5, body := FuncBody.stmts vb5, scope := vc5, globals := 3, closure := [], defaults := Value.none, kwdefaults := Value.none, pyModule := Value.str (Str.ofString "basicplus.values") 187, code := Value.ref 50 } })
:: (nat_lit 52, { cls := Value.type "tuple", data := Data.seq #[] })
:: (nat_lit 54, { cls := Value.type "tuple", data := Data.seq #[Value.str (Str.ofString "coefficient") 250, Value.str (Str.ofString "exponent") 251, Value.str (Str.ofString "digits") 252, Value.str (Str.ofString "size") 253, Value.str (Str.ofString "more") 254, Value.str (Str.ofString "first") 255] })
:: (nat_lit 55, { cls := Value.type "tuple", data := Data.seq #[] })
:: (nat_lit 57, { cls := Value.type "code", data := Data.fields #[Value.str (Str.ofString "made") 247, Value.str (Str.ofString "made") 248, Value.str (Str.ofString "/claim/cut.py") 249, Value.int 26 0, Value.int 3 0, Value.int 0 0, Value.int 0 0, Value.int 3 0, Value.ref 52, Value.bool true, Value.int 181 0, Value.ref 53, Value.none, Value.ref 54, Value.ref 55, Value.ref 56, Value.int 256 0, Value.int 26 0, Value.str (Str.ofString "/claim/cut.py") 257] })
:: (nat_lit 58, { cls := Value.type "function", data := Data.func { name := Str.ofString "made", qualname := Str.ofString "made", params := vp6, body := FuncBody.stmts vb6, scope := vc6, globals := 3, closure := [], defaults := Value.none, kwdefaults := Value.none, pyModule := Value.str (Str.ofString "basicplus.values") 187, code := Value.ref 57 } })
:: (nat_lit 59, { cls := Value.type "tuple", data := Data.seq #[] })
:: (nat_lit 61, { cls := Value.type "tuple", data := Data.seq #[Value.str (Str.ofString "value") 262, Value.str (Str.ofString "coefficient") 263, Value.str (Str.ofString "exponent") 264, Value.str (Str.ofString "size") 265] })
:: (nat_lit 62, { cls := Value.type "tuple", data := Data.seq #[] })
:: (nat_lit 64, { cls := Value.type "code", data := Data.fields #[Value.str (Str.ofString "whole_near") 259, Value.str (Str.ofString "whole_near") 260, Value.str (Str.ofString "/claim/cut.py") 261, Value.int 41 0, Value.int 1 0, Value.int 0 0, Value.int 0 0, Value.int 3 0, Value.ref 59, Value.bool true, Value.int 181 0, Value.ref 60, Value.none, Value.ref 61, Value.ref 62, Value.ref 63, Value.int 266 0, Value.int 41 0, Value.str (Str.ofString "/claim/cut.py") 267] })
:: (nat_lit 65, { cls := Value.type "function", data := Data.func { name := Str.ofString "whole_near", qualname := Str.ofString "whole_near", params := vp7, body := FuncBody.stmts vb7, scope := vc7, globals := 3, closure := [], defaults := Value.none, kwdefaults := Value.none, pyModule := Value.str (Str.ofString "basicplus.values") 187, code := Value.ref 64 } })
:: (nat_lit 66, { cls := Value.type "tuple", data := Data.seq #[] })
:: (nat_lit 68, { cls := Value.type "tuple", data := Data.seq #[Value.str (Str.ofString "value") 272] })
:: (nat_lit 69, { cls := Value.type "tuple", data := Data.seq #[] })
:: (nat_lit 71, { cls := Value.type "code", data := Data.fields #[Value.str (Str.ofString "text_of") 269, Value.str (Str.ofString "text_of") 270, Value.str (Str.ofString "/claim/cut.py") 271, Value.int 47 0, Value.int 1 0, Value.int 0 0, Value.int 0 0, Value.int 3 0, Value.ref 66, Value.bool true, Value.int 181 0, Value.ref 67, Value.none, Value.ref 68, Value.ref 69, Value.ref 70, Value.int 273 0, Value.int 47 0, Value.str (Str.ofString "/claim/cut.py") 274] })
:: (nat_lit 72, { cls := Value.type "function", data := Data.func { name := Str.ofString "text_of", qualname := Str.ofString "text_of", params := vp8, body := FuncBody.stmts vb8, scope := vc8, globals := 3, closure := [], defaults := Value.none, kwdefaults := Value.none, pyModule := Value.str (Str.ofString "basicplus.values") 187, code := Value.ref 71 } })
:: (nat_lit 73, { cls := Value.type "tuple", data := Data.seq #[Value.int 0 278, Value.int 0 279] })
:: (nat_lit 74, { cls := Value.type "tuple", data := Data.seq #[] })
:: (nat_lit 76, { cls := Value.type "tuple", data := Data.seq #[Value.str (Str.ofString "number") 290, Value.str (Str.ofString "found") 291] })
:: (nat_lit 77, { cls := Value.type "tuple", data := Data.seq #[] })
:: (nat_lit 79, { cls := Value.type "code", data := Data.fields #[Value.str (Str.ofString "figures_text") 287, Value.str (Str.ofString "figures_text") 288, Value.str (Str.ofString "/claim/cut.py") 289, Value.int 56 0, Value.int 1 0, Value.int 0 0, Value.int 0 0, Value.int 3 0, Value.ref 74, Value.bool true, Value.int 181 0, Value.ref 75, Value.none, Value.ref 76, Value.ref 77, Value.ref 78, Value.int 292 0, Value.int 56 0, Value.str (Str.ofString "/claim/cut.py") 293] })
:: (nat_lit 80, { cls := Value.type "function", data := Data.func { name := Str.ofString "figures_text", qualname := Str.ofString "figures_text", params := vp14, body := FuncBody.stmts vb14, scope := vc14, globals := 3, closure := [], defaults := Value.none, kwdefaults := Value.none, pyModule := Value.str (Str.ofString "basicplus.decimals") 276, code := Value.ref 79 } })
:: (nat_lit 81, { cls := Value.type "tuple", data := Data.seq #[] })
:: (nat_lit 83, { cls := Value.type "tuple", data := Data.seq #[Value.str (Str.ofString "exponent") 298, Value.str (Str.ofString "told") 299] })
:: (nat_lit 84, { cls := Value.type "tuple", data := Data.seq #[] })
:: (nat_lit 86, { cls := Value.type "code", data := Data.fields #[Value.str (Str.ofString "exponent_text") 295, Value.str (Str.ofString "exponent_text") 296, Value.str (Str.ofString "/claim/cut.py") 297, Value.int 62 0, Value.int 1 0, Value.int 0 0, Value.int 0 0, Value.int 3 0, Value.ref 81, Value.bool true, Value.int 181 0, Value.ref 82, Value.none, Value.ref 83, Value.ref 84, Value.ref 85, Value.int 300 0, Value.int 62 0, Value.str (Str.ofString "/claim/cut.py") 301] })
:: (nat_lit 87, { cls := Value.type "function", data := Data.func { name := Str.ofString "exponent_text", qualname := Str.ofString "exponent_text", params := vp15, body := FuncBody.stmts vb15, scope := vc15, globals := 3, closure := [], defaults := Value.none, kwdefaults := Value.none, pyModule := Value.str (Str.ofString "basicplus.decimals") 276, code := Value.ref 86 } })
:: (nat_lit 88, { cls := Value.type "tuple", data := Data.seq #[] })
:: (nat_lit 90, { cls := Value.type "tuple", data := Data.seq #[Value.str (Str.ofString "size") 306, Value.str (Str.ofString "exponent") 307, Value.str (Str.ofString "digits") 308, Value.str (Str.ofString "figures") 309, Value.str (Str.ofString "many") 310, Value.str (Str.ofString "top") 311] })
:: (nat_lit 91, { cls := Value.type "tuple", data := Data.seq #[] })
:: (nat_lit 93, { cls := Value.type "code", data := Data.fields #[Value.str (Str.ofString "size_text") 303, Value.str (Str.ofString "size_text") 304, Value.str (Str.ofString "/claim/cut.py") 305, Value.int 65 0, Value.int 3 0, Value.int 0 0, Value.int 0 0, Value.int 3 0, Value.ref 88, Value.bool true, Value.int 181 0, Value.ref 89, Value.none, Value.ref 90, Value.ref 91, Value.ref 92, Value.int 312 0, Value.int 65 0, Value.str (Str.ofString "/claim/cut.py") 313] })
:: (nat_lit 94, { cls := Value.type "function", data := Data.func { name := Str.ofString "size_text", qualname := Str.ofString "size_text", params := vp16, body := FuncBody.stmts vb16, scope := vc16, globals := 3, closure := [], defaults := Value.none, kwdefaults := Value.none, pyModule := Value.str (Str.ofString "basicplus.decimals") 276, code := Value.ref 93 } })
:: (nat_lit 95, { cls := Value.type "tuple", data := Data.seq #[] })
:: (nat_lit 97, { cls := Value.type "tuple", data := Data.seq #[Value.str (Str.ofString "a") 318, Value.str (Str.ofString "digits") 319] })
:: (nat_lit 98, { cls := Value.type "tuple", data := Data.seq #[] })
:: (nat_lit 100, { cls := Value.type "code", data := Data.fields #[Value.str (Str.ofString "d_text") 315, Value.str (Str.ofString "d_text") 316, Value.str (Str.ofString "/claim/cut.py") 317, Value.int 76 0, Value.int 2 0, Value.int 0 0, Value.int 0 0, Value.int 3 0, Value.ref 95, Value.bool true, Value.int 181 0, Value.ref 96, Value.none, Value.ref 97, Value.ref 98, Value.ref 99, Value.int 320 0, Value.int 76 0, Value.str (Str.ofString "/claim/cut.py") 321] })
:: (nat_lit 101, { cls := Value.type "function", data := Data.func { name := Str.ofString "d_text", qualname := Str.ofString "d_text", params := vp17, body := FuncBody.stmts vb17, scope := vc17, globals := 3, closure := [], defaults := Value.none, kwdefaults := Value.none, pyModule := Value.str (Str.ofString "basicplus.decimals") 276, code := Value.ref 100 } })
:: (nat_lit 102, { cls := Value.type "tuple", data := Data.seq #[] })
:: (nat_lit 104, { cls := Value.type "tuple", data := Data.seq #[Value.str (Str.ofString "number") 326] })
:: (nat_lit 105, { cls := Value.type "tuple", data := Data.seq #[] })
:: (nat_lit 107, { cls := Value.type "code", data := Data.fields #[Value.str (Str.ofString "whole_text") 323, Value.str (Str.ofString "whole_text") 324, Value.str (Str.ofString "/claim/cut.py") 325, Value.int 80 0, Value.int 1 0, Value.int 0 0, Value.int 0 0, Value.int 3 0, Value.ref 102, Value.bool true, Value.int 181 0, Value.ref 103, Value.none, Value.ref 104, Value.ref 105, Value.ref 106, Value.int 327 0, Value.int 80 0, Value.str (Str.ofString "/claim/cut.py") 328] })
:: (nat_lit 108, { cls := Value.type "function", data := Data.func { name := Str.ofString "whole_text", qualname := Str.ofString "whole_text", params := vp18, body := FuncBody.stmts vb18, scope := vc18, globals := 3, closure := [], defaults := Value.none, kwdefaults := Value.none, pyModule := Value.str (Str.ofString "basicplus.decimals") 276, code := Value.ref 107 } })
:: (nat_lit 109, { cls := Value.type "tuple", data := Data.seq #[] })
:: (nat_lit 111, { cls := Value.type "tuple", data := Data.seq #[Value.str (Str.ofString "text") 333, Value.str (Str.ofString "at") 334, Value.str (Str.ofString "found") 335, Value.str (Str.ofString "begin") 336] })
:: (nat_lit 112, { cls := Value.type "tuple", data := Data.seq #[] })
:: (nat_lit 114, { cls := Value.type "code", data := Data.fields #[Value.str (Str.ofString "run_of_figures") 330, Value.str (Str.ofString "run_of_figures") 331, Value.str (Str.ofString "/claim/cut.py") 332, Value.int 82 0, Value.int 2 0, Value.int 0 0, Value.int 0 0, Value.int 3 0, Value.ref 109, Value.bool true, Value.int 181 0, Value.ref 110, Value.none, Value.ref 111, Value.ref 112, Value.ref 113, Value.int 337 0, Value.int 82 0, Value.str (Str.ofString "/claim/cut.py") 338] })
:: (nat_lit 115, { cls := Value.type "function", data := Data.func { name := Str.ofString "run_of_figures", qualname := Str.ofString "run_of_figures", params := vp19, body := FuncBody.stmts vb19, scope := vc19, globals := 3, closure := [], defaults := Value.none, kwdefaults := Value.none, pyModule := Value.str (Str.ofString "basicplus.decimals") 276, code := Value.ref 114 } })
:: (nat_lit 116, { cls := Value.type "tuple", data := Data.seq #[] })
:: (nat_lit 118, { cls := Value.type "tuple", data := Data.seq #[Value.str (Str.ofString "text") 343, Value.str (Str.ofString "at") 344, Value.str (Str.ofString "begin") 345, Value.str (Str.ofString "sign") 346, Value.str (Str.ofString "found") 347, Value.str (Str.ofString "many") 348, Value.str (Str.ofString "end") 349] })
:: (nat_lit 119, { cls := Value.type "tuple", data := Data.seq #[] })
:: (nat_lit 121, { cls := Value.type "code", data := Data.fields #[Value.str (Str.ofString "exponent_at") 340, Value.str (Str.ofString "exponent_at") 341, Value.str (Str.ofString "/claim/cut.py") 342, Value.int 88 0, Value.int 2 0, Value.int 0 0, Value.int 0 0, Value.int 3 0, Value.ref 116, Value.bool true, Value.int 181 0, Value.ref 117, Value.none, Value.ref 118, Value.ref 119, Value.ref 120, Value.int 350 0, Value.int 88 0, Value.str (Str.ofString "/claim/cut.py") 351] })
:: (nat_lit 122, { cls := Value.type "function", data := Data.func { name := Str.ofString "exponent_at", qualname := Str.ofString "exponent_at", params := vp20, body := FuncBody.stmts vb20, scope := vc20, globals := 3, closure := [], defaults := Value.none, kwdefaults := Value.none, pyModule := Value.str (Str.ofString "basicplus.decimals") 276, code := Value.ref 121 } })
:: (nat_lit 123, { cls := Value.type "tuple", data := Data.seq #[] })
:: (nat_lit 125, { cls := Value.type "tuple", data := Data.seq #[Value.str (Str.ofString "text") 356, Value.str (Str.ofString "digits") 357, Value.str (Str.ofString "at") 358, Value.str (Str.ofString "is_below") 359, Value.str (Str.ofString "found") 360, Value.str (Str.ofString "ahead") 361, Value.str (Str.ofString "behind") 362, Value.str (Str.ofString "more") 363, Value.str (Str.ofString "end") 364, Value.str (Str.ofString "exponent") 365] })
:: (nat_lit 126, { cls := Value.type "tuple", data := Data.seq #[] })
:: (nat_lit 128, { cls := Value.type "code", data := Data.fields #[Value.str (Str.ofString "d_of_text") 353, Value.str (Str.ofString "d_of_text") 354, Value.str (Str.ofString "/claim/cut.py") 355, Value.int 99 0, Value.int 2 0, Value.int 0 0, Value.int 0 0, Value.int 3 0, Value.ref 123, Value.bool true, Value.int 181 0, Value.ref 124, Value.none, Value.ref 125, Value.ref 126, Value.ref 127, Value.int 366 0, Value.int 99 0, Value.str (Str.ofString "/claim/cut.py") 367] })
:: (nat_lit 129, { cls := Value.type "function", data := Data.func { name := Str.ofString "d_of_text", qualname := Str.ofString "d_of_text", params := vp21, body := FuncBody.stmts vb21, scope := vc21, globals := 3, closure := [], defaults := Value.none, kwdefaults := Value.none, pyModule := Value.str (Str.ofString "basicplus.decimals") 276, code := Value.ref 128 } })
:: (nat_lit 130, { cls := Value.type "tuple", data := Data.seq #[] })
:: (nat_lit 132, { cls := Value.type "tuple", data := Data.seq #[Value.str (Str.ofString "coefficient") 372, Value.str (Str.ofString "exponent") 373, Value.str (Str.ofString "digits") 374, Value.str (Str.ofString "top") 375] })
:: (nat_lit 133, { cls := Value.type "tuple", data := Data.seq #[] })
:: (nat_lit 135, { cls := Value.type "code", data := Data.fields #[Value.str (Str.ofString "told_decimal") 369, Value.str (Str.ofString "told_decimal") 370, Value.str (Str.ofString "/claim/cut.py") 371, Value.int 115 0, Value.int 3 0, Value.int 0 0, Value.int 0 0, Value.int 3 0, Value.ref 130, Value.bool true, Value.int 181 0, Value.ref 131, Value.none, Value.ref 132, Value.ref 133, Value.ref 134, Value.int 376 0, Value.int 115 0, Value.str (Str.ofString "/claim/cut.py") 377] })
:: (nat_lit 136, { cls := Value.type "function", data := Data.func { name := Str.ofString "told_decimal", qualname := Str.ofString "told_decimal", params := vp22, body := FuncBody.stmts vb22, scope := vc22, globals := 3, closure := [], defaults := Value.none, kwdefaults := Value.none, pyModule := Value.str (Str.ofString "basicplus.decimals") 276, code := Value.ref 135 } })
:: (nat_lit 137, { cls := Value.type "tuple", data := Data.seq #[] })
:: (nat_lit 139, { cls := Value.type "tuple", data := Data.seq #[Value.str (Str.ofString "value") 388, Value.str (Str.ofString "number") 389] })
:: (nat_lit 140, { cls := Value.type "tuple", data := Data.seq #[] })
:: (nat_lit 142, { cls := Value.type "code", data := Data.fields #[Value.str (Str.ofString "size_told") 385, Value.str (Str.ofString "size_told") 386, Value.str (Str.ofString "/claim/cut.py") 387, Value.int 125 0, Value.int 1 0, Value.int 0 0, Value.int 0 0, Value.int 3 0, Value.ref 137, Value.bool true, Value.int 181 0, Value.ref 138, Value.none, Value.ref 139, Value.ref 140, Value.ref 141, Value.int 390 0, Value.int 125 0, Value.str (Str.ofString "/claim/cut.py") 391] })
:: (nat_lit 143, { cls := Value.type "function", data := Data.func { name := Str.ofString "size_told", qualname := Str.ofString "size_told", params := vp26, body := FuncBody.stmts vb26, scope := vc26, globals := 3, closure := [], defaults := Value.none, kwdefaults := Value.none, pyModule := Value.str (Str.ofString "basicplus.textfns") 379, code := Value.ref 142 } })
:: (nat_lit 144, { cls := Value.type "tuple", data := Data.seq #[] })
:: (nat_lit 146, { cls := Value.type "tuple", data := Data.seq #[Value.str (Str.ofString "value") 396, Value.str (Str.ofString "number") 397] })
:: (nat_lit 147, { cls := Value.type "tuple", data := Data.seq #[] })
:: (nat_lit 149, { cls := Value.type "code", data := Data.fields #[Value.str (Str.ofString "place_told") 393, Value.str (Str.ofString "place_told") 394, Value.str (Str.ofString "/claim/cut.py") 395, Value.int 132 0, Value.int 1 0, Value.int 0 0, Value.int 0 0, Value.int 3 0, Value.ref 144, Value.bool true, Value.int 181 0, Value.ref 145, Value.none, Value.ref 146, Value.ref 147, Value.ref 148, Value.int 398 0, Value.int 132 0, Value.str (Str.ofString "/claim/cut.py") 399] })
:: (nat_lit 150, { cls := Value.type "function", data := Data.func { name := Str.ofString "place_told", qualname := Str.ofString "place_told", params := vp27, body := FuncBody.stmts vb27, scope := vc27, globals := 3, closure := [], defaults := Value.none, kwdefaults := Value.none, pyModule := Value.str (Str.ofString "basicplus.textfns") 379, code := Value.ref 149 } })
:: (nat_lit 151, { cls := Value.type "tuple", data := Data.seq #[] })
:: (nat_lit 153, { cls := Value.type "tuple", data := Data.seq #[Value.str (Str.ofString "value") 404, Value.str (Str.ofString "digits") 405] })
:: (nat_lit 154, { cls := Value.type "tuple", data := Data.seq #[] })
:: (nat_lit 156, { cls := Value.type "code", data := Data.fields #[Value.str (Str.ofString "number_text") 401, Value.str (Str.ofString "number_text") 402, Value.str (Str.ofString "/claim/cut.py") 403, Value.int 137 0, Value.int 2 0, Value.int 0 0, Value.int 0 0, Value.int 3 0, Value.ref 151, Value.bool true, Value.int 181 0, Value.ref 152, Value.none, Value.ref 153, Value.ref 154, Value.ref 155, Value.int 406 0, Value.int 137 0, Value.str (Str.ofString "/claim/cut.py") 407] })
:: (nat_lit 157, { cls := Value.type "function", data := Data.func { name := Str.ofString "number_text", qualname := Str.ofString "number_text", params := vp28, body := FuncBody.stmts vb28, scope := vc28, globals := 3, closure := [], defaults := Value.none, kwdefaults := Value.none, pyModule := Value.str (Str.ofString "basicplus.textfns") 379, code := Value.ref 156 } })
:: (nat_lit 158, { cls := Value.type "tuple", data := Data.seq #[] })
:: (nat_lit 160, { cls := Value.type "tuple", data := Data.seq #[Value.str (Str.ofString "text") 412, Value.str (Str.ofString "part") 413, Value.str (Str.ofString "begin") 414, Value.str (Str.ofString "at") 415] })
:: (nat_lit 161, { cls := Value.type "tuple", data := Data.seq #[] })
:: (nat_lit 163, { cls := Value.type "code", data := Data.fields #[Value.str (Str.ofString "found_at") 409, Value.str (Str.ofString "found_at") 410, Value.str (Str.ofString "/claim/cut.py") 411, Value.int 139 0, Value.int 3 0, Value.int 0 0, Value.int 0 0, Value.int 3 0, Value.ref 158, Value.bool true, Value.int 181 0, Value.ref 159, Value.none, Value.ref 160, Value.ref 161, Value.ref 162, Value.int 416 0, Value.int 139 0, Value.str (Str.ofString "/claim/cut.py") 417] })
:: (nat_lit 164, { cls := Value.type "function", data := Data.func { name := Str.ofString "found_at", qualname := Str.ofString "found_at", params := vp29, body := FuncBody.stmts vb29, scope := vc29, globals := 3, closure := [], defaults := Value.none, kwdefaults := Value.none, pyModule := Value.str (Str.ofString "basicplus.textfns") 379, code := Value.ref 163 } })
:: (nat_lit 165, { cls := Value.type "tuple", data := Data.seq #[] })
:: (nat_lit 167, { cls := Value.type "tuple", data := Data.seq #[Value.str (Str.ofString "text") 422, Value.str (Str.ofString "signs") 423, Value.str (Str.ofString "at") 424] })
:: (nat_lit 168, { cls := Value.type "tuple", data := Data.seq #[] })
:: (nat_lit 170, { cls := Value.type "code", data := Data.fields #[Value.str (Str.ofString "from_left") 419, Value.str (Str.ofString "from_left") 420, Value.str (Str.ofString "/claim/cut.py") 421, Value.int 146 0, Value.int 2 0, Value.int 0 0, Value.int 0 0, Value.int 3 0, Value.ref 165, Value.bool true, Value.int 181 0, Value.ref 166, Value.none, Value.ref 167, Value.ref 168, Value.ref 169, Value.int 425 0, Value.int 146 0, Value.str (Str.ofString "/claim/cut.py") 426] })
:: (nat_lit 171, { cls := Value.type "function", data := Data.func { name := Str.ofString "from_left", qualname := Str.ofString "from_left", params := vp30, body := FuncBody.stmts vb30, scope := vc30, globals := 3, closure := [], defaults := Value.none, kwdefaults := Value.none, pyModule := Value.str (Str.ofString "basicplus.textfns") 379, code := Value.ref 170 } })
:: (nat_lit 172, { cls := Value.type "tuple", data := Data.seq #[] })
:: (nat_lit 174, { cls := Value.type "tuple", data := Data.seq #[Value.str (Str.ofString "text") 431, Value.str (Str.ofString "signs") 432, Value.str (Str.ofString "end") 433] })
:: (nat_lit 175, { cls := Value.type "tuple", data := Data.seq #[] })
:: (nat_lit 177, { cls := Value.type "code", data := Data.fields #[Value.str (Str.ofString "from_right") 428, Value.str (Str.ofString "from_right") 429, Value.str (Str.ofString "/claim/cut.py") 430, Value.int 151 0, Value.int 2 0, Value.int 0 0, Value.int 0 0, Value.int 3 0, Value.ref 172, Value.bool true, Value.int 181 0, Value.ref 173, Value.none, Value.ref 174, Value.ref 175, Value.ref 176, Value.int 434 0, Value.int 151 0, Value.str (Str.ofString "/claim/cut.py") 435] })
:: (nat_lit 178, { cls := Value.type "function", data := Data.func { name := Str.ofString "from_right", qualname := Str.ofString "from_right", params := vp31, body := FuncBody.stmts vb31, scope := vc31, globals := 3, closure := [], defaults := Value.none, kwdefaults := Value.none, pyModule := Value.str (Str.ofString "basicplus.textfns") 379, code := Value.ref 177 } })
:: (nat_lit 179, { cls := Value.type "tuple", data := Data.seq #[] })
:: (nat_lit 181, { cls := Value.type "tuple", data := Data.seq #[Value.str (Str.ofString "sign") 440] })
:: (nat_lit 182, { cls := Value.type "tuple", data := Data.seq #[] })
:: (nat_lit 184, { cls := Value.type "code", data := Data.fields #[Value.str (Str.ofString "great_sign") 437, Value.str (Str.ofString "great_sign") 438, Value.str (Str.ofString "/claim/cut.py") 439, Value.int 156 0, Value.int 1 0, Value.int 0 0, Value.int 0 0, Value.int 3 0, Value.ref 179, Value.bool true, Value.int 181 0, Value.ref 180, Value.none, Value.ref 181, Value.ref 182, Value.ref 183, Value.int 441 0, Value.int 156 0, Value.str (Str.ofString "/claim/cut.py") 442] })
:: (nat_lit 185, { cls := Value.type "function", data := Data.func { name := Str.ofString "great_sign", qualname := Str.ofString "great_sign", params := vp32, body := FuncBody.stmts vb32, scope := vc32, globals := 3, closure := [], defaults := Value.none, kwdefaults := Value.none, pyModule := Value.str (Str.ofString "basicplus.textfns") 379, code := Value.ref 184 } })
:: (nat_lit 186, { cls := Value.type "tuple", data := Data.seq #[] })
:: (nat_lit 188, { cls := Value.type "tuple", data := Data.seq #[Value.str (Str.ofString "sign") 447] })
:: (nat_lit 189, { cls := Value.type "tuple", data := Data.seq #[] })
:: (nat_lit 191, { cls := Value.type "code", data := Data.fields #[Value.str (Str.ofString "small_sign") 444, Value.str (Str.ofString "small_sign") 445, Value.str (Str.ofString "/claim/cut.py") 446, Value.int 158 0, Value.int 1 0, Value.int 0 0, Value.int 0 0, Value.int 3 0, Value.ref 186, Value.bool true, Value.int 181 0, Value.ref 187, Value.none, Value.ref 188, Value.ref 189, Value.ref 190, Value.int 448 0, Value.int 158 0, Value.str (Str.ofString "/claim/cut.py") 449] })
:: (nat_lit 192, { cls := Value.type "function", data := Data.func { name := Str.ofString "small_sign", qualname := Str.ofString "small_sign", params := vp33, body := FuncBody.stmts vb33, scope := vc33, globals := 3, closure := [], defaults := Value.none, kwdefaults := Value.none, pyModule := Value.str (Str.ofString "basicplus.textfns") 379, code := Value.ref 191 } })
:: (nat_lit 193, { cls := Value.type "tuple", data := Data.seq #[] })
:: (nat_lit 195, { cls := Value.type "tuple", data := Data.seq #[Value.str (Str.ofString "sign") 454, Value.str (Str.ofString "flags") 455] })
:: (nat_lit 196, { cls := Value.type "tuple", data := Data.seq #[] })
:: (nat_lit 198, { cls := Value.type "code", data := Data.fields #[Value.str (Str.ofString "edited_sign") 451, Value.str (Str.ofString "edited_sign") 452, Value.str (Str.ofString "/claim/cut.py") 453, Value.int 160 0, Value.int 2 0, Value.int 0 0, Value.int 0 0, Value.int 3 0, Value.ref 193, Value.bool true, Value.int 181 0, Value.ref 194, Value.none, Value.ref 195, Value.ref 196, Value.ref 197, Value.int 456 0, Value.int 160 0, Value.str (Str.ofString "/claim/cut.py") 457] })
:: (nat_lit 199, { cls := Value.type "function", data := Data.func { name := Str.ofString "edited_sign", qualname := Str.ofString "edited_sign", params := vp34, body := FuncBody.stmts vb34, scope := vc34, globals := 3, closure := [], defaults := Value.none, kwdefaults := Value.none, pyModule := Value.str (Str.ofString "basicplus.textfns") 379, code := Value.ref 198 } })
:: (nat_lit 200, { cls := Value.type "tuple", data := Data.seq #[] })
:: (nat_lit 202, { cls := Value.type "tuple", data := Data.seq #[Value.str (Str.ofString "text") 462, Value.str (Str.ofString "flags") 463, Value.str (Str.ofString "found") 464, Value.str (Str.ofString "quote") 465, Value.str (Str.ofString "sign") 466, Value.str (Str.ofString "told") 467] })
:: (nat_lit 203, { cls := Value.type "tuple", data := Data.seq #[] })
:: (nat_lit 205, { cls := Value.type "code", data := Data.fields #[Value.str (Str.ofString "edited") 459, Value.str (Str.ofString "edited") 460, Value.str (Str.ofString "/claim/cut.py") 461, Value.int 168 0, Value.int 2 0, Value.int 0 0, Value.int 0 0, Value.int 3 0, Value.ref 200, Value.bool true, Value.int 181 0, Value.ref 201, Value.none, Value.ref 202, Value.ref 203, Value.ref 204, Value.int 468 0, Value.int 168 0, Value.str (Str.ofString "/claim/cut.py") 469] })
:: (nat_lit 206, { cls := Value.type "function", data := Data.func { name := Str.ofString "edited", qualname := Str.ofString "edited", params := vp35, body := FuncBody.stmts vb35, scope := vc35, globals := 3, closure := [], defaults := Value.none, kwdefaults := Value.none, pyModule := Value.str (Str.ofString "basicplus.textfns") 379, code := Value.ref 205 } })
:: (nat_lit 207, { cls := Value.type "tuple", data := Data.seq #[] })
:: (nat_lit 209, { cls := Value.type "tuple", data := Data.seq #[Value.str (Str.ofString "text") 474, Value.str (Str.ofString "table") 475, Value.str (Str.ofString "found") 476, Value.str (Str.ofString "sign") 477] })
:: (nat_lit 210, { cls := Value.type "tuple", data := Data.seq #[] })
:: (nat_lit 212, { cls := Value.type "code", data := Data.fields #[Value.str (Str.ofString "led_by_table") 471, Value.str (Str.ofString "led_by_table") 472, Value.str (Str.ofString "/claim/cut.py") 473, Value.int 187 0, Value.int 2 0, Value.int 0 0, Value.int 0 0, Value.int 3 0, Value.ref 207, Value.bool true, Value.int 181 0, Value.ref 208, Value.none, Value.ref 209, Value.ref 210, Value.ref 211, Value.int 478 0, Value.int 187 0, Value.str (Str.ofString "/claim/cut.py") 479] })
:: (nat_lit 213, { cls := Value.type "function", data := Data.func { name := Str.ofString "led_by_table", qualname := Str.ofString "led_by_table", params := vp36, body := FuncBody.stmts vb36, scope := vc36, globals := 3, closure := [], defaults := Value.none, kwdefaults := Value.none, pyModule := Value.str (Str.ofString "basicplus.textfns") 379, code := Value.ref 212 } })
:: (nat_lit 214, { cls := Value.type "tuple", data := Data.seq #[] })
:: (nat_lit 216, { cls := Value.type "tuple", data := Data.seq #[Value.str (Str.ofString "world") 484, Value.str (Str.ofString "args") 485, Value.str (Str.ofString "found") 486] })
:: (nat_lit 217, { cls := Value.type "tuple", data := Data.seq #[] })
:: (nat_lit 219, { cls := Value.type "code", data := Data.fields #[Value.str (Str.ofString "text_val") 481, Value.str (Str.ofString "text_val") 482, Value.str (Str.ofString "/claim/cut.py") 483, Value.int 193 0, Value.int 2 0, Value.int 0 0, Value.int 0 0, Value.int 3 0, Value.ref 214, Value.bool true, Value.int 181 0, Value.ref 215, Value.none, Value.ref 216, Value.ref 217, Value.ref 218, Value.int 487 0, Value.int 193 0, Value.str (Str.ofString "/claim/cut.py") 488] })
:: (nat_lit 220, { cls := Value.type "function", data := Data.func { name := Str.ofString "text_val", qualname := Str.ofString "text_val", params := vp37, body := FuncBody.stmts vb37, scope := vc37, globals := 3, closure := [], defaults := Value.none, kwdefaults := Value.none, pyModule := Value.str (Str.ofString "basicplus.textfns") 379, code := Value.ref 219 } })
:: (nat_lit 221, { cls := Value.type "tuple", data := Data.seq #[] })
:: (nat_lit 223, { cls := Value.type "tuple", data := Data.seq #[Value.str (Str.ofString "world") 493, Value.str (Str.ofString "args") 494, Value.str (Str.ofString "text") 495] })
:: (nat_lit 224, { cls := Value.type "tuple", data := Data.seq #[] })
:: (nat_lit 226, { cls := Value.type "code", data := Data.fields #[Value.str (Str.ofString "text_left") 490, Value.str (Str.ofString "text_left") 491, Value.str (Str.ofString "/claim/cut.py") 492, Value.int 196 0, Value.int 2 0, Value.int 0 0, Value.int 0 0, Value.int 3 0, Value.ref 221, Value.bool true, Value.int 181 0, Value.ref 222, Value.none, Value.ref 223, Value.ref 224, Value.ref 225, Value.int 496 0, Value.int 196 0, Value.str (Str.ofString "/claim/cut.py") 497] })
:: (nat_lit 227, { cls := Value.type "function", data := Data.func { name := Str.ofString "text_left", qualname := Str.ofString "text_left", params := vp38, body := FuncBody.stmts vb38, scope := vc38, globals := 3, closure := [], defaults := Value.none, kwdefaults := Value.none, pyModule := Value.str (Str.ofString "basicplus.textfns") 379, code := Value.ref 226 } })
:: (nat_lit 228, { cls := Value.type "tuple", data := Data.seq #[] })
:: (nat_lit 230, { cls := Value.type "tuple", data := Data.seq #[Value.str (Str.ofString "world") 502, Value.str (Str.ofString "args") 503, Value.str (Str.ofString "text") 504, Value.str (Str.ofString "many") 505] })
:: (nat_lit 231, { cls := Value.type "tuple", data := Data.seq #[] })
:: (nat_lit 233, { cls := Value.type "code", data := Data.fields #[Value.str (Str.ofString "text_right") 499, Value.str (Str.ofString "text_right") 500, Value.str (Str.ofString "/claim/cut.py") 501, Value.int 199 0, Value.int 2 0, Value.int 0 0, Value.int 0 0, Value.int 3 0, Value.ref 228, Value.bool true, Value.int 181 0, Value.ref 229, Value.none, Value.ref 230, Value.ref 231, Value.ref 232, Value.int 506 0, Value.int 199 0, Value.str (Str.ofString "/claim/cut.py") 507] })
:: (nat_lit 234, { cls := Value.type "function", data := Data.func { name := Str.ofString "text_right", qualname := Str.ofString "text_right", params := vp39, body := FuncBody.stmts vb39, scope := vc39, globals := 3, closure := [], defaults := Value.none, kwdefaults := Value.none, pyModule := Value.str (Str.ofString "basicplus.textfns") 379, code := Value.ref 233 } })
:: (nat_lit 235, { cls := Value.type "tuple", data := Data.seq #[] })
:: (nat_lit 237, { cls := Value.type "tuple", data := Data.seq #[Value.str (Str.ofString "world") 512, Value.str (Str.ofString "args") 513, Value.str (Str.ofString "text") 514, Value.str (Str.ofString "begin") 515, Value.str (Str.ofString "many") 516] })
:: (nat_lit 238, { cls := Value.type "tuple", data := Data.seq #[] })
:: (nat_lit 240, { cls := Value.type "code", data := Data.fields #[Value.str (Str.ofString "text_mid") 509, Value.str (Str.ofString "text_mid") 510, Value.str (Str.ofString "/claim/cut.py") 511, Value.int 202 0, Value.int 2 0, Value.int 0 0, Value.int 0 0, Value.int 3 0, Value.ref 235, Value.bool true, Value.int 181 0, Value.ref 236, Value.none, Value.ref 237, Value.ref 238, Value.ref 239, Value.int 517 0, Value.int 202 0, Value.str (Str.ofString "/claim/cut.py") 518] })
:: (nat_lit 241, { cls := Value.type "function", data := Data.func { name := Str.ofString "text_mid", qualname := Str.ofString "text_mid", params := vp40, body := FuncBody.stmts vb40, scope := vc40, globals := 3, closure := [], defaults := Value.none, kwdefaults := Value.none, pyModule := Value.str (Str.ofString "basicplus.textfns") 379, code := Value.ref 240 } })
:: (nat_lit 242, { cls := Value.type "tuple", data := Data.seq #[] })
:: (nat_lit 245, { cls := Value.type "code", data := Data.fields #[Value.str (Str.ofString "text_seg") 520, Value.str (Str.ofString "text_seg") 521, Value.str (Str.ofString "/claim/cut.py") 522, Value.int 206 0, Value.int 2 0, Value.int 0 0, Value.int 0 0, Value.int 3 0, Value.ref 242, Value.bool true, Value.int 181 0, Value.ref 243, Value.none, Value.none, Value.none, Value.ref 244, Value.int 523 0, Value.int 206 0, Value.str (Str.ofString "/claim/cut.py") 524] })
:: (nat_lit 246, { cls := Value.type "function", data := Data.func { name := Str.ofString "text_seg", qualname := Str.ofString "text_seg", params := vp41, body := FuncBody.stmts vb41, scope := vc41, globals := 3, closure := [], defaults := Value.none, kwdefaults := Value.none, pyModule := Value.str (Str.ofString "basicplus.textfns") 379, code := Value.ref 245 } })
:: (nat_lit 247, { cls := Value.type "tuple", data := Data.seq #[] })
:: (nat_lit 249, { cls := Value.type "tuple", data := Data.seq #[Value.str (Str.ofString "world") 529, Value.str (Str.ofString "args") 530] })
:: (nat_lit 250, { cls := Value.type "tuple", data := Data.seq #[] })
:: (nat_lit 252, { cls := Value.type "code", data := Data.fields #[Value.str (Str.ofString "text_str") 526, Value.str (Str.ofString "text_str") 527, Value.str (Str.ofString "/claim/cut.py") 528, Value.int 213 0, Value.int 2 0, Value.int 0 0, Value.int 0 0, Value.int 3 0, Value.ref 247, Value.bool true, Value.int 181 0, Value.ref 248, Value.none, Value.ref 249, Value.ref 250, Value.ref 251, Value.int 531 0, Value.int 213 0, Value.str (Str.ofString "/claim/cut.py") 532] })
:: (nat_lit 253, { cls := Value.type "function", data := Data.func { name := Str.ofString "text_str", qualname := Str.ofString "text_str", params := vp42, body := FuncBody.stmts vb42, scope := vc42, globals := 3, closure := [], defaults := Value.none, kwdefaults := Value.none, pyModule := Value.str (Str.ofString "basicplus.textfns") 379, code := Value.ref 252 } })
:: (nat_lit 254, { cls := Value.type "tuple", data := Data.seq #[] })
:: (nat_lit 256, { cls := Value.type "tuple", data := Data.seq #[Value.str (Str.ofString "world") 537, Value.str (Str.ofString "args") 538, Value.str (Str.ofString "many") 539] })
:: (nat_lit 257, { cls := Value.type "tuple", data := Data.seq #[] })
:: (nat_lit 259, { cls := Value.type "code", data := Data.fields #[Value.str (Str.ofString "text_string") 534, Value.str (Str.ofString "text_string") 535, Value.str (Str.ofString "/claim/cut.py") 536, Value.int 217 0, Value.int 2 0, Value.int 0 0, Value.int 0 0, Value.int 3 0, Value.ref 254, Value.bool true, Value.int 181 0, Value.ref 255, Value.none, Value.ref 256, Value.ref 257, Value.ref 258, Value.int 540 0, Value.int 217 0, Value.str (Str.ofString "/claim/cut.py") 541] })
:: (nat_lit 260, { cls := Value.type "function", data := Data.func { name := Str.ofString "text_string", qualname := Str.ofString "text_string", params := vp43, body := FuncBody.stmts vb43, scope := vc43, globals := 3, closure := [], defaults := Value.none, kwdefaults := Value.none, pyModule := Value.str (Str.ofString "basicplus.textfns") 379, code := Value.ref 259 } })
:: (nat_lit 261, { cls := Value.type "tuple", data := Data.seq #[] })
:: (nat_lit 264, { cls := Value.type "code", data := Data.fields #[Value.str (Str.ofString "text_ucase") 543, Value.str (Str.ofString "text_ucase") 544, Value.str (Str.ofString "/claim/cut.py") 545, Value.int 224 0, Value.int 2 0, Value.int 0 0, Value.int 0 0, Value.int 3 0, Value.ref 261, Value.bool true, Value.int 181 0, Value.ref 262, Value.none, Value.none, Value.none, Value.ref 263, Value.int 546 0, Value.int 224 0, Value.str (Str.ofString "/claim/cut.py") 547] })
:: (nat_lit 265, { cls := Value.type "function", data := Data.func { name := Str.ofString "text_ucase", qualname := Str.ofString "text_ucase", params := vp44, body := FuncBody.stmts vb44, scope := vc44, globals := 3, closure := [], defaults := Value.none, kwdefaults := Value.none, pyModule := Value.str (Str.ofString "basicplus.textfns") 379, code := Value.ref 264 } })
:: (nat_lit 266, { cls := Value.type "tuple", data := Data.seq #[] })
:: (nat_lit 269, { cls := Value.type "code", data := Data.fields #[Value.str (Str.ofString "text_lcase") 549, Value.str (Str.ofString "text_lcase") 550, Value.str (Str.ofString "/claim/cut.py") 551, Value.int 226 0, Value.int 2 0, Value.int 0 0, Value.int 0 0, Value.int 3 0, Value.ref 266, Value.bool true, Value.int 181 0, Value.ref 267, Value.none, Value.none, Value.none, Value.ref 268, Value.int 552 0, Value.int 226 0, Value.str (Str.ofString "/claim/cut.py") 553] })
:: (nat_lit 270, { cls := Value.type "function", data := Data.func { name := Str.ofString "text_lcase", qualname := Str.ofString "text_lcase", params := vp45, body := FuncBody.stmts vb45, scope := vc45, globals := 3, closure := [], defaults := Value.none, kwdefaults := Value.none, pyModule := Value.str (Str.ofString "basicplus.textfns") 379, code := Value.ref 269 } })
:: (nat_lit 271, { cls := Value.type "tuple", data := Data.seq #[] })
:: (nat_lit 273, { cls := Value.type "tuple", data := Data.seq #[Value.str (Str.ofString "world") 558, Value.str (Str.ofString "args") 559] })
:: (nat_lit 274, { cls := Value.type "tuple", data := Data.seq #[] })
:: (nat_lit 276, { cls := Value.type "code", data := Data.fields #[Value.str (Str.ofString "text_ltrim") 555, Value.str (Str.ofString "text_ltrim") 556, Value.str (Str.ofString "/claim/cut.py") 557, Value.int 228 0, Value.int 2 0, Value.int 0 0, Value.int 0 0, Value.int 3 0, Value.ref 271, Value.bool true, Value.int 181 0, Value.ref 272, Value.none, Value.ref 273, Value.ref 274, Value.ref 275, Value.int 560 0, Value.int 228 0, Value.str (Str.ofString "/claim/cut.py") 561] })
:: (nat_lit 277, { cls := Value.type "function", data := Data.func { name := Str.ofString "text_ltrim", qualname := Str.ofString "text_ltrim", params := vp46, body := FuncBody.stmts vb46, scope := vc46, globals := 3, closure := [], defaults := Value.none, kwdefaults := Value.none, pyModule := Value.str (Str.ofString "basicplus.textfns") 379, code := Value.ref 276 } })
:: (nat_lit 278, { cls := Value.type "tuple", data := Data.seq #[] })
:: (nat_lit 280, { cls := Value.type "tuple", data := Data.seq #[Value.str (Str.ofString "world") 566, Value.str (Str.ofString "args") 567] })
:: (nat_lit 281, { cls := Value.type "tuple", data := Data.seq #[] })
:: (nat_lit 283, { cls := Value.type "code", data := Data.fields #[Value.str (Str.ofString "text_rtrim") 563, Value.str (Str.ofString "text_rtrim") 564, Value.str (Str.ofString "/claim/cut.py") 565, Value.int 230 0, Value.int 2 0, Value.int 0 0, Value.int 0 0, Value.int 3 0, Value.ref 278, Value.bool true, Value.int 181 0, Value.ref 279, Value.none, Value.ref 280, Value.ref 281, Value.ref 282, Value.int 568 0, Value.int 230 0, Value.str (Str.ofString "/claim/cut.py") 569] })
:: (nat_lit 284, { cls := Value.type "function", data := Data.func { name := Str.ofString "text_rtrim", qualname := Str.ofString "text_rtrim", params := vp47, body := FuncBody.stmts vb47, scope := vc47, globals := 3, closure := [], defaults := Value.none, kwdefaults := Value.none, pyModule := Value.str (Str.ofString "basicplus.textfns") 379, code := Value.ref 283 } })
:: (nat_lit 292, { cls := Value.type "tuple", data := Data.seq #[Value.int 16 585, Value.int 9 586, Value.int 2000 587, Value.int 20 588, Value.int 2000 589] })
:: (nat_lit 293, { cls := Value.type "tuple", data := Data.seq #[] })
:: (nat_lit 295, { cls := Value.type "tuple", data := Data.seq #[Value.str (Str.ofString "self") 593, Value.str (Str.ofString "bits") 594, Value.str (Str.ofString "digits") 595, Value.str (Str.ofString "most_steps") 596, Value.str (Str.ofString "most_depth") 597, Value.str (Str.ofString "room") 598] })
:: (nat_lit 296, { cls := Value.type "tuple", data := Data.seq #[] })
:: (nat_lit 298, { cls := Value.type "code", data := Data.fields #[Value.str (Str.ofString "__init__") 590, Value.str (Str.ofString "World.__init__") 591, Value.str (Str.ofString "/claim/cut.py") 592, Value.int 235 0, Value.int 6 0, Value.int 0 0, Value.int 0 0, Value.int 3 0, Value.ref 293, Value.bool true, Value.int 181 0, Value.ref 294, Value.none, Value.ref 295, Value.ref 296, Value.ref 297, Value.int 599 0, Value.int 235 0, Value.str (Str.ofString "/claim/cut.py") 600] })
:: (nat_lit 299, { cls := Value.type "function", data := Data.func { name := Str.ofString "__init__", qualname := Str.ofString "World.__init__", params := vp49m0, body := FuncBody.stmts vb49m0, scope := vc49m0, globals := 3, closure := [], defaults := Value.ref 292, kwdefaults := Value.none, pyModule := Value.str (Str.ofString "basicplus.world") 571, code := Value.ref 298 } })
:: (nat_lit 300, { cls := Value.type "tuple", data := Data.seq #[Value.str (Str.ofString "arrays") 602, Value.str (Str.ofString "base") 603, Value.str (Str.ofString "bits") 604, Value.str (Str.ofString "common") 605, Value.str (Str.ofString "data") 606, Value.str (Str.ofString "depth") 607, Value.str (Str.ofString "digits") 608, Value.str (Str.ofString "error_code") 609, Value.str (Str.ofString "error_line") 610, Value.str (Str.ofString "fields") 611, Value.str (Str.ofString "files") 612, Value.str (Str.ofString "fns") 613, Value.str (Str.ofString "handler") 614, Value.str (Str.ofString "inputs") 615, Value.str (Str.ofString "is_handling") 616, Value.str (Str.ofString "is_traced") 617, Value.str (Str.ofString "kinds") 618, Value.str (Str.ofString "most_depth") 619, Value.str (Str.ofString "most_steps") 620, Value.str (Str.ofString "names") 621, Value.str (Str.ofString "open") 622, Value.str (Str.ofString "out") 623, Value.str (Str.ofString "room") 624, Value.str (Str.ofString "row") 625, Value.str (Str.ofString "seed") 626, Value.str (Str.ofString "spot") 627, Value.str (Str.ofString "steps") 628, Value.str (Str.ofString "traces") 629] })
:: (nat_lit 301, { cls := Value.type "dict", data := Data.dict #[{ hash := PyData.keyHash P (Str.ofString "__module__"), key := Value.str (Str.ofString "__module__") 580, val := Value.str (Str.ofString "basicplus.world") 571 }, { hash := PyData.keyHash P (Str.ofString "__firstlineno__"), key := Value.str (Str.ofString "__firstlineno__") 584, val := Value.int 233 583 }, { hash := PyData.keyHash P (Str.ofString "__init__"), key := Value.str (Str.ofString "__init__") 601, val := Value.ref 299 }, { hash := PyData.keyHash P (Str.ofString "__static_attributes__"), key := Value.str (Str.ofString "__static_attributes__") 630, val := Value.ref 300 }, { hash := PyData.keyHash P (Str.ofString "__dict__"), key := Value.str (Str.ofString "__dict__") 632, val := Value.ref 303 }, { hash := PyData.keyHash P (Str.ofString "__weakref__"), key := Value.str (Str.ofString "__weakref__") 634, val := Value.ref 304 }, { hash := PyData.keyHash P (Str.ofString "__doc__"), key := Value.str (Str.ofString "__doc__") 635, val := Value.none }] 4 })
:: (nat_lit 302, { cls := Value.type "type", data := Data.cls { name := Str.ofString "World", bases := [Value.type "object"], mro := [Value.ref 302, Value.type "object"], ns := 301, qualname := Str.ofString "World" }, slots := #[none, none, some (Value.str (Str.ofString "World") 573), some (Value.str (Str.ofString "World") 581), some (Value.builtin "object.__new__"), some (Value.bool true)] })
:: (nat_lit 303, { cls := Value.type "getset_descriptor", data := Data.fields #[Value.str (Str.ofString "__dict__") 631, Value.ref 302, Value.builtin "function.__dict__", Value.builtin "function.__dict__#set"] })
:: (nat_lit 304, { cls := Value.type "getset_descriptor", data := Data.fields #[Value.str (Str.ofString "__weakref__") 633, Value.ref 302, Value.builtin "ExceptionGroup.__weakref__", Value.none] })
:: (nat_lit 307, { cls := Value.type "tuple", data := Data.seq #[] })
:: (nat_lit 309, { cls := Value.type "tuple", data := Data.seq #[Value.str (Str.ofString "jar") 643, Value.str (Str.ofString "many") 644, Value.str (Str.ofString "now") 645] })
:: (nat_lit 310, { cls := Value.type "tuple", data := Data.seq #[] })
:: (nat_lit 312, { cls := Value.type "code", data := Data.fields #[Value.str (Str.ofString "_law_draw") 640, Value.str (Str.ofString "_law_draw") 641, Value.str (Str.ofString "/claim/cut.py") 642, Value.int 265 0, Value.int 2 0, Value.int 0 0, Value.int 0 0, Value.int 3 0, Value.ref 307, Value.bool true, Value.int 181 0, Value.ref 308, Value.none, Value.ref 309, Value.ref 310, Value.ref 311, Value.int 646 0, Value.int 265 0, Value.str (Str.ofString "/claim/cut.py") 647] })
:: (nat_lit 313, { cls := Value.type "function", data := Data.func { name := Str.ofString "_law_draw", qualname := Str.ofString "_law_draw", params := vp51, body := FuncBody.stmts vb51, scope := vc51, globals := 3, closure := [], defaults := Value.none, kwdefaults := Value.none, pyModule := Value.str (Str.ofString "law_pq0179_01") 638, code := Value.ref 312 } })
:: (nat_lit 314, { cls := Value.type "tuple", data := Data.seq #[] })
:: (nat_lit 317, { cls := Value.type "code", data := Data.fields #[Value.str (Str.ofString "_law_text") 649, Value.str (Str.ofString "_law_text") 650, Value.str (Str.ofString "/claim/cut.py") 651, Value.int 271 0, Value.int 2 0, Value.int 0 0, Value.int 0 0, Value.int 3 0, Value.ref 314, Value.bool true, Value.int 181 0, Value.ref 315, Value.none, Value.none, Value.none, Value.ref 316, Value.int 652 0, Value.int 271 0, Value.str (Str.ofString "/claim/cut.py") 653] })
:: (nat_lit 318, { cls := Value.type "function", data := Data.func { name := Str.ofString "_law_text", qualname := Str.ofString "_law_text", params := vp52, body := FuncBody.stmts vb52, scope := vc52, globals := 3, closure := [], defaults := Value.none, kwdefaults := Value.none, pyModule := Value.str (Str.ofString "law_pq0179_01") 638, code := Value.ref 317 } })
:: (nat_lit 319, { cls := Value.type "tuple", data := Data.seq #[] })
:: (nat_lit 321, { cls := Value.type "tuple", data := Data.seq #[Value.str (Str.ofString "world") 658, Value.str (Str.ofString "text") 659, Value.str (Str.ofString "one") 660, Value.str (Str.ofString "two") 661, Value.str (Str.ofString "size") 662, Value.str (Str.ofString "right") 663] })
:: (nat_lit 322, { cls := Value.type "tuple", data := Data.seq #[] })
:: (nat_lit 324, { cls := Value.type "code", data := Data.fields #[Value.str (Str.ofString "_law_cuts_agree") 655, Value.str (Str.ofString "_law_cuts_agree") 656, Value.str (Str.ofString "/claim/cut.py") 657, Value.int 274 0, Value.int 4 0, Value.int 0 0, Value.int 0 0, Value.int 3 0, Value.ref 319, Value.bool true, Value.int 181 0, Value.ref 320, Value.none, Value.ref 321, Value.ref 322, Value.ref 323, Value.int 664 0, Value.int 274 0, Value.str (Str.ofString "/claim/cut.py") 665] })
:: (nat_lit 325, { cls := Value.type "function", data := Data.func { name := Str.ofString "_law_cuts_agree", qualname := Str.ofString "_law_cuts_agree", params := vp53, body := FuncBody.stmts vb53, scope := vc53, globals := 3, closure := [], defaults := Value.none, kwdefaults := Value.none, pyModule := Value.str (Str.ofString "law_pq0179_01") 638, code := Value.ref 324 } })
:: (nat_lit 326, { cls := Value.type "tuple", data := Data.seq #[] })
:: (nat_lit 328, { cls := Value.type "tuple", data := Data.seq #[Value.str (Str.ofString "world") 670, Value.str (Str.ofString "text") 671, Value.str (Str.ofString "part") 672, Value.str (Str.ofString "begins") 673, Value.str (Str.ofString "spot") 674, Value.str (Str.ofString "tail") 675] })
:: (nat_lit 329, { cls := Value.type "tuple", data := Data.seq #[] })
:: (nat_lit 331, { cls := Value.type "code", data := Data.fields #[Value.str (Str.ofString "_law_finds_agree") 667, Value.str (Str.ofString "_law_finds_agree") 668, Value.str (Str.ofString "/claim/cut.py") 669, Value.int 288 0, Value.int 4 0, Value.int 0 0, Value.int 0 0, Value.int 3 0, Value.ref 326, Value.bool true, Value.int 181 0, Value.ref 327, Value.none, Value.ref 328, Value.ref 329, Value.ref 330, Value.int 676 0, Value.int 288 0, Value.str (Str.ofString "/claim/cut.py") 677] })
:: (nat_lit 332, { cls := Value.type "function", data := Data.func { name := Str.ofString "_law_finds_agree", qualname := Str.ofString "_law_finds_agree", params := vp54, body := FuncBody.stmts vb54, scope := vc54, globals := 3, closure := [], defaults := Value.none, kwdefaults := Value.none, pyModule := Value.str (Str.ofString "law_pq0179_01") 638, code := Value.ref 331 } })
:: (nat_lit 333, { cls := Value.type "tuple", data := Data.seq #[] })
:: (nat_lit 335, { cls := Value.type "tuple", data := Data.seq #[Value.str (Str.ofString "text") 682, Value.str (Str.ofString "flags") 683, Value.str (Str.ofString "whole") 684, Value.str (Str.ofString "later") 685, Value.str (Str.ofString "sooner") 686, Value.str (Str.ofString "flag") 687] })
:: (nat_lit 336, { cls := Value.type "tuple", data := Data.seq #[] })
:: (nat_lit 338, { cls := Value.type "code", data := Data.fields #[Value.str (Str.ofString "_law_flags_agree") 679, Value.str (Str.ofString "_law_flags_agree") 680, Value.str (Str.ofString "/claim/cut.py") 681, Value.int 298 0, Value.int 2 0, Value.int 0 0, Value.int 0 0, Value.int 3 0, Value.ref 333, Value.bool true, Value.int 181 0, Value.ref 334, Value.none, Value.ref 335, Value.ref 336, Value.ref 337, Value.int 688 0, Value.int 298 0, Value.str (Str.ofString "/claim/cut.py") 689] })
:: (nat_lit 339, { cls := Value.type "function", data := Data.func { name := Str.ofString "_law_flags_agree", qualname := Str.ofString "_law_flags_agree", params := vp55, body := FuncBody.stmts vb55, scope := vc55, globals := 3, closure := [], defaults := Value.none, kwdefaults := Value.none, pyModule := Value.str (Str.ofString "law_pq0179_01") 638, code := Value.ref 338 } })
:: (nat_lit 340, { cls := Value.type "tuple", data := Data.seq #[] })
:: (nat_lit 342, { cls := Value.type "tuple", data := Data.seq #[Value.str (Str.ofString "world") 694, Value.str (Str.ofString "text") 695, Value.str (Str.ofString "great") 696, Value.str (Str.ofString "small") 697] })
:: (nat_lit 343, { cls := Value.type "tuple", data := Data.seq #[] })
:: (nat_lit 345, { cls := Value.type "code", data := Data.fields #[Value.str (Str.ofString "_law_letters_agree") 691, Value.str (Str.ofString "_law_letters_agree") 692, Value.str (Str.ofString "/claim/cut.py") 693, Value.int 305 0, Value.int 2 0, Value.int 0 0, Value.int 0 0, Value.int 3 0, Value.ref 340, Value.bool true, Value.int 181 0, Value.ref 341, Value.none, Value.ref 342, Value.ref 343, Value.ref 344, Value.int 698 0, Value.int 305 0, Value.str (Str.ofString "/claim/cut.py") 699] })
:: (nat_lit 346, { cls := Value.type "function", data := Data.func { name := Str.ofString "_law_letters_agree", qualname := Str.ofString "_law_letters_agree", params := vp56, body := FuncBody.stmts vb56, scope := vc56, globals := 3, closure := [], defaults := Value.none, kwdefaults := Value.none, pyModule := Value.str (Str.ofString "law_pq0179_01") 638, code := Value.ref 345 } })
:: (nat_lit 347, { cls := Value.type "tuple", data := Data.seq #[] })
:: (nat_lit 350, { cls := Value.type "code", data := Data.fields #[Value.str (Str.ofString "_law_rest_agrees") 701, Value.str (Str.ofString "_law_rest_agrees") 702, Value.str (Str.ofString "/claim/cut.py") 703, Value.int 312 0, Value.int 4 0, Value.int 0 0, Value.int 0 0, Value.int 3 0, Value.ref 347, Value.bool true, Value.int 181 0, Value.ref 348, Value.none, Value.none, Value.none, Value.ref 349, Value.int 704 0, Value.int 312 0, Value.str (Str.ofString "/claim/cut.py") 705] })
:: (nat_lit 351, { cls := Value.type "function", data := Data.func { name := Str.ofString "_law_rest_agrees", qualname := Str.ofString "_law_rest_agrees", params := vp57, body := FuncBody.stmts vb57, scope := vc57, globals := 3, closure := [], defaults := Value.none, kwdefaults := Value.none, pyModule := Value.str (Str.ofString "law_pq0179_01") 638, code := Value.ref 350 } })
:: (nat_lit 352, { cls := Value.type "tuple", data := Data.seq #[] })
:: (nat_lit 355, { cls := Value.type "code", data := Data.fields #[Value.str (Str.ofString "law") 707, Value.str (Str.ofString "law") 708, Value.str (Str.ofString "/claim/cut.py") 709, Value.int 323 0, Value.int 1 0, Value.int 0 0, Value.int 0 0, Value.int 3 0, Value.ref 352, Value.bool true, Value.int 181 0, Value.ref 353, Value.none, Value.none, Value.none, Value.ref 354, Value.int 710 0, Value.int 323 0, Value.str (Str.ofString "/claim/cut.py") 711] })
:: (nat_lit 356, { cls := Value.type "function", data := Data.func { name := Str.ofString "law", qualname := Str.ofString "law", params := vp58, body := FuncBody.stmts vb58, scope := vc58, globals := 3, closure := [], defaults := Value.none, kwdefaults := Value.none, pyModule := Value.str (Str.ofString "law_pq0179_01") 638, code := Value.ref 355 } }) :: [] : List (Nat × Obj))) rfl
/-- the program with the statements that the rest leans on -/
noncomputable def hd.view_39 : Program :=
  (fun {s0 s1 s2 s3 s4 s5 s6 s7 s8 s9 s10 s11 s12 s13 s14 s15 s16 s17 s18 s19 s20 s21 s22 s23 s24 s25 s26 s27 s28 s29 s30 s31 s32 s33 s34 s35 s36 s37 s38 s39 s40 s41 s42 s43 s44 s45 s46 s47 s48 s49 s50 s51 s52 s53 s54 s55 s56 s57 s58 : Stmt} (_ : PySem.Challenge.pw_pq0179_01.main.body = [s0, s1, s2, s3, s4, s5, s6, s7, s8, s9, s10, s11, s12, s13, s14, s15, s16, s17, s18, s19, s20, s21, s22, s23, s24, s25, s26, s27, s28, s29, s30, s31, s32, s33, s34, s35, s36, s37, s38, s39, s40, s41, s42, s43, s44, s45, s46, s47, s48, s49, s50, s51, s52, s53, s54, s55, s56, s57, s58]) => ({ PySem.Challenge.rw_pq0179_01.row.prog with main := { PySem.Challenge.rw_pq0179_01.row.prog.main with body := [s1, s2, s3, s4, s5, s6, s7, s8, s10, s11, s12, s13, s14, s15, s16, s17, s18, s19, s20, s21, s22, s24, s25, s26, s27, s28, s29, s30, s31, s32, s33, s34, s35, s36, s37, s38, s39, s40, s41, s42, s43, s44, s45, s46, s47, s49, s51, s52, s53, s54, s55, s56, s57, s58] } } : Program)) rfl
abbrev adrs : List Addr := [2, 3, 15, 18, 23, 24, 25, 27, 28, 30, 31, 32, 33, 34, 35, 38, 40, 41, 43, 44, 45, 47, 48, 50, 51, 52, 54, 55, 57, 58, 59, 61, 62, 64, 65, 66, 68, 69, 71, 72, 73, 74, 76, 77, 79, 80, 81, 83, 84, 86, 87, 88, 90, 91, 93, 94, 95, 97, 98, 100, 101, 102, 104, 105, 107, 108, 109, 111, 112, 114, 115, 116, 118, 119, 121, 122, 123, 125, 126, 128, 129, 130, 132, 133, 135, 136, 137, 139, 140, 142, 143, 144, 146, 147, 149, 150, 151, 153, 154, 156, 157, 158, 160, 161, 163, 164, 165, 167, 168, 170, 171, 172, 174, 175, 177, 178, 179, 181, 182, 184, 185, 186, 188, 189, 191, 192, 193, 195, 196, 198, 199, 200, 202, 203, 205, 206, 207, 209, 210, 212, 213, 214, 216, 217, 219, 220, 221, 223, 224, 226, 227, 228, 230, 231, 233, 234, 235, 237, 238, 240, 241, 242, 245, 246, 247, 249, 250, 252, 253, 254, 256, 257, 259, 260, 261, 264, 265, 266, 269, 270, 271, 273, 274, 276, 277, 278, 280, 281, 283, 284, 292, 293, 295, 296, 298, 299, 300, 301, 302, 303, 304, 307, 309, 310, 312, 313, 314, 317, 318, 319, 321, 322, 324, 325, 326, 328, 329, 331, 332, 333, 335, 336, 338, 339, 340, 342, 343, 345, 346, 347, 350, 351, 352, 355, 356]
noncomputable abbrev HK : Hook := kHook hd.heap_39 adrs (fun _ => by kernel_rfl)
end Mine
end

section
open PySem PySem.W PyProof.Rows
set_option maxRecDepth 100000
set_option maxHeartbeats 8000000
namespace Mine
def treeOf : Nat → List Obj → BT → BT
  | _, [], t => t
  | n, o :: l, t => treeOf (n + 1) l (t.ins n o)
def topRunT (tb : String → Option Builtin) (p : Program) (w : World) (n₀ : Nat) (ann : Option Value) : Nat → SharedT → Thread → Option SharedT
  | 0, _, _ => none
  | n + 1, s, t => match through t with
    | true => some s
    | false => match stepOk n₀ ann t with
      | false => none
      | true => match stepT (denote tb) p w s t with
        | some (s', t') => topRunT tb p w n₀ ann n s' t'
        | none => none
theorem topRun_of {tb : String → Option Builtin} {p : Program} {w : World} {n₀ : Nat} {ann : Option Value} : ∀ {n : Nat} {s s' : SharedT} {t : Thread}, topRunT tb p w n₀ ann n s t = some s' → topRun tb p w n₀ ann n s.abs t = some s'.abs
  | 0, _, _, _, h => by cases h
  | n + 1, s, s', t, h => by
    unfold topRunT at h
    unfold topRun
    cases he : through t with
    | true => rw [he] at h; cases h; rfl
    | false =>
      rw [he] at h
      cases hk : stepOk n₀ ann t with
      | false => rw [hk] at h; cases h
      | true =>
        rw [hk] at h
        cases hs : stepT (denote tb) p w s t with
        | none => rw [hs] at h; cases h
        | some r => obtain ⟨s₂, t₂⟩ := r; rw [hs] at h; rw [stepT_spec hs]; exact topRun_of h
theorem left_of_tree {p q : Program} {loose : List PySem.Str} {Xt : Shared → Bool} {α : Type} {Yf : Shared → α} {Ya : World → α} {N : Nat} {g0 : Bool} {T₀ : Params → BT} {n : Nat} {life : Life} {ann : Option Value} {M : Nat}
    (open_ : ∀ w : World, (fencedOpening treeTable p w N).map (fun s => (s.heap, s.gens, s.drawn, s.toks)) = some (boot_heap w.params, Array.mk [], boot_drawn, boot_toks))
    (tree : ∀ P, absHeap (T₀ P) n life = boot_heap P)
    (size : ∀ w : World, ((boot_heap w.params).isNs mainGlobals && (Array.mk [] : Array GenState).size == 0, (boot_heap w.params).objs.size, (boot_heap w.params).nsMap mainGlobals "__annotations__") = (true, n, ann))
    (le : Nat.ble M N = true)
    (run : ∀ w : World, (fun os => (topRunT treeTable p w n ann M ⟨T₀ w.params, n, life, Array.mk [], boot_drawn, boot_toks, os⟩ (topStub p)).map (fun t => (fun s => ((staticsOk (importedModules p.main.body) (boot_heap w.params) s.heap && namesBound p s.heap && gensDone s && laidKept (boot_heap w.params) s.heap), openSeen q loose (importedModules p.main.body) Xt g0 s, Yf s)) t.abs)) = fun _ => some (true, openGood q loose, Ya w)) :
    LeftO p q loose Xt Yf Ya N g0 := fun w => by
  obtain ⟨⟨h, gs, d, k, os⟩, e, e'⟩ := Option.map_eq_some_iff.mp (open_ w)
  obtain ⟨rfl, rfl, rfl, rfl⟩ : h = boot_heap w.params ∧ gs = Array.mk [] ∧ d = boot_drawn ∧ k = boot_toks := by simpa using e'
  obtain ⟨z1, z2, z3⟩ : _ ∧ _ ∧ _ := by simpa only [Prod.mk.injEq] using size w
  obtain ⟨t₁, h1, h2⟩ := Option.map_eq_some_iff.mp (congrFun (run w) os)
  obtain ⟨l1, l2, l3⟩ : _ ∧ _ ∧ _ := by simpa only [Prod.mk.injEq] using h2
  have r0 := topRun_of h1
  unfold SharedT.abs at r0
  rw [tree w.params] at r0
  have r := topRun_mono (N - M) _ _ _ _ r0
  rw [show M + (N - M) = N by have := Nat.le_of_ble_eq_true le; omega] at r
  have t : topFrom treeTable p w N ⟨boot_heap w.params, Array.mk [], boot_drawn, boot_toks, os⟩ = some t₁.abs := by
    unfold topFrom
    dsimp only
    rw [z1, z2, z3, r]
    show (match staticsOk (importedModules p.main.body) (boot_heap w.params) t₁.abs.heap && namesBound p t₁.abs.heap && gensDone t₁.abs && laidKept (boot_heap w.params) t₁.abs.heap with | true => _ | false => _) = _
    rw [l1]
    rfl
  unfold openEnds
  rw [e]
  show (topFrom treeTable p w N _).map _ = _
  rw [t]
  exact congrArg some (Prod.ext l2 l3)
abbrev pw9 : Program := PySem.Challenge.pw_pq0179_01
theorem boot_e : opening pw9 = plainProg pw9.main.scope.names := by kernel_rfl
theorem boot_f : ∀ s, fenceModules? pw9 s = some s := fun s => by kernel_rfl
noncomputable def bootT (P : Params) : BT := treeOf 0 (boot_heap P).objs.toList .nil
theorem boot_n : (fun P => (boot_heap P).objs.size) = fun _ => 11 := by kernel_rfl
theorem boot_t : (fun P => absHeap (bootT P) 11 {}) = fun P => boot_heap P := by kernel_rfl
theorem boot_s : (fun w : World => ((boot_heap w.params).isNs mainGlobals && (Array.mk [] : Array GenState).size == 0, (boot_heap w.params).objs.size, (boot_heap w.params).nsMap mainGlobals "__annotations__")) = fun _ => (true, 11, some (.ref 6)) := by kernel_rfl
end Mine
end

section
open PySem PySem.W PyProof.Rows
set_option maxRecDepth 100000
set_option maxHeartbeats 8000000
namespace Mine

theorem law_said : PySem.Challenge.rw_pq0179_01.wellSaid = true := by
  unfold OpenLaw.wellSaid OpenRow.wellSaid OpenRow.partSaid looksOpen
  simp only [Bool.and_eq_true]
  repeat' apply And.intro
  all_goals decide +kernel
end Mine
end

section
open PySem PySem.W PyProof.Rows
set_option maxRecDepth 100000
set_option maxHeartbeats 8000000
namespace Mine
set_option linter.unusedVariables false
/-- all objects of the heap behind the top; the parts of the defs come out of the program by unification -/
noncomputable def finL : Params → List Obj :=
  (fun {x1 : Stmt} {x2 : Stmt} {x3 : Stmt} {x4 : Str} {vp3m0 : Arguments} {vb3m0 : List Stmt} {x5 : List PySem.Expr} {x6 : Option PySem.Expr} {x7 : List TypeParam} {vc3m0 : Scope} {x8 : Option Scope} {x9 : Str} {x10 : Pos} {x11 : Str} {x12 : List PySem.Expr} {x13 : List Keyword} {x15 : List PySem.Expr} {x16 : List TypeParam} {x17 : Scope} {x18 : Option Scope} {x19 : Str} {x20 : List Str} {x21 : Pos} {x22 : Str} {vp4 : Arguments} {vb4 : List Stmt} {x23 : List PySem.Expr} {x24 : Option PySem.Expr} {x25 : List TypeParam} {vc4 : Scope} {x26 : Option Scope} {x27 : Str} {x28 : Pos} {x29 : Str} {vp5 : Arguments} {vb5 : List Stmt} {x30 : List PySem.Expr} {x31 : Option PySem.Expr} {x32 : List TypeParam} {vc5 : Scope} {x33 : Option Scope} {x34 : Str} {x35 : Pos} {x36 : Str} {vp6 : Arguments} {vb6 : List Stmt} {x37 : List PySem.Expr} {x38 : Option PySem.Expr} {x39 : List TypeParam} {vc6 : Scope} {x40 : Option Scope} {x41 : Str} {x42 : Pos} {x43 : Str} {vp7 : Arguments} {vb7 : List Stmt} {x44 : List PySem.Expr} {x45 : Option PySem.Expr} {x46 : List TypeParam} {vc7 : Scope} {x47 : Option Scope} {x48 : Str} {x49 : Pos} {x50 : Str} {vp8 : Arguments} {vb8 : List Stmt} {x51 : List PySem.Expr} {x52 : Option PySem.Expr} {x53 : List TypeParam} {vc8 : Scope} {x54 : Option Scope} {x55 : Str} {x56 : Pos} {x57 : Stmt} {x58 : Stmt} {x59 : Stmt} {x60 : Stmt} {x61 : Stmt} {x62 : Str} {vp14 : Arguments} {vb14 : List Stmt} {x63 : List PySem.Expr} {x64 : Option PySem.Expr} {x65 : List TypeParam} {vc14 : Scope} {x66 : Option Scope} {x67 : Str} {x68 : Pos} {x69 : Str} {vp15 : Arguments} {vb15 : List Stmt} {x70 : List PySem.Expr} {x71 : Option PySem.Expr} {x72 : List TypeParam} {vc15 : Scope} {x73 : Option Scope} {x74 : Str} {x75 : Pos} {x76 : Str} {vp16 : Arguments} {vb16 : List Stmt} {x77 : List PySem.Expr} {x78 : Option PySem.Expr} {x79 : List TypeParam} {vc16 : Scope} {x80 : Option Scope} {x81 : Str} {x82 : Pos} {x83 : Str} {vp17 : Arguments} {vb17 : List Stmt} {x84 : List PySem.Expr} {x85 : Option PySem.Expr} {x86 : List TypeParam} {vc17 : Scope} {x87 : Option Scope} {x88 : Str} {x89 : Pos} {x90 : Str} {vp18 : Arguments} {vb18 : List Stmt} {x91 : List PySem.Expr} {x92 : Option PySem.Expr} {x93 : List TypeParam} {vc18 : Scope} {x94 : Option Scope} {x95 : Str} {x96 : Pos} {x97 : Str} {vp19 : Arguments} {vb19 : List Stmt} {x98 : List PySem.Expr} {x99 : Option PySem.Expr} {x100 : List TypeParam} {vc19 : Scope} {x101 : Option Scope} {x102 : Str} {x103 : Pos} {x104 : Str} {vp20 : Arguments} {vb20 : List Stmt} {x105 : List PySem.Expr} {x106 : Option PySem.Expr} {x107 : List TypeParam} {vc20 : Scope} {x108 : Option Scope} {x109 : Str} {x110 : Pos} {x111 : Str} {vp21 : Arguments} {vb21 : List Stmt} {x112 : List PySem.Expr} {x113 : Option PySem.Expr} {x114 : List TypeParam} {vc21 : Scope} {x115 : Option Scope} {x116 : Str} {x117 : Pos} {x118 : Str} {vp22 : Arguments} {vb22 : List Stmt} {x119 : List PySem.Expr} {x120 : Option PySem.Expr} {x121 : List TypeParam} {vc22 : Scope} {x122 : Option Scope} {x123 : Str} {x124 : Pos} {x125 : Stmt} {x126 : Stmt} {x127 : Stmt} {x128 : Str} {vp26 : Arguments} {vb26 : List Stmt} {x129 : List PySem.Expr} {x130 : Option PySem.Expr} {x131 : List TypeParam} {vc26 : Scope} {x132 : Option Scope} {x133 : Str} {x134 : Pos} {x135 : Str} {vp27 : Arguments} {vb27 : List Stmt} {x136 : List PySem.Expr} {x137 : Option PySem.Expr} {x138 : List TypeParam} {vc27 : Scope} {x139 : Option Scope} {x140 : Str} {x141 : Pos} {x142 : Str} {vp28 : Arguments} {vb28 : List Stmt} {x143 : List PySem.Expr} {x144 : Option PySem.Expr} {x145 : List TypeParam} {vc28 : Scope} {x146 : Option Scope} {x147 : Str} {x148 : Pos} {x149 : Str} {vp29 : Arguments} {vb29 : List Stmt} {x150 : List PySem.Expr} {x151 : Option PySem.Expr} {x152 : List TypeParam} {vc29 : Scope} {x153 : Option Scope} {x154 : Str} {x155 : Pos} {x156 : Str} {vp30 : Arguments} {vb30 : List Stmt} {x157 : List PySem.Expr} {x158 : Option PySem.Expr} {x159 : List TypeParam} {vc30 : Scope} {x160 : Option Scope} {x161 : Str} {x162 : Pos} {x163 : Str} {vp31 : Arguments} {vb31 : List Stmt} {x164 : List PySem.Expr} {x165 : Option PySem.Expr} {x166 : List TypeParam} {vc31 : Scope} {x167 : Option Scope} {x168 : Str} {x169 : Pos} {x170 : Str} {vp32 : Arguments} {vb32 : List Stmt} {x171 : List PySem.Expr} {x172 : Option PySem.Expr} {x173 : List TypeParam} {vc32 : Scope} {x174 : Option Scope} {x175 : Str} {x176 : Pos} {x177 : Str} {vp33 : Arguments} {vb33 : List Stmt} {x178 : List PySem.Expr} {x179 : Option PySem.Expr} {x180 : List TypeParam} {vc33 : Scope} {x181 : Option Scope} {x182 : Str} {x183 : Pos} {x184 : Str} {vp34 : Arguments} {vb34 : List Stmt} {x185 : List PySem.Expr} {x186 : Option PySem.Expr} {x187 : List TypeParam} {vc34 : Scope} {x188 : Option Scope} {x189 : Str} {x190 : Pos} {x191 : Str} {vp35 : Arguments} {vb35 : List Stmt} {x192 : List PySem.Expr} {x193 : Option PySem.Expr} {x194 : List TypeParam} {vc35 : Scope} {x195 : Option Scope} {x196 : Str} {x197 : Pos} {x198 : Str} {vp36 : Arguments} {vb36 : List Stmt} {x199 : List PySem.Expr} {x200 : Option PySem.Expr} {x201 : List TypeParam} {vc36 : Scope} {x202 : Option Scope} {x203 : Str} {x204 : Pos} {x205 : Str} {vp37 : Arguments} {vb37 : List Stmt} {x206 : List PySem.Expr} {x207 : Option PySem.Expr} {x208 : List TypeParam} {vc37 : Scope} {x209 : Option Scope} {x210 : Str} {x211 : Pos} {x212 : Str} {vp38 : Arguments} {vb38 : List Stmt} {x213 : List PySem.Expr} {x214 : Option PySem.Expr} {x215 : List TypeParam} {vc38 : Scope} {x216 : Option Scope} {x217 : Str} {x218 : Pos} {x219 : Str} {vp39 : Arguments} {vb39 : List Stmt} {x220 : List PySem.Expr} {x221 : Option PySem.Expr} {x222 : List TypeParam} {vc39 : Scope} {x223 : Option Scope} {x224 : Str} {x225 : Pos} {x226 : Str} {vp40 : Arguments} {vb40 : List Stmt} {x227 : List PySem.Expr} {x228 : Option PySem.Expr} {x229 : List TypeParam} {vc40 : Scope} {x230 : Option Scope} {x231 : Str} {x232 : Pos} {x233 : Str} {vp41 : Arguments} {vb41 : List Stmt} {x234 : List PySem.Expr} {x235 : Option PySem.Expr} {x236 : List TypeParam} {vc41 : Scope} {x237 : Option Scope} {x238 : Str} {x239 : Pos} {x240 : Str} {vp42 : Arguments} {vb42 : List Stmt} {x241 : List PySem.Expr} {x242 : Option PySem.Expr} {x243 : List TypeParam} {vc42 : Scope} {x244 : Option Scope} {x245 : Str} {x246 : Pos} {x247 : Str} {vp43 : Arguments} {vb43 : List Stmt} {x248 : List PySem.Expr} {x249 : Option PySem.Expr} {x250 : List TypeParam} {vc43 : Scope} {x251 : Option Scope} {x252 : Str} {x253 : Pos} {x254 : Str} {vp44 : Arguments} {vb44 : List Stmt} {x255 : List PySem.Expr} {x256 : Option PySem.Expr} {x257 : List TypeParam} {vc44 : Scope} {x258 : Option Scope} {x259 : Str} {x260 : Pos} {x261 : Str} {vp45 : Arguments} {vb45 : List Stmt} {x262 : List PySem.Expr} {x263 : Option PySem.Expr} {x264 : List TypeParam} {vc45 : Scope} {x265 : Option Scope} {x266 : Str} {x267 : Pos} {x268 : Str} {vp46 : Arguments} {vb46 : List Stmt} {x269 : List PySem.Expr} {x270 : Option PySem.Expr} {x271 : List TypeParam} {vc46 : Scope} {x272 : Option Scope} {x273 : Str} {x274 : Pos} {x275 : Str} {vp47 : Arguments} {vb47 : List Stmt} {x276 : List PySem.Expr} {x277 : Option PySem.Expr} {x278 : List TypeParam} {vc47 : Scope} {x279 : Option Scope} {x280 : Str} {x281 : Pos} {x282 : Stmt} {x283 : Str} {vp49m0 : Arguments} {vb49m0 : List Stmt} {x284 : List PySem.Expr} {x285 : Option PySem.Expr} {x286 : List TypeParam} {vc49m0 : Scope} {x287 : Option Scope} {x288 : Str} {x289 : Pos} {x290 : Str} {x291 : List PySem.Expr} {x292 : List Keyword} {x294 : List PySem.Expr} {x295 : List TypeParam} {x296 : Scope} {x297 : Option Scope} {x298 : Str} {x299 : List Str} {x300 : Pos} {x301 : Stmt} {x302 : Str} {vp51 : Arguments} {vb51 : List Stmt} {x303 : List PySem.Expr} {x304 : Option PySem.Expr} {x305 : List TypeParam} {vc51 : Scope} {x306 : Option Scope} {x307 : Str} {x308 : Pos} {x309 : Str} {vp52 : Arguments} {vb52 : List Stmt} {x310 : List PySem.Expr} {x311 : Option PySem.Expr} {x312 : List TypeParam} {vc52 : Scope} {x313 : Option Scope} {x314 : Str} {x315 : Pos} {x316 : Str} {vp53 : Arguments} {vb53 : List Stmt} {x317 : List PySem.Expr} {x318 : Option PySem.Expr} {x319 : List TypeParam} {vc53 : Scope} {x320 : Option Scope} {x321 : Str} {x322 : Pos} {x323 : Str} {vp54 : Arguments} {vb54 : List Stmt} {x324 : List PySem.Expr} {x325 : Option PySem.Expr} {x326 : List TypeParam} {vc54 : Scope} {x327 : Option Scope} {x328 : Str} {x329 : Pos} {x330 : Str} {vp55 : Arguments} {vb55 : List Stmt} {x331 : List PySem.Expr} {x332 : Option PySem.Expr} {x333 : List TypeParam} {vc55 : Scope} {x334 : Option Scope} {x335 : Str} {x336 : Pos} {x337 : Str} {vp56 : Arguments} {vb56 : List Stmt} {x338 : List PySem.Expr} {x339 : Option PySem.Expr} {x340 : List TypeParam} {vc56 : Scope} {x341 : Option Scope} {x342 : Str} {x343 : Pos} {x344 : Str} {vp57 : Arguments} {vb57 : List Stmt} {x345 : List PySem.Expr} {x346 : Option PySem.Expr} {x347 : List TypeParam} {vc57 : Scope} {x348 : Option Scope} {x349 : Str} {x350 : Pos} {x351 : Str} {vp58 : Arguments} {vb58 : List Stmt} {x352 : List PySem.Expr} {x353 : Option PySem.Expr} {x354 : List TypeParam} {vc58 : Scope} {x355 : Option Scope} {x356 : Str} {x357 : Pos} (_ : PySem.Challenge.pw_pq0179_01.main.body = [x1, x2, x3, Stmt.ClassDef x11 x12 x13 [Stmt.FunctionDef x4 vp3m0 vb3m0 x5 x6 x7 vc3m0 x8 x9 x10] x15 x16 x17 x18 x19 x20 x21, Stmt.FunctionDef x22 vp4 vb4 x23 x24 x25 vc4 x26 x27 x28, Stmt.FunctionDef x29 vp5 vb5 x30 x31 x32 vc5 x33 x34 x35, Stmt.FunctionDef x36 vp6 vb6 x37 x38 x39 vc6 x40 x41 x42, Stmt.FunctionDef x43 vp7 vb7 x44 x45 x46 vc7 x47 x48 x49, Stmt.FunctionDef x50 vp8 vb8 x51 x52 x53 vc8 x54 x55 x56, x57, x58, x59, x60, x61, Stmt.FunctionDef x62 vp14 vb14 x63 x64 x65 vc14 x66 x67 x68, Stmt.FunctionDef x69 vp15 vb15 x70 x71 x72 vc15 x73 x74 x75, Stmt.FunctionDef x76 vp16 vb16 x77 x78 x79 vc16 x80 x81 x82, Stmt.FunctionDef x83 vp17 vb17 x84 x85 x86 vc17 x87 x88 x89, Stmt.FunctionDef x90 vp18 vb18 x91 x92 x93 vc18 x94 x95 x96, Stmt.FunctionDef x97 vp19 vb19 x98 x99 x100 vc19 x101 x102 x103, Stmt.FunctionDef x104 vp20 vb20 x105 x106 x107 vc20 x108 x109 x110, Stmt.FunctionDef x111 vp21 vb21 x112 x113 x114 vc21 x115 x116 x117, Stmt.FunctionDef x118 vp22 vb22 x119 x120 x121 vc22 x122 x123 x124, x125, x126, x127, Stmt.FunctionDef x128 vp26 vb26 x129 x130 x131 vc26 x132 x133 x134, Stmt.FunctionDef x135 vp27 vb27 x136 x137 x138 vc27 x139 x140 x141, Stmt.FunctionDef x142 vp28 vb28 x143 x144 x145 vc28 x146 x147 x148, Stmt.FunctionDef x149 vp29 vb29 x150 x151 x152 vc29 x153 x154 x155, Stmt.FunctionDef x156 vp30 vb30 x157 x158 x159 vc30 x160 x161 x162, Stmt.FunctionDef x163 vp31 vb31 x164 x165 x166 vc31 x167 x168 x169, Stmt.FunctionDef x170 vp32 vb32 x171 x172 x173 vc32 x174 x175 x176, Stmt.FunctionDef x177 vp33 vb33 x178 x179 x180 vc33 x181 x182 x183, Stmt.FunctionDef x184 vp34 vb34 x185 x186 x187 vc34 x188 x189 x190, Stmt.FunctionDef x191 vp35 vb35 x192 x193 x194 vc35 x195 x196 x197, Stmt.FunctionDef x198 vp36 vb36 x199 x200 x201 vc36 x202 x203 x204, Stmt.FunctionDef x205 vp37 vb37 x206 x207 x208 vc37 x209 x210 x211, Stmt.FunctionDef x212 vp38 vb38 x213 x214 x215 vc38 x216 x217 x218, Stmt.FunctionDef x219 vp39 vb39 x220 x221 x222 vc39 x223 x224 x225, Stmt.FunctionDef x226 vp40 vb40 x227 x228 x229 vc40 x230 x231 x232, Stmt.FunctionDef x233 vp41 vb41 x234 x235 x236 vc41 x237 x238 x239, Stmt.FunctionDef x240 vp42 vb42 x241 x242 x243 vc42 x244 x245 x246, Stmt.FunctionDef x247 vp43 vb43 x248 x249 x250 vc43 x251 x252 x253, Stmt.FunctionDef x254 vp44 vb44 x255 x256 x257 vc44 x258 x259 x260, Stmt.FunctionDef x261 vp45 vb45 x262 x263 x264 vc45 x265 x266 x267, Stmt.FunctionDef x268 vp46 vb46 x269 x270 x271 vc46 x272 x273 x274, Stmt.FunctionDef x275 vp47 vb47 x276 x277 x278 vc47 x279 x280 x281, x282, Stmt.ClassDef x290 x291 x292 [Stmt.FunctionDef x283 vp49m0 vb49m0 x284 x285 x286 vc49m0 x287 x288 x289] x294 x295 x296 x297 x298 x299 x300, x301, Stmt.FunctionDef x302 vp51 vb51 x303 x304 x305 vc51 x306 x307 x308, Stmt.FunctionDef x309 vp52 vb52 x310 x311 x312 vc52 x313 x314 x315, Stmt.FunctionDef x316 vp53 vb53 x317 x318 x319 vc53 x320 x321 x322, Stmt.FunctionDef x323 vp54 vb54 x324 x325 x326 vc54 x327 x328 x329, Stmt.FunctionDef x330 vp55 vb55 x331 x332 x333 vc55 x334 x335 x336, Stmt.FunctionDef x337 vp56 vb56 x338 x339 x340 vc56 x341 x342 x343, Stmt.FunctionDef x344 vp57 vb57 x345 x346 x347 vc57 x348 x349 x350, Stmt.FunctionDef x351 vp58 vb58 x352 x353 x354 vc58 x355 x356 x357]) => fun (P : Params) => ({ cls := Value.type "dict", data := Data.dict #[{ hash := PyData.keyHash P (Str.ofString "__name__"), key := Value.str (Str.ofString "__name__") 1, val := Value.str (Str.ofString "builtins") 160 }, { hash := PyData.keyHash P (Str.ofString "__doc__"), key := Value.str (Str.ofString "__doc__") 2, val := Value.builtin "builtins.__doc__:str#opaque" }, { hash := PyData.keyHash P (Str.ofString "__package__"), key := Value.str (Str.ofString "__package__") 3, val := Value.builtin "builtins.__package__:str#opaque" }, { hash := PyData.keyHash P (Str.ofString "__loader__"), key := Value.str (Str.ofString "__loader__") 4, val := Value.builtin "builtins.__loader__:shared#opaque" }, { hash := PyData.keyHash P (Str.ofString "__spec__"), key := Value.str (Str.ofString "__spec__") 5, val := Value.builtin "builtins.__spec__#opaque" }, { hash := PyData.keyHash P (Str.ofString "__build_class__"), key := Value.str (Str.ofString "__build_class__") 6, val := Value.builtin "__build_class__" }, { hash := PyData.keyHash P (Str.ofString "__import__"), key := Value.str (Str.ofString "__import__") 7, val := Value.builtin "__import__" }, { hash := PyData.keyHash P (Str.ofString "abs"), key := Value.str (Str.ofString "abs") 8, val := Value.builtin "abs" }, { hash := PyData.keyHash P (Str.ofString "all"), key := Value.str (Str.ofString "all") 9, val := Value.builtin "all" }, { hash := PyData.keyHash P (Str.ofString "any"), key := Value.str (Str.ofString "any") 10, val := Value.builtin "any" }, { hash := PyData.keyHash P (Str.ofString "ascii"), key := Value.str (Str.ofString "ascii") 11, val := Value.builtin "ascii" }, { hash := PyData.keyHash P (Str.ofString "bin"), key := Value.str (Str.ofString "bin") 12, val := Value.builtin "bin" }, { hash := PyData.keyHash P (Str.ofString "breakpoint"), key := Value.str (Str.ofString "breakpoint") 13, val := Value.builtin "breakpoint" }, { hash := PyData.keyHash P (Str.ofString "callable"), key := Value.str (Str.ofString "callable") 14, val := Value.builtin "callable" }, { hash := PyData.keyHash P (Str.ofString "chr"), key := Value.str (Str.ofString "chr") 15, val := Value.builtin "chr" }, { hash := PyData.keyHash P (Str.ofString "compile"), key := Value.str (Str.ofString "compile") 16, val := Value.builtin "compile" }, { hash := PyData.keyHash P (Str.ofString "delattr"), key := Value.str (Str.ofString "delattr") 17, val := Value.builtin "delattr" }, { hash := PyData.keyHash P (Str.ofString "dir"), key := Value.str (Str.ofString "dir") 18, val := Value.builtin "dir" }, { hash := PyData.keyHash P (Str.ofString "divmod"), key := Value.str (Str.ofString "divmod") 19, val := Value.builtin "divmod" }, { hash := PyData.keyHash P (Str.ofString "eval"), key := Value.str (Str.ofString "eval") 20, val := Value.builtin "eval" }, { hash := PyData.keyHash P (Str.ofString "exec"), key := Value.str (Str.ofString "exec") 21, val := Value.builtin "exec" }, { hash := PyData.keyHash P (Str.ofString "format"), key := Value.str (Str.ofString "format") 22, val := Value.builtin "format" }, { hash := PyData.keyHash P (Str.ofString "getattr"), key := Value.str (Str.ofString "getattr") 23, val := Value.builtin "getattr" }, { hash := PyData.keyHash P (Str.ofString "globals"), key := Value.str (Str.ofString "globals") 24, val := Value.builtin "globals" }, { hash := PyData.keyHash P (Str.ofString "hasattr"), key := Value.str (Str.ofString "hasattr") 25, val := Value.builtin "hasattr" }, { hash := PyData.keyHash P (Str.ofString "hash"), key := Value.str (Str.ofString "hash") 26, val := Value.builtin "hash" }, { hash := PyData.keyHash P (Str.ofString "hex"), key := Value.str (Str.ofString "hex") 27, val := Value.builtin "hex" }, { hash := PyData.keyHash P (Str.ofString "id"), key := Value.str (Str.ofString "id") 28, val := Value.builtin "id" }, { hash := PyData.keyHash P (Str.ofString "input"), key := Value.str (Str.ofString "input") 29, val := Value.builtin "input" }, { hash := PyData.keyHash P (Str.ofString "isinstance"), key := Value.str (Str.ofString "isinstance") 30, val := Value.builtin "isinstance" }, { hash := PyData.keyHash P (Str.ofString "issubclass"), key := Value.str (Str.ofString "issubclass") 31, val := Value.builtin "issubclass" }, { hash := PyData.keyHash P (Str.ofString "iter"), key := Value.str (Str.ofString "iter") 32, val := Value.builtin "iter" }, { hash := PyData.keyHash P (Str.ofString "aiter"), key := Value.str (Str.ofString "aiter") 33, val := Value.builtin "aiter" }, { hash := PyData.keyHash P (Str.ofString "len"), key := Value.str (Str.ofString "len") 34, val := Value.builtin "len" }, { hash := PyData.keyHash P (Str.ofString "locals"), key := Value.str (Str.ofString "locals") 35, val := Value.builtin "locals" }, { hash := PyData.keyHash P (Str.ofString "max"), key := Value.str (Str.ofString "max") 36, val := Value.builtin "max" }, { hash := PyData.keyHash P (Str.ofString "min"), key := Value.str (Str.ofString "min") 37, val := Value.builtin "min" }, { hash := PyData.keyHash P (Str.ofString "next"), key := Value.str (Str.ofString "next") 38, val := Value.builtin "next" }, { hash := PyData.keyHash P (Str.ofString "anext"), key := Value.str (Str.ofString "anext") 39, val := Value.builtin "anext" }, { hash := PyData.keyHash P (Str.ofString "oct"), key := Value.str (Str.ofString "oct") 40, val := Value.builtin "oct" }, { hash := PyData.keyHash P (Str.ofString "ord"), key := Value.str (Str.ofString "ord") 41, val := Value.builtin "ord" }, { hash := PyData.keyHash P (Str.ofString "pow"), key := Value.str (Str.ofString "pow") 42, val := Value.builtin "pow" }, { hash := PyData.keyHash P (Str.ofString "print"), key := Value.str (Str.ofString "print") 43, val := Value.builtin "print" }, { hash := PyData.keyHash P (Str.ofString "repr"), key := Value.str (Str.ofString "repr") 44, val := Value.builtin "repr" }, { hash := PyData.keyHash P (Str.ofString "round"), key := Value.str (Str.ofString "round") 45, val := Value.builtin "round" }, { hash := PyData.keyHash P (Str.ofString "setattr"), key := Value.str (Str.ofString "setattr") 46, val := Value.builtin "setattr" }, { hash := PyData.keyHash P (Str.ofString "sorted"), key := Value.str (Str.ofString "sorted") 47, val := Value.builtin "sorted" }, { hash := PyData.keyHash P (Str.ofString "sum"), key := Value.str (Str.ofString "sum") 48, val := Value.builtin "sum" }, { hash := PyData.keyHash P (Str.ofString "vars"), key := Value.str (Str.ofString "vars") 49, val := Value.builtin "vars" }, { hash := PyData.keyHash P (Str.ofString "None"), key := Value.str (Str.ofString "None") 50, val := Value.none }, { hash := PyData.keyHash P (Str.ofString "Ellipsis"), key := Value.str (Str.ofString "Ellipsis") 51, val := Value.ellipsis }, { hash := PyData.keyHash P (Str.ofString "NotImplemented"), key := Value.str (Str.ofString "NotImplemented") 52, val := Value.notImplemented }, { hash := PyData.keyHash P (Str.ofString "False"), key := Value.str (Str.ofString "False") 53, val := Value.bool false }, { hash := PyData.keyHash P (Str.ofString "True"), key := Value.str (Str.ofString "True") 54, val := Value.bool true }, { hash := PyData.keyHash P (Str.ofString "bool"), key := Value.str (Str.ofString "bool") 55, val := Value.type "bool" }, { hash := PyData.keyHash P (Str.ofString "memoryview"), key := Value.str (Str.ofString "memoryview") 56, val := Value.type "memoryview" }, { hash := PyData.keyHash P (Str.ofString "bytearray"), key := Value.str (Str.ofString "bytearray") 57, val := Value.type "bytearray" }, { hash := PyData.keyHash P (Str.ofString "bytes"), key := Value.str (Str.ofString "bytes") 58, val := Value.type "bytes" }, { hash := PyData.keyHash P (Str.ofString "classmethod"), key := Value.str (Str.ofString "classmethod") 59, val := Value.type "classmethod" }, { hash := PyData.keyHash P (Str.ofString "complex"), key := Value.str (Str.ofString "complex") 60, val := Value.type "complex" }, { hash := PyData.keyHash P (Str.ofString "dict"), key := Value.str (Str.ofString "dict") 61, val := Value.type "dict" }, { hash := PyData.keyHash P (Str.ofString "enumerate"), key := Value.str (Str.ofString "enumerate") 62, val := Value.type "enumerate" }, { hash := PyData.keyHash P (Str.ofString "filter"), key := Value.str (Str.ofString "filter") 63, val := Value.type "filter" }, { hash := PyData.keyHash P (Str.ofString "float"), key := Value.str (Str.ofString "float") 64, val := Value.type "float" }, { hash := PyData.keyHash P (Str.ofString "frozenset"), key := Value.str (Str.ofString "frozenset") 65, val := Value.type "frozenset" }, { hash := PyData.keyHash P (Str.ofString "property"), key := Value.str (Str.ofString "property") 66, val := Value.type "property" }, { hash := PyData.keyHash P (Str.ofString "int"), key := Value.str (Str.ofString "int") 67, val := Value.type "int" }, { hash := PyData.keyHash P (Str.ofString "list"), key := Value.str (Str.ofString "list") 68, val := Value.type "list" }, { hash := PyData.keyHash P (Str.ofString "map"), key := Value.str (Str.ofString "map") 69, val := Value.type "map" }, { hash := PyData.keyHash P (Str.ofString "object"), key := Value.str (Str.ofString "object") 70, val := Value.type "object" }, { hash := PyData.keyHash P (Str.ofString "range"), key := Value.str (Str.ofString "range") 71, val := Value.type "range" }, { hash := PyData.keyHash P (Str.ofString "reversed"), key := Value.str (Str.ofString "reversed") 72, val := Value.type "reversed" }, { hash := PyData.keyHash P (Str.ofString "set"), key := Value.str (Str.ofString "set") 73, val := Value.type "set" }, { hash := PyData.keyHash P (Str.ofString "slice"), key := Value.str (Str.ofString "slice") 74, val := Value.type "slice" }, { hash := PyData.keyHash P (Str.ofString "staticmethod"), key := Value.str (Str.ofString "staticmethod") 75, val := Value.type "staticmethod" }, { hash := PyData.keyHash P (Str.ofString "str"), key := Value.str (Str.ofString "str") 76, val := Value.type "str" }, { hash := PyData.keyHash P (Str.ofString "super"), key := Value.str (Str.ofString "super") 77, val := Value.type "super" }, { hash := PyData.keyHash P (Str.ofString "tuple"), key := Value.str (Str.ofString "tuple") 78, val := Value.type "tuple" }, { hash := PyData.keyHash P (Str.ofString "type"), key := Value.str (Str.ofString "type") 79, val := Value.type "type" }, { hash := PyData.keyHash P (Str.ofString "zip"), key := Value.str (Str.ofString "zip") 80, val := Value.type "zip" }, { hash := PyData.keyHash P (Str.ofString "__debug__"), key := Value.str (Str.ofString "__debug__") 81, val := Value.bool true }, { hash := PyData.keyHash P (Str.ofString "BaseException"), key := Value.str (Str.ofString "BaseException") 82, val := Value.type "BaseException" }, { hash := PyData.keyHash P (Str.ofString "BaseExceptionGroup"), key := Value.str (Str.ofString "BaseExceptionGroup") 83, val := Value.type "BaseExceptionGroup" }, { hash := PyData.keyHash P (Str.ofString "Exception"), key := Value.str (Str.ofString "Exception") 84, val := Value.type "Exception" }, { hash := PyData.keyHash P (Str.ofString "GeneratorExit"), key := Value.str (Str.ofString "GeneratorExit") 85, val := Value.type "GeneratorExit" }, { hash := PyData.keyHash P (Str.ofString "KeyboardInterrupt"), key := Value.str (Str.ofString "KeyboardInterrupt") 86, val := Value.type "KeyboardInterrupt" }, { hash := PyData.keyHash P (Str.ofString "SystemExit"), key := Value.str (Str.ofString "SystemExit") 87, val := Value.type "SystemExit" }, { hash := PyData.keyHash P (Str.ofString "ArithmeticError"), key := Value.str (Str.ofString "ArithmeticError") 88, val := Value.type "ArithmeticError" }, { hash := PyData.keyHash P (Str.ofString "AssertionError"), key := Value.str (Str.ofString "AssertionError") 89, val := Value.type "AssertionError" }, { hash := PyData.keyHash P (Str.ofString "AttributeError"), key := Value.str (Str.ofString "AttributeError") 90, val := Value.type "AttributeError" }, { hash := PyData.keyHash P (Str.ofString "BufferError"), key := Value.str (Str.ofString "BufferError") 91, val := Value.type "BufferError" }, { hash := PyData.keyHash P (Str.ofString "EOFError"), key := Value.str (Str.ofString "EOFError") 92, val := Value.type "EOFError" }, { hash := PyData.keyHash P (Str.ofString "ImportError"), key := Value.str (Str.ofString "ImportError") 93, val := Value.type "ImportError" }, { hash := PyData.keyHash P (Str.ofString "LookupError"), key := Value.str (Str.ofString "LookupError") 94, val := Value.type "LookupError" }, { hash := PyData.keyHash P (Str.ofString "MemoryError"), key := Value.str (Str.ofString "MemoryError") 95, val := Value.type "MemoryError" }, { hash := PyData.keyHash P (Str.ofString "NameError"), key := Value.str (Str.ofString "NameError") 96, val := Value.type "NameError" }, { hash := PyData.keyHash P (Str.ofString "OSError"), key := Value.str (Str.ofString "OSError") 97, val := Value.type "OSError" }, { hash := PyData.keyHash P (Str.ofString "ReferenceError"), key := Value.str (Str.ofString "ReferenceError") 98, val := Value.type "ReferenceError" }, { hash := PyData.keyHash P (Str.ofString "RuntimeError"), key := Value.str (Str.ofString "RuntimeError") 99, val := Value.type "RuntimeError" }, { hash := PyData.keyHash P (Str.ofString "StopAsyncIteration"), key := Value.str (Str.ofString "StopAsyncIteration") 100, val := Value.type "StopAsyncIteration" }, { hash := PyData.keyHash P (Str.ofString "StopIteration"), key := Value.str (Str.ofString "StopIteration") 101, val := Value.type "StopIteration" }, { hash := PyData.keyHash P (Str.ofString "SyntaxError"), key := Value.str (Str.ofString "SyntaxError") 102, val := Value.type "SyntaxError" }, { hash := PyData.keyHash P (Str.ofString "SystemError"), key := Value.str (Str.ofString "SystemError") 103, val := Value.type "SystemError" }, { hash := PyData.keyHash P (Str.ofString "TypeError"), key := Value.str (Str.ofString "TypeError") 104, val := Value.type "TypeError" }, { hash := PyData.keyHash P (Str.ofString "ValueError"), key := Value.str (Str.ofString "ValueError") 105, val := Value.type "ValueError" }, { hash := PyData.keyHash P (Str.ofString "Warning"), key := Value.str (Str.ofString "Warning") 106, val := Value.type "Warning" }, { hash := PyData.keyHash P (Str.ofString "FloatingPointError"), key := Value.str (Str.ofString "FloatingPointError") 107, val := Value.type "FloatingPointError" }, { hash := PyData.keyHash P (Str.ofString "OverflowError"), key := Value.str (Str.ofString "OverflowError") 108, val := Value.type "OverflowError" }, { hash := PyData.keyHash P (Str.ofString "ZeroDivisionError"), key := Value.str (Str.ofString "ZeroDivisionError") 109, val := Value.type "ZeroDivisionError" }, { hash := PyData.keyHash P (Str.ofString "BytesWarning"), key := Value.str (Str.ofString "BytesWarning") 110, val := Value.type "BytesWarning" }, { hash := PyData.keyHash P (Str.ofString "DeprecationWarning"), key := Value.str (Str.ofString "DeprecationWarning") 111, val := Value.type "DeprecationWarning" }, { hash := PyData.keyHash P (Str.ofString "EncodingWarning"), key := Value.str (Str.ofString "EncodingWarning") 112, val := Value.type "EncodingWarning" }, { hash := PyData.keyHash P (Str.ofString "FutureWarning"), key := Value.str (Str.ofString "FutureWarning") 113, val := Value.type "FutureWarning" }, { hash := PyData.keyHash P (Str.ofString "ImportWarning"), key := Value.str (Str.ofString "ImportWarning") 114, val := Value.type "ImportWarning" }, { hash := PyData.keyHash P (Str.ofString "PendingDeprecationWarning"), key := Value.str (Str.ofString "PendingDeprecationWarning") 115, val := Value.type "PendingDeprecationWarning" }, { hash := PyData.keyHash P (Str.ofString "ResourceWarning"), key := Value.str (Str.ofString "ResourceWarning") 116, val := Value.type "ResourceWarning" }, { hash := PyData.keyHash P (Str.ofString "RuntimeWarning"), key := Value.str (Str.ofString "RuntimeWarning") 117, val := Value.type "RuntimeWarning" }, { hash := PyData.keyHash P (Str.ofString "SyntaxWarning"), key := Value.str (Str.ofString "SyntaxWarning") 118, val := Value.type "SyntaxWarning" }, { hash := PyData.keyHash P (Str.ofString "UnicodeWarning"), key := Value.str (Str.ofString "UnicodeWarning") 119, val := Value.type "UnicodeWarning" }, { hash := PyData.keyHash P (Str.ofString "UserWarning"), key := Value.str (Str.ofString "UserWarning") 120, val := Value.type "UserWarning" }, { hash := PyData.keyHash P (Str.ofString "BlockingIOError"), key := Value.str (Str.ofString "BlockingIOError") 121, val := Value.type "BlockingIOError" }, { hash := PyData.keyHash P (Str.ofString "ChildProcessError"), key := Value.str (Str.ofString "ChildProcessError") 122, val := Value.type "ChildProcessError" }, { hash := PyData.keyHash P (Str.ofString "ConnectionError"), key := Value.str (Str.ofString "ConnectionError") 123, val := Value.type "ConnectionError" }, { hash := PyData.keyHash P (Str.ofString "FileExistsError"), key := Value.str (Str.ofString "FileExistsError") 124, val := Value.type "FileExistsError" }, { hash := PyData.keyHash P (Str.ofString "FileNotFoundError"), key := Value.str (Str.ofString "FileNotFoundError") 125, val := Value.type "FileNotFoundError" }, { hash := PyData.keyHash P (Str.ofString "InterruptedError"), key := Value.str (Str.ofString "InterruptedError") 126, val := Value.type "InterruptedError" }, { hash := PyData.keyHash P (Str.ofString "IsADirectoryError"), key := Value.str (Str.ofString "IsADirectoryError") 127, val := Value.type "IsADirectoryError" }, { hash := PyData.keyHash P (Str.ofString "NotADirectoryError"), key := Value.str (Str.ofString "NotADirectoryError") 128, val := Value.type "NotADirectoryError" }, { hash := PyData.keyHash P (Str.ofString "PermissionError"), key := Value.str (Str.ofString "PermissionError") 129, val := Value.type "PermissionError" }, { hash := PyData.keyHash P (Str.ofString "ProcessLookupError"), key := Value.str (Str.ofString "ProcessLookupError") 130, val := Value.type "ProcessLookupError" }, { hash := PyData.keyHash P (Str.ofString "TimeoutError"), key := Value.str (Str.ofString "TimeoutError") 131, val := Value.type "TimeoutError" }, { hash := PyData.keyHash P (Str.ofString "IndentationError"), key := Value.str (Str.ofString "IndentationError") 132, val := Value.type "IndentationError" }, { hash := PyData.keyHash P (Str.ofString "_IncompleteInputError"), key := Value.str (Str.ofString "_IncompleteInputError") 133, val := Value.type "_IncompleteInputError" }, { hash := PyData.keyHash P (Str.ofString "IndexError"), key := Value.str (Str.ofString "IndexError") 134, val := Value.type "IndexError" }, { hash := PyData.keyHash P (Str.ofString "KeyError"), key := Value.str (Str.ofString "KeyError") 135, val := Value.type "KeyError" }, { hash := PyData.keyHash P (Str.ofString "ModuleNotFoundError"), key := Value.str (Str.ofString "ModuleNotFoundError") 136, val := Value.type "ModuleNotFoundError" }, { hash := PyData.keyHash P (Str.ofString "NotImplementedError"), key := Value.str (Str.ofString "NotImplementedError") 137, val := Value.type "NotImplementedError" }, { hash := PyData.keyHash P (Str.ofString "PythonFinalizationError"), key := Value.str (Str.ofString "PythonFinalizationError") 138, val := Value.type "PythonFinalizationError" }, { hash := PyData.keyHash P (Str.ofString "RecursionError"), key := Value.str (Str.ofString "RecursionError") 139, val := Value.type "RecursionError" }, { hash := PyData.keyHash P (Str.ofString "UnboundLocalError"), key := Value.str (Str.ofString "UnboundLocalError") 140, val := Value.type "UnboundLocalError" }, { hash := PyData.keyHash P (Str.ofString "UnicodeError"), key := Value.str (Str.ofString "UnicodeError") 141, val := Value.type "UnicodeError" }, { hash := PyData.keyHash P (Str.ofString "BrokenPipeError"), key := Value.str (Str.ofString "BrokenPipeError") 142, val := Value.type "BrokenPipeError" }, { hash := PyData.keyHash P (Str.ofString "ConnectionAbortedError"), key := Value.str (Str.ofString "ConnectionAbortedError") 143, val := Value.type "ConnectionAbortedError" }, { hash := PyData.keyHash P (Str.ofString "ConnectionRefusedError"), key := Value.str (Str.ofString "ConnectionRefusedError") 144, val := Value.type "ConnectionRefusedError" }, { hash := PyData.keyHash P (Str.ofString "ConnectionResetError"), key := Value.str (Str.ofString "ConnectionResetError") 145, val := Value.type "ConnectionResetError" }, { hash := PyData.keyHash P (Str.ofString "TabError"), key := Value.str (Str.ofString "TabError") 146, val := Value.type "TabError" }, { hash := PyData.keyHash P (Str.ofString "UnicodeDecodeError"), key := Value.str (Str.ofString "UnicodeDecodeError") 147, val := Value.type "UnicodeDecodeError" }, { hash := PyData.keyHash P (Str.ofString "UnicodeEncodeError"), key := Value.str (Str.ofString "UnicodeEncodeError") 148, val := Value.type "UnicodeEncodeError" }, { hash := PyData.keyHash P (Str.ofString "UnicodeTranslateError"), key := Value.str (Str.ofString "UnicodeTranslateError") 149, val := Value.type "UnicodeTranslateError" }, { hash := PyData.keyHash P (Str.ofString "ExceptionGroup"), key := Value.str (Str.ofString "ExceptionGroup") 150, val := Value.type "ExceptionGroup" }, { hash := PyData.keyHash P (Str.ofString "EnvironmentError"), key := Value.str (Str.ofString "EnvironmentError") 151, val := Value.type "OSError" }, { hash := PyData.keyHash P (Str.ofString "IOError"), key := Value.str (Str.ofString "IOError") 152, val := Value.type "OSError" }, { hash := PyData.keyHash P (Str.ofString "open"), key := Value.str (Str.ofString "open") 153, val := Value.builtin "open" }, { hash := PyData.keyHash P (Str.ofString "quit"), key := Value.str (Str.ofString "quit") 154, val := Value.builtin "builtins.quit#opaque" }, { hash := PyData.keyHash P (Str.ofString "exit"), key := Value.str (Str.ofString "exit") 155, val := Value.builtin "builtins.exit#opaque" }, { hash := PyData.keyHash P (Str.ofString "copyright"), key := Value.str (Str.ofString "copyright") 156, val := Value.builtin "builtins.copyright#opaque" }, { hash := PyData.keyHash P (Str.ofString "credits"), key := Value.str (Str.ofString "credits") 157, val := Value.builtin "builtins.credits#opaque" }, { hash := PyData.keyHash P (Str.ofString "license"), key := Value.str (Str.ofString "license") 158, val := Value.builtin "builtins.license#opaque" }, { hash := PyData.keyHash P (Str.ofString "help"), key := Value.str (Str.ofString "help") 159, val := Value.builtin "builtins.help#opaque" }] 159 }
:: { cls := Value.type "dict", data := Data.dict #[{ hash := PyData.keyHash P (Str.ofString "builtins"), key := Value.str (Str.ofString "builtins") 162, val := Value.ref 4 }, { hash := PyData.keyHash P (Str.ofString "__main__"), key := Value.str (Str.ofString "__main__") 163, val := Value.ref 5 }] 2 }
:: { cls := Value.none, data := Data.dict #[{ hash := PyData.keyHash P (Str.ofString "type.__subclasses__.Exception.0"), key := Value.str (Str.ofString "type.__subclasses__.Exception.0") 223, val := Value.int 34 0 }, { hash := PyData.keyHash P (Str.ofString "type.__subclasses__.Exception.n"), key := Value.str (Str.ofString "type.__subclasses__.Exception.n") 224, val := Value.int 1 0 }] 2 }
:: { cls := Value.type "dict", data := Data.dict #[{ hash := PyData.keyHash P (Str.ofString "__name__"), key := Value.str (Str.ofString "__name__") 165, val := Value.str (Str.ofString "law_pq0179_01") 638 }, { hash := PyData.keyHash P (Str.ofString "__doc__"), key := Value.str (Str.ofString "__doc__") 166, val := Value.none }, { hash := PyData.keyHash P (Str.ofString "__package__"), key := Value.str (Str.ofString "__package__") 167, val := Value.none }, { hash := PyData.keyHash P (Str.ofString "__loader__"), key := Value.str (Str.ofString "__loader__") 168, val := Value.builtin "__main__.__loader__#opaque" }, { hash := PyData.keyHash P (Str.ofString "__spec__"), key := Value.str (Str.ofString "__spec__") 169, val := Value.none }, { hash := PyData.keyHash P (Str.ofString "__annotations__"), key := Value.str (Str.ofString "__annotations__") 170, val := Value.ref 6 }, { hash := PyData.keyHash P (Str.ofString "__builtins__"), key := Value.str (Str.ofString "__builtins__") 171, val := Value.ref 4 }, { hash := PyData.keyHash P (Str.ofString "__file__"), key := Value.str (Str.ofString "__file__") 173, val := Value.str (Str.ofString "/claim/cut.py") 172 }, { hash := PyData.keyHash P (Str.ofString "__cached__"), key := Value.str (Str.ofString "__cached__") 174, val := Value.none }, { hash := PyData.keyHash P (Str.ofString "MOST_TEXT"), key := Value.str (Str.ofString "MOST_TEXT") 190, val := Value.int 255 189 }, { hash := PyData.keyHash P (Str.ofString "MOST_EXPONENT"), key := Value.str (Str.ofString "MOST_EXPONENT") 192, val := Value.int 99 191 }, { hash := PyData.keyHash P (Str.ofString "BasicError"), key := Value.str (Str.ofString "BasicError") 226, val := Value.ref 34 }, { hash := PyData.keyHash P (Str.ofString "figures_of"), key := Value.str (Str.ofString "figures_of") 235, val := Value.ref 44 }, { hash := PyData.keyHash P (Str.ofString "rounded_by"), key := Value.str (Str.ofString "rounded_by") 246, val := Value.ref 51 }, { hash := PyData.keyHash P (Str.ofString "made"), key := Value.str (Str.ofString "made") 258, val := Value.ref 58 }, { hash := PyData.keyHash P (Str.ofString "whole_near"), key := Value.str (Str.ofString "whole_near") 268, val := Value.ref 65 }, { hash := PyData.keyHash P (Str.ofString "text_of"), key := Value.str (Str.ofString "text_of") 275, val := Value.ref 72 }, { hash := PyData.keyHash P (Str.ofString "NOUGHT"), key := Value.str (Str.ofString "NOUGHT") 280, val := Value.ref 73 }, { hash := PyData.keyHash P (Str.ofString "MOST_FIGURES"), key := Value.str (Str.ofString "MOST_FIGURES") 282, val := Value.int 300 281 }, { hash := PyData.keyHash P (Str.ofString "MOST_POWER"), key := Value.str (Str.ofString "MOST_POWER") 284, val := Value.int 9999 283 }, { hash := PyData.keyHash P (Str.ofString "BLANKS_decimals"), key := Value.str (Str.ofString "BLANKS_decimals") 286, val := Value.str (Str.ofString " \t") 285 }, { hash := PyData.keyHash P (Str.ofString "figures_text"), key := Value.str (Str.ofString "figures_text") 294, val := Value.ref 80 }, { hash := PyData.keyHash P (Str.ofString "exponent_text"), key := Value.str (Str.ofString "exponent_text") 302, val := Value.ref 87 }, { hash := PyData.keyHash P (Str.ofString "size_text"), key := Value.str (Str.ofString "size_text") 314, val := Value.ref 94 }, { hash := PyData.keyHash P (Str.ofString "d_text"), key := Value.str (Str.ofString "d_text") 322, val := Value.ref 101 }, { hash := PyData.keyHash P (Str.ofString "whole_text"), key := Value.str (Str.ofString "whole_text") 329, val := Value.ref 108 }, { hash := PyData.keyHash P (Str.ofString "run_of_figures"), key := Value.str (Str.ofString "run_of_figures") 339, val := Value.ref 115 }, { hash := PyData.keyHash P (Str.ofString "exponent_at"), key := Value.str (Str.ofString "exponent_at") 352, val := Value.ref 122 }, { hash := PyData.keyHash P (Str.ofString "d_of_text"), key := Value.str (Str.ofString "d_of_text") 368, val := Value.ref 129 }, { hash := PyData.keyHash P (Str.ofString "told_decimal"), key := Value.str (Str.ofString "told_decimal") 378, val := Value.ref 136 }, { hash := PyData.keyHash P (Str.ofString "BLANKS_textfns"), key := Value.str (Str.ofString "BLANKS_textfns") 382, val := Value.str (Str.ofString " \t") 381 }, { hash := PyData.keyHash P (Str.ofString "DROPPED"), key := Value.str (Str.ofString "DROPPED") 384, val := Value.str (Str.ofString "\x0d\n\x0c\x1b\x7f\x00") 383 }, { hash := PyData.keyHash P (Str.ofString "size_told"), key := Value.str (Str.ofString "size_told") 392, val := Value.ref 143 }, { hash := PyData.keyHash P (Str.ofString "place_told"), key := Value.str (Str.ofString "place_told") 400, val := Value.ref 150 }, { hash := PyData.keyHash P (Str.ofString "number_text"), key := Value.str (Str.ofString "number_text") 408, val := Value.ref 157 }, { hash := PyData.keyHash P (Str.ofString "found_at"), key := Value.str (Str.ofString "found_at") 418, val := Value.ref 164 }, { hash := PyData.keyHash P (Str.ofString "from_left"), key := Value.str (Str.ofString "from_left") 427, val := Value.ref 171 }, { hash := PyData.keyHash P (Str.ofString "from_right"), key := Value.str (Str.ofString "from_right") 436, val := Value.ref 178 }, { hash := PyData.keyHash P (Str.ofString "great_sign"), key := Value.str (Str.ofString "great_sign") 443, val := Value.ref 185 }, { hash := PyData.keyHash P (Str.ofString "small_sign"), key := Value.str (Str.ofString "small_sign") 450, val := Value.ref 192 }, { hash := PyData.keyHash P (Str.ofString "edited_sign"), key := Value.str (Str.ofString "edited_sign") 458, val := Value.ref 199 }, { hash := PyData.keyHash P (Str.ofString "edited"), key := Value.str (Str.ofString "edited") 470, val := Value.ref 206 }, { hash := PyData.keyHash P (Str.ofString "led_by_table"), key := Value.str (Str.ofString "led_by_table") 480, val := Value.ref 213 }, { hash := PyData.keyHash P (Str.ofString "text_val"), key := Value.str (Str.ofString "text_val") 489, val := Value.ref 220 }, { hash := PyData.keyHash P (Str.ofString "text_left"), key := Value.str (Str.ofString "text_left") 498, val := Value.ref 227 }, { hash := PyData.keyHash P (Str.ofString "text_right"), key := Value.str (Str.ofString "text_right") 508, val := Value.ref 234 }, { hash := PyData.keyHash P (Str.ofString "text_mid"), key := Value.str (Str.ofString "text_mid") 519, val := Value.ref 241 }, { hash := PyData.keyHash P (Str.ofString "text_seg"), key := Value.str (Str.ofString "text_seg") 525, val := Value.ref 246 }, { hash := PyData.keyHash P (Str.ofString "text_str"), key := Value.str (Str.ofString "text_str") 533, val := Value.ref 253 }, { hash := PyData.keyHash P (Str.ofString "text_string"), key := Value.str (Str.ofString "text_string") 542, val := Value.ref 260 }, { hash := PyData.keyHash P (Str.ofString "text_ucase"), key := Value.str (Str.ofString "text_ucase") 548, val := Value.ref 265 }, { hash := PyData.keyHash P (Str.ofString "text_lcase"), key := Value.str (Str.ofString "text_lcase") 554, val := Value.ref 270 }, { hash := PyData.keyHash P (Str.ofString "text_ltrim"), key := Value.str (Str.ofString "text_ltrim") 562, val := Value.ref 277 }, { hash := PyData.keyHash P (Str.ofString "text_rtrim"), key := Value.str (Str.ofString "text_rtrim") 570, val := Value.ref 284 }, { hash := PyData.keyHash P (Str.ofString "World"), key := Value.str (Str.ofString "World") 637, val := Value.ref 302 }, { hash := PyData.keyHash P (Str.ofString "_law_draw"), key := Value.str (Str.ofString "_law_draw") 648, val := Value.ref 313 }, { hash := PyData.keyHash P (Str.ofString "_law_text"), key := Value.str (Str.ofString "_law_text") 654, val := Value.ref 318 }, { hash := PyData.keyHash P (Str.ofString "_law_cuts_agree"), key := Value.str (Str.ofString "_law_cuts_agree") 666, val := Value.ref 325 }, { hash := PyData.keyHash P (Str.ofString "_law_finds_agree"), key := Value.str (Str.ofString "_law_finds_agree") 678, val := Value.ref 332 }, { hash := PyData.keyHash P (Str.ofString "_law_flags_agree"), key := Value.str (Str.ofString "_law_flags_agree") 690, val := Value.ref 339 }, { hash := PyData.keyHash P (Str.ofString "_law_letters_agree"), key := Value.str (Str.ofString "_law_letters_agree") 700, val := Value.ref 346 }, { hash := PyData.keyHash P (Str.ofString "_law_rest_agrees"), key := Value.str (Str.ofString "_law_rest_agrees") 706, val := Value.ref 351 }, { hash := PyData.keyHash P (Str.ofString "law"), key := Value.str (Str.ofString "law") 712, val := Value.ref 356 }] 63 }
:: { cls := Value.type "module", dict := some 0 }
:: { cls := Value.type "module", dict := some 3 }
:: { cls := Value.type "dict", data := Data.dict #[] }
:: { cls := Value.type "tuple", data := Data.seq #[] }
:: { cls := Value.none, data := Data.fields #[] }
:: { cls := Value.type "code", data := Data.fields #[Value.str (Str.ofString "<module>") 176, Value.str (Str.ofString "<module>") 177, Value.str (Str.ofString "/claim/cut.py") 178, Value.int 1 0, Value.int 0 0, Value.int 0 0, Value.int 0 0, Value.int 0 0, Value.ref 7, Value.bool false, Value.int 175 0, Value.ref 8, Value.none, Value.none, Value.none, Value.none, Value.int 179 0, Value.int 1 0, Value.str (Str.ofString "/claim/cut.py") 180] }
:: { cls := Value.type "frame", slots := #[some (Value.ref 9), some (Value.ref 3), some (Value.ref 3), none, some (Value.str (Str.ofString "__main__") 164), none, some (Value.ref 0)] }
:: { cls := Value.type "tuple", data := Data.seq #[] }
:: { cls := Value.none, data := Data.fields #[Value.int 4 0, Value.int 0 0, Value.ref 21, Value.int 10 0, Value.int 0 0, Value.ref 43, Value.int 16 0, Value.int 0 0, Value.ref 50, Value.int 26 0, Value.int 0 0, Value.ref 57, Value.int 41 0, Value.int 0 0, Value.ref 64, Value.int 47 0, Value.int 0 0, Value.ref 71, Value.int 56 0, Value.int 0 0, Value.ref 79, Value.int 62 0, Value.int 0 0, Value.ref 86, Value.int 65 0, Value.int 0 0, Value.ref 93, Value.int 76 0, Value.int 0 0, Value.ref 100, Value.int 80 0, Value.int 0 0, Value.ref 107, Value.int 82 0, Value.int 0 0, Value.ref 114, Value.int 88 0, Value.int 0 0, Value.ref 121, Value.int 99 0, Value.int 0 0, Value.ref 128, Value.int 115 0, Value.int 0 0, Value.ref 135, Value.int 125 0, Value.int 0 0, Value.ref 142, Value.int 132 0, Value.int 0 0, Value.ref 149, Value.int 137 0, Value.int 0 0, Value.ref 156, Value.int 139 0, Value.int 0 0, Value.ref 163, Value.int 146 0, Value.int 0 0, Value.ref 170, Value.int 151 0, Value.int 0 0, Value.ref 177, Value.int 156 0, Value.int 0 0, Value.ref 184, Value.int 158 0, Value.int 0 0, Value.ref 191, Value.int 160 0, Value.int 0 0, Value.ref 198, Value.int 168 0, Value.int 0 0, Value.ref 205, Value.int 187 0, Value.int 0 0, Value.ref 212, Value.int 193 0, Value.int 0 0, Value.ref 219, Value.int 196 0, Value.int 0 0, Value.ref 226, Value.int 199 0, Value.int 0 0, Value.ref 233, Value.int 202 0, Value.int 0 0, Value.ref 240, Value.int 206 0, Value.int 0 0, Value.ref 245, Value.int 213 0, Value.int 0 0, Value.ref 252, Value.int 217 0, Value.int 0 0, Value.ref 259, Value.int 224 0, Value.int 0 0, Value.ref 264, Value.int 226 0, Value.int 0 0, Value.ref 269, Value.int 228 0, Value.int 0 0, Value.ref 276, Value.int 230 0, Value.int 0 0, Value.ref 283, Value.int 233 0, Value.int 0 0, Value.ref 290, Value.int 265 0, Value.int 0 0, Value.ref 312, Value.int 271 0, Value.int 0 0, Value.ref 317, Value.int 274 0, Value.int 0 0, Value.ref 324, Value.int 288 0, Value.int 0 0, Value.ref 331, Value.int 298 0, Value.int 0 0, Value.ref 338, Value.int 305 0, Value.int 0 0, Value.ref 345, Value.int 312 0, Value.int 0 0, Value.ref 350, Value.int 323 0, Value.int 0 0, Value.ref 355] }
:: { cls := Value.type "code", data := Data.fields #[Value.str (Str.ofString "<module>") 182, Value.str (Str.ofString "<module>") 183, Value.str (Str.ofString "/claim/cut.py") 184, Value.int 1 0, Value.int 0 0, Value.int 0 0, Value.int 0 0, Value.int 0 0, Value.ref 11, Value.bool false, Value.int 181 0, Value.ref 12, Value.none, Value.none, Value.none, Value.none, Value.int 185 0, Value.int 1 0, Value.str (Str.ofString "/claim/cut.py") 186] }
:: { cls := Value.type "frame", slots := #[some (Value.ref 13), some (Value.ref 3), some (Value.ref 3), none, some (Value.str (Str.ofString "__main__") 164), none, some (Value.ref 0)] }
:: { cls := Value.type "tuple", data := Data.seq #[Value.type "Exception"] }
:: { cls := Value.type "builtin_function_or_method", data := Data.fields #[Value.builtin "type.__prepare__", Value.type "type"] }
:: { cls := Value.type "dict", data := Data.dict #[{ hash := PyData.keyHash P (Str.ofString "__module__"), key := Value.str (Str.ofString "__module__") 200, val := Value.str (Str.ofString "basicplus.values") 187 }, { hash := PyData.keyHash P (Str.ofString "__qualname__"), key := Value.str (Str.ofString "__qualname__") 202, val := Value.str (Str.ofString "BasicError") 201 }, { hash := PyData.keyHash P (Str.ofString "__firstlineno__"), key := Value.str (Str.ofString "__firstlineno__") 204, val := Value.int 4 203 }, { hash := PyData.keyHash P (Str.ofString "__init__"), key := Value.str (Str.ofString "__init__") 215, val := Value.ref 31 }, { hash := PyData.keyHash P (Str.ofString "__static_attributes__"), key := Value.str (Str.ofString "__static_attributes__") 218, val := Value.ref 32 }, { hash := PyData.keyHash P (Str.ofString "__classcell__"), key := Value.str (Str.ofString "__classcell__") 219, val := Value.ref 18 }] 6 }
:: { cls := Value.type "cell", data := Data.cell (some (Value.ref 34)) }
:: { cls := Value.type "tuple", data := Data.seq #[] }
:: { cls := Value.none, data := Data.fields #[Value.int 6 0, Value.int 4 0, Value.ref 30] }
:: { cls := Value.type "code", data := Data.fields #[Value.str (Str.ofString "BasicError") 195, Value.str (Str.ofString "BasicError") 196, Value.str (Str.ofString "/claim/cut.py") 197, Value.int 4 0, Value.int 0 0, Value.int 0 0, Value.int 0 0, Value.int 0 0, Value.ref 19, Value.bool false, Value.int 181 0, Value.ref 20, Value.none, Value.none, Value.none, Value.none, Value.int 198 0, Value.int 4 0, Value.str (Str.ofString "/claim/cut.py") 199] }
:: { cls := Value.type "frame", slots := #[some (Value.ref 21), some (Value.ref 3), some (Value.ref 17), none, some (Value.str (Str.ofString "basicplus.values") 187), none, some (Value.ref 0)] }
:: { cls := Value.type "tuple", data := Data.seq #[Value.str (Str.ofString "") 205] }
:: { cls := Value.type "tuple", data := Data.seq #[Value.ref 18] }
:: { cls := Value.type "tuple", data := Data.seq #[Value.str (Str.ofString "__class__") 209] }
:: { cls := Value.none, data := Data.fields #[] }
:: { cls := Value.type "tuple", data := Data.seq #[Value.str (Str.ofString "self") 210, Value.str (Str.ofString "code") 211, Value.str (Str.ofString "told") 212] }
:: { cls := Value.type "tuple", data := Data.seq #[] }
:: { cls := Value.none, data := Data.func { name := Str.ofString "__init__", qualname := Str.ofString "BasicError.__init__", params := vp3m0, body := FuncBody.stmts vb3m0, scope := vc3m0, globals := 0, closure := [], defaults := Value.none, kwdefaults := Value.none } }
:: { cls := Value.type "code", data := Data.fields #[Value.str (Str.ofString "__init__") 206, Value.str (Str.ofString "BasicError.__init__") 207, Value.str (Str.ofString "/claim/cut.py") 208, Value.int 6 0, Value.int 3 0, Value.int 0 0, Value.int 0 0, Value.int 3 0, Value.ref 25, Value.bool true, Value.int 181 0, Value.ref 26, Value.none, Value.ref 27, Value.ref 28, Value.ref 29, Value.int 213 0, Value.int 6 0, Value.str (Str.ofString "/claim/cut.py") 214] }
:: { cls := Value.type "function", data := Data.func { name := Str.ofString "__init__", qualname := Str.ofString "BasicError.__init__", params := vp3m0, body := FuncBody.stmts vb3m0, scope := vc3m0, globals := 3, closure := [(Str.ofString "__class__", 18)], defaults := Value.ref 23, kwdefaults := Value.none, pyModule := Value.str (Str.ofString "basicplus.values") 187, code := Value.ref 30, closureTuple := Value.ref 24 } }
:: { cls := Value.type "tuple", data := Data.seq #[Value.str (Str.ofString "code") 216, Value.str (Str.ofString "told") 217] }
:: { cls := Value.type "dict", data := Data.dict #[{ hash := PyData.keyHash P (Str.ofString "__module__"), key := Value.str (Str.ofString "__module__") 200, val := Value.str (Str.ofString "basicplus.values") 187 }, { hash := PyData.keyHash P (Str.ofString "__firstlineno__"), key := Value.str (Str.ofString "__firstlineno__") 204, val := Value.int 4 203 }, { hash := PyData.keyHash P (Str.ofString "__init__"), key := Value.str (Str.ofString "__init__") 215, val := Value.ref 31 }, { hash := PyData.keyHash P (Str.ofString "__static_attributes__"), key := Value.str (Str.ofString "__static_attributes__") 218, val := Value.ref 32 }, { hash := PyData.keyHash P (Str.ofString "__weakref__"), key := Value.str (Str.ofString "__weakref__") 221, val := Value.ref 35 }, { hash := PyData.keyHash P (Str.ofString "__doc__"), key := Value.str (Str.ofString "__doc__") 222, val := Value.none }] 4 }
:: { cls := Value.type "type", data := Data.cls { name := Str.ofString "BasicError", bases := [Value.type "Exception"], mro := [Value.ref 34, Value.type "Exception", Value.type "BaseException", Value.type "object"], ns := 33, qualname := Str.ofString "BasicError" }, slots := #[some (Value.ref 15), none, some (Value.str (Str.ofString "BasicError") 193), some (Value.str (Str.ofString "BasicError") 201), some (Value.builtin "Exception.__new__"), some (Value.bool true)] }
:: { cls := Value.type "getset_descriptor", data := Data.fields #[Value.str (Str.ofString "__weakref__") 220, Value.ref 34, Value.builtin "ExceptionGroup.__weakref__", Value.none] }
:: { cls := Value.type "super", data := Data.fields #[Value.ref 34, Value.ref 34, Value.ref 34] }
:: { cls := Value.type "builtin_function_or_method", data := Data.fields #[Value.builtin "object.__init_subclass__", Value.ref 34] }
:: { cls := Value.type "tuple", data := Data.seq #[] }
:: { cls := Value.none, data := Data.fields #[] }
:: { cls := Value.type "tuple", data := Data.seq #[Value.str (Str.ofString "number") 230, Value.str (Str.ofString "many") 231, Value.str (Str.ofString "bound") 232] }
:: { cls := Value.type "tuple", data := Data.seq #[] }
:: { cls := Value.none, data := Data.func { name := Str.ofString "figures_of", qualname := Str.ofString "figures_of", params := vp4, body := FuncBody.stmts vb4, scope := vc4, globals := 0, closure := [], defaults := Value.none, kwdefaults := Value.none } }
:: { cls := Value.type "code", data := Data.fields #[Value.str (Str.ofString "figures_of") 227, Value.str (Str.ofString "figures_of") 228, Value.str (Str.ofString "/claim/cut.py") 229, Value.int 10 0, Value.int 1 0, Value.int 0 0, Value.int 0 0, Value.int 3 0, Value.ref 38, Value.bool true, Value.int 181 0, Value.ref 39, Value.none, Value.ref 40, Value.ref 41, Value.ref 42, Value.int 233 0, Value.int 10 0, Value.str (Str.ofString "/claim/cut.py") 234] }
:: { cls := Value.type "function", data := Data.func { name := Str.ofString "figures_of", qualname := Str.ofString "figures_of", params := vp4, body := FuncBody.stmts vb4, scope := vc4, globals := 3, closure := [], defaults := Value.none, kwdefaults := Value.none, pyModule := Value.str (Str.ofString "basicplus.values") 187, code := Value.ref 43 } }
:: { cls := Value.type "tuple", data := Data.seq #[] }
:: { cls := Value.none, data := Data.fields #[] }
:: { cls := Value.type "tuple", data := Data.seq #[Value.str (Str.ofString "number") 239, Value.str (Str.ofString "places") 240, Value.str (Str.ofString "unit") 241, Value.str (Str.ofString "found") 242, Value.str (Str.ofString "rest") 243] }
:: { cls := Value.type "tuple", data := Data.seq #[] }
:: { cls := Value.none, data := Data.func { name := Str.ofString "rounded_by", qualname := Str.ofString "rounded_by", params := vp5, body := FuncBody.stmts vb5, scope := vc5, globals := 0, closure := [], defaults := Value.none, kwdefaults := Value.none } }
:: { cls := Value.type "code", data := Data.fields #[Value.str (Str.ofString "rounded_by") 236, Value.str (Str.ofString "rounded_by") 237, Value.str (Str.ofString "/claim/cut.py") 238, Value.int 16 0, Value.int 2 0, Value.int 0 0, Value.int 0 0, Value.int 3 0, Value.ref 45, Value.bool true, Value.int 181 0, Value.ref 46, Value.none, Value.ref 47, Value.ref 48, Value.ref 49, Value.int 244 0, Value.int 16 0, Value.str (Str.ofString "/claim/cut.py") 245] }
:: { cls := Value.type "function", data := Data.func { name := Str.ofString "rounded_by", qualname := Str.ofString "rounded_by", params := vp5, body := FuncBody.stmts vb5, scope := vc5, globals := 3, closure := [], defaults := Value.none, kwdefaults := Value.none, pyModule := Value.str (Str.ofString "basicplus.values") 187, code := Value.ref 50 } }
:: { cls := Value.type "tuple", data := Data.seq #[] }
:: { cls := Value.none, data := Data.fields #[] }
:: { cls := Value.type "tuple", data := Data.seq #[Value.str (Str.ofString "coefficient") 250, Value.str (Str.ofString "exponent") 251, Value.str (Str.ofString "digits") 252, Value.str (Str.ofString "size") 253, Value.str (Str.ofString "more") 254, Value.str (Str.ofString "first") 255] }
:: { cls := Value.type "tuple", data := Data.seq #[] }
:: { cls := Value.none, data := Data.func { name := Str.ofString "made", qualname := Str.ofString "made", params := vp6, body := FuncBody.stmts vb6, scope := vc6, globals := 0, closure := [], defaults := Value.none, kwdefaults := Value.none } }
:: { cls := Value.type "code", data := Data.fields #[Value.str (Str.ofString "made") 247, Value.str (Str.ofString "made") 248, Value.str (Str.ofString "/claim/cut.py") 249, Value.int 26 0, Value.int 3 0, Value.int 0 0, Value.int 0 0, Value.int 3 0, Value.ref 52, Value.bool true, Value.int 181 0, Value.ref 53, Value.none, Value.ref 54, Value.ref 55, Value.ref 56, Value.int 256 0, Value.int 26 0, Value.str (Str.ofString "/claim/cut.py") 257] }
:: { cls := Value.type "function", data := Data.func { name := Str.ofString "made", qualname := Str.ofString "made", params := vp6, body := FuncBody.stmts vb6, scope := vc6, globals := 3, closure := [], defaults := Value.none, kwdefaults := Value.none, pyModule := Value.str (Str.ofString "basicplus.values") 187, code := Value.ref 57 } }
:: { cls := Value.type "tuple", data := Data.seq #[] }
:: { cls := Value.none, data := Data.fields #[] }
:: { cls := Value.type "tuple", data := Data.seq #[Value.str (Str.ofString "value") 262, Value.str (Str.ofString "coefficient") 263, Value.str (Str.ofString "exponent") 264, Value.str (Str.ofString "size") 265] }
:: { cls := Value.type "tuple", data := Data.seq #[] }
:: { cls := Value.none, data := Data.func { name := Str.ofString "whole_near", qualname := Str.ofString "whole_near", params := vp7, body := FuncBody.stmts vb7, scope := vc7, globals := 0, closure := [], defaults := Value.none, kwdefaults := Value.none } }
:: { cls := Value.type "code", data := Data.fields #[Value.str (Str.ofString "whole_near") 259, Value.str (Str.ofString "whole_near") 260, Value.str (Str.ofString "/claim/cut.py") 261, Value.int 41 0, Value.int 1 0, Value.int 0 0, Value.int 0 0, Value.int 3 0, Value.ref 59, Value.bool true, Value.int 181 0, Value.ref 60, Value.none, Value.ref 61, Value.ref 62, Value.ref 63, Value.int 266 0, Value.int 41 0, Value.str (Str.ofString "/claim/cut.py") 267] }
:: { cls := Value.type "function", data := Data.func { name := Str.ofString "whole_near", qualname := Str.ofString "whole_near", params := vp7, body := FuncBody.stmts vb7, scope := vc7, globals := 3, closure := [], defaults := Value.none, kwdefaults := Value.none, pyModule := Value.str (Str.ofString "basicplus.values") 187, code := Value.ref 64 } }
:: { cls := Value.type "tuple", data := Data.seq #[] }
:: { cls := Value.none, data := Data.fields #[] }
:: { cls := Value.type "tuple", data := Data.seq #[Value.str (Str.ofString "value") 272] }
:: { cls := Value.type "tuple", data := Data.seq #[] }
:: { cls := Value.none, data := Data.func { name := Str.ofString "text_of", qualname := Str.ofString "text_of", params := vp8, body := FuncBody.stmts vb8, scope := vc8, globals := 0, closure := [], defaults := Value.none, kwdefaults := Value.none } }
:: { cls := Value.type "code", data := Data.fields #[Value.str (Str.ofString "text_of") 269, Value.str (Str.ofString "text_of") 270, Value.str (Str.ofString "/claim/cut.py") 271, Value.int 47 0, Value.int 1 0, Value.int 0 0, Value.int 0 0, Value.int 3 0, Value.ref 66, Value.bool true, Value.int 181 0, Value.ref 67, Value.none, Value.ref 68, Value.ref 69, Value.ref 70, Value.int 273 0, Value.int 47 0, Value.str (Str.ofString "/claim/cut.py") 274] }
:: { cls := Value.type "function", data := Data.func { name := Str.ofString "text_of", qualname := Str.ofString "text_of", params := vp8, body := FuncBody.stmts vb8, scope := vc8, globals := 3, closure := [], defaults := Value.none, kwdefaults := Value.none, pyModule := Value.str (Str.ofString "basicplus.values") 187, code := Value.ref 71 } }
:: { cls := Value.type "tuple", data := Data.seq #[Value.int 0 278, Value.int 0 279] }
:: { cls := Value.type "tuple", data := Data.seq #[] }
:: { cls := Value.none, data := Data.fields #[] }
:: { cls := Value.type "tuple", data := Data.seq #[Value.str (Str.ofString "number") 290, Value.str (Str.ofString "found") 291] }
:: { cls := Value.type "tuple", data := Data.seq #[] }
:: { cls := Value.none, data := Data.func { name := Str.ofString "figures_text", qualname := Str.ofString "figures_text", params := vp14, body := FuncBody.stmts vb14, scope := vc14, globals := 0, closure := [], defaults := Value.none, kwdefaults := Value.none } }
:: { cls := Value.type "code", data := Data.fields #[Value.str (Str.ofString "figures_text") 287, Value.str (Str.ofString "figures_text") 288, Value.str (Str.ofString "/claim/cut.py") 289, Value.int 56 0, Value.int 1 0, Value.int 0 0, Value.int 0 0, Value.int 3 0, Value.ref 74, Value.bool true, Value.int 181 0, Value.ref 75, Value.none, Value.ref 76, Value.ref 77, Value.ref 78, Value.int 292 0, Value.int 56 0, Value.str (Str.ofString "/claim/cut.py") 293] }
:: { cls := Value.type "function", data := Data.func { name := Str.ofString "figures_text", qualname := Str.ofString "figures_text", params := vp14, body := FuncBody.stmts vb14, scope := vc14, globals := 3, closure := [], defaults := Value.none, kwdefaults := Value.none, pyModule := Value.str (Str.ofString "basicplus.decimals") 276, code := Value.ref 79 } }
:: { cls := Value.type "tuple", data := Data.seq #[] }
:: { cls := Value.none, data := Data.fields #[] }
:: { cls := Value.type "tuple", data := Data.seq #[Value.str (Str.ofString "exponent") 298, Value.str (Str.ofString "told") 299] }
:: { cls := Value.type "tuple", data := Data.seq #[] }
:: { cls := Value.none, data := Data.func { name := Str.ofString "exponent_text", qualname := Str.ofString "exponent_text", params := vp15, body := FuncBody.stmts vb15, scope := vc15, globals := 0, closure := [], defaults := Value.none, kwdefaults := Value.none } }
:: { cls := Value.type "code", data := Data.fields #[Value.str (Str.ofString "exponent_text") 295, Value.str (Str.ofString "exponent_text") 296, Value.str (Str.ofString "/claim/cut.py") 297, Value.int 62 0, Value.int 1 0, Value.int 0 0, Value.int 0 0, Value.int 3 0, Value.ref 81, Value.bool true, Value.int 181 0, Value.ref 82, Value.none, Value.ref 83, Value.ref 84, Value.ref 85, Value.int 300 0, Value.int 62 0, Value.str (Str.ofString "/claim/cut.py") 301] }
:: { cls := Value.type "function", data := Data.func { name := Str.ofString "exponent_text", qualname := Str.ofString "exponent_text", params := vp15, body := FuncBody.stmts vb15, scope := vc15, globals := 3, closure := [], defaults := Value.none, kwdefaults := Value.none, pyModule := Value.str (Str.ofString "basicplus.decimals") 276, code := Value.ref 86 } }
:: { cls := Value.type "tuple", data := Data.seq #[] }
:: { cls := Value.none, data := Data.fields #[] }
:: { cls := Value.type "tuple", data := Data.seq #[Value.str (Str.ofString "size") 306, Value.str (Str.ofString "exponent") 307, Value.str (Str.ofString "digits") 308, Value.str (Str.ofString "figures") 309, Value.str (Str.ofString "many") 310, Value.str (Str.ofString "top") 311] }
:: { cls := Value.type "tuple", data := Data.seq #[] }
:: { cls := Value.none, data := Data.func { name := Str.ofString "size_text", qualname := Str.ofString "size_text", params := vp16, body := FuncBody.stmts vb16, scope := vc16, globals := 0, closure := [], defaults := Value.none, kwdefaults := Value.none } }
:: { cls := Value.type "code", data := Data.fields #[Value.str (Str.ofString "size_text") 303, Value.str (Str.ofString "size_text") 304, Value.str (Str.ofString "/claim/cut.py") 305, Value.int 65 0, Value.int 3 0, Value.int 0 0, Value.int 0 0, Value.int 3 0, Value.ref 88, Value.bool true, Value.int 181 0, Value.ref 89, Value.none, Value.ref 90, Value.ref 91, Value.ref 92, Value.int 312 0, Value.int 65 0, Value.str (Str.ofString "/claim/cut.py") 313] }
:: { cls := Value.type "function", data := Data.func { name := Str.ofString "size_text", qualname := Str.ofString "size_text", params := vp16, body := FuncBody.stmts vb16, scope := vc16, globals := 3, closure := [], defaults := Value.none, kwdefaults := Value.none, pyModule := Value.str (Str.ofString "basicplus.decimals") 276, code := Value.ref 93 } }
:: { cls := Value.type "tuple", data := Data.seq #[] }
:: { cls := Value.none, data := Data.fields #[] }
:: { cls := Value.type "tuple", data := Data.seq #[Value.str (Str.ofString "a") 318, Value.str (Str.ofString "digits") 319] }
:: { cls := Value.type "tuple", data := Data.seq #[] }
:: { cls := Value.none, data := Data.func { name := Str.ofString "d_text", qualname := Str.ofString "d_text", params := vp17, body := FuncBody.stmts vb17, scope := vc17, globals := 0, closure := [], defaults := Value.none, kwdefaults := Value.none } }
:: { cls := Value.type "code", data := Data.fields #[Value.str (Str.ofString "d_text") 315, Value.str (Str.ofString "d_text") 316, Value.str (Str.ofString "/claim/cut.py") 317, Value.int 76 0, Value.int 2 0, Value.int 0 0, Value.int 0 0, Value.int 3 0, Value.ref 95, Value.bool true, Value.int 181 0, Value.ref 96, Value.none, Value.ref 97, Value.ref 98, Value.ref 99, Value.int 320 0, Value.int 76 0, Value.str (Str.ofString "/claim/cut.py") 321] }
:: { cls := Value.type "function", data := Data.func { name := Str.ofString "d_text", qualname := Str.ofString "d_text", params := vp17, body := FuncBody.stmts vb17, scope := vc17, globals := 3, closure := [], defaults := Value.none, kwdefaults := Value.none, pyModule := Value.str (Str.ofString "basicplus.decimals") 276, code := Value.ref 100 } }
:: { cls := Value.type "tuple", data := Data.seq #[] }
:: { cls := Value.none, data := Data.fields #[] }
:: { cls := Value.type "tuple", data := Data.seq #[Value.str (Str.ofString "number") 326] }
:: { cls := Value.type "tuple", data := Data.seq #[] }
:: { cls := Value.none, data := Data.func { name := Str.ofString "whole_text", qualname := Str.ofString "whole_text", params := vp18, body := FuncBody.stmts vb18, scope := vc18, globals := 0, closure := [], defaults := Value.none, kwdefaults := Value.none } }
:: { cls := Value.type "code", data := Data.fields #[Value.str (Str.ofString "whole_text") 323, Value.str (Str.ofString "whole_text") 324, Value.str (Str.ofString "/claim/cut.py") 325, Value.int 80 0, Value.int 1 0, Value.int 0 0, Value.int 0 0, Value.int 3 0, Value.ref 102, Value.bool true, Value.int 181 0, Value.ref 103, Value.none, Value.ref 104, Value.ref 105, Value.ref 106, Value.int 327 0, Value.int 80 0, Value.str (Str.ofString "/claim/cut.py") 328] }
:: { cls := Value.type "function", data := Data.func { name := Str.ofString "whole_text", qualname := Str.ofString "whole_text", params := vp18, body := FuncBody.stmts vb18, scope := vc18, globals := 3, closure := [], defaults := Value.none, kwdefaults := Value.none, pyModule := Value.str (Str.ofString "basicplus.decimals") 276, code := Value.ref 107 } }
:: { cls := Value.type "tuple", data := Data.seq #[] }
:: { cls := Value.none, data := Data.fields #[] }
:: { cls := Value.type "tuple", data := Data.seq #[Value.str (Str.ofString "text") 333, Value.str (Str.ofString "at") 334, Value.str (Str.ofString "found") 335, Value.str (Str.ofString "begin") 336] }
:: { cls := Value.type "tuple", data := Data.seq #[] }
:: { cls := Value.none, data := Data.func { name := Str.ofString "run_of_figures", qualname := Str.ofString "run_of_figures", params := vp19, body := FuncBody.stmts vb19, scope := vc19, globals := 0, closure := [], defaults := Value.none, kwdefaults := Value.none } }
:: { cls := Value.type "code", data := Data.fields #[Value.str (Str.ofString "run_of_figures") 330, Value.str (Str.ofString "run_of_figures") 331, Value.str (Str.ofString "/claim/cut.py") 332, Value.int 82 0, Value.int 2 0, Value.int 0 0, Value.int 0 0, Value.int 3 0, Value.ref 109, Value.bool true, Value.int 181 0, Value.ref 110, Value.none, Value.ref 111, Value.ref 112, Value.ref 113, Value.int 337 0, Value.int 82 0, Value.str (Str.ofString "/claim/cut.py") 338] }
:: { cls := Value.type "function", data := Data.func { name := Str.ofString "run_of_figures", qualname := Str.ofString "run_of_figures", params := vp19, body := FuncBody.stmts vb19, scope := vc19, globals := 3, closure := [], defaults := Value.none, kwdefaults := Value.none, pyModule := Value.str (Str.ofString "basicplus.decimals") 276, code := Value.ref 114 } }
:: { cls := Value.type "tuple", data := Data.seq #[] }
:: { cls := Value.none, data := Data.fields #[] }
:: { cls := Value.type "tuple", data := Data.seq #[Value.str (Str.ofString "text") 343, Value.str (Str.ofString "at") 344, Value.str (Str.ofString "begin") 345, Value.str (Str.ofString "sign") 346, Value.str (Str.ofString "found") 347, Value.str (Str.ofString "many") 348, Value.str (Str.ofString "end") 349] }
:: { cls := Value.type "tuple", data := Data.seq #[] }
:: { cls := Value.none, data := Data.func { name := Str.ofString "exponent_at", qualname := Str.ofString "exponent_at", params := vp20, body := FuncBody.stmts vb20, scope := vc20, globals := 0, closure := [], defaults := Value.none, kwdefaults := Value.none } }
:: { cls := Value.type "code", data := Data.fields #[Value.str (Str.ofString "exponent_at") 340, Value.str (Str.ofString "exponent_at") 341, Value.str (Str.ofString "/claim/cut.py") 342, Value.int 88 0, Value.int 2 0, Value.int 0 0, Value.int 0 0, Value.int 3 0, Value.ref 116, Value.bool true, Value.int 181 0, Value.ref 117, Value.none, Value.ref 118, Value.ref 119, Value.ref 120, Value.int 350 0, Value.int 88 0, Value.str (Str.ofString "/claim/cut.py") 351] }
:: { cls := Value.type "function", data := Data.func { name := Str.ofString "exponent_at", qualname := Str.ofString "exponent_at", params := vp20, body := FuncBody.stmts vb20, scope := vc20, globals := 3, closure := [], defaults := Value.none, kwdefaults := Value.none, pyModule := Value.str (Str.ofString "basicplus.decimals") 276, code := Value.ref 121 } }
:: { cls := Value.type "tuple", data := Data.seq #[] }
:: { cls := Value.none, data := Data.fields #[] }
:: { cls := Value.type "tuple", data := Data.seq #[Value.str (Str.ofString "text") 356, Value.str (Str.ofString "digits") 357, Value.str (Str.ofString "at") 358, Value.str (Str.ofString "is_below") 359, Value.str (Str.ofString "found") 360, Value.str (Str.ofString "ahead") 361, Value.str (Str.ofString "behind") 362, Value.str (Str.ofString "more") 363, Value.str (Str.ofString "end") 364, Value.str (Str.ofString "exponent") 365] }
:: { cls := Value.type "tuple", data := Data.seq #[] }
:: { cls := Value.none, data := Data.func { name := Str.ofString "d_of_text", qualname := Str.ofString "d_of_text", params := vp21, body := FuncBody.stmts vb21, scope := vc21, globals := 0, closure := [], defaults := Value.none, kwdefaults := Value.none } }
:: { cls := Value.type "code", data := Data.fields #[Value.str (Str.ofString "d_of_text") 353, Value.str (Str.ofString "d_of_text") 354, Value.str (Str.ofString "/claim/cut.py") 355, Value.int 99 0, Value.int 2 0, Value.int 0 0, Value.int 0 0, Value.int 3 0, Value.ref 123, Value.bool true, Value.int 181 0, Value.ref 124, Value.none, Value.ref 125, Value.ref 126, Value.ref 127, Value.int 366 0, Value.int 99 0, Value.str (Str.ofString "/claim/cut.py") 367] }
:: { cls := Value.type "function", data := Data.func { name := Str.ofString "d_of_text", qualname := Str.ofString "d_of_text", params := vp21, body := FuncBody.stmts vb21, scope := vc21, globals := 3, closure := [], defaults := Value.none, kwdefaults := Value.none, pyModule := Value.str (Str.ofString "basicplus.decimals") 276, code := Value.ref 128 } }
:: { cls := Value.type "tuple", data := Data.seq #[] }
:: { cls := Value.none, data := Data.fields #[] }
:: { cls := Value.type "tuple", data := Data.seq #[Value.str (Str.ofString "coefficient") 372, Value.str (Str.ofString "exponent") 373, Value.str (Str.ofString "digits") 374, Value.str (Str.ofString "top") 375] }
:: { cls := Value.type "tuple", data := Data.seq #[] }
:: { cls := Value.none, data := Data.func { name := Str.ofString "told_decimal", qualname := Str.ofString "told_decimal", params := vp22, body := FuncBody.stmts vb22, scope := vc22, globals := 0, closure := [], defaults := Value.none, kwdefaults := Value.none } }
:: { cls := Value.type "code", data := Data.fields #[Value.str (Str.ofString "told_decimal") 369, Value.str (Str.ofString "told_decimal") 370, Value.str (Str.ofString "/claim/cut.py") 371, Value.int 115 0, Value.int 3 0, Value.int 0 0, Value.int 0 0, Value.int 3 0, Value.ref 130, Value.bool true, Value.int 181 0, Value.ref 131, Value.none, Value.ref 132, Value.ref 133, Value.ref 134, Value.int 376 0, Value.int 115 0, Value.str (Str.ofString "/claim/cut.py") 377] }
:: { cls := Value.type "function", data := Data.func { name := Str.ofString "told_decimal", qualname := Str.ofString "told_decimal", params := vp22, body := FuncBody.stmts vb22, scope := vc22, globals := 3, closure := [], defaults := Value.none, kwdefaults := Value.none, pyModule := Value.str (Str.ofString "basicplus.decimals") 276, code := Value.ref 135 } }
:: { cls := Value.type "tuple", data := Data.seq #[] }
:: { cls := Value.none, data := Data.fields #[] }
:: { cls := Value.type "tuple", data := Data.seq #[Value.str (Str.ofString "value") 388, Value.str (Str.ofString "number") 389] }
:: { cls := Value.type "tuple", data := Data.seq #[] }
:: { cls := Value.none, data := Data.func { name := Str.ofString "size_told", qualname := Str.ofString "size_told", params := vp26, body := FuncBody.stmts vb26, scope := vc26, globals := 0, closure := [], defaults := Value.none, kwdefaults := Value.none } }
:: { cls := Value.type "code", data := Data.fields #[Value.str (Str.ofString "size_told") 385, Value.str (Str.ofString "size_told") 386, Value.str (Str.ofString "/claim/cut.py") 387, Value.int 125 0, Value.int 1 0, Value.int 0 0, Value.int 0 0, Value.int 3 0, Value.ref 137, Value.bool true, Value.int 181 0, Value.ref 138, Value.none, Value.ref 139, Value.ref 140, Value.ref 141, Value.int 390 0, Value.int 125 0, Value.str (Str.ofString "/claim/cut.py") 391] }
:: { cls := Value.type "function", data := Data.func { name := Str.ofString "size_told", qualname := Str.ofString "size_told", params := vp26, body := FuncBody.stmts vb26, scope := vc26, globals := 3, closure := [], defaults := Value.none, kwdefaults := Value.none, pyModule := Value.str (Str.ofString "basicplus.textfns") 379, code := Value.ref 142 } }
:: { cls := Value.type "tuple", data := Data.seq #[] }
:: { cls := Value.none, data := Data.fields #[] }
:: { cls := Value.type "tuple", data := Data.seq #[Value.str (Str.ofString "value") 396, Value.str (Str.ofString "number") 397] }
:: { cls := Value.type "tuple", data := Data.seq #[] }
:: { cls := Value.none, data := Data.func { name := Str.ofString "place_told", qualname := Str.ofString "place_told", params := vp27, body := FuncBody.stmts vb27, scope := vc27, globals := 0, closure := [], defaults := Value.none, kwdefaults := Value.none } }
:: { cls := Value.type "code", data := Data.fields #[Value.str (Str.ofString "place_told") 393, Value.str (Str.ofString "place_told") 394, Value.str (Str.ofString "/claim/cut.py") 395, Value.int 132 0, Value.int 1 0, Value.int 0 0, Value.int 0 0, Value.int 3 0, Value.ref 144, Value.bool true, Value.int 181 0, Value.ref 145, Value.none, Value.ref 146, Value.ref 147, Value.ref 148, Value.int 398 0, Value.int 132 0, Value.str (Str.ofString "/claim/cut.py") 399] }
:: { cls := Value.type "function", data := Data.func { name := Str.ofString "place_told", qualname := Str.ofString "place_told", params := vp27, body := FuncBody.stmts vb27, scope := vc27, globals := 3, closure := [], defaults := Value.none, kwdefaults := Value.none, pyModule := Value.str (Str.ofString "basicplus.textfns") 379, code := Value.ref 149 } }
:: { cls := Value.type "tuple", data := Data.seq #[] }
:: { cls := Value.none, data := Data.fields #[] }
:: { cls := Value.type "tuple", data := Data.seq #[Value.str (Str.ofString "value") 404, Value.str (Str.ofString "digits") 405] }
:: { cls := Value.type "tuple", data := Data.seq #[] }
:: { cls := Value.none, data := Data.func { name := Str.ofString "number_text", qualname := Str.ofString "number_text", params := vp28, body := FuncBody.stmts vb28, scope := vc28, globals := 0, closure := [], defaults := Value.none, kwdefaults := Value.none } }
:: { cls := Value.type "code", data := Data.fields #[Value.str (Str.ofString "number_text") 401, Value.str (Str.ofString "number_text") 402, Value.str (Str.ofString "/claim/cut.py") 403, Value.int 137 0, Value.int 2 0, Value.int 0 0, Value.int 0 0, Value.int 3 0, Value.ref 151, Value.bool true, Value.int 181 0, Value.ref 152, Value.none, Value.ref 153, Value.ref 154, Value.ref 155, Value.int 406 0, Value.int 137 0, Value.str (Str.ofString "/claim/cut.py") 407] }
:: { cls := Value.type "function", data := Data.func { name := Str.ofString "number_text", qualname := Str.ofString "number_text", params := vp28, body := FuncBody.stmts vb28, scope := vc28, globals := 3, closure := [], defaults := Value.none, kwdefaults := Value.none, pyModule := Value.str (Str.ofString "basicplus.textfns") 379, code := Value.ref 156 } }
:: { cls := Value.type "tuple", data := Data.seq #[] }
:: { cls := Value.none, data := Data.fields #[] }
:: { cls := Value.type "tuple", data := Data.seq #[Value.str (Str.ofString "text") 412, Value.str (Str.ofString "part") 413, Value.str (Str.ofString "begin") 414, Value.str (Str.ofString "at") 415] }
:: { cls := Value.type "tuple", data := Data.seq #[] }
:: { cls := Value.none, data := Data.func { name := Str.ofString "found_at", qualname := Str.ofString "found_at", params := vp29, body := FuncBody.stmts vb29, scope := vc29, globals := 0, closure := [], defaults := Value.none, kwdefaults := Value.none } }
:: { cls := Value.type "code", data := Data.fields #[Value.str (Str.ofString "found_at") 409, Value.str (Str.ofString "found_at") 410, Value.str (Str.ofString "/claim/cut.py") 411, Value.int 139 0, Value.int 3 0, Value.int 0 0, Value.int 0 0, Value.int 3 0, Value.ref 158, Value.bool true, Value.int 181 0, Value.ref 159, Value.none, Value.ref 160, Value.ref 161, Value.ref 162, Value.int 416 0, Value.int 139 0, Value.str (Str.ofString "/claim/cut.py") 417] }
:: { cls := Value.type "function", data := Data.func { name := Str.ofString "found_at", qualname := Str.ofString "found_at", params := vp29, body := FuncBody.stmts vb29, scope := vc29, globals := 3, closure := [], defaults := Value.none, kwdefaults := Value.none, pyModule := Value.str (Str.ofString "basicplus.textfns") 379, code := Value.ref 163 } }
:: { cls := Value.type "tuple", data := Data.seq #[] }
:: { cls := Value.none, data := Data.fields #[] }
:: { cls := Value.type "tuple", data := Data.seq #[Value.str (Str.ofString "text") 422, Value.str (Str.ofString "signs") 423, Value.str (Str.ofString "at") 424] }
:: { cls := Value.type "tuple", data := Data.seq #[] }
:: { cls := Value.none, data := Data.func { name := Str.ofString "from_left", qualname := Str.ofString "from_left", params := vp30, body := FuncBody.stmts vb30, scope := vc30, globals := 0, closure := [], defaults := Value.none, kwdefaults := Value.none } }
:: { cls := Value.type "code", data := Data.fields #[Value.str (Str.ofString "from_left") 419, Value.str (Str.ofString "from_left") 420, Value.str (Str.ofString "/claim/cut.py") 421, Value.int 146 0, Value.int 2 0, Value.int 0 0, Value.int 0 0, Value.int 3 0, Value.ref 165, Value.bool true, Value.int 181 0, Value.ref 166, Value.none, Value.ref 167, Value.ref 168, Value.ref 169, Value.int 425 0, Value.int 146 0, Value.str (Str.ofString "/claim/cut.py") 426] }
:: { cls := Value.type "function", data := Data.func { name := Str.ofString "from_left", qualname := Str.ofString "from_left", params := vp30, body := FuncBody.stmts vb30, scope := vc30, globals := 3, closure := [], defaults := Value.none, kwdefaults := Value.none, pyModule := Value.str (Str.ofString "basicplus.textfns") 379, code := Value.ref 170 } }
:: { cls := Value.type "tuple", data := Data.seq #[] }
:: { cls := Value.none, data := Data.fields #[] }
:: { cls := Value.type "tuple", data := Data.seq #[Value.str (Str.ofString "text") 431, Value.str (Str.ofString "signs") 432, Value.str (Str.ofString "end") 433] }
:: { cls := Value.type "tuple", data := Data.seq #[] }
:: { cls := Value.none, data := Data.func { name := Str.ofString "from_right", qualname := Str.ofString "from_right", params := vp31, body := FuncBody.stmts vb31, scope := vc31, globals := 0, closure := [], defaults := Value.none, kwdefaults := Value.none } }
:: { cls := Value.type "code", data := Data.fields #[Value.str (Str.ofString "from_right") 428, Value.str (Str.ofString "from_right") 429, Value.str (Str.ofString "/claim/cut.py") 430, Value.int 151 0, Value.int 2 0, Value.int 0 0, Value.int 0 0, Value.int 3 0, Value.ref 172, Value.bool true, Value.int 181 0, Value.ref 173, Value.none, Value.ref 174, Value.ref 175, Value.ref 176, Value.int 434 0, Value.int 151 0, Value.str (Str.ofString "/claim/cut.py") 435] }
:: { cls := Value.type "function", data := Data.func { name := Str.ofString "from_right", qualname := Str.ofString "from_right", params := vp31, body := FuncBody.stmts vb31, scope := vc31, globals := 3, closure := [], defaults := Value.none, kwdefaults := Value.none, pyModule := Value.str (Str.ofString "basicplus.textfns") 379, code := Value.ref 177 } }
:: { cls := Value.type "tuple", data := Data.seq #[] }
:: { cls := Value.none, data := Data.fields #[] }
:: { cls := Value.type "tuple", data := Data.seq #[Value.str (Str.ofString "sign") 440] }
:: { cls := Value.type "tuple", data := Data.seq #[] }
:: { cls := Value.none, data := Data.func { name := Str.ofString "great_sign", qualname := Str.ofString "great_sign", params := vp32, body := FuncBody.stmts vb32, scope := vc32, globals := 0, closure := [], defaults := Value.none, kwdefaults := Value.none } }
:: { cls := Value.type "code", data := Data.fields #[Value.str (Str.ofString "great_sign") 437, Value.str (Str.ofString "great_sign") 438, Value.str (Str.ofString "/claim/cut.py") 439, Value.int 156 0, Value.int 1 0, Value.int 0 0, Value.int 0 0, Value.int 3 0, Value.ref 179, Value.bool true, Value.int 181 0, Value.ref 180, Value.none, Value.ref 181, Value.ref 182, Value.ref 183, Value.int 441 0, Value.int 156 0, Value.str (Str.ofString "/claim/cut.py") 442] }
:: { cls := Value.type "function", data := Data.func { name := Str.ofString "great_sign", qualname := Str.ofString "great_sign", params := vp32, body := FuncBody.stmts vb32, scope := vc32, globals := 3, closure := [], defaults := Value.none, kwdefaults := Value.none, pyModule := Value.str (Str.ofString "basicplus.textfns") 379, code := Value.ref 184 } }
:: { cls := Value.type "tuple", data := Data.seq #[] }
:: { cls := Value.none, data := Data.fields #[] }
:: { cls := Value.type "tuple", data := Data.seq #[Value.str (Str.ofString "sign") 447] }
:: { cls := Value.type "tuple", data := Data.seq #[] }
:: { cls := Value.none, data := Data.func { name := Str.ofString "small_sign", qualname := Str.ofString "small_sign", params := vp33, body := FuncBody.stmts vb33, scope := vc33, globals := 0, closure := [], defaults := Value.none, kwdefaults := Value.none } }
:: { cls := Value.type "code", data := Data.fields #[Value.str (Str.ofString "small_sign") 444, Value.str (Str.ofString "small_sign") 445, Value.str (Str.ofString "/claim/cut.py") 446, Value.int 158 0, Value.int 1 0, Value.int 0 0, Value.int 0 0, Value.int 3 0, Value.ref 186, Value.bool true, Value.int 181 0, Value.ref 187, Value.none, Value.ref 188, Value.ref 189, Value.ref 190, Value.int 448 0, Value.int 158 0, Value.str (Str.ofString "/claim/cut.py") 449] }
:: { cls := Value.type "function", data := Data.func { name := Str.ofString "small_sign", qualname := Str.ofString "small_sign", params := vp33, body := FuncBody.stmts vb33, scope := vc33, globals := 3, closure := [], defaults := Value.none, kwdefaults := Value.none, pyModule := Value.str (Str.ofString "basicplus.textfns") 379, code := Value.ref 191 } }
:: { cls := Value.type "tuple", data := Data.seq #[] }
:: { cls := Value.none, data := Data.fields #[] }
:: { cls := Value.type "tuple", data := Data.seq #[Value.str (Str.ofString "sign") 454, Value.str (Str.ofString "flags") 455] }
:: { cls := Value.type "tuple", data := Data.seq #[] }
:: { cls := Value.none, data := Data.func { name := Str.ofString "edited_sign", qualname := Str.ofString "edited_sign", params := vp34, body := FuncBody.stmts vb34, scope := vc34, globals := 0, closure := [], defaults := Value.none, kwdefaults := Value.none } }
:: { cls := Value.type "code", data := Data.fields #[Value.str (Str.ofString "edited_sign") 451, Value.str (Str.ofString "edited_sign") 452, Value.str (Str.ofString "/claim/cut.py") 453, Value.int 160 0, Value.int 2 0, Value.int 0 0, Value.int 0 0, Value.int 3 0, Value.ref 193, Value.bool true, Value.int 181 0, Value.ref 194, Value.none, Value.ref 195, Value.ref 196, Value.ref 197, Value.int 456 0, Value.int 160 0, Value.str (Str.ofString "/claim/cut.py") 457] }
:: { cls := Value.type "function", data := Data.func { name := Str.ofString "edited_sign", qualname := Str.ofString "edited_sign", params := vp34, body := FuncBody.stmts vb34, scope := vc34, globals := 3, closure := [], defaults := Value.none, kwdefaults := Value.none, pyModule := Value.str (Str.ofString "basicplus.textfns") 379, code := Value.ref 198 } }
:: { cls := Value.type "tuple", data := Data.seq #[] }
:: { cls := Value.none, data := Data.fields #[] }
:: { cls := Value.type "tuple", data := Data.seq #[Value.str (Str.ofString "text") 462, Value.str (Str.ofString "flags") 463, Value.str (Str.ofString "found") 464, Value.str (Str.ofString "quote") 465, Value.str (Str.ofString "sign") 466, Value.str (Str.ofString "told") 467] }
:: { cls := Value.type "tuple", data := Data.seq #[] }
:: { cls := Value.none, data := Data.func { name := Str.ofString "edited", qualname := Str.ofString "edited", params := vp35, body := FuncBody.stmts vb35, scope := vc35, globals := 0, closure := [], defaults := Value.none, kwdefaults := Value.none } }
:: { cls := Value.type "code", data := Data.fields #[Value.str (Str.ofString "edited") 459, Value.str (Str.ofString "edited") 460, Value.str (Str.ofString "/claim/cut.py") 461, Value.int 168 0, Value.int 2 0, Value.int 0 0, Value.int 0 0, Value.int 3 0, Value.ref 200, Value.bool true, Value.int 181 0, Value.ref 201, Value.none, Value.ref 202, Value.ref 203, Value.ref 204, Value.int 468 0, Value.int 168 0, Value.str (Str.ofString "/claim/cut.py") 469] }
:: { cls := Value.type "function", data := Data.func { name := Str.ofString "edited", qualname := Str.ofString "edited", params := vp35, body := FuncBody.stmts vb35, scope := vc35, globals := 3, closure := [], defaults := Value.none, kwdefaults := Value.none, pyModule := Value.str (Str.ofString "basicplus.textfns") 379, code := Value.ref 205 } }
:: { cls := Value.type "tuple", data := Data.seq #[] }
:: { cls := Value.none, data := Data.fields #[] }
:: { cls := Value.type "tuple", data := Data.seq #[Value.str (Str.ofString "text") 474, Value.str (Str.ofString "table") 475, Value.str (Str.ofString "found") 476, Value.str (Str.ofString "sign") 477] }
:: { cls := Value.type "tuple", data := Data.seq #[] }
:: { cls := Value.none, data := Data.func { name := Str.ofString "led_by_table", qualname := Str.ofString "led_by_table", params := vp36, body := FuncBody.stmts vb36, scope := vc36, globals := 0, closure := [], defaults := Value.none, kwdefaults := Value.none } }
:: { cls := Value.type "code", data := Data.fields #[Value.str (Str.ofString "led_by_table") 471, Value.str (Str.ofString "led_by_table") 472, Value.str (Str.ofString "/claim/cut.py") 473, Value.int 187 0, Value.int 2 0, Value.int 0 0, Value.int 0 0, Value.int 3 0, Value.ref 207, Value.bool true, Value.int 181 0, Value.ref 208, Value.none, Value.ref 209, Value.ref 210, Value.ref 211, Value.int 478 0, Value.int 187 0, Value.str (Str.ofString "/claim/cut.py") 479] }
:: { cls := Value.type "function", data := Data.func { name := Str.ofString "led_by_table", qualname := Str.ofString "led_by_table", params := vp36, body := FuncBody.stmts vb36, scope := vc36, globals := 3, closure := [], defaults := Value.none, kwdefaults := Value.none, pyModule := Value.str (Str.ofString "basicplus.textfns") 379, code := Value.ref 212 } }
:: { cls := Value.type "tuple", data := Data.seq #[] }
:: { cls := Value.none, data := Data.fields #[] }
:: { cls := Value.type "tuple", data := Data.seq #[Value.str (Str.ofString "world") 484, Value.str (Str.ofString "args") 485, Value.str (Str.ofString "found") 486] }
:: { cls := Value.type "tuple", data := Data.seq #[] }
:: { cls := Value.none, data := Data.func { name := Str.ofString "text_val", qualname := Str.ofString "text_val", params := vp37, body := FuncBody.stmts vb37, scope := vc37, globals := 0, closure := [], defaults := Value.none, kwdefaults := Value.none } }
:: { cls := Value.type "code", data := Data.fields #[Value.str (Str.ofString "text_val") 481, Value.str (Str.ofString "text_val") 482, Value.str (Str.ofString "/claim/cut.py") 483, Value.int 193 0, Value.int 2 0, Value.int 0 0, Value.int 0 0, Value.int 3 0, Value.ref 214, Value.bool true, Value.int 181 0, Value.ref 215, Value.none, Value.ref 216, Value.ref 217, Value.ref 218, Value.int 487 0, Value.int 193 0, Value.str (Str.ofString "/claim/cut.py") 488] }
:: { cls := Value.type "function", data := Data.func { name := Str.ofString "text_val", qualname := Str.ofString "text_val", params := vp37, body := FuncBody.stmts vb37, scope := vc37, globals := 3, closure := [], defaults := Value.none, kwdefaults := Value.none, pyModule := Value.str (Str.ofString "basicplus.textfns") 379, code := Value.ref 219 } }
:: { cls := Value.type "tuple", data := Data.seq #[] }
:: { cls := Value.none, data := Data.fields #[] }
:: { cls := Value.type "tuple", data := Data.seq #[Value.str (Str.ofString "world") 493, Value.str (Str.ofString "args") 494, Value.str (Str.ofString "text") 495] }
:: { cls := Value.type "tuple", data := Data.seq #[] }
:: { cls := Value.none, data := Data.func { name := Str.ofString "text_left", qualname := Str.ofString "text_left", params := vp38, body := FuncBody.stmts vb38, scope := vc38, globals := 0, closure := [], defaults := Value.none, kwdefaults := Value.none } }
:: { cls := Value.type "code", data := Data.fields #[Value.str (Str.ofString "text_left") 490, Value.str (Str.ofString "text_left") 491, Value.str (Str.ofString "/claim/cut.py") 492, Value.int 196 0, Value.int 2 0, Value.int 0 0, Value.int 0 0, Value.int 3 0, Value.ref 221, Value.bool true, Value.int 181 0, Value.ref 222, Value.none, Value.ref 223, Value.ref 224, Value.ref 225, Value.int 496 0, Value.int 196 0, Value.str (Str.ofString "/claim/cut.py") 497] }
:: { cls := Value.type "function", data := Data.func { name := Str.ofString "text_left", qualname := Str.ofString "text_left", params := vp38, body := FuncBody.stmts vb38, scope := vc38, globals := 3, closure := [], defaults := Value.none, kwdefaults := Value.none, pyModule := Value.str (Str.ofString "basicplus.textfns") 379, code := Value.ref 226 } }
:: { cls := Value.type "tuple", data := Data.seq #[] }
:: { cls := Value.none, data := Data.fields #[] }
:: { cls := Value.type "tuple", data := Data.seq #[Value.str (Str.ofString "world") 502, Value.str (Str.ofString "args") 503, Value.str (Str.ofString "text") 504, Value.str (Str.ofString "many") 505] }
:: { cls := Value.type "tuple", data := Data.seq #[] }
:: { cls := Value.none, data := Data.func { name := Str.ofString "text_right", qualname := Str.ofString "text_right", params := vp39, body := FuncBody.stmts vb39, scope := vc39, globals := 0, closure := [], defaults := Value.none, kwdefaults := Value.none } }
:: { cls := Value.type "code", data := Data.fields #[Value.str (Str.ofString "text_right") 499, Value.str (Str.ofString "text_right") 500, Value.str (Str.ofString "/claim/cut.py") 501, Value.int 199 0, Value.int 2 0, Value.int 0 0, Value.int 0 0, Value.int 3 0, Value.ref 228, Value.bool true, Value.int 181 0, Value.ref 229, Value.none, Value.ref 230, Value.ref 231, Value.ref 232, Value.int 506 0, Value.int 199 0, Value.str (Str.ofString "/claim/cut.py") 507] }
:: { cls := Value.type "function", data := Data.func { name := Str.ofString "text_right", qualname := Str.ofString "text_right", params := vp39, body := FuncBody.stmts vb39, scope := vc39, globals := 3, closure := [], defaults := Value.none, kwdefaults := Value.none, pyModule := Value.str (Str.ofString "basicplus.textfns") 379, code := Value.ref 233 } }
:: { cls := Value.type "tuple", data := Data.seq #[] }
:: { cls := Value.none, data := Data.fields #[] }
:: { cls := Value.type "tuple", data := Data.seq #[Value.str (Str.ofString "world") 512, Value.str (Str.ofString "args") 513, Value.str (Str.ofString "text") 514, Value.str (Str.ofString "begin") 515, Value.str (Str.ofString "many") 516] }
:: { cls := Value.type "tuple", data := Data.seq #[] }
:: { cls := Value.none, data := Data.func { name := Str.ofString "text_mid", qualname := Str.ofString "text_mid", params := vp40, body := FuncBody.stmts vb40, scope := vc40, globals := 0, closure := [], defaults := Value.none, kwdefaults := Value.none } }
:: { cls := Value.type "code", data := Data.fields #[Value.str (Str.ofString "text_mid") 509, Value.str (Str.ofString "text_mid") 510, Value.str (Str.ofString "/claim/cut.py") 511, Value.int 202 0, Value.int 2 0, Value.int 0 0, Value.int 0 0, Value.int 3 0, Value.ref 235, Value.bool true, Value.int 181 0, Value.ref 236, Value.none, Value.ref 237, Value.ref 238, Value.ref 239, Value.int 517 0, Value.int 202 0, Value.str (Str.ofString "/claim/cut.py") 518] }
:: { cls := Value.type "function", data := Data.func { name := Str.ofString "text_mid", qualname := Str.ofString "text_mid", params := vp40, body := FuncBody.stmts vb40, scope := vc40, globals := 3, closure := [], defaults := Value.none, kwdefaults := Value.none, pyModule := Value.str (Str.ofString "basicplus.textfns") 379, code := Value.ref 240 } }
:: { cls := Value.type "tuple", data := Data.seq #[] }
:: { cls := Value.none, data := Data.fields #[] }
:: { cls := Value.none, data := Data.func { name := Str.ofString "text_seg", qualname := Str.ofString "text_seg", params := vp41, body := FuncBody.stmts vb41, scope := vc41, globals := 0, closure := [], defaults := Value.none, kwdefaults := Value.none } }
:: { cls := Value.type "code", data := Data.fields #[Value.str (Str.ofString "text_seg") 520, Value.str (Str.ofString "text_seg") 521, Value.str (Str.ofString "/claim/cut.py") 522, Value.int 206 0, Value.int 2 0, Value.int 0 0, Value.int 0 0, Value.int 3 0, Value.ref 242, Value.bool true, Value.int 181 0, Value.ref 243, Value.none, Value.none, Value.none, Value.ref 244, Value.int 523 0, Value.int 206 0, Value.str (Str.ofString "/claim/cut.py") 524] }
:: { cls := Value.type "function", data := Data.func { name := Str.ofString "text_seg", qualname := Str.ofString "text_seg", params := vp41, body := FuncBody.stmts vb41, scope := vc41, globals := 3, closure := [], defaults := Value.none, kwdefaults := Value.none, pyModule := Value.str (Str.ofString "basicplus.textfns") 379, code := Value.ref 245 } }
:: { cls := Value.type "tuple", data := Data.seq #[] }
:: { cls := Value.none, data := Data.fields #[] }
:: { cls := Value.type "tuple", data := Data.seq #[Value.str (Str.ofString "world") 529, Value.str (Str.ofString "args") 530] }
:: { cls := Value.type "tuple", data := Data.seq #[] }
:: { cls := Value.none, data := Data.func { name := Str.ofString "text_str", qualname := Str.ofString "text_str", params := vp42, body := FuncBody.stmts vb42, scope := vc42, globals := 0, closure := [], defaults := Value.none, kwdefaults := Value.none } }
:: { cls := Value.type "code", data := Data.fields #[Value.str (Str.ofString "text_str") 526, Value.str (Str.ofString "text_str") 527, Value.str (Str.ofString "/claim/cut.py") 528, Value.int 213 0, Value.int 2 0, Value.int 0 0, Value.int 0 0, Value.int 3 0, Value.ref 247, Value.bool true, Value.int 181 0, Value.ref 248, Value.none, Value.ref 249, Value.ref 250, Value.ref 251, Value.int 531 0, Value.int 213 0, Value.str (Str.ofString "/claim/cut.py") 532] }
:: { cls := Value.type "function", data := Data.func { name := Str.ofString "text_str", qualname := Str.ofString "text_str", params := vp42, body := FuncBody.stmts vb42, scope := vc42, globals := 3, closure := [], defaults := Value.none, kwdefaults := Value.none, pyModule := Value.str (Str.ofString "basicplus.textfns") 379, code := Value.ref 252 } }
:: { cls := Value.type "tuple", data := Data.seq #[] }
:: { cls := Value.none, data := Data.fields #[] }
:: { cls := Value.type "tuple", data := Data.seq #[Value.str (Str.ofString "world") 537, Value.str (Str.ofString "args") 538, Value.str (Str.ofString "many") 539] }
:: { cls := Value.type "tuple", data := Data.seq #[] }
:: { cls := Value.none, data := Data.func { name := Str.ofString "text_string", qualname := Str.ofString "text_string", params := vp43, body := FuncBody.stmts vb43, scope := vc43, globals := 0, closure := [], defaults := Value.none, kwdefaults := Value.none } }
:: { cls := Value.type "code", data := Data.fields #[Value.str (Str.ofString "text_string") 534, Value.str (Str.ofString "text_string") 535, Value.str (Str.ofString "/claim/cut.py") 536, Value.int 217 0, Value.int 2 0, Value.int 0 0, Value.int 0 0, Value.int 3 0, Value.ref 254, Value.bool true, Value.int 181 0, Value.ref 255, Value.none, Value.ref 256, Value.ref 257, Value.ref 258, Value.int 540 0, Value.int 217 0, Value.str (Str.ofString "/claim/cut.py") 541] }
:: { cls := Value.type "function", data := Data.func { name := Str.ofString "text_string", qualname := Str.ofString "text_string", params := vp43, body := FuncBody.stmts vb43, scope := vc43, globals := 3, closure := [], defaults := Value.none, kwdefaults := Value.none, pyModule := Value.str (Str.ofString "basicplus.textfns") 379, code := Value.ref 259 } }
:: { cls := Value.type "tuple", data := Data.seq #[] }
:: { cls := Value.none, data := Data.fields #[] }
:: { cls := Value.none, data := Data.func { name := Str.ofString "text_ucase", qualname := Str.ofString "text_ucase", params := vp44, body := FuncBody.stmts vb44, scope := vc44, globals := 0, closure := [], defaults := Value.none, kwdefaults := Value.none } }
:: { cls := Value.type "code", data := Data.fields #[Value.str (Str.ofString "text_ucase") 543, Value.str (Str.ofString "text_ucase") 544, Value.str (Str.ofString "/claim/cut.py") 545, Value.int 224 0, Value.int 2 0, Value.int 0 0, Value.int 0 0, Value.int 3 0, Value.ref 261, Value.bool true, Value.int 181 0, Value.ref 262, Value.none, Value.none, Value.none, Value.ref 263, Value.int 546 0, Value.int 224 0, Value.str (Str.ofString "/claim/cut.py") 547] }
:: { cls := Value.type "function", data := Data.func { name := Str.ofString "text_ucase", qualname := Str.ofString "text_ucase", params := vp44, body := FuncBody.stmts vb44, scope := vc44, globals := 3, closure := [], defaults := Value.none, kwdefaults := Value.none, pyModule := Value.str (Str.ofString "basicplus.textfns") 379, code := Value.ref 264 } }
:: { cls := Value.type "tuple", data := Data.seq #[] }
:: { cls := Value.none, data := Data.fields #[] }
:: { cls := Value.none, data := Data.func { name := Str.ofString "text_lcase", qualname := Str.ofString "text_lcase", params := vp45, body := FuncBody.stmts vb45, scope := vc45, globals := 0, closure := [], defaults := Value.none, kwdefaults := Value.none } }
:: { cls := Value.type "code", data := Data.fields #[Value.str (Str.ofString "text_lcase") 549, Value.str (Str.ofString "text_lcase") 550, Value.str (Str.ofString "/claim/cut.py") 551, Value.int 226 0, Value.int 2 0, Value.int 0 0, Value.int 0 0, Value.int 3 0, Value.ref 266, Value.bool true, Value.int 181 0, Value.ref 267, Value.none, Value.none, Value.none, Value.ref 268, Value.int 552 0, Value.int 226 0, Value.str (Str.ofString "/claim/cut.py") 553] }
:: { cls := Value.type "function", data := Data.func { name := Str.ofString "text_lcase", qualname := Str.ofString "text_lcase", params := vp45, body := FuncBody.stmts vb45, scope := vc45, globals := 3, closure := [], defaults := Value.none, kwdefaults := Value.none, pyModule := Value.str (Str.ofString "basicplus.textfns") 379, code := Value.ref 269 } }
:: { cls := Value.type "tuple", data := Data.seq #[] }
:: { cls := Value.none, data := Data.fields #[] }
:: { cls := Value.type "tuple", data := Data.seq #[Value.str (Str.ofString "world") 558, Value.str (Str.ofString "args") 559] }
:: { cls := Value.type "tuple", data := Data.seq #[] }
:: { cls := Value.none, data := Data.func { name := Str.ofString "text_ltrim", qualname := Str.ofString "text_ltrim", params := vp46, body := FuncBody.stmts vb46, scope := vc46, globals := 0, closure := [], defaults := Value.none, kwdefaults := Value.none } }
:: { cls := Value.type "code", data := Data.fields #[Value.str (Str.ofString "text_ltrim") 555, Value.str (Str.ofString "text_ltrim") 556, Value.str (Str.ofString "/claim/cut.py") 557, Value.int 228 0, Value.int 2 0, Value.int 0 0, Value.int 0 0, Value.int 3 0, Value.ref 271, Value.bool true, Value.int 181 0, Value.ref 272, Value.none, Value.ref 273, Value.ref 274, Value.ref 275, Value.int 560 0, Value.int 228 0, Value.str (Str.ofString "/claim/cut.py") 561] }
:: { cls := Value.type "function", data := Data.func { name := Str.ofString "text_ltrim", qualname := Str.ofString "text_ltrim", params := vp46, body := FuncBody.stmts vb46, scope := vc46, globals := 3, closure := [], defaults := Value.none, kwdefaults := Value.none, pyModule := Value.str (Str.ofString "basicplus.textfns") 379, code := Value.ref 276 } }
:: { cls := Value.type "tuple", data := Data.seq #[] }
:: { cls := Value.none, data := Data.fields #[] }
:: { cls := Value.type "tuple", data := Data.seq #[Value.str (Str.ofString "world") 566, Value.str (Str.ofString "args") 567] }
:: { cls := Value.type "tuple", data := Data.seq #[] }
:: { cls := Value.none, data := Data.func { name := Str.ofString "text_rtrim", qualname := Str.ofString "text_rtrim", params := vp47, body := FuncBody.stmts vb47, scope := vc47, globals := 0, closure := [], defaults := Value.none, kwdefaults := Value.none } }
:: { cls := Value.type "code", data := Data.fields #[Value.str (Str.ofString "text_rtrim") 563, Value.str (Str.ofString "text_rtrim") 564, Value.str (Str.ofString "/claim/cut.py") 565, Value.int 230 0, Value.int 2 0, Value.int 0 0, Value.int 0 0, Value.int 3 0, Value.ref 278, Value.bool true, Value.int 181 0, Value.ref 279, Value.none, Value.ref 280, Value.ref 281, Value.ref 282, Value.int 568 0, Value.int 230 0, Value.str (Str.ofString "/claim/cut.py") 569] }
:: { cls := Value.type "function", data := Data.func { name := Str.ofString "text_rtrim", qualname := Str.ofString "text_rtrim", params := vp47, body := FuncBody.stmts vb47, scope := vc47, globals := 3, closure := [], defaults := Value.none, kwdefaults := Value.none, pyModule := Value.str (Str.ofString "basicplus.textfns") 379, code := Value.ref 283 } }
:: { cls := Value.type "tuple", data := Data.seq #[] }
:: { cls := Value.type "builtin_function_or_method", data := Data.fields #[Value.builtin "type.__prepare__", Value.type "type"] }
:: { cls := Value.type "dict", data := Data.dict #[{ hash := PyData.keyHash P (Str.ofString "__module__"), key := Value.str (Str.ofString "__module__") 580, val := Value.str (Str.ofString "basicplus.world") 571 }, { hash := PyData.keyHash P (Str.ofString "__qualname__"), key := Value.str (Str.ofString "__qualname__") 582, val := Value.str (Str.ofString "World") 581 }, { hash := PyData.keyHash P (Str.ofString "__firstlineno__"), key := Value.str (Str.ofString "__firstlineno__") 584, val := Value.int 233 583 }, { hash := PyData.keyHash P (Str.ofString "__init__"), key := Value.str (Str.ofString "__init__") 601, val := Value.ref 299 }, { hash := PyData.keyHash P (Str.ofString "__static_attributes__"), key := Value.str (Str.ofString "__static_attributes__") 630, val := Value.ref 300 }] 5 }
:: { cls := Value.type "tuple", data := Data.seq #[] }
:: { cls := Value.none, data := Data.fields #[Value.int 235 0, Value.int 4 0, Value.ref 298] }
:: { cls := Value.type "code", data := Data.fields #[Value.str (Str.ofString "World") 575, Value.str (Str.ofString "World") 576, Value.str (Str.ofString "/claim/cut.py") 577, Value.int 233 0, Value.int 0 0, Value.int 0 0, Value.int 0 0, Value.int 0 0, Value.ref 288, Value.bool false, Value.int 181 0, Value.ref 289, Value.none, Value.none, Value.none, Value.none, Value.int 578 0, Value.int 233 0, Value.str (Str.ofString "/claim/cut.py") 579] }
:: { cls := Value.type "frame", slots := #[some (Value.ref 290), some (Value.ref 3), some (Value.ref 287), none, some (Value.str (Str.ofString "basicplus.world") 571), none, some (Value.ref 0)] }
:: { cls := Value.type "tuple", data := Data.seq #[Value.int 16 585, Value.int 9 586, Value.int 2000 587, Value.int 20 588, Value.int 2000 589] }
:: { cls := Value.type "tuple", data := Data.seq #[] }
:: { cls := Value.none, data := Data.fields #[] }
:: { cls := Value.type "tuple", data := Data.seq #[Value.str (Str.ofString "self") 593, Value.str (Str.ofString "bits") 594, Value.str (Str.ofString "digits") 595, Value.str (Str.ofString "most_steps") 596, Value.str (Str.ofString "most_depth") 597, Value.str (Str.ofString "room") 598] }
:: { cls := Value.type "tuple", data := Data.seq #[] }
:: { cls := Value.none, data := Data.func { name := Str.ofString "__init__", qualname := Str.ofString "World.__init__", params := vp49m0, body := FuncBody.stmts vb49m0, scope := vc49m0, globals := 0, closure := [], defaults := Value.none, kwdefaults := Value.none } }
:: { cls := Value.type "code", data := Data.fields #[Value.str (Str.ofString "__init__") 590, Value.str (Str.ofString "World.__init__") 591, Value.str (Str.ofString "/claim/cut.py") 592, Value.int 235 0, Value.int 6 0, Value.int 0 0, Value.int 0 0, Value.int 3 0, Value.ref 293, Value.bool true, Value.int 181 0, Value.ref 294, Value.none, Value.ref 295, Value.ref 296, Value.ref 297, Value.int 599 0, Value.int 235 0, Value.str (Str.ofString "/claim/cut.py") 600] }
:: { cls := Value.type "function", data := Data.func { name := Str.ofString "__init__", qualname := Str.ofString "World.__init__", params := vp49m0, body := FuncBody.stmts vb49m0, scope := vc49m0, globals := 3, closure := [], defaults := Value.ref 292, kwdefaults := Value.none, pyModule := Value.str (Str.ofString "basicplus.world") 571, code := Value.ref 298 } }
:: { cls := Value.type "tuple", data := Data.seq #[Value.str (Str.ofString "arrays") 602, Value.str (Str.ofString "base") 603, Value.str (Str.ofString "bits") 604, Value.str (Str.ofString "common") 605, Value.str (Str.ofString "data") 606, Value.str (Str.ofString "depth") 607, Value.str (Str.ofString "digits") 608, Value.str (Str.ofString "error_code") 609, Value.str (Str.ofString "error_line") 610, Value.str (Str.ofString "fields") 611, Value.str (Str.ofString "files") 612, Value.str (Str.ofString "fns") 613, Value.str (Str.ofString "handler") 614, Value.str (Str.ofString "inputs") 615, Value.str (Str.ofString "is_handling") 616, Value.str (Str.ofString "is_traced") 617, Value.str (Str.ofString "kinds") 618, Value.str (Str.ofString "most_depth") 619, Value.str (Str.ofString "most_steps") 620, Value.str (Str.ofString "names") 621, Value.str (Str.ofString "open") 622, Value.str (Str.ofString "out") 623, Value.str (Str.ofString "room") 624, Value.str (Str.ofString "row") 625, Value.str (Str.ofString "seed") 626, Value.str (Str.ofString "spot") 627, Value.str (Str.ofString "steps") 628, Value.str (Str.ofString "traces") 629] }
:: { cls := Value.type "dict", data := Data.dict #[{ hash := PyData.keyHash P (Str.ofString "__module__"), key := Value.str (Str.ofString "__module__") 580, val := Value.str (Str.ofString "basicplus.world") 571 }, { hash := PyData.keyHash P (Str.ofString "__firstlineno__"), key := Value.str (Str.ofString "__firstlineno__") 584, val := Value.int 233 583 }, { hash := PyData.keyHash P (Str.ofString "__init__"), key := Value.str (Str.ofString "__init__") 601, val := Value.ref 299 }, { hash := PyData.keyHash P (Str.ofString "__static_attributes__"), key := Value.str (Str.ofString "__static_attributes__") 630, val := Value.ref 300 }, { hash := PyData.keyHash P (Str.ofString "__dict__"), key := Value.str (Str.ofString "__dict__") 632, val := Value.ref 303 }, { hash := PyData.keyHash P (Str.ofString "__weakref__"), key := Value.str (Str.ofString "__weakref__") 634, val := Value.ref 304 }, { hash := PyData.keyHash P (Str.ofString "__doc__"), key := Value.str (Str.ofString "__doc__") 635, val := Value.none }] 4 }
:: { cls := Value.type "type", data := Data.cls { name := Str.ofString "World", bases := [Value.type "object"], mro := [Value.ref 302, Value.type "object"], ns := 301, qualname := Str.ofString "World" }, slots := #[none, none, some (Value.str (Str.ofString "World") 573), some (Value.str (Str.ofString "World") 581), some (Value.builtin "object.__new__"), some (Value.bool true)] }
:: { cls := Value.type "getset_descriptor", data := Data.fields #[Value.str (Str.ofString "__dict__") 631, Value.ref 302, Value.builtin "function.__dict__", Value.builtin "function.__dict__#set"] }
:: { cls := Value.type "getset_descriptor", data := Data.fields #[Value.str (Str.ofString "__weakref__") 633, Value.ref 302, Value.builtin "ExceptionGroup.__weakref__", Value.none] }
:: { cls := Value.type "super", data := Data.fields #[Value.ref 302, Value.ref 302, Value.ref 302] }
:: { cls := Value.type "builtin_function_or_method", data := Data.fields #[Value.builtin "object.__init_subclass__", Value.ref 302] }
:: { cls := Value.type "tuple", data := Data.seq #[] }
:: { cls := Value.none, data := Data.fields #[] }
:: { cls := Value.type "tuple", data := Data.seq #[Value.str (Str.ofString "jar") 643, Value.str (Str.ofString "many") 644, Value.str (Str.ofString "now") 645] }
:: { cls := Value.type "tuple", data := Data.seq #[] }
:: { cls := Value.none, data := Data.func { name := Str.ofString "_law_draw", qualname := Str.ofString "_law_draw", params := vp51, body := FuncBody.stmts vb51, scope := vc51, globals := 0, closure := [], defaults := Value.none, kwdefaults := Value.none } }
:: { cls := Value.type "code", data := Data.fields #[Value.str (Str.ofString "_law_draw") 640, Value.str (Str.ofString "_law_draw") 641, Value.str (Str.ofString "/claim/cut.py") 642, Value.int 265 0, Value.int 2 0, Value.int 0 0, Value.int 0 0, Value.int 3 0, Value.ref 307, Value.bool true, Value.int 181 0, Value.ref 308, Value.none, Value.ref 309, Value.ref 310, Value.ref 311, Value.int 646 0, Value.int 265 0, Value.str (Str.ofString "/claim/cut.py") 647] }
:: { cls := Value.type "function", data := Data.func { name := Str.ofString "_law_draw", qualname := Str.ofString "_law_draw", params := vp51, body := FuncBody.stmts vb51, scope := vc51, globals := 3, closure := [], defaults := Value.none, kwdefaults := Value.none, pyModule := Value.str (Str.ofString "law_pq0179_01") 638, code := Value.ref 312 } }
:: { cls := Value.type "tuple", data := Data.seq #[] }
:: { cls := Value.none, data := Data.fields #[] }
:: { cls := Value.none, data := Data.func { name := Str.ofString "_law_text", qualname := Str.ofString "_law_text", params := vp52, body := FuncBody.stmts vb52, scope := vc52, globals := 0, closure := [], defaults := Value.none, kwdefaults := Value.none } }
:: { cls := Value.type "code", data := Data.fields #[Value.str (Str.ofString "_law_text") 649, Value.str (Str.ofString "_law_text") 650, Value.str (Str.ofString "/claim/cut.py") 651, Value.int 271 0, Value.int 2 0, Value.int 0 0, Value.int 0 0, Value.int 3 0, Value.ref 314, Value.bool true, Value.int 181 0, Value.ref 315, Value.none, Value.none, Value.none, Value.ref 316, Value.int 652 0, Value.int 271 0, Value.str (Str.ofString "/claim/cut.py") 653] }
:: { cls := Value.type "function", data := Data.func { name := Str.ofString "_law_text", qualname := Str.ofString "_law_text", params := vp52, body := FuncBody.stmts vb52, scope := vc52, globals := 3, closure := [], defaults := Value.none, kwdefaults := Value.none, pyModule := Value.str (Str.ofString "law_pq0179_01") 638, code := Value.ref 317 } }
:: { cls := Value.type "tuple", data := Data.seq #[] }
:: { cls := Value.none, data := Data.fields #[] }
:: { cls := Value.type "tuple", data := Data.seq #[Value.str (Str.ofString "world") 658, Value.str (Str.ofString "text") 659, Value.str (Str.ofString "one") 660, Value.str (Str.ofString "two") 661, Value.str (Str.ofString "size") 662, Value.str (Str.ofString "right") 663] }
:: { cls := Value.type "tuple", data := Data.seq #[] }
:: { cls := Value.none, data := Data.func { name := Str.ofString "_law_cuts_agree", qualname := Str.ofString "_law_cuts_agree", params := vp53, body := FuncBody.stmts vb53, scope := vc53, globals := 0, closure := [], defaults := Value.none, kwdefaults := Value.none } }
:: { cls := Value.type "code", data := Data.fields #[Value.str (Str.ofString "_law_cuts_agree") 655, Value.str (Str.ofString "_law_cuts_agree") 656, Value.str (Str.ofString "/claim/cut.py") 657, Value.int 274 0, Value.int 4 0, Value.int 0 0, Value.int 0 0, Value.int 3 0, Value.ref 319, Value.bool true, Value.int 181 0, Value.ref 320, Value.none, Value.ref 321, Value.ref 322, Value.ref 323, Value.int 664 0, Value.int 274 0, Value.str (Str.ofString "/claim/cut.py") 665] }
:: { cls := Value.type "function", data := Data.func { name := Str.ofString "_law_cuts_agree", qualname := Str.ofString "_law_cuts_agree", params := vp53, body := FuncBody.stmts vb53, scope := vc53, globals := 3, closure := [], defaults := Value.none, kwdefaults := Value.none, pyModule := Value.str (Str.ofString "law_pq0179_01") 638, code := Value.ref 324 } }
:: { cls := Value.type "tuple", data := Data.seq #[] }
:: { cls := Value.none, data := Data.fields #[] }
:: { cls := Value.type "tuple", data := Data.seq #[Value.str (Str.ofString "world") 670, Value.str (Str.ofString "text") 671, Value.str (Str.ofString "part") 672, Value.str (Str.ofString "begins") 673, Value.str (Str.ofString "spot") 674, Value.str (Str.ofString "tail") 675] }
:: { cls := Value.type "tuple", data := Data.seq #[] }
:: { cls := Value.none, data := Data.func { name := Str.ofString "_law_finds_agree", qualname := Str.ofString "_law_finds_agree", params := vp54, body := FuncBody.stmts vb54, scope := vc54, globals := 0, closure := [], defaults := Value.none, kwdefaults := Value.none } }
:: { cls := Value.type "code", data := Data.fields #[Value.str (Str.ofString "_law_finds_agree") 667, Value.str (Str.ofString "_law_finds_agree") 668, Value.str (Str.ofString "/claim/cut.py") 669, Value.int 288 0, Value.int 4 0, Value.int 0 0, Value.int 0 0, Value.int 3 0, Value.ref 326, Value.bool true, Value.int 181 0, Value.ref 327, Value.none, Value.ref 328, Value.ref 329, Value.ref 330, Value.int 676 0, Value.int 288 0, Value.str (Str.ofString "/claim/cut.py") 677] }
:: { cls := Value.type "function", data := Data.func { name := Str.ofString "_law_finds_agree", qualname := Str.ofString "_law_finds_agree", params := vp54, body := FuncBody.stmts vb54, scope := vc54, globals := 3, closure := [], defaults := Value.none, kwdefaults := Value.none, pyModule := Value.str (Str.ofString "law_pq0179_01") 638, code := Value.ref 331 } }
:: { cls := Value.type "tuple", data := Data.seq #[] }
:: { cls := Value.none, data := Data.fields #[] }
:: { cls := Value.type "tuple", data := Data.seq #[Value.str (Str.ofString "text") 682, Value.str (Str.ofString "flags") 683, Value.str (Str.ofString "whole") 684, Value.str (Str.ofString "later") 685, Value.str (Str.ofString "sooner") 686, Value.str (Str.ofString "flag") 687] }
:: { cls := Value.type "tuple", data := Data.seq #[] }
:: { cls := Value.none, data := Data.func { name := Str.ofString "_law_flags_agree", qualname := Str.ofString "_law_flags_agree", params := vp55, body := FuncBody.stmts vb55, scope := vc55, globals := 0, closure := [], defaults := Value.none, kwdefaults := Value.none } }
:: { cls := Value.type "code", data := Data.fields #[Value.str (Str.ofString "_law_flags_agree") 679, Value.str (Str.ofString "_law_flags_agree") 680, Value.str (Str.ofString "/claim/cut.py") 681, Value.int 298 0, Value.int 2 0, Value.int 0 0, Value.int 0 0, Value.int 3 0, Value.ref 333, Value.bool true, Value.int 181 0, Value.ref 334, Value.none, Value.ref 335, Value.ref 336, Value.ref 337, Value.int 688 0, Value.int 298 0, Value.str (Str.ofString "/claim/cut.py") 689] }
:: { cls := Value.type "function", data := Data.func { name := Str.ofString "_law_flags_agree", qualname := Str.ofString "_law_flags_agree", params := vp55, body := FuncBody.stmts vb55, scope := vc55, globals := 3, closure := [], defaults := Value.none, kwdefaults := Value.none, pyModule := Value.str (Str.ofString "law_pq0179_01") 638, code := Value.ref 338 } }
:: { cls := Value.type "tuple", data := Data.seq #[] }
:: { cls := Value.none, data := Data.fields #[] }
:: { cls := Value.type "tuple", data := Data.seq #[Value.str (Str.ofString "world") 694, Value.str (Str.ofString "text") 695, Value.str (Str.ofString "great") 696, Value.str (Str.ofString "small") 697] }
:: { cls := Value.type "tuple", data := Data.seq #[] }
:: { cls := Value.none, data := Data.func { name := Str.ofString "_law_letters_agree", qualname := Str.ofString "_law_letters_agree", params := vp56, body := FuncBody.stmts vb56, scope := vc56, globals := 0, closure := [], defaults := Value.none, kwdefaults := Value.none } }
:: { cls := Value.type "code", data := Data.fields #[Value.str (Str.ofString "_law_letters_agree") 691, Value.str (Str.ofString "_law_letters_agree") 692, Value.str (Str.ofString "/claim/cut.py") 693, Value.int 305 0, Value.int 2 0, Value.int 0 0, Value.int 0 0, Value.int 3 0, Value.ref 340, Value.bool true, Value.int 181 0, Value.ref 341, Value.none, Value.ref 342, Value.ref 343, Value.ref 344, Value.int 698 0, Value.int 305 0, Value.str (Str.ofString "/claim/cut.py") 699] }
:: { cls := Value.type "function", data := Data.func { name := Str.ofString "_law_letters_agree", qualname := Str.ofString "_law_letters_agree", params := vp56, body := FuncBody.stmts vb56, scope := vc56, globals := 3, closure := [], defaults := Value.none, kwdefaults := Value.none, pyModule := Value.str (Str.ofString "law_pq0179_01") 638, code := Value.ref 345 } }
:: { cls := Value.type "tuple", data := Data.seq #[] }
:: { cls := Value.none, data := Data.fields #[] }
:: { cls := Value.none, data := Data.func { name := Str.ofString "_law_rest_agrees", qualname := Str.ofString "_law_rest_agrees", params := vp57, body := FuncBody.stmts vb57, scope := vc57, globals := 0, closure := [], defaults := Value.none, kwdefaults := Value.none } }
:: { cls := Value.type "code", data := Data.fields #[Value.str (Str.ofString "_law_rest_agrees") 701, Value.str (Str.ofString "_law_rest_agrees") 702, Value.str (Str.ofString "/claim/cut.py") 703, Value.int 312 0, Value.int 4 0, Value.int 0 0, Value.int 0 0, Value.int 3 0, Value.ref 347, Value.bool true, Value.int 181 0, Value.ref 348, Value.none, Value.none, Value.none, Value.ref 349, Value.int 704 0, Value.int 312 0, Value.str (Str.ofString "/claim/cut.py") 705] }
:: { cls := Value.type "function", data := Data.func { name := Str.ofString "_law_rest_agrees", qualname := Str.ofString "_law_rest_agrees", params := vp57, body := FuncBody.stmts vb57, scope := vc57, globals := 3, closure := [], defaults := Value.none, kwdefaults := Value.none, pyModule := Value.str (Str.ofString "law_pq0179_01") 638, code := Value.ref 350 } }
:: { cls := Value.type "tuple", data := Data.seq #[] }
:: { cls := Value.none, data := Data.fields #[] }
:: { cls := Value.none, data := Data.func { name := Str.ofString "law", qualname := Str.ofString "law", params := vp58, body := FuncBody.stmts vb58, scope := vc58, globals := 0, closure := [], defaults := Value.none, kwdefaults := Value.none } }
:: { cls := Value.type "code", data := Data.fields #[Value.str (Str.ofString "law") 707, Value.str (Str.ofString "law") 708, Value.str (Str.ofString "/claim/cut.py") 709, Value.int 323 0, Value.int 1 0, Value.int 0 0, Value.int 0 0, Value.int 3 0, Value.ref 352, Value.bool true, Value.int 181 0, Value.ref 353, Value.none, Value.none, Value.none, Value.ref 354, Value.int 710 0, Value.int 323 0, Value.str (Str.ofString "/claim/cut.py") 711] }
:: { cls := Value.type "function", data := Data.func { name := Str.ofString "law", qualname := Str.ofString "law", params := vp58, body := FuncBody.stmts vb58, scope := vc58, globals := 3, closure := [], defaults := Value.none, kwdefaults := Value.none, pyModule := Value.str (Str.ofString "law_pq0179_01") 638, code := Value.ref 355 } } :: [] : List Obj)) rfl
noncomputable def finT (P : Params) : BT := treeOf 0 (finL P) .nil
noncomputable def finS (w : World) (os : OsState) : SharedT := ⟨finT w.params, 357, {}, Array.mk [], {}, 713, os⟩
end Mine
end

section
open PySem PySem.W PyProof.Rows
set_option maxRecDepth 100000
set_option maxHeartbeats 8000000
namespace Mine
def topGoT (tb : String → Option Builtin) (p : Program) (w : World) (n₀ : Nat) (ann : Option Value) : Nat → SharedT → Thread → Option (SharedT × Thread)
  | 0, s, t => some (s, t)
  | n + 1, s, t => match through t with
    | true => none
    | false => match stepOk n₀ ann t with
      | false => none
      | true => match stepT (denote tb) p w s t with
        | some (s', t') => topGoT tb p w n₀ ann n s' t'
        | none => none
theorem go_run {tb : String → Option Builtin} {p : Program} {w : World} {n₀ : Nat} {ann : Option Value} : ∀ {n N : Nat} {s s' : SharedT} {t t' : Thread} {r : Option SharedT}, topGoT tb p w n₀ ann n s t = some (s', t') → topRunT tb p w n₀ ann N s' t' = r → topRunT tb p w n₀ ann (N + n) s t = r
  | 0, N, s, s', t, t', r, h, k => by
    cases h
    exact k
  | n + 1, N, s, s', t, t', r, h, k => by
    unfold topGoT at h
    show topRunT tb p w n₀ ann (N + n + 1) s t = r
    unfold topRunT
    cases he : through t with
    | true => rw [he] at h; cases h
    | false =>
      rw [he] at h
      cases hk : stepOk n₀ ann t with
      | false => rw [hk] at h; cases h
      | true =>
        rw [hk] at h
        cases hs : stepT (denote tb) p w s t with
        | none => rw [hs] at h; cases h
        | some q => obtain ⟨s₂, t₂⟩ := q; rw [hs] at h; exact go_run h k
noncomputable def topEnv : Env := { scope := pw9.main.scope, locals := mainNs, globals := mainNs, cells := [], code := .ref 13, frame := some 14 }
noncomputable def topAt (k : Nat) (p : Pos) : Thread := ⟨((execs ((behindTheImports pw9).drop k) topEnv).onRaise (leaving topEnv)).bind fun f => (Sem.pure (Fin.done f) : Sem Fin), .body (behindTheImports pw9) topEnv, p, [topFrame ⟨0, 0, 0, 0⟩]⟩
noncomputable def midA (P : Params) : BT := treeOf 0 ((((finL P).take 200).set 3 { cls := Value.type "dict", data := Data.dict #[{ hash := PyData.keyHash P (Str.ofString "__name__"), key := Value.str (Str.ofString "__name__") 165, val := Value.str (Str.ofString "basicplus.textfns") 379 }, { hash := PyData.keyHash P (Str.ofString "__doc__"), key := Value.str (Str.ofString "__doc__") 166, val := Value.none }, { hash := PyData.keyHash P (Str.ofString "__package__"), key := Value.str (Str.ofString "__package__") 167, val := Value.none }, { hash := PyData.keyHash P (Str.ofString "__loader__"), key := Value.str (Str.ofString "__loader__") 168, val := Value.builtin "__main__.__loader__#opaque" }, { hash := PyData.keyHash P (Str.ofString "__spec__"), key := Value.str (Str.ofString "__spec__") 169, val := Value.none }, { hash := PyData.keyHash P (Str.ofString "__annotations__"), key := Value.str (Str.ofString "__annotations__") 170, val := Value.ref 6 }, { hash := PyData.keyHash P (Str.ofString "__builtins__"), key := Value.str (Str.ofString "__builtins__") 171, val := Value.ref 4 }, { hash := PyData.keyHash P (Str.ofString "__file__"), key := Value.str (Str.ofString "__file__") 173, val := Value.str (Str.ofString "/claim/cut.py") 172 }, { hash := PyData.keyHash P (Str.ofString "__cached__"), key := Value.str (Str.ofString "__cached__") 174, val := Value.none }, { hash := PyData.keyHash P (Str.ofString "MOST_TEXT"), key := Value.str (Str.ofString "MOST_TEXT") 190, val := Value.int 255 189 }, { hash := PyData.keyHash P (Str.ofString "MOST_EXPONENT"), key := Value.str (Str.ofString "MOST_EXPONENT") 192, val := Value.int 99 191 }, { hash := PyData.keyHash P (Str.ofString "BasicError"), key := Value.str (Str.ofString "BasicError") 226, val := Value.ref 34 }, { hash := PyData.keyHash P (Str.ofString "figures_of"), key := Value.str (Str.ofString "figures_of") 235, val := Value.ref 44 }, { hash := PyData.keyHash P (Str.ofString "rounded_by"), key := Value.str (Str.ofString "rounded_by") 246, val := Value.ref 51 }, { hash := PyData.keyHash P (Str.ofString "made"), key := Value.str (Str.ofString "made") 258, val := Value.ref 58 }, { hash := PyData.keyHash P (Str.ofString "whole_near"), key := Value.str (Str.ofString "whole_near") 268, val := Value.ref 65 }, { hash := PyData.keyHash P (Str.ofString "text_of"), key := Value.str (Str.ofString "text_of") 275, val := Value.ref 72 }, { hash := PyData.keyHash P (Str.ofString "NOUGHT"), key := Value.str (Str.ofString "NOUGHT") 280, val := Value.ref 73 }, { hash := PyData.keyHash P (Str.ofString "MOST_FIGURES"), key := Value.str (Str.ofString "MOST_FIGURES") 282, val := Value.int 300 281 }, { hash := PyData.keyHash P (Str.ofString "MOST_POWER"), key := Value.str (Str.ofString "MOST_POWER") 284, val := Value.int 9999 283 }, { hash := PyData.keyHash P (Str.ofString "BLANKS_decimals"), key := Value.str (Str.ofString "BLANKS_decimals") 286, val := Value.str (Str.ofString " \t") 285 }, { hash := PyData.keyHash P (Str.ofString "figures_text"), key := Value.str (Str.ofString "figures_text") 294, val := Value.ref 80 }, { hash := PyData.keyHash P (Str.ofString "exponent_text"), key := Value.str (Str.ofString "exponent_text") 302, val := Value.ref 87 }, { hash := PyData.keyHash P (Str.ofString "size_text"), key := Value.str (Str.ofString "size_text") 314, val := Value.ref 94 }, { hash := PyData.keyHash P (Str.ofString "d_text"), key := Value.str (Str.ofString "d_text") 322, val := Value.ref 101 }, { hash := PyData.keyHash P (Str.ofString "whole_text"), key := Value.str (Str.ofString "whole_text") 329, val := Value.ref 108 }, { hash := PyData.keyHash P (Str.ofString "run_of_figures"), key := Value.str (Str.ofString "run_of_figures") 339, val := Value.ref 115 }, { hash := PyData.keyHash P (Str.ofString "exponent_at"), key := Value.str (Str.ofString "exponent_at") 352, val := Value.ref 122 }, { hash := PyData.keyHash P (Str.ofString "d_of_text"), key := Value.str (Str.ofString "d_of_text") 368, val := Value.ref 129 }, { hash := PyData.keyHash P (Str.ofString "told_decimal"), key := Value.str (Str.ofString "told_decimal") 378, val := Value.ref 136 }, { hash := PyData.keyHash P (Str.ofString "BLANKS_textfns"), key := Value.str (Str.ofString "BLANKS_textfns") 382, val := Value.str (Str.ofString " \t") 381 }, { hash := PyData.keyHash P (Str.ofString "DROPPED"), key := Value.str (Str.ofString "DROPPED") 384, val := Value.str (Str.ofString "\x0d\n\x0c\x1b\x7f\x00") 383 }, { hash := PyData.keyHash P (Str.ofString "size_told"), key := Value.str (Str.ofString "size_told") 392, val := Value.ref 143 }, { hash := PyData.keyHash P (Str.ofString "place_told"), key := Value.str (Str.ofString "place_told") 400, val := Value.ref 150 }, { hash := PyData.keyHash P (Str.ofString "number_text"), key := Value.str (Str.ofString "number_text") 408, val := Value.ref 157 }, { hash := PyData.keyHash P (Str.ofString "found_at"), key := Value.str (Str.ofString "found_at") 418, val := Value.ref 164 }, { hash := PyData.keyHash P (Str.ofString "from_left"), key := Value.str (Str.ofString "from_left") 427, val := Value.ref 171 }, { hash := PyData.keyHash P (Str.ofString "from_right"), key := Value.str (Str.ofString "from_right") 436, val := Value.ref 178 }, { hash := PyData.keyHash P (Str.ofString "great_sign"), key := Value.str (Str.ofString "great_sign") 443, val := Value.ref 185 }, { hash := PyData.keyHash P (Str.ofString "small_sign"), key := Value.str (Str.ofString "small_sign") 450, val := Value.ref 192 }, { hash := PyData.keyHash P (Str.ofString "edited_sign"), key := Value.str (Str.ofString "edited_sign") 458, val := Value.ref 199 }] 41 }).set 12 { cls := Value.none, data := Data.fields #[Value.int 4 0, Value.int 0 0, Value.ref 21, Value.int 10 0, Value.int 0 0, Value.ref 43, Value.int 16 0, Value.int 0 0, Value.ref 50, Value.int 26 0, Value.int 0 0, Value.ref 57, Value.int 41 0, Value.int 0 0, Value.ref 64, Value.int 47 0, Value.int 0 0, Value.ref 71, Value.int 56 0, Value.int 0 0, Value.ref 79, Value.int 62 0, Value.int 0 0, Value.ref 86, Value.int 65 0, Value.int 0 0, Value.ref 93, Value.int 76 0, Value.int 0 0, Value.ref 100, Value.int 80 0, Value.int 0 0, Value.ref 107, Value.int 82 0, Value.int 0 0, Value.ref 114, Value.int 88 0, Value.int 0 0, Value.ref 121, Value.int 99 0, Value.int 0 0, Value.ref 128, Value.int 115 0, Value.int 0 0, Value.ref 135, Value.int 125 0, Value.int 0 0, Value.ref 142, Value.int 132 0, Value.int 0 0, Value.ref 149, Value.int 137 0, Value.int 0 0, Value.ref 156, Value.int 139 0, Value.int 0 0, Value.ref 163, Value.int 146 0, Value.int 0 0, Value.ref 170, Value.int 151 0, Value.int 0 0, Value.ref 177, Value.int 156 0, Value.int 0 0, Value.ref 184, Value.int 158 0, Value.int 0 0, Value.ref 191, Value.int 160 0, Value.int 0 0, Value.ref 198] }) .nil
noncomputable def midS (w : World) (os : OsState) : SharedT := ⟨midA w.params, 200, {}, Array.mk [], {}, 459, os⟩
theorem go_a : (fun (w : World) (os : OsState) => topGoT treeTable pw9 w 11 (some (.ref 6)) 1083 ⟨bootT w.params, 11, {}, Array.mk [], boot_drawn, boot_toks, os⟩ (topStub pw9)) = fun w os => some (midS w os, topAt 35 ⟨160, 0, 167, 56⟩) := by kernel_rfl
theorem go_b : (fun (w : World) (os : OsState) => topRunT treeTable pw9 w 11 (some (.ref 6)) 3009 (midS w os) (topAt 35 ⟨160, 0, 167, 56⟩)) = fun w os => some (finS w os) := by kernel_rfl
theorem head_go : (fun (w : World) (os : OsState) => topRunT treeTable pw9 w 11 (some (.ref 6)) 4092 ⟨bootT w.params, 11, {}, Array.mk [], boot_drawn, boot_toks, os⟩ (topStub pw9)) = fun w os => some (finS w os) := by
  funext w os
  exact go_run (n := 1083) (N := 3009) (congrFun (congrFun go_a w) os) (congrFun (congrFun go_b w) os)
end Mine
end

section
open PySem PySem.W PyProof.Rows
set_option maxRecDepth 100000
set_option maxHeartbeats 8000000
namespace Mine
theorem look_a : (fun (w : World) (os : OsState) => (fun s : Shared => staticsOk (importedModules pw9.main.body) (boot_heap w.params) s.heap && namesBound pw9 s.heap && gensDone s && laidKept (boot_heap w.params) s.heap) (finS w os).abs) = fun _ _ => true := by kernel_rfl
theorem look_b : (fun (w : World) (os : OsState) => openSeen hd.view_39 [PySem.Str.ofString "BasicError"] (importedModules pw9.main.body) (fun s => xlAt hd.view_39 [] s && recOk (RowW.records PySem.Challenge.rw_pq0179_01.row.toRowW) s) true (finS w os).abs) = fun _ _ => openGood hd.view_39 [PySem.Str.ofString "BasicError"] := by kernel_rfl
theorem look_c : (fun (w : World) (os : OsState) => Hook.obs HK (finS w os).abs) = fun w _ => Hook.val HK w := by kernel_rfl
end Mine
end

section
open PySem PySem.W PyProof.Rows
set_option maxRecDepth 100000
set_option maxHeartbeats 8000000
namespace Mine
theorem pair3 {α β γ : Type} {a a' : α} {b b' : β} {c c' : γ} (x : a = a') (y : b = b') (z : c = c') : (a, b, c) = (a', b', c') := by rw [x, y, z]
theorem head_run : (fun (w : World) (os : OsState) => (topRunT treeTable pw9 w 11 (some (.ref 6)) 4092 ⟨bootT w.params, 11, {}, Array.mk [], boot_drawn, boot_toks, os⟩ (topStub pw9)).map (fun t => (fun s => ((staticsOk (importedModules pw9.main.body) (boot_heap w.params) s.heap && namesBound pw9 s.heap && gensDone s && laidKept (boot_heap w.params) s.heap), openSeen hd.view_39 [PySem.Str.ofString "BasicError"] (importedModules pw9.main.body) (fun s => xlAt hd.view_39 [] s && recOk (RowW.records PySem.Challenge.rw_pq0179_01.row.toRowW) s) true s, Hook.obs HK s)) t.abs)) = fun w _ => some (true, openGood hd.view_39 [PySem.Str.ofString "BasicError"], Hook.val HK w) := by
  funext w os
  have g : topRunT treeTable pw9 w 11 (some (.ref 6)) 4092 ⟨bootT w.params, 11, {}, Array.mk [], boot_drawn, boot_toks, os⟩ (topStub pw9) = some (finS w os) := congrFun (congrFun head_go w) os
  rw [g]
  exact congrArg some (pair3 (congrFun (congrFun look_a w) os) (congrFun (congrFun look_b w) os) (congrFun (congrFun look_c w) os))
theorem head_left : LeftO pw9 hd.view_39 [PySem.Str.ofString "BasicError"] (fun s => xlAt hd.view_39 [] s && recOk (RowW.records PySem.Challenge.rw_pq0179_01.row.toRowW) s) (Hook.obs HK) (Hook.val HK) 4092 :=
  left_of_tree (boot_open boot_e rfl boot_f) (fun P => congrFun boot_t P) (fun w => congrFun boot_s w) rfl (fun w => congrFun head_run w)
end Mine
end

section
open PySem PySem.W PyProof.Rows
namespace Mine
set_option maxRecDepth 100000
/-- a text from its codes -/
def S (l : List Nat) : PySem.Str := ⟨l.toArray⟩
/-- a text's codes -/
def C (x : PySem.Str) : List Nat := x.cps.toList
theorem S_C (x : PySem.Str) : S (C x) = x := PySem.Str.ext' (by simp [S, C])
@[simp] theorem C_S (l : List Nat) : C (S l) = l := by simp [S, C]
theorem len_C (x : PySem.Str) : x.length = (C x).length := by simp [C, PySem.Str.length]
theorem len_S (l : List Nat) : (S l).length = l.length := by simp [S, PySem.Str.length]
theorem C_app (x y : PySem.Str) : C (x ++ y) = C x ++ C y := by simp [C, PySem.Str.cps_append]
theorem eq_C {x y : PySem.Str} (h : C x = C y) : x = y := by rw [← S_C x, ← S_C y, h]
theorem C_inj {x y : PySem.Str} : x = y ↔ C x = C y := ⟨fun h => by rw [h], eq_C⟩
theorem beq_C (x y : PySem.Str) : (x == y) = (C x == C y) := by
  rw [Bool.eq_iff_iff, beq_iff_eq, beq_iff_eq]; exact C_inj
theorem C_empty : C PySem.Str.empty = [] := rfl
theorem C_nil : C (PySem.Str.ofString "") = [] := by decide +kernel

theorem clampN (i n : Nat) : max (0 : Int) (min (i : Int) (n : Int)) = ((min i n : Nat) : Int) := by omega
theorem mm_le (i j n : Nat) : max (min i n) (min j n) ≤ n := Nat.max_le.mpr ⟨Nat.min_le_right _ _, Nat.min_le_right _ _⟩
theorem idx_eq (i j n : Nat) : Builtin.Str.strSliceIndices (some (i : Int)) (some (j : Int)) 1 n = Builtin.Str.strSliceIndices (some ((min i n : Nat) : Int)) (some ((max (min i n) (min j n) : Nat) : Int)) 1 n := by
  have h0 : ∀ i : Nat, ¬ ((i : Int) < 0) := fun i => Int.not_lt.mpr (Int.natCast_nonneg i)
  have h5 : ((1 : Int) > 0) = True := by simp
  simp only [Builtin.Str.strSliceIndices, sliceRange, h0, h5, if_false, if_true]
  rw [clampN i n, clampN j n, clampN (min i n) n, clampN (max (min i n) (min j n)) n, Nat.min_eq_left (Nat.min_le_right i n), Nat.min_eq_left (mm_le i j n)]
  by_cases hlt : min i n < min j n
  · rw [Nat.max_eq_right (Nat.le_of_lt hlt)]
  · have a : ¬ ((min i n : Nat) : Int) < ((min j n : Nat) : Int) := fun h => hlt (Int.ofNat_lt.mp h)
    rw [Nat.max_eq_left (Nat.le_of_not_lt hlt)]
    simp only [a, if_false, Int.lt_irrefl]
theorem max_sub (a b : Nat) : max a b - a = b - a := by
  rcases Nat.le_total a b with h | h
  · rw [Nat.max_eq_right h]
  · rw [Nat.max_eq_left h, Nat.sub_self, Nat.sub_eq_zero_of_le h]
theorem slice_ss (x : PySem.Str) {i j : Int} (h0 : 0 ≤ i) (h1 : 0 ≤ j) : Txt.slice x (some i) (some j) = S (((C x).take j.toNat).drop i.toNat) := by
  obtain ⟨a, rfl⟩ := Int.eq_ofNat_of_zero_le h0
  obtain ⟨b, rfl⟩ := Int.eq_ofNat_of_zero_le h1
  have e0 : Txt.slice x (some (a : Int)) (some (b : Int)) = Txt.slice x (some ((min a x.length : Nat) : Int)) (some ((max (min a x.length) (min b x.length) : Nat) : Int)) := by
    unfold Txt.slice
    rw [idx_eq]
  rw [e0, show Txt.slice x (some ((min a x.length : Nat) : Int)) (some ((max (min a x.length) (min b x.length) : Nat) : Int)) = _ from StrLaws.sliceText_plain (x := x) (i := ((min a x.length : Nat) : Int)) (j := ((max (min a x.length) (min b x.length) : Nat) : Int)) ⟨Int.natCast_nonneg _, Int.ofNat_le.mpr (Nat.le_max_left _ _), by simp only [PySem.Str.length, Array.length_toList]; exact Int.ofNat_le.mpr (mm_le a b _)⟩]
  show S _ = S _
  congr 1
  show List.take _ (List.drop _ (C x)) = _
  have hl : x.length = (C x).length := len_C x
  rw [hl]
  generalize C x = l
  simp only [Int.toNat_natCast]
  rw [List.drop_take, Int.toNat_sub]
  by_cases ha : a ≤ l.length
  · rw [Nat.min_eq_left ha, max_sub]
    by_cases hb : b ≤ l.length
    · rw [Nat.min_eq_left hb]
    · rw [Nat.min_eq_right (Nat.le_of_not_le hb), List.take_of_length_le (by rw [List.length_drop]; exact Nat.le_refl _), List.take_of_length_le (by rw [List.length_drop]; exact Nat.sub_le_sub_right (Nat.le_of_not_le hb) _)]
  · rw [Nat.min_eq_right (Nat.le_of_not_le ha), List.drop_of_length_le (Nat.le_refl _), List.drop_of_length_le (Nat.le_of_not_le ha), List.take_nil, List.take_nil]
theorem slice_none_lo (x : PySem.Str) (u : Option Int) : Txt.slice x none u = Txt.slice x (some 0) u := by
  unfold Txt.slice
  rw [StrLaws.sliceIdx_none_lo]
theorem slice_none_hi (x : PySem.Str) (l : Option Int) : Txt.slice x l none = Txt.slice x l (some (x.length : Int)) := by
  unfold Txt.slice
  rw [StrLaws.sliceIdx_none_hi]
theorem slice_ns (x : PySem.Str) {j : Int} (h1 : 0 ≤ j) : Txt.slice x none (some j) = S ((C x).take j.toNat) := by
  rw [slice_none_lo, slice_ss x (Int.le_refl 0) h1]
  rfl
theorem slice_sn (x : PySem.Str) {i : Int} (h1 : 0 ≤ i) : Txt.slice x (some i) none = S ((C x).drop i.toNat) := by
  rw [slice_none_hi, slice_ss x h1 (by omega), len_C, Int.toNat_natCast, List.take_length]

def leftL (l : List Nat) (n : Int) : List Nat := l.take n.toNat
def rightL (l : List Nat) (n : Int) : List Nat := l.drop (l.length - n.toNat)
def midL (l : List Nat) (n k : Int) : List Nat := (l.drop (n - 1).toNat).take k.toNat
def segL (l : List Nat) (a b : Int) : List Nat := if a ≤ b then (l.take b.toNat).drop (a - 1).toNat else []
def strL (n : Int) (l : List Nat) : List Nat := List.replicate n.toNat (l.headD 0)
def foundL (l p : List Nat) (n : Nat) : Nat := if l.length < n then 0 else ((List.range' (n - 1) (l.length + 1 - p.length - (n - 1))).find? (fun a => (l.drop a).take p.length == p)).elim 0 (· + 1)
def blank (c : Nat) : Bool := c == 32 || c == 9
def ltrimL (l : List Nat) : List Nat := l.dropWhile blank
def rtrimL (l : List Nat) : List Nat := (l.reverse.dropWhile blank).reverse
def upC (c : Nat) : Nat := if 97 ≤ c ∧ c ≤ 122 then c - 32 else c
def loC (c : Nat) : Nat := if 65 ≤ c ∧ c ≤ 90 then c + 32 else c
end Mine
namespace Mine
theorem fold_rep (c : Nat) : ∀ (k : Nat) (acc : Array Nat), (List.replicate k #[c]).foldl (· ++ ·) acc = acc ++ (List.replicate k c).toArray
  | 0, acc => by simp
  | k + 1, acc => by
    rw [List.replicate_succ, List.foldl_cons, fold_rep c k, List.replicate_succ]
    apply Array.toList_inj.mp
    simp
theorem mul_one (c : Nat) (n : Int) : Txt.mul ⟨#[c]⟩ n = S (List.replicate n.toNat c) := by
  unfold Txt.mul
  by_cases h1 : n < 1
  · rw [if_pos h1]
    have : n.toNat = 0 := by omega
    rw [this]; rfl
  · rw [if_neg h1]
    by_cases h2 : n = 1
    · subst h2; rfl
    · have : (n == 1 || (⟨#[c]⟩ : PySem.Str).length == 0) = false := by
        simp [h2, PySem.Str.length]
      rw [this, if_neg (by simp), fold_rep]
      simp [S]
theorem item_zero (x : PySem.Str) (h : 1 ≤ x.length) : Txt.item x 0 = S [(C x).headD 0] := by
  unfold Txt.item
  have e : Txt.charAt x 0 = x.cps[0]? := by
    unfold Txt.charAt
    have e0 : seqIndex? (0 : Int) x.length = some 0 := by
      simp [seqIndex?]; omega
    rw [e0]; rfl
  rw [e]
  have : x.cps[0]? = (C x)[0]? := by simp [C]
  rw [this]
  cases C x <;> rfl
theorem left_eq (x : PySem.Str) {n : Int} (h : 0 ≤ n) : Txt.slice x none (some n) = S (leftL (C x) n) := slice_ns x h
theorem right_eq (x : PySem.Str) {n : Int} (h : 0 ≤ n) : Txt.slice x (some (if 0 > (x.length : Int) - n then 0 else (x.length : Int) - n)) none = S (rightL (C x) n) := by
  rw [slice_sn x (by split <;> omega)]
  unfold rightL
  rw [len_C x]
  congr 2
  split <;> omega
theorem mid_eq (x : PySem.Str) {n k : Int} (h : 1 ≤ n) (hk : 0 ≤ k) : Txt.slice x (some (n - 1)) (some (n - 1 + k)) = S (midL (C x) n k) := by
  rw [slice_ss x (by omega) (by omega)]
  unfold midL
  rw [List.drop_take]
  congr 2
  omega
theorem seg_eq (x : PySem.Str) {n k : Int} (h : 1 ≤ n) (hk : 0 ≤ k) (hs : (if 1 > n then 1 else n) ≤ k) : Txt.slice x (some ((if 1 > n then 1 else n) - 1)) (some k) = S (segL (C x) n k) := by
  rw [if_neg (by omega)] at hs ⊢
  rw [slice_ss x (by omega) (by omega)]
  unfold segL
  rw [if_pos hs]
theorem seg_eq0 (x : PySem.Str) {n k : Int} (h : 1 ≤ n) (hs : ¬ (if 1 > n then 1 else n) ≤ k) : PySem.Str.ofString "" = S (segL (C x) n k) := by
  rw [if_neg (by omega)] at hs
  unfold segL
  rw [if_neg hs]
  exact eq_C (by rw [C_nil]; rfl)
theorem string_eq (x : PySem.Str) {n : Int} (h : 1 ≤ x.length) : Txt.mul (Txt.item x 0) n = S (strL n (C x)) := by
  rw [item_zero x h]
  exact mul_one _ _
theorem len_left (x : PySem.Str) (n : Int) : (S (leftL (C x) n)).length ≤ x.length := by
  rw [len_S, len_C]; unfold leftL; rw [List.length_take]; omega
theorem len_right (x : PySem.Str) (n : Int) : (S (rightL (C x) n)).length ≤ x.length := by
  rw [len_S, len_C]; unfold rightL; rw [List.length_drop]; omega
theorem len_mid (x : PySem.Str) (n k : Int) : (S (midL (C x) n k)).length ≤ x.length := by
  rw [len_S, len_C]; unfold midL; rw [List.length_take, List.length_drop]; omega
theorem len_seg (x : PySem.Str) (n k : Int) : (S (segL (C x) n k)).length ≤ x.length := by
  rw [len_S, len_C]; unfold segL; split
  · rw [List.length_drop, List.length_take]; omega
  · exact Nat.zero_le _
theorem len_string (x : PySem.Str) {n : Int} (h0 : 0 ≤ n) (h : n ≤ 255) : (S (strL n (C x))).length ≤ 255 := by
  rw [len_S]; unfold strL; rw [List.length_replicate]; omega
theorem ne_nil {x : PySem.Str} (h : 1 ≤ x.length) : (x == PySem.Str.ofString "") = false := by
  rw [beq_C, C_nil]
  have := len_C x
  cases hc : C x with
  | nil => rw [hc] at this; simp at this; omega
  | cons a l => rfl
end Mine
end

section
open PySem PySem.W PyProof.Rows
namespace Mine
theorem slice_at (x p : PySem.Str) {a : Int} (h : 0 ≤ a) : Txt.slice x (some a) (some (a + (p.length : Int))) = S (((C x).drop a.toNat).take (C p).length) := by
  rw [slice_ss x h (by omega), List.drop_take]
  congr 2
  have := len_C p
  omega
theorem found_none {x p : PySem.Str} {n : Int} (h0 : 1 ≤ n) (hP : ∀ j : Nat, j < (((x.length : Int) - (p.length : Int) + 1) - (n - 1)).toNat → Txt.slice x (some (n - 1 + (j : Int))) (some (n - 1 + (j : Int) + (p.length : Int))) ≠ p) : ((foundL (C x) (C p) n.toNat : Nat) : Int) = 0 := by
  unfold foundL
  split
  · rfl
  · have e : (List.range' (n.toNat - 1) ((C x).length + 1 - (C p).length - (n.toNat - 1))).find? (fun a => ((C x).drop a).take (C p).length == C p) = none := by
      rw [List.find?_range'_eq_none]
      intro i hi hi2
      have hj := hP (i - (n.toNat - 1)) (by have := len_C x; have := len_C p; omega)
      rw [show n - 1 + ((i - (n.toNat - 1) : Nat) : Int) = (i : Int) by omega, slice_at x p (by omega)] at hj
      simp only [Bool.not_eq_true', beq_eq_false_iff_ne, ne_eq]
      intro hc
      apply hj
      rw [show ((i : Int)).toNat = i by omega, hc, S_C]
    rw [e]; rfl
theorem found_big {x p : PySem.Str} {n : Int} (h0 : 1 ≤ n) (h : (x.length : Int) < n) : (0 : Int) = ((foundL (C x) (C p) n.toNat : Nat) : Int) := by
  unfold foundL
  rw [if_pos (by have := len_C x; omega)]
  rfl
theorem found_some {x p : PySem.Str} {n : Int} {i : Nat} (h0 : 1 ≤ n) (hx : ¬ (x.length : Int) < n) (hi : i < (((x.length : Int) - (p.length : Int) + 1) - (n - 1)).toNat) (hP : ∀ j : Nat, j < i → Txt.slice x (some (n - 1 + (j : Int))) (some (n - 1 + (j : Int) + (p.length : Int))) ≠ p)
    (hf : (Txt.slice x (some (n - 1 + (i : Int))) (some (n - 1 + (i : Int) + (p.length : Int))) == p) = true) : n - 1 + (i : Int) + 1 = ((foundL (C x) (C p) n.toNat : Nat) : Int) := by
  unfold foundL
  have l1 := len_C x
  have l2 := len_C p
  rw [if_neg (by omega)]
  have e : (List.range' (n.toNat - 1) ((C x).length + 1 - (C p).length - (n.toNat - 1))).find? (fun a => ((C x).drop a).take (C p).length == C p) = some (n.toNat - 1 + i) := by
    rw [List.find?_range'_eq_some]
    refine ⟨?_, by rw [List.mem_range'_1]; omega, ?_⟩
    · have h1 := beq_iff_eq.mp hf
      rw [slice_at x p (by omega)] at h1
      have h2 := congrArg C h1
      rw [C_S, show (n - 1 + (i : Int)).toNat = n.toNat - 1 + i by omega] at h2
      simp [h2]
    · intro a ha1 ha2
      have hj := hP (a - (n.toNat - 1)) (by omega)
      rw [show n - 1 + ((a - (n.toNat - 1) : Nat) : Int) = (a : Int) by omega, slice_at x p (by omega)] at hj
      simp only [Bool.not_eq_true', beq_eq_false_iff_ne, ne_eq]
      intro hc
      apply hj
      rw [show ((a : Int)).toNat = a by omega, hc, S_C]
  rw [e]
  show _ = ((n.toNat - 1 + i + 1 : Nat) : Int)
  omega
end Mine
end

section
open PySem PySem.W PyProof.Rows
namespace Mine
theorem item_at (x : PySem.Str) {k : Int} (h0 : 0 ≤ k) (h1 : k < x.length) : Txt.item x k = S [(C x).getD k.toNat 0] := by
  unfold Txt.item
  have e : Txt.charAt x k = (C x)[k.toNat]? := by
    unfold Txt.charAt
    have e0 : seqIndex? k x.length = some k.toNat := by
      have h2 : ¬ k < 0 := by omega
      simp [seqIndex?, h2, h0, h1]
    rw [e0]
    show x.cps[k.toNat]? = _
    simp [C]
  rw [e, List.getD_eq_getElem?_getD]
  rfl
theorem in_blank (c : Nat) : (Builtin.Str.occurrences ⟨#[32, 9]⟩ ⟨#[c]⟩ 0 (⟨#[32, 9]⟩ : PySem.Str).length 1).isEmpty = !blank c := by
  have h := StrLaws.found_one ⟨#[32, 9]⟩ c
  have e : decide (c ∈ (⟨#[32, 9]⟩ : PySem.Str).cps.toList) = blank c := by
    simp only [blank, List.mem_cons, List.not_mem_nil, or_false]
    rw [Bool.eq_iff_iff]; simp
  rw [e] at h
  rw [← h]; simp
theorem in_blank_at (x : PySem.Str) {k : Int} (h0 : 0 ≤ k) (h1 : k < x.length) : (Builtin.Str.occurrences ⟨#[32, 9]⟩ (Txt.item x k) 0 (⟨#[32, 9]⟩ : PySem.Str).length 1).isEmpty = !blank ((C x).getD k.toNat 0) := by
  rw [item_at x h0 h1]
  exact in_blank _
theorem drop_at (l : List Nat) {k : Nat} (h : k < l.length) : l.drop k = l.getD k 0 :: l.drop (k + 1) := by
  rw [List.drop_eq_getElem_cons h, List.getD_eq_getElem?_getD, List.getElem?_eq_getElem h]; rfl
theorem ltrim_start (x : PySem.Str) : (0 : Int) ≤ 0 ∧ (0 : Int) ≤ x.length ∧ ltrimL (C x) = ltrimL ((C x).drop (0 : Int).toNat) := ⟨Int.le_refl _, by omega, rfl⟩
theorem ltrim_turn {x : PySem.Str} {k : Int} (h : 0 ≤ k ∧ k ≤ x.length ∧ ltrimL (C x) = ltrimL ((C x).drop k.toNat)) (h1 : k < x.length)
    (hb : (Builtin.Str.occurrences ⟨#[32, 9]⟩ (Txt.item x k) 0 (⟨#[32, 9]⟩ : PySem.Str).length 1).isEmpty = false) : 0 ≤ k + 1 ∧ k + 1 ≤ x.length ∧ ltrimL (C x) = ltrimL ((C x).drop (k + 1).toNat) := by
  obtain ⟨h0, h2, h3⟩ := h
  refine ⟨by omega, by omega, ?_⟩
  rw [in_blank_at x h0 h1] at hb
  have l1 := len_C x
  rw [h3, drop_at (C x) (k := k.toNat) (by omega), show (k + 1).toNat = k.toNat + 1 by omega]
  unfold ltrimL
  rw [List.dropWhile_cons, if_pos (by simpa using hb)]
theorem ltrim_end {x : PySem.Str} {k : Int} (h0 : 0 ≤ k) (h : ltrimL (C x) = ltrimL ((C x).drop k.toNat)) (hb : ¬ k < x.length ∨ (k < x.length ∧ (Builtin.Str.occurrences ⟨#[32, 9]⟩ (Txt.item x k) 0 (⟨#[32, 9]⟩ : PySem.Str).length 1).isEmpty = true)) :
    Txt.slice x (some k) none = S (ltrimL (C x)) := by
  rw [slice_sn x h0, h]
  congr 1
  have l1 := len_C x
  rcases hb with hb | ⟨h1, hb⟩
  · rw [List.drop_of_length_le (by omega)]; rfl
  · rw [in_blank_at x h0 h1] at hb
    rw [drop_at (C x) (k := k.toNat) (by omega)]
    unfold ltrimL
    rw [List.dropWhile_cons, if_neg (by simpa using hb)]
theorem rtrim_start (x : PySem.Str) : (0 : Int) ≤ x.length ∧ (x.length : Int) ≤ x.length ∧ rtrimL (C x) = rtrimL ((C x).take (x.length : Int).toNat) := ⟨by omega, Int.le_refl _, by rw [len_C, Int.toNat_natCast, List.take_length]⟩
theorem take_at (l : List Nat) {k : Nat} (h0 : 0 < k) (h : k ≤ l.length) : l.take k = l.take (k - 1) ++ [l.getD (k - 1) 0] := by
  obtain ⟨j, rfl⟩ : ∃ j, k = j + 1 := ⟨k - 1, by omega⟩
  rw [List.take_add_one, Nat.add_sub_cancel, List.getD_eq_getElem?_getD, List.getElem?_eq_getElem (by omega)]; rfl
theorem rtrim_turn {x : PySem.Str} {k : Int} (h : 0 ≤ k ∧ k ≤ x.length ∧ rtrimL (C x) = rtrimL ((C x).take k.toNat)) (h1 : 0 < k)
    (hb : (Builtin.Str.occurrences ⟨#[32, 9]⟩ (Txt.item x (k - 1)) 0 (⟨#[32, 9]⟩ : PySem.Str).length 1).isEmpty = false) : 0 ≤ k - 1 ∧ k - 1 ≤ x.length ∧ rtrimL (C x) = rtrimL ((C x).take (k - 1).toNat) := by
  obtain ⟨h0, h2, h3⟩ := h
  refine ⟨by omega, by omega, ?_⟩
  rw [in_blank_at x (by omega) (by omega)] at hb
  have l1 := len_C x
  rw [h3, take_at (C x) (k := k.toNat) (by omega) (by omega), show (k - 1).toNat = k.toNat - 1 by omega]
  rw [show (k - 1).toNat = k.toNat - 1 by omega] at hb
  unfold rtrimL
  rw [List.reverse_append, List.reverse_singleton, List.singleton_append, List.dropWhile_cons, if_pos (by simpa using hb)]
theorem rtrim_end {x : PySem.Str} {k : Int} (h0 : 0 ≤ k) (h2 : k ≤ x.length) (h : rtrimL (C x) = rtrimL ((C x).take k.toNat)) (hb : ¬ 0 < k ∨ (0 < k ∧ (Builtin.Str.occurrences ⟨#[32, 9]⟩ (Txt.item x (k - 1)) 0 (⟨#[32, 9]⟩ : PySem.Str).length 1).isEmpty = true)) :
    Txt.slice x none (some k) = S (rtrimL (C x)) := by
  rw [slice_ns x h0, h]
  congr 1
  have l1 := len_C x
  rcases hb with hb | ⟨h1, hb⟩
  · have : k.toNat = 0 := by omega
    rw [this]; rfl
  · rw [in_blank_at x (by omega) (by omega), show (k - 1).toNat = k.toNat - 1 by omega] at hb
    rw [take_at (C x) (k := k.toNat) (by omega) (by omega)]
    unfold rtrimL
    rw [List.reverse_append, List.reverse_singleton, List.singleton_append, List.dropWhile_cons, if_neg (by simpa using hb)]
    simp
theorem len_ltrim (x : PySem.Str) : (S (ltrimL (C x))).length ≤ x.length := by
  rw [len_S, len_C]; exact (List.dropWhile_sublist _).length_le
theorem len_rtrim (x : PySem.Str) : (S (rtrimL (C x))).length ≤ x.length := by
  rw [len_S, len_C]; unfold rtrimL; rw [List.length_reverse]
  exact Nat.le_trans (List.dropWhile_sublist _).length_le (Nat.le_of_eq (List.length_reverse))
theorem code_a : (PySem.Str.ofString "a").cps.toList = [97] := by decide +kernel
theorem code_z : (PySem.Str.ofString "z").cps.toList = [122] := by decide +kernel
theorem code_A : (PySem.Str.ofString "A").cps.toList = [65] := by decide +kernel
theorem code_Z : (PySem.Str.ofString "Z").cps.toList = [90] := by decide +kernel
theorem lt_one (a b : Nat) : (([a] : List Nat) < [b]) ↔ a < b := by
  constructor
  · intro h
    rcases List.cons_lt_cons_iff.mp h with h | ⟨_, h⟩
    · exact h
    · exact absurd h (by simp)
  · intro h
    exact List.cons_lt_cons_iff.mpr (.inl h)
theorem great_in {c : Nat} (h1 : ¬ (⟨#[c]⟩ : PySem.Str).cps.toList < (PySem.Str.ofString "a").cps.toList) (h2 : ¬ (PySem.Str.ofString "z").cps.toList < (⟨#[c]⟩ : PySem.Str).cps.toList) : 97 ≤ c ∧ c ≤ 122 := by
  rw [code_a] at h1
  rw [code_z] at h2
  have a := mt (lt_one c 97).mpr h1
  have b := mt (lt_one 122 c).mpr h2
  omega
theorem small_in {c : Nat} (h1 : ¬ (⟨#[c]⟩ : PySem.Str).cps.toList < (PySem.Str.ofString "A").cps.toList) (h2 : ¬ (PySem.Str.ofString "Z").cps.toList < (⟨#[c]⟩ : PySem.Str).cps.toList) : 65 ≤ c ∧ c ≤ 90 := by
  rw [code_A] at h1
  rw [code_Z] at h2
  have a := mt (lt_one c 65).mpr h1
  have b := mt (lt_one 90 c).mpr h2
  omega
theorem great_lo {c : Nat} (h1 : (⟨#[c]⟩ : PySem.Str).cps.toList < (PySem.Str.ofString "a").cps.toList) : (⟨#[c]⟩ : PySem.Str) = S [upC c] := by
  rw [code_a] at h1
  have a := (lt_one c 97).mp h1
  unfold upC; rw [if_neg (by omega)]; rfl
theorem great_hi {c : Nat} (h1 : (PySem.Str.ofString "z").cps.toList < (⟨#[c]⟩ : PySem.Str).cps.toList) : (⟨#[c]⟩ : PySem.Str) = S [upC c] := by
  rw [code_z] at h1
  have a := (lt_one 122 c).mp h1
  unfold upC; rw [if_neg (by omega)]; rfl
theorem small_lo {c : Nat} (h1 : (⟨#[c]⟩ : PySem.Str).cps.toList < (PySem.Str.ofString "A").cps.toList) : (⟨#[c]⟩ : PySem.Str) = S [loC c] := by
  rw [code_A] at h1
  have a := (lt_one c 65).mp h1
  unfold loC; rw [if_neg (by omega)]; rfl
theorem small_hi {c : Nat} (h1 : (PySem.Str.ofString "Z").cps.toList < (⟨#[c]⟩ : PySem.Str).cps.toList) : (⟨#[c]⟩ : PySem.Str) = S [loC c] := by
  rw [code_Z] at h1
  have a := (lt_one 90 c).mp h1
  unfold loC; rw [if_neg (by omega)]; rfl
end Mine
namespace Mine
theorem great_eq {c : Nat} (hb : 97 ≤ c ∧ c ≤ 122) : (⟨#[((c : Int) - 32).toNat]⟩ : PySem.Str) = S [upC c] := by
  unfold upC; rw [if_pos hb, show ((c : Int) - 32).toNat = c - 32 by omega]; rfl
theorem small_eq {c : Nat} (hb : 65 ≤ c ∧ c ≤ 90) : (⟨#[((c : Int) + 32).toNat]⟩ : PySem.Str) = S [loC c] := by
  unfold loC; rw [if_pos hb, show ((c : Int) + 32).toNat = c + 32 by omega]; rfl
end Mine
namespace Mine
/-- what flags of EDIT$ are set (the law's own flags alone) -/
structure Flags (fl : Int) (b2 b8 b16 b32 b64 b128 : Bool) : Prop where
  lo : 0 ≤ fl
  hi : fl ≤ 255
  f1 : Builtin.bitAnd fl 1 = 0
  f2 : b2 = decide (Builtin.bitAnd fl 2 ≠ 0)
  f4 : Builtin.bitAnd fl 4 = 0
  f8 : b8 = decide (Builtin.bitAnd fl 8 ≠ 0)
  f16 : b16 = decide (Builtin.bitAnd fl 16 ≠ 0)
  f32 : b32 = decide (Builtin.bitAnd fl 32 ≠ 0)
  f64 : b64 = decide (Builtin.bitAnd fl 64 ≠ 0)
  f128 : b128 = decide (Builtin.bitAnd fl 128 ≠ 0)
  f256 : Builtin.bitAnd fl 256 = 0
/-- what edited_sign makes of a sign -/
def edSign (b2 b32 b64 : Bool) (c : Nat) : List Nat :=
  if b2 && blank c then [] else if b64 && c == 91 then [40] else if b64 && c == 93 then [41] else [if b32 then upC c else c]
theorem blanks_str : PySem.Str.ofString " \t" = ⟨#[32, 9]⟩ := by decide +kernel
theorem brackets_str : PySem.Str.ofString "[]" = ⟨#[91, 93]⟩ := by decide +kernel
theorem bracket_str : PySem.Str.ofString "[" = ⟨#[91]⟩ := by decide +kernel
theorem in_bracket (c : Nat) : (Builtin.Str.occurrences ⟨#[91, 93]⟩ ⟨#[c]⟩ 0 (⟨#[91, 93]⟩ : PySem.Str).length 1).isEmpty = !(c == 91 || c == 93) := by
  have h := StrLaws.found_one ⟨#[91, 93]⟩ c
  have e : decide (c ∈ (⟨#[91, 93]⟩ : PySem.Str).cps.toList) = (c == 91 || c == 93) := by
    simp only [List.mem_cons, List.not_mem_nil, or_false]
    rw [Bool.eq_iff_iff]; simp
  rw [e] at h
  rw [← h]; simp
end Mine
namespace Mine
section
variable {fl : Int} {b2 b8 b16 b32 b64 b128 : Bool} {c : Nat}
theorem ed_n1 (hf : Flags fl b2 b8 b16 b32 b64 b128) (h : Builtin.bitAnd fl 2 = 0) : (b2 && blank c) = false := by rw [hf.f2]; simp [h]
theorem ed_n2 (_hf : Flags fl b2 b8 b16 b32 b64 b128) (h : (Builtin.Str.occurrences (PySem.Str.ofString " \t") ⟨#[c]⟩ 0 (PySem.Str.ofString " \t").length 1).isEmpty = true) : (b2 && blank c) = false := by
  rw [blanks_str, in_blank] at h
  have : blank c = false := by simpa using h
  rw [this, Bool.and_false]
theorem ed_m1 (hf : Flags fl b2 b8 b16 b32 b64 b128) (h : Builtin.bitAnd fl 64 = 0) : (b64 && (c == 91 || c == 93)) = false := by rw [hf.f64]; simp [h]
theorem ed_m2 (_hf : Flags fl b2 b8 b16 b32 b64 b128) (h : (Builtin.Str.occurrences (PySem.Str.ofString "[]") ⟨#[c]⟩ 0 (PySem.Str.ofString "[]").length 1).isEmpty = true) : (b64 && (c == 91 || c == 93)) = false := by
  rw [brackets_str, in_bracket] at h
  have : (c == 91 || c == 93) = false := by rw [Bool.not_eq_true'] at h; exact h
  rw [this, Bool.and_false]
theorem ed_r1 (hf : Flags fl b2 b8 b16 b32 b64 b128) (h2 : Builtin.bitAnd fl 2 ≠ 0) (h : (Builtin.Str.occurrences (PySem.Str.ofString " \t") ⟨#[c]⟩ 0 (PySem.Str.ofString " \t").length 1).isEmpty = false) : PySem.Str.ofString "" = S (edSign b2 b32 b64 c) := by
  rw [blanks_str, in_blank] at h
  have hb : blank c = true := by simpa using h
  have h2' : b2 = true := by rw [hf.f2]; simp [h2]
  unfold edSign
  rw [hb, h2']
  exact eq_C (by rw [C_nil]; rfl)
theorem ed_br (hf : Flags fl b2 b8 b16 b32 b64 b128) (hn : (b2 && blank c) = false) (h64 : Builtin.bitAnd fl 64 ≠ 0) (h : (Builtin.Str.occurrences (PySem.Str.ofString "[]") ⟨#[c]⟩ 0 (PySem.Str.ofString "[]").length 1).isEmpty = false) : edSign b2 b32 b64 c = if c == 91 then [40] else [41] := by
  rw [brackets_str, in_bracket] at h
  have hc : (c == 91 || c == 93) = true := by rw [Bool.not_eq_false'] at h; exact h
  have h6 : b64 = true := by rw [hf.f64]; simp [h64]
  unfold edSign
  rw [hn, h6]
  by_cases h91 : c = 91
  · subst h91; rfl
  · have h93 : c = 93 := by simpa [h91] using hc
    subst h93; rfl
theorem ed_r2 (hf : Flags fl b2 b8 b16 b32 b64 b128) (hn : (b2 && blank c) = false) (h64 : Builtin.bitAnd fl 64 ≠ 0) (h : (Builtin.Str.occurrences (PySem.Str.ofString "[]") ⟨#[c]⟩ 0 (PySem.Str.ofString "[]").length 1).isEmpty = false) (he : ((⟨#[c]⟩ : PySem.Str) == PySem.Str.ofString "[") = true) : PySem.Str.ofString "(" = S (edSign b2 b32 b64 c) := by
  rw [ed_br hf hn h64 h]
  rw [bracket_str, beq_C] at he
  have : c = 91 := by simpa [C] using he
  subst this
  decide +kernel
theorem ed_r3 (hf : Flags fl b2 b8 b16 b32 b64 b128) (hn : (b2 && blank c) = false) (h64 : Builtin.bitAnd fl 64 ≠ 0) (h : (Builtin.Str.occurrences (PySem.Str.ofString "[]") ⟨#[c]⟩ 0 (PySem.Str.ofString "[]").length 1).isEmpty = false) (he : ((⟨#[c]⟩ : PySem.Str) == PySem.Str.ofString "[") = false) : PySem.Str.ofString ")" = S (edSign b2 b32 b64 c) := by
  rw [ed_br hf hn h64 h]
  rw [bracket_str, beq_C] at he
  have : (c == 91) = false := by simpa [C] using he
  rw [this]
  decide +kernel
theorem ed_last (hn : (b2 && blank c) = false) (hm : (b64 && (c == 91 || c == 93)) = false) : edSign b2 b32 b64 c = [if b32 then upC c else c] := by
  unfold edSign
  rw [hn]
  have h1 : (b64 && c == 91) = false := by cases b64 <;> simp_all
  have h2 : (b64 && c == 93) = false := by cases b64 <;> simp_all
  rw [h1, h2]; simp
theorem ed_r4 (hf : Flags fl b2 b8 b16 b32 b64 b128) (hn : (b2 && blank c) = false) (hm : (b64 && (c == 91 || c == 93)) = false) (h : Builtin.bitAnd fl 32 ≠ 0) : S [upC c] = S (edSign b2 b32 b64 c) := by
  rw [ed_last hn hm, show b32 = true by rw [hf.f32]; simp [h]]; rfl
theorem ed_r5 (hf : Flags fl b2 b8 b16 b32 b64 b128) (hn : (b2 && blank c) = false) (hm : (b64 && (c == 91 || c == 93)) = false) (h : Builtin.bitAnd fl 32 = 0) : (⟨#[c]⟩ : PySem.Str) = S (edSign b2 b32 b64 c) := by
  rw [ed_last hn hm, show b32 = false by rw [hf.f32]; simp [h]]; rfl
end
end Mine
namespace Mine
def edStep (b2 b16 b32 b64 : Bool) (acc : List Nat) (c : Nat) : List Nat :=
  match edSign b2 b32 b64 c with
  | [] => acc
  | d :: _ => if b16 && blank d then (if acc.getLast? = some 32 then acc else acc ++ [32]) else acc ++ [d]
def edF (b2 b16 b32 b64 : Bool) (l : List Nat) : List Nat := l.foldl (edStep b2 b16 b32 b64) []
def edCut (b8 b128 : Bool) (l : List Nat) : List Nat := let m := if b8 then ltrimL l else l; if b128 then rtrimL m else m
def edL (b2 b8 b16 b32 b64 b128 : Bool) (l : List Nat) : List Nat := edF b2 b16 b32 b64 (edCut b8 b128 l)
def Ss (l : List Nat) : List PySem.Str := l.map fun c => S [c]
end Mine
end

section
open PySem PySem.W PyProof.Rows PySem.Calls PySem.Spec
namespace Mine
set_option linter.unusedVariables false
abbrev LedP := List (Addr × Obj)
def TextAt (g : Heap) (L : Addr) (m : PySem.Str → Option Value) (news : LedP) (x r : PySem.Str) (s s' : Shared) : Prop :=
  ∃ (t : Tok) (h' : Heap) (tk' : Nat), s' = { s with heap := h', toks := tk' } ∧ Fr g L h' (fun y => if y = x then some (.str r t) else m y) ∧ News g L h' news
theorem fr_same {g h : Heap} {L : Addr} {m : PySem.Str → Option Value} {x : PySem.Str} {v : Value} (F : Fr g L h m) (e : m x = some v) : Fr g L h (fun y => if y = x then some v else m y) := by
  have em : (fun y => if y = x then some v else m y) = m := by
    funext y
    by_cases hy : y = x
    · rw [if_pos hy, hy, e]
    · rw [if_neg hy]
  rw [em]; exact F
section
variable {M : Model} {A : Around} {E : Value → Shared → Prop} {s : Shared} {env : Env} {g : Heap} {L : Addr} {m : PySem.Str → Option Value} {news : LedP}
theorem cut_text {a : Stmt} {rest : List Stmt} {Q : Flow → Shared → Prop} (F : Fr g L s.heap m) (x r : PySem.Str) (news : LedP)
    (h1 : wpAny M A (exec a env) (fun f s' => f = .next ∧ TextAt g L m news x r s s') E s)
    (h2 : ∀ (t : Tok) (h' : Heap) (tk' : Nat), Fr g L h' (fun y => if y = x then some (.str r t) else m y) → News g L h' news → wpAny M A (execs rest env) Q E { s with heap := h', toks := tk' }) :
    wpAny M A (execs (a :: rest) env) Q E s := by
  refine wpAny_execs_cons (wpAny_mono h1 (fun f s' h => ?_) fun _ _ e => e)
  obtain ⟨rfl, t, h', tk', rfl, F', N'⟩ := h
  exact h2 t h' tk' F' N'
theorem textAt_new {s : Shared} {x r r' : PySem.Str} {t : Tok} {h' : Heap} {tk' : Nat} (e : r' = r) (F : Fr g L h' (fun y => if y = x then some (.str r' t) else m y)) (N : News g L h' news) : TextAt g L m news x r s { s with heap := h', toks := tk' } := by
  subst e; exact ⟨t, h', tk', rfl, F, N⟩
theorem textAt_old {s : Shared} {x r r' : PySem.Str} {t : Tok} {h' : Heap} {tk' : Nat} (e : r' = r) (hm : m x = some (.str r' t)) (F : Fr g L h' m) (N : News g L h' news) : TextAt g L m news x r s { s with heap := h', toks := tk' } := by
  subst e; exact ⟨t, h', tk', rfl, fr_same F hm, N⟩
end
theorem S_one (c : Nat) : S [c] = ⟨#[c]⟩ := rfl
theorem S_nil : S [] = PySem.Str.ofString "" := by decide +kernel
theorem blank_str : PySem.Str.ofString " " = ⟨#[32]⟩ := by decide +kernel
theorem Ss_snoc (fs : List Nat) (d : Nat) : Ss (fs ++ [d]) = Ss fs ++ [S [d]] := by simp [Ss]
theorem strs_snocC {us : List Value} {fs : List Nat} {d : Nat} {t : Tok} (h : StrsAre us (Ss fs)) : StrsAre (us ++ [.str ⟨#[d]⟩ t]) (Ss (fs ++ [d])) := by
  rw [Ss_snoc]; exact KStt.strs_snoc h
theorem strs_snocB {us : List Value} {fs : List Nat} {t : Tok} (h : StrsAre us (Ss fs)) : StrsAre (us ++ [.str (PySem.Str.ofString " ") t]) (Ss (fs ++ [32])) := by
  rw [blank_str]; exact strs_snocC h
theorem strs_len {us : List Value} {fs : List Nat} (h : StrsAre us (Ss fs)) : us.length = fs.length := by
  rw [h.length]; simp [Ss]
theorem join_Ss (l : List Nat) : Txt.join (PySem.Str.ofString "") (Ss l) = S l := by
  unfold Txt.join
  rw [StrLaws.glued_eq_join]
  have e : PySem.Str.ofString "" = PySem.Str.empty := eq_C (by rw [C_nil]; rfl)
  rw [e]
  apply eq_C
  rw [C_S]
  induction l with
  | nil => rfl
  | cons a r ih =>
    cases r with
    | nil => rfl
    | cons b r =>
      show C (S [a] ++ PySem.Str.empty ++ PySem.Str.join PySem.Str.empty (Ss (b :: r))) = _
      rw [C_app, C_app, ih, C_S, C_empty]; rfl
theorem Ss_sum (l : List Nat) : ((Ss l).map (·.length)).sum = l.length := by
  induction l with
  | nil => rfl
  | cons a r ih =>
    show (S [a]).length + ((Ss r).map (·.length)).sum = _
    rw [ih, len_S]; simp; omega
section
variable {prog : Program} {w : World} {A : Around} {E : Value → Shared → Prop} {s : Shared} {env : Env} {h₀ : Heap} {x : PySem.Str} {body : List Stmt} {L : Addr} {news : LedP}
theorem join_texts {l : Addr} {us : List Value} {c : Nat} {fs : List Nat} {t : Tok} {Q : Value → Shared → Prop} (N : News h₀ L s.heap news) (hm : (l, listOf us.toArray c) ∈ news) (hi : StrsAre us (Ss fs)) (hw : fs.length ≤ 1000)
    (h : ∀ t' k, Q (.str (S fs) t') { s with toks := k }) : wpAny (model prog w) A (call (.builtin "str.join") [.str (PySem.Str.ofString "") t, .ref l]) Q E s := by
  have hl : s.heap.IsList l us.toArray := ⟨_, (N _ hm).1, rfl, c, rfl⟩
  refine join_listW (x := PySem.Str.ofString "") hl (by simpa using hi) (by decide +kernel) (by rw [Ss_sum]; simp [Ss]; omega) fun t' k => ?_
  rw [join_Ss]
  exact h t' k
theorem len_texts {l : Addr} {us : List Value} {c : Nat} {fs : List Nat} {Q : Value → Shared → Prop} (N : News h₀ L s.heap news) (hm : (l, listOf us.toArray c) ∈ news) (hi : StrsAre us (Ss fs)) (hw : fs.length ≤ 1000)
    (h : Q (.int (fs.length : Int) (s.toks + 1)) { s with toks := s.toks + 1 + 1 }) : wpAny (model prog w) A (call (.builtin "len") [.ref l]) Q E s := by
  have hl : s.heap.IsList l us.toArray := ⟨_, (N _ hm).1, rfl, c, rfl⟩
  have e : us.toArray.size = fs.length := by rw [List.size_toArray, strs_len hi]
  exact len_list hl (by rw [e]; omega) (by rw [e]; exact h)
theorem last_texts {value slice : PySem.Expr} {l : Addr} {us : List Value} {c : Nat} {fs : List Nat} {u : Tok} {Q : Value → Shared → Prop} (N : News h₀ L s.heap news) (hm : (l, listOf us.toArray c) ∈ news) (hi : StrsAre us (Ss fs)) (h0 : 0 < fs.length) (hw : fs.length ≤ 1000)
    (h : ∀ t', Q (.str ⟨#[fs.getLastD 0]⟩ t') s)
    (hs : subscripted slice false (.ref l) (.int (-1) u) = operate [.ref l, .int (-1) u] (getItem (.ref l) (.int (-1) u)) := by with_unfolding_all rfl) :
    wpAny (model prog w) A (subscriptTail value slice (.ref l) (.int (-1) u)) Q E s := by
  have hl : s.heap.IsList l us.toArray := ⟨_, (N _ hm).1, rfl, c, rfl⟩
  have e : us.toArray.size = fs.length := by rw [List.size_toArray, strs_len hi]
  have hg : (Ss fs)[fs.length - 1]? = some ⟨#[fs.getLastD 0]⟩ := by
    rw [List.getLastD_eq_getLast?, List.getLast?_eq_getElem?]
    unfold Ss
    rw [List.getElem?_map, List.getElem?_eq_getElem (by omega)]
    rfl
  obtain ⟨t', et⟩ := hi.get (fs.length - 1) _ hg
  refine tail_any hl.typeIs slot_list_getitem.lookup (wpAny_getItem_list_neg hl (by decide) (by rw [e]; omega) (by decide) (x := .str _ t') ?_ (h t')) hs
  rw [e]
  have : (-1 + (fs.length : Int)).toNat = fs.length - 1 := by omega
  rw [this]
  simpa using et
theorem cut1 {x : PySem.Str} {b8 : Bool} (hx : x.length ≤ 1000) : (S (if b8 then ltrimL (C x) else C x)).length ≤ 1000 := by
  rw [len_C] at hx
  rw [len_S]
  split
  · exact Nat.le_trans (List.dropWhile_sublist _).length_le hx
  · exact hx
theorem cut2 {x : PySem.Str} {b8 b128 : Bool} (hx : x.length ≤ 1000) : (S (edCut b8 b128 (C x))).length ≤ 1000 := by
  have h1 := cut1 (b8 := b8) hx
  unfold edCut
  rw [len_S] at *
  generalize (if b8 = true then ltrimL (C x) else C x) = l at h1 ⊢
  dsimp only
  split
  · unfold rtrimL
    rw [List.length_reverse]
    exact Nat.le_trans (List.dropWhile_sublist _).length_le (by rw [List.length_reverse]; exact h1)
  · exact h1
/-- a loop over a text that grows a list of one-sign texts -/
theorem loop_texts {xt : PySem.Str} {tx : Tok} {m₀ : PySem.Str → Option Value} {Q : Flow → Shared → Prop} {l : Addr} {own : LedP} (fixed : List (PySem.Str × Value)) (stored : List PySem.Str) (P : List Int → List Nat → Prop)
    (hh : A.handled = none) (F : Fr h₀ env.locals s.heap m₀) (N : News h₀ env.locals s.heap ((l, listOf #[] 0) :: own)) (hk : ∀ p ∈ fixed, m₀ p.1 = some p.2) (hp : P [] [])
    (turn : ∀ (us : List Value) (c : Nat) (fs : List Nat) (pre post : List Int) (n : Nat) t (u : PySem.Str → Option Value) h tk own', KStt.codes xt = pre ++ (n : Int) :: post → OwnOff own' (l :: own.map (·.1)) → StrsAre us (Ss fs) → P pre fs →
      Fr h₀ env.locals h (fun y => if y = x then some (.str ⟨#[n]⟩ t) else kstB (fun z => if stored.contains z then u z else m₀ z) fixed y) → News h₀ env.locals h ((l, listOf us.toArray c) :: (own ++ own')) →
      wpAny (model prog w) A (execs body env) (InvPostN h₀ env.locals (KstS (σ := List Value × Nat × List Nat) (fun c => (l, listOf c.1.toArray c.2.1) :: own) (fun _ => fixed) (fun c => StrsAre c.1 (Ss c.2.2)) x stored m₀ (fun pre c => P pre c.2.2) (pre ++ [(n : Int)])) own' (l :: own.map (·.1)) { s with heap := h, toks := tk } Q) E { s with heap := h, toks := tk })
    (done : ∀ (us : List Value) (c : Nat) (fs : List Nat) (u : PySem.Str → Option Value) h tk, StrsAre us (Ss fs) → P (KStt.codes xt) fs → Fr h₀ env.locals h (fun y => if y = x then u y else kstB (fun z => if stored.contains z then u z else m₀ z) fixed y) → News h₀ env.locals h ((l, listOf us.toArray c) :: own) → Q .next { s with heap := h, toks := tk }) :
    wpAny (model prog w) A (pyIter (.str xt tx)) (fun it s₂ => LoopAtV prog w A h₀ env x body Q E it s₂) E s := by
  refine KStt.kst_text (σ := List Value × Nat × List Nat) (fun c => (l, listOf c.1.toArray c.2.1) :: own) (fun _ => fixed) (fun c => StrsAre c.1 (Ss c.2.2)) stored (fun pre c => P pre c.2.2) ([], 0, []) hh F N .nil hk hp ?_ ?_
  · rintro ⟨us, c, fs⟩ pre post n t u h tk own' e hoff hf hP F5 N5
    exact turn us c fs pre post n t u h tk own' e hoff hf hP F5 N5
  · rintro ⟨us, c, fs⟩ u h tk hf hP F5 N5
    exact done us c fs u h tk hf hP F5 N5
end
theorem codes_nat (x : PySem.Str) : (KStt.codes x).map Int.toNat = C x := by
  have e : (KStt.codes x).map Int.toNat = x.cps.toList := by
    unfold KStt.codes
    rw [List.map_map]
    exact (List.map_congr_left (g := _root_.id) fun c _ => Int.toNat_natCast c).trans (List.map_id _)
  exact e
end Mine
namespace Mine
theorem ed_cases (b2 b32 b64 : Bool) (c : Nat) : edSign b2 b32 b64 c = [] ∨ ∃ d, edSign b2 b32 b64 c = [d] := by
  unfold edSign
  (repeat' split) <;> first | exact .inl rfl | exact .inr ⟨_, rfl⟩
section
variable {b2 b8 b16 b32 b64 b128 : Bool} {fl : Int} {pre : List Int} {fs : List Nat} {n d : Nat}
def EdP (b2 b16 b32 b64 : Bool) (pre : List Int) (fs : List Nat) : Prop := fs = edF b2 b16 b32 b64 (pre.map Int.toNat) ∧ fs.length ≤ pre.length
theorem EdP.start : EdP b2 b16 b32 b64 [] [] := ⟨rfl, Nat.le_refl _⟩
theorem EdP.step (h : EdP b2 b16 b32 b64 pre fs) {fs' : List Nat} (e : edStep b2 b16 b32 b64 fs n = fs') (hl : fs'.length ≤ fs.length + 1) : EdP b2 b16 b32 b64 (pre ++ [(n : Int)]) fs' := by
  refine ⟨?_, by rw [List.length_append, List.length_singleton]; have := h.2; omega⟩
  rw [← e, h.1, List.map_append]
  unfold edF
  rw [List.foldl_append]
  rfl
theorem EdP.w1 (h : EdP b2 b16 b32 b64 pre fs) (e9 : edSign b2 b32 b64 n = []) : EdP b2 b16 b32 b64 (pre ++ [(n : Int)]) fs :=
  h.step (by unfold edStep; rw [e9]) (by omega)
theorem EdP.w2 (h : EdP b2 b16 b32 b64 pre fs) (e9 : edSign b2 b32 b64 n = [d]) (hb : (b16 && blank d) = false) : EdP b2 b16 b32 b64 (pre ++ [(n : Int)]) (fs ++ [d]) :=
  h.step (by unfold edStep; rw [e9]; simp only [hb]; rfl) (by simp)
theorem EdP.w4 (h : EdP b2 b16 b32 b64 pre fs) (e9 : edSign b2 b32 b64 n = [d]) (hb : (b16 && blank d) = true) (hl : fs.getLast? ≠ some 32) : EdP b2 b16 b32 b64 (pre ++ [(n : Int)]) (fs ++ [32]) :=
  h.step (by unfold edStep; rw [e9]; simp only [hb, if_true]; rw [if_neg hl]) (by simp)
theorem EdP.w5 (h : EdP b2 b16 b32 b64 pre fs) (e9 : edSign b2 b32 b64 n = [d]) (hb : (b16 && blank d) = true) (hl : fs.getLast? = some 32) : EdP b2 b16 b32 b64 (pre ++ [(n : Int)]) fs :=
  h.step (by unfold edStep; rw [e9]; simp only [hb, if_true]; rw [if_pos hl]) (by omega)
theorem ed_b1 (hf : Flags fl b2 b8 b16 b32 b64 b128) (h : Builtin.bitAnd fl 16 = 0) : (b16 && blank d) = false := by rw [hf.f16]; simp [h]
theorem ed_b2 (_hf : Flags fl b2 b8 b16 b32 b64 b128) (h : (Builtin.Str.occurrences (PySem.Str.ofString " \t") ⟨#[d]⟩ 0 (PySem.Str.ofString " \t").length 1).isEmpty = true) : (b16 && blank d) = false := by
  rw [blanks_str, in_blank] at h
  have : blank d = false := by simpa using h
  rw [this, Bool.and_false]
theorem ed_b3 (hf : Flags fl b2 b8 b16 b32 b64 b128) (h16 : Builtin.bitAnd fl 16 ≠ 0) (h : (Builtin.Str.occurrences (PySem.Str.ofString " \t") ⟨#[d]⟩ 0 (PySem.Str.ofString " \t").length 1).isEmpty = false) : (b16 && blank d) = true := by
  rw [blanks_str, in_blank] at h
  have : blank d = true := by simpa using h
  rw [this, Bool.and_true, hf.f16]
  simp [h16]
theorem ed_l1 (h : ¬ (0 : Int) < (fs.length : Int)) : fs.getLast? ≠ some 32 := by
  have : fs = [] := List.length_eq_zero_iff.mp (by omega)
  subst this; simp
theorem ed_l2 (_h : (0 : Int) < (fs.length : Int)) (he : ((⟨#[fs.getLastD 0]⟩ : PySem.Str) == PySem.Str.ofString " ") = false) : fs.getLast? ≠ some 32 := by
  intro hc
  rw [List.getLastD_eq_getLast?, hc, blank_str] at he
  simp at he
theorem ed_l3 (h : (0 : Int) < (fs.length : Int)) (he : ((⟨#[fs.getLastD 0]⟩ : PySem.Str) == PySem.Str.ofString " ") = true) : fs.getLast? = some 32 := by
  rw [blank_str, beq_C] at he
  have e1 : fs.getLastD 0 = 32 := by simpa [C] using he
  rw [List.getLastD_eq_getLast?] at e1
  cases hg : fs.getLast? with
  | none =>
    rw [List.getLast?_eq_none_iff] at hg
    subst hg; simp at h
  | some v => rw [hg] at e1; exact congrArg some e1
theorem ed_fin {x : PySem.Str} (h : EdP b2 b16 b32 b64 (KStt.codes x) fs) : fs = edF b2 b16 b32 b64 (C x) := by
  rw [← codes_nat]; exact h.1
end
end Mine
namespace Mine
section
variable {b2 b8 b16 b32 b64 b128 : Bool} {fl : Int} {x : PySem.Str}
theorem cutA (hf : Flags fl b2 b8 b16 b32 b64 b128) (h : Builtin.bitAnd fl 8 ≠ 0) : S (ltrimL (C x)) = S (if b8 then ltrimL (C x) else C x) := by
  rw [show b8 = true by rw [hf.f8]; simp [h]]; rfl
theorem cutB (hf : Flags fl b2 b8 b16 b32 b64 b128) (h : Builtin.bitAnd fl 8 = 0) : x = S (if b8 then ltrimL (C x) else C x) := by
  rw [show b8 = false by rw [hf.f8]; simp [h]]; exact (S_C x).symm
theorem cutC (hf : Flags fl b2 b8 b16 b32 b64 b128) (h : Builtin.bitAnd fl 128 ≠ 0) : S (rtrimL (C (S (if b8 then ltrimL (C x) else C x)))) = S (edCut b8 b128 (C x)) := by
  rw [show b128 = true by rw [hf.f128]; simp [h], C_S]; rfl
theorem cutD (hf : Flags fl b2 b8 b16 b32 b64 b128) (h : Builtin.bitAnd fl 128 = 0) : S (if b8 then ltrimL (C x) else C x) = S (edCut b8 b128 (C x)) := by
  rw [show b128 = false by rw [hf.f128]; simp [h]]; rfl
end
end Mine
namespace Mine
theorem same1 {x y q : PySem.Str} {v w : Option Value} {vq : Value} {u m₀ : PySem.Str → Option Value} : ∀ z, z ≠ x → (∀ p ∈ [(q, vq)], z ≠ p.1) → [y].contains z = false → (if z = y then w else if z = x then v else kstB (fun z => if [y].contains z then u z else m₀ z) [(q, vq)] z) = m₀ z := by
  intro z h1 h2 h3
  have h5 : z ≠ q := h2 _ (.head _)
  have h4 : z ≠ y := by
    intro e; subst e; simp at h3
  rw [if_neg h4, if_neg h1]
  show (if z = q then some vq else (if [y].contains z = true then u z else m₀ z)) = m₀ z
  rw [if_neg h5, h3]; rfl
theorem same2 {x y q : PySem.Str} {v w w2 : Option Value} {vq : Value} {u m₀ : PySem.Str → Option Value} : ∀ z, z ≠ x → (∀ p ∈ [(q, vq)], z ≠ p.1) → [y].contains z = false → (if z = y then w2 else if z = y then w else if z = x then v else kstB (fun z => if [y].contains z then u z else m₀ z) [(q, vq)] z) = m₀ z := by
  intro z h1 h2 h3
  have h4 : z ≠ y := by
    intro e; subst e; simp at h3
  rw [if_neg h4]
  exact same1 z h1 h2 h3
theorem fix1 {x y q : PySem.Str} {v w : Option Value} {vq : Value} {r : PySem.Str → Option Value} (h1 : q ≠ x) (h2 : q ≠ y) : ∀ p ∈ [(q, vq)], (fun z => if z = y then w else if z = x then v else kstB r [(q, vq)] z) p.1 = some p.2 := by
  intro p hp
  rcases List.mem_cons.mp hp with rfl | hp
  · show (if q = y then w else if q = x then v else kstB r [(q, vq)] q) = some vq
    rw [if_neg h2, if_neg h1]
    show (if q = q then some vq else r q) = some vq
    rw [if_pos rfl]
  · nomatch hp
theorem fix2 {x y q : PySem.Str} {v w w2 : Option Value} {vq : Value} {r : PySem.Str → Option Value} (h1 : q ≠ x) (h2 : q ≠ y) : ∀ p ∈ [(q, vq)], (fun z => if z = y then w2 else if z = y then w else if z = x then v else kstB r [(q, vq)] z) p.1 = some p.2 := by
  intro p hp
  have := fix1 (w := w) (v := v) (vq := vq) (r := r) h1 h2 p hp
  rcases List.mem_cons.mp hp with rfl | hp
  · show (if q = y then w2 else _) = some vq
    rw [if_neg h2]; exact this
  · nomatch hp
end Mine
namespace Mine
section
variable {b2 b8 b16 b32 b64 b128 : Bool}
theorem ed_done {x : PySem.Str} {fs : List Nat} (h : EdP b2 b16 b32 b64 (KStt.codes (S (edCut b8 b128 (C x)))) fs) : S fs = S (edL b2 b8 b16 b32 b64 b128 (C x)) := by
  rw [ed_fin h, C_S]; rfl
theorem edStep_len (acc : List Nat) (c : Nat) : (edStep b2 b16 b32 b64 acc c).length ≤ acc.length + 1 := by
  unfold edStep
  split
  · omega
  · split
    · split
      · omega
      · simp
    · simp
theorem edF_len (l : List Nat) : (edF b2 b16 b32 b64 l).length ≤ l.length := by
  have key : ∀ (l acc : List Nat), (l.foldl (edStep b2 b16 b32 b64) acc).length ≤ acc.length + l.length := by
    intro l
    induction l with
    | nil => intro acc; simp
    | cons a r ih =>
      intro acc
      rw [List.foldl_cons]
      have h1 := ih (edStep b2 b16 b32 b64 acc a)
      have h2 := edStep_len (b2 := b2) (b16 := b16) (b32 := b32) (b64 := b64) acc a
      rw [List.length_cons]
      omega
  have := key l []
  simpa [edF] using this
theorem edCut_len (l : List Nat) : (edCut b8 b128 l).length ≤ l.length := by
  unfold edCut
  have h1 : (if b8 = true then ltrimL l else l).length ≤ l.length := by
    split
    · exact (List.dropWhile_sublist _).length_le
    · exact Nat.le_refl _
  generalize (if b8 = true then ltrimL l else l) = m at h1 ⊢
  dsimp only
  split
  · unfold rtrimL
    rw [List.length_reverse]
    exact Nat.le_trans (List.dropWhile_sublist _).length_le (by rw [List.length_reverse]; exact h1)
  · exact h1
theorem len_edL (x : PySem.Str) : (S (edL b2 b8 b16 b32 b64 b128 (C x))).length ≤ x.length := by
  rw [len_S, len_C]
  exact Nat.le_trans (edF_len _) (edCut_len _)
end
end Mine
namespace Mine
theorem ne_oneT (d : Nat) : ((⟨#[d]⟩ : PySem.Str) != PySem.Str.ofString "") = true := by
  rw [bne, beq_C, C_nil]; rfl
end Mine
end

section
open PySem PySem.W PyProof.Rows PySem.Calls PySem.Spec PyProof.V
namespace Mine
set_option linter.unusedVariables false
section
variable {prog : Program} {w : World} {A : Around} {E : Value → Shared → Prop} {s : Shared} {h₀ : Heap} {L : Addr} {m : PySem.Str → Option Value} {env : Env}
def TextSrc (prog : Program) (w : World) (A : Around) (h₀ : Heap) (L : Addr) (m : PySem.Str → Option Value) (env : Env) (elt : PySem.Expr) (x : PySem.Str) (scope : Scope) (cl : List (PySem.Str × Addr)) (Fin : Shared → List Value → LedP → Prop) (xv : Value) (s₁ : Shared) : Prop :=
  ∃ xt tx news, xv = .str xt tx ∧ A.handled = none ∧ Fr h₀ L s₁.heap m ∧ News h₀ L s₁.heap news ∧ xt.length ≤ 1000 ∧
    ∀ s₂ : Shared, (∃ h, s₂ = { s₁ with heap := h }) → LCg.CompRest prog w A h₀ L m env elt x scope cl s₂ (fun _ => True) (SignAt xt) (Fin s₂) xt.cps.size 0 [] news
theorem TextSrc.intro {elt : PySem.Expr} {x : PySem.Str} {scope : Scope} {cl : List (PySem.Str × Addr)} {Fin : Shared → List Value → LedP → Prop} {xt : PySem.Str} {tx : Tok} {news : LedP} {s₁ : Shared}
    (hh : A.handled = none) (F : Fr h₀ L s₁.heap m) (N : News h₀ L s₁.heap news) (hx : xt.length ≤ 1000)
    (h : ∀ g, LCg.CompRest prog w A h₀ L m env elt x scope cl { s₁ with heap := g } (fun _ => True) (SignAt xt) (Fin { s₁ with heap := g }) xt.cps.size 0 [] news) :
    TextSrc prog w A h₀ L m env elt x scope cl Fin (.str xt tx) s₁ := ⟨xt, tx, news, rfl, hh, F, N, hx, fun _ ⟨g, e⟩ => e ▸ h g⟩
theorem comp_text {elt iter : PySem.Expr} {x : PySem.Str} {px : Pos} {scope : Scope} {cl : List (PySem.Str × Addr)} {pos : Pos} {Q : Value → Shared → Prop} (F₀ : Fr h₀ L s.heap m)
    (hclos : closureFor scope env = pure cl) (hcell : ∀ y ∈ scope.names, y.2 ≠ .cell) (hkind : scope.kind = .function)
    (hnames : ∀ y ∈ scope.names, y.2 = .local → scope.names.lookup y.1 = some .local) (hx : scope.names.lookup x = some .local)
    (h : wpAny (model prog w) A (eval iter env) (TextSrc prog w A h₀ L m env elt x scope cl (fun s₂ => LCg.FinE h₀ L m s₂ Q)) E s)
    (hs : ∀ x, foldedSetIterable iter env x = pure x := by intro _; rfl) :
    wpAny (model prog w) A (eval (.ListComp elt [⟨.Name x px, iter, [], 0⟩] scope pos) env) Q E s := by
  rw [eval_ListComp]
  refine wpAny_comprehension_free (use := none) rfl hs hclos hkind hnames (wpAny_mono h (fun xv s₁ h₁ => ?_) fun _ _ e => e)
  obtain ⟨xt, tx, news, rfl, hh, F, N, hlen, R⟩ := h₁
  have up : ∀ (o : Obj) b o', s₁.heap.get? b = some o' → (s₁.heap.push o).get? b = some o' := fun o b o' e => Heap.get?_push_of_some _ e
  have hsz : xt.cps.size ≤ sizeLine := by rw [PySem.sizeLine_eq]; have : xt.cps.size ≤ 1000 := hlen; omega
  cases ha : xt.cps.all (· < 128)
  · refine wpAny_pyIter_wide ha ?_
    refine LCg.block_U (Walks.strWide hh _ xt tx) hsz (fun i h st => by obtain ⟨o, e, _⟩ := st; exact ⟨o, e⟩) (fun i h h' o nw st e e' _ _ _ => by obtain ⟨o', q, r⟩ := st; rw [e] at q; cases q; exact ⟨o, e', r⟩)
      hcell hkind hx ⟨_, Heap.get?_push_size _ rfl, rfl, rfl⟩ (fun b hb => ?_) (F.keeps (up _)) (N.grown (up _)) (Nat.ne_of_lt F.ns.lt) (next_is_new F) (fun p hp => Nat.ne_of_lt (Heap.lt_size (N p hp).1)) trivial (R _ ⟨_, rfl⟩) ?_
    · rw [List.mem_singleton.mp hb]
      show s₁.heap.objs.size < (s₁.heap.push _).objs.size
      rw [Heap.size_push]; exact Nat.lt_succ_self _
    · intro D C h tk m' ys news' F' N' o1 hn hC₀ hD₀ hCL hDL hCD offC fin
      refine ⟨m', hn, fun h'' hs'' => fin D h'' tk (F'.change hs'' hCL hC₀) (fun p hp => ?_) o1⟩
      refine ⟨hs''.extBut _ _ ?_ (N' p hp).1, (N' p hp).2⟩
      rcases List.mem_cons.mp hp with rfl | hp
      · exact Ne.symm hCD
      · exact offC p hp
  · refine wpAny_pyIter_ascii ha ?_
    refine LCg.block_U (Walks.strAscii hh _ xt tx) hsz (fun i h st => by obtain ⟨o, e, _⟩ := st; exact ⟨o, e⟩) (fun i h h' o nw st e e' _ _ _ => by obtain ⟨o', q, r⟩ := st; rw [e] at q; cases q; exact ⟨o, e', r⟩)
      hcell hkind hx ⟨_, Heap.get?_push_size _ rfl, rfl, rfl⟩ (fun b hb => ?_) (F.keeps (up _)) (N.grown (up _)) (Nat.ne_of_lt F.ns.lt) (next_is_new F) (fun p hp => Nat.ne_of_lt (Heap.lt_size (N p hp).1)) trivial (R _ ⟨_, rfl⟩) ?_
    · rw [List.mem_singleton.mp hb]
      show s₁.heap.objs.size < (s₁.heap.push _).objs.size
      rw [Heap.size_push]; exact Nat.lt_succ_self _
    · intro D C h tk m' ys news' F' N' o1 hn hC₀ hD₀ hCL hDL hCD offC fin
      refine ⟨m', hn, fun h'' hs'' => fin D h'' tk (F'.change hs'' hCL hC₀) (fun p hp => ?_) o1⟩
      refine ⟨hs''.extBut _ _ ?_ (N' p hp).1, (N' p hp).2⟩
      rcases List.mem_cons.mp hp with rfl | hp
      · exact Ne.symm hCD
      · exact offC p hp
theorem rest_text {elt : PySem.Expr} {x : PySem.Str} {scope : Scope} {cl : List (PySem.Str × Addr)} {S' : LedP → Prop} {Fin : List Value → LedP → Prop} {news : LedP} {xt : PySem.Str} (g : Nat → Nat)
    (turn : ∀ (c : Nat) t I oI D₁ oC D m₂ ys h tk (E' : Value → Shared → Prop), LCg.NsObj oC m₂ → m₂ x = some (.str ⟨#[c]⟩ t) → Fr h₀ L h m → News h₀ L h ((I, oI) :: (D₁, oC) :: (D, LCg.lst ys) :: news) → LCg.Off3 I D₁ D news → ((@Ne Nat I D₁) ∧ (@Ne Nat I D) ∧ (@Ne Nat D₁ D)) →
      wpAny (model prog w) A (eval elt (compEnvC scope cl D₁ env)) (LCg.CompEnd h₀ L m { s with heap := h, toks := tk } I oI D₁ oC D (LCg.lst ys) S' (fun y news' => news' = news ∧ ∃ t : Tok, y = .str (S [g c]) t)) E' { s with heap := h, toks := tk })
    (fin : ∀ ys, StrsAre ys (Ss ((C xt).map g)) → Fin ys news) : LCg.CompRest prog w A h₀ L m env elt x scope cl s S' (SignAt xt) Fin xt.cps.size 0 [] news := by
  have key : ∀ (j i : Nat) (ys : List Value), i + j = xt.cps.size → StrsAre ys (Ss (((C xt).take i).map g)) → LCg.CompRest prog w A h₀ L m env elt x scope cl s S' (SignAt xt) Fin j i ys news := by
    intro j
    induction j with
    | zero =>
      intro i ys hi hy
      have e : i = (C xt).length := by rw [← len_C]; exact hi
      subst e
      rw [List.take_length] at hy
      exact LCg.CompRest.zero (fin ys hy)
    | succ j ih =>
      intro i ys hi hy
      refine LCg.CompRest.succ ?_
      intro v I oI D₁ oC D m₂ h tk E' hv hC hx F N off ne
      obtain ⟨c, t, hc, rfl⟩ := hv
      refine wpAny_mono (turn c t I oI D₁ oC D m₂ ys h tk E' hC hx F N off ne) (fun y s₂ hq => ?_) fun _ _ e => e
      obtain ⟨h', tk', nw, e, F', N', off', hS, hn, t', hy'⟩ := hq
      subst hn
      refine ⟨h', tk', nw, e, F', N', off', hS, ?_⟩
      rw [hy']
      refine ih (i + 1) _ (by omega) ?_
      have hci : (C xt)[i]? = some c := by simpa [C] using hc
      rw [List.take_add_one, hci, List.map_append]
      exact strs_snocC hy
  exact key _ 0 [] (by omega) .nil
end
end Mine
namespace Mine
def ledL (t l : List Nat) : List Nat := l.filterMap fun c => if c < t.length ∧ 0 < t.getD c 0 then some (t.getD c 0) else none
def LdP (t : List Nat) (pre : List Int) (fs : List Nat) : Prop := fs = ledL t (pre.map Int.toNat) ∧ fs.length ≤ pre.length
section
variable {tb : PySem.Str} {pre : List Int} {fs : List Nat} {n : Nat}
theorem LdP.start : LdP (C tb) [] [] := ⟨rfl, Nat.le_refl _⟩
theorem LdP.keep (h : LdP (C tb) pre fs) (hn : ¬ (n < (C tb).length ∧ 0 < (C tb).getD n 0)) : LdP (C tb) (pre ++ [(n : Int)]) fs := by
  refine ⟨?_, by rw [List.length_append]; have := h.2; omega⟩
  have : ledL (C tb) ((pre ++ [(n : Int)]).map Int.toNat) = ledL (C tb) (pre.map Int.toNat) := by
    unfold ledL
    rw [List.map_append, List.filterMap_append]
    simp only [List.map_cons, List.map_nil, Int.toNat_natCast, List.filterMap_cons, List.filterMap_nil]
    rw [if_neg hn]
    simp
  rw [this]; exact h.1
theorem LdP.more (h : LdP (C tb) pre fs) (hn : n < (C tb).length ∧ 0 < (C tb).getD n 0) : LdP (C tb) (pre ++ [(n : Int)]) (fs ++ [(C tb).getD n 0]) := by
  refine ⟨?_, by rw [List.length_append, List.length_append, List.length_singleton, List.length_singleton]; have := h.2; omega⟩
  have : ledL (C tb) ((pre ++ [(n : Int)]).map Int.toNat) = ledL (C tb) (pre.map Int.toNat) ++ [(C tb).getD n 0] := by
    unfold ledL
    rw [List.map_append, List.filterMap_append]
    simp only [List.map_cons, List.map_nil, Int.toNat_natCast, List.filterMap_cons, List.filterMap_nil]
    rw [if_pos hn]
  rw [this, ← h.1]
theorem LdP.fin {x : PySem.Str} (h : LdP (C tb) (KStt.codes x) fs) : S fs = S (ledL (C tb) (C x)) := by
  rw [h.1, codes_nat]
theorem ledL_len (t l : List Nat) : (ledL t l).length ≤ l.length := List.length_filterMap_le _ _
theorem len_led (x : PySem.Str) : (S (ledL (C tb) (C x))).length ≤ x.length := by
  rw [len_S, len_C]; exact ledL_len _ _
theorem same0 {x : PySem.Str} {v : Option Value} {u m₀ : PySem.Str → Option Value} : ∀ z, z ≠ x → (∀ p ∈ ([] : List (PySem.Str × Value)), z ≠ p.1) → ([] : List PySem.Str).contains z = false → (if z = x then v else kstB (fun z => if ([] : List PySem.Str).contains z then u z else m₀ z) [] z) = m₀ z := by
  intro z h1 _ _
  rw [if_neg h1]; rfl
theorem strs_item {us : List Value} {t : Tok} (h : StrsAre us (Ss fs)) (hn : (n : Int) < tb.length) : StrsAre (us ++ [.str (Txt.item tb (n : Int)) t]) (Ss (fs ++ [(C tb).getD n 0])) := by
  rw [item_at tb (by omega) hn, Int.toNat_natCast]
  exact strs_snocC h
theorem item_code (hn : (n : Int) < tb.length) : (Txt.item tb (n : Int)).cps.getD 0 0 = (C tb).getD n 0 := by
  rw [item_at tb (by omega) hn, Int.toNat_natCast]; rfl
end
end Mine
end

section
open PySem PySem.W PyProof.Rows PySem.Calls PySem.Spec PyProof.V
namespace Mine
set_option linter.unusedVariables false
/-- the figures of a number, as codes -/
def figs (n : Nat) : List Nat := if n < 10 then [48 + n] else figs (n / 10) ++ [48 + n % 10]
theorem figs_lt {n : Nat} (h : n < 10) : figs n = [48 + n] := by rw [figs, if_pos h]
theorem figs_ge {n : Nat} (h : ¬ n < 10) : figs n = figs (n / 10) ++ [48 + n % 10] := by rw [figs, if_neg h]
def FgP (c : Nat) (n : Int) (found : PySem.Str) : Prop := 0 ≤ n ∧ n ≤ 9999 ∧ found.length ≤ (figs c).length ∧ figs c = (if n < 10 then [] else figs (n.toNat / 10)) ++ C found
theorem fg_chr {k : Int} (h : 0 ≤ k) : (⟨#[(48 + k % 10).toNat]⟩ : PySem.Str) = S [48 + k.toNat % 10] := by
  have : (48 + k % 10).toNat = 48 + k.toNat % 10 := by omega
  rw [this]; rfl
theorem FgP.start {c : Nat} (hc : c ≤ 9999) : FgP c (c : Int) ⟨#[48 + c % 10]⟩ := by
  refine ⟨by omega, by omega, ?_, ?_⟩
  · show 1 ≤ _
    by_cases h : c < 10
    · rw [figs_lt h]; simp
    · rw [figs_ge h]; simp
  · by_cases h : c < 10
    · rw [figs_lt h, if_pos (by omega), Nat.mod_eq_of_lt h]; rfl
    · rw [figs_ge h, if_neg (by omega)]; rfl
theorem FgP.turn {c : Nat} {n m : Int} {found r : PySem.Str} (h : FgP c n found) (h9 : ¬ n ≤ 9) (hm : m = n / 10) (hr : C r = (48 + m.toNat % 10) :: C found) : FgP c m r := by
  obtain ⟨h0, h1, h2, h3⟩ := h
  have hge : ¬ n.toNat < 10 := by omega
  have e1 : m.toNat = n.toNat / 10 := by omega
  rw [if_neg (by omega), ← e1] at h3
  have e : figs c = (if m < 10 then [] else figs (m.toNat / 10)) ++ C r := by
    rw [h3, hr]
    by_cases h : m < 10
    · rw [if_pos h, figs_lt (by omega), Nat.mod_eq_of_lt (by omega : m.toNat < 10)]; rfl
    · rw [if_neg h, figs_ge (n := m.toNat) (by omega)]; simp
  refine ⟨by omega, by omega, ?_, e⟩
  rw [e, List.length_append, len_C]; omega
theorem FgP.fin {c : Nat} {n : Int} {found : PySem.Str} (h : FgP c n found) (h9 : n ≤ 9) : found = S (figs c) := by
  obtain ⟨h0, h1, h2, h3⟩ := h
  rw [if_pos (by omega)] at h3
  rw [h3]; exact (S_C _).symm
theorem figs_len3 {c : Nat} (h0 : 100 ≤ c) (h1 : c < 1000) : (figs c).length = 3 := by
  rw [figs_ge (by omega), figs_ge (n := c / 10) (by omega), figs_lt (n := c / 10 / 10) (by omega)]; rfl
theorem figs_len4 {c : Nat} (h0 : 1000 ≤ c) (h1 : c ≤ 9999) : (figs c).length = 4 := by
  rw [figs_ge (by omega), figs_ge (n := c / 10) (by omega), figs_ge (n := c / 10 / 10) (by omega), figs_lt (n := c / 10 / 10 / 10) (by omega)]; rfl
theorem figs_len {c : Nat} (h0 : 100 ≤ c) (h1 : c ≤ 9999) : (figs c).length = if c < 1000 then 3 else 4 := by
  split
  · exact figs_len3 h0 (by assumption)
  · exact figs_len4 (by omega) h1
theorem figs_len_le {c : Nat} (h1 : c ≤ 9999) : (figs c).length ≤ 4 := by
  by_cases a : c < 10
  · rw [figs_lt a]; simp
  · rw [figs_ge a]
    by_cases b : c / 10 < 10
    · rw [figs_lt b]; simp
    · rw [figs_ge b]
      by_cases d : c / 10 / 10 < 10
      · rw [figs_lt d]; simp
      · rw [figs_ge d, figs_lt (n := c / 10 / 10 / 10) (by omega)]; simp
theorem figs_dig (c : Nat) : ∀ d ∈ figs c, 48 ≤ d ∧ d ≤ 57 := by
  induction c using figs.induct with
  | case1 n h => rw [figs_lt h]; intro d hd; rw [List.mem_singleton.mp hd]; omega
  | case2 n h ih =>
    rw [figs_ge h]; intro d hd
    rcases List.mem_append.mp hd with hd | hd
    · exact ih d hd
    · rw [List.mem_singleton.mp hd]; omega
/-- the number that figures tell -/
def valD (l : List Nat) : Nat := l.foldl (fun a d => 10 * a + (d - 48)) 0
theorem valD_snoc (l : List Nat) (d : Nat) : valD (l ++ [d]) = 10 * valD l + (d - 48) := by
  unfold valD; rw [List.foldl_append]; rfl
theorem valD_figs (c : Nat) : valD (figs c) = c := by
  induction c using figs.induct with
  | case1 n h => rw [figs_lt h]; show 10 * 0 + (48 + n - 48) = n; omega
  | case2 n h ih => rw [figs_ge h, valD_snoc, ih]; omega
theorem valD_acc (l : List Nat) : ∀ a : Nat, l.foldl (fun a d => 10 * a + (d - 48)) a = a * 10 ^ l.length + valD l := by
  induction l with
  | nil => intro a; simp [valD]
  | cons d r ih =>
    intro a
    unfold valD
    rw [List.foldl_cons, List.foldl_cons, ih, ih (10 * 0 + (d - 48)), List.length_cons, Nat.pow_succ]
    rw [Nat.add_mul, Nat.add_mul, Nat.mul_zero, Nat.zero_mul, Nat.zero_add]
    have : 10 * a * 10 ^ r.length = a * (10 ^ r.length * 10) := by
      rw [Nat.mul_comm 10 a, Nat.mul_assoc, Nat.mul_comm 10]
    rw [this]; omega
theorem valD_app (a b : List Nat) : valD (a ++ b) = valD a * 10 ^ b.length + valD b := by
  show (a ++ b).foldl _ 0 = _
  rw [List.foldl_append, valD_acc b]; rfl
end Mine
namespace Mine
theorem fdiv10 (n : Int) : n.fdiv 10 = n / 10 := Int.fdiv_eq_ediv_of_nonneg n (by decide)
theorem fmod10 (n : Int) : n.fmod 10 = n % 10 := Int.fmod_eq_emod_of_nonneg n (by decide)
theorem fg_start {c : Nat} (hc : c ≤ 9999) : (⟨#[(48 + (c : Int).fmod 10).toNat]⟩ : PySem.Str).length ≤ 4 ∧ FgP c (c : Int) ⟨#[(48 + (c : Int).fmod 10).toNat]⟩ := by
  refine ⟨by show 1 ≤ 4; omega, ?_⟩
  rw [fmod10, show (48 + (c : Int) % 10).toNat = 48 + c % 10 by omega]
  exact FgP.start hc
theorem fg_turn {c : Nat} {n : Int} {found : PySem.Str} (hc : c ≤ 9999) (h : FgP c n found) (h9 : 9 < n) : (⟨#[(48 + (n.fdiv 10).fmod 10).toNat]⟩ ++ found : PySem.Str).length ≤ 4 ∧ FgP c (n.fdiv 10) (⟨#[(48 + (n.fdiv 10).fmod 10).toNat]⟩ ++ found) := by
  have h0 := h.1
  have k : FgP c (n.fdiv 10) (⟨#[(48 + (n.fdiv 10).fmod 10).toNat]⟩ ++ found) := by
    refine FgP.turn h (by omega) (fdiv10 n) ?_
    rw [C_app, fdiv10, fmod10]
    show (48 + n / 10 % 10).toNat :: C found = _
    congr 1
    omega
  exact ⟨Nat.le_trans k.2.2.1 (figs_len_le hc), k⟩
theorem fg_less {n : Int} (h9 : 9 < n) : (n.fdiv 10).toNat < n.toNat := by rw [fdiv10]; omega
end Mine
namespace Mine
/-- the text of a size (3 or 4 figures, exponent -3 to 0) -/
def szL (c : Nat) (e : Int) : List Nat := if e = 0 then figs c else (figs c).take ((figs c).length - (-e).toNat) ++ 46 :: (figs c).drop ((figs c).length - (-e).toNat)
theorem dot_C : C (PySem.Str.ofString ".") = [46] := by decide +kernel
theorem mul_zero {x : PySem.Str} {n : Int} (h : n ≤ 0) : Txt.mul x n = PySem.Str.empty := by
  unfold Txt.mul; rw [if_pos (by omega)]
theorem sz1 {c : Nat} {e : Int} (h : 0 ≤ e) (h2 : e ≤ 0) : S (figs c) ++ Txt.mul (PySem.Str.ofString "0") e = S (szL c e) := by
  apply eq_C
  rw [C_app, C_S, C_S, mul_zero h2, C_empty, List.append_nil]
  unfold szL; rw [if_pos (by omega)]
theorem sz2 {c : Nat} {e : Int} (h : ¬ 0 ≤ e) (h2 : 0 ≤ e + ((S (figs c)).length : Int) - 1) : Txt.slice (S (figs c)) none (some (e + ((S (figs c)).length : Int) - 1 + 1)) ++ PySem.Str.ofString "." ++ Txt.slice (S (figs c)) (some (e + ((S (figs c)).length : Int) - 1 + 1)) none = S (szL c e) := by
  apply eq_C
  rw [C_app, C_app, slice_ns _ (by omega), slice_sn _ (by omega), dot_C, C_S, C_S, C_S, C_S]
  unfold szL; rw [if_neg (by omega)]
  have l1 : (S (figs c)).length = (figs c).length := len_S _
  have e1 : (e + ((S (figs c)).length : Int) - 1 + 1).toNat = (figs c).length - (-e).toNat := by omega
  rw [e1]; simp
theorem sz3 {c : Nat} {e : Int} (h : ¬ 0 ≤ e) (he : -3 ≤ e) (hl : 3 ≤ (S (figs c)).length) (h2 : ¬ 0 ≤ e + ((S (figs c)).length : Int) - 1) : PySem.Str.ofString "." ++ Txt.mul (PySem.Str.ofString "0") (0 - e - ((S (figs c)).length : Int)) ++ S (figs c) = S (szL c e) := by
  apply eq_C
  rw [C_app, C_app, mul_zero (by omega), C_empty, dot_C, C_S, C_S]
  unfold szL; rw [if_neg (by omega)]
  have l1 : (S (figs c)).length = (figs c).length := len_S _
  have e1 : (figs c).length - (-e).toNat = 0 := by omega
  rw [e1]; simp
theorem szL_len {c : Nat} {e : Int} (h1 : c ≤ 9999) : (szL c e).length ≤ 5 := by
  have h := figs_len_le h1
  unfold szL
  split
  · omega
  · rw [List.length_append, List.length_cons, List.length_take, List.length_drop]; omega
end Mine
namespace Mine
theorem abs_c (c : Nat) : (if -(c : Int) < 0 then - -(c : Int) else -(c : Int)) = (c : Int) := by split <;> omega
theorem minus_eq (l : List Nat) : PySem.Str.ofString "-" ++ S l = S (45 :: l) := by
  apply eq_C
  rw [C_app, C_S, C_S, show C (PySem.Str.ofString "-") = [45] by decide +kernel]; rfl
end Mine
namespace Mine
theorem valD_lt (l : List Nat) (h : ∀ d ∈ l, 48 ≤ d ∧ d ≤ 57) : valD l < 10 ^ l.length := by
  have key : ∀ (n : Nat) (l : List Nat), l.length = n → (∀ d ∈ l, 48 ≤ d ∧ d ≤ 57) → valD l < 10 ^ n := by
    intro n
    induction n with
    | zero => intro l hl _; rw [List.length_eq_zero_iff.mp hl]; simp [valD]
    | succ n ih =>
      intro l hl h
      have e : l = l.take n ++ [l.getD n 0] := by
        have := take_at l (k := n + 1) (by omega) (by omega)
        rw [← hl, List.take_length, hl] at this
        simpa using this
      rw [e, valD_snoc, Nat.pow_succ]
      have h1 := ih (l.take n) (by rw [List.length_take]; omega) fun d hd => h d (List.mem_of_mem_take hd)
      have h2 := h (l.getD n 0) (by rw [List.getD_eq_getElem?_getD, List.getElem?_eq_getElem (by omega)]; exact List.getElem_mem _)
      omega
  exact key _ l rfl h
structure RunP (A5 D5 : List Nat) (found k : Int) : Prop where
  lo : 0 ≤ found
  hi : found ≤ 9999
  a : (A5.length : Int) ≤ k
  d : k ≤ (A5.length : Int) + D5.length
  e : found = ((valD (D5.take (k - A5.length).toNat) : Nat) : Int)
section
variable {x : PySem.Str} {A5 D5 R5 : List Nat} {found k : Int}
theorem RunP.start : RunP A5 D5 0 (A5.length : Int) := ⟨by omega, by omega, by omega, by omega, by simp [valD]⟩
theorem code_0 : (PySem.Str.ofString "0").cps.toList = [48] := by decide +kernel
theorem code_9 : (PySem.Str.ofString "9").cps.toList = [57] := by decide +kernel
theorem item_list (h0 : 0 ≤ k) (h1 : k < x.length) : (Txt.item x k).cps.toList = [(C x).getD k.toNat 0] := by rw [item_at x h0 h1]; rfl
theorem at_dig (hC : C x = A5 ++ (D5 ++ R5)) (ha : (A5.length : Int) ≤ k) (hd : k < (A5.length : Int) + D5.length) : (C x).getD k.toNat 0 = D5.getD (k - A5.length).toNat 0 ∧ D5.getD (k - A5.length).toNat 0 ∈ D5 := by
  have h1 : (k - A5.length).toNat < D5.length := by omega
  have e1 : k.toNat - A5.length = (k - A5.length).toNat := by omega
  constructor
  · rw [hC, List.getD_eq_getElem?_getD, List.getElem?_append_right (by omega), e1, List.getElem?_append_left h1, List.getD_eq_getElem?_getD]
  · rw [List.getD_eq_getElem?_getD, List.getElem?_eq_getElem h1]; exact List.getElem_mem _
theorem at_rest (hC : C x = A5 ++ (D5 ++ R5)) (hk : k = (A5.length : Int) + D5.length) (hlt : k < x.length) : R5.head? = some ((C x).getD k.toNat 0) := by
  have hl : x.length = A5.length + (D5.length + R5.length) := by rw [len_C, hC, List.length_append, List.length_append]
  rw [hC, List.getD_eq_getElem?_getD, List.getElem?_append_right (by omega), List.getElem?_append_right (by omega)]
  have e : k.toNat - A5.length - D5.length = 0 := by omega
  rw [e]
  cases R5 with
  | nil => simp at hl; omega
  | cons r t => rfl
theorem RunP.turn (h : RunP A5 D5 found k) (hC : C x = A5 ++ (D5 ++ R5)) (hD : ∀ d ∈ D5, 48 ≤ d ∧ d ≤ 57) (hR : ∀ r, R5.head? = some r → ¬ (48 ≤ r ∧ r ≤ 57)) (hl : D5.length ≤ 4) (hlt : k < x.length)
    (h1 : ¬ (Txt.item x k).cps.toList < (PySem.Str.ofString "0").cps.toList) (h2 : ¬ (PySem.Str.ofString "9").cps.toList < (Txt.item x k).cps.toList) : RunP A5 D5 (10 * found + (((Txt.item x k).cps.getD 0 0 : Nat) : Int) - 48) (k + 1) := by
  have h0 : 0 ≤ k := by have := h.a; omega
  rw [item_list h0 hlt, code_0] at h1
  rw [item_list h0 hlt, code_9] at h2
  have a1 := mt (lt_one _ 48).mpr h1
  have a2 := mt (lt_one 57 _).mpr h2
  have hk : k < (A5.length : Int) + D5.length := by
    rcases Int.lt_or_eq_of_le h.d with g | g
    · exact g
    · exact absurd ⟨by omega, by omega⟩ (hR _ (at_rest hC g hlt))
  obtain ⟨e1, m1⟩ := at_dig hC h.a hk
  have ec : (Txt.item x k).cps.getD 0 0 = D5.getD (k - A5.length).toNat 0 := by rw [item_at x h0 hlt, e1]; rfl
  have hd := hD _ m1
  have hj : (k + 1 - A5.length).toNat = (k - A5.length).toNat + 1 := by have := h.a; omega
  have et : D5.take ((k - A5.length).toNat + 1) = D5.take (k - A5.length).toNat ++ [D5.getD (k - A5.length).toNat 0] := by
    have := take_at D5 (k := (k - A5.length).toNat + 1) (by omega) (by have := h.a; omega)
    simpa using this
  have e : 10 * found + (((Txt.item x k).cps.getD 0 0 : Nat) : Int) - 48 = ((valD (D5.take (k + 1 - A5.length).toNat) : Nat) : Int) := by
    rw [hj, et, valD_snoc, ec, h.e]; omega
  have hb : valD (D5.take (k + 1 - A5.length).toNat) < 10 ^ 4 := by
    refine Nat.lt_of_lt_of_le (valD_lt _ fun d hd => hD d (List.mem_of_mem_take hd)) (Nat.pow_le_pow_right (by decide) ?_)
    rw [List.length_take]; omega
  exact ⟨by rw [e]; omega, by rw [e]; omega, by have := h.a; omega, by omega, e⟩
theorem RunP.stop (h : RunP A5 D5 found k) (hC : C x = A5 ++ (D5 ++ R5)) (hD : ∀ d ∈ D5, 48 ≤ d ∧ d ≤ 57) (hs : ¬ k < x.length ∨ (k < x.length ∧ ((Txt.item x k).cps.toList < (PySem.Str.ofString "0").cps.toList ∨ (PySem.Str.ofString "9").cps.toList < (Txt.item x k).cps.toList))) : k = (A5.length : Int) + D5.length := by
  have hl : x.length = A5.length + (D5.length + R5.length) := by rw [len_C, hC, List.length_append, List.length_append]
  have h0 : 0 ≤ k := by have := h.a; omega
  have hd := h.d
  rcases hs with g | ⟨g, g2⟩
  · omega
  · rcases Int.lt_or_eq_of_le hd with q | q
    · obtain ⟨e1, m1⟩ := at_dig hC h.a q
      have hdg := hD _ m1
      rw [item_list h0 g, code_0, code_9, e1] at g2
      rcases g2 with g2 | g2
      · have := (lt_one _ _).mp g2; omega
      · have := (lt_one _ _).mp g2; omega
    · exact q
theorem RunP.out (h : RunP A5 D5 found k) (hk : k = (A5.length : Int) + D5.length) (t1 t2 t3 : Tok) : ∃ u1 u2 u3, [Value.int found t1, .int (k - (A5.length : Int)) t2, .int k t3] = [.int (valD D5 : Nat) u1, .int (D5.length : Int) u2, .int ((A5.length : Int) + D5.length) u3] := by
  have e := h.e
  have e1 : (k - A5.length).toNat = D5.length := by omega
  rw [e1, List.take_length] at e
  refine ⟨t1, t2, t3, ?_⟩
  rw [e, show k - (A5.length : Int) = D5.length by omega, hk]
end
end Mine
namespace Mine
theorem run_all {A5 D5 : List Nat} {found k : Int} (h : RunP A5 D5 found k) : 0 ≤ found ∧ found ≤ 9999 ∧ (A5.length : Int) ≤ k ∧ k ≤ (A5.length : Int) + D5.length ∧ RunP A5 D5 found k := ⟨h.lo, h.hi, h.a, h.d, h⟩
end Mine
namespace Mine
theorem made_start {c : Nat} {e : Int} (h9 : c % 10 = 9) : (if -(c : Int) < 0 then - -(c : Int) else -(c : Int)).fmod 10 = 9 ∧ (if -(c : Int) < 0 then - -(c : Int) else -(c : Int)) = (c : Int) ∧ e = e := by
  rw [abs_c, fmod10]; exact ⟨by omega, rfl, rfl⟩
end Mine
namespace Mine
theorem made_out {sz ex e : Int} {c : Nat} (h1 : sz = (c : Int)) (h2 : ex = e) (t1 t2 : Tok) : ∃ u1 u2, [Value.int (-sz) t1, .int ex t2] = [.int (-(c : Int)) u1, .int e u2] := ⟨t1, t2, by rw [h1, h2]⟩
end Mine
namespace Mine
section
variable {x : PySem.Str} {r : List Nat}
theorem v_blank (hx : C x = 45 :: r) : ¬ ((!(Builtin.Str.occurrences (PySem.Str.ofString " \t") (Txt.item x 0) 0 (PySem.Str.ofString " \t").length 1).isEmpty) = true) := by
  have hl : (0 : Int) < x.length := by rw [len_C, hx, List.length_cons]; omega
  rw [blanks_str, in_blank_at x (Int.le_refl 0) hl, hx]
  show ¬ ((!!blank 45) = true)
  decide
theorem v_head (hx : C x = 45 :: r) : Txt.slice x (some 0) (some (0 + 1)) = PySem.Str.ofString "-" := by
  rw [slice_ss x (by omega) (by omega), hx]
  apply eq_C
  rw [C_S, show C (PySem.Str.ofString "-") = [45] by decide +kernel]
  rfl
theorem v_minus (hx : C x = 45 :: r) : (Txt.slice x (some 0) (some (0 + 1)) == PySem.Str.ofString "-") = true := by rw [v_head hx]; exact beq_self_eq_true _
theorem v_sign (hx : C x = 45 :: r) : ([PySem.Str.ofString "+", PySem.Str.ofString "-"].any fun y => y == Txt.slice x (some 0) (some (0 + 1))) = true := by
  rw [v_head hx]
  simp
theorem v_end {k : Int} (hk : k = (x.length : Int)) : ¬ ((Txt.slice x (some k) (some (k + 1)) == PySem.Str.ofString ".") = true) := by
  have l := len_C x
  rw [slice_ss x (by omega) (by omega), beq_C, dot_C, C_S, List.drop_of_length_le (by rw [List.length_take]; omega)]
  decide
theorem v_dot {a b : List Nat} {k : Int} (hx : C x = a ++ 46 :: b) (hk : k = (a.length : Int)) : (Txt.slice x (some k) (some (k + 1)) == PySem.Str.ofString ".") = true := by
  rw [slice_ss x (by omega) (by omega), beq_C, dot_C, C_S, hx]
  have e1 : k.toNat = a.length := by omega
  have e2 : (k + 1).toNat = a.length + 1 := by omega
  rw [e1, e2, List.drop_take]
  simp
end
end Mine
namespace Mine
theorem figs_split (c K : Nat) : valD ((figs c).take ((figs c).length - K)) * 10 ^ ((figs c).drop ((figs c).length - K)).length + valD ((figs c).drop ((figs c).length - K)) = c := by
  rw [← valD_app, List.take_append_drop, valD_figs]
end Mine
end

section
open PySem PySem.W PyProof.Rows
namespace Mine
abbrev PG : Program := PySem.Challenge.rw_pq0179_01.row.prog
noncomputable abbrev KH (w : World) : Frag := hd.heap_39 w.params
abbrev Led := List (Addr × Obj)
/-- The call of the def at address `f` with the values `vs`, from any function's frame whose ledger holds the objects `own`: it hands back a value that `R` tells and keeps the ledger. -/
def Cl0 (k : Nat) (f : Addr) (vs : List Value) (own : Led) (R : Tok → Value) : Prop :=
  ∀ (w : World) (loose : List PySem.Str) (mean : ExcName → Option Value) (mg mb : PySem.Str → Option Value) (news : Led) (dp un : Nat) (gd : Option (List Code)) (cn : PySem.Str) (cs : Scope) (a : Addr) (ccd : Value) (cl : List (PySem.Str × Addr)) (outer : List Env)
    (A₀ : Around) (base h₀ : Heap) (L : Addr) (m : PySem.Str → Option Value) (s : Shared) (Q E : Value → Shared → Prop),
    Below A₀ base outer h₀ → Fr h₀ L s.heap m → (KH w).In h₀ → News h₀ L s.heap news → (∀ p ∈ own, p ∈ news) → Top hd.view_39 loose mean mg mb h₀ → cs.kind = .function →
    dp + k < recursionLimit → un + 8 * k < cLine → (∀ (t : Tok) (h' : Heap) (tk' : Nat), Fr h₀ L h' m → News h₀ L h' news → Q (R t) { s with heap := h', toks := tk' }) →
    wpAny (model PG w) (ktrTop dp un gd cn cs L a ccd cl outer) (call (.ref f) vs) Q E s
theorem news_sub {h₀ h : Heap} {L : Addr} {a b : Led} (N : News h₀ L h a) (hs : ∀ p ∈ b, p ∈ a) : News h₀ L h b := fun p hp => N p (hs p hp)
/-- the same, with a fact about what comes back -/
def Cl (k : Nat) (f : Addr) (vs : List Value) (own : Led) (R : Tok → Value) (P : Prop) : Prop := Cl0 k f vs own R ∧ P
theorem Cl.use {k : Nat} {f : Addr} {vs : List Value} {own : Led} {R : Tok → Value} {P : Prop} {w : World} {loose : List PySem.Str} {mean : ExcName → Option Value} {mg mb : PySem.Str → Option Value} {news : Led} {dp un : Nat} {gd : Option (List Code)} {cn : PySem.Str} {cs : Scope} {a : Addr} {ccd : Value} {cl : List (PySem.Str × Addr)} {outer : List Env}
    {A₀ : Around} {base h₀ : Heap} {L : Addr} {m : PySem.Str → Option Value} {s : Shared} {Q E : Value → Shared → Prop} (c : Cl k f vs own R P)
    (B : Below A₀ base outer h₀) (F : Fr h₀ L s.heap m) (X : (hd.heap_39 w.params).In h₀) (N : News h₀ L s.heap news) (T : Top hd.view_39 loose mean mg mb h₀) (hk : cs.kind = .function) (ho : ∀ p ∈ own, p ∈ news)
    (hd : dp + k < recursionLimit) (hu : un + 8 * k < cLine) (h : ∀ (t : Tok) (h' : Heap) (tk' : Nat), Fr h₀ L h' m → News h₀ L h' news → P → Q (R t) { s with heap := h', toks := tk' }) :
    wpAny (model PG w) (ktrTop dp un gd cn cs L a ccd cl outer) (call (.ref f) vs) Q E s :=
  c.1 w loose mean mg mb news dp un gd cn cs a ccd cl outer A₀ base h₀ L m s Q E B F X N ho T hk hd hu fun t h' tk' F' N' => h t h' tk' F' N' c.2
section
variable {h₀ h' : Heap} {L : Addr} {m : PySem.Str → Option Value} {news : Led} {s : Shared} {Q : Value → Shared → Prop} {t : Tok} {tk' : Nat}
theorem ret_s {x y : PySem.Str} (hret : ∀ (t : Tok) (h' : Heap) (tk' : Nat), Fr h₀ L h' m → News h₀ L h' news → Q (.str y t) { s with heap := h', toks := tk' }) (e : x = y) (F : Fr h₀ L h' m) (N : News h₀ L h' news) : Q (.str x t) { s with heap := h', toks := tk' } := e ▸ hret t h' tk' F N
theorem ret_i {x y : Int} (hret : ∀ (t : Tok) (h' : Heap) (tk' : Nat), Fr h₀ L h' m → News h₀ L h' news → Q (.int y t) { s with heap := h', toks := tk' }) (e : x = y) (F : Fr h₀ L h' m) (N : News h₀ L h' news) : Q (.int x t) { s with heap := h', toks := tk' } := e ▸ hret t h' tk' F N
theorem ret_b {x y : Bool} (hret : ∀ (t : Tok) (h' : Heap) (tk' : Nat), Fr h₀ L h' m → News h₀ L h' news → Q (.bool y) { s with heap := h', toks := tk' }) (e : x = y) (F : Fr h₀ L h' m) (N : News h₀ L h' news) : Q (.bool x) { s with heap := h', toks := tk' } := e ▸ hret 0 h' tk' F N
end
/-- what the callee's ground keeps of the caller's heap, put out of the walk's sight -/
structure GKeep (s g : Heap) (adr : List Addr) : Prop where
  keep : ∀ b o, s.get? b = some o → b ∉ adr → g.get? b = some o
theorem news_back {s h' g h₀ : Heap} {L L' : Addr} {m' : PySem.Str → Option Value} {news own : Led} (N : News h₀ L s news) (hs : ∀ p ∈ own, p ∈ news) (G : GKeep s g (own.map (·.1))) (F' : Fr g L' h' m') (N' : News h₀ L h' own) : News h₀ L h' news := fun p hp => by
  refine ⟨?_, (N p hp).2⟩
  by_cases hb : p.1 ∈ own.map (·.1)
  · obtain ⟨q, hq, e⟩ := List.mem_map.mp hb
    have h1 := (N q (hs q hq)).1
    have h2 := (N p hp).1
    rw [e, h2] at h1
    have e2 : p.2 = q.2 := Option.some.inj h1
    rw [← e, e2]
    exact (N' q hq).1
  · exact F'.keep _ _ (G.keep _ _ (N p hp).1 hb)
/-- a tuple -/
abbrev tup (vs : List Value) : Obj := { cls := .type "tuple", data := .seq vs.toArray }
/-- The call hands back a new tuple whose items `TP` tells. -/
def ClT (k : Nat) (f : Addr) (vs : List Value) (own : Led) (TP : List Value → Prop) : Prop :=
  ∀ (w : World) (loose : List PySem.Str) (mean : ExcName → Option Value) (mg mb : PySem.Str → Option Value) (news : Led) (dp un : Nat) (gd : Option (List Code)) (cn : PySem.Str) (cs : Scope) (a : Addr) (ccd : Value) (cl : List (PySem.Str × Addr)) (outer : List Env)
    (A₀ : Around) (base h₀ : Heap) (L : Addr) (m : PySem.Str → Option Value) (s : Shared) (Q E : Value → Shared → Prop),
    Below A₀ base outer h₀ → Fr h₀ L s.heap m → (KH w).In h₀ → News h₀ L s.heap news → (∀ p ∈ own, p ∈ news) → Top hd.view_39 loose mean mg mb h₀ → cs.kind = .function →
    dp + k < recursionLimit → un + 8 * k < cLine → (∀ (b : Addr) (us : List Value) (h' : Heap) (tk' : Nat), TP us → Fr h₀ L h' m → News h₀ L h' ((b, tup us) :: news) → Q (.ref b) { s with heap := h', toks := tk' }) →
    wpAny (model PG w) (ktrTop dp un gd cn cs L a ccd cl outer) (call (.ref f) vs) Q E s
theorem ClT.use {k : Nat} {f : Addr} {vs : List Value} {own : Led} {TP : List Value → Prop} {w : World} {loose : List PySem.Str} {mean : ExcName → Option Value} {mg mb : PySem.Str → Option Value} {news : Led} {dp un : Nat} {gd : Option (List Code)} {cn : PySem.Str} {cs : Scope} {a : Addr} {ccd : Value} {cl : List (PySem.Str × Addr)} {outer : List Env}
    {A₀ : Around} {base h₀ : Heap} {L : Addr} {m : PySem.Str → Option Value} {s : Shared} {Q E : Value → Shared → Prop} (c : ClT k f vs own TP)
    (B : Below A₀ base outer h₀) (F : Fr h₀ L s.heap m) (X : (hd.heap_39 w.params).In h₀) (N : News h₀ L s.heap news) (T : Top hd.view_39 loose mean mg mb h₀) (hk : cs.kind = .function) (ho : ∀ p ∈ own, p ∈ news)
    (hd : dp + k < recursionLimit) (hu : un + 8 * k < cLine) (h : ∀ (b : Addr) (us : List Value) (h' : Heap) (tk' : Nat), TP us → Fr h₀ L h' m → News h₀ L h' ((b, tup us) :: news) → Q (.ref b) { s with heap := h', toks := tk' }) :
    wpAny (model PG w) (ktrTop dp un gd cn cs L a ccd cl outer) (call (.ref f) vs) Q E s :=
  c w loose mean mg mb news dp un gd cn cs a ccd cl outer A₀ base h₀ L m s Q E B F X N ho T hk hd hu h
theorem news_backT {s h' g h₀ : Heap} {L L' : Addr} {m' : PySem.Str → Option Value} {news own led : Led} {b : Addr} {o : Obj} (N : News h₀ L s news) (hs : ∀ p ∈ own, p ∈ news) (G : GKeep s g (own.map (·.1))) (F' : Fr g L' h' m') (N' : News h₀ L h' led) (hb : (b, o) ∈ led) (ho : ∀ p ∈ own, p ∈ led) : News h₀ L h' ((b, o) :: news) := fun p hp => by
  rcases List.mem_cons.mp hp with rfl | hp
  · exact N' _ hb
  · exact news_back N hs G F' (news_sub N' ho) p hp
end Mine
end

local macro_rules | `(tactic| walk_at "eval Name") => `(tactic| k_extra "my name")
local macro_rules | `(tactic| walk_at "newTuple") => `(tactic| k_extra "my tup")
local macro_rules | `(tactic| walk_at "setAttr ref") => `(tactic| k_extra "my seta")
local macro_rules | `(tactic| walk_at "TupSrc") => `(tactic| k_extra "my tsrc")
local macro_rules | `(tactic| walk_at "exec If") => `(tactic| k_extra "my if")
local macro_rules | `(tactic| walk_at "exec While") => `(tactic| k_extra "my while")
local macro_rules | `(tactic| walk_at "exec While Compare cons nil") => `(tactic| k_extra "my while")
local macro_rules | `(tactic| walk_at "exec For Name Call cons nil") => `(tactic| k_extra "my for")
local macro_rules | `(tactic| walk_at "exec For Name Name cons nil") => `(tactic| k_extra "my for")
local macro_rules | `(tactic| walk_at "exec For Name Subscript cons nil") => `(tactic| k_extra "my for")
local macro_rules | `(tactic| walk_at "call builtin:sum") => `(tactic| k_extra "my sum")
local macro_rules | `(tactic| walk_at "pyIter ref") => `(tactic| k_extra "my iter")
local macro_rules | `(tactic| walk_at "InvEndN") => `(tactic| k_extra "my end")
local macro_rules | `(tactic| walk_at "call builtin:chr") => `(tactic| k_extra "my chr")
local macro_rules | `(tactic| walk_at "call builtin:len") => `(tactic| k_extra "my len")
local macro_rules | `(tactic| walk_at "subscriptTail") => `(tactic| k_extra "my item")
local macro_rules | `(tactic| walk_at "call builtin:str.join") => `(tactic| k_extra "my join")
local macro_rules | `(tactic| walk_at "call builtin:list.append") => `(tactic| k_extra "my append")
local macro_rules | `(tactic| walk_at "eval ListComp") => `(tactic| k_extra "my comp")
local macro_rules | `(tactic| walk_at "exec Assign cons ListComp") => `(tactic| k_extra "my acomp")
local macro_rules | `(tactic| walk_at "TextSrc") => `(tactic| k_extra "my src")
local macro_rules | `(tactic| walk_at "CompSrc") => `(tactic| k_extra "my csrc")
local macro_rules | `(tactic| walk_at "CompEnd") => `(tactic| k_extra "my cend")
local macro_rules | `(tactic| walk_at "call ref") => `(tactic| k_extra "my call")
local macro_rules | `(tactic| walk_at "getAttr ref") => `(tactic| k_extra "my attr")
local macro_rules | `(tactic| walk_at "compareOp Eq ref ref") => `(tactic| k_extra "my eq")
local macro_rules | `(tactic| walk_at "getItem ref str") => `(tactic| k_extra "my get")
local macro_rules | `(tactic| walk_at "setItem ref str") => `(tactic| k_extra "my set")
local macro_rules | `(tactic| walk_at "ite") => `(tactic| first | refine PySem.W.ite_pos (by with_reducible assumption) ?_ | refine PySem.W.ite_neg (by with_reducible assumption) ?_ | (with_reducible refine PySem.W.ite_neg Bool.false_ne_true ?_) | (with_reducible refine PySem.W.ite_neg (show ¬ ((!true) = true) by decide) ?_) | (with_reducible refine PySem.W.ite_pos trivial ?_))
local macro_rules | `(tactic| k_ne) => `(tactic| first | ((try dsimp only); first | assumption | exact Ne.symm (by assumption)) | (refine neN ?_; (try dsimp only); omega))
local macro_rules | `(tactic| k_room) => `(tactic| ktr_room)

section
open PySem PySem.W PyProof.Rows
namespace Mine
set_option linter.unusedSimpArgs false
set_option maxRecDepth 100000
set_option maxHeartbeats 8000000
theorem c_text_of (x : PySem.Str) (t : Tok) : Cl 1 72 [.str x t] [] (fun _ => .str x t) True := by
  refine ⟨?_, trivial⟩
  k_with_none
  (first | unfold Cl0 KH PG | unfold ClT KH PG)
  k_fill
  intro w loose mean mg mb news dp un gd cn cs a ccd cl outer A₀ base h₀ L m s Q E B F X N hown T hk hd hu hret
  have N0 := news_sub N hown
  refine wpAny_call ?_
  k_dflt (refine' code_defG ?k1 ?k2 ?k3 ?k4 ?k5 ?kA ?kF ?kK ?k6 ?k7 ?k8 ?k9 ?kB ?_ ?c2 ?c3 ?c4 ?c5; (case kA => exact rfl); (case kF => exact rfl); (case kK => exact hk); (case k1 => exact B); (case k2 => exact F); (case k3 => exact X); (case k4 => exact N0); (case k5 => exact T); (case k6 => k_is); (case k7 => k_is); (case k8 => ktr_room); (case k9 => exact BindsTo.of_eq rfl); (case c5 => decide); (case kB => exact locs rfl); (case c2 => exact rfl); (case c3 => exact rfl); (case c4 => exact rfl); k_whole)
  intro g' L' h' FG' F' N' B' X' T' kG0
  have kG' := GKeep.mk kG0
  clear kG0
  (try dsimp only)
  (try k_lift B')
  (try k_fold)
  clear N0
  k_steps
  (first | exact hret _ _ _ (by k_asm) (news_back N hown kG' (by with_reducible assumption) (by first | k_asm | exact news_sub (by with_reducible assumption) (by k_allIn))) | exact hret (0 : Nat) _ _ (by k_asm) (news_back N hown kG' (by with_reducible assumption) (by first | k_asm | exact news_sub (by with_reducible assumption) (by k_allIn))))
theorem c_size_told (n : Int) (t : Tok) (h0 : 0 ≤ n) (h1 : n ≤ 255) : Cl 1 143 [.int n t] [] (fun _ => .int n t) True := by
  refine ⟨?_, trivial⟩
  k_with_none
  (first | unfold Cl0 KH PG | unfold ClT KH PG)
  k_fill
  intro w loose mean mg mb news dp un gd cn cs a ccd cl outer A₀ base h₀ L m s Q E B F X N hown T hk hd hu hret
  have N0 := news_sub N hown
  refine wpAny_call ?_
  k_dflt (refine' code_defG ?k1 ?k2 ?k3 ?k4 ?k5 ?kA ?kF ?kK ?k6 ?k7 ?k8 ?k9 ?kB ?_ ?c2 ?c3 ?c4 ?c5; (case kA => exact rfl); (case kF => exact rfl); (case kK => exact hk); (case k1 => exact B); (case k2 => exact F); (case k3 => exact X); (case k4 => exact N0); (case k5 => exact T); (case k6 => k_is); (case k7 => k_is); (case k8 => ktr_room); (case k9 => exact BindsTo.of_eq rfl); (case c5 => decide); (case kB => exact locs rfl); (case c2 => exact rfl); (case c3 => exact rfl); (case c4 => exact rfl); k_whole)
  intro g' L' h' FG' F' N' B' X' T' kG0
  have kG' := GKeep.mk kG0
  clear kG0
  (try dsimp only)
  (try k_lift B')
  (try k_fold)
  clear N0
  k_steps
  (first | exact hret _ _ _ (by k_asm) (news_back N hown kG' (by with_reducible assumption) (by first | k_asm | exact news_sub (by with_reducible assumption) (by k_allIn))) | exact hret (0 : Nat) _ _ (by k_asm) (news_back N hown kG' (by with_reducible assumption) (by first | k_asm | exact news_sub (by with_reducible assumption) (by k_allIn))))
theorem c_place_told (n : Int) (t : Tok) (h0 : 1 ≤ n) (h1 : n ≤ 255) : Cl 2 150 [.int n t] [] (fun _ => .int n t) True := by
  refine ⟨?_, trivial⟩
  k_with_none
  k_with "my call" => first
    | (k_dflt (refine' Cl.use (c_text_of _ _) (by k_asm) (by k_asm) (by k_asm) (by k_asm) (by k_asm) (by first | exact rfl | assumption) (by first | exact List.forall_mem_nil _ | k_allIn) (by ktr_room) (by ktr_units) ?_); k_whole; intro t9 h9 tk9 F9 N9 P9; (try dsimp only); (try k_fold); (try k_sweep))
    | (k_dflt (refine' Cl.use (c_size_told _ _ (by omega) (by omega)) (by k_asm) (by k_asm) (by k_asm) (by k_asm) (by k_asm) (by first | exact rfl | assumption) (by first | exact List.forall_mem_nil _ | k_allIn) (by ktr_room) (by ktr_units) ?_); k_whole; intro t9 h9 tk9 F9 N9 P9; (try dsimp only); (try k_fold); (try k_sweep))
  (first | unfold Cl0 KH PG | unfold ClT KH PG)
  k_fill
  intro w loose mean mg mb news dp un gd cn cs a ccd cl outer A₀ base h₀ L m s Q E B F X N hown T hk hd hu hret
  have N0 := news_sub N hown
  refine wpAny_call ?_
  k_dflt (refine' code_defG ?k1 ?k2 ?k3 ?k4 ?k5 ?kA ?kF ?kK ?k6 ?k7 ?k8 ?k9 ?kB ?_ ?c2 ?c3 ?c4 ?c5; (case kA => exact rfl); (case kF => exact rfl); (case kK => exact hk); (case k1 => exact B); (case k2 => exact F); (case k3 => exact X); (case k4 => exact N0); (case k5 => exact T); (case k6 => k_is); (case k7 => k_is); (case k8 => ktr_room); (case k9 => exact BindsTo.of_eq rfl); (case c5 => decide); (case kB => exact locs rfl); (case c2 => exact rfl); (case c3 => exact rfl); (case c4 => exact rfl); k_whole)
  intro g' L' h' FG' F' N' B' X' T' kG0
  have kG' := GKeep.mk kG0
  clear kG0
  (try dsimp only)
  (try k_lift B')
  (try k_fold)
  clear N0
  k_steps
  all_goals first | (exfalso; omega) | (first | exact hret _ _ _ (by k_asm) (news_back N hown kG' (by with_reducible assumption) (by first | k_asm | exact news_sub (by with_reducible assumption) (by k_allIn))) | exact hret (0 : Nat) _ _ (by k_asm) (news_back N hown kG' (by with_reducible assumption) (by first | k_asm | exact news_sub (by with_reducible assumption) (by k_allIn))))
theorem c_text_left (v : Value) (l : Addr) (c : Nat) (x : PySem.Str) (tx : Tok) (n : Int) (t : Tok) (h0 : 0 ≤ n) (h1 : n ≤ 255) (hx : x.length ≤ 1000) :
    Cl 2 227 [v, .ref l] [(l, listOf #[.str x tx, .int n t] c)] (.str (S (leftL (C x) n))) ((S (leftL (C x) n)).length ≤ x.length) := by
  refine ⟨?_, len_left x n⟩
  k_with_none
  k_with "my call" => first
    | (k_dflt (refine' Cl.use (c_text_of _ _) (by k_asm) (by k_asm) (by k_asm) (by k_asm) (by k_asm) (by first | exact rfl | assumption) (by first | exact List.forall_mem_nil _ | k_allIn) (by ktr_room) (by ktr_units) ?_); k_whole; intro t9 h9 tk9 F9 N9 P9; (try dsimp only); (try k_fold); (try k_sweep))
    | (k_dflt (refine' Cl.use (c_size_told _ _ (by omega) (by omega)) (by k_asm) (by k_asm) (by k_asm) (by k_asm) (by k_asm) (by first | exact rfl | assumption) (by first | exact List.forall_mem_nil _ | k_allIn) (by ktr_room) (by ktr_units) ?_); k_whole; intro t9 h9 tk9 F9 N9 P9; (try dsimp only); (try k_fold); (try k_sweep))
    | (k_dflt (refine' Cl.use (c_place_told _ _ (by omega) (by omega)) (by k_asm) (by k_asm) (by k_asm) (by k_asm) (by k_asm) (by first | exact rfl | assumption) (by first | exact List.forall_mem_nil _ | k_allIn) (by ktr_room) (by ktr_units) ?_); k_whole; intro t9 h9 tk9 F9 N9 P9; (try dsimp only); (try k_fold); (try k_sweep))
  (first | unfold Cl0 KH PG | unfold ClT KH PG)
  k_fill
  intro w loose mean mg mb news dp un gd cn cs a ccd cl outer A₀ base h₀ L m s Q E B F X N hown T hk hd hu hret
  have N0 := news_sub N hown
  refine wpAny_call ?_
  k_dflt (refine' code_defG ?k1 ?k2 ?k3 ?k4 ?k5 ?kA ?kF ?kK ?k6 ?k7 ?k8 ?k9 ?kB ?_ ?c2 ?c3 ?c4 ?c5; (case kA => exact rfl); (case kF => exact rfl); (case kK => exact hk); (case k1 => exact B); (case k2 => exact F); (case k3 => exact X); (case k4 => exact N0); (case k5 => exact T); (case k6 => k_is); (case k7 => k_is); (case k8 => ktr_room); (case k9 => exact BindsTo.of_eq rfl); (case c5 => decide); (case kB => exact locs rfl); (case c2 => exact rfl); (case c3 => exact rfl); (case c4 => exact rfl); k_whole)
  intro g' L' h' FG' F' N' B' X' T' kG0
  have kG' := GKeep.mk kG0
  clear kG0
  (try dsimp only)
  (try k_lift B')
  (try k_fold)
  clear N0
  k_steps
  (exact ret_s hret (left_eq x h0) (by k_asm) (news_back N hown kG' (by with_reducible assumption) (by first | k_asm | exact news_sub (by with_reducible assumption) (by k_allIn))))
theorem c_text_right (v : Value) (l : Addr) (c : Nat) (x : PySem.Str) (tx : Tok) (n : Int) (t : Tok) (h0 : 0 ≤ n) (h1 : n ≤ 255) (hx : x.length ≤ 1000) :
    Cl 2 234 [v, .ref l] [(l, listOf #[.str x tx, .int n t] c)] (.str (S (rightL (C x) n))) ((S (rightL (C x) n)).length ≤ x.length) := by
  refine ⟨?_, len_right x n⟩
  k_with_none
  k_with "my call" => first
    | (k_dflt (refine' Cl.use (c_text_of _ _) (by k_asm) (by k_asm) (by k_asm) (by k_asm) (by k_asm) (by first | exact rfl | assumption) (by first | exact List.forall_mem_nil _ | k_allIn) (by ktr_room) (by ktr_units) ?_); k_whole; intro t9 h9 tk9 F9 N9 P9; (try dsimp only); (try k_fold); (try k_sweep))
    | (k_dflt (refine' Cl.use (c_size_told _ _ (by omega) (by omega)) (by k_asm) (by k_asm) (by k_asm) (by k_asm) (by k_asm) (by first | exact rfl | assumption) (by first | exact List.forall_mem_nil _ | k_allIn) (by ktr_room) (by ktr_units) ?_); k_whole; intro t9 h9 tk9 F9 N9 P9; (try dsimp only); (try k_fold); (try k_sweep))
    | (k_dflt (refine' Cl.use (c_place_told _ _ (by omega) (by omega)) (by k_asm) (by k_asm) (by k_asm) (by k_asm) (by k_asm) (by first | exact rfl | assumption) (by first | exact List.forall_mem_nil _ | k_allIn) (by ktr_room) (by ktr_units) ?_); k_whole; intro t9 h9 tk9 F9 N9 P9; (try dsimp only); (try k_fold); (try k_sweep))
  (first | unfold Cl0 KH PG | unfold ClT KH PG)
  k_fill
  intro w loose mean mg mb news dp un gd cn cs a ccd cl outer A₀ base h₀ L m s Q E B F X N hown T hk hd hu hret
  have N0 := news_sub N hown
  refine wpAny_call ?_
  k_dflt (refine' code_defG ?k1 ?k2 ?k3 ?k4 ?k5 ?kA ?kF ?kK ?k6 ?k7 ?k8 ?k9 ?kB ?_ ?c2 ?c3 ?c4 ?c5; (case kA => exact rfl); (case kF => exact rfl); (case kK => exact hk); (case k1 => exact B); (case k2 => exact F); (case k3 => exact X); (case k4 => exact N0); (case k5 => exact T); (case k6 => k_is); (case k7 => k_is); (case k8 => ktr_room); (case k9 => exact BindsTo.of_eq rfl); (case c5 => decide); (case kB => exact locs rfl); (case c2 => exact rfl); (case c3 => exact rfl); (case c4 => exact rfl); k_whole)
  intro g' L' h' FG' F' N' B' X' T' kG0
  have kG' := GKeep.mk kG0
  clear kG0
  (try dsimp only)
  (try k_lift B')
  (try k_fold)
  clear N0
  k_steps
  (exact ret_s hret (right_eq x h0) (by k_asm) (news_back N hown kG' (by with_reducible assumption) (by first | k_asm | exact news_sub (by with_reducible assumption) (by k_allIn))))
theorem c_text_mid2 (v : Value) (l : Addr) (c : Nat) (x : PySem.Str) (tx : Tok) (n : Int) (t : Tok) (h0 : 1 ≤ n) (h1 : n ≤ 255) (hx : x.length ≤ 1000) :
    Cl 3 241 [v, .ref l] [(l, listOf #[.str x tx, .int n t] c)] (.str (S (midL (C x) n 255))) ((S (midL (C x) n 255)).length ≤ x.length) := by
  refine ⟨?_, len_mid x n 255⟩
  k_with_none
  k_with "my call" => first
    | (k_dflt (refine' Cl.use (c_text_of _ _) (by k_asm) (by k_asm) (by k_asm) (by k_asm) (by k_asm) (by first | exact rfl | assumption) (by first | exact List.forall_mem_nil _ | k_allIn) (by ktr_room) (by ktr_units) ?_); k_whole; intro t9 h9 tk9 F9 N9 P9; (try dsimp only); (try k_fold); (try k_sweep))
    | (k_dflt (refine' Cl.use (c_size_told _ _ (by omega) (by omega)) (by k_asm) (by k_asm) (by k_asm) (by k_asm) (by k_asm) (by first | exact rfl | assumption) (by first | exact List.forall_mem_nil _ | k_allIn) (by ktr_room) (by ktr_units) ?_); k_whole; intro t9 h9 tk9 F9 N9 P9; (try dsimp only); (try k_fold); (try k_sweep))
    | (k_dflt (refine' Cl.use (c_place_told _ _ (by omega) (by omega)) (by k_asm) (by k_asm) (by k_asm) (by k_asm) (by k_asm) (by first | exact rfl | assumption) (by first | exact List.forall_mem_nil _ | k_allIn) (by ktr_room) (by ktr_units) ?_); k_whole; intro t9 h9 tk9 F9 N9 P9; (try dsimp only); (try k_fold); (try k_sweep))
  (first | unfold Cl0 KH PG | unfold ClT KH PG)
  k_fill
  intro w loose mean mg mb news dp un gd cn cs a ccd cl outer A₀ base h₀ L m s Q E B F X N hown T hk hd hu hret
  have N0 := news_sub N hown
  refine wpAny_call ?_
  k_dflt (refine' code_defG ?k1 ?k2 ?k3 ?k4 ?k5 ?kA ?kF ?kK ?k6 ?k7 ?k8 ?k9 ?kB ?_ ?c2 ?c3 ?c4 ?c5; (case kA => exact rfl); (case kF => exact rfl); (case kK => exact hk); (case k1 => exact B); (case k2 => exact F); (case k3 => exact X); (case k4 => exact N0); (case k5 => exact T); (case k6 => k_is); (case k7 => k_is); (case k8 => ktr_room); (case k9 => exact BindsTo.of_eq rfl); (case c5 => decide); (case kB => exact locs rfl); (case c2 => exact rfl); (case c3 => exact rfl); (case c4 => exact rfl); k_whole)
  intro g' L' h' FG' F' N' B' X' T' kG0
  have kG' := GKeep.mk kG0
  clear kG0
  (try dsimp only)
  (try k_lift B')
  (try k_fold)
  clear N0
  k_steps
  (exact ret_s hret (mid_eq x h0 (by decide)) (by k_asm) (news_back N hown kG' (by with_reducible assumption) (by first | k_asm | exact news_sub (by with_reducible assumption) (by k_allIn))))
theorem c_text_mid3 (v : Value) (l : Addr) (c : Nat) (x : PySem.Str) (tx : Tok) (n : Int) (t : Tok) (k : Int) (u : Tok) (h0 : 1 ≤ n) (h1 : n ≤ 255) (h2 : 0 ≤ k) (h3 : k ≤ 255) (hx : x.length ≤ 1000) :
    Cl 3 241 [v, .ref l] [(l, listOf #[.str x tx, .int n t, .int k u] c)] (.str (S (midL (C x) n k))) ((S (midL (C x) n k)).length ≤ x.length) := by
  refine ⟨?_, len_mid x n k⟩
  k_with_none
  k_with "my call" => first
    | (k_dflt (refine' Cl.use (c_text_of _ _) (by k_asm) (by k_asm) (by k_asm) (by k_asm) (by k_asm) (by first | exact rfl | assumption) (by first | exact List.forall_mem_nil _ | k_allIn) (by ktr_room) (by ktr_units) ?_); k_whole; intro t9 h9 tk9 F9 N9 P9; (try dsimp only); (try k_fold); (try k_sweep))
    | (k_dflt (refine' Cl.use (c_size_told _ _ (by omega) (by omega)) (by k_asm) (by k_asm) (by k_asm) (by k_asm) (by k_asm) (by first | exact rfl | assumption) (by first | exact List.forall_mem_nil _ | k_allIn) (by ktr_room) (by ktr_units) ?_); k_whole; intro t9 h9 tk9 F9 N9 P9; (try dsimp only); (try k_fold); (try k_sweep))
    | (k_dflt (refine' Cl.use (c_place_told _ _ (by omega) (by omega)) (by k_asm) (by k_asm) (by k_asm) (by k_asm) (by k_asm) (by first | exact rfl | assumption) (by first | exact List.forall_mem_nil _ | k_allIn) (by ktr_room) (by ktr_units) ?_); k_whole; intro t9 h9 tk9 F9 N9 P9; (try dsimp only); (try k_fold); (try k_sweep))
  (first | unfold Cl0 KH PG | unfold ClT KH PG)
  k_fill
  intro w loose mean mg mb news dp un gd cn cs a ccd cl outer A₀ base h₀ L m s Q E B F X N hown T hk hd hu hret
  have N0 := news_sub N hown
  refine wpAny_call ?_
  k_dflt (refine' code_defG ?k1 ?k2 ?k3 ?k4 ?k5 ?kA ?kF ?kK ?k6 ?k7 ?k8 ?k9 ?kB ?_ ?c2 ?c3 ?c4 ?c5; (case kA => exact rfl); (case kF => exact rfl); (case kK => exact hk); (case k1 => exact B); (case k2 => exact F); (case k3 => exact X); (case k4 => exact N0); (case k5 => exact T); (case k6 => k_is); (case k7 => k_is); (case k8 => ktr_room); (case k9 => exact BindsTo.of_eq rfl); (case c5 => decide); (case kB => exact locs rfl); (case c2 => exact rfl); (case c3 => exact rfl); (case c4 => exact rfl); k_whole)
  intro g' L' h' FG' F' N' B' X' T' kG0
  have kG' := GKeep.mk kG0
  clear kG0
  (try dsimp only)
  (try k_lift B')
  (try k_fold)
  clear N0
  k_steps
  (exact ret_s hret (mid_eq x h0 h2) (by k_asm) (news_back N hown kG' (by with_reducible assumption) (by first | k_asm | exact news_sub (by with_reducible assumption) (by k_allIn))))
theorem c_text_seg (v : Value) (l : Addr) (c : Nat) (x : PySem.Str) (tx : Tok) (n : Int) (t : Tok) (k : Int) (u : Tok) (h0 : 1 ≤ n) (h1 : n ≤ 255) (h2 : 0 ≤ k) (h3 : k ≤ 255) (hx : x.length ≤ 1000) :
    Cl 3 246 [v, .ref l] [(l, listOf #[.str x tx, .int n t, .int k u] c)] (.str (S (segL (C x) n k))) ((S (segL (C x) n k)).length ≤ x.length) := by
  refine ⟨?_, len_seg x n k⟩
  k_with_none
  k_with "my call" => first
    | (k_dflt (refine' Cl.use (c_text_of _ _) (by k_asm) (by k_asm) (by k_asm) (by k_asm) (by k_asm) (by first | exact rfl | assumption) (by first | exact List.forall_mem_nil _ | k_allIn) (by ktr_room) (by ktr_units) ?_); k_whole; intro t9 h9 tk9 F9 N9 P9; (try dsimp only); (try k_fold); (try k_sweep))
    | (k_dflt (refine' Cl.use (c_size_told _ _ (by omega) (by omega)) (by k_asm) (by k_asm) (by k_asm) (by k_asm) (by k_asm) (by first | exact rfl | assumption) (by first | exact List.forall_mem_nil _ | k_allIn) (by ktr_room) (by ktr_units) ?_); k_whole; intro t9 h9 tk9 F9 N9 P9; (try dsimp only); (try k_fold); (try k_sweep))
    | (k_dflt (refine' Cl.use (c_place_told _ _ (by omega) (by omega)) (by k_asm) (by k_asm) (by k_asm) (by k_asm) (by k_asm) (by first | exact rfl | assumption) (by first | exact List.forall_mem_nil _ | k_allIn) (by ktr_room) (by ktr_units) ?_); k_whole; intro t9 h9 tk9 F9 N9 P9; (try dsimp only); (try k_fold); (try k_sweep))
  (first | unfold Cl0 KH PG | unfold ClT KH PG)
  k_fill
  intro w loose mean mg mb news dp un gd cn cs a ccd cl outer A₀ base h₀ L m s Q E B F X N hown T hk hd hu hret
  have N0 := news_sub N hown
  refine wpAny_call ?_
  k_dflt (refine' code_defG ?k1 ?k2 ?k3 ?k4 ?k5 ?kA ?kF ?kK ?k6 ?k7 ?k8 ?k9 ?kB ?_ ?c2 ?c3 ?c4 ?c5; (case kA => exact rfl); (case kF => exact rfl); (case kK => exact hk); (case k1 => exact B); (case k2 => exact F); (case k3 => exact X); (case k4 => exact N0); (case k5 => exact T); (case k6 => k_is); (case k7 => k_is); (case k8 => ktr_room); (case k9 => exact BindsTo.of_eq rfl); (case c5 => decide); (case kB => exact locs rfl); (case c2 => exact rfl); (case c3 => exact rfl); (case c4 => exact rfl); k_whole)
  intro g' L' h' FG' F' N' B' X' T' kG0
  have kG' := GKeep.mk kG0
  clear kG0
  (try dsimp only)
  (try k_lift B')
  (try k_fold)
  clear N0
  k_steps
  · (exact ret_s hret (seg_eq x h0 h2 (by assumption)) (by k_asm) (news_back N hown kG' (by with_reducible assumption) (by first | k_asm | exact news_sub (by with_reducible assumption) (by k_allIn))))
  · (exact ret_s hret (seg_eq0 x h0 (by assumption)) (by k_asm) (news_back N hown kG' (by with_reducible assumption) (by first | k_asm | exact news_sub (by with_reducible assumption) (by k_allIn))))
theorem c_text_string (v : Value) (l : Addr) (c : Nat) (x : PySem.Str) (tx : Tok) (n : Int) (t : Tok) (h0 : 0 ≤ n) (h1 : n ≤ 255) (hx : x.length ≤ 1000) (hx0 : 1 ≤ x.length) :
    Cl 2 260 [v, .ref l] [(l, listOf #[.int n t, .str x tx] c)] (.str (S (strL n (C x)))) ((S (strL n (C x))).length ≤ 255) := by
  refine ⟨?_, len_string x h0 h1⟩
  have hne := ne_nil hx0
  k_with_none
  k_with "my call" => first
    | (k_dflt (refine' Cl.use (c_text_of _ _) (by k_asm) (by k_asm) (by k_asm) (by k_asm) (by k_asm) (by first | exact rfl | assumption) (by first | exact List.forall_mem_nil _ | k_allIn) (by ktr_room) (by ktr_units) ?_); k_whole; intro t9 h9 tk9 F9 N9 P9; (try dsimp only); (try k_fold); (try k_sweep))
    | (k_dflt (refine' Cl.use (c_size_told _ _ (by omega) (by omega)) (by k_asm) (by k_asm) (by k_asm) (by k_asm) (by k_asm) (by first | exact rfl | assumption) (by first | exact List.forall_mem_nil _ | k_allIn) (by ktr_room) (by ktr_units) ?_); k_whole; intro t9 h9 tk9 F9 N9 P9; (try dsimp only); (try k_fold); (try k_sweep))
    | (k_dflt (refine' Cl.use (c_place_told _ _ (by omega) (by omega)) (by k_asm) (by k_asm) (by k_asm) (by k_asm) (by k_asm) (by first | exact rfl | assumption) (by first | exact List.forall_mem_nil _ | k_allIn) (by ktr_room) (by ktr_units) ?_); k_whole; intro t9 h9 tk9 F9 N9 P9; (try dsimp only); (try k_fold); (try k_sweep))
  (first | unfold Cl0 KH PG | unfold ClT KH PG)
  k_fill
  intro w loose mean mg mb news dp un gd cn cs a ccd cl outer A₀ base h₀ L m s Q E B F X N hown T hk hd hu hret
  have N0 := news_sub N hown
  refine wpAny_call ?_
  k_dflt (refine' code_defG ?k1 ?k2 ?k3 ?k4 ?k5 ?kA ?kF ?kK ?k6 ?k7 ?k8 ?k9 ?kB ?_ ?c2 ?c3 ?c4 ?c5; (case kA => exact rfl); (case kF => exact rfl); (case kK => exact hk); (case k1 => exact B); (case k2 => exact F); (case k3 => exact X); (case k4 => exact N0); (case k5 => exact T); (case k6 => k_is); (case k7 => k_is); (case k8 => ktr_room); (case k9 => exact BindsTo.of_eq rfl); (case c5 => decide); (case kB => exact locs rfl); (case c2 => exact rfl); (case c3 => exact rfl); (case c4 => exact rfl); k_whole)
  intro g' L' h' FG' F' N' B' X' T' kG0
  have kG' := GKeep.mk kG0
  clear kG0
  (try dsimp only)
  (try k_lift B')
  (try k_fold)
  clear N0
  k_steps
  all_goals first | (exfalso; simp_all; done) | (exact ret_s hret (string_eq x hx0) (by k_asm) (news_back N hown kG' (by with_reducible assumption) (by first | k_asm | exact news_sub (by with_reducible assumption) (by k_allIn))))
end Mine
end

section
open PySem PySem.W PyProof.Rows
namespace Mine
set_option linter.unusedSimpArgs false
set_option linter.unusedVariables false
set_option maxRecDepth 100000
set_option maxHeartbeats 8000000
theorem c_found_at (x : PySem.Str) (tx : Tok) (p : PySem.Str) (tp : Tok) (n : Int) (t : Tok) (h0 : 1 ≤ n) (h1 : n ≤ 255) (hx : x.length ≤ 1000) (hp : p.length ≤ 1000) : Cl 1 164 [.str x tx, .str p tp, .int n t] [] (.int (foundL (C x) (C p) n.toNat : Nat)) True := by
  refine ⟨?_, trivial⟩
  k_with_none
  k_with "my for" => (k_here; (rename Fr _ _ _ _ => lF'); (with_unfolding_all refine' For_invVF lF' (by exact rfl) (by exact rfl) ?_); k_whole)
  k_with "my iter" =>
    (rename Fr _ _ _ _ => lF'); (rename News _ _ _ _ => lN'); (rename IsRange _ _ _ _ _ _ _ _ => rgX)
    (with_unfolding_all refine' kst_range (σ := Unit) (fun _ => []) (fun _ => []) (fun _ => True) [] (fun pre _ => ∀ j : Nat, j < pre.length → Txt.slice x (some (n - 1 + (j : Int))) (some (n - 1 + (j : Int) + (p.length : Int))) ≠ p) () (by rfl) (by first | exact rgX | assumption) (by exact small_one (by omega) (by omega) (by omega) (by omega)) (by exact rangeSize_nat _ _) lF' ?kn trivial (by nofun) (by nofun) ?kturn ?kdone)
    (case kn => with_unfolding_all exact lN')
    (case' kturn => (intro c pre k t u h tk own hkk hlt hoff hf hP F5 N5; clear lF' lN'; (try k_fold)))
    (case' kdone => (intro c u h tk hf hP F5 N5; clear lF' lN'; (try dsimp only); (try k_fold)))
  k_with "my end" =>
    (refine' kst_end () ?e1 ?e2 ?e5 ?e3 rfl trivial ?e6 ?e7 ?e4)
    (case e1 => with_reducible assumption)
    (case e2 => with_reducible assumption)
    (case e5 => exact fun _ h => nomatch h)
    (case e6 => exact fun _ h => nomatch h)
    (case e7 => exact fun z hz _ _ => if_neg hz)
    (case e3 => exact fun p hp => hp)
    (case e4 =>
      intro j hj
      rw [List.length_append, List.length_singleton] at hj
      by_cases hj2 : j < pre.length
      · exact hP j hj2
      · have : j = pre.length := by omega
        subst this
        rw [← hkk]
        exact beq_eq_false_iff_ne.mp (by assumption))
  (first | unfold Cl0 KH PG | unfold ClT KH PG)
  k_fill
  intro w loose mean mg mb news dp un gd cn cs a ccd cl outer A₀ base h₀ L m s Q E B F X N hown T hk hd hu hret
  have N0 := news_sub N hown
  refine wpAny_call ?_
  k_dflt (refine' code_defG ?k1 ?k2 ?k3 ?k4 ?k5 ?kA ?kF ?kK ?k6 ?k7 ?k8 ?k9 ?kB ?_ ?c2 ?c3 ?c4 ?c5; (case kA => exact rfl); (case kF => exact rfl); (case kK => exact hk); (case k1 => exact B); (case k2 => exact F); (case k3 => exact X); (case k4 => exact N0); (case k5 => exact T); (case k6 => k_is); (case k7 => k_is); (case k8 => ktr_room); (case k9 => exact BindsTo.of_eq rfl); (case c5 => decide); (case kB => exact locs rfl); (case c2 => exact rfl); (case c3 => exact rfl); (case c4 => exact rfl); k_whole)
  intro g' L' h' FG' F' N' B' X' T' kG0
  have kG' := GKeep.mk kG0
  clear kG0
  (try dsimp only)
  (try k_lift B')
  (try k_fold)
  clear N0
  k_steps
  · (exact ret_i hret (found_big h0 (by assumption)) (by k_asm) (news_back N hown kG' (by with_reducible assumption) (by first | k_asm | exact news_sub (by with_reducible assumption) (by k_allIn))))
  · (exact ret_i hret ((found_none h0 (by rw [rangeKs_length] at hP; exact hP)).symm) (by k_asm) (news_back N hown kG' (by with_reducible assumption) (by first | k_asm | exact news_sub (by with_reducible assumption) (by k_allIn))))
  · (exact ret_i hret (by rw [hkk] at *; exact found_some h0 (by assumption) hlt hP (by assumption)) (by k_asm) (news_back N hown kG' (by with_reducible assumption) (by first | k_asm | exact news_sub (by with_reducible assumption) (by k_allIn))))
end Mine
end

section
open PySem PySem.W PyProof.Rows
namespace Mine
set_option linter.unusedSimpArgs false
set_option linter.unusedVariables false
set_option maxRecDepth 100000
set_option maxHeartbeats 8000000
theorem c_from_left (x : PySem.Str) (tx : Tok) (tp : Tok) (hx : x.length ≤ 1000) : Cl 1 171 [.str x tx, .str (Str.mk #[32, 9]) tp] [] (.str (S (ltrimL (C x)))) ((S (ltrimL (C x))).length ≤ x.length) := by
  refine ⟨?_, len_ltrim x⟩
  k_with_none
  k_with "my while" => k_while (fun (_ : List Int) (k : Int) => 0 ≤ k ∧ k ≤ x.length ∧ ltrimL (C x) = ltrimL ((C x).drop k.toNat)) (fun _ k => x.length - k.toNat) "at"
  k_with "state" => first | exact ltrim_start x | exact ltrim_turn ⟨by assumption, by assumption, by assumption⟩ (by assumption) (by assumption)
  (first | unfold Cl0 KH PG | unfold ClT KH PG)
  k_fill
  intro w loose mean mg mb news dp un gd cn cs a ccd cl outer A₀ base h₀ L m s Q E B F X N hown T hk hd hu hret
  have N0 := news_sub N hown
  refine wpAny_call ?_
  k_dflt (refine' code_defG ?k1 ?k2 ?k3 ?k4 ?k5 ?kA ?kF ?kK ?k6 ?k7 ?k8 ?k9 ?kB ?_ ?c2 ?c3 ?c4 ?c5; (case kA => exact rfl); (case kF => exact rfl); (case kK => exact hk); (case k1 => exact B); (case k2 => exact F); (case k3 => exact X); (case k4 => exact N0); (case k5 => exact T); (case k6 => k_is); (case k7 => k_is); (case k8 => ktr_room); (case k9 => exact BindsTo.of_eq rfl); (case c5 => decide); (case kB => exact locs rfl); (case c2 => exact rfl); (case c3 => exact rfl); (case c4 => exact rfl); k_whole)
  intro g' L' h' FG' F' N' B' X' T' kG0
  have kG' := GKeep.mk kG0
  clear kG0
  (try dsimp only)
  (try k_lift B')
  (try k_fold)
  clear N0
  k_steps
  · (exact ret_s hret (ltrim_end (by assumption) (by assumption) (.inr ⟨by assumption, by assumption⟩)) (by k_asm) (news_back N hown kG' (by with_reducible assumption) (by first | k_asm | exact news_sub (by with_reducible assumption) (by k_allIn))))
  · (exact ret_s hret (ltrim_end (by assumption) (by assumption) (.inl (by assumption))) (by k_asm) (news_back N hown kG' (by with_reducible assumption) (by first | k_asm | exact news_sub (by with_reducible assumption) (by k_allIn))))
theorem c_from_right (x : PySem.Str) (tx : Tok) (tp : Tok) (hx : x.length ≤ 1000) : Cl 1 178 [.str x tx, .str (Str.mk #[32, 9]) tp] [] (.str (S (rtrimL (C x)))) ((S (rtrimL (C x))).length ≤ x.length) := by
  refine ⟨?_, len_rtrim x⟩
  k_with_none
  k_with "my while" => k_while (fun (_ : List Int) (k : Int) => 0 ≤ k ∧ k ≤ x.length ∧ rtrimL (C x) = rtrimL ((C x).take k.toNat)) (fun _ k => k.toNat) "end"
  k_with "state" => first | exact rtrim_start x | exact rtrim_turn ⟨by assumption, by assumption, by assumption⟩ (by assumption) (by assumption)
  (first | unfold Cl0 KH PG | unfold ClT KH PG)
  k_fill
  intro w loose mean mg mb news dp un gd cn cs a ccd cl outer A₀ base h₀ L m s Q E B F X N hown T hk hd hu hret
  have N0 := news_sub N hown
  refine wpAny_call ?_
  k_dflt (refine' code_defG ?k1 ?k2 ?k3 ?k4 ?k5 ?kA ?kF ?kK ?k6 ?k7 ?k8 ?k9 ?kB ?_ ?c2 ?c3 ?c4 ?c5; (case kA => exact rfl); (case kF => exact rfl); (case kK => exact hk); (case k1 => exact B); (case k2 => exact F); (case k3 => exact X); (case k4 => exact N0); (case k5 => exact T); (case k6 => k_is); (case k7 => k_is); (case k8 => ktr_room); (case k9 => exact BindsTo.of_eq rfl); (case c5 => decide); (case kB => exact locs rfl); (case c2 => exact rfl); (case c3 => exact rfl); (case c4 => exact rfl); k_whole)
  intro g' L' h' FG' F' N' B' X' T' kG0
  have kG' := GKeep.mk kG0
  clear kG0
  (try dsimp only)
  (try k_lift B')
  (try k_fold)
  clear N0
  k_steps
  · (exact ret_s hret (rtrim_end (by assumption) (by assumption) (by assumption) (.inr ⟨by assumption, by assumption⟩)) (by k_asm) (news_back N hown kG' (by with_reducible assumption) (by first | k_asm | exact news_sub (by with_reducible assumption) (by k_allIn))))
  · (exact ret_s hret (rtrim_end (by assumption) (by assumption) (by assumption) (.inl (by assumption))) (by k_asm) (news_back N hown kG' (by with_reducible assumption) (by first | k_asm | exact news_sub (by with_reducible assumption) (by k_allIn))))
theorem c_great (c : Nat) (tx : Tok) : Cl 1 185 [.str ⟨#[c]⟩ tx] [] (.str (S [upC c])) ((S [upC c]).length = 1) := by
  refine ⟨?_, rfl⟩
  k_with_none
  k_with "my chr" =>
    (fail_if_success (have hb : 97 ≤ c ∧ c ≤ 122 := by assumption))
    (have hb := great_in (c := c) (by assumption) (by assumption))
  (first | unfold Cl0 KH PG | unfold ClT KH PG)
  k_fill
  intro w loose mean mg mb news dp un gd cn cs a ccd cl outer A₀ base h₀ L m s Q E B F X N hown T hk hd hu hret
  have N0 := news_sub N hown
  refine wpAny_call ?_
  k_dflt (refine' code_defG ?k1 ?k2 ?k3 ?k4 ?k5 ?kA ?kF ?kK ?k6 ?k7 ?k8 ?k9 ?kB ?_ ?c2 ?c3 ?c4 ?c5; (case kA => exact rfl); (case kF => exact rfl); (case kK => exact hk); (case k1 => exact B); (case k2 => exact F); (case k3 => exact X); (case k4 => exact N0); (case k5 => exact T); (case k6 => k_is); (case k7 => k_is); (case k8 => ktr_room); (case k9 => exact BindsTo.of_eq rfl); (case c5 => decide); (case kB => exact locs rfl); (case c2 => exact rfl); (case c3 => exact rfl); (case c4 => exact rfl); k_whole)
  intro g' L' h' FG' F' N' B' X' T' kG0
  have kG' := GKeep.mk kG0
  clear kG0
  (try dsimp only)
  (try k_lift B')
  (try k_fold)
  clear N0
  k_steps
  · (exact ret_s hret (great_lo (by assumption)) (by k_asm) (news_back N hown kG' (by with_reducible assumption) (by first | k_asm | exact news_sub (by with_reducible assumption) (by k_allIn))))
  · (exact ret_s hret (great_hi (by assumption)) (by k_asm) (news_back N hown kG' (by with_reducible assumption) (by first | k_asm | exact news_sub (by with_reducible assumption) (by k_allIn))))
  · (exact ret_s hret (great_eq hb) (by k_asm) (news_back N hown kG' (by with_reducible assumption) (by first | k_asm | exact news_sub (by with_reducible assumption) (by k_allIn))))
theorem c_small (c : Nat) (tx : Tok) : Cl 1 192 [.str ⟨#[c]⟩ tx] [] (.str (S [loC c])) ((S [loC c]).length = 1) := by
  refine ⟨?_, rfl⟩
  k_with_none
  k_with "my chr" =>
    (fail_if_success (have hb : 65 ≤ c ∧ c ≤ 90 := by assumption))
    (have hb := small_in (c := c) (by assumption) (by assumption))
  (first | unfold Cl0 KH PG | unfold ClT KH PG)
  k_fill
  intro w loose mean mg mb news dp un gd cn cs a ccd cl outer A₀ base h₀ L m s Q E B F X N hown T hk hd hu hret
  have N0 := news_sub N hown
  refine wpAny_call ?_
  k_dflt (refine' code_defG ?k1 ?k2 ?k3 ?k4 ?k5 ?kA ?kF ?kK ?k6 ?k7 ?k8 ?k9 ?kB ?_ ?c2 ?c3 ?c4 ?c5; (case kA => exact rfl); (case kF => exact rfl); (case kK => exact hk); (case k1 => exact B); (case k2 => exact F); (case k3 => exact X); (case k4 => exact N0); (case k5 => exact T); (case k6 => k_is); (case k7 => k_is); (case k8 => ktr_room); (case k9 => exact BindsTo.of_eq rfl); (case c5 => decide); (case kB => exact locs rfl); (case c2 => exact rfl); (case c3 => exact rfl); (case c4 => exact rfl); k_whole)
  intro g' L' h' FG' F' N' B' X' T' kG0
  have kG' := GKeep.mk kG0
  clear kG0
  (try dsimp only)
  (try k_lift B')
  (try k_fold)
  clear N0
  k_steps
  · (exact ret_s hret (small_lo (by assumption)) (by k_asm) (news_back N hown kG' (by with_reducible assumption) (by first | k_asm | exact news_sub (by with_reducible assumption) (by k_allIn))))
  · (exact ret_s hret (small_hi (by assumption)) (by k_asm) (news_back N hown kG' (by with_reducible assumption) (by first | k_asm | exact news_sub (by with_reducible assumption) (by k_allIn))))
  · (exact ret_s hret (small_eq hb) (by k_asm) (news_back N hown kG' (by with_reducible assumption) (by first | k_asm | exact news_sub (by with_reducible assumption) (by k_allIn))))
end Mine
end

section
open PySem PySem.W PyProof.Rows
namespace Mine
set_option linter.unusedSimpArgs false
set_option linter.unusedVariables false
set_option maxRecDepth 100000
set_option maxHeartbeats 8000000
theorem c_edited_sign (c : Nat) (tx : Tok) (fl : Int) (tf : Tok) (b2 b8 b16 b32 b64 b128 : Bool) (hf : Flags fl b2 b8 b16 b32 b64 b128) : Cl 2 199 [.str ⟨#[c]⟩ tx, .int fl tf] [] (.str (S (edSign b2 b32 b64 c))) ((S (edSign b2 b32 b64 c)).length ≤ 1) := by
  refine ⟨?_, by rw [len_S]; unfold edSign; (repeat' split) <;> simp⟩
  have h0 := hf.lo
  have h1 := hf.hi
  have f1 := hf.f1
  have f4 := hf.f4
  k_with_none
  k_with "my call" => first
    | (k_dflt (refine' Cl.use (c_great _ _) (by k_asm) (by k_asm) (by k_asm) (by k_asm) (by k_asm) (by first | exact rfl | assumption) (by first | exact List.forall_mem_nil _ | k_allIn) (by ktr_room) (by ktr_units) ?_); k_whole; intro t9 h9 tk9 F9 N9 P9; (try dsimp only); (try k_fold); (try k_sweep))
    | (k_dflt (refine' Cl.use (c_small _ _) (by k_asm) (by k_asm) (by k_asm) (by k_asm) (by k_asm) (by first | exact rfl | assumption) (by first | exact List.forall_mem_nil _ | k_allIn) (by ktr_room) (by ktr_units) ?_); k_whole; intro t9 h9 tk9 F9 N9 P9; (try dsimp only); (try k_fold); (try k_sweep))
  (first | unfold Cl0 KH PG | unfold ClT KH PG)
  k_fill
  intro w loose mean mg mb news dp un gd cn cs a ccd cl outer A₀ base h₀ L m s Q E B F X N hown T hk hd hu hret
  have N0 := news_sub N hown
  refine wpAny_call ?_
  k_dflt (refine' code_defG ?k1 ?k2 ?k3 ?k4 ?k5 ?kA ?kF ?kK ?k6 ?k7 ?k8 ?k9 ?kB ?_ ?c2 ?c3 ?c4 ?c5; (case kA => exact rfl); (case kF => exact rfl); (case kK => exact hk); (case k1 => exact B); (case k2 => exact F); (case k3 => exact X); (case k4 => exact N0); (case k5 => exact T); (case k6 => k_is); (case k7 => k_is); (case k8 => ktr_room); (case k9 => exact BindsTo.of_eq rfl); (case c5 => decide); (case kB => exact locs rfl); (case c2 => exact rfl); (case c3 => exact rfl); (case c4 => exact rfl); k_whole)
  intro g' L' h' FG' F' N' B' X' T' kG0
  have kG' := GKeep.mk kG0
  clear kG0
  (try dsimp only)
  (try k_lift B')
  (try k_fold)
  clear N0
  k_steps
  all_goals first
    | exact absurd f1 (by assumption)
    | exact absurd f4 (by assumption)
    | (exact ret_s hret (ed_r1 hf (by assumption) (by assumption)) (by k_asm) (news_back N hown kG' (by with_reducible assumption) (by first | k_asm | exact news_sub (by with_reducible assumption) (by k_allIn))))
    | (exact ret_s hret (ed_r2 hf (by first | exact ed_n1 hf (by assumption) | exact ed_n2 hf (by assumption)) (by assumption) (by assumption) (by assumption)) (by k_asm) (news_back N hown kG' (by with_reducible assumption) (by first | k_asm | exact news_sub (by with_reducible assumption) (by k_allIn))))
    | (exact ret_s hret (ed_r3 hf (by first | exact ed_n1 hf (by assumption) | exact ed_n2 hf (by assumption)) (by assumption) (by assumption) (by assumption)) (by k_asm) (news_back N hown kG' (by with_reducible assumption) (by first | k_asm | exact news_sub (by with_reducible assumption) (by k_allIn))))
    | (exact ret_s hret (ed_r4 hf (by first | exact ed_n1 hf (by assumption) | exact ed_n2 hf (by assumption)) (by first | exact ed_m1 hf (by assumption) | exact ed_m2 hf (by assumption)) (by assumption)) (by k_asm) (news_back N hown kG' (by with_reducible assumption) (by first | k_asm | exact news_sub (by with_reducible assumption) (by k_allIn))))
    | (exact ret_s hret (ed_r5 hf (by first | exact ed_n1 hf (by assumption) | exact ed_n2 hf (by assumption)) (by first | exact ed_m1 hf (by assumption) | exact ed_m2 hf (by assumption)) (by assumption)) (by k_asm) (news_back N hown kG' (by with_reducible assumption) (by first | k_asm | exact news_sub (by with_reducible assumption) (by k_allIn))))
end Mine
end

section
open PySem PySem.W PyProof.Rows
namespace Mine
set_option linter.unusedSimpArgs false
set_option linter.unusedVariables false
set_option maxRecDepth 100000
set_option maxHeartbeats 8000000
theorem c_edited (x : PySem.Str) (tx : Tok) (fl : Int) (tf : Tok) (b2 b8 b16 b32 b64 b128 : Bool) (hf : Flags fl b2 b8 b16 b32 b64 b128) (hx : x.length ≤ 1000) : Cl 3 206 [.str x tx, .int fl tf] [] (.str (S (edL b2 b8 b16 b32 b64 b128 (C x)))) ((S (edL b2 b8 b16 b32 b64 b128 (C x))).length ≤ x.length) := by
  refine ⟨?_, len_edL x⟩
  have h0 := hf.lo
  have h1 := hf.hi
  have f256 : ¬ ((Builtin.bitAnd fl 256 != 0) = true) := by simp [hf.f256]
  k_with_none
  k_with "pyIter str" =>
    (rename Fr _ _ _ _ => lF'); (rename News _ _ _ _ => lN')
    (with_unfolding_all refine' loop_texts (own := []) [(PySem.Str.ofString "quote", .str (PySem.Str.ofString "") _)] [PySem.Str.ofString "told"] (EdP b2 b16 b32 b64) (by rfl) lF' ?kn ?kk EdP.start ?kturn ?kdone)
    (case kk => kst_all)
    (case kn => exact news_sub lN' (by k_allIn))
    (case' kturn => (intro us c fs pre post n t u h tk own hcodes hoff hus hP F5 N5; clear lF' lN'; (try simp only [List.nil_append] at N5); (try k_fold)))
    (case' kdone => (intro us c fs u h tk hus hP F5 N5; clear lF' lN'; (try dsimp only); (try k_fold)))
  k_with "my join" =>
    (refine join_texts (by k_asm) (by k_mem) hus (by have := hP.2; rw [KStt.codes_length] at this; omega) ?_)
    intro t9 k9
  k_with "my len" =>
    (refine len_texts (by k_asm) (by k_mem) hus (by have := hP.2; have h5 := congrArg List.length hcodes; rw [KStt.codes_length, List.length_append] at h5; omega) ?_)
  k_with "my item" =>
    (refine last_texts (by k_asm) (by k_mem) hus (by omega) (by have := hP.2; have h5 := congrArg List.length hcodes; rw [KStt.codes_length, List.length_append] at h5; omega) ?_)
    intro t9
  k_with "my call" => first
    | (k_dflt (refine' Cl.use (c_from_left _ _ _ (by omega)) (by k_asm) (by k_asm) (by k_asm) (by k_asm) (by k_asm) (by first | exact rfl | assumption) (by first | exact List.forall_mem_nil _ | k_allIn) (by ktr_room) (by ktr_units) ?_); k_whole; intro t9 h9 tk9 F9 N9 P9; (try dsimp only); (try k_fold); (try k_sweep))
    | (k_dflt (refine' Cl.use (c_from_right _ _ _ (by omega)) (by k_asm) (by k_asm) (by k_asm) (by k_asm) (by k_asm) (by first | exact rfl | assumption) (by first | exact List.forall_mem_nil _ | k_allIn) (by ktr_room) (by ktr_units) ?_); k_whole; intro t9 h9 tk9 F9 N9 P9; (try dsimp only); (try k_fold); (try k_sweep))
  k_with "my call" =>
    k_dflt (refine' Cl.use (c_edited_sign n _ fl _ b2 b8 b16 b32 b64 b128 hf) (by k_asm) (by k_asm) (by k_asm) (by k_asm) (by k_asm) (by first | exact rfl | assumption) (List.forall_mem_nil _) (by ktr_room) (by ktr_units) ?_)
    intro t9 h9 tk9 F9 N9 P9
    (try dsimp only)
    (try k_sweep)
    (rcases ed_cases b2 b32 b64 n with e9 | ⟨d9, e9⟩)
    (rw [e9, S_nil]; (try k_fold))
    rotate_left
    (rw [e9, S_one]; (have hne9 := ne_oneT d9); (try k_fold))
    rotate_left
  k_with "my append" =>
    k_dflt (refine' append_K (by k_asm) (by k_asm) (Upd.head (fun p hp => hoff p hp _ (List.Mem.head _))) ?_ (by rw [List.size_toArray, strs_len hus, PySem.sizeLine_eq]; have := hP.2; have h5 := congrArg List.length hcodes; rw [KStt.codes_length, List.length_append] at h5; omega))
    intro h8 F8 N8
    (try k_sweep)
  k_with "my end" =>
    (rename News _ _ _ _ => nE'); (try simp only [List.push_toArray] at nE')
    k_dflt (refine' kst_end ⟨_, _, _⟩ (by assumption) nE' (by k_allIn) (by intro p hp; k_ownIn) rfl (by first | exact strs_snocB (by assumption) | exact strs_snocC (by assumption) | assumption) (by first | exact fix1 (by decide) (by decide) | exact fix2 (by decide) (by decide)) (by first | exact same1 | exact same2) (by first
      | exact EdP.w1 hP e9
      | exact EdP.w2 hP e9 (ed_b1 hf (by assumption))
      | exact EdP.w2 hP e9 (ed_b2 hf (by assumption))
      | exact EdP.w4 hP e9 (ed_b3 hf (by assumption) (by assumption)) (ed_l1 (by assumption))
      | exact EdP.w4 hP e9 (ed_b3 hf (by assumption) (by assumption)) (ed_l2 (by assumption) (by assumption))
      | exact EdP.w5 hP e9 (ed_b3 hf (by assumption) (by assumption)) (ed_l3 (by assumption) (by assumption))))
  (first | unfold Cl0 KH PG | unfold ClT KH PG)
  k_fill
  intro w loose mean mg mb news dp un gd cn cs a ccd cl outer A₀ base h₀ L m s Q E B F X N hown T hk hd hu hret
  have N0 := news_sub N hown
  refine wpAny_call ?_
  k_dflt (refine' code_defG ?k1 ?k2 ?k3 ?k4 ?k5 ?kA ?kF ?kK ?k6 ?k7 ?k8 ?k9 ?kB ?_ ?c2 ?c3 ?c4 ?c5; (case kA => exact rfl); (case kF => exact rfl); (case kK => exact hk); (case k1 => exact B); (case k2 => exact F); (case k3 => exact X); (case k4 => exact N0); (case k5 => exact T); (case k6 => k_is); (case k7 => k_is); (case k8 => ktr_room); (case k9 => exact BindsTo.of_eq rfl); (case c5 => decide); (case kB => exact locs rfl); (case c2 => exact rfl); (case c3 => exact rfl); (case c4 => exact rfl); k_whole)
  intro g' L' h' FG' F' N' B' X' T' kG0
  have kG' := GKeep.mk kG0
  clear kG0
  (try dsimp only)
  (try k_lift B')
  (try k_fold)
  clear N0
  refine cut_text F' (PySem.Str.ofString "text") (S (if b8 then ltrimL (C x) else C x)) [] ?h1 ?h2
  case h1 =>
    (try k_fold)
    k_steps
    · exact textAt_new (cutA hf (by assumption)) (by k_asm) (by k_asm)
    · exact textAt_old (cutB hf (by assumption)) rfl (by k_asm) (by k_asm)
  case h2 =>
    intro t1 hh1 tk1 F1 N1
    (try k_fold)
    refine cut_text F1 (PySem.Str.ofString "text") (S (edCut b8 b128 (C x))) [] ?h3 ?h4
    case h3 =>
      have hc1 := cut1 (b8 := b8) hx
      k_steps
      · exact textAt_new (cutC hf (by assumption)) (by k_asm) (by k_asm)
      · exact textAt_old (cutD hf (by assumption)) rfl (by k_asm) (by k_asm)
    case h4 =>
      intro t2 hh2 tk2 F2 N2
      (try k_fold)
      clear F1 N1
      have hc2 := cut2 (b8 := b8) (b128 := b128) hx
      k_steps
      (exact ret_s hret (ed_done hP) (by k_asm) (news_back N hown kG' (by with_reducible assumption) (by first | k_asm | exact news_sub (by with_reducible assumption) (by k_allIn))))
end Mine
end

section
open PySem PySem.W PyProof.Rows
namespace Mine
set_option linter.unusedSimpArgs false
set_option linter.unusedVariables false
set_option maxRecDepth 100000
set_option maxHeartbeats 8000000
theorem c_text_of2 (x : PySem.Str) (t : Tok) : Cl 1 72 [.str x t] [] (fun _ => .str x t) True := by
  refine ⟨?_, trivial⟩
  k_with_none
  (first | unfold Cl0 KH PG | unfold ClT KH PG)
  k_fill
  intro w loose mean mg mb news dp un gd cn cs a ccd cl outer A₀ base h₀ L m s Q E B F X N hown T hk hd hu hret
  have N0 := news_sub N hown
  refine wpAny_call ?_
  k_dflt (refine' code_defG ?k1 ?k2 ?k3 ?k4 ?k5 ?kA ?kF ?kK ?k6 ?k7 ?k8 ?k9 ?kB ?_ ?c2 ?c3 ?c4 ?c5; (case kA => exact rfl); (case kF => exact rfl); (case kK => exact hk); (case k1 => exact B); (case k2 => exact F); (case k3 => exact X); (case k4 => exact N0); (case k5 => exact T); (case k6 => k_is); (case k7 => k_is); (case k8 => ktr_room); (case k9 => exact BindsTo.of_eq rfl); (case c5 => decide); (case kB => exact locs rfl); (case c2 => exact rfl); (case c3 => exact rfl); (case c4 => exact rfl); k_whole)
  intro g' L' h' FG' F' N' B' X' T' kG0
  have kG' := GKeep.mk kG0
  clear kG0
  (try dsimp only)
  (try k_lift B')
  (try k_fold)
  clear N0
  k_steps
  (first | exact hret _ _ _ (by k_asm) (news_back N hown kG' (by with_reducible assumption) (by first | k_asm | exact news_sub (by with_reducible assumption) (by k_allIn))) | exact hret (0 : Nat) _ _ (by k_asm) (news_back N hown kG' (by with_reducible assumption) (by first | k_asm | exact news_sub (by with_reducible assumption) (by k_allIn))))
theorem c_ucase (v : Value) (l : Addr) (c : Nat) (x : PySem.Str) (tx : Tok) (hx : x.length ≤ 1000) :
    Cl 2 265 [v, .ref l] [(l, listOf #[.str x tx] c)] (.str (S ((C x).map upC))) ((S ((C x).map upC)).length ≤ x.length) := by
  refine ⟨?_, by rw [len_S, len_C, List.length_map]; exact Nat.le_refl _⟩
  k_with_none
  k_with "my call" => first
    | (k_dflt (refine' Cl.use (c_text_of2 _ _) (by k_asm) (by k_asm) (by k_asm) (by k_asm) (by k_asm) (by first | exact rfl | assumption) (by first | exact List.forall_mem_nil _ | k_allIn) (by ktr_room) (by ktr_units) ?_); k_whole; intro t9 h9 tk9 F9 N9 P9; (try dsimp only); (try k_fold); (try k_sweep))
    | (k_dflt (refine' Cl.use (c_great _ _) (by k_asm) (by k_asm) (by k_asm) (by k_asm) (by k_asm) (by first | exact rfl | assumption) (by first | exact List.forall_mem_nil _ | k_allIn) (by ktr_room) (by ktr_units) ?_); k_whole; intro t9 h9 tk9 F9 N9 P9; (try dsimp only); (try k_fold); (try k_sweep))
    | (k_dflt (refine' Cl.use (c_small _ _) (by k_asm) (by k_asm) (by k_asm) (by k_asm) (by k_asm) (by first | exact rfl | assumption) (by first | exact List.forall_mem_nil _ | k_allIn) (by ktr_room) (by ktr_units) ?_); k_whole; intro t9 h9 tk9 F9 N9 P9; (try dsimp only); (try k_fold); (try k_sweep))
  k_with "my comp" =>
    k_dflt (refine comp_text (F₀ := by k_asm) (by rfl) (by decide) (by rfl) (by decide) (by rfl) ?_)
  k_with "my src" =>
    k_dflt (refine TextSrc.intro (by rfl) (by k_asm) (by k_asm) hx ?_)
    (intro g5)
    k_dflt (refine rest_text upC ?_ ?_)
    (intro n t I5 oI5 D5 oC5 A5 m5 ys h tk E5 hC5 hx5 F5 N5 off5 ne5; (try k_fold))
    rotate_left
    (intro ys hys A6 h6 tk6 F6 N6 off6; (try dsimp only); (try k_fold))
    rotate_left
  k_with "my cend" =>
    k_dflt (exact LCg.CompEnd.intro (by assumption) (by assumption) _ (fun p hp => hp) off5 trivial ⟨rfl, _, rfl⟩)
  k_with "my join" =>
    k_dflt (refine join_texts (by k_asm) (by k_mem) hys (by rw [List.length_map, ← len_C]; exact hx) ?_)
    intro t9 k9
  (first | unfold Cl0 KH PG | unfold ClT KH PG)
  k_fill
  intro w loose mean mg mb news dp un gd cn cs a ccd cl outer A₀ base h₀ L m s Q E B F X N hown T hk hd hu hret
  have N0 := news_sub N hown
  refine wpAny_call ?_
  k_dflt (refine' code_defG ?k1 ?k2 ?k3 ?k4 ?k5 ?kA ?kF ?kK ?k6 ?k7 ?k8 ?k9 ?kB ?_ ?c2 ?c3 ?c4 ?c5; (case kA => exact rfl); (case kF => exact rfl); (case kK => exact hk); (case k1 => exact B); (case k2 => exact F); (case k3 => exact X); (case k4 => exact N0); (case k5 => exact T); (case k6 => k_is); (case k7 => k_is); (case k8 => ktr_room); (case k9 => exact BindsTo.of_eq rfl); (case c5 => decide); (case kB => exact locs rfl); (case c2 => exact rfl); (case c3 => exact rfl); (case c4 => exact rfl); k_whole)
  intro g' L' h' FG' F' N' B' X' T' kG0
  have kG' := GKeep.mk kG0
  clear kG0
  (try dsimp only)
  (try k_lift B')
  (try k_fold)
  clear N0
  k_steps
  (first | exact hret _ _ _ (by k_asm) (news_back N hown kG' (by with_reducible assumption) (by first | k_asm | exact news_sub (by with_reducible assumption) (by k_allIn))) | exact hret (0 : Nat) _ _ (by k_asm) (news_back N hown kG' (by with_reducible assumption) (by first | k_asm | exact news_sub (by with_reducible assumption) (by k_allIn))))
theorem c_lcase (v : Value) (l : Addr) (c : Nat) (x : PySem.Str) (tx : Tok) (hx : x.length ≤ 1000) :
    Cl 2 270 [v, .ref l] [(l, listOf #[.str x tx] c)] (.str (S ((C x).map loC))) ((S ((C x).map loC)).length ≤ x.length) := by
  refine ⟨?_, by rw [len_S, len_C, List.length_map]; exact Nat.le_refl _⟩
  k_with_none
  k_with "my call" => first
    | (k_dflt (refine' Cl.use (c_text_of2 _ _) (by k_asm) (by k_asm) (by k_asm) (by k_asm) (by k_asm) (by first | exact rfl | assumption) (by first | exact List.forall_mem_nil _ | k_allIn) (by ktr_room) (by ktr_units) ?_); k_whole; intro t9 h9 tk9 F9 N9 P9; (try dsimp only); (try k_fold); (try k_sweep))
    | (k_dflt (refine' Cl.use (c_great _ _) (by k_asm) (by k_asm) (by k_asm) (by k_asm) (by k_asm) (by first | exact rfl | assumption) (by first | exact List.forall_mem_nil _ | k_allIn) (by ktr_room) (by ktr_units) ?_); k_whole; intro t9 h9 tk9 F9 N9 P9; (try dsimp only); (try k_fold); (try k_sweep))
    | (k_dflt (refine' Cl.use (c_small _ _) (by k_asm) (by k_asm) (by k_asm) (by k_asm) (by k_asm) (by first | exact rfl | assumption) (by first | exact List.forall_mem_nil _ | k_allIn) (by ktr_room) (by ktr_units) ?_); k_whole; intro t9 h9 tk9 F9 N9 P9; (try dsimp only); (try k_fold); (try k_sweep))
  k_with "my comp" =>
    k_dflt (refine comp_text (F₀ := by k_asm) (by rfl) (by decide) (by rfl) (by decide) (by rfl) ?_)
  k_with "my src" =>
    k_dflt (refine TextSrc.intro (by rfl) (by k_asm) (by k_asm) hx ?_)
    (intro g5)
    k_dflt (refine rest_text loC ?_ ?_)
    (intro n t I5 oI5 D5 oC5 A5 m5 ys h tk E5 hC5 hx5 F5 N5 off5 ne5; (try k_fold))
    rotate_left
    (intro ys hys A6 h6 tk6 F6 N6 off6; (try dsimp only); (try k_fold))
    rotate_left
  k_with "my cend" =>
    k_dflt (exact LCg.CompEnd.intro (by assumption) (by assumption) _ (fun p hp => hp) off5 trivial ⟨rfl, _, rfl⟩)
  k_with "my join" =>
    k_dflt (refine join_texts (by k_asm) (by k_mem) hys (by rw [List.length_map, ← len_C]; exact hx) ?_)
    intro t9 k9
  (first | unfold Cl0 KH PG | unfold ClT KH PG)
  k_fill
  intro w loose mean mg mb news dp un gd cn cs a ccd cl outer A₀ base h₀ L m s Q E B F X N hown T hk hd hu hret
  have N0 := news_sub N hown
  refine wpAny_call ?_
  k_dflt (refine' code_defG ?k1 ?k2 ?k3 ?k4 ?k5 ?kA ?kF ?kK ?k6 ?k7 ?k8 ?k9 ?kB ?_ ?c2 ?c3 ?c4 ?c5; (case kA => exact rfl); (case kF => exact rfl); (case kK => exact hk); (case k1 => exact B); (case k2 => exact F); (case k3 => exact X); (case k4 => exact N0); (case k5 => exact T); (case k6 => k_is); (case k7 => k_is); (case k8 => ktr_room); (case k9 => exact BindsTo.of_eq rfl); (case c5 => decide); (case kB => exact locs rfl); (case c2 => exact rfl); (case c3 => exact rfl); (case c4 => exact rfl); k_whole)
  intro g' L' h' FG' F' N' B' X' T' kG0
  have kG' := GKeep.mk kG0
  clear kG0
  (try dsimp only)
  (try k_lift B')
  (try k_fold)
  clear N0
  k_steps
  (first | exact hret _ _ _ (by k_asm) (news_back N hown kG' (by with_reducible assumption) (by first | k_asm | exact news_sub (by with_reducible assumption) (by k_allIn))) | exact hret (0 : Nat) _ _ (by k_asm) (news_back N hown kG' (by with_reducible assumption) (by first | k_asm | exact news_sub (by with_reducible assumption) (by k_allIn))))
theorem c_ltrim (v : Value) (l : Addr) (c : Nat) (x : PySem.Str) (tx : Tok) (hx : x.length ≤ 1000) :
    Cl 2 277 [v, .ref l] [(l, listOf #[.str x tx] c)] (.str (S (ltrimL (C x)))) ((S (ltrimL (C x))).length ≤ x.length) := by
  refine ⟨?_, len_ltrim x⟩
  k_with_none
  k_with "my call" => first
    | (k_dflt (refine' Cl.use (c_text_of2 _ _) (by k_asm) (by k_asm) (by k_asm) (by k_asm) (by k_asm) (by first | exact rfl | assumption) (by first | exact List.forall_mem_nil _ | k_allIn) (by ktr_room) (by ktr_units) ?_); k_whole; intro t9 h9 tk9 F9 N9 P9; (try dsimp only); (try k_fold); (try k_sweep))
    | (k_dflt (refine' Cl.use (c_from_left _ _ _ (by omega)) (by k_asm) (by k_asm) (by k_asm) (by k_asm) (by k_asm) (by first | exact rfl | assumption) (by first | exact List.forall_mem_nil _ | k_allIn) (by ktr_room) (by ktr_units) ?_); k_whole; intro t9 h9 tk9 F9 N9 P9; (try dsimp only); (try k_fold); (try k_sweep))
    | (k_dflt (refine' Cl.use (c_from_right _ _ _ (by omega)) (by k_asm) (by k_asm) (by k_asm) (by k_asm) (by k_asm) (by first | exact rfl | assumption) (by first | exact List.forall_mem_nil _ | k_allIn) (by ktr_room) (by ktr_units) ?_); k_whole; intro t9 h9 tk9 F9 N9 P9; (try dsimp only); (try k_fold); (try k_sweep))
  (first | unfold Cl0 KH PG | unfold ClT KH PG)
  k_fill
  intro w loose mean mg mb news dp un gd cn cs a ccd cl outer A₀ base h₀ L m s Q E B F X N hown T hk hd hu hret
  have N0 := news_sub N hown
  refine wpAny_call ?_
  k_dflt (refine' code_defG ?k1 ?k2 ?k3 ?k4 ?k5 ?kA ?kF ?kK ?k6 ?k7 ?k8 ?k9 ?kB ?_ ?c2 ?c3 ?c4 ?c5; (case kA => exact rfl); (case kF => exact rfl); (case kK => exact hk); (case k1 => exact B); (case k2 => exact F); (case k3 => exact X); (case k4 => exact N0); (case k5 => exact T); (case k6 => k_is); (case k7 => k_is); (case k8 => ktr_room); (case k9 => exact BindsTo.of_eq rfl); (case c5 => decide); (case kB => exact locs rfl); (case c2 => exact rfl); (case c3 => exact rfl); (case c4 => exact rfl); k_whole)
  intro g' L' h' FG' F' N' B' X' T' kG0
  have kG' := GKeep.mk kG0
  clear kG0
  (try dsimp only)
  (try k_lift B')
  (try k_fold)
  clear N0
  k_steps
  (first | exact hret _ _ _ (by k_asm) (news_back N hown kG' (by with_reducible assumption) (by first | k_asm | exact news_sub (by with_reducible assumption) (by k_allIn))) | exact hret (0 : Nat) _ _ (by k_asm) (news_back N hown kG' (by with_reducible assumption) (by first | k_asm | exact news_sub (by with_reducible assumption) (by k_allIn))))
theorem c_rtrim (v : Value) (l : Addr) (c : Nat) (x : PySem.Str) (tx : Tok) (hx : x.length ≤ 1000) :
    Cl 2 284 [v, .ref l] [(l, listOf #[.str x tx] c)] (.str (S (rtrimL (C x)))) ((S (rtrimL (C x))).length ≤ x.length) := by
  refine ⟨?_, len_rtrim x⟩
  k_with_none
  k_with "my call" => first
    | (k_dflt (refine' Cl.use (c_text_of2 _ _) (by k_asm) (by k_asm) (by k_asm) (by k_asm) (by k_asm) (by first | exact rfl | assumption) (by first | exact List.forall_mem_nil _ | k_allIn) (by ktr_room) (by ktr_units) ?_); k_whole; intro t9 h9 tk9 F9 N9 P9; (try dsimp only); (try k_fold); (try k_sweep))
    | (k_dflt (refine' Cl.use (c_from_left _ _ _ (by omega)) (by k_asm) (by k_asm) (by k_asm) (by k_asm) (by k_asm) (by first | exact rfl | assumption) (by first | exact List.forall_mem_nil _ | k_allIn) (by ktr_room) (by ktr_units) ?_); k_whole; intro t9 h9 tk9 F9 N9 P9; (try dsimp only); (try k_fold); (try k_sweep))
    | (k_dflt (refine' Cl.use (c_from_right _ _ _ (by omega)) (by k_asm) (by k_asm) (by k_asm) (by k_asm) (by k_asm) (by first | exact rfl | assumption) (by first | exact List.forall_mem_nil _ | k_allIn) (by ktr_room) (by ktr_units) ?_); k_whole; intro t9 h9 tk9 F9 N9 P9; (try dsimp only); (try k_fold); (try k_sweep))
  (first | unfold Cl0 KH PG | unfold ClT KH PG)
  k_fill
  intro w loose mean mg mb news dp un gd cn cs a ccd cl outer A₀ base h₀ L m s Q E B F X N hown T hk hd hu hret
  have N0 := news_sub N hown
  refine wpAny_call ?_
  k_dflt (refine' code_defG ?k1 ?k2 ?k3 ?k4 ?k5 ?kA ?kF ?kK ?k6 ?k7 ?k8 ?k9 ?kB ?_ ?c2 ?c3 ?c4 ?c5; (case kA => exact rfl); (case kF => exact rfl); (case kK => exact hk); (case k1 => exact B); (case k2 => exact F); (case k3 => exact X); (case k4 => exact N0); (case k5 => exact T); (case k6 => k_is); (case k7 => k_is); (case k8 => ktr_room); (case k9 => exact BindsTo.of_eq rfl); (case c5 => decide); (case kB => exact locs rfl); (case c2 => exact rfl); (case c3 => exact rfl); (case c4 => exact rfl); k_whole)
  intro g' L' h' FG' F' N' B' X' T' kG0
  have kG' := GKeep.mk kG0
  clear kG0
  (try dsimp only)
  (try k_lift B')
  (try k_fold)
  clear N0
  k_steps
  (first | exact hret _ _ _ (by k_asm) (news_back N hown kG' (by with_reducible assumption) (by first | k_asm | exact news_sub (by with_reducible assumption) (by k_allIn))) | exact hret (0 : Nat) _ _ (by k_asm) (news_back N hown kG' (by with_reducible assumption) (by first | k_asm | exact news_sub (by with_reducible assumption) (by k_allIn))))
end Mine
end

section
open PySem PySem.W PyProof.Rows
namespace Mine
set_option linter.unusedSimpArgs false
set_option linter.unusedVariables false
set_option maxRecDepth 100000
set_option maxHeartbeats 8000000
theorem c_led (x : PySem.Str) (tx : Tok) (tb : PySem.Str) (tt : Tok) (hx : x.length ≤ 1000) (ht : tb.length ≤ 1000) : Cl 1 213 [.str x tx, .str tb tt] [] (.str (S (ledL (C tb) (C x)))) ((S (ledL (C tb) (C x))).length ≤ x.length) := by
  refine ⟨?_, len_led x⟩
  k_with_none
  k_with "pyIter str" =>
    (rename Fr _ _ _ _ => lF'); (rename News _ _ _ _ => lN')
    (with_unfolding_all refine' loop_texts (own := []) [] [] (LdP (C tb)) (by rfl) lF' ?kn (fun _ h => nomatch h) LdP.start ?kturn ?kdone)
    (case kn => exact news_sub lN' (by k_allIn))
    (case' kturn => (intro us c fs pre post n t u h tk own hcodes hoff hus hP F5 N5; clear lF' lN'; (try simp only [List.nil_append] at N5); (try k_fold)))
    (case' kdone => (intro us c fs u h tk hus hP F5 N5; clear lF' lN'; (try dsimp only); (try k_fold)))
  k_with "my join" =>
    k_dflt (refine join_texts (by k_asm) (by k_mem) hus (by have := hP.2; rw [KStt.codes_length] at this; omega) ?_)
    intro t9 k9
  k_with "my item" =>
    k_dflt (refine KXi.item (x := tb) rfl (by omega) (by omega) (by omega) ?_)
    intro kxiE
  k_with "my append" =>
    k_dflt (refine' append_K (by k_asm) (by k_asm) (Upd.head (fun p hp => hoff p hp _ (List.Mem.head _))) ?_ (by rw [List.size_toArray, strs_len hus, PySem.sizeLine_eq]; have := hP.2; have h5 := congrArg List.length hcodes; rw [KStt.codes_length, List.length_append] at h5; omega))
    intro h8 F8 N8
    (try k_sweep)
  k_with "my end" =>
    (rename News _ _ _ _ => nE'); (try simp only [List.push_toArray] at nE')
    k_dflt (refine' kst_end ⟨_, _, _⟩ (by assumption) nE' (by k_allIn) (by intro p hp; k_ownIn) rfl (by first | exact strs_item (by assumption) (by assumption) | assumption) (fun _ h => nomatch h) same0 (by first
      | exact LdP.more hP ⟨by rw [← len_C]; omega, by rw [← item_code (by assumption)]; omega⟩
      | exact LdP.keep hP (by rintro ⟨a1, a2⟩; rw [← len_C] at a1; omega)
      | exact LdP.keep hP (by rintro ⟨a1, a2⟩; rw [← item_code (by assumption)] at a2; omega)))
  (first | unfold Cl0 KH PG | unfold ClT KH PG)
  k_fill
  intro w loose mean mg mb news dp un gd cn cs a ccd cl outer A₀ base h₀ L m s Q E B F X N hown T hk hd hu hret
  have N0 := news_sub N hown
  refine wpAny_call ?_
  k_dflt (refine' code_defG ?k1 ?k2 ?k3 ?k4 ?k5 ?kA ?kF ?kK ?k6 ?k7 ?k8 ?k9 ?kB ?_ ?c2 ?c3 ?c4 ?c5; (case kA => exact rfl); (case kF => exact rfl); (case kK => exact hk); (case k1 => exact B); (case k2 => exact F); (case k3 => exact X); (case k4 => exact N0); (case k5 => exact T); (case k6 => k_is); (case k7 => k_is); (case k8 => ktr_room); (case k9 => exact BindsTo.of_eq rfl); (case c5 => decide); (case kB => exact locs rfl); (case c2 => exact rfl); (case c3 => exact rfl); (case c4 => exact rfl); k_whole)
  intro g' L' h' FG' F' N' B' X' T' kG0
  have kG' := GKeep.mk kG0
  clear kG0
  (try dsimp only)
  (try k_lift B')
  (try k_fold)
  clear N0
  k_steps
  (exact ret_s hret (LdP.fin hP) (by k_asm) (news_back N hown kG' (by with_reducible assumption) (by first | k_asm | exact news_sub (by with_reducible assumption) (by k_allIn))))
end Mine
end

section
open PySem PySem.W PyProof.Rows
namespace Mine
set_option linter.unusedSimpArgs false
set_option linter.unusedVariables false
set_option maxRecDepth 100000
set_option maxHeartbeats 8000000
theorem fig_st {a b n : Int} (h1 : n ≤ 9999) (h : (a = 1 ∧ b = 10) ∨ (a = 2 ∧ b = 100) ∨ (a = 3 ∧ b = 1000) ∨ (a = 4 ∧ b = 10000 ∧ 1000 ≤ n)) (hb : b ≤ n) :
    (a + 1 = 1 ∧ b * 10 = 10) ∨ (a + 1 = 2 ∧ b * 10 = 100) ∨ (a + 1 = 3 ∧ b * 10 = 1000) ∨ (a + 1 = 4 ∧ b * 10 = 10000 ∧ 1000 ≤ n) := by
  rcases h with ⟨rfl, rfl⟩ | ⟨rfl, rfl⟩ | ⟨rfl, rfl⟩ | ⟨rfl, rfl, h⟩
  · exact Or.inr (Or.inl ⟨rfl, rfl⟩)
  · exact Or.inr (Or.inr (Or.inl ⟨rfl, rfl⟩))
  · exact Or.inr (Or.inr (Or.inr ⟨rfl, rfl, hb⟩))
  · exact absurd (Int.le_trans hb h1) (by decide)
theorem c_figures_of (n : Int) (t : Tok) (h0 : 100 ≤ n) (h1 : n ≤ 9999) : Cl 1 44 [.int n t] [] (.int (if n < 1000 then 3 else 4)) (3 ≤ (if n < 1000 then (3 : Int) else 4) ∧ (if n < 1000 then (3 : Int) else 4) ≤ 4) := by
  refine ⟨?_, by split <;> omega⟩
  k_with_none
  k_with "my while" => k_while (fun (_ : List Int) (many bound : Int) => (many = 1 ∧ bound = 10) ∨ (many = 2 ∧ bound = 100) ∨ (many = 3 ∧ bound = 1000) ∨ (many = 4 ∧ bound = 10000 ∧ 1000 ≤ n)) (fun _ many bound => (5 - many).toNat) "many" "bound"
  k_with "state" => first | exact Or.inl ⟨rfl, rfl⟩ | exact fig_st (by assumption) (by assumption) (by assumption) | omega
  (first | unfold Cl0 KH PG | unfold ClT KH PG)
  k_fill
  intro w loose mean mg mb news dp un gd cn cs a ccd cl outer A₀ base h₀ L m s Q E B F X N hown T hk hd hu hret
  have N0 := news_sub N hown
  refine wpAny_call ?_
  k_dflt (refine' code_defG ?k1 ?k2 ?k3 ?k4 ?k5 ?kA ?kF ?kK ?k6 ?k7 ?k8 ?k9 ?kB ?_ ?c2 ?c3 ?c4 ?c5; (case kA => exact rfl); (case kF => exact rfl); (case kK => exact hk); (case k1 => exact B); (case k2 => exact F); (case k3 => exact X); (case k4 => exact N0); (case k5 => exact T); (case k6 => k_is); (case k7 => k_is); (case k8 => ktr_room); (case k9 => exact BindsTo.of_eq rfl); (case c5 => decide); (case kB => exact locs rfl); (case c2 => exact rfl); (case c3 => exact rfl); (case c4 => exact rfl); k_whole)
  intro g' L' h' FG' F' N' B' X' T' kG0
  have kG' := GKeep.mk kG0
  clear kG0
  (try dsimp only)
  (try k_lift B')
  (try k_fold)
  clear N0
  k_steps
  (exact ret_i hret (by split <;> omega) (by k_asm) (news_back N hown kG' (by with_reducible assumption) (by first | k_asm | exact news_sub (by with_reducible assumption) (by k_allIn))))
theorem c_figures_text (c : Nat) (t : Tok) (h1 : c ≤ 9999) : Cl 1 80 [.int (c : Int) t] [] (.str (S (figs c))) ((S (figs c)).length ≤ 4) := by
  refine ⟨?_, by rw [len_S]; exact figs_len_le h1⟩
  have hl := figs_len_le h1
  k_with_none
  k_with "my while" => k_while (fun (_ : List Int) (n : Int) (found : PySem.Str) => found.length ≤ 4 ∧ FgP c n found) (fun _ n _ => n.toNat) "number" "found"
  k_with "state" => first | exact fg_start h1 | exact fg_turn h1 (by assumption) (by assumption)
  k_with "measure" => exact fg_less (by assumption)
  (first | unfold Cl0 KH PG | unfold ClT KH PG)
  k_fill
  intro w loose mean mg mb news dp un gd cn cs a ccd cl outer A₀ base h₀ L m s Q E B F X N hown T hk hd hu hret
  have N0 := news_sub N hown
  refine wpAny_call ?_
  k_dflt (refine' code_defG ?k1 ?k2 ?k3 ?k4 ?k5 ?kA ?kF ?kK ?k6 ?k7 ?k8 ?k9 ?kB ?_ ?c2 ?c3 ?c4 ?c5; (case kA => exact rfl); (case kF => exact rfl); (case kK => exact hk); (case k1 => exact B); (case k2 => exact F); (case k3 => exact X); (case k4 => exact N0); (case k5 => exact T); (case k6 => k_is); (case k7 => k_is); (case k8 => ktr_room); (case k9 => exact BindsTo.of_eq rfl); (case c5 => decide); (case kB => exact locs rfl); (case c2 => exact rfl); (case c3 => exact rfl); (case c4 => exact rfl); k_whole)
  intro g' L' h' FG' F' N' B' X' T' kG0
  have kG' := GKeep.mk kG0
  clear kG0
  (try dsimp only)
  (try k_lift B')
  (try k_fold)
  clear N0
  k_steps
  (exact ret_s hret (FgP.fin (by assumption) (by omega)) (by k_asm) (news_back N hown kG' (by with_reducible assumption) (by first | k_asm | exact news_sub (by with_reducible assumption) (by k_allIn))))
end Mine
end

section
open PySem PySem.W PyProof.Rows
namespace Mine
set_option linter.unusedSimpArgs false
set_option linter.unusedVariables false
set_option maxRecDepth 100000
set_option maxHeartbeats 8000000
theorem c_size_text (c : Nat) (t : Tok) (e : Int) (te td : Tok) (h0 : 100 ≤ c) (h1 : c ≤ 9999) (he0 : -3 ≤ e) (he1 : e ≤ 0) : Cl 2 94 [.int (c : Int) t, .int e te, .int 9 td] [] (.str (S (szL c e))) ((S (szL c e)).length ≤ 5) := by
  refine ⟨?_, by rw [len_S]; exact szL_len h1⟩
  have hl : (c < 1000 ∧ (S (figs c)).length = 3) ∨ (1000 ≤ c ∧ (S (figs c)).length = 4) := by
    rw [len_S, figs_len h0 h1]; split <;> omega
  k_with_none
  k_with "my call" => first
    | (k_dflt (refine' Cl.use (c_figures_text _ _ (by omega)) (by k_asm) (by k_asm) (by k_asm) (by k_asm) (by k_asm) (by first | exact rfl | assumption) (by first | exact List.forall_mem_nil _ | k_allIn) (by ktr_room) (by ktr_units) ?_); k_whole; intro t9 h9 tk9 F9 N9 P9; (try dsimp only); (try k_fold); (try k_sweep))
  (first | unfold Cl0 KH PG | unfold ClT KH PG)
  k_fill
  intro w loose mean mg mb news dp un gd cn cs a ccd cl outer A₀ base h₀ L m s Q E B F X N hown T hk hd hu hret
  have N0 := news_sub N hown
  refine wpAny_call ?_
  k_dflt (refine' code_defG ?k1 ?k2 ?k3 ?k4 ?k5 ?kA ?kF ?kK ?k6 ?k7 ?k8 ?k9 ?kB ?_ ?c2 ?c3 ?c4 ?c5; (case kA => exact rfl); (case kF => exact rfl); (case kK => exact hk); (case k1 => exact B); (case k2 => exact F); (case k3 => exact X); (case k4 => exact N0); (case k5 => exact T); (case k6 => k_is); (case k7 => k_is); (case k8 => ktr_room); (case k9 => exact BindsTo.of_eq rfl); (case c5 => decide); (case kB => exact locs rfl); (case c2 => exact rfl); (case c3 => exact rfl); (case c4 => exact rfl); k_whole)
  intro g' L' h' FG' F' N' B' X' T' kG0
  have kG' := GKeep.mk kG0
  clear kG0
  (try dsimp only)
  (try k_lift B')
  (try k_fold)
  clear N0
  k_steps
  · (exact ret_s hret (sz1 (by assumption) he1) (by k_asm) (news_back N hown kG' (by with_reducible assumption) (by first | k_asm | exact news_sub (by with_reducible assumption) (by k_allIn))))
  · (exact ret_s hret (sz2 (by assumption) (by assumption)) (by k_asm) (news_back N hown kG' (by with_reducible assumption) (by first | k_asm | exact news_sub (by with_reducible assumption) (by k_allIn))))
  · (exact ret_s hret (sz3 (by assumption) he0 (by omega) (by assumption)) (by k_asm) (news_back N hown kG' (by with_reducible assumption) (by first | k_asm | exact news_sub (by with_reducible assumption) (by k_allIn))))
theorem c_d_text (av : Addr) (c : Nat) (tc : Tok) (e : Int) (te td : Tok) (h0 : 100 ≤ c) (h1 : c ≤ 9999) (he0 : -3 ≤ e) (he1 : e ≤ 0) : Cl 3 101 [.ref av, .int 9 td] [(av, tup [.int (-(c : Int)) tc, .int e te])] (.str (S (45 :: szL c e))) ((S (45 :: szL c e)).length ≤ 6) := by
  refine ⟨?_, by rw [len_S, List.length_cons]; have := szL_len (e := e) h1; omega⟩
  k_with_none
  k_with "my call" =>
    rw [abs_c c]
    k_dflt (refine' Cl.use (c_size_text c _ e _ _ h0 h1 he0 he1) (by k_asm) (by k_asm) (by k_asm) (by k_asm) (by k_asm) (by first | exact rfl | assumption) (List.forall_mem_nil _) (by ktr_room) (by ktr_units) ?_)
    intro t9 h9 tk9 F9 N9 P9
    (try dsimp only)
    (try k_fold)
    (try k_sweep)
  (first | unfold Cl0 KH PG | unfold ClT KH PG)
  k_fill
  intro w loose mean mg mb news dp un gd cn cs a ccd cl outer A₀ base h₀ L m s Q E B F X N hown T hk hd hu hret
  have N0 := news_sub N hown
  refine wpAny_call ?_
  k_dflt (refine' code_defG ?k1 ?k2 ?k3 ?k4 ?k5 ?kA ?kF ?kK ?k6 ?k7 ?k8 ?k9 ?kB ?_ ?c2 ?c3 ?c4 ?c5; (case kA => exact rfl); (case kF => exact rfl); (case kK => exact hk); (case k1 => exact B); (case k2 => exact F); (case k3 => exact X); (case k4 => exact N0); (case k5 => exact T); (case k6 => k_is); (case k7 => k_is); (case k8 => ktr_room); (case k9 => exact BindsTo.of_eq rfl); (case c5 => decide); (case kB => exact locs rfl); (case c2 => exact rfl); (case c3 => exact rfl); (case c4 => exact rfl); k_whole)
  intro g' L' h' FG' F' N' B' X' T' kG0
  have kG' := GKeep.mk kG0
  clear kG0
  (try dsimp only)
  (try k_lift B')
  (try k_fold)
  clear N0
  k_steps
  · exfalso; omega
  · (exact ret_s hret (minus_eq _) (by k_asm) (news_back N hown kG' (by with_reducible assumption) (by first | k_asm | exact news_sub (by with_reducible assumption) (by k_allIn))))
theorem c_number_text (av : Addr) (c : Nat) (tc : Tok) (e : Int) (te td : Tok) (h0 : 100 ≤ c) (h1 : c ≤ 9999) (he0 : -3 ≤ e) (he1 : e ≤ 0) : Cl 4 157 [.ref av, .int 9 td] [(av, tup [.int (-(c : Int)) tc, .int e te])] (.str (S (45 :: szL c e))) ((S (45 :: szL c e)).length ≤ 6) := by
  refine ⟨?_, by rw [len_S, List.length_cons]; have := szL_len (e := e) h1; omega⟩
  k_with_none
  k_with "my call" => first
    | (k_dflt (refine' Cl.use (c_d_text av c tc e te _ h0 h1 he0 he1) (by k_asm) (by k_asm) (by k_asm) (by k_asm) (by k_asm) (by first | exact rfl | assumption) (by first | exact List.forall_mem_nil _ | k_allIn) (by ktr_room) (by ktr_units) ?_); k_whole; intro t9 h9 tk9 F9 N9 P9; (try dsimp only); (try k_fold); (try k_sweep))
  (first | unfold Cl0 KH PG | unfold ClT KH PG)
  k_fill
  intro w loose mean mg mb news dp un gd cn cs a ccd cl outer A₀ base h₀ L m s Q E B F X N hown T hk hd hu hret
  have N0 := news_sub N hown
  refine wpAny_call ?_
  k_dflt (refine' code_defG ?k1 ?k2 ?k3 ?k4 ?k5 ?kA ?kF ?kK ?k6 ?k7 ?k8 ?k9 ?kB ?_ ?c2 ?c3 ?c4 ?c5; (case kA => exact rfl); (case kF => exact rfl); (case kK => exact hk); (case k1 => exact B); (case k2 => exact F); (case k3 => exact X); (case k4 => exact N0); (case k5 => exact T); (case k6 => k_is); (case k7 => k_is); (case k8 => ktr_room); (case k9 => exact BindsTo.of_eq rfl); (case c5 => decide); (case kB => exact locs rfl); (case c2 => exact rfl); (case c3 => exact rfl); (case c4 => exact rfl); k_whole)
  intro g' L' h' FG' F' N' B' X' T' kG0
  have kG' := GKeep.mk kG0
  clear kG0
  (try dsimp only)
  (try k_lift B')
  (try k_fold)
  clear N0
  k_steps
  (first | exact hret _ _ _ (by k_asm) (news_back N hown kG' (by with_reducible assumption) (by first | k_asm | exact news_sub (by with_reducible assumption) (by k_allIn))) | exact hret (0 : Nat) _ _ (by k_asm) (news_back N hown kG' (by with_reducible assumption) (by first | k_asm | exact news_sub (by with_reducible assumption) (by k_allIn))))
theorem c_text_str (wa wd : Addr) (es : List DictEntry) (n : Nat) (td : Tok) (hes : getL (PySem.Str.ofString "digits") es = some (some (.int 9 td))) (l : Addr) (lc : Nat) (av : Addr) (c : Nat) (tc : Tok) (e : Int) (te : Tok) (h0 : 100 ≤ c) (h1 : c ≤ 9999) (he0 : -3 ≤ e) (he1 : e ≤ 0) :
    Cl 5 253 [.ref wa, .ref l] [(l, listOf #[.ref av] lc), (av, tup [.int (-(c : Int)) tc, .int e te]), (wa, instObj 302 wd), (wd, dictOf es n)] (.str (S (45 :: szL c e))) ((S (45 :: szL c e)).length ≤ 6) := by
  refine ⟨?_, by rw [len_S, List.length_cons]; have := szL_len (e := e) h1; omega⟩
  k_with_none
  k_with "my call" => first
    | (k_dflt (refine' Cl.use (c_number_text av c tc e te _ h0 h1 he0 he1) (by k_asm) (by k_asm) (by k_asm) (by k_asm) (by k_asm) (by first | exact rfl | assumption) (by first | exact List.forall_mem_nil _ | k_allIn) (by ktr_room) (by ktr_units) ?_); k_whole; intro t9 h9 tk9 F9 N9 P9; (try dsimp only); (try k_fold); (try k_sweep))
  k_with "my attr" =>
    k_dflt (refine' get_own (by k_asm) (by k_asm) (by k_inst) (by k_is) (by k_is) (by k_is) (by k_is) hes (by k_handed) ?_)
    k_whole
  (first | unfold Cl0 KH PG | unfold ClT KH PG)
  k_fill
  intro w loose mean mg mb news dp un gd cn cs a ccd cl outer A₀ base h₀ L m s Q E B F X N hown T hk hd hu hret
  have N0 := news_sub N hown
  refine wpAny_call ?_
  k_dflt (refine' code_defG ?k1 ?k2 ?k3 ?k4 ?k5 ?kA ?kF ?kK ?k6 ?k7 ?k8 ?k9 ?kB ?_ ?c2 ?c3 ?c4 ?c5; (case kA => exact rfl); (case kF => exact rfl); (case kK => exact hk); (case k1 => exact B); (case k2 => exact F); (case k3 => exact X); (case k4 => exact N0); (case k5 => exact T); (case k6 => k_is); (case k7 => k_is); (case k8 => ktr_room); (case k9 => exact BindsTo.of_eq rfl); (case c5 => decide); (case kB => exact locs rfl); (case c2 => exact rfl); (case c3 => exact rfl); (case c4 => exact rfl); k_whole)
  intro g' L' h' FG' F' N' B' X' T' kG0
  have kG' := GKeep.mk kG0
  clear kG0
  (try dsimp only)
  (try k_lift B')
  (try k_fold)
  clear N0
  k_steps
  (first | exact hret _ _ _ (by k_asm) (news_back N hown kG' (by with_reducible assumption) (by first | k_asm | exact news_sub (by with_reducible assumption) (by k_allIn))) | exact hret (0 : Nat) _ _ (by k_asm) (news_back N hown kG' (by with_reducible assumption) (by first | k_asm | exact news_sub (by with_reducible assumption) (by k_allIn))))
end Mine
end

section
open PySem PySem.W PyProof.Rows
namespace Mine
set_option linter.unusedSimpArgs false
set_option linter.unusedVariables false
set_option maxRecDepth 100000
set_option maxHeartbeats 8000000
theorem c_run (x : PySem.Str) (tx : Tok) (k0 : Int) (ta : Tok) (nB : Int) (A5 D5 R5 : List Nat) (hA : k0 = (A5.length : Int)) (hB : nB = (D5.length : Int)) (hC : C x = A5 ++ (D5 ++ R5)) (hD : ∀ d ∈ D5, 48 ≤ d ∧ d ≤ 57) (hR : ∀ r, R5.head? = some r → ¬ (48 ≤ r ∧ r ≤ 57)) (hl : D5.length ≤ 4) (hx : x.length ≤ 1000) :
    ClT 1 115 [.str x tx, .int k0 ta] [] (fun us => ∃ t1 t2 t3, us = [.int (valD D5 : Nat) t1, .int nB t2, .int (k0 + nB) t3]) := by
  subst hA hB
  have hlx : x.length = A5.length + (D5.length + R5.length) := by rw [len_C, hC, List.length_append, List.length_append]
  k_with_none
  k_with "my while" => k_while (fun (_ : List Int) (found k : Int) => 0 ≤ found ∧ found ≤ 9999 ∧ (A5.length : Int) ≤ k ∧ k ≤ (A5.length : Int) + D5.length ∧ RunP A5 D5 found k) (fun _ found k => ((x.length : Int) - k).toNat) "found" "at"
  k_with "state" => first
    | exact run_all RunP.start
    | exact run_all (RunP.turn (by assumption) hC hD hR hl (by assumption) (by assumption) (by assumption))
  (first | unfold Cl0 KH PG | unfold ClT KH PG)
  k_fill
  intro w loose mean mg mb news dp un gd cn cs a ccd cl outer A₀ base h₀ L m s Q E B F X N hown T hk hd hu hret
  have N0 := news_sub N hown
  refine wpAny_call ?_
  k_dflt (refine' code_defG ?k1 ?k2 ?k3 ?k4 ?k5 ?kA ?kF ?kK ?k6 ?k7 ?k8 ?k9 ?kB ?_ ?c2 ?c3 ?c4 ?c5; (case kA => exact rfl); (case kF => exact rfl); (case kK => exact hk); (case k1 => exact B); (case k2 => exact F); (case k3 => exact X); (case k4 => exact N0); (case k5 => exact T); (case k6 => k_is); (case k7 => k_is); (case k8 => ktr_room); (case k9 => exact BindsTo.of_eq rfl); (case c5 => decide); (case kB => exact locs rfl); (case c2 => exact rfl); (case c3 => exact rfl); (case c4 => exact rfl); k_whole)
  intro g' L' h' FG' F' N' B' X' T' kG0
  have kG' := GKeep.mk kG0
  clear kG0
  (try dsimp only)
  (try k_lift B')
  (try k_fold)
  clear N0
  k_steps
  · (exact hret _ _ _ _ (RunP.out (by assumption) (RunP.stop (by assumption) hC hD (.inr ⟨by assumption, .inl (by assumption)⟩)) _ _ _) (by k_asm) (news_backT N hown kG' (by with_reducible assumption) (by with_reducible assumption) (by k_memK) (by first | exact List.forall_mem_nil _ | k_allIn)))
  · (exact hret _ _ _ _ (RunP.out (by assumption) (RunP.stop (by assumption) hC hD (.inr ⟨by assumption, .inr (by assumption)⟩)) _ _ _) (by k_asm) (news_backT N hown kG' (by with_reducible assumption) (by with_reducible assumption) (by k_memK) (by first | exact List.forall_mem_nil _ | k_allIn)))
  · (exact hret _ _ _ _ (RunP.out (by assumption) (RunP.stop (by assumption) hC hD (.inl (by assumption))) _ _ _) (by k_asm) (news_backT N hown kG' (by with_reducible assumption) (by with_reducible assumption) (by k_memK) (by first | exact List.forall_mem_nil _ | k_allIn)))
end Mine
end

section
open PySem PySem.W PyProof.Rows
namespace Mine
set_option linter.unusedSimpArgs false
set_option linter.unusedVariables false
set_option maxRecDepth 100000
set_option maxHeartbeats 8000000
theorem c_exponent_at (x : PySem.Str) (tx : Tok) (k0 : Int) (ta : Tok) (hk0 : k0 = (x.length : Int)) (hx : x.length ≤ 1000) : ClT 1 122 [.str x tx, .int k0 ta] [] (fun us => ∃ t1 t2, us = [.int 0 t1, .int k0 t2]) := by
  subst hk0
  k_with_none
  (first | unfold Cl0 KH PG | unfold ClT KH PG)
  k_fill
  intro w loose mean mg mb news dp un gd cn cs a ccd cl outer A₀ base h₀ L m s Q E B F X N hown T hk hd hu hret
  have N0 := news_sub N hown
  refine wpAny_call ?_
  k_dflt (refine' code_defG ?k1 ?k2 ?k3 ?k4 ?k5 ?kA ?kF ?kK ?k6 ?k7 ?k8 ?k9 ?kB ?_ ?c2 ?c3 ?c4 ?c5; (case kA => exact rfl); (case kF => exact rfl); (case kK => exact hk); (case k1 => exact B); (case k2 => exact F); (case k3 => exact X); (case k4 => exact N0); (case k5 => exact T); (case k6 => k_is); (case k7 => k_is); (case k8 => ktr_room); (case k9 => exact BindsTo.of_eq rfl); (case c5 => decide); (case kB => exact locs rfl); (case c2 => exact rfl); (case c3 => exact rfl); (case c4 => exact rfl); k_whole)
  intro g' L' h' FG' F' N' B' X' T' kG0
  have kG' := GKeep.mk kG0
  clear kG0
  (try dsimp only)
  (try k_lift B')
  (try k_fold)
  clear N0
  k_steps
  (exact hret _ _ _ _ ⟨_, _, rfl⟩ (by k_asm) (news_backT N hown kG' (by with_reducible assumption) (by with_reducible assumption) (by k_memK) (by first | exact List.forall_mem_nil _ | k_allIn)))
theorem c_made (c : Nat) (tc : Tok) (e : Int) (te td : Tok) (h0 : 100 ≤ c) (h1 : c ≤ 9999) (hm9 : c % 10 = 9) (he0 : -3 ≤ e) (he1 : e ≤ 0) : ClT 2 58 [.int (-(c : Int)) tc, .int e te, .int 9 td] [] (fun us => ∃ t1 t2, us = [.int (-(c : Int)) t1, .int e t2]) := by
  k_with_none
  k_with "my call" => first
    | (k_dflt (refine' Cl.use (c_figures_of _ _ (by first | omega | (rw [abs_c]; omega)) (by first | omega | (rw [abs_c]; omega))) (by k_asm) (by k_asm) (by k_asm) (by k_asm) (by k_asm) (by first | exact rfl | assumption) (by first | exact List.forall_mem_nil _ | k_allIn) (by ktr_room) (by ktr_units) ?_); k_whole; intro t9 h9 tk9 F9 N9 P9; (try dsimp only); (try k_fold); (try k_sweep))
  k_with "my while" => k_while (fun (_ : List Int) (sz ex : Int) => sz.fmod 10 = 9 ∧ sz = (c : Int) ∧ ex = e) (fun _ _ _ => 0) "size" "exponent"
  k_with "state" => first | exact made_start hm9 | (exfalso; omega)
  k_with "measure" => (exfalso; omega)
  (first | unfold Cl0 KH PG | unfold ClT KH PG)
  k_fill
  intro w loose mean mg mb news dp un gd cn cs a ccd cl outer A₀ base h₀ L m s Q E B F X N hown T hk hd hu hret
  have N0 := news_sub N hown
  refine wpAny_call ?_
  k_dflt (refine' code_defG ?k1 ?k2 ?k3 ?k4 ?k5 ?kA ?kF ?kK ?k6 ?k7 ?k8 ?k9 ?kB ?_ ?c2 ?c3 ?c4 ?c5; (case kA => exact rfl); (case kF => exact rfl); (case kK => exact hk); (case k1 => exact B); (case k2 => exact F); (case k3 => exact X); (case k4 => exact N0); (case k5 => exact T); (case k6 => k_is); (case k7 => k_is); (case k8 => ktr_room); (case k9 => exact BindsTo.of_eq rfl); (case c5 => decide); (case kB => exact locs rfl); (case c2 => exact rfl); (case c3 => exact rfl); (case c4 => exact rfl); k_whole)
  intro g' L' h' FG' F' N' B' X' T' kG0
  have kG' := GKeep.mk kG0
  clear kG0
  (try dsimp only)
  (try k_lift B')
  (try k_fold)
  clear N0
  k_steps
  · exfalso; rw [abs_c] at *; omega
  · (exact hret _ _ _ _ (made_out (by assumption) (by assumption) _ _) (by k_asm) (news_backT N hown kG' (by with_reducible assumption) (by with_reducible assumption) (by k_memK) (by first | exact List.forall_mem_nil _ | k_allIn)))
theorem c_told (c : Nat) (cf : Int) (hcf : cf = -(c : Int)) (tc : Tok) (ef : Int) (e : Int) (hef : ef = e) (te td : Tok) (h0 : 100 ≤ c) (h1 : c ≤ 9999) (hm9 : c % 10 = 9) (he0 : -3 ≤ e) (he1 : e ≤ 0) : ClT 3 136 [.int cf tc, .int ef te, .int 9 td] [] (fun us => ∃ t1 t2, us = [.int (-(c : Int)) t1, .int e t2]) := by
  subst hcf hef
  k_with_none
  k_with "my call" => first
    | (k_dflt (refine' Cl.use (c_figures_of _ _ (by first | omega | (rw [abs_c]; omega)) (by first | omega | (rw [abs_c]; omega))) (by k_asm) (by k_asm) (by k_asm) (by k_asm) (by k_asm) (by first | exact rfl | assumption) (by first | exact List.forall_mem_nil _ | k_allIn) (by ktr_room) (by ktr_units) ?_); k_whole; intro t9 h9 tk9 F9 N9 P9; (try dsimp only); (try k_fold); (try k_sweep))
    | (k_dflt (refine' ClT.use (c_made c _ _ _ _ h0 h1 hm9 he0 he1) (by k_asm) (by k_asm) (by k_asm) (by k_asm) (by k_asm) (by first | exact rfl | assumption) (by first | exact List.forall_mem_nil _ | k_allIn) (by ktr_room) (by ktr_units) ?_); k_whole; intro b9 us9 h9 tk9 T9 F9 N9; (first | (obtain ⟨u91, u92, u93, e9⟩ := T9; subst e9) | (obtain ⟨u91, u92, e9⟩ := T9; subst e9)); (try dsimp only); (try k_fold); (try k_sweep))
  (first | unfold Cl0 KH PG | unfold ClT KH PG)
  k_fill
  intro w loose mean mg mb news dp un gd cn cs a ccd cl outer A₀ base h₀ L m s Q E B F X N hown T hk hd hu hret
  have N0 := news_sub N hown
  refine wpAny_call ?_
  k_dflt (refine' code_defG ?k1 ?k2 ?k3 ?k4 ?k5 ?kA ?kF ?kK ?k6 ?k7 ?k8 ?k9 ?kB ?_ ?c2 ?c3 ?c4 ?c5; (case kA => exact rfl); (case kF => exact rfl); (case kK => exact hk); (case k1 => exact B); (case k2 => exact F); (case k3 => exact X); (case k4 => exact N0); (case k5 => exact T); (case k6 => k_is); (case k7 => k_is); (case k8 => ktr_room); (case k9 => exact BindsTo.of_eq rfl); (case c5 => decide); (case kB => exact locs rfl); (case c2 => exact rfl); (case c3 => exact rfl); (case c4 => exact rfl); k_whole)
  intro g' L' h' FG' F' N' B' X' T' kG0
  have kG' := GKeep.mk kG0
  clear kG0
  (try dsimp only)
  (try k_lift B')
  (try k_fold)
  clear N0
  k_steps
  · exfalso; omega
  · (exact hret _ _ _ _ ⟨_, _, rfl⟩ (by k_asm) (news_backT N hown kG' (by with_reducible assumption) (by with_reducible assumption) (by k_memK) (by first | exact List.forall_mem_nil _ | k_allIn)))
end Mine
end

section
open PySem PySem.W PyProof.Rows
namespace Mine
set_option linter.unusedSimpArgs false
set_option linter.unusedVariables false
set_option maxRecDepth 100000
set_option maxHeartbeats 8000000
theorem c_text_val0 (wa wd : Addr) (es : List DictEntry) (n : Nat) (td : Tok) (hes : getL (PySem.Str.ofString "digits") es = some (some (.int 9 td))) (l : Addr) (lc : Nat) (x : PySem.Str) (tx : Tok) (c : Nat) (e : Int) (hx : C x = 45 :: szL c e) (h0 : 100 ≤ c) (h1 : c ≤ 9999) (hm9 : c % 10 = 9) (he : e = 0) :
    ClT 5 220 [.ref wa, .ref l] [(l, listOf #[.str x tx] lc), (wa, instObj 302 wd), (wd, dictOf es n)] (fun us => ∃ t1 t2, us = [.int (-(c : Int)) t1, .int e t2]) := by
  have hl : x.length ≤ 6 := by rw [len_C, hx, List.length_cons]; have := szL_len (e := e) h1; omega
  have hx0 : C x = [45] ++ (figs c ++ []) := by rw [hx, he, List.append_nil]; rfl
  obtain ⟨nA, hnA⟩ : ∃ nA : Int, nA = ((figs c).length : Int) := ⟨_, rfl⟩
  have hl3 : 3 ≤ nA ∧ nA ≤ 4 := by rw [hnA, figs_len h0 h1]; split <;> omega
  have hlx : (x.length : Int) = 1 + nA := by rw [len_C, hx0, List.append_nil, List.length_append, hnA]; simp
  have f1 := v_blank hx
  have f2 := v_minus hx
  have f3 := v_sign hx
  have f4 := v_end (x := x) (k := 0 + 1 + nA) (by omega)
  k_with_none
  k_with "my call" => first
    | (k_dflt (refine' Cl.use (c_text_of _ _) (by k_asm) (by k_asm) (by k_asm) (by k_asm) (by k_asm) (by first | exact rfl | assumption) (by first | exact List.forall_mem_nil _ | k_allIn) (by ktr_room) (by ktr_units) ?_); k_whole; intro t9 h9 tk9 F9 N9 P9; (try dsimp only); (try k_fold); (try k_sweep))
    | (k_dflt (refine' ClT.use (c_run x _ (0 + 1) _ nA [45] (figs c) [] rfl hnA hx0 (figs_dig c) (fun r hr => nomatch hr) (by rw [← Int.ofNat_le, ← hnA]; omega) (by omega)) (by k_asm) (by k_asm) (by k_asm) (by k_asm) (by k_asm) (by first | exact rfl | assumption) (by first | exact List.forall_mem_nil _ | k_allIn) (by ktr_room) (by ktr_units) ?_); k_whole; intro b9 us9 h9 tk9 T9 F9 N9; (first | (obtain ⟨u91, u92, u93, e9⟩ := T9; subst e9) | (obtain ⟨u91, u92, e9⟩ := T9; subst e9)); (try dsimp only); (try k_fold); (try k_sweep))
    | (k_dflt (refine' ClT.use (c_exponent_at x _ (0 + 1 + nA) _ (by omega) (by omega)) (by k_asm) (by k_asm) (by k_asm) (by k_asm) (by k_asm) (by first | exact rfl | assumption) (by first | exact List.forall_mem_nil _ | k_allIn) (by ktr_room) (by ktr_units) ?_); k_whole; intro b9 us9 h9 tk9 T9 F9 N9; (first | (obtain ⟨u91, u92, u93, e9⟩ := T9; subst e9) | (obtain ⟨u91, u92, e9⟩ := T9; subst e9)); (try dsimp only); (try k_fold); (try k_sweep))
    | (k_dflt (refine' ClT.use (c_told c _ (by rw [valD_figs]; omega) _ _ e (by omega) _ _ h0 h1 hm9 (by omega) (by omega)) (by k_asm) (by k_asm) (by k_asm) (by k_asm) (by k_asm) (by first | exact rfl | assumption) (by first | exact List.forall_mem_nil _ | k_allIn) (by ktr_room) (by ktr_units) ?_); k_whole; intro b9 us9 h9 tk9 T9 F9 N9; (first | (obtain ⟨u91, u92, u93, e9⟩ := T9; subst e9) | (obtain ⟨u91, u92, e9⟩ := T9; subst e9)); (try dsimp only); (try k_fold); (try k_sweep))
  k_with "my attr" =>
    k_dflt (refine' get_own (by k_asm) (by k_asm) (by k_inst) (by k_is) (by k_is) (by k_is) (by k_is) hes (by k_handed) ?_)
    k_whole
  k_with "my while" =>
    (rename Fr _ _ _ _ => lF'); (rename News _ _ _ _ => lN')
    (with_unfolding_all refine' ksw_while (σ := Unit) (fun _ => _) (fun _ => []) (fun _ => True) [] (fun _ => True) (fun _ => 0) () lF' lN' trivial (fun _ h => nomatch h) trivial ?_)
    intro c6 u6 hh6 tk6 hf6 hP6 F6 N6
    clear lF' lN'
    (try k_fold)
  (first | unfold Cl0 KH PG | unfold ClT KH PG)
  k_fill
  intro w loose mean mg mb news dp un gd cn cs a ccd cl outer A₀ base h₀ L m s Q E B F X N hown T hk hd hu hret
  have N0 := news_sub N hown
  refine wpAny_call ?_
  k_dflt (refine' code_defG ?k1 ?k2 ?k3 ?k4 ?k5 ?kA ?kF ?kK ?k6 ?k7 ?k8 ?k9 ?kB ?_ ?c2 ?c3 ?c4 ?c5; (case kA => exact rfl); (case kF => exact rfl); (case kK => exact hk); (case k1 => exact B); (case k2 => exact F); (case k3 => exact X); (case k4 => exact N0); (case k5 => exact T); (case k6 => k_is); (case k7 => k_is); (case k8 => ktr_room); (case k9 => exact BindsTo.of_eq rfl); (case c5 => decide); (case kB => exact locs rfl); (case c2 => exact rfl); (case c3 => exact rfl); (case c4 => exact rfl); k_whole)
  intro g' L' h' FG' F' N' B' X' T' kG0
  have kG' := GKeep.mk kG0
  clear kG0
  (try dsimp only)
  (try k_lift B')
  (try k_fold)
  clear N0
  k_steps
  · exfalso; omega
  · (exact hret _ _ _ _ ⟨_, _, rfl⟩ (by k_asm) (news_backT N hown kG' (by with_reducible assumption) (by with_reducible assumption) (by k_memK) (by first | exact List.forall_mem_nil _ | k_allIn)))
theorem c_text_valK (wa wd : Addr) (es : List DictEntry) (n : Nat) (td : Tok) (hes : getL (PySem.Str.ofString "digits") es = some (some (.int 9 td))) (l : Addr) (lc : Nat) (x : PySem.Str) (tx : Tok) (c : Nat) (e : Int) (hx : C x = 45 :: szL c e) (h0 : 100 ≤ c) (h1 : c ≤ 9999) (hm9 : c % 10 = 9) (kk : Int) (hk1 : 1 ≤ kk) (hk3 : kk ≤ 3) (he : e = -kk) :
    ClT 5 220 [.ref wa, .ref l] [(l, listOf #[.str x tx] lc), (wa, instObj 302 wd), (wd, dictOf es n)] (fun us => ∃ t1 t2, us = [.int (-(c : Int)) t1, .int e t2]) := by
  have hl : x.length ≤ 6 := by rw [len_C, hx, List.length_cons]; have := szL_len (e := e) h1; omega
  obtain ⟨D1, hD1⟩ : ∃ D1, D1 = (figs c).take ((figs c).length - kk.toNat) := ⟨_, rfl⟩
  obtain ⟨D2, hD2⟩ : ∃ D2, D2 = (figs c).drop ((figs c).length - kk.toNat) := ⟨_, rfl⟩
  have hx1 : C x = 45 :: (D1 ++ 46 :: D2) := by rw [hx, hD1, hD2, he]; unfold szL; rw [if_neg (by omega), Int.neg_neg]
  have hx0 : C x = [45] ++ (D1 ++ 46 :: D2) := hx1
  have hx2 : C x = (45 :: D1 ++ [46]) ++ (D2 ++ []) := by rw [hx1]; simp
  have hx3 : C x = (45 :: D1) ++ 46 :: D2 := hx1
  have hdg := figs_dig c
  have hd1 : ∀ d ∈ D1, 48 ≤ d ∧ d ≤ 57 := fun d h => hdg d (List.mem_of_mem_take (hD1 ▸ h))
  have hd2 : ∀ d ∈ D2, 48 ≤ d ∧ d ≤ 57 := fun d h => hdg d (List.mem_of_mem_drop (hD2 ▸ h))
  have hfl : 3 ≤ (figs c).length ∧ (figs c).length ≤ 4 := by rw [figs_len h0 h1]; split <;> omega
  have hl2 : (D2.length : Int) = kk := by rw [hD2, List.length_drop]; omega
  have hl4 : D2.length = kk.toNat := by omega
  have hsum : (valD D1 : Int) * 10 ^ kk.toNat + (valD D2 : Int) = (c : Int) := by have h := figs_split c kk.toNat; rw [← hD1, ← hD2, hl4] at h; rw [← h]; push_cast; rfl
  have hp0 : (1 : Int) ≤ 10 ^ kk.toNat ∧ (10 : Int) ^ kk.toNat ≤ 1000 := by
    have h : kk = 1 ∨ kk = 2 ∨ kk = 3 := by omega
    rcases h with h | h | h <;> subst h <;> decide
  have hv0 : valD D1 ≤ valD D1 * 10 ^ kk.toNat := Nat.le_mul_of_pos_right _ (Nat.pow_pos (by decide))
  have hv2 : valD D1 * 10 ^ kk.toNat + valD D2 = c := by have h := figs_split c kk.toNat; rw [← hD1, ← hD2, hl4] at h; exact h
  obtain ⟨nA, hnA⟩ : ∃ nA : Int, nA = (D1.length : Int) := ⟨_, rfl⟩
  have hl3 : 0 ≤ nA ∧ nA ≤ 3 := by rw [hnA, hD1, List.length_take]; omega
  have hlx : (x.length : Int) = 1 + nA + 1 + kk := by rw [len_C, hx2, List.append_nil, List.length_append, List.length_append, hnA]; simp; omega
  have hv1 : (0 : Int) ≤ (valD D1 : Int) ∧ (valD D1 : Int) ≤ 9999 := by omega
  have hv3 : (0 : Int) ≤ (valD D1 : Int) * 10 ^ kk.toNat ∧ (valD D1 : Int) * 10 ^ kk.toNat ≤ 9999 := by omega
  have f1 := v_blank hx
  have f2 := v_minus hx
  have f3 := v_sign hx
  have f4 := v_dot (k := 0 + 1 + nA) hx3 (by rw [List.length_cons]; omega)
  k_with_none
  k_with "my call" => first
    | (k_dflt (refine' Cl.use (c_text_of _ _) (by k_asm) (by k_asm) (by k_asm) (by k_asm) (by k_asm) (by first | exact rfl | assumption) (by first | exact List.forall_mem_nil _ | k_allIn) (by ktr_room) (by ktr_units) ?_); k_whole; intro t9 h9 tk9 F9 N9 P9; (try dsimp only); (try k_fold); (try k_sweep))
    | (k_dflt (refine' ClT.use (c_run x _ (0 + 1) _ nA [45] D1 (46 :: D2) rfl hnA hx0 hd1 (fun r hr => by simp at hr; omega) (by rw [← Int.ofNat_le, ← hnA]; omega) (by omega)) (by k_asm) (by k_asm) (by k_asm) (by k_asm) (by k_asm) (by first | exact rfl | assumption) (by first | exact List.forall_mem_nil _ | k_allIn) (by ktr_room) (by ktr_units) ?_); k_whole; intro b9 us9 h9 tk9 T9 F9 N9; (first | (obtain ⟨u91, u92, u93, e9⟩ := T9; subst e9) | (obtain ⟨u91, u92, e9⟩ := T9; subst e9)); (try dsimp only); (try k_fold); (try k_sweep))
    | (k_dflt (refine' ClT.use (c_run x _ (0 + 1 + nA + 1) _ kk (45 :: D1 ++ [46]) D2 [] (by simp; omega) (by rw [hl2]) hx2 hd2 (fun r hr => nomatch hr) (by omega) (by omega)) (by k_asm) (by k_asm) (by k_asm) (by k_asm) (by k_asm) (by first | exact rfl | assumption) (by first | exact List.forall_mem_nil _ | k_allIn) (by ktr_room) (by ktr_units) ?_); k_whole; intro b9 us9 h9 tk9 T9 F9 N9; (first | (obtain ⟨u91, u92, u93, e9⟩ := T9; subst e9) | (obtain ⟨u91, u92, e9⟩ := T9; subst e9)); (try dsimp only); (try k_fold); (try k_sweep))
    | (k_dflt (refine' ClT.use (c_exponent_at x _ (0 + 1 + nA + 1 + kk) _ (by omega) (by omega)) (by k_asm) (by k_asm) (by k_asm) (by k_asm) (by k_asm) (by first | exact rfl | assumption) (by first | exact List.forall_mem_nil _ | k_allIn) (by ktr_room) (by ktr_units) ?_); k_whole; intro b9 us9 h9 tk9 T9 F9 N9; (first | (obtain ⟨u91, u92, u93, e9⟩ := T9; subst e9) | (obtain ⟨u91, u92, e9⟩ := T9; subst e9)); (try dsimp only); (try k_fold); (try k_sweep))
    | (k_dflt (refine' ClT.use (c_told c _ (by show 0 - ((valD D1 : Int) * 10 ^ kk.toNat + (valD D2 : Int)) = -(c : Int); omega) _ _ e (by omega) _ _ h0 h1 hm9 (by omega) (by omega)) (by k_asm) (by k_asm) (by k_asm) (by k_asm) (by k_asm) (by first | exact rfl | assumption) (by first | exact List.forall_mem_nil _ | k_allIn) (by ktr_room) (by ktr_units) ?_); k_whole; intro b9 us9 h9 tk9 T9 F9 N9; (first | (obtain ⟨u91, u92, u93, e9⟩ := T9; subst e9) | (obtain ⟨u91, u92, e9⟩ := T9; subst e9)); (try dsimp only); (try k_fold); (try k_sweep))
  k_with "my attr" =>
    k_dflt (refine' get_own (by k_asm) (by k_asm) (by k_inst) (by k_is) (by k_is) (by k_is) (by k_is) hes (by k_handed) ?_)
    k_whole
  k_with "my while" =>
    (rename Fr _ _ _ _ => lF'); (rename News _ _ _ _ => lN')
    (with_unfolding_all refine' ksw_while (σ := Unit) (fun _ => _) (fun _ => []) (fun _ => True) [] (fun _ => True) (fun _ => 0) () lF' lN' trivial (fun _ h => nomatch h) trivial ?_)
    intro c6 u6 hh6 tk6 hf6 hP6 F6 N6
    clear lF' lN'
    (try k_fold)
  (first | unfold Cl0 KH PG | unfold ClT KH PG)
  k_fill
  intro w loose mean mg mb news dp un gd cn cs a ccd cl outer A₀ base h₀ L m s Q E B F X N hown T hk hd hu hret
  have N0 := news_sub N hown
  refine wpAny_call ?_
  k_dflt (refine' code_defG ?k1 ?k2 ?k3 ?k4 ?k5 ?kA ?kF ?kK ?k6 ?k7 ?k8 ?k9 ?kB ?_ ?c2 ?c3 ?c4 ?c5; (case kA => exact rfl); (case kF => exact rfl); (case kK => exact hk); (case k1 => exact B); (case k2 => exact F); (case k3 => exact X); (case k4 => exact N0); (case k5 => exact T); (case k6 => k_is); (case k7 => k_is); (case k8 => ktr_room); (case k9 => exact BindsTo.of_eq rfl); (case c5 => decide); (case kB => exact locs rfl); (case c2 => exact rfl); (case c3 => exact rfl); (case c4 => exact rfl); k_whole)
  intro g' L' h' FG' F' N' B' X' T' kG0
  have kG' := GKeep.mk kG0
  clear kG0
  (try dsimp only)
  (try k_lift B')
  (try k_fold)
  clear N0
  k_steps
  · exfalso; omega
  · (exact hret _ _ _ _ ⟨_, _, rfl⟩ (by k_asm) (news_backT N hown kG' (by with_reducible assumption) (by with_reducible assumption) (by k_memK) (by first | exact List.forall_mem_nil _ | k_allIn)))
end Mine
end

section
open PySem PySem.W PyProof.Rows
namespace Mine
/-- the jar: its cells (a list at `cl`), its more, its count -/
def JarO (w : World) (cl : Addr) (mr k : Int) (o : Obj) : Prop :=
  ∃ t1 t2, o.IsDictOf (PySem.strKind PG w) [(PySem.Str.ofString "cells", .ref cl), (PySem.Str.ofString "count", .int k t1), (PySem.Str.ofString "more", .int mr t2)]
/-- The call draws from the jar at `jr` and hands back a value and a count that `P` tells. -/
def ClJ (k : Nat) (f : Addr) (vs : List Value) (jr cl : Addr) (lo : Obj) (mr k0 : Int) (P : Value → Int → Prop) : Prop :=
  ∀ (w : World) (loose : List PySem.Str) (mean : ExcName → Option Value) (mg mb : PySem.Str → Option Value) (news : Led) (dp un : Nat) (gd : Option (List Code)) (cn : PySem.Str) (cs : Scope) (a : Addr) (ccd : Value) (cl' : List (PySem.Str × Addr)) (outer : List Env)
    (A₀ : Around) (base h₀ : Heap) (L : Addr) (m : PySem.Str → Option Value) (s : Shared) (Q E : Value → Shared → Prop) (jo : Obj) (gg : Obj → Led),
    Below A₀ base outer h₀ → Fr h₀ L s.heap m → (KH w).In h₀ → News h₀ L s.heap news → UpdF jr jo news gg → (cl, lo) ∈ news → cl ≠ jr → JarO w cl mr k0 jo → Top hd.view_39 loose mean mg mb h₀ → cs.kind = .function →
    dp + k < recursionLimit → un + 8 * k < cLine → (∀ (v : Value) (k1 : Int) (jo' : Obj) (h' : Heap) (tk' : Nat), P v k1 → JarO w cl mr k1 jo' → Fr h₀ L h' m → News h₀ L h' (gg jo') → Q v { s with heap := h', toks := tk' }) →
    wpAny (model PG w) (ktrTop dp un gd cn cs L a ccd cl' outer) (call (.ref f) vs) Q E s
theorem ClJ.use {k : Nat} {f : Addr} {vs : List Value} {jr cl : Addr} {lo : Obj} {mr k0 : Int} {P : Value → Int → Prop} {w : World} {loose : List PySem.Str} {mean : ExcName → Option Value} {mg mb : PySem.Str → Option Value} {news : Led} {dp un : Nat} {gd : Option (List Code)} {cn : PySem.Str} {cs : Scope} {a : Addr} {ccd : Value} {cl' : List (PySem.Str × Addr)} {outer : List Env}
    {A₀ : Around} {base h₀ : Heap} {L : Addr} {m : PySem.Str → Option Value} {s : Shared} {Q E : Value → Shared → Prop} {jo : Obj} {gg : Obj → Led} (c : ClJ k f vs jr cl lo mr k0 P)
    (B : Below A₀ base outer h₀) (F : Fr h₀ L s.heap m) (X : (hd.heap_39 w.params).In h₀) (N : News h₀ L s.heap news) (U : UpdF jr jo news gg) (hc : (cl, lo) ∈ news) (hcj : cl ≠ jr) (J : JarO w cl mr k0 jo) (T : Top hd.view_39 loose mean mg mb h₀) (hk : cs.kind = .function)
    (hd : dp + k < recursionLimit) (hu : un + 8 * k < cLine) (h : ∀ (v : Value) (k1 : Int) (jo' : Obj) (h' : Heap) (tk' : Nat), P v k1 → JarO w cl mr k1 jo' → Fr h₀ L h' m → News h₀ L h' (gg jo') → Q v { s with heap := h', toks := tk' }) :
    wpAny (model PG w) (ktrTop dp un gd cn cs L a ccd cl' outer) (call (.ref f) vs) Q E s :=
  c w loose mean mg mb news dp un gd cn cs a ccd cl' outer A₀ base h₀ L m s Q E jo gg B F X N U hc hcj J T hk hd hu h
theorem news_backJ {s h' g h₀ : Heap} {L L' : Addr} {m' : PySem.Str → Option Value} {news led : Led} {jr cl : Addr} {jo jo' lo : Obj} {gg : Obj → Led} (N : News h₀ L s news) (U : UpdF jr jo news gg) (hc : (cl, lo) ∈ news) (G : GKeep s g [jr, cl]) (F' : Fr g L' h' m') (N' : News h₀ L h' led) (h1 : (jr, jo') ∈ led) (h2 : (cl, lo) ∈ led) : News h₀ L h' (gg jo') := by
  obtain ⟨pre, post, e, hg, a, b⟩ := U.split
  have out : ∀ p ∈ news, p.1 ≠ jr → News h₀ L h' [p] := fun p hp hne q hq => by
    rw [List.mem_singleton.mp hq]
    by_cases hb : p.1 = cl
    · have x1 := (N p hp).1
      have x2 := (N _ hc).1
      rw [hb] at x1
      have : p.2 = lo := Option.some.inj (x1.symm.trans x2)
      rw [show p = (cl, lo) from Prod.ext hb this]
      exact N' _ h2
    · exact ⟨F'.keep _ _ (G.keep _ _ (N p hp).1 (by simp only [List.mem_cons, List.not_mem_nil, or_false, not_or]; exact ⟨hne, hb⟩)), (N p hp).2⟩
  rw [hg]
  intro p hp
  rcases List.mem_append.mp hp with hp | hp
  · exact out p (by rw [e]; exact List.mem_append_left _ hp) (a p hp) p (.head _)
  · rcases List.mem_cons.mp hp with rfl | hp
    · exact N' _ h1
    · exact out p (by rw [e]; exact List.mem_append_right _ (List.mem_cons_of_mem _ hp)) (b p hp) p (.head _)
theorem updF_mem {d : Addr} {o : Obj} {l : Led} {g : Obj → Led} (U : UpdF d o l g) : (d, o) ∈ l := by
  obtain ⟨pre, post, e, -, -, -⟩ := U.split
  rw [e]; exact List.mem_append_right _ (.head _)
end Mine
namespace Mine
theorem news_subJ {h₀ h : Heap} {L : Addr} {news : Led} {jr cl : Addr} {jo lo : Obj} {gg : Obj → Led} (N : News h₀ L h news) (U : UpdF jr jo news gg) (hc : (cl, lo) ∈ news) : News h₀ L h [(jr, jo), (cl, lo)] := fun p hp => by
  rcases List.mem_cons.mp hp with rfl | hp
  · exact N _ (updF_mem U)
  · rw [List.mem_singleton.mp hp]; exact N _ hc
end Mine
namespace Mine
/-- `Cl.use` with the ledger asked first: a call whose arguments stand in a list of the ledger -/
theorem Cl.useO {k : Nat} {f : Addr} {vs : List Value} {own : Led} {R : Tok → Value} {P : Prop} {w : World} {loose : List PySem.Str} {mean : ExcName → Option Value} {mg mb : PySem.Str → Option Value} {news : Led} {dp un : Nat} {gd : Option (List Code)} {cn : PySem.Str} {cs : Scope} {a : Addr} {ccd : Value} {cl : List (PySem.Str × Addr)} {outer : List Env}
    {A₀ : Around} {base h₀ : Heap} {L : Addr} {m : PySem.Str → Option Value} {s : Shared} {Q E : Value → Shared → Prop}
    (F : Fr h₀ L s.heap m) (N : News h₀ L s.heap news) (ho : ∀ p ∈ own, p ∈ news) (c : Cl k f vs own R P) (B : Below A₀ base outer h₀) (X : (hd.heap_39 w.params).In h₀) (T : Top hd.view_39 loose mean mg mb h₀) (hk : cs.kind = .function)
    (hd : dp + k < recursionLimit) (hu : un + 8 * k < cLine) (h : ∀ (t : Tok) (h' : Heap) (tk' : Nat), Fr h₀ L h' m → News h₀ L h' news → P → Q (R t) { s with heap := h', toks := tk' }) :
    wpAny (model PG w) (ktrTop dp un gd cn cs L a ccd cl outer) (call (.ref f) vs) Q E s :=
  c.use B F X N T hk ho hd hu h
end Mine
namespace Mine
/-- `ClJ.use` with the ledger asked first -/
theorem ClJ.useO {k : Nat} {f : Addr} {vs : List Value} {jr cl : Addr} {lo : Obj} {mr k0 : Int} {P : Value → Int → Prop} {w : World} {loose : List PySem.Str} {mean : ExcName → Option Value} {mg mb : PySem.Str → Option Value} {news : Led} {dp un : Nat} {gd : Option (List Code)} {cn : PySem.Str} {cs : Scope} {a : Addr} {ccd : Value} {cl' : List (PySem.Str × Addr)} {outer : List Env}
    {A₀ : Around} {base h₀ : Heap} {L : Addr} {m : PySem.Str → Option Value} {s : Shared} {Q E : Value → Shared → Prop} {jo : Obj} {gg : Obj → Led}
    (F : Fr h₀ L s.heap m) (N : News h₀ L s.heap news) (U : UpdF jr jo news gg) (J : JarO w cl mr k0 jo) (hc : (cl, lo) ∈ news) (hcj : cl ≠ jr) (c : ClJ k f vs jr cl lo mr k0 P) (B : Below A₀ base outer h₀) (X : (hd.heap_39 w.params).In h₀) (T : Top hd.view_39 loose mean mg mb h₀) (hk : cs.kind = .function)
    (hd : dp + k < recursionLimit) (hu : un + 8 * k < cLine) (h : ∀ (v : Value) (k1 : Int) (jo' : Obj) (h' : Heap) (tk' : Nat), P v k1 → JarO w cl mr k1 jo' → Fr h₀ L h' m → News h₀ L h' (gg jo') → Q v { s with heap := h', toks := tk' }) :
    wpAny (model PG w) (ktrTop dp un gd cn cs L a ccd cl' outer) (call (.ref f) vs) Q E s :=
  c.use B F X N U hc hcj J T hk hd hu h
end Mine
end

section
open PySem PySem.W PyProof.Rows PySem.Calls PySem.Spec
namespace Mine
section
variable {prog : Program} {w : World} {A₀ A : Around} {s : Shared} {base h₀ : Heap} {outer : List Env} {L : Addr} {m : PySem.Str → Option Value} {env : Env} {own : Led} {K : Frag}
/-- What a callee with cells finds: its frame, its cells ahead of the own ledger, and what its ground keeps of the caller's heap. -/
theorem enter_cells {p : Program} {loose : List PySem.Str} {mean : ExcName → Option Value} {mg mb : PySem.Str → Option Value} {R : Result → Shared → Prop} {name qual : PySem.Str} {params : Arguments} {body : List Stmt} {scope : Scope} {dV kV doc pm cdv ct oc : Value} {an od : Option Addr} {osl : Array (Option Value)} {f : Addr} {args : Args} {binds : List (PySem.Str × Value)}
    (B : Below A₀ base outer h₀) (F : Fr h₀ L s.heap m) (X₀ : K.In h₀) (N : News h₀ L s.heap own) (T : Top p loose mean mg mb h₀) (hA : A.frames = some (env :: outer)) (hf : env.frame = some L) (hke : env.scope.kind = .function)
    (ho : K.lookup f = some ⟨oc, od, .func (fnOf name qual params body scope dV kV doc pm an cdv ct), osl⟩) (hcd : codeIn K cdv qual = true) (hroom : A.depth < recursionLimit)
    (hbind : BindsTo s (fnOf name qual params body scope dV kV doc pm an cdv ct) args binds) (hkind : (binds.all fun y => scope.names.lookup y.1 == some .local || scope.names.lookup y.1 == some .cell) = true)
    (hnd : ((cellsFrom 0 scope.names []).map (·.1)).Nodup)
    (h : ∀ g L' h₁ tk cells, GKeep s.heap g (own.map (·.1)) → Fr h₀ L g m → Fr g L' h₁ (bindL (envOfC qual scope L' f cdv).kindOf binds fun _ => none) → News g L' h₁ (cells ++ own) →
      CellsAre (bindC (envOfC qual scope L' f cdv).kindOf binds fun _ => none) (cellsFrom (L' + 1) scope.names []) cells → Below A base (env :: outer) g → K.In g → Top p loose mean mg mb g → (∀ p ∈ own, p.1 < L') →
      wpAny (model prog w) (A.deeper (envOfC qual scope L' f cdv)) (execs body (envOfC qual scope L' f cdv))
        (fun fl s' => LeaveK h₀ L m g R (match fl with | .ret v => v | _ => .none) s')
        (fun e s' => wpAny (model prog w) (A.deeper (envOfC qual scope L' f cdv)) (leaving (envOfC qual scope L' f cdv) e) (fun _ s'' => R (.error e) s'') (fun e' s'' => R (.error e') s'') s')
        { s with heap := h₁, toks := tk })
    (hco : scope.isCoroutine = false) (hgen : scope.isGenerator = false) (hk : scope.kind = .function) : codeAny (model prog w) A (.call (.ref f) args) R s := by
  have X := X₀.keeps F.keep
  obtain ⟨FG, BG, st, back⟩ := groundX (R := R) B F N hA hf hke
  have kept : GKeep s.heap (hideAll s.heap (own.map (·.1))) (own.map (·.1)) := ⟨fun b o e hb => hideAll_get _ e hb⟩
  generalize hg : hideAll s.heap (own.map (·.1)) = g at FG BG st back kept
  have sub : ∀ b o, g.get? b = some o → s.heap.get? b = some o := fun b o e => of_hideAll _ (hg ▸ e)
  have size : g.objs.size ≤ s.heap.objs.size := hg ▸ Nat.le_of_eq (hideAll_size _ _)
  have gone : ∀ q ∈ own, g.get? q.1 = none := fun q hq => hg ▸ hideAll_none _ (List.mem_map_of_mem hq)
  refine codeAny_call_function hroom (X _ _ ho) rfl hco hgen rfl (codeRec_of X hcd) (hbind _ _ _ _ ?_)
  refine wpAny_newFunctionEnv_cells hk (kindsX hkind _) fun env' he s' x => ?_
  subst he
  refine ⟨(T.nolimit.keeps F.keep).keeps x.toInCall.keep, codeAny_func ?_⟩
  have keep₁ := x.toInCall.keep
  obtain ⟨h₁, tk, rfl, _⟩ := x.done
  obtain ⟨cells, NC, Y⟩ := Cl.news (h₀ := s.heap) (Nat.le_refl _) fun n c hm => ⟨x.cell n c (lookup_of_mem_nodup (cellsFrom_names scope.names 0 (s.heap.objs.size + 1) [] [] rfl ▸ hnd) hm), x.above n c hm⟩
  have NG : News g s.heap.objs.size h₁ (cells ++ own) := fun q hq => by
    rcases List.mem_append.mp hq with hq | hq
    · obtain ⟨a1, a2, a3⟩ := NC q hq
      refine ⟨a1, a2, ?_⟩
      cases e : g.get? q.1 with
      | none => rfl
      | some o => rw [sub _ _ e] at a3; cases a3
    · exact ⟨keep₁ _ _ (N q hq).1, Nat.ne_of_lt (Heap.lt_size (N q hq).1), gone q hq⟩
  refine wpAny_mono (h g s.heap.objs.size h₁ tk cells kept FG ⟨x.toInCall.ns, fun b o e => keep₁ b o (sub _ _ e), size⟩ NG Y BG (X₀.keeps st) (T.keeps st) fun q hq => Heap.lt_size (N q hq).1) (fun fl s' hl => back _ _ hl) fun _ _ y => y
end
end Mine
end

section
open PySem PySem.W PyProof.Rows PySem.Calls PySem.Spec
namespace Mine
/-- a statement goes on, the frame stands, of the ledger only `news` is kept -/
def CutAt (g : Heap) (L : Addr) (m : PySem.Str → Option Value) (news : Led) (s : Shared) (f : Flow) (s' : Shared) : Prop :=
  f = .next ∧ ∃ h' tk', s' = { s with heap := h', toks := tk' } ∧ Fr g L h' m ∧ News g L h' news
theorem CutAt.intro {g h' : Heap} {L : Addr} {m : PySem.Str → Option Value} {news all : Led} {s : Shared} {tk' : Nat} (F : Fr g L h' m) (N : News g L h' all) (hs : ∀ p ∈ news, p ∈ all) : CutAt g L m news s .next { s with heap := h', toks := tk' } :=
  ⟨rfl, h', tk', rfl, F, news_sub N hs⟩
theorem cut_if {M : Model} {A : Around} {t : Sem Flow} {E : Value → Shared → Prop} {s : Shared} {Q : Flow → Shared → Prop} {g : Heap} {L : Addr} {m : PySem.Str → Option Value} (F : Fr g L s.heap m) (news : Led)
    (h1 : wpAny M A t (CutAt g L m news s) E s) (h2 : ∀ h' tk', Fr g L h' m → News g L h' news → Q .next { s with heap := h', toks := tk' }) : wpAny M A t Q E s :=
  wpAny_mono h1 (fun f s' h => by obtain ⟨rfl, h', tk', rfl, F', N'⟩ := h; exact h2 h' tk' F' N') fun _ _ e => e
end Mine
end

section
open PySem PySem.W PyProof.Rows PySem.Calls PySem.Spec
namespace Mine
set_option linter.unusedVariables false
/-- the signs that a law's text is drawn from -/
def drawnL : List Nat := [97, 98, 67, 100, 32, 55, 91, 93, 9, 5]
theorem drawn_C : C (PySem.Str.ofString "abCd 7[]\t\x05") = drawnL := by decide +kernel
theorem drawn_len : (PySem.Str.ofString "abCd 7[]\t\x05").length = 10 := by rw [len_C, drawn_C]; rfl
theorem drawn_at {k : Int} (h0 : 0 ≤ k) (h1 : k < 10) : ∃ c, Txt.item (PySem.Str.ofString "abCd 7[]\t\x05") k = S [c] ∧ c ∈ drawnL := by
  refine ⟨_, item_at _ h0 (by rw [drawn_len]; omega), ?_⟩
  rw [drawn_C]
  have : k.toNat < 10 := by omega
  revert this
  generalize k.toNat = j
  intro hj
  have : drawnL.getD j 0 = drawnL[j]'(by simpa [drawnL] using hj) := by rw [List.getD_eq_getElem?_getD, List.getElem?_eq_getElem]; rfl
  rw [this]
  exact List.getElem_mem _
section
variable {w : World} {A : Around} {s : Shared} {h₀ : Heap} {L : Addr} {m : PySem.Str → Option Value} {env : Env}
theorem rest_jar {elt : PySem.Expr} {x : PySem.Str} {scope : Scope} {cl' : List (PySem.Str × Addr)} {P : Nat → Value → Prop} {Fin : List Value → LedP → Prop} {jo : Obj} {n : Nat} {cl : Addr} {mr : Int} (gg : Obj → Led) (k0 : Int) (J : JarO w cl mr k0 jo)
    (turn : ∀ (i : Nat) jo I oI D₁ oC D m₂ ys h tk (E' : Value → Shared → Prop), i < n → JarO w cl mr (k0 + (i : Int)) jo → LCg.NsObj oC m₂ → Fr h₀ L h m → News h₀ L h ((I, oI) :: (D₁, oC) :: (D, LCg.lst ys) :: gg jo) → LCg.Off3 I D₁ D (gg jo) → ((@Ne Nat I D₁) ∧ (@Ne Nat I D) ∧ (@Ne Nat D₁ D)) →
      wpAny (model PG w) A (eval elt (compEnvC scope cl' D₁ env)) (LCg.CompEnd h₀ L m { s with heap := h, toks := tk } I oI D₁ oC D (LCg.lst ys) (fun _ => True) (fun y news' => ∃ jo', news' = gg jo' ∧ JarO w cl mr (k0 + (i : Int) + 1) jo' ∧ ∃ (c : Nat) (t : Tok), y = .str (S [c]) t ∧ c ∈ drawnL)) E' { s with heap := h, toks := tk })
    (fin : ∀ ys l jo', StrsAre ys (Ss l) → l.length = n → (∀ c ∈ l, c ∈ drawnL) → JarO w cl mr (k0 + (n : Int)) jo' → Fin ys (gg jo')) :
    LCg.CompRest PG w A h₀ L m env elt x scope cl' s (fun _ => True) P Fin n 0 [] (gg jo) := by
  have key : ∀ (j i : Nat) (ys : List Value) (l : List Nat) (jo : Obj), i + j = n → StrsAre ys (Ss l) → l.length = i → (∀ c ∈ l, c ∈ drawnL) → JarO w cl mr (k0 + (i : Int)) jo → LCg.CompRest PG w A h₀ L m env elt x scope cl' s (fun _ => True) P Fin j i ys (gg jo) := by
    intro j
    induction j with
    | zero =>
      intro i ys l jo hi hy hl hd J
      obtain rfl : i = n := by omega
      exact LCg.CompRest.zero (fin ys l jo hy hl hd J)
    | succ j ih =>
      intro i ys l jo hi hy hl hd J
      refine LCg.CompRest.succ ?_
      intro v I oI D₁ oC D m₂ h tk E' hv hC hx F N off ne
      refine wpAny_mono (turn i jo I oI D₁ oC D m₂ ys h tk E' (by omega) J hC F N off ne) (fun y s₂ hq => ?_) fun _ _ e => e
      obtain ⟨h', tk', nw, e, F', N', off', hS, jo', hn, J', c, t', hy', hc⟩ := hq
      subst hn
      refine ⟨h', tk', _, e, F', N', off', hS, ?_⟩
      rw [hy']
      refine ih (i + 1) _ (l ++ [c]) jo' (by omega) (strs_snocC hy) (by rw [List.length_append, hl]; rfl) ?_ ?_
      · intro d hd'
        rcases List.mem_append.mp hd' with h | h
        · exact hd d h
        · rw [List.mem_singleton.mp h]; exact hc
      · rw [show k0 + ((i + 1 : Nat) : Int) = k0 + (i : Int) + 1 by omega]; exact J'
  exact key n 0 [] [] jo (by omega) .nil rfl (fun _ h => nomatch h) (by rw [show k0 + ((0 : Nat) : Int) = k0 by omega]; exact J)
end
theorem text_out {l : List Nat} {k0 most : Int} {n : Nat} (hl : l.length = n) (hn : (n : Int) ≤ most) (hd : ∀ c ∈ l, c ∈ drawnL) (t : Tok) : (k0 + 1 ≤ k0 + 1 + (n : Int) ∧ k0 + 1 + (n : Int) ≤ k0 + 1 + most) ∧ ∃ (l' : List Nat) (u : Tok), Value.str (S l) t = .str (S l') u ∧ (l'.length : Int) ≤ most ∧ ∀ c ∈ l', c ∈ drawnL :=
  ⟨⟨by omega, by omega⟩, l, t, rfl, by omega, hd⟩
end Mine
end

section
open PySem PySem.W PyProof.Rows
namespace Mine
theorem bne_no {x y : PySem.Str} (h : x = y) : ¬ ((x != y) = true) := by rw [h]; simp
theorem S_app (a b : List Nat) : S a ++ S b = S (a ++ b) := eq_C (by rw [C_app, C_S, C_S, C_S])
theorem cut_lm (x : PySem.Str) {n : Int} (h0 : 1 ≤ n) (hx : x.length ≤ 200) : S (leftL (C x) (n - 1)) ++ S (midL (C x) n 255) = x := by
  rw [S_app]
  apply eq_C
  rw [C_S]
  rw [len_C] at hx
  unfold leftL midL
  rw [List.take_of_length_le (l := List.drop _ _) (by rw [List.length_drop]; omega)]
  exact List.take_append_drop _ _
theorem cut_r1 (x : PySem.Str) {n : Int} (h : (x.length : Int) ≤ n) : S (rightL (C x) n) = x := by
  apply eq_C
  rw [C_S]
  rw [len_C] at h
  unfold rightL
  rw [show (C x).length - n.toNat = 0 by omega]
  rfl
theorem cut_r2 (x : PySem.Str) {n : Int} (h : ¬ (x.length : Int) ≤ n) (h0 : 1 ≤ n) (hx : x.length ≤ 200) : S (rightL (C x) n) = S (midL (C x) ((x.length : Int) - n + 1) 255) := by
  congr 1
  rw [len_C] at *
  unfold rightL midL
  rw [show ((((C x).length : Nat) : Int) - n + 1 - 1).toNat = (C x).length - n.toNat by omega]
  exact (List.take_of_length_le (by rw [List.length_drop]; omega)).symm
theorem cut_seg (x : PySem.Str) {a b : Int} (ha : 1 ≤ a) (hb : 0 ≤ b) (hx : x.length ≤ 200) : S (segL (C x) a b) = S (midL (C (S (leftL (C x) b))) a 255) := by
  rw [C_S]
  congr 1
  rw [len_C] at hx
  unfold segL leftL midL
  rw [List.take_of_length_le (l := List.drop _ _) (by rw [List.length_drop, List.length_take]; omega)]
  split
  · rfl
  · rw [List.drop_of_length_le (by rw [List.length_take]; omega)]
theorem cut_mm (x : PySem.Str) {a b : Int} (ha : 1 ≤ a) (hb : 1 ≤ b) (hx : x.length ≤ 200) : S (midL (C (S (midL (C x) a 255))) b 255) = S (midL (C x) (a + b - 1) 255) := by
  rw [C_S]
  congr 1
  rw [len_C] at hx
  unfold midL
  rw [List.take_of_length_le (l := List.drop _ (C x)) (by rw [List.length_drop]; omega), List.drop_drop]
  congr 2
  omega
theorem cut_ll (x : PySem.Str) {a b : Int} (ha : 1 ≤ a) (hb : 1 ≤ b) : S (leftL (C (S (leftL (C x) a))) b) = S (leftL (C x) (if b < a then b else a)) := by
  rw [C_S]
  congr 1
  unfold leftL
  rw [List.take_take]
  congr 1
  split <;> omega
theorem cut_ms (x : PySem.Str) {a b : Int} (ha : 1 ≤ a) (hb : 1 ≤ b) : (S (midL (C x) a b) == S (segL (C x) a (a + b - 1))) = true := by
  rw [beq_iff_eq]
  congr 1
  unfold midL segL
  rw [if_pos (by omega), List.drop_take]
  congr 2
  omega
end Mine
end

section
open PySem PySem.W PyProof.Rows
namespace Mine
def Mt (l p : List Nat) (a : Nat) : Prop := (l.drop a).take p.length = p
theorem Mt.room {l p : List Nat} {a : Nat} (h : Mt l p a) (hp : 1 ≤ p.length) : a + p.length ≤ l.length := by
  have := congrArg List.length h
  rw [List.length_take, List.length_drop] at this
  omega
theorem fz_of {l p : List Nat} {n : Nat} (h : ∀ a, n - 1 ≤ a → a + p.length ≤ l.length → ¬ Mt l p a) : foundL l p n = 0 := by
  unfold foundL
  split
  · rfl
  · rw [List.find?_range'_eq_none.mpr ?_]
    · rfl
    · intro i h1 h2
      have := h i h1 (by omega)
      simpa [Mt] using this
theorem fz {l p : List Nat} {n : Nat} (h : foundL l p n = 0) (hn : ¬ l.length < n) (a : Nat) (h1 : n - 1 ≤ a) (h2 : a + p.length ≤ l.length) : ¬ Mt l p a := by
  unfold foundL at h
  rw [if_neg hn] at h
  cases e : (List.range' (n - 1) (l.length + 1 - p.length - (n - 1))).find? (fun a => (l.drop a).take p.length == p) with
  | some i => rw [e] at h; simp at h
  | none =>
    have := List.find?_range'_eq_none.mp e a h1 (by omega)
    simpa [Mt] using this
theorem fs {l p : List Nat} {n : Nat} (h : foundL l p n ≠ 0) : n - 1 ≤ foundL l p n - 1 ∧ foundL l p n - 1 + p.length ≤ l.length ∧ Mt l p (foundL l p n - 1) ∧ ∀ a, n - 1 ≤ a → a < foundL l p n - 1 → ¬ Mt l p a := by
  unfold foundL at h ⊢
  split at h
  · exact absurd rfl h
  · rename_i hn
    rw [if_neg hn]
    cases e : (List.range' (n - 1) (l.length + 1 - p.length - (n - 1))).find? (fun a => (l.drop a).take p.length == p) with
    | none => rw [e] at h; exact absurd rfl h
    | some i =>
      obtain ⟨h1, h2, h3⟩ := List.find?_range'_eq_some.mp e
      rw [List.mem_range'_1] at h2
      refine ⟨by show n - 1 ≤ i; omega, by show i + _ ≤ _; omega, by simpa [Mt] using h1, fun a ha1 ha2 => ?_⟩
      have := h3 a ha1 ha2
      simpa [Mt] using this
theorem fp_of {l p : List Nat} {n : Nat} (hn : n ≤ l.length) {a : Nat} (h1 : n - 1 ≤ a) (h2 : a + p.length ≤ l.length) (h : Mt l p a) : foundL l p n ≠ 0 := fun e => fz e (by omega) a h1 h2 h
theorem found_nil (l : List Nat) {n : Nat} (h0 : 1 ≤ n) : foundL l [] n = if n ≤ l.length then n else 0 := by
  split
  · rename_i hn
    have h1 : foundL l [] n ≠ 0 := fp_of hn (Nat.le_refl _) (by simp; omega) (by simp [Mt])
    obtain ⟨a, -, -, b⟩ := fs h1
    rcases Nat.lt_or_ge (n - 1) (foundL l [] n - 1) with h | h
    · exact absurd (by simp [Mt]) (b (n - 1) (Nat.le_refl _) h)
    · omega
  · unfold foundL
    rw [if_pos (by omega)]
section
variable {x p : PySem.Str} {n : Int}
theorem fd_nil (h0 : 1 ≤ n) (hp : p.length = 0) : ((foundL (C x) (C p) n.toNat : Nat) : Int) = (if n ≤ (x.length : Int) then n else 0) := by
  have : C p = [] := List.length_eq_zero_iff.mp (by rw [← len_C]; exact hp)
  rw [this, found_nil _ (by omega), len_C]
  split <;> split <;> omega
theorem mid_tail (hx : x.length ≤ 200) : C (S (midL (C x) n 255)) = (C x).drop (n - 1).toNat := by
  rw [C_S]; unfold midL
  rw [len_C] at hx
  exact List.take_of_length_le (by rw [List.length_drop]; omega)
theorem fd_tail (h0 : 1 ≤ n) (hx : x.length ≤ 200) (hp : 1 ≤ p.length) (h : ((foundL (C x) (C p) n.toNat : Nat) : Int) = 0) : ((foundL (C (S (midL (C x) n 255))) (C p) (1 : Int).toNat : Nat) : Int) = 0 := by
  rw [mid_tail hx, fz_of]
  · rfl
  · intro a h1 h2
    rw [List.length_drop] at h2
    rw [len_C] at hp
    have := fz (show foundL (C x) (C p) n.toNat = 0 by omega) (by omega) (a + (n.toNat - 1)) (by omega) (by omega)
    unfold Mt at this ⊢
    rw [List.drop_drop, show (n - 1).toNat + a = a + (n.toNat - 1) by omega]
    exact this
theorem fd_glue (hp : 1 ≤ p.length) (y : PySem.Str) : 0 < ((foundL (C (y ++ p)) (C p) (1 : Int).toNat : Nat) : Int) := by
  rw [len_C] at hp
  have : foundL (C (y ++ p)) (C p) (1 : Int).toNat ≠ 0 := fp_of (a := (C y).length) (by rw [C_app, List.length_append]; show 1 ≤ _; omega) (by show 1 - 1 ≤ _; omega) (by rw [C_app, List.length_append]; omega) (by
    unfold Mt
    rw [C_app, List.drop_left, List.take_length])
  omega
theorem fd_from (h0 : 1 ≤ n) (h : ((foundL (C x) (C p) n.toNat : Nat) : Int) ≠ 0) : ¬ ((foundL (C x) (C p) n.toNat : Nat) : Int) < n := by
  have := (fs (l := C x) (p := C p) (n := n.toNat) (by omega)).1
  omega
theorem fd_room (hp : 1 ≤ p.length) (h : ((foundL (C x) (C p) n.toNat : Nat) : Int) ≠ 0) : ((foundL (C x) (C p) n.toNat : Nat) : Int) + (p.length : Int) ≤ (x.length : Int) + 1 := by
  have := (fs (l := C x) (p := C p) (n := n.toNat) (by omega)).2.1
  rw [len_C p, len_C x]
  omega
theorem fd_there (h : ((foundL (C x) (C p) n.toNat : Nat) : Int) ≠ 0) : S (midL (C x) ((foundL (C x) (C p) n.toNat : Nat) : Int) (p.length : Int)) = p := by
  have := (fs (l := C x) (p := C p) (n := n.toNat) (by omega)).2.2.1
  apply eq_C
  rw [C_S]
  unfold midL
  unfold Mt at this
  rw [len_C p, show (((foundL (C x) (C p) n.toNat : Nat) : Int) - 1).toNat = foundL (C x) (C p) n.toNat - 1 by omega]
  exact this
theorem fd_left (h0 : 1 ≤ n) (hp : 1 ≤ p.length) (h : ((foundL (C x) (C p) n.toNat : Nat) : Int) ≠ 0) : ((foundL (C (S (leftL (C x) (((foundL (C x) (C p) n.toNat : Nat) : Int) + (p.length : Int) - 2)))) (C p) n.toNat : Nat) : Int) = 0 := by
  obtain ⟨a1, a2, a3, a4⟩ := fs (l := C x) (p := C p) (n := n.toNat) (by omega)
  rw [C_S, fz_of]
  · rfl
  · intro a h1 h2
    unfold leftL at h2 ⊢
    rw [List.length_take, len_C p] at h2
    rw [len_C] at hp
    have := a4 a h1 (by omega)
    unfold Mt at this ⊢
    intro h3
    apply this
    rw [List.drop_take, List.take_take, len_C p] at h3
    rw [show min (C p).length ((((foundL (C x) (C p) n.toNat : Nat) : Int) + ((C p).length : Int) - 2).toNat - a) = (C p).length by omega] at h3
    exact h3
end
end Mine
end

section
open PySem PySem.W PyProof.Rows
namespace Mine
theorem up_lo (c : Nat) : upC (loC c) = upC c := by unfold upC loC; (repeat' split) <;> omega
theorem lo_up (c : Nat) : loC (upC c) = loC c := by unfold upC loC; (repeat' split) <;> omega
theorem up_up (c : Nat) : upC (upC c) = upC c := by unfold upC; (repeat' split) <;> omega
theorem let_ul (x : PySem.Str) : S ((C (S ((C x).map loC))).map upC) = S ((C x).map upC) := by
  rw [C_S, List.map_map]; congr 2; funext c; exact up_lo c
theorem let_lu (x : PySem.Str) : S ((C (S ((C x).map upC))).map loC) = S ((C x).map loC) := by
  rw [C_S, List.map_map]; congr 2; funext c; exact lo_up c
theorem let_uu (x : PySem.Str) : S ((C (S ((C x).map upC))).map upC) = S ((C x).map upC) := by
  rw [C_S, List.map_map]; congr 2; funext c; exact up_up c
theorem dw_all {α : Type} (p : α → Bool) : ∀ {l : List α}, l.all p = true → l.dropWhile p = []
  | [], _ => rfl
  | a :: t, h => by
    rw [List.all_cons, Bool.and_eq_true] at h
    rw [List.dropWhile_cons_of_pos h.1, dw_all p h.2]
theorem dw_nil {α : Type} (p : α → Bool) : ∀ {l : List α}, l.dropWhile p = [] → l.all p = true
  | [], _ => rfl
  | a :: t, h => by
    by_cases ha : p a = true
    · rw [List.dropWhile_cons_of_pos ha] at h
      rw [List.all_cons, ha, dw_nil p h]; rfl
    · rw [List.dropWhile_cons_of_neg ha] at h; cases h
theorem rt_cons (a : Nat) (t : List Nat) : rtrimL (a :: t) = if t.all blank then (if blank a then [] else [a]) else a :: rtrimL t := by
  unfold rtrimL
  rw [List.reverse_cons, List.dropWhile_append]
  by_cases h : t.all blank = true
  · rw [if_pos h, dw_all blank (by rw [List.all_reverse]; exact h), List.isEmpty_nil, if_pos rfl]
    by_cases ha : blank a = true
    · rw [List.dropWhile_cons_of_pos ha, if_pos ha]; rfl
    · rw [List.dropWhile_cons_of_neg ha, if_neg ha]; rfl
  · rw [if_neg h]
    have : (t.reverse.dropWhile blank).isEmpty = false := by
      cases e : t.reverse.dropWhile blank with
      | cons b r => rfl
      | nil =>
        exfalso; apply h
        rw [← List.all_reverse]
        exact dw_nil blank e
    rw [this, if_neg (by simp), List.reverse_append]
    rfl
theorem lr_comm : ∀ l : List Nat, ltrimL (rtrimL l) = rtrimL (ltrimL l)
  | [] => rfl
  | a :: t => by
    have ih := lr_comm t
    rw [rt_cons]
    by_cases ha : blank a = true
    · have e : ltrimL (a :: t) = ltrimL t := by unfold ltrimL; rw [List.dropWhile_cons_of_pos ha]
      rw [e, ← ih, if_pos ha]
      by_cases h : t.all blank = true
      · rw [if_pos h]
        have : rtrimL t = [] := by unfold rtrimL; rw [dw_all blank (by rw [List.all_reverse]; exact h)]; rfl
        rw [this]
      · rw [if_neg h]; unfold ltrimL; rw [List.dropWhile_cons_of_pos ha]
    · have e : ltrimL (a :: t) = a :: t := by unfold ltrimL; rw [List.dropWhile_cons_of_neg ha]
      rw [e, rt_cons, if_neg ha]
      split
      · unfold ltrimL; rw [List.dropWhile_cons_of_neg ha]
      · unfold ltrimL; rw [List.dropWhile_cons_of_neg ha]
theorem let_lr (x : PySem.Str) : (S (ltrimL (C (S (rtrimL (C x))))) == S (rtrimL (C (S (ltrimL (C x)))))) = true := by
  rw [beq_iff_eq, C_S, C_S, lr_comm]
end Mine
end

section
open PySem PySem.W PyProof.Rows PySem.Calls PySem.Spec
namespace Mine
set_option linter.unusedVariables false
def sg (x : PySem.Str) : Nat := (C x ++ [113]).headD 0
theorem q_C : C (PySem.Str.ofString "q") = [113] := by decide +kernel
theorem sg_slice {x : PySem.Str} (h : (x != PySem.Str.ofString "") = true) : Txt.slice x none (some 1) = S [sg x] := by
  rw [slice_ns x (by decide)]
  congr 1
  unfold sg
  cases e : C x with
  | nil => exact absurd (eq_C (by rw [e, C_nil])) (bne_iff_ne.mp h)
  | cons a r => rfl
theorem sg_q {x : PySem.Str} (h : (x != PySem.Str.ofString "") = false) : PySem.Str.ofString "q" = S [sg x] := by
  have h2 : x = PySem.Str.ofString "" := by simpa using h
  apply eq_C
  rw [C_S, q_C]
  unfold sg
  rw [h2, C_nil]; rfl
theorem str_left (c : Nat) {a b : Int} (h1 : 1 ≤ a) (h2 : 1 ≤ b) : S (strL a (C (S [c]))) = S (leftL (C (S (strL (a + b) (C (S [c]))))) a) := by
  rw [C_S, C_S]
  congr 1
  unfold strL leftL
  rw [List.take_replicate]
  congr 1
  omega
theorem str_add (x : PySem.Str) {a b : Int} (h1 : 1 ≤ a) (h2 : 1 ≤ b) : S (strL a (C (x ++ PySem.Str.ofString "q"))) ++ S (strL b (C (S [sg x]))) = S (strL (a + b) (C (S [sg x]))) := by
  rw [S_app, C_app, q_C, C_S]
  congr 1
  unfold strL
  show List.replicate a.toNat (sg x) ++ List.replicate b.toNat (sg x) = List.replicate (a + b).toNat (sg x)
  rw [List.replicate_append_replicate]
  congr 1
  omega
def tblL : List Nat := (List.range 256).map fun c => c
theorem tblL_at {c : Nat} (h : c < 256) : tblL.length = 256 ∧ tblL.getD c 0 = c := by
  unfold tblL
  refine ⟨by rw [List.length_map, List.length_range], ?_⟩
  rw [List.getD_eq_getElem?_getD, List.getElem?_map, List.getElem?_range h]
  rfl
theorem led_app (t a b : List Nat) : ledL t (a ++ b) = ledL t a ++ ledL t b := by unfold ledL; rw [List.filterMap_append]
theorem led_one (t : List Nat) (a : Nat) : ledL t [a] = if a < t.length ∧ 0 < t.getD a 0 then [t.getD a 0] else [] := by
  unfold ledL
  rw [List.filterMap_cons, List.filterMap_nil]
  by_cases h : a < t.length ∧ 0 < t.getD a 0
  · rw [if_pos h, if_pos h]
  · rw [if_neg h, if_neg h]
theorem led_id : ∀ {l : List Nat}, (∀ c ∈ l, 0 < c ∧ c < 256) → ledL tblL l = l
  | [], _ => rfl
  | a :: r, h => by
    have ih := led_id (l := r) fun c hc => h c (List.mem_cons_of_mem _ hc)
    have ha := h a List.mem_cons_self
    obtain ⟨e1, e2⟩ := tblL_at ha.2
    have e3 : (a < tblL.length ∧ 0 < tblL.getD a 0) := by rw [e1, e2]; omega
    rw [show a :: r = [a] ++ r from rfl, led_app, ih]
    rw [led_one, if_pos e3, e2]
theorem led_zero : ledL tblL [0] = [] := by
  obtain ⟨e1, e2⟩ := tblL_at (c := 0) (by decide)
  rw [led_one, if_neg (by rw [e2]; omega)]
theorem led_all {x z : PySem.Str} (hz : C z = [0]) (hx : ∀ c ∈ C x, 0 < c ∧ c < 256) : S (ledL (C (S tblL)) (C (x ++ z ++ x))) = x ++ x := by
  apply eq_C
  rw [C_S, C_S, C_app, C_app, C_app, hz, led_app, led_app, led_id hx, led_zero, List.append_nil]
theorem led_none (l : List Nat) : S (ledL (C (PySem.Str.ofString "")) l) = PySem.Str.ofString "" := by
  apply eq_C
  rw [C_S, C_nil]
  unfold ledL
  rw [List.filterMap_eq_nil_iff]
  intro a _
  rw [if_neg]
  rintro ⟨h, -⟩
  exact absurd h (by simp)
theorem tbl_len : (S tblL).length = 256 := by rw [len_S]; exact (tblL_at (c := 0) (by decide)).1
section
variable {prog : Program} {w : World} {A : Around} {s : Shared} {h₀ : Heap} {L : Addr} {m : PySem.Str → Option Value} {env : Env}
theorem rest_range {elt : PySem.Expr} {x : PySem.Str} {scope : Scope} {cl : List (PySem.Str × Addr)} {S' : LedP → Prop} {Fin : List Value → LedP → Prop} {news : LedP} {n : Nat} (g : Nat → Nat)
    (turn : ∀ (i : Nat) t I oI D₁ oC D m₂ ys h tk (E' : Value → Shared → Prop), i < n → LCg.NsObj oC m₂ → m₂ x = some (.int (i : Int) t) → Fr h₀ L h m → News h₀ L h ((I, oI) :: (D₁, oC) :: (D, LCg.lst ys) :: news) → LCg.Off3 I D₁ D news → ((@Ne Nat I D₁) ∧ (@Ne Nat I D) ∧ (@Ne Nat D₁ D)) →
      wpAny (model prog w) A (eval elt (compEnvC scope cl D₁ env)) (LCg.CompEnd h₀ L m { s with heap := h, toks := tk } I oI D₁ oC D (LCg.lst ys) S' (fun y news' => news' = news ∧ ∃ t : Tok, y = .str (S [g i]) t)) E' { s with heap := h, toks := tk })
    (fin : ∀ ys, StrsAre ys (Ss ((List.range n).map g)) → Fin ys news) : LCg.CompRest prog w A h₀ L m env elt x scope cl s S' (fun i v => ∃ t, v = .int (0 + (i : Int)) t) Fin n 0 [] news := by
  have key : ∀ (j i : Nat) (ys : List Value), i + j = n → StrsAre ys (Ss ((List.range i).map g)) → LCg.CompRest prog w A h₀ L m env elt x scope cl s S' (fun i v => ∃ t, v = .int (0 + (i : Int)) t) Fin j i ys news := by
    intro j
    induction j with
    | zero =>
      intro i ys hi hy
      obtain rfl : i = n := by omega
      exact LCg.CompRest.zero (fin ys hy)
    | succ j ih =>
      intro i ys hi hy
      refine LCg.CompRest.succ ?_
      intro v I oI D₁ oC D m₂ h tk E' hv hC hx F N off ne
      obtain ⟨t, rfl⟩ := hv
      refine wpAny_mono (turn i t I oI D₁ oC D m₂ ys h tk E' (by omega) hC (by rw [hx, Int.zero_add]) F N off ne) (fun y s₂ hq => ?_) fun _ _ e => e
      obtain ⟨h', tk', nw, e, F', N', off', hS, hn, t', hy'⟩ := hq
      subst hn
      refine ⟨h', tk', nw, e, F', N', off', hS, ?_⟩
      rw [hy']
      refine ih (i + 1) _ (by omega) ?_
      rw [List.range_succ, List.map_append]
      exact strs_snocC hy
  exact key n 0 [] (by omega) .nil
theorem rest_tbl {elt : PySem.Expr} {x : PySem.Str} {scope : Scope} {cl : List (PySem.Str × Addr)} {S' : LedP → Prop} {Fin : List Value → LedP → Prop} {news : LedP}
    (turn : ∀ (i : Nat) t I oI D₁ oC D m₂ ys h tk (E' : Value → Shared → Prop), i < 256 → LCg.NsObj oC m₂ → m₂ x = some (.int (i : Int) t) → Fr h₀ L h m → News h₀ L h ((I, oI) :: (D₁, oC) :: (D, LCg.lst ys) :: news) → LCg.Off3 I D₁ D news → ((@Ne Nat I D₁) ∧ (@Ne Nat I D) ∧ (@Ne Nat D₁ D)) →
      wpAny (model prog w) A (eval elt (compEnvC scope cl D₁ env)) (LCg.CompEnd h₀ L m { s with heap := h, toks := tk } I oI D₁ oC D (LCg.lst ys) S' (fun y news' => news' = news ∧ ∃ t : Tok, y = .str ⟨#[((i : Nat) : Int).toNat]⟩ t)) E' { s with heap := h, toks := tk })
    (fin : ∀ ys, StrsAre ys (Ss tblL) → Fin ys news) : LCg.CompRest prog w A h₀ L m env elt x scope cl s S' (fun i v => ∃ t, v = .int (0 + (i : Int)) t) Fin 256 0 [] news :=
  rest_range (fun c => c) turn fin
end
end Mine
end

section
open PySem PySem.W PyProof.Rows
namespace Mine
set_option linter.unusedVariables false
def brC (c : Nat) : Nat := if c = 91 then 40 else if c = 93 then 41 else c
def sqr : Bool → List Nat → List Nat
  | _, [] => []
  | p, a :: t => if blank a then (if p then sqr true t else 32 :: sqr true t) else a :: sqr false t
def nb (c : Nat) : Bool := !blank c
theorem blank32 : blank 32 = true := rfl
theorem bl_up (c : Nat) : blank (upC c) = blank c := by
  have : ∀ d, blank d = decide (d = 32 ∨ d = 9) := fun d => by unfold blank; rw [Bool.eq_iff_iff]; simp
  rw [this, this]; unfold upC; split
  · rw [Bool.eq_iff_iff]; simp; omega
  · rfl
theorem bl_br (c : Nat) : blank (brC c) = blank c := by
  have : ∀ d, blank d = decide (d = 32 ∨ d = 9) := fun d => by unfold blank; rw [Bool.eq_iff_iff]; simp
  rw [this, this]; unfold brC; (repeat' split) <;> first | rfl | (rw [Bool.eq_iff_iff]; simp; omega) | (rw [Bool.eq_iff_iff]; simp [*])
theorem up_br (c : Nat) : upC (brC c) = brC (upC c) := by
  unfold upC brC; (repeat' split) <;> omega
theorem br_br (c : Nat) : brC (brC c) = brC c := by unfold brC; (repeat' split) <;> omega
theorem sqr_cons (p : Bool) (a : Nat) (t : List Nat) : sqr p (a :: t) = if blank a then (if p then sqr true t else 32 :: sqr true t) else a :: sqr false t := by cases p <;> rfl
theorem sq_idem : ∀ (l : List Nat) (p : Bool), sqr p (sqr p l) = sqr p l
  | [], p => by cases p <;> rfl
  | a :: t, p => by
    rw [sqr_cons]
    by_cases h : blank a = true
    · rw [if_pos h]
      cases p
      · rw [if_neg (by decide), sqr_cons, if_pos blank32, if_neg (by decide), sq_idem t true]
      · rw [if_pos rfl, sq_idem t true]
    · rw [if_neg h, sqr_cons, if_neg h, sq_idem t false]
theorem lt_cons (a : Nat) (t : List Nat) : ltrimL (a :: t) = if blank a then ltrimL t else a :: t := by
  unfold ltrimL
  by_cases h : blank a = true
  · rw [if_pos h, List.dropWhile_cons_of_pos h]
  · rw [if_neg h, List.dropWhile_cons_of_neg h]
theorem sq_lt : ∀ (l : List Nat) (p : Bool), ltrimL (sqr p l) = sqr false (ltrimL l)
  | [], p => by cases p <;> rfl
  | a :: t, p => by
    rw [sqr_cons, lt_cons]
    by_cases h : blank a = true
    · rw [if_pos h, if_pos h]
      cases p
      · rw [if_neg (by decide), lt_cons, if_pos blank32, sq_lt t true]
      · rw [if_pos rfl, sq_lt t true]
    · rw [if_neg h, if_neg h, lt_cons, if_neg h, sqr_cons, if_neg h]
theorem sq_all : ∀ (l : List Nat) (p : Bool), (sqr p l).all blank = l.all blank
  | [], p => by cases p <;> rfl
  | a :: t, p => by
    rw [sqr_cons, List.all_cons]
    by_cases h : blank a = true
    · rw [if_pos h, h]
      cases p
      · rw [if_neg (by decide), List.all_cons, blank32, sq_all t true]
      · rw [if_pos rfl, sq_all t true]; rfl
    · rw [if_neg h, List.all_cons, sq_all t false]
theorem rt_nil {t : List Nat} (h : t.all blank = true) : rtrimL t = [] := by unfold rtrimL; rw [dw_all blank (by rw [List.all_reverse]; exact h)]; rfl
theorem sq_rt : ∀ (l : List Nat) (p : Bool), rtrimL (sqr p l) = sqr p (rtrimL l)
  | [], p => by cases p <;> rfl
  | a :: t, p => by
    rw [sqr_cons, rt_cons a t]
    by_cases h : blank a = true
    · rw [if_pos h, if_pos h]
      cases p
      · rw [if_neg (by decide), rt_cons, sq_all, if_pos blank32, sq_rt t true]
        by_cases hb : t.all blank = true
        · rw [if_pos hb, if_pos hb]; rfl
        · rw [if_neg hb, if_neg hb, sqr_cons, if_pos h, if_neg (by decide)]
      · rw [if_pos rfl, sq_rt t true]
        by_cases hb : t.all blank = true
        · rw [if_pos hb, rt_nil hb]
        · rw [if_neg hb, sqr_cons, if_pos h, if_pos rfl]
    · rw [if_neg h, if_neg h, rt_cons, sq_all, if_neg h, sq_rt t false]
      by_cases hb : t.all blank = true
      · rw [if_pos hb, if_pos hb, sqr_cons, if_neg h]; cases p <;> rfl
      · rw [if_neg hb, if_neg hb, sqr_cons, if_neg h]
theorem sq_map (g : Nat → Nat) (hg : ∀ c, blank (g c) = blank c) (h32 : g 32 = 32) : ∀ (l : List Nat) (p : Bool), sqr p (l.map g) = (sqr p l).map g
  | [], p => by cases p <;> rfl
  | a :: t, p => by
    rw [List.map_cons, sqr_cons, sqr_cons, hg, sq_map g hg h32 t true, sq_map g hg h32 t false]
    by_cases h : blank a = true
    · rw [if_pos h, if_pos h]
      cases p
      · rw [if_neg (by decide), if_neg (by decide), List.map_cons, h32]
      · rw [if_pos rfl, if_pos rfl]
    · rw [if_neg h, if_neg h, List.map_cons]
theorem sq_nb : ∀ (l : List Nat) (p : Bool), sqr p (l.filter nb) = l.filter nb
  | [], p => by cases p <;> rfl
  | a :: t, p => by
    by_cases h : blank a = true
    · rw [List.filter_cons_of_neg (by unfold nb; rw [h]; decide), sq_nb t p]
    · rw [List.filter_cons_of_pos (by unfold nb; simp [h]), sqr_cons, if_neg h, sq_nb t false]
theorem nb_sq : ∀ (l : List Nat) (p : Bool), (sqr p l).filter nb = l.filter nb
  | [], p => by cases p <;> rfl
  | a :: t, p => by
    rw [sqr_cons]
    by_cases h : blank a = true
    · rw [if_pos h, List.filter_cons_of_neg (by unfold nb; rw [h]; decide)]
      cases p
      · rw [if_neg (by decide), List.filter_cons_of_neg (by decide), nb_sq t true]
      · rw [if_pos rfl, nb_sq t true]
    · rw [if_neg h, List.filter_cons_of_pos (by unfold nb; simp [h]), List.filter_cons_of_pos (by unfold nb; simp [h]), nb_sq t false]
theorem nb_lt : ∀ l : List Nat, (ltrimL l).filter nb = l.filter nb
  | [] => rfl
  | a :: t => by
    rw [lt_cons]
    by_cases h : blank a = true
    · rw [if_pos h, nb_lt t, List.filter_cons_of_neg (by unfold nb; rw [h]; decide)]
    · rw [if_neg h]
theorem lt_nb (l : List Nat) : ltrimL (l.filter nb) = l.filter nb := by
  cases e : l.filter nb with
  | nil => rfl
  | cons a t =>
    have : nb a = true := (List.mem_filter.mp (e ▸ List.mem_cons_self : a ∈ l.filter nb)).2
    rw [lt_cons, if_neg (by unfold nb at this; simpa using this)]
theorem rt_eq (l : List Nat) : rtrimL l = (ltrimL l.reverse).reverse := rfl
theorem nb_rt (l : List Nat) : (rtrimL l).filter nb = l.filter nb := by
  rw [rt_eq, List.filter_reverse, nb_lt, List.filter_reverse, List.reverse_reverse]
theorem rt_nb (l : List Nat) : rtrimL (l.filter nb) = l.filter nb := by
  rw [rt_eq, ← List.filter_reverse, lt_nb, List.filter_reverse, List.reverse_reverse]
theorem lt_idem : ∀ l : List Nat, ltrimL (ltrimL l) = ltrimL l
  | [] => rfl
  | a :: t => by
    rw [lt_cons]
    by_cases h : blank a = true
    · rw [if_pos h, lt_idem t]
    · rw [if_neg h, lt_cons, if_neg h]
theorem rt_idem (l : List Nat) : rtrimL (rtrimL l) = rtrimL l := by
  rw [rt_eq, rt_eq, List.reverse_reverse, lt_idem]
theorem lt_map (g : Nat → Nat) (hg : ∀ c, blank (g c) = blank c) : ∀ l : List Nat, ltrimL (l.map g) = (ltrimL l).map g
  | [] => rfl
  | a :: t => by
    rw [List.map_cons, lt_cons, lt_cons, hg, lt_map g hg t]
    by_cases h : blank a = true
    · rw [if_pos h, if_pos h]
    · rw [if_neg h, if_neg h, List.map_cons]
theorem rt_map (g : Nat → Nat) (hg : ∀ c, blank (g c) = blank c) (l : List Nat) : rtrimL (l.map g) = (rtrimL l).map g := by
  rw [rt_eq, rt_eq, ← List.map_reverse, lt_map g hg, List.map_reverse]
theorem nb_map (g : Nat → Nat) (hg : ∀ c, blank (g c) = blank c) (l : List Nat) : (l.map g).filter nb = (l.filter nb).map g := by
  rw [List.filter_map]
  congr 1
  congr 1
  funext c
  show nb (g c) = nb c
  unfold nb; rw [hg]
/-- the six edits, each done or not -/
def o2 (b : Bool) (l : List Nat) : List Nat := if b then l.filter nb else l
def o8 (b : Bool) (l : List Nat) : List Nat := if b then ltrimL l else l
def o16 (b : Bool) (l : List Nat) : List Nat := if b then sqr false l else l
def o32 (b : Bool) (l : List Nat) : List Nat := if b then l.map upC else l
def o64 (b : Bool) (l : List Nat) : List Nat := if b then l.map brC else l
def o128 (b : Bool) (l : List Nat) : List Nat := if b then rtrimL l else l
section
variable (a b : Bool) (l : List Nat)
theorem i2 : o2 a (o2 a l) = o2 a l := by cases a; rfl; show List.filter _ (List.filter _ _) = _; rw [List.filter_filter]; congr 1; funext c; exact Bool.and_self _
theorem i8 : o8 a (o8 a l) = o8 a l := by cases a; rfl; exact lt_idem l
theorem i16 : o16 a (o16 a l) = o16 a l := by cases a; rfl; exact sq_idem l false
theorem i32 : o32 a (o32 a l) = o32 a l := by cases a; rfl; show List.map _ (List.map _ _) = _; rw [List.map_map]; congr 1; funext c; exact up_up c
theorem i64 : o64 a (o64 a l) = o64 a l := by cases a; rfl; show List.map _ (List.map _ _) = _; rw [List.map_map]; congr 1; funext c; exact br_br c
theorem i128 : o128 a (o128 a l) = o128 a l := by cases a; rfl; exact rt_idem l
theorem c8_2 : o8 a (o2 b l) = o2 b (o8 a l) := by cases a <;> cases b <;> first | rfl | exact (lt_nb l).trans (nb_lt l).symm
theorem c16_2 : o16 a (o2 b l) = o2 b (o16 a l) := by cases a <;> cases b <;> first | rfl | exact (sq_nb l false).trans (nb_sq l false).symm
theorem c32_2 : o32 a (o2 b l) = o2 b (o32 a l) := by cases a <;> cases b <;> first | rfl | exact (nb_map upC bl_up l).symm
theorem c64_2 : o64 a (o2 b l) = o2 b (o64 a l) := by cases a <;> cases b <;> first | rfl | exact (nb_map brC bl_br l).symm
theorem c128_2 : o128 a (o2 b l) = o2 b (o128 a l) := by cases a <;> cases b <;> first | rfl | exact (rt_nb l).trans (nb_rt l).symm
theorem c16_8 : o16 a (o8 b l) = o8 b (o16 a l) := by cases a <;> cases b <;> first | rfl | exact (sq_lt l false).symm
theorem c32_8 : o32 a (o8 b l) = o8 b (o32 a l) := by cases a <;> cases b <;> first | rfl | exact (lt_map upC bl_up l).symm
theorem c64_8 : o64 a (o8 b l) = o8 b (o64 a l) := by cases a <;> cases b <;> first | rfl | exact (lt_map brC bl_br l).symm
theorem c128_8 : o128 a (o8 b l) = o8 b (o128 a l) := by cases a <;> cases b <;> first | rfl | exact (lr_comm l).symm
theorem c32_16 : o32 a (o16 b l) = o16 b (o32 a l) := by cases a <;> cases b <;> first | rfl | exact (sq_map upC bl_up rfl l false).symm
theorem c64_16 : o64 a (o16 b l) = o16 b (o64 a l) := by cases a <;> cases b <;> first | rfl | exact (sq_map brC bl_br rfl l false).symm
theorem c128_16 : o128 a (o16 b l) = o16 b (o128 a l) := by cases a <;> cases b <;> first | rfl | exact sq_rt l false
theorem c64_32 : o64 a (o32 b l) = o32 b (o64 a l) := by
  cases a <;> cases b <;> try rfl
  show List.map _ (List.map _ _) = List.map _ (List.map _ _)
  rw [List.map_map, List.map_map]; congr 1; funext c; exact (up_br c).symm
theorem c128_32 : o128 a (o32 b l) = o32 b (o128 a l) := by cases a <;> cases b <;> first | rfl | exact rt_map upC bl_up l
theorem c128_64 : o128 a (o64 b l) = o64 b (o128 a l) := by cases a <;> cases b <;> first | rfl | exact rt_map brC bl_br l
end
/-- edits at once are the six edits -/
theorem edSign_eq (b2 b32 b64 : Bool) (c : Nat) : edSign b2 b32 b64 c = if b2 && blank c then [] else [if b32 then upC (if b64 then brC c else c) else (if b64 then brC c else c)] := by
  unfold edSign
  by_cases h : (b2 && blank c) = true
  · rw [if_pos h, if_pos h]
  · rw [if_neg h, if_neg h]
    cases b64
    · rfl
    · by_cases h91 : c = 91
      · subst h91; cases b32 <;> rfl
      · by_cases h93 : c = 93
        · subst h93; cases b32 <;> rfl
        · have e : brC c = c := by unfold brC; rw [if_neg h91, if_neg h93]
          have n1 : (c == 91) = false := by simpa using h91
          have n2 : (c == 93) = false := by simpa using h93
          simp only [n1, n2, Bool.and_false, Bool.false_eq_true, if_false, if_true, e]
theorem edF_acc (b2 b16 b32 b64 : Bool) : ∀ (l acc : List Nat), l.foldl (edStep b2 b16 b32 b64) acc = acc ++ (if b16 then sqr (acc.getLast? == some 32) (o32 b32 (o64 b64 (o2 b2 l))) else o32 b32 (o64 b64 (o2 b2 l)))
  | [], acc => by
    have : o32 b32 (o64 b64 (o2 b2 [])) = [] := by cases b32 <;> cases b64 <;> cases b2 <;> rfl
    rw [this, List.foldl_nil]
    cases b16
    · rw [if_neg (by decide), List.append_nil]
    · rw [if_pos rfl]; cases (acc.getLast? == some 32) <;> exact (List.append_nil _).symm
  | c :: t, acc => by
    rw [List.foldl_cons, edF_acc b2 b16 b32 b64 t]
    by_cases h : (b2 && blank c) = true
    · have e1 : edStep b2 b16 b32 b64 acc c = acc := by unfold edStep; rw [edSign_eq, if_pos h]
      have e2 : o2 b2 (c :: t) = o2 b2 t := by
        obtain ⟨x1, x2⟩ := Bool.and_eq_true_iff.mp h
        unfold o2; rw [x1, if_pos rfl, if_pos rfl, List.filter_cons_of_neg (by unfold nb; rw [x2]; decide)]
      rw [e1, e2]
    · have e2 : o2 b2 (c :: t) = c :: o2 b2 t := by
        cases b2
        · rfl
        · have : blank c = false := by simpa using h
          unfold o2; rw [if_pos rfl, if_pos rfl, List.filter_cons_of_pos (by unfold nb; rw [this]; rfl)]
      generalize hd : (if b32 = true then upC (if b64 = true then brC c else c) else (if b64 = true then brC c else c)) = d
      have e3 : o32 b32 (o64 b64 (c :: o2 b2 t)) = d :: o32 b32 (o64 b64 (o2 b2 t)) := by rw [← hd]; cases b32 <;> cases b64 <;> rfl
      have e4 : edStep b2 b16 b32 b64 acc c = if b16 && blank d then (if acc.getLast? = some 32 then acc else acc ++ [32]) else acc ++ [d] := by unfold edStep; rw [edSign_eq, if_neg h, hd]
      rw [e2, e3, e4]
      cases b16
      · simp only [Bool.false_and, Bool.false_eq_true, if_false, List.append_assoc, List.singleton_append]
      · simp only [Bool.true_and, if_true]
        rw [sqr_cons]
        by_cases hb : blank d = true
        · rw [if_pos hb, if_pos hb]
          by_cases hl : acc.getLast? = some 32
          · rw [if_pos hl, hl]; rfl
          · have : (acc.getLast? == some 32) = false := by simpa using hl
            rw [if_neg hl, this, if_neg (by decide), List.append_assoc]
            congr 2
            have : ((acc ++ [32]).getLast? == some 32) = true := by simp
            rw [this]
            rfl
        · rw [if_neg hb, if_neg hb, List.append_assoc]
          congr 2
          have : ((acc ++ [d]).getLast? == some 32) = false := by
            simp only [List.getLast?_append, List.getLast?_singleton, Option.some_or]
            have hd2 : d ≠ 32 := fun e => hb (by rw [e]; rfl)
            simpa using hd2
          rw [this]
          rfl
theorem edL_eq (b2 b8 b16 b32 b64 b128 : Bool) (l : List Nat) : edL b2 b8 b16 b32 b64 b128 l = o16 b16 (o32 b32 (o64 b64 (o2 b2 (o128 b128 (o8 b8 l))))) := by
  show (edCut b8 b128 l).foldl (edStep b2 b16 b32 b64) [] = _
  rw [edF_acc, List.nil_append]
  have : edCut b8 b128 l = o128 b128 (o8 b8 l) := rfl
  rw [this]
  cases b16 <;> rfl
end Mine
end

section
open PySem PySem.W PyProof.Rows
namespace Mine
set_option linter.unusedVariables false
set_option maxRecDepth 10000
def flL (b2 b8 b16 b32 b64 b128 : Bool) : List Int := (if b2 then [2] else []) ++ ((if b8 then [8] else []) ++ ((if b16 then [16] else []) ++ ((if b32 then [32] else []) ++ ((if b64 then [64] else []) ++ (if b128 then [128] else [])))))
def flAll : List Int := [2, 8, 16, 32, 64, 128]
def edOne (f : Int) (l : List Nat) : List Nat := edL (f == 2) (f == 8) (f == 16) (f == 32) (f == 64) (f == 128) l
def foldEd (fs : List Int) (l : List Nat) : List Nat := fs.foldl (fun l f => edOne f l) l
theorem foldEd_snoc (fs : List Int) (f : Int) (l : List Nat) : foldEd (fs ++ [f]) l = edOne f (foldEd fs l) := by unfold foldEd; rw [List.foldl_append]; rfl
theorem foldEd_app (a b : List Int) (l : List Nat) : foldEd (a ++ b) l = foldEd b (foldEd a l) := by unfold foldEd; rw [List.foldl_append]
theorem one2 (l : List Nat) : edOne 2 l = o2 true l := by unfold edOne; rw [edL_eq]; rfl
theorem one8 (l : List Nat) : edOne 8 l = o8 true l := by unfold edOne; rw [edL_eq]; rfl
theorem one16 (l : List Nat) : edOne 16 l = o16 true l := by unfold edOne; rw [edL_eq]; rfl
theorem one32 (l : List Nat) : edOne 32 l = o32 true l := by unfold edOne; rw [edL_eq]; rfl
theorem one64 (l : List Nat) : edOne 64 l = o64 true l := by unfold edOne; rw [edL_eq]; rfl
theorem one128 (l : List Nat) : edOne 128 l = o128 true l := by unfold edOne; rw [edL_eq]; rfl
section
variable (b : Bool) (l : List Nat)
theorem m2 : foldEd (if b then [2] else []) l = o2 b l := by cases b; rfl; exact one2 l
theorem m8 : foldEd (if b then [8] else []) l = o8 b l := by cases b; rfl; exact one8 l
theorem m16 : foldEd (if b then [16] else []) l = o16 b l := by cases b; rfl; exact one16 l
theorem m32 : foldEd (if b then [32] else []) l = o32 b l := by cases b; rfl; exact one32 l
theorem m64 : foldEd (if b then [64] else []) l = o64 b l := by cases b; rfl; exact one64 l
theorem m128 : foldEd (if b then [128] else []) l = o128 b l := by cases b; rfl; exact one128 l
theorem rev1 (k : Int) : (if b then [k] else []).reverse = (if b then [k] else []) := by cases b <;> rfl
end
section
variable (b2 b8 b16 b32 b64 b128 : Bool) (l : List Nat)
theorem fold_whole : foldEd (flL b2 b8 b16 b32 b64 b128) l = edL b2 b8 b16 b32 b64 b128 l := by
  unfold flL
  rw [edL_eq, foldEd_app, foldEd_app, foldEd_app, foldEd_app, foldEd_app, m2, m8, m16, m32, m64, m128]
  simp only [c8_2, c16_2, c32_2, c64_2, c128_2, c16_8, c32_8, c64_8, c128_8, c32_16, c64_16, c128_16, c64_32, c128_32, c128_64]
theorem fold_back : foldEd (flL b2 b8 b16 b32 b64 b128).reverse l = edL b2 b8 b16 b32 b64 b128 l := by
  unfold flL
  rw [edL_eq]
  simp only [List.reverse_append, rev1, foldEd_app, m2, m8, m16, m32, m64, m128]
  simp only [c8_2, c16_2, c32_2, c64_2, c128_2, c16_8, c32_8, c64_8, c128_8, c32_16, c64_16, c128_16, c64_32, c128_32, c128_64]
theorem whole_twice : edL b2 b8 b16 b32 b64 b128 (edL b2 b8 b16 b32 b64 b128 l) = edL b2 b8 b16 b32 b64 b128 l := by
  rw [edL_eq, edL_eq]
  simp only [c8_2, c16_2, c32_2, c64_2, c128_2, c16_8, c32_8, c64_8, c128_8, c32_16, c64_16, c128_16, c64_32, c128_32, c128_64, i2, i8, i16, i32, i64, i128]
theorem flags_sum : Flags (flL b2 b8 b16 b32 b64 b128).sum b2 b8 b16 b32 b64 b128 := by
  have h : ∀ b2 b8 b16 b32 b64 b128 : Bool, (decide (0 ≤ (flL b2 b8 b16 b32 b64 b128).sum) && decide ((flL b2 b8 b16 b32 b64 b128).sum ≤ 255) && decide (Builtin.bitAnd (flL b2 b8 b16 b32 b64 b128).sum 1 = 0) && (b2 == decide (Builtin.bitAnd (flL b2 b8 b16 b32 b64 b128).sum 2 ≠ 0)) && decide (Builtin.bitAnd (flL b2 b8 b16 b32 b64 b128).sum 4 = 0) && (b8 == decide (Builtin.bitAnd (flL b2 b8 b16 b32 b64 b128).sum 8 ≠ 0)) && (b16 == decide (Builtin.bitAnd (flL b2 b8 b16 b32 b64 b128).sum 16 ≠ 0)) && (b32 == decide (Builtin.bitAnd (flL b2 b8 b16 b32 b64 b128).sum 32 ≠ 0)) && (b64 == decide (Builtin.bitAnd (flL b2 b8 b16 b32 b64 b128).sum 64 ≠ 0)) && (b128 == decide (Builtin.bitAnd (flL b2 b8 b16 b32 b64 b128).sum 128 ≠ 0)) && decide (Builtin.bitAnd (flL b2 b8 b16 b32 b64 b128).sum 256 = 0)) = true := by decide +kernel
  have := h b2 b8 b16 b32 b64 b128
  simp only [Bool.and_eq_true, decide_eq_true_eq, beq_iff_eq] at this
  obtain ⟨⟨⟨⟨⟨⟨⟨⟨⟨⟨h1, h2⟩, h3⟩, h4⟩, h5⟩, h6⟩, h7⟩, h8⟩, h9⟩, h10⟩, h11⟩ := this
  exact ⟨h1, h2, h3, h4, h5, h6, h7, h8, h9, h10, h11⟩
theorem fl_mem : ∀ f ∈ flL b2 b8 b16 b32 b64 b128, f ∈ flAll := by
  intro f hf
  unfold flL at hf
  simp only [List.mem_append] at hf
  have h : ∀ (b : Bool) (k : Int), f ∈ (if b then [k] else []) → f = k := fun b k h => by
    cases b
    · cases h
    · exact List.mem_singleton.mp h
  unfold flAll
  rcases hf with hf | hf | hf | hf | hf | hf <;> rw [h _ _ hf] <;> decide
theorem fl_len : (flL b2 b8 b16 b32 b64 b128).length ≤ 6 := by
  unfold flL; cases b2 <;> cases b8 <;> cases b16 <;> cases b32 <;> cases b64 <;> cases b128 <;> decide
end
theorem flags_one {f : Int} (h : f ∈ flAll) : Flags f (f == 2) (f == 8) (f == 16) (f == 32) (f == 64) (f == 128) := by
  unfold flAll at h
  simp only [List.mem_cons, List.not_mem_nil, or_false] at h
  rcases h with h | h | h | h | h | h <;> subst h <;> exact ⟨by decide, by decide, by decide, by decide, by decide, by decide, by decide, by decide, by decide, by decide, by decide⟩
end Mine
end

section
open PySem PySem.W PyProof.Rows
namespace Mine
theorem c_text_val (wa wd : Addr) (es : List DictEntry) (n : Nat) (td : Tok) (hes : getL (PySem.Str.ofString "digits") es = some (some (.int 9 td))) (l : Addr) (lc : Nat) (x : PySem.Str) (tx : Tok) (c : Nat) (e : Int) (hx : C x = 45 :: szL c e) (h0 : 100 ≤ c) (h1 : c ≤ 9999) (hm9 : c % 10 = 9) (he0 : -3 ≤ e) (he1 : e ≤ 0) :
    ClT 5 220 [.ref wa, .ref l] [(l, listOf #[.str x tx] lc), (wa, instObj 302 wd), (wd, dictOf es n)] (fun us => ∃ t1 t2, us = [.int (-(c : Int)) t1, .int e t2]) := by
  by_cases h : e = 0
  · exact c_text_val0 wa wd es n td hes l lc x tx c e hx h0 h1 hm9 h
  · exact c_text_valK wa wd es n td hes l lc x tx c e hx h0 h1 hm9 (-e) (by omega) (by omega) (by omega)
theorem c_text_str1 (cf : Int) (wa wd : Addr) (es : List DictEntry) (n : Nat) (td : Tok) (hes : getL (PySem.Str.ofString "digits") es = some (some (.int 9 td))) (l : Addr) (lc : Nat) (av : Addr) (c : Nat) (hcf : cf = -(c : Int)) (tc : Tok) (e : Int) (te : Tok) (h0 : 100 ≤ c) (h1 : c ≤ 9999) (he0 : -3 ≤ e) (he1 : e ≤ 0) :
    Cl 5 253 [.ref wa, .ref l] [(l, listOf #[.ref av] lc), (av, tup [.int cf tc, .int e te]), (wa, instObj 302 wd), (wd, dictOf es n)] (.str (S (45 :: szL c e))) ((S (45 :: szL c e)).length ≤ 6) := by
  subst hcf
  exact c_text_str wa wd es n td hes l lc av c tc e te h0 h1 he0 he1
end Mine
end

section
open PySem PySem.W PyProof.Rows
namespace Mine
set_option linter.unusedSimpArgs false
set_option linter.unusedVariables false
set_option maxRecDepth 100000
set_option maxHeartbeats 8000000
theorem draw_out {k0 x many : Int} (h : 1 ≤ many) (t : Tok) : k0 + 1 = k0 + 1 ∧ ∃ (y : Int) (u : Tok), Value.int (x.fmod many) t = .int y u ∧ 0 ≤ y ∧ y < many :=
  ⟨rfl, _, _, rfl, by rw [Int.fmod_eq_emod_of_nonneg _ (by omega)]; exact Int.emod_nonneg _ (by omega), Int.fmod_lt_of_pos _ (by omega)⟩
theorem c_draw (jr cl : Addr) (many : Int) (tm : Tok) (its : List Value) (ns : List Int) (c : Nat) (hI : IntsAre its ns) (hl : ns.length ≤ 40) (mr k0 : Int) (h0 : 0 ≤ k0) (h1 : k0 ≤ 100) (hm0 : 0 ≤ mr) (hm1 : mr ≤ 30) (hmn0 : 1 ≤ many) (hmn1 : many ≤ 100) :
    ClJ 1 313 [.ref jr, .int many tm] jr cl (listOf its.toArray c) mr k0 (fun v k1 => k1 = k0 + 1 ∧ ∃ x t, v = .int x t ∧ 0 ≤ x ∧ x < many) := by
  k_with_none
  unfold ClJ KH PG
  k_fill
  intro w loose mean mg mb news dp un gd cn cs a ccd cl outer A₀ base h₀ L m s Q E jo gg B F X N hU hown hcj J T hk hd hu hret
  have N0 := news_subJ N hU hown
  obtain ⟨tj1, tj2, hjd⟩ := J
  refine wpAny_call ?_
  k_dflt (refine' code_defG ?k1 ?k2 ?k3 ?k4 ?k5 ?kA ?kF ?kK ?k6 ?k7 ?k8 ?k9 ?kB ?_ ?c2 ?c3 ?c4 ?c5; (case kA => exact rfl); (case kF => exact rfl); (case kK => exact hk); (case k1 => exact B); (case k2 => exact F); (case k3 => exact X); (case k4 => exact N0); (case k5 => exact T); (case k6 => k_is); (case k7 => k_is); (case k8 => ktr_room); (case k9 => exact BindsTo.of_eq rfl); (case c5 => decide); (case kB => exact locs rfl); (case c2 => exact rfl); (case c3 => exact rfl); (case c4 => exact rfl); k_whole)
  intro g' L' h' FG' F' N' B' X' T' kG0
  have kG' := GKeep.mk kG0
  clear kG0
  (try dsimp only)
  (try k_lift B')
  (try k_fold)
  clear N0
  k_steps
  · (exact hret _ _ _ _ _ (draw_out hmn0 _) (by first | assumption | exact ⟨_, _, by assumption⟩) (by k_asm) (news_backJ N hU hown kG' (by with_reducible assumption) (by with_reducible assumption) (by k_memK) (by k_memK)))
  · (exact hret _ _ _ _ _ (draw_out hmn0 _) (by first | assumption | exact ⟨_, _, by assumption⟩) (by k_asm) (news_backJ N hU hown kG' (by with_reducible assumption) (by with_reducible assumption) (by k_memK) (by k_memK)))
end Mine
end

section
open PySem PySem.W PyProof.Rows
namespace Mine
set_option linter.unusedSimpArgs false
set_option linter.unusedVariables false
set_option maxRecDepth 100000
set_option maxHeartbeats 8000000
theorem size_one {n : Int} (h0 : 0 ≤ n) : Builtin.Range.rangeSize 0 n 1 = ((n.toNat : Nat) : Int) := by
  have := rangeSize_nat 0 n
  rw [this]; congr 1; omega
theorem c_law_text (jr cl : Addr) (most : Int) (tm : Tok) (its : List Value) (ns : List Int) (c : Nat) (hI : IntsAre its ns) (hl : ns.length ≤ 40) (mr k0 : Int) (h0 : 0 ≤ k0) (h1 : k0 ≤ 50) (hm0 : 0 ≤ mr) (hm1 : mr ≤ 30) (hmn0 : 0 ≤ most) (hmn1 : most ≤ 9) :
    ClJ 2 318 [.ref jr, .int most tm] jr cl (listOf its.toArray c) mr k0 (fun v k1 => (k0 + 1 ≤ k1 ∧ k1 ≤ k0 + 1 + most) ∧ ∃ l t, v = .str (S l) t ∧ (l.length : Int) ≤ most ∧ ∀ c ∈ l, c ∈ drawnL) := by
  k_with_none
  k_with "my call" => first
    | (k_dflt (refine' ClJ.use (c_draw _ _ _ _ its ns c (by assumption) hl mr k0 (by omega) (by omega) hm0 hm1 (by omega) (by omega)) (by k_asm) (by k_asm) (by k_asm) (by k_asm) (by k_updF) (by k_memK) (by k_ne) (by first | assumption | exact ⟨_, _, by assumption⟩) (by k_asm) (by first | exact rfl | assumption) (by ktr_room) (by ktr_units) ?_); k_whole; intro v9 k9 jo9 h9 tk9 P9 J9 F9 N9; (obtain ⟨e9, x9, t9, ev9, lo9, hi9⟩ := P9); (subst ev9); (subst e9); (try dsimp only at N9); (try dsimp only); (try k_fold); (try k_sweep))
    | (k_dflt (refine' ClJ.use (c_draw _ _ _ _ its ns c (by assumption) hl mr (k0 + 1 + (i5 : Int)) (by first | exact hb5.1 | omega) (by first | exact hb5.2 | omega) hm0 hm1 (by omega) (by omega)) (by k_asm) (by k_asm) (by k_asm) (by k_asm) (by k_updF) (by k_memK) (by k_ne) (by first | assumption | exact ⟨_, _, by assumption⟩) (by k_asm) (by first | exact rfl | assumption) (by ktr_room) (by ktr_units) ?_); k_whole; intro v9 k9 jo9 h9 tk9 P9 J9 F9 N9; (obtain ⟨e9, x9, t9, ev9, lo9, hi9⟩ := P9); (subst ev9); (subst e9); (try dsimp only at N9); (try dsimp only); (try k_fold); (try k_sweep))
  k_with "my csrc" =>
    (rename IsRange _ _ _ _ _ _ _ _ => rgX)
    k_dflt (refine LCg.CompSrc.range (n := x9.toNat) (by rfl) (by k_asm) (by k_asm) (by first | exact rgX | assumption) (small_one (by omega) (by omega) (by omega) (by omega)) (size_one (by omega)) (by rw [PySem.sizeLine_eq]; omega) ?_)
    (intro g5)
    k_dflt (refine rest_jar (jo := jo9) (fun o => [(_, _), (jr, o), (_, _)]) (k0 + 1) J9 ?_ ?_)
    (intro i5 jo5 I5 oI5 D5 oC5 A5 m5 ys h tk E5 hi5 J5 hC5 F5 N5 off5 ne5; (try dsimp only at N5); (try dsimp only at off5); have hb5 : 0 ≤ k0 + 1 + (i5 : Int) ∧ k0 + 1 + (i5 : Int) ≤ 100 := (by clear off5 ne5; omega); have off6 := off5; simp only [LCg.Off3, and_true] at off6; (try k_fold))
    rotate_left
    (intro ys l5 jo5 hys hl5 hd5 J5; unfold LCg.FinE; intro A6 h6 tk6 F6 N6 off6; (try dsimp only at N6); (try dsimp only); (try k_fold))
    rotate_left
  k_with "my item" =>
    k_dflt (refine KXi.item (n := 10) drawn_len (by omega) (by omega) (by omega) ?_)
    intro kxiE
  k_with "my cend" =>
    (obtain ⟨cc, hcc, hcd⟩ := drawn_at lo9 hi9)
    rw [hcc]
    k_dflt (exact LCg.CompEnd.intro F9 N9 _ (fun p hp => hp) off5 trivial ⟨_, rfl, by assumption, _, _, rfl, hcd⟩)
  k_with "my join" =>
    k_dflt (refine join_texts (by k_asm) (by k_mem) hys (by omega) ?_)
    intro t9 k9
  unfold ClJ KH PG
  k_fill
  intro w loose mean mg mb news dp un gd cn cs a ccd cl outer A₀ base h₀ L m s Q E jo gg B F X N hU hown hcj J T hk hd hu hret
  have N0 := news_subJ N hU hown
  obtain ⟨tj1, tj2, hjd⟩ := J
  refine wpAny_call ?_
  k_dflt (refine' enter_cells ?k1 ?k2 ?k3 ?k4 ?k5 ?kA ?kF ?kK ?k6 ?k7 ?k8 ?k9 ?kB ?kD ?_ ?c2 ?c3 ?c4; (case kA => exact rfl); (case kF => exact rfl); (case kK => exact hk); (case k1 => exact B); (case k2 => exact F); (case k3 => exact X); (case k4 => exact N0); (case k5 => exact T); (case k6 => k_is); (case k7 => k_is); (case k8 => ktr_room); (case k9 => exact BindsTo.of_eq rfl); (case kB => exact rfl); (case kD => decide +kernel); (case c2 => exact rfl); (case c3 => exact rfl); (case c4 => exact rfl); k_whole)
  intro g' L' h' tk' cells' kG' FG' F' N' Y' B' X' T' l1
  (try k_lt l1)
  k_cells Y'
  (try simp only [List.cons_append, List.nil_append] at N')
  (try dsimp only)
  (try k_lift B')
  (try k_fold)
  clear N0
  k_steps
  (exact hret _ _ _ _ _ (text_out hl5 (by omega) hd5 _) (by first | assumption | exact ⟨_, _, by assumption⟩) (by k_asm) (news_backJ N hU hown kG' (by with_reducible assumption) (by with_reducible assumption) (by k_memK) (by k_memK)))
end Mine
end

section
open PySem PySem.W PyProof.Rows
namespace Mine
set_option linter.unusedSimpArgs false
set_option linter.unusedVariables false
set_option maxRecDepth 100000
set_option maxHeartbeats 8000000
theorem c_cuts (v : Value) (x : PySem.Str) (tx : Tok) (one : Int) (t1 : Tok) (two : Int) (t2 : Tok) (hx : x.length ≤ 9) (h0 : 1 ≤ one) (h1 : one ≤ 11) (h2 : 1 ≤ two) (h3 : two ≤ 11) :
    Cl 4 325 [v, .str x tx, .int one t1, .int two t2] [] (fun _ => .bool true) True := by
  refine ⟨?_, trivial⟩
  have f1 := bne_no (cut_lm x h0 (by omega))
  have f3 := bne_no (cut_seg x (b := two) h0 (by omega) (by omega))
  have f4 := bne_no (cut_mm x h0 h2 (by omega))
  have f5 := bne_no (cut_ll x h0 h2)
  k_with_none
  k_with "my call" => first
    | (k_dflt (refine' Cl.useO (by k_asm) (by k_asm) (by first | exact List.forall_mem_nil _ | k_allIn) (c_text_left _ _ _ _ _ _ _ (by omega) (by omega) (by omega)) (by k_asm) (by k_asm) (by k_asm) (by first | exact rfl | assumption) (by ktr_room) (by ktr_units) ?_); k_whole; intro t9 h9 tk9 F9 N9 P9; (try dsimp only); (try k_fold); (try k_sweep))
    | (k_dflt (refine' Cl.useO (by k_asm) (by k_asm) (by first | exact List.forall_mem_nil _ | k_allIn) (c_text_right _ _ _ _ _ _ _ (by omega) (by omega) (by omega)) (by k_asm) (by k_asm) (by k_asm) (by first | exact rfl | assumption) (by ktr_room) (by ktr_units) ?_); k_whole; intro t9 h9 tk9 F9 N9 P9; (try dsimp only); (try k_fold); (try k_sweep))
    | (k_dflt (refine' Cl.useO (by k_asm) (by k_asm) (by first | exact List.forall_mem_nil _ | k_allIn) (c_text_mid2 _ _ _ _ _ _ _ (by omega) (by omega) (by omega)) (by k_asm) (by k_asm) (by k_asm) (by first | exact rfl | assumption) (by ktr_room) (by ktr_units) ?_); k_whole; intro t9 h9 tk9 F9 N9 P9; (try dsimp only); (try k_fold); (try k_sweep))
    | (k_dflt (refine' Cl.useO (by k_asm) (by k_asm) (by first | exact List.forall_mem_nil _ | k_allIn) (c_text_mid3 _ _ _ _ _ _ _ _ _ (by omega) (by omega) (by omega) (by omega) (by omega)) (by k_asm) (by k_asm) (by k_asm) (by first | exact rfl | assumption) (by ktr_room) (by ktr_units) ?_); k_whole; intro t9 h9 tk9 F9 N9 P9; (try dsimp only); (try k_fold); (try k_sweep))
    | (k_dflt (refine' Cl.useO (by k_asm) (by k_asm) (by first | exact List.forall_mem_nil _ | k_allIn) (c_text_seg _ _ _ _ _ _ _ _ _ (by omega) (by omega) (by omega) (by omega) (by omega)) (by k_asm) (by k_asm) (by k_asm) (by first | exact rfl | assumption) (by ktr_room) (by ktr_units) ?_); k_whole; intro t9 h9 tk9 F9 N9 P9; (try dsimp only); (try k_fold); (try k_sweep))
  k_with "my if" =>
    (fail_if_success (with_reducible show wpAny _ _ _ (CutAt _ _ _ _ _) _ _))
    k_dflt (refine cut_if (by k_asm) [] ?_ ?_)
    rotate_left
    (intro h9 tk9 F9 N9; (try dsimp only); (try k_fold); (try k_sweep))
    rotate_left
  (first | unfold Cl0 KH PG | unfold ClT KH PG)
  k_fill
  intro w loose mean mg mb news dp un gd cn cs a ccd cl outer A₀ base h₀ L m s Q E B F X N hown T hk hd hu hret
  have N0 := news_sub N hown
  refine wpAny_call ?_
  k_dflt (refine' code_defG ?k1 ?k2 ?k3 ?k4 ?k5 ?kA ?kF ?kK ?k6 ?k7 ?k8 ?k9 ?kB ?_ ?c2 ?c3 ?c4 ?c5; (case kA => exact rfl); (case kF => exact rfl); (case kK => exact hk); (case k1 => exact B); (case k2 => exact F); (case k3 => exact X); (case k4 => exact N0); (case k5 => exact T); (case k6 => k_is); (case k7 => k_is); (case k8 => ktr_room); (case k9 => exact BindsTo.of_eq rfl); (case c5 => decide); (case kB => exact locs rfl); (case c2 => exact rfl); (case c3 => exact rfl); (case c4 => exact rfl); k_whole)
  intro g' L' h' FG' F' N' B' X' T' kG0
  have kG' := GKeep.mk kG0
  clear kG0
  (try dsimp only)
  (try k_lift B')
  (try k_fold)
  clear N0
  k_steps
  
  all_goals first
    | (exfalso; exact absurd (cut_r1 x (by assumption)) (bne_iff_ne.mp (by assumption)))
    | (exfalso; exact absurd (cut_r2 x (by assumption) h0 (by omega)) (bne_iff_ne.mp (by assumption)))
    | exact CutAt.intro (by k_asm) (by with_reducible assumption) (by first | exact List.forall_mem_nil _ | k_allIn)
    | (exact ret_b hret (cut_ms x h0 h2) (by k_asm) (news_back N hown kG' (by with_reducible assumption) (by first | k_asm | exact news_sub (by with_reducible assumption) (by k_allIn))))
end Mine
end

section
open PySem PySem.W PyProof.Rows
namespace Mine
set_option linter.unusedSimpArgs false
set_option linter.unusedVariables false
set_option maxRecDepth 100000
set_option maxHeartbeats 8000000
theorem c_finds_A (v : Value) (x : PySem.Str) (tx : Tok) (p : PySem.Str) (tp : Tok) (n : Int) (tn : Tok) (hx : x.length ≤ 9) (hp : p.length ≤ 9) (h0 : 1 ≤ n) (h1 : n ≤ 11) (hp0 : p.length = 0) :
    Cl 4 332 [v, .str x tx, .str p tp, .int n tn] [] (fun _ => .bool true) True := by
  refine ⟨?_, trivial⟩
  have f1 : (p == PySem.Str.ofString "") = true := by rw [beq_iff_eq]; exact eq_C (by rw [C_nil]; exact List.length_eq_zero_iff.mp (by rw [← len_C]; exact hp0))
  have f2 := fd_nil (x := x) (p := p) h0 hp0
  k_with_none
  k_with "my call" => first
    | (k_dflt (refine' Cl.use (c_found_at _ _ _ _ _ _ (by omega) (by omega) (by omega) (by omega)) (by k_asm) (by k_asm) (by k_asm) (by k_asm) (by k_asm) (by first | exact rfl | assumption) (by first | exact List.forall_mem_nil _ | k_allIn) (by ktr_room) (by ktr_units) ?_); k_whole; intro t9 h9 tk9 F9 N9 P9; (try dsimp only); (try k_fold); (try k_sweep))
  (first | unfold Cl0 KH PG | unfold ClT KH PG)
  k_fill
  intro w loose mean mg mb news dp un gd cn cs a ccd cl outer A₀ base h₀ L m s Q E B F X N hown T hk hd hu hret
  have N0 := news_sub N hown
  refine wpAny_call ?_
  k_dflt (refine' code_defG ?k1 ?k2 ?k3 ?k4 ?k5 ?kA ?kF ?kK ?k6 ?k7 ?k8 ?k9 ?kB ?_ ?c2 ?c3 ?c4 ?c5; (case kA => exact rfl); (case kF => exact rfl); (case kK => exact hk); (case k1 => exact B); (case k2 => exact F); (case k3 => exact X); (case k4 => exact N0); (case k5 => exact T); (case k6 => k_is); (case k7 => k_is); (case k8 => ktr_room); (case k9 => exact BindsTo.of_eq rfl); (case c5 => decide); (case kB => exact locs rfl); (case c2 => exact rfl); (case c3 => exact rfl); (case c4 => exact rfl); k_whole)
  intro g' L' h' FG' F' N' B' X' T' kG0
  have kG' := GKeep.mk kG0
  clear kG0
  (try dsimp only)
  (try k_lift B')
  (try k_fold)
  clear N0
  k_steps
  
  all_goals (exact ret_b hret (by rw [f2]; simp [*]) (by k_asm) (news_back N hown kG' (by with_reducible assumption) (by first | k_asm | exact news_sub (by with_reducible assumption) (by k_allIn))))
theorem c_finds_B (v : Value) (x : PySem.Str) (tx : Tok) (p : PySem.Str) (tp : Tok) (n : Int) (tn : Tok) (hx : x.length ≤ 9) (hp : p.length ≤ 9) (h0 : 1 ≤ n) (h1 : n ≤ 11) (hp0 : 1 ≤ p.length) (hs : ((foundL (C x) (C p) n.toNat : Nat) : Int) = 0) :
    Cl 4 332 [v, .str x tx, .str p tp, .int n tn] [] (fun _ => .bool true) True := by
  refine ⟨?_, trivial⟩
  have f1 : ¬ ((p == PySem.Str.ofString "") = true) := by rw [ne_nil hp0]; simp
  have f2 := fd_tail (x := x) (p := p) h0 (by omega) hp0 hs
  have f3 := fd_glue (p := p) hp0 (S (midL (C x) n 255))
  k_with_none
  k_with "my call" => first
    | (k_dflt (refine' Cl.use (c_found_at _ _ _ _ _ _ (by omega) (by omega) (by omega) (by omega)) (by k_asm) (by k_asm) (by k_asm) (by k_asm) (by k_asm) (by first | exact rfl | assumption) (by first | exact List.forall_mem_nil _ | k_allIn) (by ktr_room) (by ktr_units) ?_); k_whole; intro t9 h9 tk9 F9 N9 P9; (try dsimp only); (try k_fold); (try k_sweep))
    | (k_dflt (refine' Cl.useO (by k_asm) (by k_asm) (by first | exact List.forall_mem_nil _ | k_allIn) (c_text_mid2 _ _ _ _ _ _ _ (by omega) (by omega) (by omega)) (by k_asm) (by k_asm) (by k_asm) (by first | exact rfl | assumption) (by ktr_room) (by ktr_units) ?_); k_whole; intro t9 h9 tk9 F9 N9 P9; (try dsimp only); (try k_fold); (try k_sweep))
  (first | unfold Cl0 KH PG | unfold ClT KH PG)
  k_fill
  intro w loose mean mg mb news dp un gd cn cs a ccd cl outer A₀ base h₀ L m s Q E B F X N hown T hk hd hu hret
  have N0 := news_sub N hown
  refine wpAny_call ?_
  k_dflt (refine' code_defG ?k1 ?k2 ?k3 ?k4 ?k5 ?kA ?kF ?kK ?k6 ?k7 ?k8 ?k9 ?kB ?_ ?c2 ?c3 ?c4 ?c5; (case kA => exact rfl); (case kF => exact rfl); (case kK => exact hk); (case k1 => exact B); (case k2 => exact F); (case k3 => exact X); (case k4 => exact N0); (case k5 => exact T); (case k6 => k_is); (case k7 => k_is); (case k8 => ktr_room); (case k9 => exact BindsTo.of_eq rfl); (case c5 => decide); (case kB => exact locs rfl); (case c2 => exact rfl); (case c3 => exact rfl); (case c4 => exact rfl); k_whole)
  intro g' L' h' FG' F' N' B' X' T' kG0
  have kG' := GKeep.mk kG0
  clear kG0
  (try dsimp only)
  (try k_lift B')
  (try k_fold)
  clear N0
  k_steps
  
  all_goals first | (exfalso; omega) | (exact ret_b hret (decide_eq_true f3) (by k_asm) (news_back N hown kG' (by with_reducible assumption) (by first | k_asm | exact news_sub (by with_reducible assumption) (by k_allIn))))
theorem c_finds_C (v : Value) (x : PySem.Str) (tx : Tok) (p : PySem.Str) (tp : Tok) (n : Int) (tn : Tok) (hx : x.length ≤ 9) (hp : p.length ≤ 9) (h0 : 1 ≤ n) (h1 : n ≤ 11) (hp0 : 1 ≤ p.length) (hs : ((foundL (C x) (C p) n.toNat : Nat) : Int) ≠ 0) :
    Cl 4 332 [v, .str x tx, .str p tp, .int n tn] [] (fun _ => .bool true) True := by
  refine ⟨?_, trivial⟩
  have f1 : ¬ ((p == PySem.Str.ofString "") = true) := by rw [ne_nil hp0]; simp
  have f2 := fd_from (x := x) (p := p) h0 hs
  have f3 := fd_room (x := x) (p := p) hp0 hs
  have f4 := bne_no (fd_there (x := x) (p := p) hs)
  have f5 := fd_left (x := x) (p := p) h0 hp0 hs
  k_with_none
  k_with "my call" => first
    | (k_dflt (refine' Cl.use (c_found_at _ _ _ _ _ _ (by omega) (by omega) (by omega) (by omega)) (by k_asm) (by k_asm) (by k_asm) (by k_asm) (by k_asm) (by first | exact rfl | assumption) (by first | exact List.forall_mem_nil _ | k_allIn) (by ktr_room) (by ktr_units) ?_); k_whole; intro t9 h9 tk9 F9 N9 P9; (try dsimp only); (try k_fold); (try k_sweep))
    | (k_dflt (refine' Cl.useO (by k_asm) (by k_asm) (by first | exact List.forall_mem_nil _ | k_allIn) (c_text_mid3 _ _ _ _ _ _ _ _ _ (by omega) (by omega) (by omega) (by omega) (by omega)) (by k_asm) (by k_asm) (by k_asm) (by first | exact rfl | assumption) (by ktr_room) (by ktr_units) ?_); k_whole; intro t9 h9 tk9 F9 N9 P9; (try dsimp only); (try k_fold); (try k_sweep))
    | (k_dflt (refine' Cl.useO (by k_asm) (by k_asm) (by first | exact List.forall_mem_nil _ | k_allIn) (c_text_left _ _ _ _ _ _ _ (by omega) (by omega) (by omega)) (by k_asm) (by k_asm) (by k_asm) (by first | exact rfl | assumption) (by ktr_room) (by ktr_units) ?_); k_whole; intro t9 h9 tk9 F9 N9 P9; (try dsimp only); (try k_fold); (try k_sweep))
  (first | unfold Cl0 KH PG | unfold ClT KH PG)
  k_fill
  intro w loose mean mg mb news dp un gd cn cs a ccd cl outer A₀ base h₀ L m s Q E B F X N hown T hk hd hu hret
  have N0 := news_sub N hown
  refine wpAny_call ?_
  k_dflt (refine' code_defG ?k1 ?k2 ?k3 ?k4 ?k5 ?kA ?kF ?kK ?k6 ?k7 ?k8 ?k9 ?kB ?_ ?c2 ?c3 ?c4 ?c5; (case kA => exact rfl); (case kF => exact rfl); (case kK => exact hk); (case k1 => exact B); (case k2 => exact F); (case k3 => exact X); (case k4 => exact N0); (case k5 => exact T); (case k6 => k_is); (case k7 => k_is); (case k8 => ktr_room); (case k9 => exact BindsTo.of_eq rfl); (case c5 => decide); (case kB => exact locs rfl); (case c2 => exact rfl); (case c3 => exact rfl); (case c4 => exact rfl); k_whole)
  intro g' L' h' FG' F' N' B' X' T' kG0
  have kG' := GKeep.mk kG0
  clear kG0
  (try dsimp only)
  (try k_lift B')
  (try k_fold)
  clear N0
  k_steps
  
  all_goals first | (exfalso; omega) | (exact ret_b hret (beq_iff_eq.mpr f5) (by k_asm) (news_back N hown kG' (by with_reducible assumption) (by first | k_asm | exact news_sub (by with_reducible assumption) (by k_allIn))))
theorem c_finds (v : Value) (x : PySem.Str) (tx : Tok) (p : PySem.Str) (tp : Tok) (n : Int) (tn : Tok) (hx : x.length ≤ 9) (hp : p.length ≤ 9) (h0 : 1 ≤ n) (h1 : n ≤ 11) :
    Cl 4 332 [v, .str x tx, .str p tp, .int n tn] [] (fun _ => .bool true) True := by
  by_cases hp0 : p.length = 0
  · exact c_finds_A v x tx p tp n tn hx hp h0 h1 hp0
  · by_cases hs : ((foundL (C x) (C p) n.toNat : Nat) : Int) = 0
    · exact c_finds_B v x tx p tp n tn hx hp h0 h1 (by omega) hs
    · exact c_finds_C v x tx p tp n tn hx hp h0 h1 (by omega) hs
end Mine
end

section
open PySem PySem.W PyProof.Rows
namespace Mine
set_option linter.unusedSimpArgs false
set_option linter.unusedVariables false
set_option maxRecDepth 100000
set_option maxHeartbeats 8000000
theorem c_letters (v : Value) (x : PySem.Str) (tx : Tok) (hx : x.length ≤ 9) :
    Cl 3 346 [v, .str x tx] [] (fun _ => .bool true) True := by
  refine ⟨?_, trivial⟩
  have f1 := bne_no (let_ul x)
  have f2 := bne_no (let_lu x)
  have f3 := bne_no (let_uu x)
  k_with_none
  k_with "my call" => first
    | (k_dflt (refine' Cl.useO (by k_asm) (by k_asm) (by first | exact List.forall_mem_nil _ | k_allIn) (c_ucase _ _ _ _ _ (by omega)) (by k_asm) (by k_asm) (by k_asm) (by first | exact rfl | assumption) (by ktr_room) (by ktr_units) ?_); k_whole; intro t9 h9 tk9 F9 N9 P9; (try dsimp only); (try k_fold); (try k_sweep))
    | (k_dflt (refine' Cl.useO (by k_asm) (by k_asm) (by first | exact List.forall_mem_nil _ | k_allIn) (c_lcase _ _ _ _ _ (by omega)) (by k_asm) (by k_asm) (by k_asm) (by first | exact rfl | assumption) (by ktr_room) (by ktr_units) ?_); k_whole; intro t9 h9 tk9 F9 N9 P9; (try dsimp only); (try k_fold); (try k_sweep))
    | (k_dflt (refine' Cl.useO (by k_asm) (by k_asm) (by first | exact List.forall_mem_nil _ | k_allIn) (c_ltrim _ _ _ _ _ (by omega)) (by k_asm) (by k_asm) (by k_asm) (by first | exact rfl | assumption) (by ktr_room) (by ktr_units) ?_); k_whole; intro t9 h9 tk9 F9 N9 P9; (try dsimp only); (try k_fold); (try k_sweep))
    | (k_dflt (refine' Cl.useO (by k_asm) (by k_asm) (by first | exact List.forall_mem_nil _ | k_allIn) (c_rtrim _ _ _ _ _ (by omega)) (by k_asm) (by k_asm) (by k_asm) (by first | exact rfl | assumption) (by ktr_room) (by ktr_units) ?_); k_whole; intro t9 h9 tk9 F9 N9 P9; (try dsimp only); (try k_fold); (try k_sweep))
  k_with "my if" =>
    (fail_if_success (with_reducible show wpAny _ _ _ (CutAt _ _ _ _ _) _ _))
    k_dflt (refine cut_if (by k_asm) [] ?_ ?_)
    rotate_left
    (intro h9 tk9 F9 N9; (try dsimp only); (try k_fold); (try k_sweep))
    rotate_left
  (first | unfold Cl0 KH PG | unfold ClT KH PG)
  k_fill
  intro w loose mean mg mb news dp un gd cn cs a ccd cl outer A₀ base h₀ L m s Q E B F X N hown T hk hd hu hret
  have N0 := news_sub N hown
  refine wpAny_call ?_
  k_dflt (refine' code_defG ?k1 ?k2 ?k3 ?k4 ?k5 ?kA ?kF ?kK ?k6 ?k7 ?k8 ?k9 ?kB ?_ ?c2 ?c3 ?c4 ?c5; (case kA => exact rfl); (case kF => exact rfl); (case kK => exact hk); (case k1 => exact B); (case k2 => exact F); (case k3 => exact X); (case k4 => exact N0); (case k5 => exact T); (case k6 => k_is); (case k7 => k_is); (case k8 => ktr_room); (case k9 => exact BindsTo.of_eq rfl); (case c5 => decide); (case kB => exact locs rfl); (case c2 => exact rfl); (case c3 => exact rfl); (case c4 => exact rfl); k_whole)
  intro g' L' h' FG' F' N' B' X' T' kG0
  have kG' := GKeep.mk kG0
  clear kG0
  (try dsimp only)
  (try k_lift B')
  (try k_fold)
  clear N0
  k_steps
  
  all_goals first
    | exact CutAt.intro (by k_asm) (by with_reducible assumption) (by first | exact List.forall_mem_nil _ | k_allIn)
    | (exact ret_b hret (let_lr x) (by k_asm) (news_back N hown kG' (by with_reducible assumption) (by first | k_asm | exact news_sub (by with_reducible assumption) (by k_allIn))))
end Mine
end

section
open PySem PySem.W PyProof.Rows
namespace Mine
set_option linter.unusedSimpArgs false
set_option linter.unusedVariables false
set_option maxRecDepth 100000
set_option maxHeartbeats 8000000
theorem c_rest (wa wd : Addr) (es : List DictEntry) (nd : Nat) (td : Tok) (hes : getL (PySem.Str.ofString "digits") es = some (some (.int 9 td))) (x : PySem.Str) (tx : Tok) (one : Int) (t1 : Tok) (two : Int) (t2 : Tok) (hx : x.length ≤ 9) (hd : ∀ c ∈ C x, 0 < c ∧ c < 256) (h0 : 1 ≤ one) (h1 : one ≤ 11) (h2 : 1 ≤ two) (h3 : two ≤ 11) :
    Cl 12 351 [.ref wa, .str x tx, .int one t1, .int two t2] [(wa, instObj 302 wd), (wd, dictOf es nd)] (fun _ => .bool true) True := by
  refine ⟨?_, trivial⟩
  have f1 := bne_no (str_left (sg x) h0 h2)
  have f2 := bne_no (str_add x h0 h2)
  have f4 := bne_no (led_none (C x))
  have l1 : (S [sg x]).length = 1 := rfl
  have l2 := tbl_len
  have l3 : (PySem.Str.ofString "q").length = 1 := by rw [len_C, q_C]; rfl
  have l4 : (⟨#[Int.toNat 0]⟩ : PySem.Str).length = 1 := rfl
  have f3 := bne_no (led_all (z := ⟨#[Int.toNat 0]⟩) rfl hd)
  obtain ⟨cN, hcN⟩ : ∃ cN : Nat, (cN : Int) = 300 * two - 10 * one - 1 := ⟨(300 * two - 10 * one - 1).toNat, by omega⟩
  have hm9 : cN % 10 = 9 := by omega
  have hfm : 0 ≤ one.fmod 4 ∧ one.fmod 4 ≤ 3 := by rw [Int.fmod_eq_emod_of_nonneg _ (by decide)]; omega
  have l5 : (PySem.Str.ofString "").length = 0 := by rw [len_C, C_nil]; rfl
  k_with_none
  k_with "my call" => first
    | (k_dflt (refine' Cl.useO (by k_asm) (by k_asm) (by first | exact List.forall_mem_nil _ | k_allIn) (c_text_string _ _ _ _ _ _ _ (by omega) (by omega) (by omega) (by omega)) (by k_asm) (by k_asm) (by k_asm) (by first | exact rfl | assumption) (by ktr_room) (by ktr_units) ?_); k_whole; intro t9 h9 tk9 F9 N9 P9; (try dsimp only); (try k_fold); (try k_sweep))
    | (k_dflt (refine' Cl.useO (by k_asm) (by k_asm) (by first | exact List.forall_mem_nil _ | k_allIn) (c_text_left _ _ _ _ _ _ _ (by omega) (by omega) (by omega)) (by k_asm) (by k_asm) (by k_asm) (by first | exact rfl | assumption) (by ktr_room) (by ktr_units) ?_); k_whole; intro t9 h9 tk9 F9 N9 P9; (try dsimp only); (try k_fold); (try k_sweep))
    | (k_dflt (refine' Cl.use (c_led _ _ _ _ (by omega) (by omega)) (by k_asm) (by k_asm) (by k_asm) (by k_asm) (by k_asm) (by first | exact rfl | assumption) (by first | exact List.forall_mem_nil _ | k_allIn) (by ktr_room) (by ktr_units) ?_); k_whole; intro t9 h9 tk9 F9 N9 P9; (try dsimp only); (try k_fold); (try k_sweep))
    | (k_dflt (refine' Cl.useO (by k_asm) (by k_asm) (by first | exact List.forall_mem_nil _ | k_allIn) (c_text_str1 _ wa wd es nd td hes _ _ _ cN (by omega) _ _ _ (by omega) (by omega) (by omega) (by omega)) (by k_asm) (by k_asm) (by k_asm) (by first | exact rfl | assumption) (by ktr_room) (by ktr_units) ?_); k_whole; intro t9 h9 tk9 F9 N9 P9; (try dsimp only); (try k_fold); (try k_sweep))
    | (k_dflt (refine' ClT.use (c_text_val wa wd es nd td hes _ _ (S (45 :: szL cN (0 - one.fmod 4))) _ cN (0 - one.fmod 4) (C_S _) (by omega) (by omega) hm9 (by omega) (by omega)) (by k_asm) (by k_asm) (by k_asm) (by k_asm) (by k_asm) (by first | exact rfl | assumption) (by first | exact List.forall_mem_nil _ | k_allIn) (by ktr_room) (by ktr_units) ?_); k_whole; intro b9 us9 h9 tk9 T9 F9 N9; (first | (obtain ⟨u91, u92, u93, e9⟩ := T9; subst e9) | (obtain ⟨u91, u92, e9⟩ := T9; subst e9)); (try dsimp only); (try k_fold); (try k_sweep))
  k_with "my csrc" =>
    (rename IsRange _ _ _ _ _ _ _ _ => rgX)
    k_dflt (refine LCg.CompSrc.range (n := 256) (by rfl) (by k_asm) (by k_asm) (by first | exact rgX | assumption) (by first | decide | rfl) (by first | rfl | decide) (by rw [PySem.sizeLine_eq]; omega) ?_)
    (intro g5)
    k_dflt (refine rest_tbl ?_ ?_)
    (intro i5 t5 I5 oI5 D5 oC5 A5 m5 ys h tk E5 hi5 hC5 hx5 F5 N5 off5 ne5; (try k_fold))
    rotate_left
    (intro ys hys6; unfold LCg.FinE; intro A6 h6 tk6 F6 N6 off6; (try dsimp only); (try k_fold))
    rotate_left
  k_with "my cend" =>
    k_dflt (exact LCg.CompEnd.intro (by assumption) (by assumption) _ (fun p hp => hp) off5 trivial ⟨rfl, _, rfl⟩)
  k_with "my join" =>
    k_dflt (refine join_texts (by k_asm) (by k_mem) hys6 (by have := (tblL_at (c := 0) (by decide)).1; omega) ?_)
    intro t9 k9
  k_with "my eq" =>
    k_dflt (refine eq_dataH (by ke_read) (by ke_read) (by ke_shaped) (by ke_shaped) (by ktr_units) ?_)
    ke_norm
  k_with "my if" =>
    (fail_if_success (with_reducible show wpAny _ _ _ (CutAt _ _ _ _ _) _ _))
    k_dflt (refine cut_if (by k_asm) [(wa, instObj 302 wd), (wd, dictOf es nd)] ?_ ?_)
    rotate_left
    (intro h9 tk9 F9 N9; (try dsimp only); (try k_fold); (try k_sweep))
    rotate_left
  (first | unfold Cl0 KH PG | unfold ClT KH PG)
  k_fill
  intro w loose mean mg mb news dp un gd cn cs a ccd cl outer A₀ base h₀ L m s Q E B F X N hown T hk hd hu hret
  have N0 := news_sub N hown
  refine wpAny_call ?_
  k_dflt (refine' code_defG ?k1 ?k2 ?k3 ?k4 ?k5 ?kA ?kF ?kK ?k6 ?k7 ?k8 ?k9 ?kB ?_ ?c2 ?c3 ?c4 ?c5; (case kA => exact rfl); (case kF => exact rfl); (case kK => exact hk); (case k1 => exact B); (case k2 => exact F); (case k3 => exact X); (case k4 => exact N0); (case k5 => exact T); (case k6 => k_is); (case k7 => k_is); (case k8 => ktr_room); (case k9 => exact BindsTo.of_eq rfl); (case c5 => decide); (case kB => exact locs rfl); (case c2 => exact rfl); (case c3 => exact rfl); (case c4 => exact rfl); k_whole)
  intro g' L' h' FG' F' N' B' X' T' kG0
  have kG' := GKeep.mk kG0
  clear kG0
  (try dsimp only)
  (try k_lift B')
  (try k_fold)
  clear N0
  refine cut_text F' (PySem.Str.ofString "sign") (S [sg x]) [(wa, instObj 302 wd), (wd, dictOf es nd)] ?h1 ?h2
  case h1 =>
    (try k_fold)
    k_steps
    · exact textAt_new (sg_slice (by assumption)) (by k_asm) (by k_asm)
    · exact textAt_new (sg_q (by assumption)) (by k_asm) (by k_asm)
  case h2 =>
    intro t1 hh1 tk1 F1 N1
    (try k_fold)
    k_steps
    
    all_goals first
      | exact CutAt.intro (by k_asm) (by with_reducible assumption) (by first | exact List.forall_mem_nil _ | k_allIn)
      | (exact ret_b hret (beq_iff_eq.mpr (by omega)) (by k_asm) (news_back N hown kG' (by with_reducible assumption) (by first | k_asm | exact news_sub (by with_reducible assumption) (by k_allIn))))
end Mine
end

section
open PySem PySem.W PyProof.Rows PySem.Calls PySem.Spec
namespace Mine
set_option linter.unusedVariables false
section
variable {prog : Program} {w : World} {A : Around} {E : Value → Shared → Prop} {s : Shared} {env : Env} {h₀ : Heap} {x : PySem.Str} {body : List Stmt}
/-- a loop over ints of a list that turns one text -/
theorem loop_text1 {l : Addr} {vs : List Value} {ns : List Int} {nn : Nat} {rest : Led} {m₀ : PySem.Str → Option Value} {Q : Flow → Shared → Prop} (nl : PySem.Str) (Pt : List Int → PySem.Str → Prop) (x₀ : PySem.Str) (t₀ : Tok)
    (hh : A.handled = none) (hi : IntsAre vs ns) (F : Fr h₀ env.locals s.heap m₀) (N : News h₀ env.locals s.heap ((l, listOf vs.toArray nn) :: rest)) (hk : m₀ nl = some (.str x₀ t₀)) (hp : Pt [] x₀)
    (turn : ∀ (y : PySem.Str) (ty : Tok) (pre post : List Int) (k : Int) t (u : PySem.Str → Option Value) h tk own, ns = pre ++ k :: post → k ∈ ns → OwnOff own (l :: rest.map (·.1)) → Pt pre y →
      Fr h₀ env.locals h (fun z => if z = x then some (.int k t) else kstB (fun z => if ([] : List PySem.Str).contains z then u z else m₀ z) [(nl, .str y ty)] z) → News h₀ env.locals h ((l, listOf vs.toArray nn) :: (rest ++ own)) →
      wpAny (model prog w) A (execs body env) (InvPostN h₀ env.locals (KstS (σ := PySem.Str × Tok) (fun _ => (l, listOf vs.toArray nn) :: rest) (fun c => [(nl, .str c.1 c.2)]) (fun _ => True) x [] m₀ (fun pre c => Pt pre c.1) (pre ++ [k])) own (l :: rest.map (·.1)) { s with heap := h, toks := tk } Q) E { s with heap := h, toks := tk })
    (done : ∀ (y : PySem.Str) (ty : Tok) (u : PySem.Str → Option Value) h tk, Pt ns y → Fr h₀ env.locals h (fun z => if z = x then u z else kstB (fun z => if ([] : List PySem.Str).contains z then u z else m₀ z) [(nl, .str y ty)] z) → News h₀ env.locals h ((l, listOf vs.toArray nn) :: rest) → Q .next { s with heap := h, toks := tk }) :
    wpAny (model prog w) A (pyIter (.ref l)) (fun it s₂ => LoopAtV prog w A h₀ env x body Q E it s₂) E s := by
  refine kst_listL (σ := PySem.Str × Tok) (fun _ => (l, listOf vs.toArray nn) :: rest) (fun c => [(nl, .str c.1 c.2)]) (fun _ => True) [] (fun pre c => Pt pre c.1) (x₀, t₀) hh (fun _ => .head _) hi F N trivial (fun p hp => by rw [List.mem_singleton.mp hp]; exact hk) hp ?_ ?_
  · rintro ⟨y, ty⟩ pre post k t u h tk own e hm hoff - hP F5 N5
    exact turn y ty pre post k t u h tk own e hm hoff hP F5 N5
  · rintro ⟨y, ty⟩ u h tk - hP F5 N5
    exact done y ty u h tk hP F5 N5
end
theorem fixT {x nl : PySem.Str} {v vl : Value} {w : Option Value} {r : PySem.Str → Option Value} : ∀ p ∈ [(nl, v)], (fun z => if z = nl then some v else if z = x then w else kstB r [(nl, vl)] z) p.1 = some p.2 := fun p hp => by
  rw [List.mem_singleton.mp hp]; exact if_pos rfl
theorem sameT {x nl : PySem.Str} {v w : Option Value} {vq vl : Value} {u m₀ : PySem.Str → Option Value} : ∀ z, z ≠ x → (∀ p ∈ [(nl, vq)], z ≠ p.1) → ([] : List PySem.Str).contains z = false → (if z = nl then w else if z = x then v else kstB (fun z => if ([] : List PySem.Str).contains z then u z else m₀ z) [(nl, vl)] z) = m₀ z := fun z h1 h2 h3 => by
  have h4 : z ≠ nl := h2 _ (.head _)
  rw [if_neg h4, if_neg h1]
  show (if z = nl then some vl else if ([] : List PySem.Str).contains z then u z else m₀ z) = m₀ z
  rw [if_neg h4, if_neg (by rw [h3]; decide)]
/-- what the loops over the flags keep -/
def EdQ (x : PySem.Str) (pre : List Int) (y : PySem.Str) : Prop := y = S (foldEd pre (C x)) ∧ y.length ≤ 9
theorem EdQ.len {x y : PySem.Str} {pre : List Int} (h : EdQ x pre y) : y.length ≤ 9 := h.2
theorem EdQ.start {x : PySem.Str} (h : x.length ≤ 9) : EdQ x [] x := ⟨(S_C x).symm, h⟩
theorem EdQ.next {x y : PySem.Str} {pre : List Int} {k : Int} (h : EdQ x pre y) (hl : (S (edL (k == 2) (k == 8) (k == 16) (k == 32) (k == 64) (k == 128) (C y))).length ≤ y.length) : EdQ x (pre ++ [k]) (S (edL (k == 2) (k == 8) (k == 16) (k == 32) (k == 64) (k == 128) (C y))) := by
  refine ⟨?_, Nat.le_trans hl h.2⟩
  rw [foldEd_snoc, h.1, C_S]
  rfl
theorem EdQ.whole {x y : PySem.Str} {b2 b8 b16 b32 b64 b128 : Bool} (h : EdQ x (flL b2 b8 b16 b32 b64 b128) y) : y = S (edL b2 b8 b16 b32 b64 b128 (C x)) := by rw [h.1, fold_whole]
theorem EdQ.back {x y : PySem.Str} {b2 b8 b16 b32 b64 b128 : Bool} (h : EdQ x (flL b2 b8 b16 b32 b64 b128).reverse y) : y = S (edL b2 b8 b16 b32 b64 b128 (C x)) := by rw [h.1, fold_back]
theorem ed_twice (x : PySem.Str) (b2 b8 b16 b32 b64 b128 : Bool) : S (edL b2 b8 b16 b32 b64 b128 (C (S (edL b2 b8 b16 b32 b64 b128 (C x))))) = S (edL b2 b8 b16 b32 b64 b128 (C x)) := by rw [C_S, whole_twice]
end Mine
end

section
open PySem PySem.W PyProof.Rows
namespace Mine
set_option linter.unusedSimpArgs false
set_option linter.unusedVariables false
set_option maxRecDepth 100000
set_option maxHeartbeats 8000000
theorem c_flags (x : PySem.Str) (tx : Tok) (lf : Addr) (vs : List Value) (nn : Nat) (ns : List Int) (hI : IntsAre vs ns) (b2 b8 b16 b32 b64 b128 : Bool) (hns : ns = flL b2 b8 b16 b32 b64 b128) (hx : x.length ≤ 9) :
    Cl 6 339 [.str x tx, .ref lf] [(lf, listOf vs.toArray nn)] (fun _ => .bool true) True := by
  refine ⟨?_, trivial⟩
  have hf : Flags ns.sum b2 b8 b16 b32 b64 b128 := by rw [hns]; exact flags_sum ..
  have hall : ∀ f ∈ ns, f ∈ flAll := by rw [hns]; exact fun f hf => fl_mem _ _ _ _ _ _ f hf
  have hln : ns.length ≤ 6 := by rw [hns]; exact fl_len ..
  have hlo := hf.lo
  have hhi := hf.hi
  k_with_none
  k_with "my for" => (k_here; (rename Fr _ _ _ _ => lF'); (with_unfolding_all refine' For_invVF lF' (by exact rfl) (by exact rfl) ?_); k_whole)
  k_with "my iter" =>
    (rename Fr _ _ _ _ => lF')
    (rename IntsAre _ _ => iL)
    first
    | (with_unfolding_all refine' loop_text1 (l := lf) (vs := vs) (ns := ns) (nn := nn) (rest := []) (PySem.Str.ofString "later") (EdQ x) x _ (by rfl) iL lF' (news_sub (by k_asm) (by k_allIn)) (by rfl) (EdQ.start hx) ?_ ?_)
      (intro y5 ty5 pre5 post5 k5 t5 u5 h tk own he5 hk5 hoff hP5 F5 N5; clear lF'; (have hy5 := EdQ.len hP5); (have hfl5 := flags_one (hall _ hk5)); (try simp only [List.nil_append] at N5); (try k_fold))
      rotate_left
      (intro y6 ty6 u6 h tk hP6 F5 N5; clear lF'; (have hy6 := EdQ.len hP6); (try dsimp only); (try k_fold))
      rotate_left
    | (with_unfolding_all refine' loop_text1 (rest := [(lf, listOf vs.toArray nn)]) (PySem.Str.ofString "sooner") (EdQ x) x _ (by rfl) iL lF' (news_sub (by k_asm) (by k_allIn)) (by rfl) (EdQ.start hx) ?_ ?_)
      (intro y5 ty5 pre5 post5 k5 t5 u5 h tk own he5 hk5 hoff hP5 F5 N5; clear lF'; (have hy5 := EdQ.len hP5); (have hfl5 := flags_one (hall _ (List.mem_reverse.mp hk5))); (try simp only [List.nil_append] at N5); (try k_fold))
      rotate_left
      (intro y7 ty7 u7 h tk hP7 F5 N5; clear lF'; (have hy7 := EdQ.len hP7); (try dsimp only); (try k_fold))
      rotate_left
  k_with "my end" =>
    (rename News _ _ _ _ => nE')
    k_dflt (refine' kst_end ⟨_, _⟩ (by assumption) nE' (by k_allIn) (by intro p hp; k_ownIn) rfl trivial (by exact fixT) (by exact sameT) (by exact EdQ.next hP5 P9))
  k_with "my call" => first
    | (k_dflt (refine' Cl.use (c_edited _ _ _ _ _ _ _ _ _ _ hfl5 (by omega)) (by k_asm) (by k_asm) (by k_asm) (by k_asm) (by k_asm) (by first | exact rfl | assumption) (by first | exact List.forall_mem_nil _ | k_allIn) (by ktr_room) (by ktr_units) ?_); k_whole; intro t9 h9 tk9 F9 N9 P9; (try dsimp only); (try k_fold); (try k_sweep))
    | (k_dflt (refine' Cl.use (c_edited _ _ _ _ _ _ _ _ _ _ hf (by omega)) (by k_asm) (by k_asm) (by k_asm) (by k_asm) (by k_asm) (by first | exact rfl | assumption) (by first | exact List.forall_mem_nil _ | k_allIn) (by ktr_room) (by ktr_units) ?_); k_whole; intro t9 h9 tk9 F9 N9 P9; (try dsimp only); (try k_fold); (try k_sweep))
  (first | unfold Cl0 KH PG | unfold ClT KH PG)
  k_fill
  intro w loose mean mg mb news dp un gd cn cs a ccd cl outer A₀ base h₀ L m s Q E B F X N hown T hk hd hu hret
  have N0 := news_sub N hown
  refine wpAny_call ?_
  k_dflt (refine' code_defG ?k1 ?k2 ?k3 ?k4 ?k5 ?kA ?kF ?kK ?k6 ?k7 ?k8 ?k9 ?kB ?_ ?c2 ?c3 ?c4 ?c5; (case kA => exact rfl); (case kF => exact rfl); (case kK => exact hk); (case k1 => exact B); (case k2 => exact F); (case k3 => exact X); (case k4 => exact N0); (case k5 => exact T); (case k6 => k_is); (case k7 => k_is); (case k8 => ktr_room); (case k9 => exact BindsTo.of_eq rfl); (case c5 => decide); (case kB => exact locs rfl); (case c2 => exact rfl); (case c3 => exact rfl); (case c4 => exact rfl); k_whole)
  intro g' L' h' FG' F' N' B' X' T' kG0
  have kG' := GKeep.mk kG0
  clear kG0
  (try dsimp only)
  (try k_lift B')
  (try k_fold)
  clear N0
  k_steps
  
  all_goals subst hns
  · (exact ret_b hret (beq_iff_eq.mpr (ed_twice _ _ _ _ _ _ _)) (by k_asm) (news_back N hown kG' (by with_reducible assumption) (by first | k_asm | exact news_sub (by with_reducible assumption) (by k_allIn))))
  · (exact ret_b hret (beq_iff_eq.mpr (EdQ.back hP7)) (by k_asm) (news_back N hown kG' (by with_reducible assumption) (by first | k_asm | exact news_sub (by with_reducible assumption) (by k_allIn))))
  · (exact ret_b hret (beq_iff_eq.mpr (EdQ.whole hP6)) (by k_asm) (news_back N hown kG' (by with_reducible assumption) (by first | k_asm | exact news_sub (by with_reducible assumption) (by k_allIn))))
end Mine
end

section
open PySem PySem.W PyProof.Rows PySem.Calls PySem.Spec
namespace Mine
set_option linter.unusedVariables false
section
variable {prog : Program} {w : World} {A : Around} {E : Value → Shared → Prop} {s : Shared} {h₀ : Heap} {L : Addr} {m : PySem.Str → Option Value} {env : Env}
/-- a tuple of the ledger as the source of a block with a test -/
def TupSrc (prog : Program) (w : World) (A : Around) (h₀ : Heap) (L : Addr) (m : PySem.Str → Option Value) (env : Env) (ct elt : PySem.Expr) (x : PySem.Str) (scope : Scope) (cl : List (PySem.Str × Addr)) (Fin : Shared → List Value → Led → Prop) (xv : Value) (s₁ : Shared) : Prop :=
  ∃ ax o its n news, xv = .ref ax ∧ A.handled = none ∧ Fr h₀ L s₁.heap m ∧ News h₀ L s₁.heap news ∧ (ax, o) ∈ news ∧ o.cls = .type "tuple" ∧ o.data = .seq its n ∧ its.size ≤ sizeLine ∧
    ∀ s₂ : Shared, (∃ h, s₂ = { s₁ with heap := h }) → LCt.CompRestT prog w A h₀ L m env ct elt x scope cl s₂ (fun nw => (ax, o) ∈ nw) (fun i v => its[i]? = some v) (Fin s₂) its.size 0 [] news
theorem TupSrc.intro {ct elt : PySem.Expr} {x : PySem.Str} {scope : Scope} {cl : List (PySem.Str × Addr)} {Fin : Shared → List Value → Led → Prop} {ax : Addr} {o : Obj} {its : Array Value} {n : Nat} {news : Led} {s₁ : Shared}
    (hh : A.handled = none) (F : Fr h₀ L s₁.heap m) (N : News h₀ L s₁.heap news) (hm : (ax, o) ∈ news) (hc : o.cls = .type "tuple") (hd : o.data = .seq its n) (hz : its.size ≤ sizeLine)
    (h : ∀ g, LCt.CompRestT prog w A h₀ L m env ct elt x scope cl { s₁ with heap := g } (fun nw => (ax, o) ∈ nw) (fun i v => its[i]? = some v) (Fin { s₁ with heap := g }) its.size 0 [] news) :
    TupSrc prog w A h₀ L m env ct elt x scope cl Fin (.ref ax) s₁ := ⟨ax, o, its, n, news, rfl, hh, F, N, hm, hc, hd, hz, fun _ ⟨g, e⟩ => e ▸ h g⟩
theorem assign_tup {ct elt iter : PySem.Expr} {x y : PySem.Str} {px py : Pos} {scope : Scope} {cl : List (PySem.Str × Addr)} {pos spos : Pos} {Q : Flow → Shared → Prop} (F₀ : Fr h₀ L s.heap m) (hLe : env.locals = L)
    (hsw : swapsWith (.ListComp elt [⟨.Name x px, iter, [ct], 0⟩] scope pos) (some (.Name y py)) spos.line env = pure true)
    (hclos : closureFor scope env = pure cl) (hcell : ∀ z ∈ scope.names, z.2 ≠ .cell) (hkind : scope.kind = .function)
    (hnames : ∀ z ∈ scope.names, z.2 = .local → scope.names.lookup z.1 = some .local) (hx : scope.names.lookup x = some .local)
    (hy : env.kindOf y = some .local) (hp : (env.scope.kind == .class || (env.scope.kind == .module && env.locals != env.globals)) = false)
    (h : wpAny (model prog w) A (eval iter env) (TupSrc prog w A h₀ L m env ct elt x scope cl (fun s₂ => LCg.FinA h₀ L m s₂ y Q)) E s)
    (hs : ∀ x, foldedSetIterable iter env x = pure x := by intro _; rfl) :
    wpAny (model prog w) A (exec (.Assign [.Name y py] (.ListComp elt [⟨.Name x px, iter, [ct], 0⟩] scope pos) spos) env) Q E s := by
  subst hLe
  rw [exec_Assign_Name_used _ _ _ _ hsw]
  refine wpAny_bind (wpAny_standAt (wpAny_bind ?_))
  show wpAny _ A (do let _ ← comprehension (.ListComp elt [⟨.Name x px, iter, [ct], 0⟩] scope pos) scope env _ (newList []) false (eval iter env) (some (assign (.Name y py) env))) _ _ s
  refine wpAny_bind (wpAny_mono (wpAny_comprehension_free (use := some (assign (.Name y py) env)) (Q := fun _ s' => Q .next s') rfl hs hclos hkind hnames
    (wpAny_mono h (fun xv s₁ h₁ => ?_) fun _ _ e => e)) (fun _ s' hq => wpAny_pure (wpAny_pure hq)) fun _ _ e => e)
  obtain ⟨ax, o, its, n, news, rfl, hh, F, N, hm, hc, hd, hz, R⟩ := h₁
  have up : ∀ (u : Obj) b o', s₁.heap.get? b = some o' → (s₁.heap.push u).get? b = some o' := fun u b o' e => Heap.get?_push_of_some _ e
  have tup : s₁.heap.IsTuple ax its := ⟨o, (N _ hm).1, hc, n, hd⟩
  have axlt : ax < s₁.heap.objs.size := Heap.lt_size (N _ hm).1
  refine wpAny_pyIter_tuple tup ?_
  refine LCt.block_T (Walks.tuple hh s₁.heap.objs.size ax (Nat.ne_of_lt axlt) its) hz (fun i h st => by obtain ⟨o', e, _⟩ := st.1; exact ⟨o', e⟩)
    (fun i h h' o' nw st e e' _ N' hS => ⟨by obtain ⟨o₂, q, r⟩ := st.1; rw [e] at q; cases q; exact ⟨o', e', r⟩, o, (N' _ hS).1, hc, n, hd⟩)
    hcell hkind hx ⟨⟨_, Heap.get?_push_size _ rfl, rfl, rfl⟩, tup.push _⟩ (fun b hb => ?_) (F.keeps (up _)) (N.grown (up _)) (Nat.ne_of_lt F.ns.lt) (next_is_new F) (fun p hp => Nat.ne_of_lt (Heap.lt_size (N p hp).1)) hm (R _ ⟨_, rfl⟩) ?_
  · show b < (s₁.heap.push _).objs.size
    rw [Heap.size_push]
    rcases List.mem_cons.mp hb with rfl | hb
    · exact Nat.lt_succ_self _
    · rw [List.mem_singleton.mp hb]; exact Nat.lt_succ_of_lt axlt
  · intro D C₁ h' tk m' ys news' F' N' o1 hn hC₀ hD₀ hCL hDL hCD offC fin
    show wpAny _ A (assign (.Name y py) env (.ref D)) _ _ _
    refine wpAny_assign_Name (wpAny_storeName_local hy F'.ns (fun h₂ hn₂ hs₂ => ?_) hp)
    have hL₀ : h₀.get? env.locals = none := Heap.get?_none_of_le F'.above
    have F₂ : Fr h₀ env.locals h₂ (fun z => if z = y then some (.ref D) else m z) := ⟨hn₂, fun b o' e => hs₂.extBut b o' (fun q => by rw [q, hL₀] at e; cases e) (F'.keep b o' e), F'.above⟩
    refine ⟨m', hn.sameBut hs₂ hCL, fun h'' hs'' => fin D h'' _ (F₂.change hs'' hCL hC₀) (fun p hp => ?_) o1⟩
    have z : h₂.get? p.1 = some p.2 := hs₂.extBut _ _ (N' p hp).2.1 (N' p hp).1
    refine ⟨hs''.extBut _ _ ?_ z, (N' p hp).2⟩
    rcases List.mem_cons.mp hp with rfl | hp
    · exact Ne.symm hCD
    · exact offC p hp
end
theorem sub_split {a : Int} {l ns : List Int} (h : ns.Sublist (a :: l)) : ∃ (b : Bool) (r : List Int), r.Sublist l ∧ ns = (if b then [a] else []) ++ r := by
  cases h with
  | cons _ h => exact ⟨false, _, h, rfl⟩
  | cons_cons _ h => exact ⟨true, _, h, rfl⟩
theorem sub_flL {ns : List Int} (h : ns.Sublist flAll) : ∃ b2 b8 b16 b32 b64 b128, ns = flL b2 b8 b16 b32 b64 b128 := by
  obtain ⟨b1, r1, h1, rfl⟩ := sub_split h
  obtain ⟨b2, r2, h2, rfl⟩ := sub_split h1
  obtain ⟨b3, r3, h3, rfl⟩ := sub_split h2
  obtain ⟨b4, r4, h4, rfl⟩ := sub_split h3
  obtain ⟨b5, r5, h5, rfl⟩ := sub_split h4
  obtain ⟨b6, r6, h6, rfl⟩ := sub_split h5
  have : r6 = [] := List.sublist_nil.mp h6
  subst this
  exact ⟨b1, b2, b3, b4, b5, b6, by unfold flL; rw [List.append_nil]⟩
section
variable {w : World} {A : Around} {s : Shared} {h₀ : Heap} {L : Addr} {m : PySem.Str → Option Value} {env : Env}
theorem rest_flags {ct elt : PySem.Expr} {x : PySem.Str} {scope : Scope} {cl' : List (PySem.Str × Addr)} {S' : Led → Prop} {Fin : List Value → Led → Prop} {jo : Obj} {cl : Addr} {mr : Int} {its : List Value} (hi : IntsAre its flAll) (gg : Obj → Led) (k0 : Int) (J : JarO w cl mr k0 jo)
    (turn : ∀ (i : Nat) (f : Int) (t : Tok) jo I oI D₁ oC D m₂ ys h tk (E' : Value → Shared → Prop), i < 6 → JarO w cl mr (k0 + (i : Int)) jo → LCg.NsObj oC m₂ → m₂ x = some (.int f t) → Fr h₀ L h m → News h₀ L h ((I, oI) :: (D₁, oC) :: (D, LCg.lst ys) :: gg jo) → LCg.Off3 I D₁ D (gg jo) → ((@Ne Nat I D₁) ∧ (@Ne Nat I D) ∧ (@Ne Nat D₁ D)) →
      wpAny (model PG w) A (isTrue ct (compEnvC scope cl' D₁ env) (eval ct (compEnvC scope cl' D₁ env))) (fun ok s' => if ok = true then
        wpAny (model PG w) A (eval elt (compEnvC scope cl' D₁ env)) (LCg.CompEnd h₀ L m { s with heap := h, toks := tk } I oI D₁ oC D (LCg.lst ys) S' (fun y news' => ∃ jo', news' = gg jo' ∧ JarO w cl mr (k0 + (i : Int) + 1) jo' ∧ ∃ t : Tok, y = .int f t)) E' s'
        else LCg.CompEnd h₀ L m { s with heap := h, toks := tk } I oI D₁ oC D (LCg.lst ys) S' (fun _ news' => ∃ jo', news' = gg jo' ∧ JarO w cl mr (k0 + (i : Int) + 1) jo') Value.none s') E' { s with heap := h, toks := tk })
    (fin : ∀ ys b2 b8 b16 b32 b64 b128 jo', IntsAre ys (flL b2 b8 b16 b32 b64 b128) → JarO w cl mr (k0 + 6) jo' → Fin ys (gg jo')) :
    LCt.CompRestT PG w A h₀ L m env ct elt x scope cl' s S' (fun i v => its.toArray[i]? = some v) Fin its.toArray.size 0 [] (gg jo) := by
  have hlen : its.toArray.size = 6 := by rw [List.size_toArray, hi.length]; rfl
  have key : ∀ (j i : Nat) (ys : List Value) (ns : List Int) (jo : Obj), i + j = 6 → IntsAre ys ns → ns.Sublist (flAll.take i) → JarO w cl mr (k0 + (i : Int)) jo → LCt.CompRestT PG w A h₀ L m env ct elt x scope cl' s S' (fun i v => its.toArray[i]? = some v) Fin j i ys (gg jo) := by
    intro j
    induction j with
    | zero =>
      intro i ys ns jo e hy hs J
      obtain rfl : i = 6 := by omega
      obtain ⟨b1, b2, b3, b4, b5, b6, rfl⟩ := sub_flL hs
      exact LCt.CompRestT.zero (fin ys _ _ _ _ _ _ jo hy J)
    | succ j ih =>
      intro i ys ns jo e hy hs J
      refine LCt.CompRestT.succ ?_
      intro v I oI D₁ oC D m₂ h tk E' hv hC hx F N off ne
      have hf : ∃ f, flAll[i]? = some f := ⟨flAll[i]'(by show i < 6; omega), List.getElem?_eq_getElem _⟩
      obtain ⟨f, hf⟩ := hf
      obtain ⟨t, ht⟩ := hi.get i f hf
      have hv2 : v = .int f t := by
        have h1 : its[i]? = some v := by simpa using hv
        exact Option.some.inj (h1.symm.trans ht)
      have htake : flAll.take (i + 1) = flAll.take i ++ [f] := by rw [List.take_add_one, hf]; rfl
      refine wpAny_mono (turn i f t jo I oI D₁ oC D m₂ ys h tk E' (by omega) J hC (by rw [hx, hv2]) F N off ne) (fun ok s₁ hq => ?_) fun _ _ e => e
      cases ok with
      | true =>
        simp only [if_true] at hq ⊢
        refine wpAny_mono hq (fun y s₂ hq => ?_) fun _ _ e => e
        obtain ⟨h', tk', nw, e1, F', N', off', hS, jo', hn, J', t', hy'⟩ := hq
        subst hn
        refine ⟨h', tk', _, e1, F', N', off', hS, ?_⟩
        rw [hy']
        refine ih (i + 1) _ (ns ++ [f]) jo' (by omega) (hy.append (.cons f t' .nil)) (by rw [htake]; exact List.Sublist.append hs (List.Sublist.refl _)) ?_
        rw [show k0 + ((i + 1 : Nat) : Int) = k0 + (i : Int) + 1 by omega]; exact J'
      | false =>
        simp only [Bool.false_eq_true, if_false] at hq ⊢
        obtain ⟨h', tk', nw, e1, F', N', off', hS, jo', hn, J'⟩ := hq
        subst hn
        refine ⟨h', tk', _, e1, F', N', off', hS, ?_⟩
        refine ih (i + 1) _ ns jo' (by omega) hy (by rw [htake]; exact List.Sublist.trans hs (List.sublist_append_left _ _)) ?_
        rw [show k0 + ((i + 1 : Nat) : Int) = k0 + (i : Int) + 1 by omega]; exact J'
  rw [hlen]
  exact key 6 0 [] [] jo rfl .nil (List.nil_sublist _) (by rw [show k0 + ((0 : Nat) : Int) = k0 by omega]; exact J)
end
end Mine
end

section
open PySem PySem.W PyProof.Rows PySem.Calls PySem.Spec
namespace Mine
theorem mr0 (x : Int) : 0 ≤ x.fmod 31 := by rw [Int.fmod_eq_emod_of_nonneg _ (by decide)]; omega
theorem mr1 (x : Int) : x.fmod 31 ≤ 30 := by rw [Int.fmod_eq_emod_of_nonneg _ (by decide)]; omega
theorem drawn_small {l : List Nat} (h : ∀ c ∈ l, c ∈ drawnL) : ∀ c ∈ C (S l), 0 < c ∧ c < 256 := by
  intro c hc
  rw [C_S] at hc
  have := h c hc
  revert this
  have : ∀ d ∈ drawnL, 0 < d ∧ d < 256 := by decide
  exact this c
end Mine
end

section
open PySem PySem.W PyProof.Rows
namespace Mine
set_option maxRecDepth 100000
def GD (d : Option (Option Value)) (dx x : Addr) (l : Led) (k : Nat) (es : List DictEntry) : Prop :=
  x ≠ dx ∧ (∀ p ∈ l, p.1 ≠ dx) ∧ es.any (·.refKey) = false ∧ es.length ≤ k ∧ getL (PySem.Str.ofString "digits") es = d
theorem gd_nil {dx x : Addr} {l : Led} (hx : x ≠ dx) (hl : ∀ p ∈ l, p.1 ≠ dx) : GD (some none) dx x l 0 [] := ⟨hx, hl, rfl, Nat.le_refl _, rfl⟩
theorem gd_dig {d : Option (Option Value)} {dx x : Addr} {l : Led} {k : Nat} {es : List DictEntry} (G : GD d dx x l k es) : getL (PySem.Str.ofString "digits") es = d := G.2.2.2.2
theorem isStr_inj {v : Value} {a b : PySem.Str} (h : v.isStr a = true) (g : v.isStr b = true) : a = b := by
  cases v <;> simp [Value.isStr] at h g
  exact h.symm.trans g
theorem getL_some {name : PySem.Str} {es : List DictEntry} (h : es.any (·.refKey) = false) : (getL name es).isSome = true := by
  unfold getL
  split
  · rfl
  · rw [h]; rfl
theorem put_ref {name : PySem.Str} {hsh : Int} {t : Tok} {v : Value} : ∀ {es : List DictEntry}, es.any (·.refKey) = false → (putL name hsh (.str name t) v es).any (·.refKey) = false
  | [], _ => rfl
  | e :: r, h => by
    rw [List.any_cons, Bool.or_eq_false_iff] at h
    unfold putL
    split
    · rw [List.any_cons, Bool.or_eq_false_iff]; exact ⟨h.1, h.2⟩
    · rw [List.any_cons, Bool.or_eq_false_iff]; exact ⟨h.1, put_ref h.2⟩
theorem put_len {name : PySem.Str} {hsh : Int} {key v : Value} : ∀ {es : List DictEntry} {k : Nat}, es.length ≤ k → (putL name hsh key v es).length ≤ k + 1
  | [], _, _ => Nat.le_add_left _ _
  | e :: r, k, h => by
    unfold putL
    split
    · exact Nat.le_succ_of_le h
    · cases k with
      | zero => exact absurd h (Nat.not_succ_le_zero _)
      | succ k => exact Nat.succ_le_succ (put_len (Nat.le_of_succ_le_succ h))
theorem put_get {a name : PySem.Str} {hsh : Int} {t : Tok} {v : Value} : ∀ {es : List DictEntry}, es.any (·.refKey) = false → getL a (putL name hsh (.str name t) v es) = if name = a then some (some v) else getL a es
  | [], _ => by
    unfold putL getL
    by_cases h : name = a
    · subst h; simp [Value.isStr]
    · rw [if_neg h]
      have : (Value.str name t).isStr a = false := by simp [Value.isStr, h]
      simp [this, DictEntry.refKey]
  | e :: r, h => by
    rw [List.any_cons, Bool.or_eq_false_iff] at h
    have ih := put_get (a := a) (name := name) (hsh := hsh) (t := t) (v := v) h.2
    have hg : ∀ {e : DictEntry} {r : List DictEntry}, e.refKey = false → getL a (e :: r) = if e.key.isStr a = true then some (some e.val) else getL a r := by
      intro e r he
      unfold getL
      rw [List.find?_cons, List.any_cons, he]
      cases e.key.isStr a <;> rfl
    unfold putL
    split
    · rename_i hk
      rw [hg (show (⟨e.hash, e.key, v⟩ : DictEntry).refKey = false from h.1), hg h.1]
      dsimp only
      by_cases hn : name = a
      · subst hn; rw [if_pos hk, if_pos rfl]
      · rw [if_neg hn]
        have hf : ¬ e.key.isStr a = true := fun ha => hn (isStr_inj hk ha)
        rw [if_neg hf, if_neg hf]
    · rename_i hk
      rw [hg h.1, hg h.1, ih]
      by_cases hn : name = a
      · subst hn; simp [hk]
      · rw [if_neg hn, if_neg hn]
theorem ne_jar {h₀ h : Heap} {L : Addr} {news : Led} {w : World} {cl jr : Addr} {lo jo : Obj} {mr k0 : Int} (N : News h₀ L h news) (hc : (cl, lo) ∈ news) (hj : (jr, jo) ∈ news) (J : JarO w cl mr k0 jo) (hl : lo.cls = .type "list") : cl ≠ jr := by
  intro e
  subst e
  have e1 := (N _ hc).1
  have e2 := (N _ hj).1
  rw [e1] at e2
  obtain rfl := Option.some.inj e2
  obtain ⟨_, _, _, _, hd, _⟩ := J
  have := hd.1
  dsimp only at this
  rw [hl] at this
  exact absurd this (by decide)
theorem news_drop2 {h₀ h : Heap} {L : Addr} {l : Led} {b1 b2 c1 c2 : Addr × Obj} (N : News h₀ L h (b1 :: b2 :: c1 :: c2 :: l)) : News h₀ L h (b1 :: b2 :: l) := fun p hp => N p (by
  rcases List.mem_cons.mp hp with rfl | hp
  · exact List.mem_cons_self
  · rcases List.mem_cons.mp hp with rfl | hp
    · exact List.mem_cons_of_mem _ List.mem_cons_self
    · exact List.mem_append_right [b1, b2, c1, c2] hp)
section
variable {prog : Program} {w : World} {A : Around} {E : Value → Shared → Prop} {s : Shared} {K : Frag} {x C dx L : Addr} {h₀ : Heap} {m : PySem.Str → Option Value} {l : Led} {es : List DictEntry} {n k : Nat} {name : PySem.Str} {v : Value} {d d' : Option (Option Value)}
theorem set_gd {Q : Unit → Shared → Prop} (F : Fr h₀ L s.heap m) (X₀ : K.In h₀) (N : News h₀ L s.heap ((x, instObj C dx) :: (dx, dictOf es n) :: l)) (G : GD d dx x l k es)
    (hs : findIn K (.ref C) "__setattr__" = some (some (.builtin "object.__setattr__"))) (hp : plainOver K C = true) (ht : takerIn K C name = some none) (hh : hasDictIn K C = true)
    (hd : (if name = PySem.Str.ofString "digits" then some (some v) else d) = d') (hk : Nat.ble k 900 = true)
    (h : ∀ h' es' n', GD d' dx x l (k + 1) es' → Fr h₀ L h' m → News h₀ L h' ((x, instObj C dx) :: (dx, dictOf es' n') :: l) → Q () { s with heap := h', toks := s.toks + 2 }) :
    wpAny (model prog w) A (setAttr (.ref x) name v) Q E s := by
  obtain ⟨g1, g2, g3, g4, g5⟩ := G
  have hk' := Nat.le_of_ble_eq_true hk
  have hz := put_len (name := name) (hsh := PyData.keyHash w.params name) (key := .str name (s.toks + 1)) (v := v) g4
  exact set_dict F X₀ N (InstAt.of_news N List.mem_cons_self (List.mem_cons_of_mem _ List.mem_cons_self)) rfl hs hp ht hh (getL_some g3) rfl (Upd.tail g1 (Upd.head g2)) (Nat.le_trans hz (by omega))
    fun h' F' N' => h h' _ _ ⟨g1, g2, put_ref g3, hz, by rw [put_get g3, g5]; exact hd⟩ F' N'
theorem set_gd1 {p : Addr × Obj} {Q : Unit → Shared → Prop} (F : Fr h₀ L s.heap m) (X₀ : K.In h₀) (N : News h₀ L s.heap (p :: (x, instObj C dx) :: (dx, dictOf es n) :: l)) (G : GD d dx x l k es)
    (hs : findIn K (.ref C) "__setattr__" = some (some (.builtin "object.__setattr__"))) (hp : plainOver K C = true) (ht : takerIn K C name = some none) (hh : hasDictIn K C = true)
    (hd : (if name = PySem.Str.ofString "digits" then some (some v) else d) = d') (hk : Nat.ble k 900 = true)
    (h : ∀ h' es' n', GD d' dx x l (k + 1) es' → Fr h₀ L h' m → News h₀ L h' ((x, instObj C dx) :: (dx, dictOf es' n') :: l) → Q () { s with heap := h', toks := s.toks + 2 }) :
    wpAny (model prog w) A (setAttr (.ref x) name v) Q E s :=
  set_gd F X₀ (fun q hq => N q (List.mem_cons_of_mem _ hq)) G hs hp ht hh hd hk h
end
end Mine
end

section
open PySem PySem.W PyProof.Rows
namespace Mine
set_option linter.unusedSimpArgs false
set_option linter.unusedVariables false
set_option maxRecDepth 100000
set_option maxHeartbeats 8000000
theorem c_law : PySem.Challenge.rw_pq0179_01.Holds := by
  w_on
  refine holds_law law_said fun said => ?_
  refine holds_open (q := hd.view_39) (loose := [PySem.Str.ofString "BasicError"]) (Xt := fun s => xlAt hd.view_39 [] s && recOk (RowW.records PySem.Challenge.rw_pq0179_01.row.toRowW) s) (XP := XL hd.view_39 []) (Yf := Hook.obs HK) (Ya := Hook.val HK) (YP := Hook.says HK) (N := 4092) ?hl (Hook.of HK) (Hook.keeps HK) (fun s e => xl_of s (Bool.and_eq_true_iff.mp e).1) XL.keeps (by rfl) (by rfl) (by rfl) (fun s e => recFacts_of (Bool.and_eq_true_iff.mp e).2) (by rfl) (by first | assumption | decide +kernel) (by decide +kernel) ⟨rfl, rfl, rfl, rfl, rfl, by decide +kernel⟩ ?hw ?hc
  case hl => exact head_left
  case hw => w_witness2
  delta HK
  k_with_none
  k_with "my call" => first
    | ((with_reducible show wpAny _ _ (call (Value.ref 318) _) _ _ _); (k_dflt (refine' ClJ.useO (by k_asm) (by k_asm) (by k_updF) (by first | assumption | exact ⟨_, _, by assumption⟩ | exact ⟨_, _, by k_dflt assumption⟩) (by k_memK) (by first | exact ne_jar (by k_asm) (by k_memK) (by k_memK) (by assumption) rfl | k_ne) (c_law_text _ _ _ _ _ _ _ (by assumption) (by first | exact List.length_take_le _ _ | omega) _ _ (by omega) (by omega) (by first | exact mr0 _ | omega) (by first | exact mr1 _ | omega) (by omega) (by omega)) (by k_asm) (by k_asm) (by k_asm) (by first | exact rfl | assumption) (by ktr_room) (by ktr_units) ?_); k_whole; intro v9 k9 jo9 h9 tk9 P9 J9 F9 N9; (first | (obtain ⟨e9, x9, t9, ev9, lo9, hi9⟩ := P9; subst ev9; subst e9) | (obtain ⟨⟨ka9, kb9⟩, l9, t9, ev9, hl9, hd9⟩ := P9; subst ev9; have hs9 := len_S l9; have hr9 := drawn_small hd9)); (try dsimp only at N9); (try dsimp only); (try k_fold); (try k_sweep)))
    | ((with_reducible show wpAny _ _ (call (Value.ref 313) _) _ _ _); (k_dflt (refine' ClJ.useO (by k_asm) (by k_asm) (by k_updF) (by first | assumption | exact ⟨_, _, by assumption⟩ | exact ⟨_, _, by k_dflt assumption⟩) (by k_memK) (by first | exact ne_jar (by k_asm) (by k_memK) (by k_memK) (by assumption) rfl | k_ne) (c_draw _ _ _ _ _ _ _ (by assumption) (by first | exact List.length_take_le _ _ | omega) _ _ (by omega) (by omega) (by first | exact mr0 _ | omega) (by first | exact mr1 _ | omega) (by omega) (by omega)) (by k_asm) (by k_asm) (by k_asm) (by first | exact rfl | assumption) (by ktr_room) (by ktr_units) ?_); k_whole; intro v9 k9 jo9 h9 tk9 P9 J9 F9 N9; (first | (obtain ⟨e9, x9, t9, ev9, lo9, hi9⟩ := P9; subst ev9; subst e9) | (obtain ⟨⟨ka9, kb9⟩, l9, t9, ev9, hl9, hd9⟩ := P9; subst ev9; have hs9 := len_S l9; have hr9 := drawn_small hd9)); (try dsimp only at N9); (try dsimp only); (try k_fold); (try k_sweep)))
    | ((with_reducible show wpAny _ _ (call (Value.ref 325) _) _ _ _); (k_dflt (refine' Cl.use (c_cuts _ _ _ _ _ _ _ (by omega) (by omega) (by omega) (by omega) (by omega)) (by k_asm) (by k_asm) (by k_asm) (by k_asm) (by k_asm) (by first | exact rfl | assumption) (by first | exact List.forall_mem_nil _ | k_allIn) (by ktr_room) (by ktr_units) ?_); k_whole; intro t9 h9 tk9 F9 N9 P9; (try dsimp only); (try k_fold); (try k_sweep)))
    | ((with_reducible show wpAny _ _ (call (Value.ref 332) _) _ _ _); (k_dflt (refine' Cl.use (c_finds _ _ _ _ _ _ _ (by omega) (by omega) (by omega) (by omega)) (by k_asm) (by k_asm) (by k_asm) (by k_asm) (by k_asm) (by first | exact rfl | assumption) (by first | exact List.forall_mem_nil _ | k_allIn) (by ktr_room) (by ktr_units) ?_); k_whole; intro t9 h9 tk9 F9 N9 P9; (try dsimp only); (try k_fold); (try k_sweep)))
    | ((with_reducible show wpAny _ _ (call (Value.ref 346) _) _ _ _); (k_dflt (refine' Cl.use (c_letters _ _ _ (by omega)) (by k_asm) (by k_asm) (by k_asm) (by k_asm) (by k_asm) (by first | exact rfl | assumption) (by first | exact List.forall_mem_nil _ | k_allIn) (by ktr_room) (by ktr_units) ?_); k_whole; intro t9 h9 tk9 F9 N9 P9; (try dsimp only); (try k_fold); (try k_sweep)))
    | ((with_reducible show wpAny _ _ (call (Value.ref 339) _) _ _ _); (k_dflt (refine' Cl.useO (by k_asm) (by k_asm) (by first | exact List.forall_mem_nil _ | k_allIn) (c_flags _ _ _ _ _ _ hI6 c2 c8 c16 c32 c64 c128 rfl (by omega)) (by k_asm) (by k_asm) (by k_asm) (by first | exact rfl | assumption) (by ktr_room) (by ktr_units) ?_); k_whole; intro t9 h9 tk9 F9 N9 P9; (try dsimp only); (try k_fold); (try k_sweep)))
    | ((with_reducible show wpAny _ _ (call (Value.ref 351) _) _ _ _); (k_dflt (refine' Cl.useO (by k_asm) (by k_asm) (by first | exact List.forall_mem_nil _ | k_allIn) (c_rest _ _ _ _ _ (gd_dig (by assumption)) _ _ _ _ _ _ (by omega) (by assumption) (by omega) (by omega) (by omega) (by omega)) (by k_asm) (by k_asm) (by k_asm) (by first | exact rfl | assumption) (by ktr_room) (by ktr_units) ?_); k_whole; intro t9 h9 tk9 F9 N9 P9; (try dsimp only); (try k_fold); (try k_sweep)))
  k_with "my call" => (((with_reducible show wpAny _ _ (call (Value.ref 318) _) _ _ _); (k_dflt (refine' ClJ.useO (by k_asm) (by k_asm) (by k_updF) (by first | assumption | exact ⟨_, _, by assumption⟩ | exact ⟨_, _, by k_dflt assumption⟩) (by k_memK) (by first | exact ne_jar (by k_asm) (by k_memK) (by k_memK) (by assumption) rfl | k_ne) (c_law_text _ _ _ _ _ _ _ (by assumption) (by first | exact List.length_take_le _ _ | omega) _ 0 (by omega) (by omega) (by first | exact mr0 _ | omega) (by first | exact mr1 _ | omega) (by omega) (by omega)) (by k_asm) (by k_asm) (by k_asm) (by first | exact rfl | assumption) (by ktr_room) (by ktr_units) ?_); k_whole; intro v9 k9 jo9 h9 tk9 P9 J9 F9 N9; (first | (obtain ⟨e9, x9, t9, ev9, lo9, hi9⟩ := P9; subst ev9; subst e9) | (obtain ⟨⟨ka9, kb9⟩, l9, t9, ev9, hl9, hd9⟩ := P9; subst ev9; have hs9 := len_S l9; have hr9 := drawn_small hd9)); (try dsimp only at N9); (try dsimp only); (try k_fold); (try k_sweep))))
  k_with "my comp" =>
    ((rename Fr _ _ _ _ => F'); k_dflt (refine LCg.ListComp_U (F₀ := F') (by rfl) (by decide) (by rfl) (by decide) (by rfl) ?_))
  k_with "my csrc" =>
    (k_dflt (refine LCg.CompSrc.ledger (by rfl) (by k_asm) (by k_asm) (by k_mem) (by kcf_size) ?_); intro g5; k_dflt (refine' kcf_list _ (by first | assumption | l_ints) (fun k5 t5 I5 oI5 C5 oC5 D5 m5 ys h tk E5 hk5 hC5 hx5 F5 N5 off5 ne5 hMark5 => ?_) ?_); (all_goals (try (simp only [LCg.Off3, and_true] at off5))); kcf_last)
  k_with "my name" =>
    ((with_reducible show wpAny _ _ (eval (Expr.Name _ _) (compEnvC _ _ _ _)) _ _ _); k_dflt (first
      | refine LCgL.ld_built (by k_asm) (by k_asm) (by k_asm) (by k_is) (by boot_by_name) (by decide) ?_
      | refine LCgL.ld_global (by k_asm) (by k_asm) (by k_asm) (by k_is) ?_
      | ((with_reducible show wpAny _ _ (eval (Expr.Name (Str.ofString "cell") _) _) _ _ _); refine LCgL.ld_own (by k_asm) (by k_mem) hC5 hx5 ?_)))
  k_with "my seta" =>
    (rename News _ _ _ _ => nX)
    k_dflt (first
      | refine' set_gd1 ?k1 ?k2 nX ?k4 ?k5 ?k6 ?k7 ?k8 ?k9 ?k10 ?_; (case k1 => k_asm); (case k2 => k_asm); (case k4 => assumption); (case k5 => k_is); (case k6 => k_is); (case k7 => k_is); (case k8 => k_is); (case k9 => first | exact if_neg (by decide) | exact if_pos rfl); (case k10 => exact rfl); k_whole; (rename And (LT.lt _ _) _ => q9); (clear q9)
      | refine' set_gd ?k1 ?k2 nX ?k4 ?k5 ?k6 ?k7 ?k8 ?k9 ?k10 ?_; (case k1 => k_asm); (case k2 => k_asm); (case k4 => assumption); (case k5 => k_is); (case k6 => k_is); (case k7 => k_is); (case k8 => k_is); (case k9 => first | exact if_neg (by decide) | exact if_pos rfl); (case k10 => exact rfl); k_whole
      | refine' set_gd ?k1 ?k2 (news_drop2 nX) (gd_nil ?k4 ?k3) ?k5 ?k6 ?k7 ?k8 ?k9 ?k10 ?_; (case k1 => k_asm); (case k2 => k_asm); (case k4 => k_ne); (case k3 => (repeat' first | exact List.forall_mem_nil _ | refine List.forall_mem_cons.mpr ⟨?_, ?_⟩ | k_ne)); (case k5 => k_is); (case k6 => k_is); (case k7 => k_is); (case k8 => k_is); (case k9 => first | exact if_neg (by decide) | exact if_pos rfl); (case k10 => exact rfl); k_whole)
    (intro h9 es9 n9 G9 F9 N9; (try dsimp only); (try k_fold); (try k_sweep))
  k_with "my tup" =>
    (rename News _ _ _ _ => nX)
    k_dflt (refine' kup_newTuple ?F nX ?_ ?z; (case F => k_asm); (case z => kmk_size))
    (intro D5 h5 F5 N5 l5; (try k_lt l5); (try dsimp only at N5); (try k_sweep))
  k_with "my acomp" =>
    k_dflt (refine assign_tup (F₀ := by k_asm) (by rfl) (by with_unfolding_all rfl) (by with_unfolding_all rfl) (by decide) (by rfl) (by decide) (by rfl) (by rfl) (by rfl) ?_)
  k_with "my tsrc" =>
    (rename News _ _ _ _ => nX)
    k_dflt (refine TupSrc.intro (by rfl) (by k_asm) nX (by k_memK) rfl rfl (Nat.le_of_ble_eq_true rfl) ?_)
    (intro g5)
    k_dflt (refine rest_flags (jo := jo9) (its := [.int 2 _, .int 8 _, .int 16 _, .int 32 _, .int 64 _, .int 128 _]) (.cons _ _ (.cons _ _ (.cons _ _ (.cons _ _ (.cons _ _ (.cons _ _ .nil)))))) (fun o => [(_, _), (_, _), (_, _), (_, _), (_, _), (_, _), (_, o), (_, _)]) _ J9 ?_ ?_)
    (intro i5 f5 t5 jo5 I5 oI5 D5 oC5 A5 m5 ys h tk E5 hi5 J5 hC5 hx5 F5 N5 off5 ne5; (try dsimp only at N5); (try dsimp only at off5); have off6 := off5; simp only [LCg.Off3, and_true] at off6; (obtain ⟨q1, q2, q3⟩ := ne5); (obtain ⟨⟨_, _, _⟩, ⟨_, _, _⟩, ⟨_, _, _⟩, ⟨_, _, _⟩, ⟨_, _, _⟩, ⟨_, _, _⟩, ⟨_, _, _⟩, ⟨_, _, _⟩⟩ := off6); (try k_fold))
    rotate_left
    (intro ys c2 c8 c16 c32 c64 c128 jo6 hI6 J6; unfold LCg.FinA; intro A6 h6 tk6 F6 N6 off6; (try dsimp only at N6); (try dsimp only); (try k_fold))
    rotate_left
  k_with "my cend" =>
    k_dflt (first
      | exact LCg.CompEnd.intro F9 N9 _ (fun p hp => hp) off5 (by k_memK) ⟨_, rfl, J9, _, rfl⟩
      | exact LCg.CompEnd.intro F9 N9 _ (fun p hp => hp) off5 (by k_memK) ⟨_, rfl, J9⟩)
  k_fill
  intro w s₀ s₁ mg mb G Y fa o pm cd doc dV kV ho hd hcd hD hmg hg args vals as hpre hlay hrd hwl hlo
  have KX := kIn_of Y
  refine Ground.open G ?_
  intro T B D TE TW
  clear B D TE TW
  have TA := at_of_top T
  clear hmg
  wrow_args hpre hlay hrd hwl hlo
  all_goals
    refine enter_call ?_
    w_top on
    try refine codeAny_mono ?_ (fun _ _ g => GoodW.toG g)
    have K0 := below_caller (Top.heap T)
    w_call any ho hd hcd hD T F
    clear hd TA
    k_drop
  all_goals try k_fold
  k_steps
  
  all_goals fail "left"
end Mine
end

theorem PySem.Challenge.cw_pq0179_01_holds : PySem.Challenge.rw_pq0179_01.Holds :=
  Mine.c_law
