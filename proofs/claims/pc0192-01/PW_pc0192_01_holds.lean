import PyProof.Rows.All
import Wide.All
import OpenK.AllK
import Wide.FinOn
import PySem.Challenge.RW_pc0192_01
open PySem PySem.W PyProof.Rows
set_option Elab.async false
set_option maxRecDepth 100000
namespace Mine
section
local macro_rules | `(tactic| refine $_) => `(tactic| assumption)
set_option maxHeartbeats 8000000 in
theorem frg (h : PySem.Challenge.rw_pc0192_01.row.Holds) : PySem.Challenge.rw_pc0192_01.row.Holds := by k_head
set_option maxHeartbeats 8000000 in
theorem frz (h : PySem.Challenge.rw_pc0192_01.row.Holds) : PySem.Challenge.rw_pc0192_01.row.Holds := by z_head
end
noncomputable abbrev vw : Program := frg.view_1
abbrev loose2 : List Str := [Str.ofString "RowsError", Str.ofString "WIDTHS"]
def keys1 : List Addr := [2, 3, 15, 22, 23, 25, 26, 28, 29, 30, 31, 32, 33, 36, 43, 45, 46, 48, 49, 50, 51, 52, 55, 57, 58, 60, 61, 62, 64, 65, 67, 68, 69, 71, 72, 74, 75, 76, 78, 79, 81, 82, 83, 85, 86, 88, 89, 90, 91, 93, 94, 96, 97, 98, 100, 101, 103, 104, 105, 107, 108, 110, 111, 112, 114, 115, 117, 118, 119, 121, 122, 124, 125, 126, 128, 129, 131, 132, 133, 135, 136, 138, 139, 140, 142, 143, 145, 146, 147, 149, 150, 152, 153, 154, 156, 157, 159, 160, 161, 163, 164, 166, 167, 168, 170, 171, 173, 174, 175, 177, 178, 180, 181, 182, 184, 185, 187, 188, 189, 191, 192, 194, 195, 196, 198, 199, 201, 202, 203, 205, 206, 208, 209, 210, 212, 213, 215, 216, 217, 219, 220, 222, 223, 224, 226, 227, 229, 230, 231, 233, 234, 236, 237, 238, 240, 241, 243, 244, 245, 247, 248, 250, 251, 252, 254, 255, 257, 258, 259, 261, 262, 264, 265, 266, 268, 269, 271, 272, 273, 275, 276, 278, 279, 280, 282, 283, 285, 286, 287, 290, 291, 292, 295, 296]
theorem keys_eq (P : Params) : keys1 = (frg.heap_1 P).map (·.1) := by kernel_rfl
def xo_16 (_ : Params) : Obj := { cls := .type "builtin_function_or_method", data := .fields #[.builtin "type.__prepare__", .type "type"] }
def xo_17 (P : Params) : Obj := { cls := .type "dict", data := .dict #[{ hash := PyData.keyHash P (Str.ofString "__module__"), key := .str (Str.ofString "__module__") 196, val := (.str (Str.ofString "methodrows.errors") 187) }, { hash := PyData.keyHash P (Str.ofString "__qualname__"), key := .str (Str.ofString "__qualname__") 198, val := (.str (Str.ofString "RowsError") 197) }, { hash := PyData.keyHash P (Str.ofString "__firstlineno__"), key := .str (Str.ofString "__firstlineno__") 200, val := (.int 2 199) }, { hash := PyData.keyHash P (Str.ofString "__init__"), key := .str (Str.ofString "__init__") 209, val := (.ref 29) }, { hash := PyData.keyHash P (Str.ofString "__static_attributes__"), key := .str (Str.ofString "__static_attributes__") 212, val := (.ref 30) }] 5 }
def xo_18 (_ : Params) : Obj := { cls := .type "tuple", data := .seq #[] }
def xo_19 (_ : Params) : Obj := { cls := .none, data := .fields #[.int 4 0, .int 4 0, .ref 28] }
def xo_20 (_ : Params) : Obj := { cls := .type "code", data := .fields #[(.str (Str.ofString "RowsError") 191), (.str (Str.ofString "RowsError") 192), (.str (Str.ofString "/claim/cut.py") 193), .int 2 0, .int 0 0, .int 0 0, .int 0 0, .int 0 0, .ref 18, .bool false, .int 181 0, .ref 19, .none, .none, .none, .none, .int 194 0, .int 2 0, (.str (Str.ofString "/claim/cut.py") 195)] }
def xo_21 (_ : Params) : Obj := { cls := .type "frame", slots := #[some (.ref 20), some (.ref 3), some (.ref 17), none, some (.str (Str.ofString "methodrows.errors") 187), none, some (.ref 0)] }
def xo_34 (_ : Params) : Obj := { cls := .type "super", data := .fields #[.ref 32, .ref 32, .ref 32] }
def xo_35 (_ : Params) : Obj := { cls := .type "builtin_function_or_method", data := .fields #[.builtin "object.__init_subclass__", .ref 32] }
def xo_37 (_ : Params) : Obj := { cls := .type "builtin_function_or_method", data := .fields #[.builtin "type.__prepare__", .type "type"] }
def xo_38 (P : Params) : Obj := { cls := .type "dict", data := .dict #[{ hash := PyData.keyHash P (Str.ofString "__module__"), key := .str (Str.ofString "__module__") 227, val := (.str (Str.ofString "methodrows.errors") 187) }, { hash := PyData.keyHash P (Str.ofString "__qualname__"), key := .str (Str.ofString "__qualname__") 229, val := (.str (Str.ofString "Thrown") 228) }, { hash := PyData.keyHash P (Str.ofString "__firstlineno__"), key := .str (Str.ofString "__firstlineno__") 231, val := (.int 8 230) }, { hash := PyData.keyHash P (Str.ofString "__init__"), key := .str (Str.ofString "__init__") 239, val := (.ref 49) }, { hash := PyData.keyHash P (Str.ofString "__static_attributes__"), key := .str (Str.ofString "__static_attributes__") 241, val := (.ref 50) }] 5 }
def xo_39 (_ : Params) : Obj := { cls := .type "tuple", data := .seq #[] }
def xo_40 (_ : Params) : Obj := { cls := .none, data := .fields #[.int 10 0, .int 4 0, .ref 48] }
def xo_41 (_ : Params) : Obj := { cls := .type "code", data := .fields #[(.str (Str.ofString "Thrown") 222), (.str (Str.ofString "Thrown") 223), (.str (Str.ofString "/claim/cut.py") 224), .int 8 0, .int 0 0, .int 0 0, .int 0 0, .int 0 0, .ref 39, .bool false, .int 181 0, .ref 40, .none, .none, .none, .none, .int 225 0, .int 8 0, (.str (Str.ofString "/claim/cut.py") 226)] }
def xo_42 (_ : Params) : Obj := { cls := .type "frame", slots := #[some (.ref 41), some (.ref 3), some (.ref 38), none, some (.str (Str.ofString "methodrows.errors") 187), none, some (.ref 0)] }
def xo_53 (_ : Params) : Obj := { cls := .type "super", data := .fields #[.ref 52, .ref 52, .ref 52] }
def xo_54 (_ : Params) : Obj := { cls := .type "builtin_function_or_method", data := .fields #[.builtin "object.__init_subclass__", .ref 52] }
/-- all that stands when the top has run -/
noncomputable def fin (P : Params) : Heap := Heap.mk (Array.mk [frz.zo_1 P, frz.zo_2 P, frz.zo_3 P, frz.zo_4 P, frz.zo_5 P, frz.zo_6 P, frz.zo_7 P, frz.zo_8 P, frz.zo_9 P, frz.zo_10 P, frz.zo_11 P, frz.zo_12 P, frz.zo_13 P, frz.zo_14 P, frz.zo_15 P, frz.zo_16 P, xo_16 P, xo_17 P, xo_18 P, xo_19 P, xo_20 P, xo_21 P, frz.zo_17 P, frz.zo_18 P, frz.zo_19 P, frz.zo_20 P, frz.zo_21 P, frz.zo_22 P, frz.zo_23 P, frz.zo_24 P, frz.zo_25 P, frz.zo_26 P, frz.zo_27 P, frz.zo_28 P, xo_34 P, xo_35 P, frz.zo_29 P, xo_37 P, xo_38 P, xo_39 P, xo_40 P, xo_41 P, xo_42 P, frz.zo_30 P, frz.zo_31 P, frz.zo_32 P, frz.zo_33 P, frz.zo_34 P, frz.zo_35 P, frz.zo_36 P, frz.zo_37 P, frz.zo_38 P, frz.zo_39 P, xo_53 P, xo_54 P, frz.zo_40 P, frz.zo_41 P, frz.zo_42 P, frz.zo_43 P, frz.zo_44 P, frz.zo_45 P, frz.zo_46 P, frz.zo_47 P, frz.zo_48 P, frz.zo_49 P, frz.zo_50 P, frz.zo_51 P, frz.zo_52 P, frz.zo_53 P, frz.zo_54 P, frz.zo_55 P, frz.zo_56 P, frz.zo_57 P, frz.zo_58 P, frz.zo_59 P, frz.zo_60 P, frz.zo_61 P, frz.zo_62 P, frz.zo_63 P, frz.zo_64 P, frz.zo_65 P, frz.zo_66 P, frz.zo_67 P, frz.zo_68 P, frz.zo_69 P, frz.zo_70 P, frz.zo_71 P, frz.zo_72 P, frz.zo_73 P, frz.zo_74 P, frz.zo_75 P, frz.zo_76 P, frz.zo_77 P, frz.zo_78 P, frz.zo_79 P, frz.zo_80 P, frz.zo_81 P, frz.zo_82 P, frz.zo_83 P, frz.zo_84 P, frz.zo_85 P, frz.zo_86 P, frz.zo_87 P, frz.zo_88 P, frz.zo_89 P, frz.zo_90 P, frz.zo_91 P, frz.zo_92 P, frz.zo_93 P, frz.zo_94 P, frz.zo_95 P, frz.zo_96 P, frz.zo_97 P, frz.zo_98 P, frz.zo_99 P, frz.zo_100 P, frz.zo_101 P, frz.zo_102 P, frz.zo_103 P, frz.zo_104 P, frz.zo_105 P, frz.zo_106 P, frz.zo_107 P, frz.zo_108 P, frz.zo_109 P, frz.zo_110 P, frz.zo_111 P, frz.zo_112 P, frz.zo_113 P, frz.zo_114 P, frz.zo_115 P, frz.zo_116 P, frz.zo_117 P, frz.zo_118 P, frz.zo_119 P, frz.zo_120 P, frz.zo_121 P, frz.zo_122 P, frz.zo_123 P, frz.zo_124 P, frz.zo_125 P, frz.zo_126 P, frz.zo_127 P, frz.zo_128 P, frz.zo_129 P, frz.zo_130 P, frz.zo_131 P, frz.zo_132 P, frz.zo_133 P, frz.zo_134 P, frz.zo_135 P, frz.zo_136 P, frz.zo_137 P, frz.zo_138 P, frz.zo_139 P, frz.zo_140 P, frz.zo_141 P, frz.zo_142 P, frz.zo_143 P, frz.zo_144 P, frz.zo_145 P, frz.zo_146 P, frz.zo_147 P, frz.zo_148 P, frz.zo_149 P, frz.zo_150 P, frz.zo_151 P, frz.zo_152 P, frz.zo_153 P, frz.zo_154 P, frz.zo_155 P, frz.zo_156 P, frz.zo_157 P, frz.zo_158 P, frz.zo_159 P, frz.zo_160 P, frz.zo_161 P, frz.zo_162 P, frz.zo_163 P, frz.zo_164 P, frz.zo_165 P, frz.zo_166 P, frz.zo_167 P, frz.zo_168 P, frz.zo_169 P, frz.zo_170 P, frz.zo_171 P, frz.zo_172 P, frz.zo_173 P, frz.zo_174 P, frz.zo_175 P, frz.zo_176 P, frz.zo_177 P, frz.zo_178 P, frz.zo_179 P, frz.zo_180 P, frz.zo_181 P, frz.zo_182 P, frz.zo_183 P, frz.zo_184 P, frz.zo_185 P, frz.zo_186 P, frz.zo_187 P, frz.zo_188 P, frz.zo_189 P, frz.zo_190 P, frz.zo_191 P, frz.zo_192 P, frz.zo_193 P, frz.zo_194 P, frz.zo_195 P, frz.zo_196 P, frz.zo_197 P, frz.zo_198 P, frz.zo_199 P, frz.zo_200 P, frz.zo_201 P, frz.zo_202 P, frz.zo_203 P, frz.zo_204 P, frz.zo_205 P, frz.zo_206 P, frz.zo_207 P, frz.zo_208 P, frz.zo_209 P, frz.zo_210 P, frz.zo_211 P, frz.zo_212 P, frz.zo_213 P, frz.zo_214 P, frz.zo_215 P, frz.zo_216 P, frz.zo_217 P, frz.zo_218 P, frz.zo_219 P, frz.zo_220 P, frz.zo_221 P, frz.zo_222 P, frz.zo_223 P, frz.zo_224 P, frz.zo_225 P, frz.zo_226 P, frz.zo_227 P, frz.zo_228 P, frz.zo_229 P, frz.zo_230 P, frz.zo_231 P, frz.zo_232 P, frz.zo_233 P, frz.zo_234 P, frz.zo_235 P, frz.zo_236 P, frz.zo_237 P, frz.zo_238 P, frz.zo_239 P, frz.zo_240 P, frz.zo_241 P, frz.zo_242 P, frz.zo_243 P, frz.zo_244 P, frz.zo_245 P, frz.zo_246 P, frz.zo_247 P, frz.zo_248 P, frz.zo_249 P, frz.zo_250 P, frz.zo_251 P, frz.zo_252 P, frz.zo_253 P, frz.zo_254 P, frz.zo_255 P, frz.zo_256 P, frz.zo_257 P, frz.zo_258 P, frz.zo_259 P, frz.zo_260 P, frz.zo_261 P, frz.zo_262 P, frz.zo_263 P, frz.zo_264 P, frz.zo_265 P, frz.zo_266 P, frz.zo_267 P, frz.zo_268 P, frz.zo_269 P, frz.zo_270 P, frz.zo_271 P, frz.zo_272 P, frz.zo_273 P, frz.zo_274 P, frz.zo_275 P, frz.zo_276 P, frz.zo_277 P, frz.zo_278 P, frz.zo_279 P, frz.zo_280 P, frz.zo_281 P]) { }
noncomputable def Xt (s : Shared) : Bool := xlAt vw [] s && recOk PySem.Challenge.rw_pc0192_01.row.toRowW.records s
noncomputable abbrev hook : Hook := kHook frg.heap_1 keys1 keys_eq
noncomputable abbrev st0 (w : World) (os : OsState) : Shared := ⟨boot_heap w.params, Array.mk [], boot_drawn, boot_toks, os⟩
noncomputable abbrev st1 (w : World) (os : OsState) : Shared := ⟨fin w.params, Array.mk [], { }, 576, os⟩
theorem te_run : @topRun = PySem.W.Fast.tw14082659384304107361 := PySem.W.Fast.te14082659384304107361
theorem te_tab : @treeTable = PySem.W.Fast.tw14364793385576792824 := PySem.W.Fast.te14364793385576792824
def Ran (w : World) : Prop := ∀ os, topRun treeTable PySem.Challenge.pw_pc0192_01 w 11 (some (.ref 6)) 2000 (st0 w os) (topStub PySem.Challenge.pw_pc0192_01) = some (st1 w os)
theorem ran_f (w : World) : Ran (w.withFollow "special-get-raises" false) := by unfold Ran; rw [te_run, te_tab]; intro os; kernel_rfl
theorem ran_t (w : World) : Ran (w.withFollow "special-get-raises" true) := by unfold Ran; rw [te_run, te_tab]; intro os; kernel_rfl
noncomputable abbrev mods9 := importedModules PySem.Challenge.pw_pc0192_01.main.body
theorem size0 (w : World) : ((boot_heap w.params).isNs mainGlobals && (Array.mk [] : Array GenState).size == 0, (boot_heap w.params).objs.size, (boot_heap w.params).nsMap mainGlobals "__annotations__") = (true, 11, some (.ref 6)) := by kernel_rfl
theorem look_0 (w : World) (os : OsState) : (staticsOk mods9 (boot_heap w.params) (fin w.params) && namesBound PySem.Challenge.pw_pc0192_01 (fin w.params) && gensDone (st1 w os) && laidKept (boot_heap w.params) (fin w.params)) = true := by kernel_rfl
theorem look_1 (w : World) (os : OsState) : seen ((recsOf vw).map (·.name)) (ownsOf vw) [] { st1 w os with gens := #[] } = expectedOf vw := by rw [PySem.W.Fast.te5160383126252970620, PySem.W.Fast.te3399658132070893891, PySem.W.Fast.te5991557255702980513]; kernel_rfl
theorem look_2 (w : World) (os : OsState) : (fin w.params).bltView = bltViewBooted := by kernel_rfl
theorem look_3 (w : World) (os : OsState) : ((fin w.params).keysOk (looseW vw loose2) ((recsOf vw).map (·.name)) ((litsOf vw).map (·.1)) ((clssOf vw (looseW vw loose2)).map (·.name)) && (fin w.params).accountedOkI mods9 && (fin w.params).isNs mainGlobals && (fin w.params).isNs builtinsNs && tablesOk vw (fin w.params) && Xt (st1 w os) && (if true then (st1 w os).gens.size == 0 else !leftWithCleanup (st1 w os).gens)) = true := by rw [PySem.W.Fast.te10880121769531294198, PySem.W.Fast.te14722251495701143533, PySem.W.Fast.te10994771534591457954]; kernel_rfl
theorem look_4 (w : World) (os : OsState) : tabsOk vw (st1 w os) = true := by rw [PySem.W.Fast.te479339242167458305]; kernel_rfl
theorem look_5 (w : World) (os : OsState) : pinSeenD vw (drecsOf vw) (st1 w os) = pinGoodD (drecsOf vw) := by rw [PySem.W.Fast.te16090120013241838585]; kernel_rfl
theorem look_6 (w : World) (os : OsState) : plainSeenE vw (looseW vw loose2) (st1 w os) = plainGoodE vw (looseW vw loose2) := by rw [PySem.W.Fast.te2386780881361962483]; kernel_rfl
theorem look_7 (w : World) (os : OsState) : plainSeenD vw loose2 (st1 w os) = plainGoodD vw loose2 := by rw [PySem.W.Fast.te11698064438423848299]; kernel_rfl
theorem look_8 (w : World) (os : OsState) : wideSeen vw (st1 w os) = wideGood vw := by rw [PySem.W.Fast.te7317090234206586261]; kernel_rfl
theorem look_9 (w : World) (os : OsState) : clsSeenW vw loose2 (st1 w os) = clsGoodW vw loose2 := by rw [PySem.W.Fast.te7369524293546568484]; kernel_rfl
theorem look_10 (w : World) (os : OsState) : hook.obs (st1 w os) = hook.val w := by kernel_rfl
theorem seen_of {q : Program} {loose mods : List Str} {X : Shared → Bool} {s : Shared}
    (h1 : seen ((recsOf q).map (·.name)) (ownsOf q) [] { s with gens := #[] } = expectedOf q) (h2 : s.heap.bltView = bltViewBooted)
    (h3 : (s.heap.keysOk (looseW q loose) ((recsOf q).map (·.name)) ((litsOf q).map (·.1)) ((clssOf q (looseW q loose)).map (·.name)) && s.heap.accountedOkI mods && s.heap.isNs mainGlobals && s.heap.isNs builtinsNs && tablesOk q s.heap && X s && (if true then s.gens.size == 0 else !leftWithCleanup s.gens)) = true)
    (h4 : tabsOk q s = true) (h5 : pinSeenD q (drecsOf q) s = pinGoodD (drecsOf q)) (h6 : plainSeenE q (looseW q loose) s = plainGoodE q (looseW q loose)) (h7 : plainSeenD q loose s = plainGoodD q loose) (h8 : wideSeen q s = wideGood q) (h9 : clsSeenW q loose s = clsGoodW q loose) :
    openSeen q loose mods X true s = openGood q loose := by
  unfold openSeen openGood
  rw [h1, h2, h3, h4, h5, h6, h7, h8, h9]
theorem seen_all (w : World) (os : OsState) : openSeen vw loose2 mods9 Xt true (st1 w os) = openGood vw loose2 :=
  seen_of (look_1 w os) (look_2 w os) (look_3 w os) (look_4 w os) (look_5 w os) (look_6 w os) (look_7 w os) (look_8 w os) (look_9 w os)
theorem left1 : LeftO PySem.Challenge.pw_pc0192_01 vw loose2 Xt hook.obs hook.val 2000 :=
  LeftO.of_pieces (H₀ := boot_heap) (H₁ := fin) (gs₀ := Array.mk []) (gs₁ := Array.mk []) (d₀ := boot_drawn) (d₁ := { }) (k₀ := boot_toks) (k₁ := 576) (m₀ := 11) (ann := some (.ref 6)) (M := 2000)
    (boot_open (by kernel_rfl) (by kernel_rfl) (fun s => by kernel_rfl)) size0 (byRow2 "special-get-raises" ran_f ran_t) (by decide +kernel)
    (fun w => funext fun os => Prod.ext (look_0 w os) (Prod.ext (seen_all w os) (look_10 w os)))
theorem said : PySem.Challenge.rw_pc0192_01.wellSaid = true := by rw [PySem.W.Fast.te9446332074065402090]; kernel_rfl
theorem okk : (chainsOk vw && opensWell PySem.Challenge.pw_pc0192_01 && (frees PySem.Challenge.rw_pc0192_01.row.toRowW && PySem.Challenge.rw_pc0192_01.row.within.isEmpty)) = true := by kernel_rfl
theorem prom1 : PySem.Challenge.rw_pc0192_01.row.toRowW.promised := by w_witness2
open PySem.Spec PySem.Calls
local macro_rules | `(tactic| walk_at $s:str) => `(tactic| k_extra $s)
local macro_rules | `(tactic| walk_at "ite") => `(tactic| (k_closed; with_reducible (first | refine W.ite_pos (by decide) ?_ | refine W.ite_neg (by decide) ?_)))
local macro_rules | `(tactic| k_room) => `(tactic| ktr_room)
local macro_rules | `(tactic| k_mem) => `(tactic| kcj_m)
local macro_rules | `(tactic| k_all) => `(tactic| assumption)
abbrev Ledger := List (Addr × Obj)
abbrev topA (dp un : Nat) (gd : Option (List Code)) (env : Env) (outer : List Env) : Around := { handled := none, depth := dp, frames := some (env :: outer), guards := gd, units := un }
/-- what a call of the def at f with vs does, over a ledger: it comes back with what post says, all else kept -/
def Ctr (w : World) (d : Nat) (f : Addr) (vs : List Value) (news : Ledger) (post : Value → Ledger → Prop) : Prop :=
  ∀ (mean : ExcName → Option Value) (mg mb : Str → Option Value) (dp un : Nat) (gd : Option (List Code)) (env : Env) (outer : List Env) (A₀ : Around) (base h₀ : Heap) (L : Addr) (m : Str → Option Value) (hp : Heap) (gs : Array GenState) (dr : Drawn) (tk0 : Nat) (os : OsState) (Q E : Value → Shared → Prop),
    Below A₀ base outer h₀ → Fr h₀ L hp m → (frg.heap_1 w.params).In h₀ → News h₀ L hp news → Top vw loose2 mean mg mb h₀ → env.frame = some L → env.scope.kind = .function → dp + d < recursionLimit → un + 20 * d < cLine →
    (∀ r news' h' tk', post r news' → Fr h₀ L h' m → News h₀ L h' news' → Q r ⟨h', gs, dr, tk', os⟩) →
    wpAny (model PySem.Challenge.pw_pc0192_01 w) (topA dp un gd env outer) (call (.ref f) vs) Q E ⟨hp, gs, dr, tk0, os⟩

theorem Ctr.use {w : World} {d : Nat} {f : Addr} {vs : List Value} {news : Ledger} {post : Value → Ledger → Prop} (C : Ctr w d f vs news post)
    {mean : ExcName → Option Value} {mg mb : Str → Option Value} {dp un : Nat} {gd : Option (List Code)} {env : Env} {outer : List Env} {A₀ : Around} {base h₀ : Heap} {L : Addr} {m : Str → Option Value} {hp : Heap} {gs : Array GenState} {dr : Drawn} {tk0 : Nat} {os : OsState} {Q E : Value → Shared → Prop}
    (B : Below A₀ base outer h₀) (F : Fr h₀ L hp m) (X : (frg.heap_1 w.params).In h₀) (N : News h₀ L hp news) (T : Top vw loose2 mean mg mb h₀) (hf : env.frame = some L) (hk : env.scope.kind = .function) (hdp : dp + d < recursionLimit) (hun : un + 20 * d < cLine)
    (ret : ∀ r news' h' tk', post r news' → Fr h₀ L h' m → News h₀ L h' news' → Q r ⟨h', gs, dr, tk', os⟩) :
    wpAny (model PySem.Challenge.pw_pc0192_01 w) (topA dp un gd env outer) (call (.ref f) vs) Q E ⟨hp, gs, dr, tk0, os⟩ :=
  C mean mg mb dp un gd env outer A₀ base h₀ L m hp gs dr tk0 os Q E B F X N T hf hk hdp hun ret

inductive Kd | i8 | u8 | i16 | u16 | i32 | u32 | i64 | u64 | big | bool
def Kd.str : Kd → Str
  | .i8 => Str.ofString "Int8" | .u8 => Str.ofString "UInt8" | .i16 => Str.ofString "Int16" | .u16 => Str.ofString "UInt16" | .i32 => Str.ofString "Int32" | .u32 => Str.ofString "UInt32"
  | .i64 => Str.ofString "Int64" | .u64 => Str.ofString "UInt64" | .big => Str.ofString "BigInt" | .bool => Str.ofString "Bool"
def Kd.signed : Kd → Bool
  | .u8 | .u16 | .u32 | .u64 => false
  | _ => true
def Kd.w : Kd → Nat
  | .i8 | .u8 => 8 | .i16 | .u16 => 16 | .i32 | .u32 => 32 | .i64 | .u64 => 64 | .big => 4000 | .bool => 0
/-- one of the eight kinds with a width -/
def Kd.fixed : Kd → Bool
  | .big | .bool => false
  | _ => true

theorem kd_len (k : Kd) : 0 < k.str.length := by cases k <;> decide
theorem kd_signed (k : Kd) : (Txt.item k.str 0 != Str.ofString "U") = k.signed := by cases k <;> decide +kernel
section
variable {M : Model} {A : Around} {E : Value → Shared → Prop} {s : Shared} {K : Frag} {h₀ : Heap} {L a fa : Addr} {m mg mb : Str → Option Value} {cn : Str} {cs : Scope} {ccd : Value} {cl : List (Str × Addr)} {p : Program} {loose : List Str}
  {f x y : Str} {pf px py pc : Pos} {v u : Value} {Q : Value → Shared → Prop}
/-- a call of a global def upon one local name, upon two: in one step -/
theorem callN1 (F : Fr h₀ L s.heap m) (X : K.In h₀) (T : TopRead p loose mg mb h₀) (e : nsIn K mainGlobals f = some (some (.ref fa))) (hk : keepIn K (.ref fa) = true) (hx : m x = some v)
    (h : wpAny M A (call (.ref fa) [v]) Q E s) (hc : cs.kind = .function) (hg : (envX cn cs L a ccd cl).kindOf f = some .globalImplicit) (hl : (envX cn cs L a ccd cl).kindOf x = some .local)
    (df : (f == ("__debug__" : Str)) = false) (dx : (x == ("__debug__" : Str)) = false) :
    wpAny M A (eval (.Call (.Name f pf) [.Name x px] [] pc) (envX cn cs L a ccd cl)) Q E s :=
  Call_ (nameX_K F X T e (callWith_K X hk (spliced_more (nameX_L F hx (spliced_none ⟨X.keeps F.keep, h⟩) hc hl dx))) hc hg df)
theorem callN2 (F : Fr h₀ L s.heap m) (X : K.In h₀) (T : TopRead p loose mg mb h₀) (e : nsIn K mainGlobals f = some (some (.ref fa))) (hk : keepIn K (.ref fa) = true) (hx : m x = some v) (hy : m y = some u)
    (h : wpAny M A (call (.ref fa) [v, u]) Q E s) (hc : cs.kind = .function) (hg : (envX cn cs L a ccd cl).kindOf f = some .globalImplicit) (hl : (envX cn cs L a ccd cl).kindOf x = some .local) (hm : (envX cn cs L a ccd cl).kindOf y = some .local)
    (df : (f == ("__debug__" : Str)) = false) (dx : (x == ("__debug__" : Str)) = false) (dy : (y == ("__debug__" : Str)) = false) :
    wpAny M A (eval (.Call (.Name f pf) [.Name x px, .Name y py] [] pc) (envX cn cs L a ccd cl)) Q E s :=
  Call_ (nameX_K F X T e (callWith_K X hk (spliced_more (nameX_L F hx (spliced_more (nameX_L F hy (spliced_none ⟨X.keeps F.keep, h⟩) hc hm dy)) hc hl dx))) hc hg df)
theorem callE1 {e1 : PySem.Expr} (F : Fr h₀ L s.heap m) (X : K.In h₀) (T : TopRead p loose mg mb h₀) (e : nsIn K mainGlobals f = some (some (.ref fa))) (hk : keepIn K (.ref fa) = true)
    (h : wpAny M A (eval e1 (envX cn cs L a ccd cl)) (fun v s₁ => K.In s₁.heap ∧ wpAny M A (call (.ref fa) [v]) Q E s₁) E s) (hc : cs.kind = .function) (hg : (envX cn cs L a ccd cl).kindOf f = some .globalImplicit)
    (df : (f == ("__debug__" : Str)) = false) (h1 : starEach [e1] (envX cn cs L a ccd cl) = (false, eval e1 (envX cn cs L a ccd cl)) :: starEach [] (envX cn cs L a ccd cl)) :
    wpAny M A (eval (.Call (.Name f pf) [e1] [] pc) (envX cn cs L a ccd cl)) Q E s :=
  Call_ (nameX_K F X T e (callWith_K X hk (spliced_more (wpAny_mono h (fun _ _ q => spliced_none q) fun _ _ q => q) h1) h1) hc hg df)
theorem callE2 {e1 e2 : PySem.Expr} (F : Fr h₀ L s.heap m) (X : K.In h₀) (T : TopRead p loose mg mb h₀) (e : nsIn K mainGlobals f = some (some (.ref fa))) (hk : keepIn K (.ref fa) = true)
    (h : wpAny M A (eval e1 (envX cn cs L a ccd cl)) (fun v s₁ => wpAny M A (eval e2 (envX cn cs L a ccd cl)) (fun u s₂ => K.In s₂.heap ∧ wpAny M A (call (.ref fa) [v, u]) Q E s₂) E s₁) E s)
    (hc : cs.kind = .function) (hg : (envX cn cs L a ccd cl).kindOf f = some .globalImplicit) (df : (f == ("__debug__" : Str)) = false)
    (h1 : starEach [e1, e2] (envX cn cs L a ccd cl) = (false, eval e1 (envX cn cs L a ccd cl)) :: starEach [e2] (envX cn cs L a ccd cl)) (h2 : starEach [e2] (envX cn cs L a ccd cl) = (false, eval e2 (envX cn cs L a ccd cl)) :: starEach [] (envX cn cs L a ccd cl)) :
    wpAny M A (eval (.Call (.Name f pf) [e1, e2] [] pc) (envX cn cs L a ccd cl)) Q E s :=
  Call_ (nameX_K F X T e (callWith_K X hk (spliced_more (wpAny_mono h (fun _ _ q => spliced_more (wpAny_mono q (fun _ _ r => spliced_none r) fun _ _ r => r) h2) fun _ _ q => q) h1) h1 (by rw [h2]; rfl)) hc hg df)
end
set_option maxHeartbeats 8000000 in
theorem c_is_signed (w : World) (k : Kd) (t : Tok) (news : Ledger) : Ctr w 1 104 [.str k.str t] news (fun r n' => r = .bool k.signed ∧ n' = news) := by
  have hlen := kd_len k
  intro mean mg mb dp un gd env outer A₀ base h₀ L m hp gs dr tk0 os Q E B F X N T hf hk hdp hun hret
  k_with_none
  (k_with "eval Call" => first | k_compRoot | (k_here; (with_reducible show wpAny _ _ (eval _ (compEnvC _ _ _ _)) _ _ _); k_dflt (refine Call_ ?_)) | (k_here; (with_reducible show wpAny _ _ (eval (PySem.Expr.Call (PySem.Expr.Name _ _) [PySem.Expr.Name _ _] [] _) _) _ _ _); k_dflt (refine' callN1 ?F ?X ?T ?e ?k ?x ?_ ?c ?g ?l ?df ?dx; (case F => k_asm); (case X => k_asm); (case T => k_asm); (case e => k_is); (case k => k_is); (case x => exact rfl); (case c => exact rfl); (case g => exact rfl); (case l => exact rfl); (case df => decide); (case dx => decide); k_whole)) | (k_here; (with_reducible show wpAny _ _ (eval (PySem.Expr.Call (PySem.Expr.Name _ _) [PySem.Expr.Name _ _, PySem.Expr.Name _ _] [] _) _) _ _ _); k_dflt (refine' callN2 ?F ?X ?T ?e ?k ?x ?y ?_ ?c ?g ?l ?m ?df ?dx ?dy; (case F => k_asm); (case X => k_asm); (case T => k_asm); (case e => k_is); (case k => k_is); (case x => exact rfl); (case y => exact rfl); (case c => exact rfl); (case g => exact rfl); (case l => exact rfl); (case m => exact rfl); (case df => decide); (case dx => decide); (case dy => decide); k_whole)) | (k_here; (with_reducible show wpAny _ _ (eval (PySem.Expr.Call (PySem.Expr.Name _ _) [_] [] _) _) _ _ _); k_dflt (refine' callE1 ?F ?X ?T ?e ?k ?_ ?c ?g ?df ?h1; (case F => k_asm); (case X => k_asm); (case T => k_asm); (case e => k_is); (case k => k_is); (case c => exact rfl); (case g => exact rfl); (case df => decide); (case h1 => exact rfl); k_whole)) | (k_here; (with_reducible show wpAny _ _ (eval (PySem.Expr.Call (PySem.Expr.Name _ _) [_, _] [] _) _) _ _ _); k_dflt (refine' callE2 ?F ?X ?T ?e ?k ?_ ?c ?g ?df ?h1 ?h2; (case F => k_asm); (case X => k_asm); (case T => k_asm); (case e => k_is); (case k => k_is); (case c => exact rfl); (case g => exact rfl); (case df => decide); (case h1 => exact rfl); (case h2 => exact rfl); k_whole)) | k_dflt (refine Call_ ?_))
  (refine wpAny_call ?_; k_dflt (refine' code_def (binds := [(Str.ofString "kind", Value.str k.str t)]) ?k1 ?k2 ?k3 ?k4 ?k5 ?kA ?kF ?kK ?k6 ?k7 ?k8 ?k9 ?kB ?_ ?c2 ?c3 ?c4 ?c5; (case kA => exact rfl); (case kF => assumption); (case kK => assumption); (case k1 => k_asm); (case k2 => k_asm); (case k3 => k_asm); (case k4 => k_asm); (case k5 => k_asm); (case k6 => k_is); (case k7 => k_is); (case k8 => ktr_room); (case k9 => first | exact BindsTo.of_eq rfl | exact binds_K (by k_in) rfl (by k_is) rfl rfl rfl); (case c5 => decide); (case kB => exact locs rfl); (case c2 => exact rfl); (case c3 => exact rfl); (case c4 => exact rfl); k_whole; intro g' L' h' FG' F' N' B' X' T'; (try dsimp only); (try k_lift B'); (try k_fold)))
  k_steps
  all_goals exact hret _ _ _ _ ⟨by rw [kd_signed], rfl⟩ (by k_asm) (by k_asm)

def wrapF (k : Kd) (n : Int) : Int := if k.signed = true ∧ 2 ^ ((k.w : Int) - 1).toNat ≤ n.fmod (2 ^ (k.w : Int).toNat) then n.fmod (2 ^ (k.w : Int).toNat) - 2 ^ (k.w : Int).toNat else n.fmod (2 ^ (k.w : Int).toNat)
/-- the lowest bits of n as the kind reads them (BigInt: n itself) -/
def wrapZ (k : Kd) (n : Int) : Int := if k.fixed = true then wrapF k n else n
theorem kd_eq_big (k : Kd) (h : k.fixed = true) : (k.str == Str.ofString "BigInt") = false := by cases k <;> first | decide +kernel | cases h
theorem kd_width (P : Params) (k : Kd) (h : k.fixed = true) : ∃ t, nsIn (frg.heap_1 P) 90 k.str = some (some (.int k.w t)) := by
  cases k <;> first | exact absurd h Bool.false_ne_true | exact ⟨_, by dsimp only [Kd.str, Kd.w]; k_is⟩
theorem kd_w (k : Kd) (h : k.fixed = true) : 8 ≤ k.w ∧ k.w ≤ 64 := by cases k <;> first | decide | cases h
set_option maxHeartbeats 8000000 in
theorem c_wrappedF (w : World) (k : Kd) (hk9 : k.fixed = true) (n : Int) (t t' : Tok) (news : Ledger) : Ctr w 2 139 [.str k.str t, .int n t'] news (fun r n' => (∃ t, r = .int (wrapF k n) t) ∧ n' = news) := by
  have hlen := kd_len k
  have hbig := kd_eq_big k hk9
  have hw := kd_w k hk9
  obtain ⟨tw, hwd⟩ := kd_width w.params k hk9
  intro mean mg mb dp un gd env outer A₀ base h₀ L m hp gs dr tk0 os Q E B F X N T hf hk hdp hun hret
  k_with_none
  (k_with "eval Call" => first | k_compRoot | (k_here; (with_reducible show wpAny _ _ (eval _ (compEnvC _ _ _ _)) _ _ _); k_dflt (refine Call_ ?_)) | (k_here; (with_reducible show wpAny _ _ (eval (PySem.Expr.Call (PySem.Expr.Name _ _) [PySem.Expr.Name _ _] [] _) _) _ _ _); k_dflt (refine' callN1 ?F ?X ?T ?e ?k ?x ?_ ?c ?g ?l ?df ?dx; (case F => k_asm); (case X => k_asm); (case T => k_asm); (case e => k_is); (case k => k_is); (case x => exact rfl); (case c => exact rfl); (case g => exact rfl); (case l => exact rfl); (case df => decide); (case dx => decide); k_whole)) | (k_here; (with_reducible show wpAny _ _ (eval (PySem.Expr.Call (PySem.Expr.Name _ _) [PySem.Expr.Name _ _, PySem.Expr.Name _ _] [] _) _) _ _ _); k_dflt (refine' callN2 ?F ?X ?T ?e ?k ?x ?y ?_ ?c ?g ?l ?m ?df ?dx ?dy; (case F => k_asm); (case X => k_asm); (case T => k_asm); (case e => k_is); (case k => k_is); (case x => exact rfl); (case y => exact rfl); (case c => exact rfl); (case g => exact rfl); (case l => exact rfl); (case m => exact rfl); (case df => decide); (case dx => decide); (case dy => decide); k_whole)) | (k_here; (with_reducible show wpAny _ _ (eval (PySem.Expr.Call (PySem.Expr.Name _ _) [_] [] _) _) _ _ _); k_dflt (refine' callE1 ?F ?X ?T ?e ?k ?_ ?c ?g ?df ?h1; (case F => k_asm); (case X => k_asm); (case T => k_asm); (case e => k_is); (case k => k_is); (case c => exact rfl); (case g => exact rfl); (case df => decide); (case h1 => exact rfl); k_whole)) | (k_here; (with_reducible show wpAny _ _ (eval (PySem.Expr.Call (PySem.Expr.Name _ _) [_, _] [] _) _) _ _ _); k_dflt (refine' callE2 ?F ?X ?T ?e ?k ?_ ?c ?g ?df ?h1 ?h2; (case F => k_asm); (case X => k_asm); (case T => k_asm); (case e => k_is); (case k => k_is); (case c => exact rfl); (case g => exact rfl); (case df => decide); (case h1 => exact rfl); (case h2 => exact rfl); k_whole)) | k_dflt (refine Call_ ?_))
  (k_with "call ref" => (k_here; k_dflt (refine' Ctr.use (c_is_signed w _ _ _) ?hz1 ?hz2 ?hz3 ?hz4 ?hz5 ?hz6 ?hz7 ?hz8 ?hz9 ?_; (case hz1 => k_asm); (case hz2 => k_asm); (case hz3 => k_asm); (case hz4 => k_asm); (case hz5 => k_asm); (case hz6 => first | exact rfl | assumption);  (case hz7 => first | exact rfl | assumption); (case hz8 => ktr_room); (case hz9 => ktr_units); intro r' n' h' tk' hp' F' N'; obtain ⟨rfl, rfl⟩ := hp'; (try dsimp only); (try k_fold))))
  (k_with "subscriptTail Name Name ref str" => (k_here; k_dflt (refine' topItem_K ?F ?X ?l ?k hwd ?_; (case F => k_asm); (case X => k_asm); (case l => k_is); (case k => k_keys))))
  (refine wpAny_call ?_; k_dflt (refine' code_def (binds := [(Str.ofString "kind", Value.str k.str t), (Str.ofString "number", Value.int n t')]) ?k1 ?k2 ?k3 ?k4 ?k5 ?kA ?kF ?kK ?k6 ?k7 ?k8 ?k9 ?kB ?_ ?c2 ?c3 ?c4 ?c5; (case kA => exact rfl); (case kF => assumption); (case kK => assumption); (case k1 => k_asm); (case k2 => k_asm); (case k3 => k_asm); (case k4 => k_asm); (case k5 => k_asm); (case k6 => k_is); (case k7 => k_is); (case k8 => ktr_room); (case k9 => first | exact BindsTo.of_eq rfl | exact binds_K (by k_in) rfl (by k_is) rfl rfl rfl); (case c5 => decide); (case kB => exact locs rfl); (case c2 => exact rfl); (case c3 => exact rfl); (case c4 => exact rfl); k_whole; intro g' L' h' FG' F' N' B' X' T'; (try dsimp only); (try k_lift B'); (try k_fold)))
  k_steps
  all_goals exact hret _ _ _ _ ⟨⟨_, congrArg (Value.int · _) (by
    unfold wrapF
    first
      | exact (if_pos ⟨by assumption, by assumption⟩).symm
      | exact (if_neg fun h => absurd h.2 (by assumption)).symm
      | exact (if_neg fun h => Bool.false_ne_true ((show _ = false by assumption).symm.trans h.1)).symm)⟩, rfl⟩ (by k_asm) (by k_asm)
set_option exponentiation.threshold 5000 in
theorem pow_big : (2 : Int) ^ 500 ≤ 2 ^ Int.toNat 4000 - 1 := by
  have h : (2 : Nat) ^ 500 < 2 ^ 4000 := Nat.pow_lt_pow_right (by decide) (by decide)
  have h2 : ((2 ^ 500 : Nat) : Int) < ((2 ^ 4000 : Nat) : Int) := Int.ofNat_lt.mpr h
  rw [Int.natCast_pow, Int.natCast_pow] at h2
  have e : Int.toNat 4000 = 4000 := rfl
  rw [e]
  have h3 := Int.le_sub_one_of_lt h2
  exact h3
theorem big_fits (n : Int) (h1 : -(2 ^ 500) < n) (h2 : n < 2 ^ 500) : (if 1 - 2 ^ Int.toNat 4000 ≤ n then decide (n ≤ 2 ^ Int.toNat 4000 - 1) else decide (1 - 2 ^ Int.toNat 4000 ≤ n)) = true := by
  have hp := pow_big
  generalize (2 : Int) ^ Int.toNat 4000 = p at hp ⊢
  generalize (2 : Int) ^ 500 = q at hp h1 h2
  rw [if_pos (by omega)]
  exact decide_eq_true (by omega)
set_option maxHeartbeats 8000000 in
theorem c_bounded (w : World) (n : Int) (h1 : -(2 ^ 500) < n) (h2 : n < 2 ^ 500) (t : Tok) (news : Ledger) : Ctr w 3 132 [.int n t] news (fun r n' => (∃ t, r = .int n t) ∧ n' = news) := by
  intro mean mg mb dp un gd env outer A₀ base h₀ L m hp gs dr tk0 os Q E B F X N T hf hk hdp hun hret
  k_with_none
  (refine wpAny_call ?_; k_dflt (refine' code_def (binds := [(Str.ofString "number", Value.int n t)]) ?k1 ?k2 ?k3 ?k4 ?k5 ?kA ?kF ?kK ?k6 ?k7 ?k8 ?k9 ?kB ?_ ?c2 ?c3 ?c4 ?c5; (case kA => exact rfl); (case kF => assumption); (case kK => assumption); (case k1 => k_asm); (case k2 => k_asm); (case k3 => k_asm); (case k4 => k_asm); (case k5 => k_asm); (case k6 => k_is); (case k7 => k_is); (case k8 => ktr_room); (case k9 => first | exact BindsTo.of_eq rfl | exact binds_K (by k_in) rfl (by k_is) rfl rfl rfl); (case c5 => decide); (case kB => exact locs rfl); (case c2 => exact rfl); (case c3 => exact rfl); (case c4 => exact rfl); k_whole; intro g' L' h' FG' F' N' B' X' T'; (try dsimp only); (try k_lift B'); (try k_fold)))
  k_steps
  all_goals first
    | exact hret _ _ _ _ ⟨⟨_, rfl⟩, rfl⟩ (by k_asm) (by k_asm)
    | (exfalso; exact Bool.false_ne_true ((show _ = false by assumption).symm.trans (big_fits n h1 h2)))
set_option maxHeartbeats 8000000 in
theorem c_wrapped (w : World) (k : Kd) (hb : k ≠ .bool) (n : Int) (h1 : -(2 ^ 500) < n) (h2 : n < 2 ^ 500) (t t' : Tok) (news : Ledger) : Ctr w 4 139 [.str k.str t, .int n t'] news (fun r n' => (∃ t, r = .int (wrapZ k n) t) ∧ n' = news) := by
  cases hk9 : k.fixed with
  | true =>
    intro mean mg mb dp un gd env outer A₀ base h₀ L m hp gs dr tk0 os Q E B F X N T hf hk hdp hun hret
    refine c_wrappedF w k hk9 n t t' news mean mg mb dp un gd env outer A₀ base h₀ L m hp gs dr tk0 os Q E B F X N T hf hk (by omega) (by omega) fun r n' h' tk' hp F' N' => hret r n' h' tk' ?_ F' N'
    obtain ⟨⟨t, e⟩, e'⟩ := hp
    exact ⟨⟨t, by rw [e, wrapZ, if_pos hk9]⟩, e'⟩
  | false =>
    have hbig : k = .big := by cases k <;> first | rfl | exact absurd rfl hb | cases hk9
    subst hbig
    dsimp only [Kd.str]
    intro mean mg mb dp un gd env outer A₀ base h₀ L m hp gs dr tk0 os Q E B F X N T hf hk hdp hun hret
    k_with_none
    (k_with "eval Call" => first | k_compRoot | (k_here; (with_reducible show wpAny _ _ (eval _ (compEnvC _ _ _ _)) _ _ _); k_dflt (refine Call_ ?_)) | (k_here; (with_reducible show wpAny _ _ (eval (PySem.Expr.Call (PySem.Expr.Name _ _) [PySem.Expr.Name _ _] [] _) _) _ _ _); k_dflt (refine' callN1 ?F ?X ?T ?e ?k ?x ?_ ?c ?g ?l ?df ?dx; (case F => k_asm); (case X => k_asm); (case T => k_asm); (case e => k_is); (case k => k_is); (case x => exact rfl); (case c => exact rfl); (case g => exact rfl); (case l => exact rfl); (case df => decide); (case dx => decide); k_whole)) | (k_here; (with_reducible show wpAny _ _ (eval (PySem.Expr.Call (PySem.Expr.Name _ _) [PySem.Expr.Name _ _, PySem.Expr.Name _ _] [] _) _) _ _ _); k_dflt (refine' callN2 ?F ?X ?T ?e ?k ?x ?y ?_ ?c ?g ?l ?m ?df ?dx ?dy; (case F => k_asm); (case X => k_asm); (case T => k_asm); (case e => k_is); (case k => k_is); (case x => exact rfl); (case y => exact rfl); (case c => exact rfl); (case g => exact rfl); (case l => exact rfl); (case m => exact rfl); (case df => decide); (case dx => decide); (case dy => decide); k_whole)) | (k_here; (with_reducible show wpAny _ _ (eval (PySem.Expr.Call (PySem.Expr.Name _ _) [_] [] _) _) _ _ _); k_dflt (refine' callE1 ?F ?X ?T ?e ?k ?_ ?c ?g ?df ?h1; (case F => k_asm); (case X => k_asm); (case T => k_asm); (case e => k_is); (case k => k_is); (case c => exact rfl); (case g => exact rfl); (case df => decide); (case h1 => exact rfl); k_whole)) | (k_here; (with_reducible show wpAny _ _ (eval (PySem.Expr.Call (PySem.Expr.Name _ _) [_, _] [] _) _) _ _ _); k_dflt (refine' callE2 ?F ?X ?T ?e ?k ?_ ?c ?g ?df ?h1 ?h2; (case F => k_asm); (case X => k_asm); (case T => k_asm); (case e => k_is); (case k => k_is); (case c => exact rfl); (case g => exact rfl); (case df => decide); (case h1 => exact rfl); (case h2 => exact rfl); k_whole)) | k_dflt (refine Call_ ?_))
    (k_with "call ref" => (k_here; k_dflt (refine' Ctr.use (c_bounded w _ h1 h2 _ _) ?hz1 ?hz2 ?hz3 ?hz4 ?hz5 ?hz6 ?hz7 ?hz8 ?hz9 ?_; (case hz1 => k_asm); (case hz2 => k_asm); (case hz3 => k_asm); (case hz4 => k_asm); (case hz5 => k_asm); (case hz6 => first | exact rfl | assumption);  (case hz7 => first | exact rfl | assumption); (case hz8 => ktr_room); (case hz9 => ktr_units); intro r' n' h' tk' hp' F' N'; obtain ⟨⟨_, rfl⟩, rfl⟩ := hp'; (try dsimp only); (try k_fold))))
    (refine wpAny_call ?_; k_dflt (refine' code_def (binds := [(Str.ofString "kind", Value.str (Str.ofString "BigInt") t), (Str.ofString "number", Value.int n t')]) ?k1 ?k2 ?k3 ?k4 ?k5 ?kA ?kF ?kK ?k6 ?k7 ?k8 ?k9 ?kB ?_ ?c2 ?c3 ?c4 ?c5; (case kA => exact rfl); (case kF => assumption); (case kK => assumption); (case k1 => k_asm); (case k2 => k_asm); (case k3 => k_asm); (case k4 => k_asm); (case k5 => k_asm); (case k6 => k_is); (case k7 => k_is); (case k8 => ktr_room); (case k9 => first | exact BindsTo.of_eq rfl | exact binds_K (by k_in) rfl (by k_is) rfl rfl rfl); (case c5 => decide); (case kB => exact locs rfl); (case c2 => exact rfl); (case c3 => exact rfl); (case c4 => exact rfl); k_whole; intro g' L' h' FG' F' N' B' X' T'; (try dsimp only); (try k_lift B'); (try k_fold)))
    k_steps
    all_goals exact hret _ _ _ _ ⟨⟨_, rfl⟩, rfl⟩ (by k_asm) (by k_asm)

/-- a value of the table's: a truth, or a kind with a number -/
inductive V | b (x : Bool) | i (k : Kd) (n : Int)
def V.num : V → Int
  | .b x => if x then 1 else 0
  | .i _ n => n
def V.kd : V → Kd
  | .b _ => .bool
  | .i k _ => k
def V.obj (v : V) (c : Nat) (t1 t2 t3 : Tok) : Obj := match v with
  | .b x => { cls := .type "tuple", data := .seq #[.str (Str.ofString "bool") t1, .bool x] c }
  | .i k n => { cls := .type "tuple", data := .seq #[.str (Str.ofString "int") t1, .str k.str t2, .int n t3] c }

set_option maxHeartbeats 8000000 in
theorem c_plain_number (w : World) (v : V) (a : Addr) (c : Nat) (t1 t2 t3 : Tok) (news : Ledger) (hm : (a, v.obj c t1 t2 t3) ∈ news) : Ctr w 1 188 [.ref a] news (fun r n' => (∃ t, r = .int v.num t) ∧ n' = news) := by
  intro mean mg mb dp un gd env outer A₀ base h₀ L m hp gs dr tk0 os Q E B F X N T hf hk hdp hun hret
  k_with_none
  (k_with "eval Call" => first | k_compRoot | (k_here; (with_reducible show wpAny _ _ (eval _ (compEnvC _ _ _ _)) _ _ _); k_dflt (refine Call_ ?_)) | (k_here; (with_reducible show wpAny _ _ (eval (PySem.Expr.Call (PySem.Expr.Name _ _) [PySem.Expr.Name _ _] [] _) _) _ _ _); k_dflt (refine' callN1 ?F ?X ?T ?e ?k ?x ?_ ?c ?g ?l ?df ?dx; (case F => k_asm); (case X => k_asm); (case T => k_asm); (case e => k_is); (case k => k_is); (case x => exact rfl); (case c => exact rfl); (case g => exact rfl); (case l => exact rfl); (case df => decide); (case dx => decide); k_whole)) | (k_here; (with_reducible show wpAny _ _ (eval (PySem.Expr.Call (PySem.Expr.Name _ _) [PySem.Expr.Name _ _, PySem.Expr.Name _ _] [] _) _) _ _ _); k_dflt (refine' callN2 ?F ?X ?T ?e ?k ?x ?y ?_ ?c ?g ?l ?m ?df ?dx ?dy; (case F => k_asm); (case X => k_asm); (case T => k_asm); (case e => k_is); (case k => k_is); (case x => exact rfl); (case y => exact rfl); (case c => exact rfl); (case g => exact rfl); (case l => exact rfl); (case m => exact rfl); (case df => decide); (case dx => decide); (case dy => decide); k_whole)) | (k_here; (with_reducible show wpAny _ _ (eval (PySem.Expr.Call (PySem.Expr.Name _ _) [_] [] _) _) _ _ _); k_dflt (refine' callE1 ?F ?X ?T ?e ?k ?_ ?c ?g ?df ?h1; (case F => k_asm); (case X => k_asm); (case T => k_asm); (case e => k_is); (case k => k_is); (case c => exact rfl); (case g => exact rfl); (case df => decide); (case h1 => exact rfl); k_whole)) | (k_here; (with_reducible show wpAny _ _ (eval (PySem.Expr.Call (PySem.Expr.Name _ _) [_, _] [] _) _) _ _ _); k_dflt (refine' callE2 ?F ?X ?T ?e ?k ?_ ?c ?g ?df ?h1 ?h2; (case F => k_asm); (case X => k_asm); (case T => k_asm); (case e => k_is); (case k => k_is); (case c => exact rfl); (case g => exact rfl); (case df => decide); (case h1 => exact rfl); (case h2 => exact rfl); k_whole)) | k_dflt (refine Call_ ?_))
  cases v
  all_goals dsimp only [V.obj, V.num] at hm hret ⊢
  all_goals (refine wpAny_call ?_; k_dflt (refine' code_def (binds := [(Str.ofString "value", Value.ref a)]) ?k1 ?k2 ?k3 ?k4 ?k5 ?kA ?kF ?kK ?k6 ?k7 ?k8 ?k9 ?kB ?_ ?c2 ?c3 ?c4 ?c5; (case kA => exact rfl); (case kF => assumption); (case kK => assumption); (case k1 => k_asm); (case k2 => k_asm); (case k3 => k_asm); (case k4 => k_asm); (case k5 => k_asm); (case k6 => k_is); (case k7 => k_is); (case k8 => ktr_room); (case k9 => first | exact BindsTo.of_eq rfl | exact binds_K (by k_in) rfl (by k_is) rfl rfl rfl); (case c5 => decide); (case kB => exact locs rfl); (case c2 => exact rfl); (case c3 => exact rfl); (case c4 => exact rfl); k_whole; intro g' L' h' FG' F' N' B' X' T'; (try dsimp only); (try k_lift B'); (try k_fold)))
  all_goals k_steps
  all_goals exact hret _ _ _ _ ⟨⟨_, rfl⟩, rfl⟩ (by k_asm) (by k_asm)
set_option maxHeartbeats 8000000 in
theorem c_law_plain (w : World) (v : V) (a : Addr) (c : Nat) (t1 t2 t3 : Tok) (news : Ledger) (hm : (a, v.obj c t1 t2 t3) ∈ news) : Ctr w 1 272 [.ref a] news (fun r n' => (∃ t, r = .int v.num t) ∧ n' = news) := by
  intro mean mg mb dp un gd env outer A₀ base h₀ L m hp gs dr tk0 os Q E B F X N T hf hk hdp hun hret
  k_with_none
  (k_with "eval Call" => first | k_compRoot | (k_here; (with_reducible show wpAny _ _ (eval _ (compEnvC _ _ _ _)) _ _ _); k_dflt (refine Call_ ?_)) | (k_here; (with_reducible show wpAny _ _ (eval (PySem.Expr.Call (PySem.Expr.Name _ _) [PySem.Expr.Name _ _] [] _) _) _ _ _); k_dflt (refine' callN1 ?F ?X ?T ?e ?k ?x ?_ ?c ?g ?l ?df ?dx; (case F => k_asm); (case X => k_asm); (case T => k_asm); (case e => k_is); (case k => k_is); (case x => exact rfl); (case c => exact rfl); (case g => exact rfl); (case l => exact rfl); (case df => decide); (case dx => decide); k_whole)) | (k_here; (with_reducible show wpAny _ _ (eval (PySem.Expr.Call (PySem.Expr.Name _ _) [PySem.Expr.Name _ _, PySem.Expr.Name _ _] [] _) _) _ _ _); k_dflt (refine' callN2 ?F ?X ?T ?e ?k ?x ?y ?_ ?c ?g ?l ?m ?df ?dx ?dy; (case F => k_asm); (case X => k_asm); (case T => k_asm); (case e => k_is); (case k => k_is); (case x => exact rfl); (case y => exact rfl); (case c => exact rfl); (case g => exact rfl); (case l => exact rfl); (case m => exact rfl); (case df => decide); (case dx => decide); (case dy => decide); k_whole)) | (k_here; (with_reducible show wpAny _ _ (eval (PySem.Expr.Call (PySem.Expr.Name _ _) [_] [] _) _) _ _ _); k_dflt (refine' callE1 ?F ?X ?T ?e ?k ?_ ?c ?g ?df ?h1; (case F => k_asm); (case X => k_asm); (case T => k_asm); (case e => k_is); (case k => k_is); (case c => exact rfl); (case g => exact rfl); (case df => decide); (case h1 => exact rfl); k_whole)) | (k_here; (with_reducible show wpAny _ _ (eval (PySem.Expr.Call (PySem.Expr.Name _ _) [_, _] [] _) _) _ _ _); k_dflt (refine' callE2 ?F ?X ?T ?e ?k ?_ ?c ?g ?df ?h1 ?h2; (case F => k_asm); (case X => k_asm); (case T => k_asm); (case e => k_is); (case k => k_is); (case c => exact rfl); (case g => exact rfl); (case df => decide); (case h1 => exact rfl); (case h2 => exact rfl); k_whole)) | k_dflt (refine Call_ ?_))
  cases v
  all_goals dsimp only [V.obj, V.num] at hm hret ⊢
  all_goals (refine wpAny_call ?_; k_dflt (refine' code_def (binds := [(Str.ofString "value", Value.ref a)]) ?k1 ?k2 ?k3 ?k4 ?k5 ?kA ?kF ?kK ?k6 ?k7 ?k8 ?k9 ?kB ?_ ?c2 ?c3 ?c4 ?c5; (case kA => exact rfl); (case kF => assumption); (case kK => assumption); (case k1 => k_asm); (case k2 => k_asm); (case k3 => k_asm); (case k4 => k_asm); (case k5 => k_asm); (case k6 => k_is); (case k7 => k_is); (case k8 => ktr_room); (case k9 => first | exact BindsTo.of_eq rfl | exact binds_K (by k_in) rfl (by k_is) rfl rfl rfl); (case c5 => decide); (case kB => exact locs rfl); (case c2 => exact rfl); (case c3 => exact rfl); (case c4 => exact rfl); k_whole; intro g' L' h' FG' F' N' B' X' T'; (try dsimp only); (try k_lift B'); (try k_fold)))
  all_goals k_steps
  all_goals exact hret _ _ _ _ ⟨⟨_, rfl⟩, rfl⟩ (by k_asm) (by k_asm)
set_option maxHeartbeats 8000000 in
theorem c_number_kind (w : World) (v : V) (a : Addr) (c : Nat) (t1 t2 t3 : Tok) (news : Ledger) (hm : (a, v.obj c t1 t2 t3) ∈ news) : Ctr w 1 181 [.ref a] news (fun r n' => (∃ t, r = .str v.kd.str t) ∧ n' = news) := by
  intro mean mg mb dp un gd env outer A₀ base h₀ L m hp gs dr tk0 os Q E B F X N T hf hk hdp hun hret
  k_with_none
  (k_with "eval Call" => first | k_compRoot | (k_here; (with_reducible show wpAny _ _ (eval _ (compEnvC _ _ _ _)) _ _ _); k_dflt (refine Call_ ?_)) | (k_here; (with_reducible show wpAny _ _ (eval (PySem.Expr.Call (PySem.Expr.Name _ _) [PySem.Expr.Name _ _] [] _) _) _ _ _); k_dflt (refine' callN1 ?F ?X ?T ?e ?k ?x ?_ ?c ?g ?l ?df ?dx; (case F => k_asm); (case X => k_asm); (case T => k_asm); (case e => k_is); (case k => k_is); (case x => exact rfl); (case c => exact rfl); (case g => exact rfl); (case l => exact rfl); (case df => decide); (case dx => decide); k_whole)) | (k_here; (with_reducible show wpAny _ _ (eval (PySem.Expr.Call (PySem.Expr.Name _ _) [PySem.Expr.Name _ _, PySem.Expr.Name _ _] [] _) _) _ _ _); k_dflt (refine' callN2 ?F ?X ?T ?e ?k ?x ?y ?_ ?c ?g ?l ?m ?df ?dx ?dy; (case F => k_asm); (case X => k_asm); (case T => k_asm); (case e => k_is); (case k => k_is); (case x => exact rfl); (case y => exact rfl); (case c => exact rfl); (case g => exact rfl); (case l => exact rfl); (case m => exact rfl); (case df => decide); (case dx => decide); (case dy => decide); k_whole)) | (k_here; (with_reducible show wpAny _ _ (eval (PySem.Expr.Call (PySem.Expr.Name _ _) [_] [] _) _) _ _ _); k_dflt (refine' callE1 ?F ?X ?T ?e ?k ?_ ?c ?g ?df ?h1; (case F => k_asm); (case X => k_asm); (case T => k_asm); (case e => k_is); (case k => k_is); (case c => exact rfl); (case g => exact rfl); (case df => decide); (case h1 => exact rfl); k_whole)) | (k_here; (with_reducible show wpAny _ _ (eval (PySem.Expr.Call (PySem.Expr.Name _ _) [_, _] [] _) _) _ _ _); k_dflt (refine' callE2 ?F ?X ?T ?e ?k ?_ ?c ?g ?df ?h1 ?h2; (case F => k_asm); (case X => k_asm); (case T => k_asm); (case e => k_is); (case k => k_is); (case c => exact rfl); (case g => exact rfl); (case df => decide); (case h1 => exact rfl); (case h2 => exact rfl); k_whole)) | k_dflt (refine Call_ ?_))
  cases v
  all_goals dsimp only [V.obj, V.kd] at hm hret ⊢
  all_goals (refine wpAny_call ?_; k_dflt (refine' code_def (binds := [(Str.ofString "value", Value.ref a)]) ?k1 ?k2 ?k3 ?k4 ?k5 ?kA ?kF ?kK ?k6 ?k7 ?k8 ?k9 ?kB ?_ ?c2 ?c3 ?c4 ?c5; (case kA => exact rfl); (case kF => assumption); (case kK => assumption); (case k1 => k_asm); (case k2 => k_asm); (case k3 => k_asm); (case k4 => k_asm); (case k5 => k_asm); (case k6 => k_is); (case k7 => k_is); (case k8 => ktr_room); (case k9 => first | exact BindsTo.of_eq rfl | exact binds_K (by k_in) rfl (by k_is) rfl rfl rfl); (case c5 => decide); (case kB => exact locs rfl); (case c2 => exact rfl); (case c3 => exact rfl); (case c4 => exact rfl); k_whole; intro g' L' h' FG' F' N' B' X' T'; (try dsimp only); (try k_lift B'); (try k_fold)))
  all_goals k_steps
  all_goals exact hret _ _ _ _ ⟨⟨_, rfl⟩, rfl⟩ (by k_asm) (by k_asm)
theorem kd_eq_bool (k : Kd) (h : k ≠ .bool) : (k.str == Str.ofString "Bool") = false := by cases k <;> first | decide +kernel | exact absurd rfl h
/-- a new value stands at the end of the ledger -/
def NewV (news : Ledger) (v : V) (r : Value) (n' : Ledger) : Prop := ∃ D c t1 t2 t3, r = .ref D ∧ n' = (D, v.obj c t1 t2 t3) :: news ∧ ∀ p ∈ news, p.1 < D
set_option maxHeartbeats 8000000 in
theorem c_number_value (w : World) (k : Kd) (hb : k ≠ .bool) (n : Int) (t t' : Tok) (news : Ledger) : Ctr w 1 195 [.str k.str t, .int n t'] news (NewV news (.i k n)) := by
  have hbool := kd_eq_bool k hb
  intro mean mg mb dp un gd env outer A₀ base h₀ L m hp gs dr tk0 os Q E B F X N T hf hk hdp hun hret
  k_with_none
  (k_with "eval Call" => first | k_compRoot | (k_here; (with_reducible show wpAny _ _ (eval _ (compEnvC _ _ _ _)) _ _ _); k_dflt (refine Call_ ?_)) | (k_here; (with_reducible show wpAny _ _ (eval (PySem.Expr.Call (PySem.Expr.Name _ _) [PySem.Expr.Name _ _] [] _) _) _ _ _); k_dflt (refine' callN1 ?F ?X ?T ?e ?k ?x ?_ ?c ?g ?l ?df ?dx; (case F => k_asm); (case X => k_asm); (case T => k_asm); (case e => k_is); (case k => k_is); (case x => exact rfl); (case c => exact rfl); (case g => exact rfl); (case l => exact rfl); (case df => decide); (case dx => decide); k_whole)) | (k_here; (with_reducible show wpAny _ _ (eval (PySem.Expr.Call (PySem.Expr.Name _ _) [PySem.Expr.Name _ _, PySem.Expr.Name _ _] [] _) _) _ _ _); k_dflt (refine' callN2 ?F ?X ?T ?e ?k ?x ?y ?_ ?c ?g ?l ?m ?df ?dx ?dy; (case F => k_asm); (case X => k_asm); (case T => k_asm); (case e => k_is); (case k => k_is); (case x => exact rfl); (case y => exact rfl); (case c => exact rfl); (case g => exact rfl); (case l => exact rfl); (case m => exact rfl); (case df => decide); (case dx => decide); (case dy => decide); k_whole)) | (k_here; (with_reducible show wpAny _ _ (eval (PySem.Expr.Call (PySem.Expr.Name _ _) [_] [] _) _) _ _ _); k_dflt (refine' callE1 ?F ?X ?T ?e ?k ?_ ?c ?g ?df ?h1; (case F => k_asm); (case X => k_asm); (case T => k_asm); (case e => k_is); (case k => k_is); (case c => exact rfl); (case g => exact rfl); (case df => decide); (case h1 => exact rfl); k_whole)) | (k_here; (with_reducible show wpAny _ _ (eval (PySem.Expr.Call (PySem.Expr.Name _ _) [_, _] [] _) _) _ _ _); k_dflt (refine' callE2 ?F ?X ?T ?e ?k ?_ ?c ?g ?df ?h1 ?h2; (case F => k_asm); (case X => k_asm); (case T => k_asm); (case e => k_is); (case k => k_is); (case c => exact rfl); (case g => exact rfl); (case df => decide); (case h1 => exact rfl); (case h2 => exact rfl); k_whole)) | k_dflt (refine Call_ ?_))
  (k_with "newTuple" => (k_here; k_dflt (refine' kup_newTuple ?F ?N ?_ ?z; (case F => k_asm); (case N => k_asm); (case z => kmk_size)); intro D' h' F' N' lD; (try k_sweep)))
  (refine wpAny_call ?_; k_dflt (refine' code_def (binds := [(Str.ofString "kind", Value.str k.str t), (Str.ofString "number", Value.int n t')]) ?k1 ?k2 ?k3 ?k4 ?k5 ?kA ?kF ?kK ?k6 ?k7 ?k8 ?k9 ?kB ?_ ?c2 ?c3 ?c4 ?c5; (case kA => exact rfl); (case kF => assumption); (case kK => assumption); (case k1 => k_asm); (case k2 => k_asm); (case k3 => k_asm); (case k4 => k_asm); (case k5 => k_asm); (case k6 => k_is); (case k7 => k_is); (case k8 => ktr_room); (case k9 => first | exact BindsTo.of_eq rfl | exact binds_K (by k_in) rfl (by k_is) rfl rfl rfl); (case c5 => decide); (case kB => exact locs rfl); (case c2 => exact rfl); (case c3 => exact rfl); (case c4 => exact rfl); k_whole; intro g' L' h' FG' F' N' B' X' T'; (try dsimp only); (try k_lift B'); (try k_fold)))
  k_steps
  all_goals exact hret _ _ _ _ ⟨_, _, _, _, _, rfl, rfl, by assumption⟩ (by k_asm) (by k_asm)
set_option maxHeartbeats 8000000 in
theorem c_led_to (w : World) (k : Kd) (hb : k ≠ .bool) (v : V) (h1 : -(2 ^ 500) < v.num) (h2 : v.num < 2 ^ 500) (t : Tok) (a : Addr) (c : Nat) (t1 t2 t3 : Tok) (news : Ledger) (hm : (a, v.obj c t1 t2 t3) ∈ news) :
    Ctr w 5 209 [.str k.str t, .ref a] news (NewV news (.i k (wrapZ k v.num))) := by
  intro mean mg mb dp un gd env outer A₀ base h₀ L m hp gs dr tk0 os Q E B F X N T hf hk hdp hun hret
  k_with_none
  (k_with "eval Call" => first | k_compRoot | (k_here; (with_reducible show wpAny _ _ (eval _ (compEnvC _ _ _ _)) _ _ _); k_dflt (refine Call_ ?_)) | (k_here; (with_reducible show wpAny _ _ (eval (PySem.Expr.Call (PySem.Expr.Name _ _) [PySem.Expr.Name _ _] [] _) _) _ _ _); k_dflt (refine' callN1 ?F ?X ?T ?e ?k ?x ?_ ?c ?g ?l ?df ?dx; (case F => k_asm); (case X => k_asm); (case T => k_asm); (case e => k_is); (case k => k_is); (case x => exact rfl); (case c => exact rfl); (case g => exact rfl); (case l => exact rfl); (case df => decide); (case dx => decide); k_whole)) | (k_here; (with_reducible show wpAny _ _ (eval (PySem.Expr.Call (PySem.Expr.Name _ _) [PySem.Expr.Name _ _, PySem.Expr.Name _ _] [] _) _) _ _ _); k_dflt (refine' callN2 ?F ?X ?T ?e ?k ?x ?y ?_ ?c ?g ?l ?m ?df ?dx ?dy; (case F => k_asm); (case X => k_asm); (case T => k_asm); (case e => k_is); (case k => k_is); (case x => exact rfl); (case y => exact rfl); (case c => exact rfl); (case g => exact rfl); (case l => exact rfl); (case m => exact rfl); (case df => decide); (case dx => decide); (case dy => decide); k_whole)) | (k_here; (with_reducible show wpAny _ _ (eval (PySem.Expr.Call (PySem.Expr.Name _ _) [_] [] _) _) _ _ _); k_dflt (refine' callE1 ?F ?X ?T ?e ?k ?_ ?c ?g ?df ?h1; (case F => k_asm); (case X => k_asm); (case T => k_asm); (case e => k_is); (case k => k_is); (case c => exact rfl); (case g => exact rfl); (case df => decide); (case h1 => exact rfl); k_whole)) | (k_here; (with_reducible show wpAny _ _ (eval (PySem.Expr.Call (PySem.Expr.Name _ _) [_, _] [] _) _) _ _ _); k_dflt (refine' callE2 ?F ?X ?T ?e ?k ?_ ?c ?g ?df ?h1 ?h2; (case F => k_asm); (case X => k_asm); (case T => k_asm); (case e => k_is); (case k => k_is); (case c => exact rfl); (case g => exact rfl); (case df => decide); (case h1 => exact rfl); (case h2 => exact rfl); k_whole)) | k_dflt (refine Call_ ?_))
  (k_with "call ref" => first
    | (k_here; k_dflt (refine' Ctr.use (c_plain_number w v a c t1 t2 t3 _ hm) ?hz1 ?hz2 ?hz3 ?hz4 ?hz5 ?hz6 ?hz7 ?hz8 ?hz9 ?_; (case hz1 => k_asm); (case hz2 => k_asm); (case hz3 => k_asm); (case hz4 => k_asm); (case hz5 => k_asm); (case hz6 => first | exact rfl | assumption);  (case hz7 => first | exact rfl | assumption); (case hz8 => ktr_room); (case hz9 => ktr_units); intro r' n' h' tk' hp' F' N'; obtain ⟨⟨_, rfl⟩, rfl⟩ := hp'; (try dsimp only); (try k_fold)))
    | (k_here; k_dflt (refine' Ctr.use (c_wrapped w k hb _ h1 h2 _ _ _) ?hz1 ?hz2 ?hz3 ?hz4 ?hz5 ?hz6 ?hz7 ?hz8 ?hz9 ?_; (case hz1 => k_asm); (case hz2 => k_asm); (case hz3 => k_asm); (case hz4 => k_asm); (case hz5 => k_asm); (case hz6 => first | exact rfl | assumption);  (case hz7 => first | exact rfl | assumption); (case hz8 => ktr_room); (case hz9 => ktr_units); intro r' n' h' tk' hp' F' N'; obtain ⟨⟨_, rfl⟩, rfl⟩ := hp'; (try dsimp only); (try k_fold)))
    | (k_here; k_dflt (refine' Ctr.use (c_number_value w k hb _ _ _ _) ?hz1 ?hz2 ?hz3 ?hz4 ?hz5 ?hz6 ?hz7 ?hz8 ?hz9 ?_; (case hz1 => k_asm); (case hz2 => k_asm); (case hz3 => k_asm); (case hz4 => k_asm); (case hz5 => k_asm); (case hz6 => first | exact rfl | assumption);  (case hz7 => first | exact rfl | assumption); (case hz8 => ktr_room); (case hz9 => ktr_units); intro r' n' h' tk' hp' F' N'; obtain ⟨D', c', u1, u2, u3, rfl, rfl, lD⟩ := hp'; (try dsimp only); (try k_fold))))
  (refine wpAny_call ?_; k_dflt (refine' code_def (binds := [(Str.ofString "kind", Value.str k.str t), (Str.ofString "value", Value.ref a)]) ?k1 ?k2 ?k3 ?k4 ?k5 ?kA ?kF ?kK ?k6 ?k7 ?k8 ?k9 ?kB ?_ ?c2 ?c3 ?c4 ?c5; (case kA => exact rfl); (case kF => assumption); (case kK => assumption); (case k1 => k_asm); (case k2 => k_asm); (case k3 => k_asm); (case k4 => k_asm); (case k5 => k_asm); (case k6 => k_is); (case k7 => k_is); (case k8 => ktr_room); (case k9 => first | exact BindsTo.of_eq rfl | exact binds_K (by k_in) rfl (by k_is) rfl rfl rfl); (case c5 => decide); (case kB => exact locs rfl); (case c2 => exact rfl); (case c3 => exact rfl); (case c4 => exact rfl); k_whole; intro g' L' h' FG' F' N' B' X' T'; (try dsimp only); (try k_lift B'); (try k_fold)))
  k_steps
  all_goals exact hret _ _ _ _ ⟨_, _, _, _, _, rfl, rfl, by assumption⟩ (by k_asm) (by k_asm)

def Kd.suf : Kd → Str
  | .i8 | .u8 => Str.mk #[56] | .i16 | .u16 => Str.mk #[49, 54] | .i32 | .u32 => Str.mk #[51, 50] | .i64 | .u64 => Str.mk #[54, 52] | _ => Str.mk #[]
def Kd.pre : Kd → Str
  | .u8 | .u16 | .u32 | .u64 => Str.mk #[85] | _ => Str.mk #[]
theorem kd_split (k : Kd) (h : k.fixed = true) : Txt.split k.str (Str.ofString "Int") = [k.pre, k.suf] := by
  cases k <;> first | exact absurd h Bool.false_ne_true | decide +kernel
theorem kd_int (k : Kd) (h : k.fixed = true) : PySem.intText? k.suf = some (k.w : Int) := by
  cases k <;> first | exact absurd h Bool.false_ne_true | decide +kernel
theorem kd_suf_len (k : Kd) : k.suf.length ≤ 640 := by cases k <;> decide
theorem kd_len_le (k : Kd) : k.str.length + 2 ≤ sizeLine := Nat.le_trans (by cases k <;> decide : k.str.length + 2 ≤ 640) (Nat.le_of_ble_eq_true rfl)
set_option maxHeartbeats 8000000 in
theorem c_law_wide (w : World) (k : Kd) (hk9 : k.fixed = true) (t : Tok) (news : Ledger) : Ctr w 1 244 [.str k.str t] news (fun r n' => (∃ t, r = .int k.w t) ∧ n' = news) := by
  have hi := kd_int k hk9
  have hl := kd_suf_len k
  have hz := kd_len_le k
  intro mean mg mb dp un gd env outer A₀ base h₀ L m hp gs dr tk0 os Q E B F X N T hf hk hdp hun hret
  k_with_none
  (k_with "eval Call" => first | k_compRoot | (k_here; (with_reducible show wpAny _ _ (eval _ (compEnvC _ _ _ _)) _ _ _); k_dflt (refine Call_ ?_)) | (k_here; (with_reducible show wpAny _ _ (eval (PySem.Expr.Call (PySem.Expr.Name _ _) [PySem.Expr.Name _ _] [] _) _) _ _ _); k_dflt (refine' callN1 ?F ?X ?T ?e ?k ?x ?_ ?c ?g ?l ?df ?dx; (case F => k_asm); (case X => k_asm); (case T => k_asm); (case e => k_is); (case k => k_is); (case x => exact rfl); (case c => exact rfl); (case g => exact rfl); (case l => exact rfl); (case df => decide); (case dx => decide); k_whole)) | (k_here; (with_reducible show wpAny _ _ (eval (PySem.Expr.Call (PySem.Expr.Name _ _) [PySem.Expr.Name _ _, PySem.Expr.Name _ _] [] _) _) _ _ _); k_dflt (refine' callN2 ?F ?X ?T ?e ?k ?x ?y ?_ ?c ?g ?l ?m ?df ?dx ?dy; (case F => k_asm); (case X => k_asm); (case T => k_asm); (case e => k_is); (case k => k_is); (case x => exact rfl); (case y => exact rfl); (case c => exact rfl); (case g => exact rfl); (case l => exact rfl); (case m => exact rfl); (case df => decide); (case dx => decide); (case dy => decide); k_whole)) | (k_here; (with_reducible show wpAny _ _ (eval (PySem.Expr.Call (PySem.Expr.Name _ _) [_] [] _) _) _ _ _); k_dflt (refine' callE1 ?F ?X ?T ?e ?k ?_ ?c ?g ?df ?h1; (case F => k_asm); (case X => k_asm); (case T => k_asm); (case e => k_is); (case k => k_is); (case c => exact rfl); (case g => exact rfl); (case df => decide); (case h1 => exact rfl); k_whole)) | (k_here; (with_reducible show wpAny _ _ (eval (PySem.Expr.Call (PySem.Expr.Name _ _) [_, _] [] _) _) _ _ _); k_dflt (refine' callE2 ?F ?X ?T ?e ?k ?_ ?c ?g ?df ?h1 ?h2; (case F => k_asm); (case X => k_asm); (case T => k_asm); (case e => k_is); (case k => k_is); (case c => exact rfl); (case g => exact rfl); (case df => decide); (case h1 => exact rfl); (case h2 => exact rfl); k_whole)) | k_dflt (refine Call_ ?_))
  (k_with "call builtin:str.split" => (k_here; k_dflt (refine' KSpl.split1 ?F ?N ?y ?_ hz; (case F => k_asm); (case N => k_asm); (case y => decide)); (intro D' l' h' k' e' a' F' N' l1); rw [kd_split k hk9] at e'; (kspl_open e'); (simp only [strValues, List.map_cons, List.map_nil] at N' a')))
  (k_with "call type:int" => (k_here; k_dflt (refine KIN.call_text hi hl ?_)))
  (refine wpAny_call ?_; k_dflt (refine' code_def (binds := [(Str.ofString "kind", Value.str k.str t)]) ?k1 ?k2 ?k3 ?k4 ?k5 ?kA ?kF ?kK ?k6 ?k7 ?k8 ?k9 ?kB ?_ ?c2 ?c3 ?c4 ?c5; (case kA => exact rfl); (case kF => assumption); (case kK => assumption); (case k1 => k_asm); (case k2 => k_asm); (case k3 => k_asm); (case k4 => k_asm); (case k5 => k_asm); (case k6 => k_is); (case k7 => k_is); (case k8 => ktr_room); (case k9 => first | exact BindsTo.of_eq rfl | exact binds_K (by k_in) rfl (by k_is) rfl rfl rfl); (case c5 => decide); (case kB => exact locs rfl); (case c2 => exact rfl); (case c3 => exact rfl); (case c4 => exact rfl); k_whole; intro g' L' h' FG' F' N' B' X' T'; (try dsimp only); (try k_lift B'); (try k_fold)))
  k_steps
  all_goals (refine hret _ _ _ _ ⟨⟨_, rfl⟩, rfl⟩ ?_ ?_; (case refine_1 => k_asm); (case refine_2 => exact (cb_drop (by k_asm) (by intro p hp; repeat (first | exact hp | apply List.mem_cons_of_mem)))))
def bitZ (n : Int) (p : Nat) : Int := (n.fdiv (2 ^ p)).fmod 2
/-- the sum of the first j bits, each by its worth (the last of a signed kind below nought) -/
def ledP (k : Kd) (n : Int) : Nat → Int
  | 0 => 0
  | j + 1 => ledP k n j + (if j + 1 = k.w ∧ k.signed = true then - bitZ n j else bitZ n j) * 2 ^ j
theorem kd_isI (k : Kd) (h : k.fixed = true) : (Txt.item k.str 0 == Str.ofString "I") = k.signed := by
  cases k <;> first | exact absurd h Bool.false_ne_true | decide +kernel
section
variable {k : Kd} {n : Int} {pre : List Int} {x found : Int}
theorem led_start : (0 : Int) = ledP k n (List.length ([] : List Int)) := rfl
theorem led_len (hx : x = 0 + (pre.length : Int)) : x.toNat = pre.length := by omega
theorem led_hit (hx : x = 0 + (pre.length : Int)) (hi : found = ledP k n pre.length) (hk9 : k.fixed = true) (c : x = (k.w : Int) - 1) (hI : (Txt.item k.str 0 == Str.ofString "I") = true) :
    found + -((n.fdiv (2 ^ x.toNat)).fmod 2) * 2 ^ x.toNat = ledP k n (pre ++ [x]).length := by
  rw [kd_isI k hk9] at hI
  rw [led_len hx, List.length_append, List.length_singleton, ledP, if_pos ⟨by omega, hI⟩, hi]
  rfl
theorem led_miss1 (hx : x = 0 + (pre.length : Int)) (hi : found = ledP k n pre.length) (hk9 : k.fixed = true) (hI : (Txt.item k.str 0 == Str.ofString "I") = false) :
    found + (n.fdiv (2 ^ x.toNat)).fmod 2 * 2 ^ x.toNat = ledP k n (pre ++ [x]).length := by
  rw [kd_isI k hk9] at hI
  rw [led_len hx, List.length_append, List.length_singleton, ledP, if_neg (fun h => by rw [hI] at h; exact Bool.false_ne_true h.2), hi]
  rfl
theorem led_miss2 (hx : x = 0 + (pre.length : Int)) (hi : found = ledP k n pre.length) (c : ¬ x = (k.w : Int) - 1) :
    found + (n.fdiv (2 ^ x.toNat)).fmod 2 * 2 ^ x.toNat = ledP k n (pre ++ [x]).length := by
  rw [led_len hx, List.length_append, List.length_singleton, ledP, if_neg (fun h => c (by omega)), hi]
  rfl
theorem led_end (hw : 8 ≤ k.w) (hi : found = ledP k n (rangeKs 0 ((k.w : Int) - 0).toNat).length) : found = ledP k n k.w := by
  rw [hi, rangeKs_length]
  congr 1
end
set_option maxHeartbeats 8000000 in
theorem c_law_led0 (w : World) (k : Kd) (hk9 : k.fixed = true) (n : Int) (t t' : Tok) (news : Ledger) : Ctr w 2 265 [.str k.str t, .int n t'] news (fun r n' => (∃ t, r = .int (ledP k n k.w) t) ∧ n' = news) := by
  have hlen := kd_len k
  have hw := kd_w k hk9
  intro mean mg mb dp un gd env outer A₀ base h₀ L m hp gs dr tk0 os Q E B F X N T hf hk hdp hun hret
  k_with_none
  (k_with "eval Call" => first | k_compRoot | (k_here; (with_reducible show wpAny _ _ (eval _ (compEnvC _ _ _ _)) _ _ _); k_dflt (refine Call_ ?_)) | (k_here; (with_reducible show wpAny _ _ (eval (PySem.Expr.Call (PySem.Expr.Name _ _) [PySem.Expr.Name _ _] [] _) _) _ _ _); k_dflt (refine' callN1 ?F ?X ?T ?e ?k ?x ?_ ?c ?g ?l ?df ?dx; (case F => k_asm); (case X => k_asm); (case T => k_asm); (case e => k_is); (case k => k_is); (case x => exact rfl); (case c => exact rfl); (case g => exact rfl); (case l => exact rfl); (case df => decide); (case dx => decide); k_whole)) | (k_here; (with_reducible show wpAny _ _ (eval (PySem.Expr.Call (PySem.Expr.Name _ _) [PySem.Expr.Name _ _, PySem.Expr.Name _ _] [] _) _) _ _ _); k_dflt (refine' callN2 ?F ?X ?T ?e ?k ?x ?y ?_ ?c ?g ?l ?m ?df ?dx ?dy; (case F => k_asm); (case X => k_asm); (case T => k_asm); (case e => k_is); (case k => k_is); (case x => exact rfl); (case y => exact rfl); (case c => exact rfl); (case g => exact rfl); (case l => exact rfl); (case m => exact rfl); (case df => decide); (case dx => decide); (case dy => decide); k_whole)) | (k_here; (with_reducible show wpAny _ _ (eval (PySem.Expr.Call (PySem.Expr.Name _ _) [_] [] _) _) _ _ _); k_dflt (refine' callE1 ?F ?X ?T ?e ?k ?_ ?c ?g ?df ?h1; (case F => k_asm); (case X => k_asm); (case T => k_asm); (case e => k_is); (case k => k_is); (case c => exact rfl); (case g => exact rfl); (case df => decide); (case h1 => exact rfl); k_whole)) | (k_here; (with_reducible show wpAny _ _ (eval (PySem.Expr.Call (PySem.Expr.Name _ _) [_, _] [] _) _) _ _ _); k_dflt (refine' callE2 ?F ?X ?T ?e ?k ?_ ?c ?g ?df ?h1 ?h2; (case F => k_asm); (case X => k_asm); (case T => k_asm); (case e => k_is); (case k => k_is); (case c => exact rfl); (case g => exact rfl); (case df => decide); (case h1 => exact rfl); (case h2 => exact rfl); k_whole)) | k_dflt (refine Call_ ?_))
  (k_with "call ref" => (k_here; k_dflt (refine' Ctr.use (c_law_wide w k hk9 _ _) ?hz1 ?hz2 ?hz3 ?hz4 ?hz5 ?hz6 ?hz7 ?hz8 ?hz9 ?_; (case hz1 => k_asm); (case hz2 => k_asm); (case hz3 => k_asm); (case hz4 => k_asm); (case hz5 => k_asm); (case hz6 => first | exact rfl | assumption);  (case hz7 => first | exact rfl | assumption); (case hz8 => ktr_room); (case hz9 => ktr_units); intro r' n' h' tk' hp' F' N'; obtain ⟨⟨_, rfl⟩, rfl⟩ := hp'; (try dsimp only); (try k_fold))))
  (k_with "pyIter ref" => k_state (fun pre found => found = ledP k n pre.length) "found")
  (k_with "InvEndN" => k_dflt kst_close)
  (k_with "state" => first
    | with_reducible exact led_start
    | exact led_hit (by assumption) (by assumption) hk9 (by assumption) (by assumption)
    | exact led_miss1 (by assumption) (by assumption) hk9 (by assumption)
    | exact led_miss2 (by assumption) (by assumption) (by assumption))
  (refine wpAny_call ?_; k_dflt (refine' code_def (binds := [(Str.ofString "kind", Value.str k.str t), (Str.ofString "number", Value.int n t')]) ?k1 ?k2 ?k3 ?k4 ?k5 ?kA ?kF ?kK ?k6 ?k7 ?k8 ?k9 ?kB ?_ ?c2 ?c3 ?c4 ?c5; (case kA => exact rfl); (case kF => assumption); (case kK => assumption); (case k1 => k_asm); (case k2 => k_asm); (case k3 => k_asm); (case k4 => k_asm); (case k5 => k_asm); (case k6 => k_is); (case k7 => k_is); (case k8 => ktr_room); (case k9 => first | exact BindsTo.of_eq rfl | exact binds_K (by k_in) rfl (by k_is) rfl rfl rfl); (case c5 => decide); (case kB => exact locs rfl); (case c2 => exact rfl); (case c3 => exact rfl); (case c4 => exact rfl); k_whole; intro g' L' h' FG' F' N' B' X' T'; (try dsimp only); (try k_lift B'); (try k_fold)))
  k_steps
  all_goals (have e9 := led_end (k := k) (n := n) hw.1 (by assumption); subst e9; refine hret _ _ _ _ ⟨⟨_, rfl⟩, rfl⟩ ?_ ?_; (case refine_1 => k_asm); (case refine_2 => exact fun p hp => (by assumption : News _ _ _ (_ :: n')) p (List.mem_cons_of_mem _ hp)))

/-- the ends of a kind's room as the law says them -/
def loE (k : Kd) : Int := match k with
  | .bool => 0
  | .big => -2 ^ 200
  | k => if k.signed = true then -2 ^ ((k.w : Int) - 1).toNat else 0
def hiE (k : Kd) : Int := match k with
  | .bool => 1
  | .big => 2 ^ 200
  | k => if k.signed = true then 2 ^ ((k.w : Int) - 1).toNat - 1 else 2 ^ (k.w : Int).toNat - 1
theorem kd_isU (k : Kd) (h : k.fixed = true) : (Txt.item k.str 0 == Str.ofString "U") = !k.signed := by
  cases k <;> first | exact absurd h Bool.false_ne_true | decide +kernel
theorem kd_not_bool (k : Kd) (h : k.fixed = true) : k ≠ .bool := by intro e; subst e; cases h
theorem edges_u {k : Kd} (h : k.fixed = true) (hu : (Txt.item k.str 0 == Str.ofString "U") = true) : loE k = 0 ∧ hiE k = 2 ^ (k.w : Int).toNat - 1 := by
  rw [kd_isU k h] at hu
  cases k <;> first | exact absurd h Bool.false_ne_true | exact absurd hu Bool.false_ne_true | exact ⟨rfl, rfl⟩
theorem edges_i {k : Kd} (h : k.fixed = true) (hu : (Txt.item k.str 0 == Str.ofString "U") = false) : loE k = -2 ^ ((k.w : Int) - 1).toNat ∧ hiE k = 2 ^ ((k.w : Int) - 1).toNat - 1 := by
  rw [kd_isU k h] at hu
  cases k <;> first | exact absurd h Bool.false_ne_true | exact absurd hu.symm Bool.false_ne_true | exact ⟨rfl, rfl⟩
def NewP (news : Ledger) (x y : Int) (r : Value) (n' : Ledger) : Prop := ∃ D t1 t2, r = .ref D ∧ n' = (D, ({ cls := .type "tuple", data := .seq #[.int x t1, .int y t2] } : Obj)) :: news ∧ ∀ p ∈ news, p.1 < D
set_option maxHeartbeats 8000000 in
theorem c_edgesF (w : World) (k : Kd) (hk9 : k.fixed = true) (t : Tok) (news : Ledger) : Ctr w 2 251 [.str k.str t] news (NewP news (loE k) (hiE k)) := by
  have hlen := kd_len k
  have hw := kd_w k hk9
  have hbig := kd_eq_big k hk9
  have hbool := kd_eq_bool k (kd_not_bool k hk9)
  intro mean mg mb dp un gd env outer A₀ base h₀ L m hp gs dr tk0 os Q E B F X N T hf hk hdp hun hret
  k_with_none
  (k_with "eval Call" => first | k_compRoot | (k_here; (with_reducible show wpAny _ _ (eval _ (compEnvC _ _ _ _)) _ _ _); k_dflt (refine Call_ ?_)) | (k_here; (with_reducible show wpAny _ _ (eval (PySem.Expr.Call (PySem.Expr.Name _ _) [PySem.Expr.Name _ _] [] _) _) _ _ _); k_dflt (refine' callN1 ?F ?X ?T ?e ?k ?x ?_ ?c ?g ?l ?df ?dx; (case F => k_asm); (case X => k_asm); (case T => k_asm); (case e => k_is); (case k => k_is); (case x => exact rfl); (case c => exact rfl); (case g => exact rfl); (case l => exact rfl); (case df => decide); (case dx => decide); k_whole)) | (k_here; (with_reducible show wpAny _ _ (eval (PySem.Expr.Call (PySem.Expr.Name _ _) [PySem.Expr.Name _ _, PySem.Expr.Name _ _] [] _) _) _ _ _); k_dflt (refine' callN2 ?F ?X ?T ?e ?k ?x ?y ?_ ?c ?g ?l ?m ?df ?dx ?dy; (case F => k_asm); (case X => k_asm); (case T => k_asm); (case e => k_is); (case k => k_is); (case x => exact rfl); (case y => exact rfl); (case c => exact rfl); (case g => exact rfl); (case l => exact rfl); (case m => exact rfl); (case df => decide); (case dx => decide); (case dy => decide); k_whole)) | (k_here; (with_reducible show wpAny _ _ (eval (PySem.Expr.Call (PySem.Expr.Name _ _) [_] [] _) _) _ _ _); k_dflt (refine' callE1 ?F ?X ?T ?e ?k ?_ ?c ?g ?df ?h1; (case F => k_asm); (case X => k_asm); (case T => k_asm); (case e => k_is); (case k => k_is); (case c => exact rfl); (case g => exact rfl); (case df => decide); (case h1 => exact rfl); k_whole)) | (k_here; (with_reducible show wpAny _ _ (eval (PySem.Expr.Call (PySem.Expr.Name _ _) [_, _] [] _) _) _ _ _); k_dflt (refine' callE2 ?F ?X ?T ?e ?k ?_ ?c ?g ?df ?h1 ?h2; (case F => k_asm); (case X => k_asm); (case T => k_asm); (case e => k_is); (case k => k_is); (case c => exact rfl); (case g => exact rfl); (case df => decide); (case h1 => exact rfl); (case h2 => exact rfl); k_whole)) | k_dflt (refine Call_ ?_))
  (k_with "newTuple" => (k_here; k_dflt (refine' kup_newTuple ?F ?N ?_ ?z; (case F => k_asm); (case N => k_asm); (case z => kmk_size)); intro D' h' F' N' lD; (try k_sweep)))
  (k_with "binaryOp Pow int int" => (k_here; (with_reducible refine pow_int_small ?kb1 ?kb2 ?kb3 ?_); (case kb1 => omega); (case kb2 => omega); (case kb3 => decide)))
  (k_with "call ref" => (k_here; k_dflt (refine' Ctr.use (c_law_wide w k hk9 _ _) ?hz1 ?hz2 ?hz3 ?hz4 ?hz5 ?hz6 ?hz7 ?hz8 ?hz9 ?_; (case hz1 => k_asm); (case hz2 => k_asm); (case hz3 => k_asm); (case hz4 => k_asm); (case hz5 => k_asm); (case hz6 => first | exact rfl | assumption);  (case hz7 => first | exact rfl | assumption); (case hz8 => ktr_room); (case hz9 => ktr_units); intro r' n' h' tk' hp' F' N'; obtain ⟨⟨_, rfl⟩, rfl⟩ := hp'; (try dsimp only); (try k_fold))))
  (refine wpAny_call ?_; k_dflt (refine' code_def (binds := [(Str.ofString "kind", Value.str k.str t)]) ?k1 ?k2 ?k3 ?k4 ?k5 ?kA ?kF ?kK ?k6 ?k7 ?k8 ?k9 ?kB ?_ ?c2 ?c3 ?c4 ?c5; (case kA => exact rfl); (case kF => assumption); (case kK => assumption); (case k1 => k_asm); (case k2 => k_asm); (case k3 => k_asm); (case k4 => k_asm); (case k5 => k_asm); (case k6 => k_is); (case k7 => k_is); (case k8 => ktr_room); (case k9 => first | exact BindsTo.of_eq rfl | exact binds_K (by k_in) rfl (by k_is) rfl rfl rfl); (case c5 => decide); (case kB => exact locs rfl); (case c2 => exact rfl); (case c3 => exact rfl); (case c4 => exact rfl); k_whole; intro g' L' h' FG' F' N' B' X' T'; (try dsimp only); (try k_lift B'); (try k_fold)))
  k_steps
  all_goals refine hret _ _ _ _ ?_ (by k_asm) (by k_asm)
  all_goals first
    | (obtain ⟨e1, e2⟩ := edges_u hk9 (by assumption); rw [e1, e2]; exact ⟨_, _, _, rfl, rfl, by assumption⟩)
    | (obtain ⟨e1, e2⟩ := edges_i hk9 (by assumption); rw [e1, e2]; exact ⟨_, _, _, rfl, rfl, by assumption⟩)
set_option maxHeartbeats 8000000 in
theorem c_edges (w : World) (k : Kd) (t : Tok) (news : Ledger) : Ctr w 3 251 [.str k.str t] news (NewP news (loE k) (hiE k)) := by
  cases hk9 : k.fixed with
  | true =>
    intro mean mg mb dp un gd env outer A₀ base h₀ L m hp gs dr tk0 os Q E B F X N T hf hk hdp hun hret
    exact c_edgesF w k hk9 t news mean mg mb dp un gd env outer A₀ base h₀ L m hp gs dr tk0 os Q E B F X N T hf hk (by omega) (by omega) hret
  | false =>
    have hkk : k = .big ∨ k = .bool := by cases k <;> first | exact .inl rfl | exact .inr rfl | cases hk9
    rcases hkk with hkk | hkk <;> subst hkk <;> dsimp only [Kd.str, loE, hiE]
    all_goals intro mean mg mb dp un gd env outer A₀ base h₀ L m hp gs dr tk0 os Q E B F X N T hf hk hdp hun hret
    all_goals k_with_none
    all_goals (k_with "eval Call" => first | k_compRoot | (k_here; (with_reducible show wpAny _ _ (eval _ (compEnvC _ _ _ _)) _ _ _); k_dflt (refine Call_ ?_)) | (k_here; (with_reducible show wpAny _ _ (eval (PySem.Expr.Call (PySem.Expr.Name _ _) [PySem.Expr.Name _ _] [] _) _) _ _ _); k_dflt (refine' callN1 ?F ?X ?T ?e ?k ?x ?_ ?c ?g ?l ?df ?dx; (case F => k_asm); (case X => k_asm); (case T => k_asm); (case e => k_is); (case k => k_is); (case x => exact rfl); (case c => exact rfl); (case g => exact rfl); (case l => exact rfl); (case df => decide); (case dx => decide); k_whole)) | (k_here; (with_reducible show wpAny _ _ (eval (PySem.Expr.Call (PySem.Expr.Name _ _) [PySem.Expr.Name _ _, PySem.Expr.Name _ _] [] _) _) _ _ _); k_dflt (refine' callN2 ?F ?X ?T ?e ?k ?x ?y ?_ ?c ?g ?l ?m ?df ?dx ?dy; (case F => k_asm); (case X => k_asm); (case T => k_asm); (case e => k_is); (case k => k_is); (case x => exact rfl); (case y => exact rfl); (case c => exact rfl); (case g => exact rfl); (case l => exact rfl); (case m => exact rfl); (case df => decide); (case dx => decide); (case dy => decide); k_whole)) | (k_here; (with_reducible show wpAny _ _ (eval (PySem.Expr.Call (PySem.Expr.Name _ _) [_] [] _) _) _ _ _); k_dflt (refine' callE1 ?F ?X ?T ?e ?k ?_ ?c ?g ?df ?h1; (case F => k_asm); (case X => k_asm); (case T => k_asm); (case e => k_is); (case k => k_is); (case c => exact rfl); (case g => exact rfl); (case df => decide); (case h1 => exact rfl); k_whole)) | (k_here; (with_reducible show wpAny _ _ (eval (PySem.Expr.Call (PySem.Expr.Name _ _) [_, _] [] _) _) _ _ _); k_dflt (refine' callE2 ?F ?X ?T ?e ?k ?_ ?c ?g ?df ?h1 ?h2; (case F => k_asm); (case X => k_asm); (case T => k_asm); (case e => k_is); (case k => k_is); (case c => exact rfl); (case g => exact rfl); (case df => decide); (case h1 => exact rfl); (case h2 => exact rfl); k_whole)) | k_dflt (refine Call_ ?_))
    all_goals (k_with "newTuple" => (k_here; k_dflt (refine' kup_newTuple ?F ?N ?_ ?z; (case F => k_asm); (case N => k_asm); (case z => kmk_size)); intro D' h' F' N' lD; (try k_sweep)))
    all_goals (refine wpAny_call ?_; k_dflt (refine' code_def ?k1 ?k2 ?k3 ?k4 ?k5 ?kA ?kF ?kK ?k6 ?k7 ?k8 ?k9 ?kB ?_ ?c2 ?c3 ?c4 ?c5; (case kA => exact rfl); (case kF => assumption); (case kK => assumption); (case k1 => k_asm); (case k2 => k_asm); (case k3 => k_asm); (case k4 => k_asm); (case k5 => k_asm); (case k6 => k_is); (case k7 => k_is); (case k8 => ktr_room); (case k9 => first | exact BindsTo.of_eq rfl | exact binds_K (by k_in) rfl (by k_is) rfl rfl rfl); (case c5 => decide); (case kB => exact locs rfl); (case c2 => exact rfl); (case c3 => exact rfl); (case c4 => exact rfl); k_whole; intro g' L' h' FG' F' N' B' X' T'; (try dsimp only); (try k_lift B'); (try k_fold)))
    all_goals k_steps
    all_goals exact hret _ _ _ _ ⟨_, _, _, rfl, rfl, by assumption⟩ (by k_asm) (by k_asm)

/-- how far a kind leads: its bits, then whether it is unsigned -/
def rk1 (k : Kd) : Int := (k.w : Int)
def rk2 (k : Kd) : Int := if (!k.signed) = true then 1 else 0
set_option maxHeartbeats 8000000 in
theorem c_rank (w : World) (k : Kd) (hb : k ≠ .big) (t : Tok) (news : Ledger) : Ctr w 3 160 [.str k.str t] news (NewP news (rk1 k) (rk2 k)) := by
  cases hk9 : k.fixed with
  | true =>
    have hbig := kd_eq_big k hk9
    have hbool := kd_eq_bool k (kd_not_bool k hk9)
    obtain ⟨tw, hwd⟩ := kd_width w.params k hk9
    intro mean mg mb dp un gd env outer A₀ base h₀ L m hp gs dr tk0 os Q E B F X N T hf hk hdp hun hret
    k_with_none
    (k_with "eval Call" => first | k_compRoot | (k_here; (with_reducible show wpAny _ _ (eval _ (compEnvC _ _ _ _)) _ _ _); k_dflt (refine Call_ ?_)) | (k_here; (with_reducible show wpAny _ _ (eval (PySem.Expr.Call (PySem.Expr.Name _ _) [PySem.Expr.Name _ _] [] _) _) _ _ _); k_dflt (refine' callN1 ?F ?X ?T ?e ?k ?x ?_ ?c ?g ?l ?df ?dx; (case F => k_asm); (case X => k_asm); (case T => k_asm); (case e => k_is); (case k => k_is); (case x => exact rfl); (case c => exact rfl); (case g => exact rfl); (case l => exact rfl); (case df => decide); (case dx => decide); k_whole)) | (k_here; (with_reducible show wpAny _ _ (eval (PySem.Expr.Call (PySem.Expr.Name _ _) [PySem.Expr.Name _ _, PySem.Expr.Name _ _] [] _) _) _ _ _); k_dflt (refine' callN2 ?F ?X ?T ?e ?k ?x ?y ?_ ?c ?g ?l ?m ?df ?dx ?dy; (case F => k_asm); (case X => k_asm); (case T => k_asm); (case e => k_is); (case k => k_is); (case x => exact rfl); (case y => exact rfl); (case c => exact rfl); (case g => exact rfl); (case l => exact rfl); (case m => exact rfl); (case df => decide); (case dx => decide); (case dy => decide); k_whole)) | (k_here; (with_reducible show wpAny _ _ (eval (PySem.Expr.Call (PySem.Expr.Name _ _) [_] [] _) _) _ _ _); k_dflt (refine' callE1 ?F ?X ?T ?e ?k ?_ ?c ?g ?df ?h1; (case F => k_asm); (case X => k_asm); (case T => k_asm); (case e => k_is); (case k => k_is); (case c => exact rfl); (case g => exact rfl); (case df => decide); (case h1 => exact rfl); k_whole)) | (k_here; (with_reducible show wpAny _ _ (eval (PySem.Expr.Call (PySem.Expr.Name _ _) [_, _] [] _) _) _ _ _); k_dflt (refine' callE2 ?F ?X ?T ?e ?k ?_ ?c ?g ?df ?h1 ?h2; (case F => k_asm); (case X => k_asm); (case T => k_asm); (case e => k_is); (case k => k_is); (case c => exact rfl); (case g => exact rfl); (case df => decide); (case h1 => exact rfl); (case h2 => exact rfl); k_whole)) | k_dflt (refine Call_ ?_))
    (k_with "newTuple" => (k_here; k_dflt (refine' kup_newTuple ?F ?N ?_ ?z; (case F => k_asm); (case N => k_asm); (case z => kmk_size)); intro D' h' F' N' lD; (try k_sweep)))
    (k_with "subscriptTail Name Name ref str" => (k_here; k_dflt (refine' topItem_K ?F ?X ?l ?k hwd ?_; (case F => k_asm); (case X => k_asm); (case l => k_is); (case k => k_keys))))
    (k_with "call ref" => (k_here; k_dflt (refine' Ctr.use (c_is_signed w _ _ _) ?hz1 ?hz2 ?hz3 ?hz4 ?hz5 ?hz6 ?hz7 ?hz8 ?hz9 ?_; (case hz1 => k_asm); (case hz2 => k_asm); (case hz3 => k_asm); (case hz4 => k_asm); (case hz5 => k_asm); (case hz6 => first | exact rfl | assumption);  (case hz7 => first | exact rfl | assumption); (case hz8 => ktr_room); (case hz9 => ktr_units); intro r' n' h' tk' hp' F' N'; obtain ⟨rfl, rfl⟩ := hp'; (try dsimp only); (try k_fold))))
    (refine wpAny_call ?_; k_dflt (refine' code_def (binds := [(Str.ofString "kind", Value.str k.str t)]) ?k1 ?k2 ?k3 ?k4 ?k5 ?kA ?kF ?kK ?k6 ?k7 ?k8 ?k9 ?kB ?_ ?c2 ?c3 ?c4 ?c5; (case kA => exact rfl); (case kF => assumption); (case kK => assumption); (case k1 => k_asm); (case k2 => k_asm); (case k3 => k_asm); (case k4 => k_asm); (case k5 => k_asm); (case k6 => k_is); (case k7 => k_is); (case k8 => ktr_room); (case k9 => first | exact BindsTo.of_eq rfl | exact binds_K (by k_in) rfl (by k_is) rfl rfl rfl); (case c5 => decide); (case kB => exact locs rfl); (case c2 => exact rfl); (case c3 => exact rfl); (case c4 => exact rfl); k_whole; intro g' L' h' FG' F' N' B' X' T'; (try dsimp only); (try k_lift B'); (try k_fold)))
    k_steps
    all_goals exact hret _ _ _ _ ⟨_, _, _, rfl, rfl, by assumption⟩ (by k_asm) (by k_asm)
  | false =>
    have hkk : k = .bool := by cases k <;> first | exact absurd rfl hb | rfl | cases hk9
    subst hkk
    dsimp only [Kd.str]
    intro mean mg mb dp un gd env outer A₀ base h₀ L m hp gs dr tk0 os Q E B F X N T hf hk hdp hun hret
    k_with_none
    (k_with "eval Call" => first | k_compRoot | (k_here; (with_reducible show wpAny _ _ (eval _ (compEnvC _ _ _ _)) _ _ _); k_dflt (refine Call_ ?_)) | (k_here; (with_reducible show wpAny _ _ (eval (PySem.Expr.Call (PySem.Expr.Name _ _) [PySem.Expr.Name _ _] [] _) _) _ _ _); k_dflt (refine' callN1 ?F ?X ?T ?e ?k ?x ?_ ?c ?g ?l ?df ?dx; (case F => k_asm); (case X => k_asm); (case T => k_asm); (case e => k_is); (case k => k_is); (case x => exact rfl); (case c => exact rfl); (case g => exact rfl); (case l => exact rfl); (case df => decide); (case dx => decide); k_whole)) | (k_here; (with_reducible show wpAny _ _ (eval (PySem.Expr.Call (PySem.Expr.Name _ _) [PySem.Expr.Name _ _, PySem.Expr.Name _ _] [] _) _) _ _ _); k_dflt (refine' callN2 ?F ?X ?T ?e ?k ?x ?y ?_ ?c ?g ?l ?m ?df ?dx ?dy; (case F => k_asm); (case X => k_asm); (case T => k_asm); (case e => k_is); (case k => k_is); (case x => exact rfl); (case y => exact rfl); (case c => exact rfl); (case g => exact rfl); (case l => exact rfl); (case m => exact rfl); (case df => decide); (case dx => decide); (case dy => decide); k_whole)) | (k_here; (with_reducible show wpAny _ _ (eval (PySem.Expr.Call (PySem.Expr.Name _ _) [_] [] _) _) _ _ _); k_dflt (refine' callE1 ?F ?X ?T ?e ?k ?_ ?c ?g ?df ?h1; (case F => k_asm); (case X => k_asm); (case T => k_asm); (case e => k_is); (case k => k_is); (case c => exact rfl); (case g => exact rfl); (case df => decide); (case h1 => exact rfl); k_whole)) | (k_here; (with_reducible show wpAny _ _ (eval (PySem.Expr.Call (PySem.Expr.Name _ _) [_, _] [] _) _) _ _ _); k_dflt (refine' callE2 ?F ?X ?T ?e ?k ?_ ?c ?g ?df ?h1 ?h2; (case F => k_asm); (case X => k_asm); (case T => k_asm); (case e => k_is); (case k => k_is); (case c => exact rfl); (case g => exact rfl); (case df => decide); (case h1 => exact rfl); (case h2 => exact rfl); k_whole)) | k_dflt (refine Call_ ?_))
    (k_with "newTuple" => (k_here; k_dflt (refine' kup_newTuple ?F ?N ?_ ?z; (case F => k_asm); (case N => k_asm); (case z => kmk_size)); intro D' h' F' N' lD; (try k_sweep)))
    (refine wpAny_call ?_; k_dflt (refine' code_def ?k1 ?k2 ?k3 ?k4 ?k5 ?kA ?kF ?kK ?k6 ?k7 ?k8 ?k9 ?kB ?_ ?c2 ?c3 ?c4 ?c5; (case kA => exact rfl); (case kF => assumption); (case kK => assumption); (case k1 => k_asm); (case k2 => k_asm); (case k3 => k_asm); (case k4 => k_asm); (case k5 => k_asm); (case k6 => k_is); (case k7 => k_is); (case k8 => ktr_room); (case k9 => first | exact BindsTo.of_eq rfl | exact binds_K (by k_in) rfl (by k_is) rfl rfl rfl); (case c5 => decide); (case kB => exact locs rfl); (case c2 => exact rfl); (case c3 => exact rfl); (case c4 => exact rfl); k_whole; intro g' L' h' FG' F' N' B' X' T'; (try dsimp only); (try k_lift B'); (try k_fold)))
    k_steps
    all_goals exact hret _ _ _ _ ⟨_, _, _, rfl, rfl, by assumption⟩ (by k_asm) (by k_asm)
/-- two pairs of ints by >= -/
def geP (x1 x2 y1 y2 : Int) : Bool := if (x1 == y1) = true then (if (x2 == y2) = true then true else decide (y2 ≤ x2)) else decide (y1 ≤ x1)
section
variable {prog : Program} {w : World} {A : Around} {E : Value → Shared → Prop} {s : Shared} {a b : Addr} {x1 x2 y1 y2 : Int} {t1 t2 u1 u2 : Tok}
theorem pair_ge_tree {P : Fin → Shared → Prop} (ha : s.heap.get? a = some { cls := .type "tuple", data := .seq #[.int x1 t1, .int x2 t2] }) (hb : s.heap.get? b = some { cls := .type "tuple", data := .seq #[.int y1 u1, .int y2 u2] })
    (h : P (.done (.ret (.bool (geP x1 x2 y1 y2)))) s) : wpAny (model prog w) A (Builtin.«tuple.__ge__» ⟨[.ref a, .ref b], []⟩) P E s := by
  have hTb : s.TypeIs (.ref b) "tuple" := ⟨_, hb, rfl⟩
  show wpAny _ _ (isInstance (.ref b) (.type "tuple") >>= _) _ _ s
  refine wpAny_bind (wpAny_isInstance hTb isSubtype_tuple_tuple ?_)
  simp only [Bool.not_true, Bool.false_eq_true, if_false]
  refine wpAny_bind (wpAny_tupleItemsOf ha rfl ?_)
  refine wpAny_bind (wpAny_tupleItemsOf hb rfl ?_)
  refine wpAny_bind ?_
  simp only [List.zip_cons_cons, List.zip_nil_right, List.forIn_cons, List.forIn_nil]
  refine wpAny_bind (wpAny_bind (wpAny_eqBool_int ?_))
  unfold geP at h
  cases h1 : (x1 == y1) with
  | false =>
    simp only [h1, Bool.not_false, if_true, Bool.false_eq_true, if_false] at h ⊢
    refine wpAny_bind (wpAny_rule (wpAny_bind (show wpAny _ _ (compareOp .GtE (.int x1 t1) (.int y1 u1)) _ _ _ from PyProof.Rows.ge_int ?_)))
    exact wpAny_bind (wpAny_pure (wpAny_pure (wpAny_pure (wpAny_pure h))))
  | true =>
    simp only [h1, Bool.not_true, if_true, Bool.false_eq_true, if_false] at h ⊢
    refine wpAny_pure (wpAny_bind (wpAny_bind (wpAny_eqBool_int ?_)))
    cases h2 : (x2 == y2) with
    | false =>
      simp only [h2, Bool.not_false, if_true, Bool.false_eq_true, if_false] at h ⊢
      refine wpAny_bind (wpAny_rule (wpAny_bind (show wpAny _ _ (compareOp .GtE (.int x2 t2) (.int y2 u2)) _ _ _ from PyProof.Rows.ge_int ?_)))
      exact wpAny_bind (wpAny_pure (wpAny_pure (wpAny_pure (wpAny_pure h))))
    | true =>
      simp only [h2, Bool.not_true, if_true, Bool.false_eq_true, if_false] at h ⊢
      exact wpAny_pure (wpAny_pure (wpAny_pure h))
theorem pair_ge {Q : Value → Shared → Prop} (hu : A.units < cLine) (ha : s.heap.get? a = some { cls := .type "tuple", data := .seq #[.int x1 t1, .int x2 t2] }) (hb : s.heap.get? b = some { cls := .type "tuple", data := .seq #[.int y1 u1, .int y2 u2] })
    (h : Q (.bool (geP x1 x2 y1 y2)) s) : wpAny (model prog w) A (compareOp .GtE (.ref a) (.ref b)) Q E s := by
  show wpAny _ _ (richCompare .GtE (.ref a) (.ref b)) Q E s
  have hTa : s.TypeIs (.ref a) "tuple" := ⟨_, ha, rfl⟩
  exact wpAny_richCompare_same_room (op := .GtE) hTa ⟨_, hb, rfl⟩ PySem.F.slot_tuple_ge
      (wpAny_call_entry PySem.F.slot_tuple_ge hTa PySem.F.entry_tuple_ge (pair_ge_tree ha hb ⟨_, rfl, (fun e => nomatch e), h⟩) (PySem.F.args_tuple_ge_2 _ _)) hu
end
def Kd.isBig : Kd → Bool
  | .big => true
  | _ => false
/-- the kind that two kinds share -/
def prom (k1 k2 : Kd) : Kd := if (k1.isBig || k2.isBig) = true then .big else if geP (rk1 k1) (rk2 k1) (rk1 k2) (rk2 k2) = true then k1 else k2
theorem kd_is_big (k : Kd) : (k.str == Str.ofString "BigInt") = k.isBig := by cases k <;> decide +kernel
theorem any_big (k1 k2 : Kd) : ([k1.str, k2.str].any fun x => x == Str.ofString "BigInt") = (k1.isBig || k2.isBig) := by
  simp only [List.any_cons, List.any_nil, Bool.or_false, kd_is_big]
theorem any_f1 {k1 k2 : Kd} (h : ([k1.str, k2.str].any fun x => x == Str.ofString "BigInt") = false) : k1 ≠ .big := by
  rw [any_big] at h; intro e; subst e; cases h
theorem any_f2 {k1 k2 : Kd} (h : ([k1.str, k2.str].any fun x => x == Str.ofString "BigInt") = false) : k2 ≠ .big := by
  rw [any_big] at h; intro e; subst e; cases k1 <;> cases h
theorem prom_1 {k1 k2 : Kd} (h : ([k1.str, k2.str].any fun x => x == Str.ofString "BigInt") = true) : prom k1 k2 = .big := by
  rw [any_big] at h; exact if_pos h
theorem prom_2 {k1 k2 : Kd} (h : ([k1.str, k2.str].any fun x => x == Str.ofString "BigInt") = false) (g : geP (rk1 k1) (rk2 k1) (rk1 k2) (rk2 k2) = true) : prom k1 k2 = k1 := by
  rw [any_big] at h; exact (if_neg (by rw [h]; exact Bool.false_ne_true)).trans (if_pos g)
theorem prom_3 {k1 k2 : Kd} (h : ([k1.str, k2.str].any fun x => x == Str.ofString "BigInt") = false) (g : geP (rk1 k1) (rk2 k1) (rk1 k2) (rk2 k2) = false) : prom k1 k2 = k2 := by
  rw [any_big] at h; exact (if_neg (by rw [h]; exact Bool.false_ne_true)).trans (if_neg (by rw [g]; exact Bool.false_ne_true))
set_option maxHeartbeats 8000000 in
theorem c_promoted (w : World) (k1 k2 : Kd) (t1 t2 : Tok) (news : Ledger) : Ctr w 5 167 [.str k1.str t1, .str k2.str t2] news (fun r n' => (∃ t, r = .str (prom k1 k2).str t) ∧ n' = news) := by
  intro mean mg mb dp un gd env outer A₀ base h₀ L m hp gs dr tk0 os Q E B F X N T hf hk hdp hun hret
  k_with_none
  (k_with "eval Call" => first | k_compRoot | (k_here; (with_reducible show wpAny _ _ (eval _ (compEnvC _ _ _ _)) _ _ _); k_dflt (refine Call_ ?_)) | (k_here; (with_reducible show wpAny _ _ (eval (PySem.Expr.Call (PySem.Expr.Name _ _) [PySem.Expr.Name _ _] [] _) _) _ _ _); k_dflt (refine' callN1 ?F ?X ?T ?e ?k ?x ?_ ?c ?g ?l ?df ?dx; (case F => k_asm); (case X => k_asm); (case T => k_asm); (case e => k_is); (case k => k_is); (case x => exact rfl); (case c => exact rfl); (case g => exact rfl); (case l => exact rfl); (case df => decide); (case dx => decide); k_whole)) | (k_here; (with_reducible show wpAny _ _ (eval (PySem.Expr.Call (PySem.Expr.Name _ _) [PySem.Expr.Name _ _, PySem.Expr.Name _ _] [] _) _) _ _ _); k_dflt (refine' callN2 ?F ?X ?T ?e ?k ?x ?y ?_ ?c ?g ?l ?m ?df ?dx ?dy; (case F => k_asm); (case X => k_asm); (case T => k_asm); (case e => k_is); (case k => k_is); (case x => exact rfl); (case y => exact rfl); (case c => exact rfl); (case g => exact rfl); (case l => exact rfl); (case m => exact rfl); (case df => decide); (case dx => decide); (case dy => decide); k_whole)) | (k_here; (with_reducible show wpAny _ _ (eval (PySem.Expr.Call (PySem.Expr.Name _ _) [_] [] _) _) _ _ _); k_dflt (refine' callE1 ?F ?X ?T ?e ?k ?_ ?c ?g ?df ?h1; (case F => k_asm); (case X => k_asm); (case T => k_asm); (case e => k_is); (case k => k_is); (case c => exact rfl); (case g => exact rfl); (case df => decide); (case h1 => exact rfl); k_whole)) | (k_here; (with_reducible show wpAny _ _ (eval (PySem.Expr.Call (PySem.Expr.Name _ _) [_, _] [] _) _) _ _ _); k_dflt (refine' callE2 ?F ?X ?T ?e ?k ?_ ?c ?g ?df ?h1 ?h2; (case F => k_asm); (case X => k_asm); (case T => k_asm); (case e => k_is); (case k => k_is); (case c => exact rfl); (case g => exact rfl); (case df => decide); (case h1 => exact rfl); (case h2 => exact rfl); k_whole)) | k_dflt (refine Call_ ?_))
  (k_with "newTuple" => (k_here; k_dflt (refine' kup_newTuple ?F ?N ?_ ?z; (case F => k_asm); (case N => k_asm); (case z => kmk_size)); intro D' h' F' N' lD; (try k_sweep)))
  (k_with "call ref" => first
    | (k_here; k_dflt (refine' Ctr.use (c_rank w k1 (any_f1 (by assumption)) _ _) ?hz1 ?hz2 ?hz3 ?hz4 ?hz5 ?hz6 ?hz7 ?hz8 ?hz9 ?_; (case hz1 => k_asm); (case hz2 => k_asm); (case hz3 => k_asm); (case hz4 => k_asm); (case hz5 => k_asm); (case hz6 => first | exact rfl | assumption);  (case hz7 => first | exact rfl | assumption); (case hz8 => ktr_room); (case hz9 => ktr_units); intro r' n' h' tk' hp' F' N'; obtain ⟨D', u1, u2, rfl, rfl, lD⟩ := hp'; (try dsimp only); (try k_fold)))
    | (k_here; k_dflt (refine' Ctr.use (c_rank w k2 (any_f2 (by assumption)) _ _) ?hz1 ?hz2 ?hz3 ?hz4 ?hz5 ?hz6 ?hz7 ?hz8 ?hz9 ?_; (case hz1 => k_asm); (case hz2 => k_asm); (case hz3 => k_asm); (case hz4 => k_asm); (case hz5 => k_asm); (case hz6 => first | exact rfl | assumption);  (case hz7 => first | exact rfl | assumption); (case hz8 => ktr_room); (case hz9 => ktr_units); intro r' n' h' tk' hp' F' N'; obtain ⟨D', u1, u2, rfl, rfl, lD⟩ := hp'; (try dsimp only); (try k_fold))))
  (k_with "compareOp GtE ref ref" => (k_here; k_dflt (refine' pair_ge ?hu9 ?ha9 ?hb9 ?_; (case hu9 => ktr_units); (case ha9 => exact (News.get (by k_asm) (by k_mem))); (case hb9 => exact (News.get (by k_asm) (by k_mem))))))
  (refine wpAny_call ?_; k_dflt (refine' code_def (binds := [(Str.ofString "one", Value.str k1.str t1), (Str.ofString "other", Value.str k2.str t2)]) ?k1 ?k2 ?k3 ?k4 ?k5 ?kA ?kF ?kK ?k6 ?k7 ?k8 ?k9 ?kB ?_ ?c2 ?c3 ?c4 ?c5; (case kA => exact rfl); (case kF => assumption); (case kK => assumption); (case k1 => k_asm); (case k2 => k_asm); (case k3 => k_asm); (case k4 => k_asm); (case k5 => k_asm); (case k6 => k_is); (case k7 => k_is); (case k8 => ktr_room); (case k9 => first | exact BindsTo.of_eq rfl | exact binds_K (by k_in) rfl (by k_is) rfl rfl rfl); (case c5 => decide); (case kB => exact locs rfl); (case c2 => exact rfl); (case c3 => exact rfl); (case c4 => exact rfl); k_whole; intro g' L' h' FG' F' N' B' X' T'; (try dsimp only); (try k_lift B'); (try k_fold)))
  k_steps
  all_goals first
    | exact hret _ _ _ _ ⟨⟨_, by rw [prom_1 (by assumption)]; rfl⟩, rfl⟩ (by k_asm) (cb_drop (by k_asm) (by intro p hp; repeat (first | exact hp | apply List.mem_cons_of_mem)))
    | exact hret _ _ _ _ ⟨⟨_, by rw [prom_2 (by assumption) (by assumption)]⟩, rfl⟩ (by k_asm) (cb_drop (by k_asm) (by intro p hp; repeat (first | exact hp | apply List.mem_cons_of_mem)))
    | exact hret _ _ _ _ ⟨⟨_, by rw [prom_3 (by assumption) (by assumption)]⟩, rfl⟩ (by k_asm) (cb_drop (by k_asm) (by intro p hp; repeat (first | exact hp | apply List.mem_cons_of_mem)))



/-- what two values are led into: the kind that they share, for two truths Int64 -/
def shK (a b : V) : Kd := if (prom a.kd b.kd).str == Str.ofString "Bool" then .i64 else prom a.kd b.kd
theorem nb_of {k : Kd} (h : (k.str == Str.ofString "Bool") = false) : k ≠ .bool := by intro e; subst e; exact absurd h.symm (by decide +kernel)
theorem i64_nb : Kd.i64 ≠ .bool := fun h => Kd.noConfusion h
theorem shK_1 {x y : V} (h : ((prom x.kd y.kd).str == Str.ofString "Bool") = true) : shK x y = .i64 := if_pos h
theorem shK_2 {x y : V} (h : ((prom x.kd y.kd).str == Str.ofString "Bool") = false) : shK x y = prom x.kd y.kd := if_neg (by rw [h]; exact Bool.false_ne_true)
/-- the two led values, and the pair of them -/
def NewLed (news : Ledger) (k : Kd) (m n : Int) (r : Value) (n' : Ledger) : Prop :=
  ∃ D1 c1 a1 a2 a3 D2 c2 b1 b2 b3 D, r = .ref D ∧ n' = (D, ({ cls := .type "tuple", data := .seq #[.ref D1, .ref D2] } : Obj)) :: (D2, (V.i k n).obj c2 b1 b2 b3) :: (D1, (V.i k m).obj c1 a1 a2 a3) :: news ∧ (∀ p ∈ news, p.1 < D1)
set_option maxHeartbeats 8000000 in
theorem c_led_both (w : World) (x y : V) (hx1 : -(2 ^ 500) < x.num) (hx2 : x.num < 2 ^ 500) (hy1 : -(2 ^ 500) < y.num) (hy2 : y.num < 2 ^ 500) (a b : Addr) (c d : Nat) (t1 t2 t3 u1 u2 u3 : Tok) (news : Ledger) (hm : (a, x.obj c t1 t2 t3) ∈ news) (hn : (b, y.obj d u1 u2 u3) ∈ news) :
    Ctr w 7 216 [.ref a, .ref b] news (NewLed news (shK x y) (wrapZ (shK x y) x.num) (wrapZ (shK x y) y.num)) := by
  intro mean mg mb dp un gd env outer A₀ base h₀ L m hp gs dr tk0 os Q E B F X N T hf hk hdp hun hret
  k_with_none
  (k_with "eval Call" => first | k_compRoot | (k_here; (with_reducible show wpAny _ _ (eval _ (compEnvC _ _ _ _)) _ _ _); k_dflt (refine Call_ ?_)) | (k_here; (with_reducible show wpAny _ _ (eval (PySem.Expr.Call (PySem.Expr.Name _ _) [PySem.Expr.Name _ _] [] _) _) _ _ _); k_dflt (refine' callN1 ?F ?X ?T ?e ?k ?x ?_ ?c ?g ?l ?df ?dx; (case F => k_asm); (case X => k_asm); (case T => k_asm); (case e => k_is); (case k => k_is); (case x => exact rfl); (case c => exact rfl); (case g => exact rfl); (case l => exact rfl); (case df => decide); (case dx => decide); k_whole)) | (k_here; (with_reducible show wpAny _ _ (eval (PySem.Expr.Call (PySem.Expr.Name _ _) [PySem.Expr.Name _ _, PySem.Expr.Name _ _] [] _) _) _ _ _); k_dflt (refine' callN2 ?F ?X ?T ?e ?k ?x ?y ?_ ?c ?g ?l ?m ?df ?dx ?dy; (case F => k_asm); (case X => k_asm); (case T => k_asm); (case e => k_is); (case k => k_is); (case x => exact rfl); (case y => exact rfl); (case c => exact rfl); (case g => exact rfl); (case l => exact rfl); (case m => exact rfl); (case df => decide); (case dx => decide); (case dy => decide); k_whole)) | (k_here; (with_reducible show wpAny _ _ (eval (PySem.Expr.Call (PySem.Expr.Name _ _) [_] [] _) _) _ _ _); k_dflt (refine' callE1 ?F ?X ?T ?e ?k ?_ ?c ?g ?df ?h1; (case F => k_asm); (case X => k_asm); (case T => k_asm); (case e => k_is); (case k => k_is); (case c => exact rfl); (case g => exact rfl); (case df => decide); (case h1 => exact rfl); k_whole)) | (k_here; (with_reducible show wpAny _ _ (eval (PySem.Expr.Call (PySem.Expr.Name _ _) [_, _] [] _) _) _ _ _); k_dflt (refine' callE2 ?F ?X ?T ?e ?k ?_ ?c ?g ?df ?h1 ?h2; (case F => k_asm); (case X => k_asm); (case T => k_asm); (case e => k_is); (case k => k_is); (case c => exact rfl); (case g => exact rfl); (case df => decide); (case h1 => exact rfl); (case h2 => exact rfl); k_whole)) | k_dflt (refine Call_ ?_))
  (k_with "newTuple" => (k_here; k_dflt (refine' kup_newTuple ?F ?N ?_ ?z; (case F => k_asm); (case N => k_asm); (case z => kmk_size)); intro D' h' F' N' lD; (try k_sweep)))
  (k_with "call ref" => first
    | (k_here; k_dflt (refine' Ctr.use (c_number_kind w x a c t1 t2 t3 _ hm) ?hz1 ?hz2 ?hz3 ?hz4 ?hz5 ?hz6 ?hz7 ?hz8 ?hz9 ?_; (case hz1 => k_asm); (case hz2 => k_asm); (case hz3 => k_asm); (case hz4 => k_asm); (case hz5 => k_asm); (case hz6 => first | exact rfl | assumption);  (case hz7 => first | exact rfl | assumption); (case hz8 => ktr_room); (case hz9 => ktr_units); intro r' n' h' tk' hp' F' N'; obtain ⟨⟨_, rfl⟩, rfl⟩ := hp'; (try dsimp only); (try k_fold)))
    | (k_here; k_dflt (refine' Ctr.use (c_number_kind w y b d u1 u2 u3 _ hn) ?hz1 ?hz2 ?hz3 ?hz4 ?hz5 ?hz6 ?hz7 ?hz8 ?hz9 ?_; (case hz1 => k_asm); (case hz2 => k_asm); (case hz3 => k_asm); (case hz4 => k_asm); (case hz5 => k_asm); (case hz6 => first | exact rfl | assumption);  (case hz7 => first | exact rfl | assumption); (case hz8 => ktr_room); (case hz9 => ktr_units); intro r' n' h' tk' hp' F' N'; obtain ⟨⟨_, rfl⟩, rfl⟩ := hp'; (try dsimp only); (try k_fold)))
    | (k_here; k_dflt (refine' Ctr.use (c_promoted w x.kd y.kd _ _ _) ?hz1 ?hz2 ?hz3 ?hz4 ?hz5 ?hz6 ?hz7 ?hz8 ?hz9 ?_; (case hz1 => k_asm); (case hz2 => k_asm); (case hz3 => k_asm); (case hz4 => k_asm); (case hz5 => k_asm); (case hz6 => first | exact rfl | assumption);  (case hz7 => first | exact rfl | assumption); (case hz8 => ktr_room); (case hz9 => ktr_units); intro r' n' h' tk' hp' F' N'; obtain ⟨⟨_, rfl⟩, rfl⟩ := hp'; (try dsimp only); (try k_fold)))
    | (k_here; k_dflt (refine' Ctr.use (c_led_to w (prom x.kd y.kd) (nb_of (by assumption)) x hx1 hx2 _ a c t1 t2 t3 _ ?hm1) ?hz1 ?hz2 ?hz3 ?hz4 ?hz5 ?hz6 ?hz7 ?hz8 ?hz9 ?_; (case hz1 => k_asm); (case hz2 => k_asm); (case hz3 => k_asm); (case hz4 => k_asm); (case hz5 => k_asm); (case hz6 => first | exact rfl | assumption); (case hm1 => kcj_m);  (case hz7 => first | exact rfl | assumption); (case hz8 => ktr_room); (case hz9 => ktr_units); intro r' n' h' tk' hp' F' N'; obtain ⟨D1, c1, a1, a2, a3, rfl, rfl, lD1⟩ := hp'; (try dsimp only); (try k_fold)))
    | (k_here; k_dflt (refine' Ctr.use (c_led_to w (prom x.kd y.kd) (nb_of (by assumption)) y hy1 hy2 _ b d u1 u2 u3 _ ?hm1) ?hz1 ?hz2 ?hz3 ?hz4 ?hz5 ?hz6 ?hz7 ?hz8 ?hz9 ?_; (case hz1 => k_asm); (case hz2 => k_asm); (case hz3 => k_asm); (case hz4 => k_asm); (case hz5 => k_asm); (case hz6 => first | exact rfl | assumption); (case hm1 => kcj_m);  (case hz7 => first | exact rfl | assumption); (case hz8 => ktr_room); (case hz9 => ktr_units); intro r' n' h' tk' hp' F' N'; obtain ⟨D2, c2, b1, b2, b3, rfl, rfl, lD2⟩ := hp'; (try dsimp only); (try k_fold)))
    | (k_here; k_dflt (refine' Ctr.use (c_led_to w .i64 i64_nb x hx1 hx2 _ a c t1 t2 t3 _ ?hm1) ?hz1 ?hz2 ?hz3 ?hz4 ?hz5 ?hz6 ?hz7 ?hz8 ?hz9 ?_; (case hz1 => k_asm); (case hz2 => k_asm); (case hz3 => k_asm); (case hz4 => k_asm); (case hz5 => k_asm); (case hz6 => first | exact rfl | assumption); (case hm1 => kcj_m);  (case hz7 => first | exact rfl | assumption); (case hz8 => ktr_room); (case hz9 => ktr_units); intro r' n' h' tk' hp' F' N'; obtain ⟨D1, c1, a1, a2, a3, rfl, rfl, lD1⟩ := hp'; (try dsimp only); (try k_fold)))
    | (k_here; k_dflt (refine' Ctr.use (c_led_to w .i64 i64_nb y hy1 hy2 _ b d u1 u2 u3 _ ?hm1) ?hz1 ?hz2 ?hz3 ?hz4 ?hz5 ?hz6 ?hz7 ?hz8 ?hz9 ?_; (case hz1 => k_asm); (case hz2 => k_asm); (case hz3 => k_asm); (case hz4 => k_asm); (case hz5 => k_asm); (case hz6 => first | exact rfl | assumption); (case hm1 => kcj_m);  (case hz7 => first | exact rfl | assumption); (case hz8 => ktr_room); (case hz9 => ktr_units); intro r' n' h' tk' hp' F' N'; obtain ⟨D2, c2, b1, b2, b3, rfl, rfl, lD2⟩ := hp'; (try dsimp only); (try k_fold))))
  (refine wpAny_call ?_; k_dflt (refine' code_def (binds := [(Str.ofString "one", Value.ref a), (Str.ofString "other", Value.ref b)]) ?k1 ?k2 ?k3 ?k4 ?k5 ?kA ?kF ?kK ?k6 ?k7 ?k8 ?k9 ?kB ?_ ?c2 ?c3 ?c4 ?c5; (case kA => exact rfl); (case kF => assumption); (case kK => assumption); (case k1 => k_asm); (case k2 => k_asm); (case k3 => k_asm); (case k4 => k_asm); (case k5 => k_asm); (case k6 => k_is); (case k7 => k_is); (case k8 => ktr_room); (case k9 => first | exact BindsTo.of_eq rfl | exact binds_K (by k_in) rfl (by k_is) rfl rfl rfl); (case c5 => decide); (case kB => exact locs rfl); (case c2 => exact rfl); (case c3 => exact rfl); (case c4 => exact rfl); k_whole; intro g' L' h' FG' F' N' B' X' T'; (try dsimp only); (try k_lift B'); (try k_fold)))
  k_steps
  all_goals first
    | (rw [shK_1 (by assumption)] at hret; exact hret _ _ _ _ ⟨_, _, _, _, _, _, _, _, _, _, _, rfl, rfl, by assumption⟩ (by k_asm) (by k_asm))
    | (rw [shK_2 (by assumption)] at hret; exact hret _ _ _ _ ⟨_, _, _, _, _, _, _, _, _, _, _, rfl, rfl, by assumption⟩ (by k_asm) (by k_asm))

set_option maxHeartbeats 8000000 in
theorem c_promoted_all (w : World) (k1 k2 : Kd) (l : Addr) (c : Nat) (t1 t2 : Tok) (news : Ledger) : Ctr w 7 174 [.ref l] ((l, ({ cls := .type "list", data := .seq #[.str k1.str t1, .str k2.str t2] c } : Obj)) :: news) (fun r n' => (∃ t, r = .str (prom (prom .bool k1) k2).str t) ∧ n' = (l, ({ cls := .type "list", data := .seq #[.str k1.str t1, .str k2.str t2] c } : Obj)) :: news) := by
  intro mean mg mb dp un gd env outer A₀ base h₀ L m hp gs dr tk0 os Q E B F X N T hf hk hdp hun hret
  k_with_none
  (k_with "eval Call" => first | k_compRoot | (k_here; (with_reducible show wpAny _ _ (eval _ (compEnvC _ _ _ _)) _ _ _); k_dflt (refine Call_ ?_)) | (k_here; (with_reducible show wpAny _ _ (eval (PySem.Expr.Call (PySem.Expr.Name _ _) [PySem.Expr.Name _ _] [] _) _) _ _ _); k_dflt (refine' callN1 ?F ?X ?T ?e ?k ?x ?_ ?c ?g ?l ?df ?dx; (case F => k_asm); (case X => k_asm); (case T => k_asm); (case e => k_is); (case k => k_is); (case x => exact rfl); (case c => exact rfl); (case g => exact rfl); (case l => exact rfl); (case df => decide); (case dx => decide); k_whole)) | (k_here; (with_reducible show wpAny _ _ (eval (PySem.Expr.Call (PySem.Expr.Name _ _) [PySem.Expr.Name _ _, PySem.Expr.Name _ _] [] _) _) _ _ _); k_dflt (refine' callN2 ?F ?X ?T ?e ?k ?x ?y ?_ ?c ?g ?l ?m ?df ?dx ?dy; (case F => k_asm); (case X => k_asm); (case T => k_asm); (case e => k_is); (case k => k_is); (case x => exact rfl); (case y => exact rfl); (case c => exact rfl); (case g => exact rfl); (case l => exact rfl); (case m => exact rfl); (case df => decide); (case dx => decide); (case dy => decide); k_whole)) | (k_here; (with_reducible show wpAny _ _ (eval (PySem.Expr.Call (PySem.Expr.Name _ _) [_] [] _) _) _ _ _); k_dflt (refine' callE1 ?F ?X ?T ?e ?k ?_ ?c ?g ?df ?h1; (case F => k_asm); (case X => k_asm); (case T => k_asm); (case e => k_is); (case k => k_is); (case c => exact rfl); (case g => exact rfl); (case df => decide); (case h1 => exact rfl); k_whole)) | (k_here; (with_reducible show wpAny _ _ (eval (PySem.Expr.Call (PySem.Expr.Name _ _) [_, _] [] _) _) _ _ _); k_dflt (refine' callE2 ?F ?X ?T ?e ?k ?_ ?c ?g ?df ?h1 ?h2; (case F => k_asm); (case X => k_asm); (case T => k_asm); (case e => k_is); (case k => k_is); (case c => exact rfl); (case g => exact rfl); (case df => decide); (case h1 => exact rfl); (case h2 => exact rfl); k_whole)) | k_dflt (refine Call_ ?_))
  (k_with "call ref" => first
    | (k_here; k_dflt (refine' Ctr.use (c_promoted w .bool k1 _ _ _) ?hz1 ?hz2 ?hz3 ?hz4 ?hz5 ?hz6 ?hz7 ?hz8 ?hz9 ?_; (case hz1 => k_asm); (case hz2 => k_asm); (case hz3 => k_asm); (case hz4 => k_asm); (case hz5 => k_asm); (case hz6 => first | exact rfl | assumption);  (case hz7 => first | exact rfl | assumption); (case hz8 => ktr_room); (case hz9 => ktr_units); intro r' n' h' tk' hp' F' N'; obtain ⟨⟨_, rfl⟩, rfl⟩ := hp'; (try dsimp only); (try k_fold)))
    | (k_here; k_dflt (refine' Ctr.use (c_promoted w (prom .bool k1) k2 _ _ _) ?hz1 ?hz2 ?hz3 ?hz4 ?hz5 ?hz6 ?hz7 ?hz8 ?hz9 ?_; (case hz1 => k_asm); (case hz2 => k_asm); (case hz3 => k_asm); (case hz4 => k_asm); (case hz5 => k_asm); (case hz6 => first | exact rfl | assumption);  (case hz7 => first | exact rfl | assumption); (case hz8 => ktr_room); (case hz9 => ktr_units); intro r' n' h' tk' hp' F' N'; obtain ⟨⟨_, rfl⟩, rfl⟩ := hp'; (try dsimp only); (try k_fold))))
  (refine wpAny_call ?_; k_dflt (refine' code_def (binds := [(Str.ofString "kinds", Value.ref l)]) ?k1 ?k2 ?k3 ?k4 ?k5 ?kA ?kF ?kK ?k6 ?k7 ?k8 ?k9 ?kB ?_ ?c2 ?c3 ?c4 ?c5; (case kA => exact rfl); (case kF => assumption); (case kK => assumption); (case k1 => k_asm); (case k2 => k_asm); (case k3 => k_asm); (case k4 => k_asm); (case k5 => k_asm); (case k6 => k_is); (case k7 => k_is); (case k8 => ktr_room); (case k9 => first | exact BindsTo.of_eq rfl | exact binds_K (by k_in) rfl (by k_is) rfl rfl rfl); (case c5 => decide); (case kB => exact locs rfl); (case c2 => exact rfl); (case c3 => exact rfl); (case c4 => exact rfl); k_whole; intro g' L' h' FG' F' N' B' X' T'; (try dsimp only); (try k_lift B'); (try k_fold)))
  k_steps
  all_goals exact hret _ _ _ _ ⟨⟨_, rfl⟩, rfl⟩ (by k_asm) (by k_asm)
/-- which of two comes first: 1, 0 or -1 -/
def sgnZ (m n : Int) : Int := (if decide (n < m) = true then 1 else 0) - (if decide (m < n) = true then 1 else 0)
set_option maxHeartbeats 8000000 in
theorem c_order_of (w : World) (x y : V) (a b : Addr) (c d : Nat) (t1 t2 t3 u1 u2 u3 : Tok) (news : Ledger) (hm : (a, x.obj c t1 t2 t3) ∈ news) (hn : (b, y.obj d u1 u2 u3) ∈ news) :
    Ctr w 2 223 [.ref a, .ref b] news (fun r n' => (∃ t, r = .int (sgnZ x.num y.num) t) ∧ n' = news) := by
  intro mean mg mb dp un gd env outer A₀ base h₀ L m hp gs dr tk0 os Q E B F X N T hf hk hdp hun hret
  k_with_none
  (k_with "eval Call" => first | k_compRoot | (k_here; (with_reducible show wpAny _ _ (eval _ (compEnvC _ _ _ _)) _ _ _); k_dflt (refine Call_ ?_)) | (k_here; (with_reducible show wpAny _ _ (eval (PySem.Expr.Call (PySem.Expr.Name _ _) [PySem.Expr.Name _ _] [] _) _) _ _ _); k_dflt (refine' callN1 ?F ?X ?T ?e ?k ?x ?_ ?c ?g ?l ?df ?dx; (case F => k_asm); (case X => k_asm); (case T => k_asm); (case e => k_is); (case k => k_is); (case x => exact rfl); (case c => exact rfl); (case g => exact rfl); (case l => exact rfl); (case df => decide); (case dx => decide); k_whole)) | (k_here; (with_reducible show wpAny _ _ (eval (PySem.Expr.Call (PySem.Expr.Name _ _) [PySem.Expr.Name _ _, PySem.Expr.Name _ _] [] _) _) _ _ _); k_dflt (refine' callN2 ?F ?X ?T ?e ?k ?x ?y ?_ ?c ?g ?l ?m ?df ?dx ?dy; (case F => k_asm); (case X => k_asm); (case T => k_asm); (case e => k_is); (case k => k_is); (case x => exact rfl); (case y => exact rfl); (case c => exact rfl); (case g => exact rfl); (case l => exact rfl); (case m => exact rfl); (case df => decide); (case dx => decide); (case dy => decide); k_whole)) | (k_here; (with_reducible show wpAny _ _ (eval (PySem.Expr.Call (PySem.Expr.Name _ _) [_] [] _) _) _ _ _); k_dflt (refine' callE1 ?F ?X ?T ?e ?k ?_ ?c ?g ?df ?h1; (case F => k_asm); (case X => k_asm); (case T => k_asm); (case e => k_is); (case k => k_is); (case c => exact rfl); (case g => exact rfl); (case df => decide); (case h1 => exact rfl); k_whole)) | (k_here; (with_reducible show wpAny _ _ (eval (PySem.Expr.Call (PySem.Expr.Name _ _) [_, _] [] _) _) _ _ _); k_dflt (refine' callE2 ?F ?X ?T ?e ?k ?_ ?c ?g ?df ?h1 ?h2; (case F => k_asm); (case X => k_asm); (case T => k_asm); (case e => k_is); (case k => k_is); (case c => exact rfl); (case g => exact rfl); (case df => decide); (case h1 => exact rfl); (case h2 => exact rfl); k_whole)) | k_dflt (refine Call_ ?_))
  (k_with "newTuple" => (k_here; k_dflt (refine' kup_newTuple ?F ?N ?_ ?z; (case F => k_asm); (case N => k_asm); (case z => kmk_size)); intro D' h' F' N' lD; (try k_sweep)))
  (k_with "call ref" => first
    | (k_here; k_dflt (refine' Ctr.use (c_plain_number w x a c t1 t2 t3 _ ?hm1) ?hz1 ?hz2 ?hz3 ?hz4 ?hz5 ?hz6 ?hz7 ?hz8 ?hz9 ?_; (case hz1 => k_asm); (case hz2 => k_asm); (case hz3 => k_asm); (case hz4 => k_asm); (case hz5 => k_asm); (case hz6 => first | exact rfl | assumption); (case hm1 => kcj_m);  (case hz7 => first | exact rfl | assumption); (case hz8 => ktr_room); (case hz9 => ktr_units); intro r' n' h' tk' hp' F' N'; obtain ⟨⟨_, rfl⟩, rfl⟩ := hp'; (try dsimp only); (try k_fold)))
    | (k_here; k_dflt (refine' Ctr.use (c_plain_number w y b d u1 u2 u3 _ ?hm1) ?hz1 ?hz2 ?hz3 ?hz4 ?hz5 ?hz6 ?hz7 ?hz8 ?hz9 ?_; (case hz1 => k_asm); (case hz2 => k_asm); (case hz3 => k_asm); (case hz4 => k_asm); (case hz5 => k_asm); (case hz6 => first | exact rfl | assumption); (case hm1 => kcj_m);  (case hz7 => first | exact rfl | assumption); (case hz8 => ktr_room); (case hz9 => ktr_units); intro r' n' h' tk' hp' F' N'; obtain ⟨⟨_, rfl⟩, rfl⟩ := hp'; (try dsimp only); (try k_fold))))
  (refine wpAny_call ?_; k_dflt (refine' code_def (binds := [(Str.ofString "one", Value.ref a), (Str.ofString "other", Value.ref b)]) ?k1 ?k2 ?k3 ?k4 ?k5 ?kA ?kF ?kK ?k6 ?k7 ?k8 ?k9 ?kB ?_ ?c2 ?c3 ?c4 ?c5; (case kA => exact rfl); (case kF => assumption); (case kK => assumption); (case k1 => k_asm); (case k2 => k_asm); (case k3 => k_asm); (case k4 => k_asm); (case k5 => k_asm); (case k6 => k_is); (case k7 => k_is); (case k8 => ktr_room); (case k9 => first | exact BindsTo.of_eq rfl | exact binds_K (by k_in) rfl (by k_is) rfl rfl rfl); (case c5 => decide); (case kB => exact locs rfl); (case c2 => exact rfl); (case c3 => exact rfl); (case c4 => exact rfl); k_whole; intro g' L' h' FG' F' N' B' X' T'; (try dsimp only); (try k_lift B'); (try k_fold)))
  k_steps
  all_goals exact hret _ _ _ _ ⟨⟨_, rfl⟩, rfl⟩ (by k_asm) (cb_drop (by k_asm) (by intro p hp; repeat (first | exact hp | apply List.mem_cons_of_mem)))

theorem fm_in (x m : Int) (h : 0 < m) : 0 ≤ x.fmod m ∧ x.fmod m < m := ⟨Int.fmod_nonneg_of_pos x h, Int.fmod_lt_of_pos x h⟩
set_option maxHeartbeats 8000000 in
theorem c_sip0 (w : World) (a b many : Int) (ha : 0 ≤ a) (hb : 0 ≤ b) (hb2 : b < 65393) (hm1 : 2 ≤ many) (hm2 : many ≤ 10) (keg : Addr) (t1 t2 t3 : Tok) (c : Nat) (news : Ledger) (hR : ∀ p ∈ news, p.1 ≠ keg) :
    Ctr w 1 237 [.ref keg, .int many t3] ((keg, W.listOf #[.int a t1, .int b t2] c) :: news) (fun r n' => ∃ x a' b' t u1 u2 c', r = .int x t ∧ 0 ≤ x ∧ x < many ∧ 0 ≤ a' ∧ 0 ≤ b' ∧ b' < 65393 ∧ n' = (keg, W.listOf #[.int a' u1, .int b' u2] c') :: news) := by
  intro mean mg mb dp un gd env outer A₀ base h₀ L m hp gs dr tk0 os Q E B F X N T hf hk hdp hun hret
  k_with_none
  (k_with "eval Call" => first | k_compRoot | (k_here; (with_reducible show wpAny _ _ (eval _ (compEnvC _ _ _ _)) _ _ _); k_dflt (refine Call_ ?_)) | (k_here; (with_reducible show wpAny _ _ (eval (PySem.Expr.Call (PySem.Expr.Name _ _) [PySem.Expr.Name _ _] [] _) _) _ _ _); k_dflt (refine' callN1 ?F ?X ?T ?e ?k ?x ?_ ?c ?g ?l ?df ?dx; (case F => k_asm); (case X => k_asm); (case T => k_asm); (case e => k_is); (case k => k_is); (case x => exact rfl); (case c => exact rfl); (case g => exact rfl); (case l => exact rfl); (case df => decide); (case dx => decide); k_whole)) | (k_here; (with_reducible show wpAny _ _ (eval (PySem.Expr.Call (PySem.Expr.Name _ _) [PySem.Expr.Name _ _, PySem.Expr.Name _ _] [] _) _) _ _ _); k_dflt (refine' callN2 ?F ?X ?T ?e ?k ?x ?y ?_ ?c ?g ?l ?m ?df ?dx ?dy; (case F => k_asm); (case X => k_asm); (case T => k_asm); (case e => k_is); (case k => k_is); (case x => exact rfl); (case y => exact rfl); (case c => exact rfl); (case g => exact rfl); (case l => exact rfl); (case m => exact rfl); (case df => decide); (case dx => decide); (case dy => decide); k_whole)) | (k_here; (with_reducible show wpAny _ _ (eval (PySem.Expr.Call (PySem.Expr.Name _ _) [_] [] _) _) _ _ _); k_dflt (refine' callE1 ?F ?X ?T ?e ?k ?_ ?c ?g ?df ?h1; (case F => k_asm); (case X => k_asm); (case T => k_asm); (case e => k_is); (case k => k_is); (case c => exact rfl); (case g => exact rfl); (case df => decide); (case h1 => exact rfl); k_whole)) | (k_here; (with_reducible show wpAny _ _ (eval (PySem.Expr.Call (PySem.Expr.Name _ _) [_, _] [] _) _) _ _ _); k_dflt (refine' callE2 ?F ?X ?T ?e ?k ?_ ?c ?g ?df ?h1 ?h2; (case F => k_asm); (case X => k_asm); (case T => k_asm); (case e => k_is); (case k => k_is); (case c => exact rfl); (case g => exact rfl); (case df => decide); (case h1 => exact rfl); (case h2 => exact rfl); k_whole)) | k_dflt (refine Call_ ?_))
  (refine wpAny_call ?_; k_dflt (refine' code_def (binds := [(Str.ofString "keg", Value.ref keg), (Str.ofString "many", Value.int many t3)]) ?k1 ?k2 ?k3 ?k4 ?k5 ?kA ?kF ?kK ?k6 ?k7 ?k8 ?k9 ?kB ?_ ?c2 ?c3 ?c4 ?c5; (case kA => exact rfl); (case kF => assumption); (case kK => assumption); (case k1 => k_asm); (case k2 => k_asm); (case k3 => k_asm); (case k4 => k_asm); (case k5 => k_asm); (case k6 => k_is); (case k7 => k_is); (case k8 => ktr_room); (case k9 => first | exact BindsTo.of_eq rfl | exact binds_K (by k_in) rfl (by k_is) rfl rfl rfl); (case c5 => decide); (case kB => exact locs rfl); (case c2 => exact rfl); (case c3 => exact rfl); (case c4 => exact rfl); k_whole; intro g' L' h' FG' F' N' B' X' T'; (try dsimp only); (try k_lift B'); (try k_fold)))
  k_steps
  · refine hret _ _ _ _ ⟨_, _, _, _, _, _, _, rfl, (fm_in _ many (by omega)).1, (fm_in _ many (by omega)).2, Int.fdiv_nonneg (b := many) ?_ (by omega), hb, hb2, rfl⟩ (by k_asm) (by k_asm); exact ha
  · exact hret _ _ _ _ ⟨_, _, _, _, _, _, _, rfl, (fm_in _ many (by omega)).1, (fm_in _ many (by omega)).2, ha, (fm_in _ 65393 (by decide)).1, (fm_in _ 65393 (by decide)).2, rfl⟩ (by k_asm) (by k_asm)
/-- the pair that _law_sip draws from, and what is drawn: 0 or more, below many -/
def Sip (many : Int) (g : Obj → Ledger) (r : Value) (n' : Ledger) : Prop := ∃ x a b t u1 u2 c, r = .int x t ∧ 0 ≤ x ∧ x < many ∧ 0 ≤ a ∧ 0 ≤ b ∧ b < 65393 ∧ n' = g (W.listOf #[.int a u1, .int b u2] c)
theorem c_sip (w : World) (a b many : Int) (ha : 0 ≤ a) (hb : 0 ≤ b) (hb2 : b < 65393) (hm1 : 2 ≤ many) (hm2 : many ≤ 10) (keg : Addr) (t1 t2 t3 : Tok) (c : Nat) (news : Ledger) (g : Obj → Ledger) (U : UpdF keg (W.listOf #[.int a t1, .int b t2] c) news g) :
    Ctr w 1 237 [.ref keg, .int many t3] news (Sip many g) := by
  intro mean mg mb dp un gd env outer A₀ base h₀ L m hp gs dr tk0 os Q E B F X N T hf hk hdp hun hret
  obtain ⟨pre, post, e, eg, h1, h2⟩ := U.split
  subst e
  refine c_sip0 w a b many ha hb hb2 hm1 hm2 keg t1 t2 t3 c (pre ++ post) (fun p hp => (List.mem_append.mp hp).elim (h1 p) (h2 p)) mean mg mb dp un gd env outer A₀ base h₀ L m hp gs dr tk0 os Q E B F X (fun p hp => N p ?_) T hf hk hdp hun fun r n' h' tk' hp F' N' => ?_
  · rcases List.mem_cons.mp hp with rfl | hp
    · exact List.mem_append.mpr (.inr (.head _))
    · exact (List.mem_append.mp hp).elim (fun q => List.mem_append.mpr (.inl q)) fun q => List.mem_append.mpr (.inr (.tail _ q))
  · obtain ⟨x, a', b', t, u1, u2, c', rfl, q1, q2, q3, q4, q5, rfl⟩ := hp
    refine hret _ _ _ _ ⟨x, a', b', t, u1, u2, c', rfl, q1, q2, q3, q4, q5, rfl⟩ F' (fun p hp => N' p ?_)
    rw [eg] at hp
    rcases List.mem_append.mp hp with hp | hp
    · exact .tail _ (List.mem_append.mpr (.inl hp))
    · rcases List.mem_cons.mp hp with rfl | hp
      · exact .head _
      · exact .tail _ (List.mem_append.mpr (.inr hp))

theorem menu_item {prog : Program} {w : World} {A : Around} {E : Value → Shared → Prop} {s : Shared} {value slice : PySem.Expr} {l : Addr} {vs : List Value} {k : Int} {u : Tok} {Q : Value → Shared → Prop} (P : Value → Prop)
    (hl : s.heap.IsList l vs.toArray) (h0 : 0 ≤ k) (hk : k < (vs.length : Int)) (hz : vs.length ≤ 64) (hP : ∀ v ∈ vs, P v) (h : ∀ v, P v → Q v s)
    (hs : subscripted slice false (.ref l) (.int k u) = operate [.ref l, .int k u] (getItem (.ref l) (.int k u)) := by with_unfolding_all rfl) :
    wpAny (model prog w) A (subscriptTail value slice (.ref l) (.int k u)) Q E s := by
  have hlt : k.toNat < vs.length := by omega
  exact tail_any hl.typeIs slot_list_getitem.lookup (wpAny_getItem_list hl h0 (by omega) (by simp [hlt]) (h _ (hP _ (List.getElem_mem hlt)))) hs
theorem News.tl {h₀ h : Heap} {L : Addr} {q : Addr × Obj} {l : Ledger} (N : News h₀ L h (q :: l)) : News h₀ L h l := fun p hp => N p (.tail _ hp)
def V.ok (v : V) : Prop := -(2 ^ 201) < v.num ∧ v.num < 2 ^ 201
theorem kd10 {t0 t1 t2 t3 t4 t5 t6 t7 t8 t9 : Tok} : ∀ v ∈ [Value.str (Str.ofString "Bool") t0, .str (Str.ofString "Int8") t1, .str (Str.ofString "UInt8") t2, .str (Str.ofString "Int16") t3, .str (Str.ofString "UInt16") t4, .str (Str.ofString "Int32") t5, .str (Str.ofString "UInt32") t6, .str (Str.ofString "Int64") t7, .str (Str.ofString "UInt64") t8, .str (Str.ofString "BigInt") t9], ∃ (k : Kd) (t : Tok), v = Value.str k.str t := by
  intro v hv
  simp only [List.mem_cons, List.not_mem_nil, or_false] at hv
  rcases hv with rfl | rfl | rfl | rfl | rfl | rfl | rfl | rfl | rfl | rfl
  · exact ⟨.bool, _, rfl⟩
  · exact ⟨.i8, _, rfl⟩
  · exact ⟨.u8, _, rfl⟩
  · exact ⟨.i16, _, rfl⟩
  · exact ⟨.u16, _, rfl⟩
  · exact ⟨.i32, _, rfl⟩
  · exact ⟨.u32, _, rfl⟩
  · exact ⟨.i64, _, rfl⟩
  · exact ⟨.u64, _, rfl⟩
  · exact ⟨.big, _, rfl⟩
theorem kd_edges (k : Kd) : -(2 ^ 200) ≤ loE k ∧ loE k ≤ 0 ∧ 1 ≤ hiE k ∧ hiE k ≤ 2 ^ 200 := by cases k <;> decide
theorem num7 {lo hi : Int} (h : -(2 ^ 200) ≤ lo ∧ lo ≤ 0 ∧ 1 ≤ hi ∧ hi ≤ 2 ^ 200) {t0 t1 t2 t3 t4 t5 t6 : Tok} : ∀ v ∈ [Value.int lo t0, .int hi t1, .int 0 t2, .int 1 t3, .int (if -3 > lo then -3 else lo) t4, .int (if 77 < hi then 77 else hi) t5, .int (hi.fdiv 3) t6],
    ∃ (n : Int) (t : Tok), v = Value.int n t ∧ -(2 ^ 201) < n ∧ n < 2 ^ 201 := by
  intro v hv
  simp only [List.mem_cons, List.not_mem_nil, or_false] at hv
  have h3 : 0 ≤ hi.fdiv 3 ∧ hi.fdiv 3 ≤ hi := by rw [Int.fdiv_eq_ediv_of_nonneg _ (by decide)]; omega
  rcases hv with rfl | rfl | rfl | rfl | rfl | rfl | rfl <;> refine ⟨_, _, rfl, ?_, ?_⟩
  all_goals first | omega | (split <;> omega)
theorem ok_b (b : Bool) : (V.b b).ok := by cases b <;> exact ⟨by decide, by decide⟩
set_option maxHeartbeats 8000000 in
theorem c_law_value0 (w : World) (a b : Int) (ha : 0 ≤ a) (hb : 0 ≤ b) (hb2 : b < 65393) (keg : Addr) (t1 t2 : Tok) (c : Nat) (news : Ledger) (hR : ∀ p ∈ news, p.1 ≠ keg) :
    Ctr w 5 258 [.ref keg] ((keg, W.listOf #[.int a t1, .int b t2] c) :: news) (fun r n' => ∃ v : V, v.ok ∧ ∃ D c' u1 u2 u3 a' b' s1 s2 c'', r = .ref D ∧ 0 ≤ a' ∧ 0 ≤ b' ∧ b' < 65393 ∧ n' = (D, v.obj c' u1 u2 u3) :: (keg, W.listOf #[.int a' s1, .int b' s2] c'') :: news ∧ keg < D ∧ ∀ p ∈ news, p.1 < D) := by
  intro mean mg mb dp un gd env outer A₀ base h₀ L m hp gs dr tk0 os Q E B F X N T hf hk hdp hun hret
  k_with_none
  (k_with "eval Call" => first | k_compRoot | (k_here; (with_reducible show wpAny _ _ (eval _ (compEnvC _ _ _ _)) _ _ _); k_dflt (refine Call_ ?_)) | (k_here; (with_reducible show wpAny _ _ (eval (PySem.Expr.Call (PySem.Expr.Name _ _) [PySem.Expr.Name _ _] [] _) _) _ _ _); k_dflt (refine' callN1 ?F ?X ?T ?e ?k ?x ?_ ?c ?g ?l ?df ?dx; (case F => k_asm); (case X => k_asm); (case T => k_asm); (case e => k_is); (case k => k_is); (case x => exact rfl); (case c => exact rfl); (case g => exact rfl); (case l => exact rfl); (case df => decide); (case dx => decide); k_whole)) | (k_here; (with_reducible show wpAny _ _ (eval (PySem.Expr.Call (PySem.Expr.Name _ _) [PySem.Expr.Name _ _, PySem.Expr.Name _ _] [] _) _) _ _ _); k_dflt (refine' callN2 ?F ?X ?T ?e ?k ?x ?y ?_ ?c ?g ?l ?m ?df ?dx ?dy; (case F => k_asm); (case X => k_asm); (case T => k_asm); (case e => k_is); (case k => k_is); (case x => exact rfl); (case y => exact rfl); (case c => exact rfl); (case g => exact rfl); (case l => exact rfl); (case m => exact rfl); (case df => decide); (case dx => decide); (case dy => decide); k_whole)) | (k_here; (with_reducible show wpAny _ _ (eval (PySem.Expr.Call (PySem.Expr.Name _ _) [_] [] _) _) _ _ _); k_dflt (refine' callE1 ?F ?X ?T ?e ?k ?_ ?c ?g ?df ?h1; (case F => k_asm); (case X => k_asm); (case T => k_asm); (case e => k_is); (case k => k_is); (case c => exact rfl); (case g => exact rfl); (case df => decide); (case h1 => exact rfl); k_whole)) | (k_here; (with_reducible show wpAny _ _ (eval (PySem.Expr.Call (PySem.Expr.Name _ _) [_, _] [] _) _) _ _ _); k_dflt (refine' callE2 ?F ?X ?T ?e ?k ?_ ?c ?g ?df ?h1 ?h2; (case F => k_asm); (case X => k_asm); (case T => k_asm); (case e => k_is); (case k => k_is); (case c => exact rfl); (case g => exact rfl); (case df => decide); (case h1 => exact rfl); (case h2 => exact rfl); k_whole)) | k_dflt (refine Call_ ?_))
  (k_with "newTuple" => (k_here; k_dflt (refine' kup_newTuple ?F ?N ?_ ?z; (case F => k_asm); (case N => k_asm); (case z => kmk_size)); intro D' h' F' N' lD; (try k_sweep)))
  (k_with "call ref" => first
    | (k_here; k_dflt (refine' Ctr.use (c_sip w _ _ _ ?hf1 ?hf2 ?hf3 ?hf4 ?hf5 _ _ _ _ _ _ _ ?hu1) ?hz1 ?hz2 ?hz3 ?hz4 ?hz5 ?hz6 ?hz7 ?hz8 ?hz9 ?_; (case hz1 => k_asm); (case hz2 => k_asm); (case hz3 => k_asm); (case hz4 => k_asm); (case hz5 => k_asm); (case hz6 => first | exact rfl | assumption); (case hu1 => k_updF); (case hf1 => first | assumption | omega); (case hf2 => first | assumption | omega); (case hf3 => first | assumption | omega); (case hf4 => first | assumption | omega); (case hf5 => first | assumption | omega);  (case hz7 => first | exact rfl | assumption); (case hz8 => ktr_room); (case hz9 => ktr_units); intro r' n' h' tk' hp' F' N'; obtain ⟨x9, a9, b9, t9, s1, s2, c9, rfl, q1, q2, q3, q4, q5, rfl⟩ := hp'; (try dsimp only at N'); (try dsimp only); (try k_fold)))
    | (k_here; k_dflt (refine' Ctr.use (c_edges w _ _ _) ?hz1 ?hz2 ?hz3 ?hz4 ?hz5 ?hz6 ?hz7 ?hz8 ?hz9 ?_; (case hz1 => k_asm); (case hz2 => k_asm); (case hz3 => k_asm); (case hz4 => k_asm); (case hz5 => k_asm); (case hz6 => first | exact rfl | assumption);  (case hz7 => first | exact rfl | assumption); (case hz8 => ktr_room); (case hz9 => ktr_units); intro r' n' h' tk' hp' F' N'; obtain ⟨D', u1, u2, rfl, rfl, lK⟩ := hp'; (try k_lt lK); (try dsimp only); (try k_fold))))
  (k_with "subscriptTail" => first
    | (k_here; k_dflt (refine' menu_item (fun v => ∃ (k : Kd) (t : Tok), v = Value.str k.str t) ?ml ?m0 ?mk ?mz ?mp ?_; (case ml => exact News.isList (by k_asm) (by k_mem)); (case m0 => assumption); (case mk => (simp only [List.length_cons, List.length_nil]; omega)); (case mz => (simp only [List.length_cons, List.length_nil]; omega)); (case mp => exact kd10)); intro v9 hv9; obtain ⟨k9, tk9, rfl⟩ := hv9; (rename News _ _ _ _ => cN9); replace cN9 := News.tl cN9)
    | (k_here; k_dflt (refine' menu_item (fun v => ∃ (n : Int) (t : Tok), v = Value.int n t ∧ -(2 ^ 201) < n ∧ n < 2 ^ 201) ?ml ?m0 ?mk ?mz ?mp ?_; (case ml => exact News.isList (by k_asm) (by k_mem)); (case m0 => assumption); (case mk => (simp only [List.length_cons, List.length_nil]; omega)); (case mz => (simp only [List.length_cons, List.length_nil]; omega)); (case mp => exact num7 (kd_edges _))); intro v9 hv9; obtain ⟨n9, tn9, rfl, hn1, hn2⟩ := hv9; (rename News _ _ _ _ => cN9); replace cN9 := News.tl (News.tl cN9)))
  (refine wpAny_call ?_; k_dflt (refine' code_def (binds := [(Str.ofString "keg", Value.ref keg)]) ?k1 ?k2 ?k3 ?k4 ?k5 ?kA ?kF ?kK ?k6 ?k7 ?k8 ?k9 ?kB ?_ ?c2 ?c3 ?c4 ?c5; (case kA => exact rfl); (case kF => assumption); (case kK => assumption); (case k1 => k_asm); (case k2 => k_asm); (case k3 => k_asm); (case k4 => k_asm); (case k5 => k_asm); (case k6 => k_is); (case k7 => k_is); (case k8 => ktr_room); (case k9 => first | exact BindsTo.of_eq rfl | exact binds_K (by k_in) rfl (by k_is) rfl rfl rfl); (case c5 => decide); (case kB => exact locs rfl); (case c2 => exact rfl); (case c3 => exact rfl); (case c4 => exact rfl); k_whole; intro g' L' h' FG' F' N' B' X' T'; (try dsimp only); (try k_lift B'); (try k_fold)))
  k_steps
  · exact hret _ _ _ _ ⟨.b _, ok_b _, _, _, _, 0, 0, _, _, _, _, _, rfl, q3, q4, q5, rfl, lD (keg, _) (by kcj_m), fun p hp => lD p (by repeat (first | exact hp | apply List.mem_cons_of_mem))⟩ (by k_asm) (cb_drop (by k_asm) (by kcj_in))
  · exact hret _ _ _ _ ⟨.i k9 n9, ⟨hn1, hn2⟩, _, _, _, _, _, _, _, _, _, _, rfl, q3, q4, q5, rfl, lD (keg, _) (by kcj_m), fun p hp => lD p (by repeat (first | exact hp | apply List.mem_cons_of_mem))⟩ (by k_asm) (cb_drop (by k_asm) (by kcj_in))

theorem fmod_pow (n : Int) (j : Nat) : n.fmod (2 ^ j) = n % 2 ^ j := Int.fmod_eq_emod_of_nonneg _ (Int.le_of_lt (Int.pow_pos (by decide)))
theorem fdiv_pow (n : Int) (j : Nat) : n.fdiv (2 ^ j) = n / 2 ^ j := Int.fdiv_eq_ediv_of_nonneg _ (Int.le_of_lt (Int.pow_pos (by decide)))
/-- the lowest j bits and one more -/
theorem mod_succ (n : Int) (j : Nat) : n % 2 ^ (j + 1) = n % 2 ^ j + bitZ n j * 2 ^ j ∧ 0 ≤ n % 2 ^ j ∧ n % 2 ^ j < 2 ^ j ∧ (bitZ n j = 0 ∨ bitZ n j = 1) := by
  have hp : (0 : Int) < 2 ^ j := Int.pow_pos (by decide)
  have hb : bitZ n j = n / 2 ^ j % 2 := by unfold bitZ; rw [fdiv_pow, Int.fmod_eq_emod_of_nonneg _ (by decide)]
  have h1 := Int.mul_ediv_add_emod n (2 ^ j)
  have h2 := Int.emod_nonneg n (Int.ne_of_gt hp)
  have h3 := Int.emod_lt_of_pos n hp
  have h4 := Int.mul_ediv_add_emod (n / 2 ^ j) 2
  have hbb : bitZ n j = 0 ∨ bitZ n j = 1 := by rw [hb]; omega
  refine ⟨?_, h2, h3, hbb⟩
  have e : n = n % 2 ^ j + bitZ n j * 2 ^ j + 2 ^ (j + 1) * (n / 2 ^ j / 2) := by
    rw [hb]
    generalize n / 2 ^ j = q at *
    generalize n % 2 ^ j = r at *
    rw [Int.pow_succ]
    generalize (2 : Int) ^ j = p at *
    generalize q / 2 = t at *
    generalize q % 2 = b at *
    subst h4
    rw [← h1, Int.mul_add, ← Int.mul_assoc, Int.mul_comm b p]
    omega
  have hr : 0 ≤ n % 2 ^ j + bitZ n j * 2 ^ j ∧ n % 2 ^ j + bitZ n j * 2 ^ j < 2 ^ (j + 1) := by
    rw [Int.pow_succ]
    rcases hbb with h | h <;> rw [h] <;> omega
  have e2 := congrArg (· % (2 : Int) ^ (j + 1)) e
  rw [Int.add_mul_emod_self_left, Int.emod_eq_of_lt hr.1 hr.2] at e2
  exact e2
theorem ledP_low (k : Kd) (n : Int) : ∀ j, j < k.w → ledP k n j = n % 2 ^ j
  | 0, _ => by rw [ledP, Int.pow_zero, Int.emod_one]
  | j + 1, h => by
    rw [ledP, if_neg (by omega), ledP_low k n j (by omega), (mod_succ n j).1]
/-- W: two to the width; H: its half -/
def wrapG (s : Bool) (W H n : Int) : Int := if s = true ∧ H ≤ n % W then n % W - W else n % W
theorem wrapF_eq (k : Kd) (n : Int) (h : k.fixed = true) : wrapF k n = wrapG k.signed (2 ^ k.w) (2 ^ (k.w - 1)) n := by
  have e : ((k.w : Int) - 1).toNat = k.w - 1 := by omega
  unfold wrapF wrapG
  rw [Int.toNat_natCast, e, fmod_pow]
theorem pow_half (k : Kd) (h : k.fixed = true) : (2 : Int) ^ k.w = 2 ^ (k.w - 1) * 2 ∧ (0 : Int) < 2 ^ (k.w - 1) := by
  refine ⟨?_, Int.pow_pos (by decide)⟩
  have := kd_w k h
  rw [← Int.pow_succ, Nat.succ_eq_add_one, Nat.sub_add_cancel (by omega)]
/-- the law's own row of bits and the wrapping are one -/
theorem ledP_wrap (k : Kd) (n : Int) (h : k.fixed = true) : ledP k n k.w = wrapZ k n := by
  rw [wrapZ, if_pos h, wrapF_eq k n h]
  have hw := kd_w k h
  obtain ⟨j, hj⟩ : ∃ j, k.w = j + 1 := ⟨k.w - 1, by omega⟩
  have h2 := ledP_low k n j (by omega)
  obtain ⟨m1, m2, m3, m4⟩ := mod_succ n j
  have hp := pow_half k h
  unfold wrapG
  rw [hj] at hp ⊢
  rw [show j + 1 - 1 = j by omega] at *
  rw [ledP, h2]
  generalize (2 : Int) ^ (j + 1) = W at *
  rw [m1]
  generalize (2 : Int) ^ j = H at *
  generalize n % H = r at *
  cases hs : k.signed with
  | false =>
    rw [if_neg (fun q => Bool.false_ne_true q.2), if_neg (fun q => Bool.false_ne_true q.1)]
  | true =>
    rw [if_pos ⟨hj.symm, rfl⟩]
    rcases m4 with e | e <;> rw [e]
    · rw [if_neg (by omega)]; omega
    · rw [if_pos ⟨rfl, by omega⟩]; omega
theorem wrapG_mod (s : Bool) (W H n : Int) : wrapG s W H n % W = n % W := by
  unfold wrapG
  split
  · rw [show n % W - W = n % W + W * (-1) by omega, Int.add_mul_emod_self_left, Int.emod_emod]
  · rw [Int.emod_emod]
theorem wrapG_congr {s : Bool} {W H m n : Int} (h : m % W = n % W) : wrapG s W H m = wrapG s W H n := by unfold wrapG; rw [h]
theorem wrapZ_mod (k : Kd) (n : Int) (h : k.fixed = true) : wrapZ k n % 2 ^ k.w = n % 2 ^ k.w := by
  rw [wrapZ, if_pos h, wrapF_eq k n h, wrapG_mod]
theorem wrapZ_congr (k : Kd) {m n : Int} (h : k.fixed = true) (e : m % 2 ^ k.w = n % 2 ^ k.w) : wrapZ k m = wrapZ k n := by
  rw [wrapZ, wrapZ, if_pos h, if_pos h, wrapF_eq k _ h, wrapF_eq k _ h, wrapG_congr e]
theorem wrapZ_add (k : Kd) (a b : Int) (h : k.fixed = true) : wrapZ k (wrapZ k a + wrapZ k b) = wrapZ k (a + b) :=
  wrapZ_congr k h (by rw [Int.add_emod, wrapZ_mod k a h, wrapZ_mod k b h, ← Int.add_emod])
theorem wrapZ_mul (k : Kd) (a b : Int) (h : k.fixed = true) : wrapZ k (wrapZ k a * wrapZ k b) = wrapZ k (a * b) :=
  wrapZ_congr k h (by rw [Int.mul_emod, wrapZ_mod k a h, wrapZ_mod k b h, ← Int.mul_emod])
theorem wrapZ_in (k : Kd) (n : Int) (h : k.fixed = true) : loE k ≤ wrapZ k n ∧ wrapZ k n ≤ hiE k := by
  have e : ((k.w : Int) - 1).toNat = k.w - 1 := by omega
  have hp := pow_half k h
  have m1 := Int.emod_nonneg n (show (2 : Int) ^ k.w ≠ 0 by omega)
  have m2 := Int.emod_lt_of_pos n (show (0 : Int) < 2 ^ k.w by omega)
  rw [wrapZ, if_pos h, wrapF_eq k n h]
  unfold wrapG
  cases hs : k.signed with
  | false =>
    obtain ⟨e1, e2⟩ := edges_u h (by rw [kd_isU k h, hs]; rfl)
    rw [e1, e2, Int.toNat_natCast, if_neg (fun q => Bool.false_ne_true q.1)]
    omega
  | true =>
    obtain ⟨e1, e2⟩ := edges_i h (by rw [kd_isU k h, hs]; rfl)
    rw [e1, e2, e]
    split
    · rename_i q; have := q.2; omega
    · rename_i q
      have : ¬ 2 ^ (k.w - 1) ≤ n % 2 ^ k.w := fun z => q ⟨rfl, z⟩
      omega
theorem wrapZ_lt (k : Kd) (n : Int) (h : k.fixed = true) : -(2 ^ 64) < wrapZ k n ∧ wrapZ k n < 2 ^ 64 := by
  have q := wrapZ_in k n h
  have r : -(2 ^ 64) < loE k ∧ hiE k < 2 ^ 64 := by cases k <;> first | exact absurd h Bool.false_ne_true | decide
  omega
/-- led over a kind whose width this one's divides, it is the same -/
theorem wrapZ_over (k wd : Kd) (n : Int) (h : k.fixed = true) (hd : wd.fixed = true) (hl : k.w ≤ wd.w) : wrapZ k (wrapZ wd n) = wrapZ k n := by
  have hdv : (2 : Int) ^ k.w ∣ 2 ^ wd.w := ⟨2 ^ (wd.w - k.w), by rw [← Int.pow_add, Nat.add_sub_cancel' hl]⟩
  refine wrapZ_congr k h ?_
  rw [← Int.emod_emod_of_dvd (wrapZ wd n) hdv, wrapZ_mod wd n hd, Int.emod_emod_of_dvd _ hdv]
/-- a number that has room stays -/
theorem wrapZ_room (k : Kd) (n : Int) (h : k.fixed = true) (h1 : loE k ≤ n) (h2 : n ≤ hiE k) : wrapZ k n = n := by
  have e : ((k.w : Int) - 1).toNat = k.w - 1 := by omega
  have hp := pow_half k h
  rw [wrapZ, if_pos h, wrapF_eq k n h]
  unfold wrapG
  cases hs : k.signed with
  | false =>
    obtain ⟨e1, e2⟩ := edges_u h (by rw [kd_isU k h, hs]; rfl)
    rw [e1] at h1
    rw [e2, Int.toNat_natCast] at h2
    rw [if_neg (fun q => Bool.false_ne_true q.1), Int.emod_eq_of_lt h1 (by omega)]
  | true =>
    obtain ⟨e1, e2⟩ := edges_i h (by rw [kd_isU k h, hs]; rfl)
    rw [e1, e] at h1
    rw [e2, e] at h2
    by_cases hn : 0 ≤ n
    · rw [Int.emod_eq_of_lt hn (by omega), if_neg (fun q => by have := q.2; omega)]
    · have e3 : n % 2 ^ k.w = n + 2 ^ k.w := by
        rw [← Int.add_emod_right, Int.emod_eq_of_lt (by omega) (by omega)]
      rw [e3, if_pos ⟨rfl, by omega⟩]
      omega
theorem prom_comm (a b : Kd) : prom a b = prom b a := by cases a <;> cases b <;> rfl
theorem prom_left (a b : Kd) : prom (prom a b) a = prom a b := by cases a <;> cases b <;> rfl
theorem prom_all (a b : Kd) : prom (prom .bool b) a = prom a b := by cases a <;> cases b <;> rfl
theorem shK_comm (x y : V) : shK x y = shK y x := by unfold shK; rw [prom_comm]
theorem shK_nb (x y : V) : shK x y ≠ .bool := by
  unfold shK
  split
  · exact i64_nb
  · rename_i h
    exact nb_of (Bool.eq_false_iff.mpr h)
theorem fixed_of {k : Kd} (h1 : k ≠ .bool) (h2 : k ≠ .big) : k.fixed = true := by cases k <;> first | rfl | exact absurd rfl h1 | exact absurd rfl h2

theorem kd_ok (k : Kd) : PyData.strOk k.str = true := by cases k <;> decide +kernel
theorem int_ok : PyData.strOk (Str.ofString "int") = true := by decide +kernel
theorem mul_ok {m n : Int} (h1 : -(2 ^ 201) < m ∧ m < 2 ^ 201) (h2 : -(2 ^ 201) < n ∧ n < 2 ^ 201) : IntMulOk m n :=
  IntMulOk.of_bits (Nat.le_trans (intBits_le (k := 201) (by omega)) (by decide)) (Nat.le_trans (intBits_le (k := 201) (by omega)) (by decide))
section
variable {prog : Program} {w : World} {A : Around} {E : Value → Shared → Prop} {s : Shared} {a b a1 a2 b1 b2 : Addr} {k : Kd} {m n : Int} {c d : Nat} {t1 t2 t3 u1 u2 u3 : Tok} {Q : Value → Shared → Prop}
theorem v_reads {h : Heap} (ho : h.get? a = some ((V.i k n).obj c t1 t2 t3)) : Reads h (.ref a) (.tuple [.str (Str.ofString "int"), .str k.str, .int n]) [] :=
  reads_tuple_at ho rfl rfl (readsAll_cons_val (Reads.str _ _) (readsAll_cons_val (Reads.str _ _) (readsAll_cons_val (Reads.int _ _) ReadsAll.nil)))
theorem v_eqv (k : Kd) (n : Int) : PyData.eqv (.tuple [.str (Str.ofString "int"), .str k.str, .int n]) (.tuple [.str (Str.ofString "int"), .str k.str, .int n]) = true := by
  simp only [PyData.eqv, PyData.eqvAll, beq_self_eq_true, Bool.and_true]
theorem v_shaped (k : Kd) (n : Int) : PySem.SeqAt.shaped (.tuple [.str (Str.ofString "int"), .str k.str, .int n]) = true := by simp [PySem.SeqAt.shaped, PyData.canLay0, PyData.canLayAll0, PyData.depth, PyData.depthAll, kd_ok k, int_ok]
/-- two values that say the same thing are not unequal -/
theorem ne_same (hu : A.units + 64 < cLine) (ha : s.heap.get? a = some ((V.i k n).obj c t1 t2 t3)) (hb : s.heap.get? b = some ((V.i k n).obj d u1 u2 u3)) (h : Q (.bool false) s) :
    wpAny (model prog w) A (compareOp .NotEq (.ref a) (.ref b)) Q E s :=
  ne_dataH (v_reads ha) (v_reads hb) (v_shaped k n) (v_shaped k n) hu (by rw [v_eqv]; exact h)
theorem ne_same2 {c1 c2 d1 d2 : Nat} {p1 p2 p3 q1 q2 q3 r1 r2 r3 s1 s2 s3 : Tok} (hu : A.units + 64 < cLine) (ha : s.heap.get? a = some { cls := .type "tuple", data := .seq #[.ref a1, .ref a2] c }) (hb : s.heap.get? b = some { cls := .type "tuple", data := .seq #[.ref b1, .ref b2] d })
    (h1 : s.heap.get? a1 = some ((V.i k m).obj c1 p1 p2 p3)) (h2 : s.heap.get? a2 = some ((V.i k n).obj c2 q1 q2 q3)) (h3 : s.heap.get? b1 = some ((V.i k m).obj d1 r1 r2 r3)) (h4 : s.heap.get? b2 = some ((V.i k n).obj d2 s1 s2 s3)) (h : Q (.bool false) s) :
    wpAny (model prog w) A (compareOp .NotEq (.ref a) (.ref b)) Q E s :=
  ne_dataH (reads_tuple_at ha rfl rfl (readsAll_cons_val (v_reads h1) (readsAll_cons_val (v_reads h2) ReadsAll.nil))) (reads_tuple_at hb rfl rfl (readsAll_cons_val (v_reads h3) (readsAll_cons_val (v_reads h4) ReadsAll.nil)))
    (by simp [PySem.SeqAt.shaped, PyData.canLay0, PyData.canLayAll0, PyData.depth, PyData.depthAll, kd_ok k, int_ok]) (by simp [PySem.SeqAt.shaped, PyData.canLay0, PyData.canLayAll0, PyData.depth, PyData.depthAll, kd_ok k, int_ok]) hu (by
      have e : PyData.eqv (.tuple [.tuple [.str (Str.ofString "int"), .str k.str, .int m], .tuple [.str (Str.ofString "int"), .str k.str, .int n]]) (.tuple [.tuple [.str (Str.ofString "int"), .str k.str, .int m], .tuple [.str (Str.ofString "int"), .str k.str, .int n]]) = true := by
        simp only [PyData.eqv, PyData.eqvAll, beq_self_eq_true, Bool.and_true]
      rw [e]; exact h)
end
theorem c_law_led (w : World) (k : Kd) (hk9 : k.fixed = true) (n : Int) (t t' : Tok) (news : Ledger) : Ctr w 2 265 [.str k.str t, .int n t'] news (fun r n' => (∃ t, r = .int (wrapZ k n) t) ∧ n' = news) := by
  have h := c_law_led0 w k hk9 n t t' news
  rw [ledP_wrap k n hk9] at h
  exact h
theorem c_led_both2 (w : World) (x y : V) (hx1 : -(2 ^ 500) < x.num) (hx2 : x.num < 2 ^ 500) (hy1 : -(2 ^ 500) < y.num) (hy2 : y.num < 2 ^ 500) (a b : Addr) (c d : Nat) (t1 t2 t3 u1 u2 u3 : Tok) (news : Ledger) (hm : (a, x.obj c t1 t2 t3) ∈ news) (hn : (b, y.obj d u1 u2 u3) ∈ news) :
    Ctr w 7 216 [.ref b, .ref a] news (NewLed news (shK x y) (wrapZ (shK x y) y.num) (wrapZ (shK x y) x.num)) := by
  have h := c_led_both w y x hy1 hy2 hx1 hx2 b a d c u1 u2 u3 t1 t2 t3 news hn hm
  rw [shK_comm y x] at h
  exact h
/-- of any kind but Bool: what is led stays within what stood -/
theorem wrap_small (k : Kd) (n : Int) (h1 : -(2 ^ 201) < n) (h2 : n < 2 ^ 201) : -(2 ^ 201) < wrapZ k n ∧ wrapZ k n < 2 ^ 201 := by
  cases h : k.fixed with
  | true => have := wrapZ_lt k n h; omega
  | false => rw [wrapZ, if_neg (by rw [h]; exact Bool.false_ne_true)]; exact ⟨h1, h2⟩
theorem pow_500 : (2 : Int) ^ 201 * 2 ^ 201 < 2 ^ 500 ∧ (2 : Int) ^ 201 + 2 ^ 201 < 2 ^ 500 ∧ (2 : Int) ^ 201 < 2 ^ 500 := by decide +kernel
theorem up_500 {n : Int} (h1 : -(2 ^ 201) < n) (h2 : n < 2 ^ 201) : -(2 ^ 500) < n ∧ n < 2 ^ 500 := by
  have := pow_500.2.2
  generalize (2 : Int) ^ 500 = p at *
  omega
theorem sum_500 {m n : Int} (h1 : -(2 ^ 201) < m ∧ m < 2 ^ 201) (h2 : -(2 ^ 201) < n ∧ n < 2 ^ 201) : -(2 ^ 500) < m + n ∧ m + n < 2 ^ 500 := by
  have := pow_500.2.1
  generalize (2 : Int) ^ 500 = p at *
  omega
theorem mul_500 {m n : Int} (h1 : -(2 ^ 201) < m ∧ m < 2 ^ 201) (h2 : -(2 ^ 201) < n ∧ n < 2 ^ 201) : -(2 ^ 500) < m * n ∧ m * n < 2 ^ 500 := by
  have h := pow_500.1
  have a1 : m.natAbs * n.natAbs ≤ 2 ^ 201 * 2 ^ 201 := Nat.mul_le_mul (by omega) (by omega)
  have e : (m * n).natAbs = m.natAbs * n.natAbs := Int.natAbs_mul m n
  have a2 : ((m.natAbs * n.natAbs : Nat) : Int) ≤ ((2 ^ 201 * 2 ^ 201 : Nat) : Int) := Int.ofNat_le.mpr a1
  rw [← e] at a2
  have a3 : ((2 ^ 201 * 2 ^ 201 : Nat) : Int) = 2 ^ 201 * 2 ^ 201 := by decide +kernel
  rw [a3] at a2
  generalize (2 : Int) ^ 201 * 2 ^ 201 = q at *
  generalize (2 : Int) ^ 500 = p at *
  generalize m * n = z at *
  omega
section
variable {prog : Program} {w : World} {A : Around} {E : Value → Shared → Prop} {s : Shared} {value slice : PySem.Expr} {a : Addr} {u : Tok} {Q : Value → Shared → Prop}
/-- the number of a value that stands written as one of a kind -/
theorem v_at2 {k : Kd} {n : Int} {c : Nat} {t1 t2 t3 : Tok} (ha : s.heap.get? a = some ((V.i k n).obj c t1 t2 t3)) (h : Q (.int n t3) s)
    (hs : subscripted slice false (.ref a) (.int 2 u) = operate [.ref a, .int 2 u] (getItem (.ref a) (.int 2 u)) := by with_unfolding_all rfl) :
    wpAny (model prog w) A (subscriptTail value slice (.ref a) (.int 2 u)) Q E s := by
  have ht : IsTup s.heap a #[.str (Str.ofString "int") t1, .str k.str t2, .int n t3] := ⟨_, ha, rfl, _, rfl⟩
  exact tail_any ht.typeIs slot_tuple_getitem.lookup (getItem_tuple ht (by decide) (by decide) (seqIndex_of (by decide) (by show (2 : Int) < ((3 : Nat) : Int); decide)) rfl h) hs
end
/-- what the callee's ledger does not name is kept by its ground -/
theorem back {h₀ hp g h' : Heap} {L L' : Addr} {m' : Str → Option Value} {news N2 led : Ledger} (N : News h₀ L hp news) (NN : News h₀ L hp N2) (G : GSub hp g (N2.map (·.1))) (F' : Fr g L' h' m') (N' : News h₀ L h' led) (hs : ∀ p ∈ N2, p ∈ led) : News h₀ L h' news := fun p hp9 => by
  refine ⟨?_, (N p hp9).2⟩
  by_cases hb : p.1 ∈ N2.map (·.1)
  · obtain ⟨q, hq, e⟩ := List.mem_map.mp hb
    have h1 := (NN q hq).1
    rw [e, (N p hp9).1] at h1
    have h2 := (N' q (hs q hq)).1
    rw [e, ← Option.some.inj h1] at h2
    exact h2
  · exact F'.keep _ _ (G _ _ (N p hp9).1 hb)
theorem num_i (k : Kd) (n : Int) : (V.i k n).num = n := rfl
theorem wrap_big {k : Kd} (h : (k.str == Str.ofString "BigInt") = true) (n : Int) : wrapZ k n = n := by
  rw [kd_is_big] at h
  cases k <;> first | exact if_neg Bool.false_ne_true | cases h
theorem nb_big {k : Kd} (h : (k.str == Str.ofString "BigInt") = false) : k ≠ .big := by intro e; subst e; exact absurd h.symm (by decide +kernel)
set_option maxHeartbeats 8000000 in
theorem c_two_right0 (w : World) (x y : V) (hx : x.ok) (hy : y.ok) (k : Kd) (mA mB : Int) (ek : shK x y = k) (eA : wrapZ k x.num = mA) (eB : wrapZ k y.num = mB) (a b : Addr) (c d : Nat) (t1 t2 t3 u1 u2 u3 : Tok) (news : Ledger) (hm : (a, x.obj c t1 t2 t3) ∈ news) (hn : (b, y.obj d u1 u2 u3) ∈ news) :
    Ctr w 9 286 [.ref a, .ref b] news (fun r n' => r = .bool true ∧ n' = news) := by
  have hx5 := up_500 hx.1 hx.2
  have hy5 := up_500 hy.1 hy.2
  have hwx : -(2 ^ 201) < mA ∧ mA < 2 ^ 201 := by rw [← eA]; exact wrap_small k x.num hx.1 hx.2
  have hwy : -(2 ^ 201) < mB ∧ mB < 2 ^ 201 := by rw [← eB]; exact wrap_small k y.num hy.1 hy.2
  have hws := sum_500 hwx hwy
  have hwm := mul_500 hwx hwy
  have hmAB : IntMulOk mA mB := mul_ok hwx hwy
  have hmxy : IntMulOk x.num y.num := mul_ok hx hy
  have hne1 : (k.str != k.str) = false := bne_self_eq_false _
  have hne2 : ((prom x.kd y.kd).str != (prom x.kd y.kd).str) = false := bne_self_eq_false _
  have hkb : k ≠ .bool := ek ▸ shK_nb x y
  have L1 : ∀ l, (a, x.obj c t1 t2 t3) ∈ l → (b, y.obj d u1 u2 u3) ∈ l → Ctr w 7 216 [.ref a, .ref b] l (NewLed l k mA mB) := by
    intro l q1 q2; subst ek eA eB; exact c_led_both w x y hx5.1 hx5.2 hy5.1 hy5.2 a b c d t1 t2 t3 u1 u2 u3 l q1 q2
  have L2 : ∀ l, (a, x.obj c t1 t2 t3) ∈ l → (b, y.obj d u1 u2 u3) ∈ l → Ctr w 7 216 [.ref b, .ref a] l (NewLed l k mB mA) := by
    intro l q1 q2; subst ek eA eB; exact c_led_both2 w x y hx5.1 hx5.2 hy5.1 hy5.2 a b c d t1 t2 t3 u1 u2 u3 l q1 q2
  have hadd : k.fixed = true → wrapZ k (mA + mB) = wrapZ k (x.num + y.num) := fun q => by rw [← eA, ← eB, wrapZ_add _ _ _ q]
  have hmul : k.fixed = true → wrapZ k (mA * mB) = wrapZ k (x.num * y.num) := fun q => by rw [← eA, ← eB, wrapZ_mul _ _ _ q]
  have hk1 : ((prom x.kd y.kd).str == Str.ofString "Bool") = true → k = .i64 := fun q => ek.symm.trans (shK_1 q)
  have hk2 : ((prom x.kd y.kd).str == Str.ofString "Bool") = false → k = prom x.kd y.kd := fun q => ek.symm.trans (shK_2 q)
  intro mean mg mb dp un gd env outer A₀ base h₀ L m hp gs dr tk0 os Q E B F X N T hf hk hdp hun hret
  have N2 : News h₀ L hp [(a, x.obj c t1 t2 t3), (b, y.obj d u1 u2 u3)] := List.forall_mem_cons.mpr ⟨N _ hm, List.forall_mem_cons.mpr ⟨N _ hn, List.forall_mem_nil _⟩⟩
  k_with_none
  (k_with "eval Call" => first | k_compRoot | (k_here; (with_reducible show wpAny _ _ (eval _ (compEnvC _ _ _ _)) _ _ _); k_dflt (refine Call_ ?_)) | (k_here; (with_reducible show wpAny _ _ (eval (PySem.Expr.Call (PySem.Expr.Name _ _) [PySem.Expr.Name _ _] [] _) _) _ _ _); k_dflt (refine' callN1 ?F ?X ?T ?e ?k ?x ?_ ?c ?g ?l ?df ?dx; (case F => k_asm); (case X => k_asm); (case T => k_asm); (case e => k_is); (case k => k_is); (case x => exact rfl); (case c => exact rfl); (case g => exact rfl); (case l => exact rfl); (case df => decide); (case dx => decide); k_whole)) | (k_here; (with_reducible show wpAny _ _ (eval (PySem.Expr.Call (PySem.Expr.Name _ _) [PySem.Expr.Name _ _, PySem.Expr.Name _ _] [] _) _) _ _ _); k_dflt (refine' callN2 ?F ?X ?T ?e ?k ?x ?y ?_ ?c ?g ?l ?m ?df ?dx ?dy; (case F => k_asm); (case X => k_asm); (case T => k_asm); (case e => k_is); (case k => k_is); (case x => exact rfl); (case y => exact rfl); (case c => exact rfl); (case g => exact rfl); (case l => exact rfl); (case m => exact rfl); (case df => decide); (case dx => decide); (case dy => decide); k_whole)) | (k_here; (with_reducible show wpAny _ _ (eval (PySem.Expr.Call (PySem.Expr.Name _ _) [_] [] _) _) _ _ _); k_dflt (refine' callE1 ?F ?X ?T ?e ?k ?_ ?c ?g ?df ?h1; (case F => k_asm); (case X => k_asm); (case T => k_asm); (case e => k_is); (case k => k_is); (case c => exact rfl); (case g => exact rfl); (case df => decide); (case h1 => exact rfl); k_whole)) | (k_here; (with_reducible show wpAny _ _ (eval (PySem.Expr.Call (PySem.Expr.Name _ _) [_, _] [] _) _) _ _ _); k_dflt (refine' callE2 ?F ?X ?T ?e ?k ?_ ?c ?g ?df ?h1 ?h2; (case F => k_asm); (case X => k_asm); (case T => k_asm); (case e => k_is); (case k => k_is); (case c => exact rfl); (case g => exact rfl); (case df => decide); (case h1 => exact rfl); (case h2 => exact rfl); k_whole)) | k_dflt (refine Call_ ?_))
  (k_with "newTuple" => (k_here; k_dflt (refine' kup_newTuple ?F ?N ?_ ?z; (case F => k_asm); (case N => k_asm); (case z => kmk_size)); intro D' h' F' N' lD; (try k_sweep)))
  (k_with "call ref" => first
    | (k_here; k_dflt (refine' Ctr.use (L1 _ ?hm1 ?hm2) ?hz1 ?hz2 ?hz3 ?hz4 ?hz5 ?hz6 ?hz7 ?hz8 ?hz9 ?_; (case hz1 => k_asm); (case hz2 => k_asm); (case hz3 => k_asm); (case hz4 => k_asm); (case hz5 => k_asm); (case hz6 => first | exact rfl | assumption); (case hm1 => kcj_m); (case hm2 => kcj_m);  (case hz7 => first | exact rfl | assumption); (case hz8 => ktr_room); (case hz9 => ktr_units); intro r' n' h' tk' hp' F' N'; obtain ⟨D1, c1, a1, a2, a3, D2, c2, b1, b2, b3, D, rfl, rfl, lD⟩ := hp'; clear lD; (try dsimp only); (try k_fold)))
    | (k_here; k_dflt (refine' Ctr.use (L2 _ ?hm1 ?hm2) ?hz1 ?hz2 ?hz3 ?hz4 ?hz5 ?hz6 ?hz7 ?hz8 ?hz9 ?_; (case hz1 => k_asm); (case hz2 => k_asm); (case hz3 => k_asm); (case hz4 => k_asm); (case hz5 => k_asm); (case hz6 => first | exact rfl | assumption); (case hm1 => kcj_m); (case hm2 => kcj_m);  (case hz7 => first | exact rfl | assumption); (case hz8 => ktr_room); (case hz9 => ktr_units); intro r' n' h' tk' hp' F' N'; obtain ⟨E1, e1, f1, f2, f3, E2, e2, g1, g2, g3, E0, rfl, rfl, lD⟩ := hp'; clear lD; (try dsimp only); (try k_fold)))
    | (k_here; k_dflt (refine' Ctr.use (c_number_kind w x a c t1 t2 t3 _ ?hm1) ?hz1 ?hz2 ?hz3 ?hz4 ?hz5 ?hz6 ?hz7 ?hz8 ?hz9 ?_; (case hz1 => k_asm); (case hz2 => k_asm); (case hz3 => k_asm); (case hz4 => k_asm); (case hz5 => k_asm); (case hz6 => first | exact rfl | assumption); (case hm1 => kcj_m);  (case hz7 => first | exact rfl | assumption); (case hz8 => ktr_room); (case hz9 => ktr_units); intro r' n' h' tk' hp' F' N'; obtain ⟨⟨_, rfl⟩, rfl⟩ := hp'; replace N' := cb_drop (news := [(D1, (V.i k mA).obj c1 a1 a2 a3), (D2, (V.i k mB).obj c2 b1 b2 b3), (a, x.obj c t1 t2 t3), (b, y.obj d u1 u2 u3)]) N' (by kcj_in); (try dsimp only); (try k_fold)))
    | (k_here; k_dflt (refine' Ctr.use (c_number_kind w y b d u1 u2 u3 _ ?hm1) ?hz1 ?hz2 ?hz3 ?hz4 ?hz5 ?hz6 ?hz7 ?hz8 ?hz9 ?_; (case hz1 => k_asm); (case hz2 => k_asm); (case hz3 => k_asm); (case hz4 => k_asm); (case hz5 => k_asm); (case hz6 => first | exact rfl | assumption); (case hm1 => kcj_m);  (case hz7 => first | exact rfl | assumption); (case hz8 => ktr_room); (case hz9 => ktr_units); intro r' n' h' tk' hp' F' N'; obtain ⟨⟨_, rfl⟩, rfl⟩ := hp'; (try dsimp only); (try k_fold)))
    | (k_here; k_dflt (refine' Ctr.use (c_promoted w x.kd y.kd _ _ _) ?hz1 ?hz2 ?hz3 ?hz4 ?hz5 ?hz6 ?hz7 ?hz8 ?hz9 ?_; (case hz1 => k_asm); (case hz2 => k_asm); (case hz3 => k_asm); (case hz4 => k_asm); (case hz5 => k_asm); (case hz6 => first | exact rfl | assumption);  (case hz7 => first | exact rfl | assumption); (case hz8 => ktr_room); (case hz9 => ktr_units); intro r' n' h' tk' hp' F' N'; obtain ⟨⟨_, rfl⟩, rfl⟩ := hp'; (try dsimp only); (try k_fold)))
    | (k_here; k_dflt (refine' Ctr.use (c_promoted w (prom x.kd y.kd) x.kd _ _ _) ?hz1 ?hz2 ?hz3 ?hz4 ?hz5 ?hz6 ?hz7 ?hz8 ?hz9 ?_; (case hz1 => k_asm); (case hz2 => k_asm); (case hz3 => k_asm); (case hz4 => k_asm); (case hz5 => k_asm); (case hz6 => first | exact rfl | assumption);  (case hz7 => first | exact rfl | assumption); (case hz8 => ktr_room); (case hz9 => ktr_units); intro r' n' h' tk' hp' F' N'; obtain ⟨⟨_, rfl⟩, rfl⟩ := hp'; rw [prom_left]; (try dsimp only); (try k_fold)))
    | (k_here; k_dflt (refine' Ctr.use (c_promoted_all w y.kd x.kd _ _ _ _ _) ?hz1 ?hz2 ?hz3 ?hz4 ?hz5 ?hz6 ?hz7 ?hz8 ?hz9 ?_; (case hz1 => k_asm); (case hz2 => k_asm); (case hz3 => k_asm); (case hz4 => k_asm); (case hz5 => k_asm); (case hz6 => first | exact rfl | assumption);  (case hz7 => first | exact rfl | assumption); (case hz8 => ktr_room); (case hz9 => ktr_units); intro r' n' h' tk' hp' F' N'; obtain ⟨⟨_, rfl⟩, rfl⟩ := hp'; (rw [prom_all]; replace N' := News.tl N'); (try dsimp only); (try k_fold)))
    | (k_here; k_dflt (refine' Ctr.use (c_law_plain w x a c t1 t2 t3 _ ?hm1) ?hz1 ?hz2 ?hz3 ?hz4 ?hz5 ?hz6 ?hz7 ?hz8 ?hz9 ?_; (case hz1 => k_asm); (case hz2 => k_asm); (case hz3 => k_asm); (case hz4 => k_asm); (case hz5 => k_asm); (case hz6 => first | exact rfl | assumption); (case hm1 => kcj_m);  (case hz7 => first | exact rfl | assumption); (case hz8 => ktr_room); (case hz9 => ktr_units); intro r' n' h' tk' hp' F' N'; obtain ⟨⟨_, rfl⟩, rfl⟩ := hp'; (try dsimp only); (try k_fold)))
    | (k_here; k_dflt (refine' Ctr.use (c_law_plain w y b d u1 u2 u3 _ ?hm1) ?hz1 ?hz2 ?hz3 ?hz4 ?hz5 ?hz6 ?hz7 ?hz8 ?hz9 ?_; (case hz1 => k_asm); (case hz2 => k_asm); (case hz3 => k_asm); (case hz4 => k_asm); (case hz5 => k_asm); (case hz6 => first | exact rfl | assumption); (case hm1 => kcj_m);  (case hz7 => first | exact rfl | assumption); (case hz8 => ktr_room); (case hz9 => ktr_units); intro r' n' h' tk' hp' F' N'; obtain ⟨⟨_, rfl⟩, rfl⟩ := hp'; (try dsimp only); (try k_fold)))
    | (k_here; k_dflt (refine' Ctr.use (c_law_led w k (fixed_of hkb (nb_big (by assumption))) _ _ _ _) ?hz1 ?hz2 ?hz3 ?hz4 ?hz5 ?hz6 ?hz7 ?hz8 ?hz9 ?_; (case hz1 => k_asm); (case hz2 => k_asm); (case hz3 => k_asm); (case hz4 => k_asm); (case hz5 => k_asm); (case hz6 => first | exact rfl | assumption);  (case hz7 => first | exact rfl | assumption); (case hz8 => ktr_room); (case hz9 => ktr_units); intro r' n' h' tk' hp' F' N'; obtain ⟨⟨_, rfl⟩, rfl⟩ := hp'; (try dsimp only); (try k_fold)))
    | (k_here; k_dflt (refine' Ctr.use (c_led_to w k hkb (V.i .big (mA + mB)) hws.1 hws.2 _ _ _ _ _ _ _ ?hm1) ?hz1 ?hz2 ?hz3 ?hz4 ?hz5 ?hz6 ?hz7 ?hz8 ?hz9 ?_; (case hz1 => k_asm); (case hz2 => k_asm); (case hz3 => k_asm); (case hz4 => k_asm); (case hz5 => k_asm); (case hz6 => first | exact rfl | assumption); (case hm1 => kcj_m);  (case hz7 => first | exact rfl | assumption); (case hz8 => ktr_room); (case hz9 => ktr_units); intro r' n' h' tk' hp' F' N'; obtain ⟨D8, c8, v1, v2, v3, rfl, rfl, lD8⟩ := hp'; (clear lD8; simp only [num_i] at N'; rw [hadd (fixed_of hkb (nb_big (by assumption)))] at N'); (try dsimp only); (try k_fold)))
    | (k_here; k_dflt (refine' Ctr.use (c_led_to w k hkb (V.i .big (mA * mB)) hwm.1 hwm.2 _ _ _ _ _ _ _ ?hm1) ?hz1 ?hz2 ?hz3 ?hz4 ?hz5 ?hz6 ?hz7 ?hz8 ?hz9 ?_; (case hz1 => k_asm); (case hz2 => k_asm); (case hz3 => k_asm); (case hz4 => k_asm); (case hz5 => k_asm); (case hz6 => first | exact rfl | assumption); (case hm1 => kcj_m);  (case hz7 => first | exact rfl | assumption); (case hz8 => ktr_room); (case hz9 => ktr_units); intro r' n' h' tk' hp' F' N'; obtain ⟨D8, c8, v1, v2, v3, rfl, rfl, lD8⟩ := hp'; (clear lD8; simp only [num_i] at N'; rw [hmul (fixed_of hkb (nb_big (by assumption)))] at N'); (try dsimp only); (try k_fold))))
  (k_with "eval IfExp" => ((fail_if_success (rename KPfMark => hM9)); (rename Fr _ _ _ _ => cF'); (rename News _ _ _ _ => cN'); k_dflt (refine' kcj (fun (b : Str) (t : Tok) => Value.str b t) (fun _ => k.str) cF' cN' (fun u' hMark' => ?_) ?_); (all_goals try k_fold)))
  (k_with "KCj" => ((refine kcj_end ?kce (by with_unfolding_all rfl) rfl (by assumption) (by assumption) (fun _ hp => hp)); (case kce => first | (rw [hk1 (by assumption)]; rfl) | rw [hk2 (by assumption)])))
  (k_with "binaryOp Mult int int" => first
    | with_reducible refine PyProof.Rows.mul_int ?_ hmAB
    | with_reducible refine PyProof.Rows.mul_int ?_ hmxy)
  (k_with "subscriptTail Name Constant ref int" => (k_here; (with_reducible refine' v_at2 ?ha7 ?_); k_dflt (case ha7 => exact News.get (by k_asm) (by k_mem))))
  (k_with "compareOp NotEq ref ref" => first
    | (k_here; k_dflt (refine' ne_same ?hu9 ?ha9 ?hb9 ?_; (case hu9 => ktr_units); (case ha9 => exact News.get (by k_asm) (by k_mem)); (case hb9 => exact News.get (by k_asm) (by k_mem))))
    | (k_here; k_dflt (refine' ne_same2 ?hu9 ?ha9 ?hb9 ?h19 ?h29 ?h39 ?h49 ?_; (case hu9 => ktr_units); (case ha9 => exact News.get (by k_asm) (by k_mem)); (case hb9 => exact News.get (by k_asm) (by k_mem)); (case h19 => exact News.get (by k_asm) (by k_mem)); (case h29 => exact News.get (by k_asm) (by k_mem)); (case h39 => exact News.get (by k_asm) (by k_mem)); (case h49 => exact News.get (by k_asm) (by k_mem)))))
  (refine wpAny_call ?_; k_dflt (refine' code_defG (binds := [(Str.ofString "one", Value.ref a), (Str.ofString "other", Value.ref b)]) ?k1 ?k2 ?k3 ?k4 ?k5 ?kA ?kF ?kK ?k6 ?k7 ?k8 ?k9 ?kB ?_ ?c2 ?c3 ?c4 ?c5; (case kA => exact rfl); (case kF => assumption); (case kK => assumption); (case k1 => k_asm); (case k2 => k_asm); (case k3 => k_asm); (case k4 => k_asm); (case k5 => k_asm); (case k6 => k_is); (case k7 => k_is); (case k8 => ktr_room); (case k9 => first | exact BindsTo.of_eq rfl | exact binds_K (by k_in) rfl (by k_is) rfl rfl rfl); (case c5 => decide); (case kB => exact locs rfl); (case c2 => exact rfl); (case c3 => exact rfl); (case c4 => exact rfl); k_whole; intro g' L' h' FG' F' N' B' X' T' kG'; (try dsimp only); (try k_lift B'); (try k_fold)))
  k_steps
  all_goals refine hret _ _ _ _ ⟨?_, rfl⟩ (by k_asm) (back N N2 kG' (by k_asm) (by k_asm) (by kcj_in))
  all_goals first
    | exact congrArg Value.bool (decide_eq_true (by rw [eA, eB]))
    | exact congrArg Value.bool (decide_eq_true (by rw [← eA, ← eB, wrap_big (by assumption), wrap_big (by assumption)]))
theorem c_two_right (w : World) (x y : V) (hx : x.ok) (hy : y.ok) (a b : Addr) (c d : Nat) (t1 t2 t3 u1 u2 u3 : Tok) (news : Ledger) (hm : (a, x.obj c t1 t2 t3) ∈ news) (hn : (b, y.obj d u1 u2 u3) ∈ news) :
    Ctr w 9 286 [.ref a, .ref b] news (fun r n' => r = .bool true ∧ n' = news) :=
  c_two_right0 w x y hx hy _ _ _ rfl rfl rfl a b c d t1 t2 t3 u1 u2 u3 news hm hn

theorem sgn_lt (m n : Int) : decide (sgnZ m n < 0) = decide (m < n) := by
  unfold sgnZ
  rw [decide_eq_decide]
  simp only [decide_eq_true_eq]
  split <;> split <;> omega
theorem sgn_gt (m n : Int) : decide (sgnZ m n > 0) = decide (m > n) := by
  unfold sgnZ
  rw [decide_eq_decide]
  simp only [decide_eq_true_eq]
  split <;> split <;> omega
theorem sgn_neg (m n : Int) : sgnZ n m = -sgnZ m n := by
  unfold sgnZ
  simp only [decide_eq_true_eq]
  split <;> split <;> omega
section
variable {prog : Program} {w : World} {A : Around} {E : Value → Shared → Prop} {s : Shared} {Q : Value → Shared → Prop}
theorem ne_same_bool {c d : Bool} (e : c = d) (h : Q (.bool false) s) : wpAny (model prog w) A (compareOp .NotEq (.bool c) (.bool d)) Q E s :=
  PyProof.Rows.ne_bool (by rw [e, bne_self_eq_false]; exact h)
theorem ne_same_int {m n : Int} {t u : Tok} (e : m = n) (h : Q (.bool false) s) : wpAny (model prog w) A (compareOp .NotEq (.int m t) (.int n u)) Q E s :=
  PyProof.Rows.ne_int (by rw [e, bne_self_eq_false]; exact h)
end
theorem AllObj.weaken : ∀ {ws : List (Addr × String)} {k k' : Ledger → Prop}, AllObj ws k → (∀ its, k its → k' its) → AllObj ws k'
  | [], _, _, h, f => f _ h
  | _ :: _, _, _, h, f => fun o ho => AllObj.weaken (h o ho) fun its => f _
/-- the same names but for five -/
def Off5 (x1 x2 x3 x4 x5 : Str) (m m' : Str → Option Value) : Prop := ∀ y, y ≠ x1 → y ≠ x2 → y ≠ x3 → y ≠ x4 → y ≠ x5 → m' y = m y
theorem Off5.form {x1 x2 x3 x4 x5 : Str} {m m' : Str → Option Value} (h : Off5 x1 x2 x3 x4 x5 m m') : m' = fun y => if y = x1 then m' x1 else if y = x2 then m' x2 else if y = x3 then m' x3 else if y = x4 then m' x4 else if y = x5 then m' x5 else m y := by
  funext y
  by_cases h1 : y = x1
  · rw [if_pos h1, h1]
  by_cases h2 : y = x2
  · rw [if_neg h1, if_pos h2, h2]
  by_cases h3 : y = x3
  · rw [if_neg h1, if_neg h2, if_pos h3, h3]
  by_cases h4 : y = x4
  · rw [if_neg h1, if_neg h2, if_neg h3, if_pos h4, h4]
  by_cases h5 : y = x5
  · rw [if_neg h1, if_neg h2, if_neg h3, if_neg h4, if_pos h5, h5]
  rw [if_neg h1, if_neg h2, if_neg h3, if_neg h4, if_neg h5, h y h1 h2 h3 h4 h5]
section
variable {prog : Program} {w : World} {A : Around} {E : Value → Shared → Prop} {h₀ : Heap} {env : Env} {target : PySem.Expr} {body : List Stmt} {Q : Flow → Shared → Prop} {s : Shared} {ws : List (Addr × String)} {keep : Ledger}
/-- an enumeration's turns, each walked by one turn: five names may change, the ledger stays -/
theorem enum_inv {m : Str → Option Value} {news : Ledger} (x1 x2 x3 x4 x5 : Str) (P : Nat → Value → Prop) (hk : ∀ p ∈ keep, p ∈ news)
    (turn : ∀ i x, P i x → ∀ v1 v2 v3 v4 v5 T t h tk, IsTup h T #[.int ((i : Nat) : Int) t, x] → Fr h₀ env.locals h (fun y => if y = x1 then v1 else if y = x2 then v2 else if y = x3 then v3 else if y = x4 then v4 else if y = x5 then v5 else m y) → AllObj ws (fun its => News h₀ env.locals h (its ++ news) →
      wpAny (model prog w) A (assign target env (.ref T)) (fun _ s₂ => wpAny (model prog w) A (execs body env) (UnrPostW h₀ env.locals { s with heap := h, toks := tk } its (fun m' n' => SubL keep n' ∧ Off5 x1 x2 x3 x4 x5 m m' ∧ ∀ p ∈ news, p ∈ n') Q) E s₂) E { s with heap := h, toks := tk }))
    (done : ∀ v1 v2 v3 v4 v5 h tk, Fr h₀ env.locals h (fun y => if y = x1 then v1 else if y = x2 then v2 else if y = x3 then v3 else if y = x4 then v4 else if y = x5 then v5 else m y) → News h₀ env.locals h news → Q .next { s with heap := h, toks := tk }) :
    ∀ xs : List Itm, (∀ a ∈ xs, ∃ (i : Nat) (x : Value), a = .pair (fun t => .int ((i : Nat) : Int) t) x ∧ P i x) → ∀ m' n', Off5 x1 x2 x3 x4 x5 m m' → (∀ p ∈ news, p ∈ n') → ItemsRest prog w A E h₀ env target body Q s ws keep xs m' n'
  | [], _, m', n', hm, hn => fun h tk F N => done _ _ _ _ _ h tk (hm.form ▸ F) fun p hp => N p (hn p hp)
  | a :: r, hP, m', n', hm, hn => by
    obtain ⟨i, x, rfl, hx⟩ := hP a (.head _)
    rintro v h tk ⟨T, t, rfl, hT⟩ F
    refine AllObj.weaken (turn i x hx _ _ _ _ _ T t h tk hT (hm.form ▸ F)) fun its k N => wpAny_mono (k fun p hp => ?_) (fun _ _ z => wpAny_mono z (fun f s2 y => ?_) fun _ _ e => e) fun _ _ e => e
    · exact N p ((List.mem_append.mp hp).elim (fun q => List.mem_append.mpr (.inl q)) fun q => List.mem_append.mpr (.inr (hn p q)))
    · have up : UnrEndW h₀ env.locals { s with heap := h, toks := tk } its (fun m' n' => SubL keep n' ∧ Off5 x1 x2 x3 x4 x5 m m' ∧ ∀ p ∈ news, p ∈ n') s2 → UnrEndW h₀ env.locals { s with heap := h, toks := tk } its (fun m' n' => SubL keep n' ∧ ItemsRest prog w A E h₀ env target body Q s ws keep r m' n') s2 := by
        rintro ⟨h', tk', m2, n2, e, F', N', off, k2, o2, s2⟩
        exact ⟨h', tk', m2, n2, e, F', N', off, k2, enum_inv x1 x2 x3 x4 x5 P hk turn done r (fun a ha => hP a (.tail _ ha)) m2 n2 o2 s2⟩
      cases f <;> first | exact y | exact up y
theorem list_at3 {value slice : PySem.Expr} {l : Addr} {i : Nat} {n1 n2 n3 n : Int} {s1 s2 s3 u : Tok} {Q : Value → Shared → Prop} (hl : s.heap.IsList l #[.int n1 s1, .int n2 s2, .int n3 s3]) (hi : [n1, n2, n3][i]? = some n) (h : ∀ t, Q (.int n t) s)
    (hs : subscripted slice false (.ref l) (.int (i : Int) u) = operate [.ref l, .int (i : Int) u] (getItem (.ref l) (.int (i : Int) u)) := by with_unfolding_all rfl) :
    wpAny (model prog w) A (subscriptTail value slice (.ref l) (.int (i : Int) u)) Q E s := by
  have ht : ∃ t, #[Value.int n1 s1, .int n2 s2, .int n3 s3][i]? = some (.int n t) := by
    match i, hi with
    | 0, hi => exact ⟨s1, by rw [← Option.some.inj hi]; rfl⟩
    | 1, hi => exact ⟨s2, by rw [← Option.some.inj hi]; rfl⟩
    | 2, hi => exact ⟨s3, by rw [← Option.some.inj hi]; rfl⟩
    | i + 3, hi => exact nomatch hi
  obtain ⟨t, ht⟩ := ht
  have hlt : i < 3 := by
    match i, hi with
    | 0, _ => decide
    | 1, _ => decide
    | 2, _ => decide
    | i + 3, hi => exact nomatch hi
  exact tail_any hl.typeIs slot_list_getitem.lookup (wpAny_getItem_list hl (Int.natCast_nonneg i) (by simp; omega) (by rw [Int.toNat_natCast]; exact ht) (h t)) hs
end
set_option maxHeartbeats 8000000 in
theorem c_order_right (w : World) (x y z : V) (a b c l : Addr) (i j k o : Nat) (t1 t2 t3 u1 u2 u3 v1 v2 v3 : Tok) (news : Ledger) (hx : (a, x.obj i t1 t2 t3) ∈ news) (hy : (b, y.obj j u1 u2 u3) ∈ news) (hz : (c, z.obj k v1 v2 v3) ∈ news) (hl : (l, W.listOf #[.ref a, .ref b, .ref c] o) ∈ news) :
    Ctr w 4 291 [.ref l] news (fun r n' => r = .bool true ∧ n' = news) := by
  intro mean mg mb dp un gd env outer A₀ base h₀ L m hp gs dr tk0 os Q E B F X N T hf hk hdp hun hret
  have N2 : News h₀ L hp [(a, x.obj i t1 t2 t3), (b, y.obj j u1 u2 u3), (c, z.obj k v1 v2 v3), (l, W.listOf #[.ref a, .ref b, .ref c] o)] := List.forall_mem_cons.mpr ⟨N _ hx, List.forall_mem_cons.mpr ⟨N _ hy, List.forall_mem_cons.mpr ⟨N _ hz, List.forall_mem_cons.mpr ⟨N _ hl, List.forall_mem_nil _⟩⟩⟩⟩
  k_with_none
  (k_with "eval Call" => first | k_compRoot | (k_here; (with_reducible show wpAny _ _ (eval _ (compEnvC _ _ _ _)) _ _ _); k_dflt (refine Call_ ?_)) | (k_here; (with_reducible show wpAny _ _ (eval (PySem.Expr.Call (PySem.Expr.Name _ _) [PySem.Expr.Name _ _] [] _) _) _ _ _); k_dflt (refine' callN1 ?F ?X ?T ?e ?k ?x ?_ ?c ?g ?l ?df ?dx; (case F => k_asm); (case X => k_asm); (case T => k_asm); (case e => k_is); (case k => k_is); (case x => exact rfl); (case c => exact rfl); (case g => exact rfl); (case l => exact rfl); (case df => decide); (case dx => decide); k_whole)) | (k_here; (with_reducible show wpAny _ _ (eval (PySem.Expr.Call (PySem.Expr.Name _ _) [PySem.Expr.Name _ _, PySem.Expr.Name _ _] [] _) _) _ _ _); k_dflt (refine' callN2 ?F ?X ?T ?e ?k ?x ?y ?_ ?c ?g ?l ?m ?df ?dx ?dy; (case F => k_asm); (case X => k_asm); (case T => k_asm); (case e => k_is); (case k => k_is); (case x => exact rfl); (case y => exact rfl); (case c => exact rfl); (case g => exact rfl); (case l => exact rfl); (case m => exact rfl); (case df => decide); (case dx => decide); (case dy => decide); k_whole)) | (k_here; (with_reducible show wpAny _ _ (eval (PySem.Expr.Call (PySem.Expr.Name _ _) [_] [] _) _) _ _ _); k_dflt (refine' callE1 ?F ?X ?T ?e ?k ?_ ?c ?g ?df ?h1; (case F => k_asm); (case X => k_asm); (case T => k_asm); (case e => k_is); (case k => k_is); (case c => exact rfl); (case g => exact rfl); (case df => decide); (case h1 => exact rfl); k_whole)) | (k_here; (with_reducible show wpAny _ _ (eval (PySem.Expr.Call (PySem.Expr.Name _ _) [_, _] [] _) _) _ _ _); k_dflt (refine' callE2 ?F ?X ?T ?e ?k ?_ ?c ?g ?df ?h1 ?h2; (case F => k_asm); (case X => k_asm); (case T => k_asm); (case e => k_is); (case k => k_is); (case c => exact rfl); (case g => exact rfl); (case df => decide); (case h1 => exact rfl); (case h2 => exact rfl); k_whole)) | k_dflt (refine Call_ ?_))
  (k_with "newTuple" => (k_here; k_dflt (refine' kup_newTuple ?F ?N ?_ ?z; (case F => k_asm); (case N => k_asm); (case z => kmk_size)); intro D' h' F' N' lD; (try k_sweep)))
  (k_with "call ref" => first
    | (k_here; (with_reducible show wpAny _ _ (call (Value.ref 223) [_, _]) _ _ _); k_dflt (refine' Ctr.use (c_order_of w _ _ _ _ _ _ _ _ _ _ _ _ _ ?hm1 ?hm2) ?hz1 ?hz2 ?hz3 ?hz4 ?hz5 ?hz6 ?hz7 ?hz8 ?hz9 ?_; (case hz1 => k_asm); (case hz2 => k_asm); (case hz3 => k_asm); (case hz4 => k_asm); (case hz5 => k_asm); (case hz6 => first | exact rfl | assumption); (case hm1 => kcj_m); (case hm2 => kcj_m);  (case hz7 => first | exact rfl | assumption); (case hz8 => ktr_room); (case hz9 => ktr_units); intro r' n' h' tk' hp' F' N'; obtain ⟨⟨_, rfl⟩, rfl⟩ := hp'; (try dsimp only); (try k_fold)))
    | (k_here; (with_reducible show wpAny _ _ (call (Value.ref 272) [_]) _ _ _); k_dflt (refine' Ctr.use (c_law_plain w _ _ _ _ _ _ _ ?hm1) ?hz1 ?hz2 ?hz3 ?hz4 ?hz5 ?hz6 ?hz7 ?hz8 ?hz9 ?_; (case hz1 => k_asm); (case hz2 => k_asm); (case hz3 => k_asm); (case hz4 => k_asm); (case hz5 => k_asm); (case hz6 => first | exact rfl | assumption); (case hm1 => kcj_m);  (case hz7 => first | exact rfl | assumption); (case hz8 => ktr_room); (case hz9 => ktr_units); intro r' n' h' tk' hp' F' N'; obtain ⟨⟨_, rfl⟩, rfl⟩ := hp'; (try dsimp only); (try k_fold)))
    | (k_here; (with_reducible show wpAny _ _ (call (Value.ref 188) [_]) _ _ _); k_dflt (refine' Ctr.use (c_plain_number w _ _ _ _ _ _ _ ?hm1) ?hz1 ?hz2 ?hz3 ?hz4 ?hz5 ?hz6 ?hz7 ?hz8 ?hz9 ?_; (case hz1 => k_asm); (case hz2 => k_asm); (case hz3 => k_asm); (case hz4 => k_asm); (case hz5 => k_asm); (case hz6 => first | exact rfl | assumption); (case hm1 => kcj_m);  (case hz7 => first | exact rfl | assumption); (case hz8 => ktr_room); (case hz9 => ktr_units); intro r' n' h' tk' hp' F' N'; obtain ⟨⟨_, rfl⟩, rfl⟩ := hp'; (try dsimp only); (try k_fold))))
  (k_with "CompEnd" => (refine LCg.CompEnd.intro (by assumption) (by assumption) _ (fun p hp => hp) (by (simp only [LCg.Off3, and_true]; assumption)) (by lcg_src) ?_))
  (k_with "compareOp NotEq bool bool" => first | with_reducible refine ne_same_bool (sgn_lt _ _) ?_ | with_reducible refine ne_same_bool (sgn_gt _ _) ?_)
  (k_with "compareOp NotEq int int" => with_reducible refine ne_same_int (sgn_neg _ _) ?_)
  (k_with "subscriptTail Name Name ref int" => (k_here; k_dflt (refine' list_at3 ?ml ?mi ?_; (case ml => exact News.isList (by k_asm) (by k_mem)); (case mi => assumption)); intro tn))
  (k_with "ItemsRest" => (k_here; k_dflt (first
    | ((have q9 := hg9; clear q9); refine' enum_inv (Str.ofString "spot") (Str.ofString "other") (Str.ofString "sign") (Str.ofString "sign") (Str.ofString "sign") (fun (i9 : Nat) (w9 : Value) => ∃ (v9 : V) (d9 : Addr) (c9 : Nat) (s1 s2 s3 : Tok), w9 = Value.ref d9 ∧ (d9, v9.obj c9 s1 s2 s3) ∈ [(a, x.obj i t1 t2 t3), (b, y.obj j u1 u2 u3), (c, z.obj k v1 v2 v3), (l, W.listOf #[.ref a, .ref b, .ref c] o)] ∧ [x.num, y.num, z.num][i9]? = some v9.num) ?hk8 (fun i9 w9 hP9 e1 e2 e3 e4 e5 T9 t9 h9 tk9 hT9 F9 => ?turn8) (fun e1 e2 e3 e4 e5 h9 tk9 F9 N9 => ?done8) _ ?hx8 _ _ ?ho8 ?hn8; (case hn8 => exact fun _ hp => hp); (case ho8 => exact fun _ _ _ _ _ _ => rfl); (case hk8 => kcj_in); (case hx8 => refine List.forall_mem_cons.mpr ⟨⟨0, _, rfl, x, a, i, _, _, _, rfl, by kcj_m, rfl⟩, List.forall_mem_cons.mpr ⟨⟨1, _, rfl, y, b, j, _, _, _, rfl, by kcj_m, rfl⟩, List.forall_mem_cons.mpr ⟨⟨2, _, rfl, z, c, k, _, _, _, rfl, by kcj_m, rfl⟩, List.forall_mem_nil _⟩⟩⟩); (case' turn8 => (obtain ⟨V8, d8, c8, s1, s2, s3, rfl, hm8, hg8⟩ := hP9; refine AllObj.cons (fun p1 hc1 => AllObj.cons (fun p2 hc2 => AllObj.nil (fun N9 => ?_))); (try dsimp only at hc1 hc2); (try simp only [List.cons_append, List.nil_append] at N9); (try dsimp only); (try k_fold))); (case' done8 => ((try dsimp only); (try k_fold))))
    | (refine' enum_inv (Str.ofString "at") (Str.ofString "one") (Str.ofString "spot") (Str.ofString "other") (Str.ofString "sign") (fun (i9 : Nat) (w9 : Value) => ∃ (v9 : V) (d9 : Addr) (c9 : Nat) (s1 s2 s3 : Tok), w9 = Value.ref d9 ∧ (d9, v9.obj c9 s1 s2 s3) ∈ [(a, x.obj i t1 t2 t3), (b, y.obj j u1 u2 u3), (c, z.obj k v1 v2 v3), (l, W.listOf #[.ref a, .ref b, .ref c] o)] ∧ [x.num, y.num, z.num][i9]? = some v9.num) ?hk9 (fun i9 w9 hP9 e1 e2 e3 e4 e5 T9 t9 h9 tk9 hT9 F9 => ?turn) (fun e1 e2 e3 e4 e5 h9 tk9 F9 N9 => ?done) _ ?hx9 _ _ ?ho9 ?hn9; (case hn9 => exact fun _ hp => hp); (case ho9 => exact fun _ _ _ _ _ _ => rfl); (case hk9 => kcj_in); (case hx9 => refine List.forall_mem_cons.mpr ⟨⟨0, _, rfl, x, a, i, _, _, _, rfl, by kcj_m, rfl⟩, List.forall_mem_cons.mpr ⟨⟨1, _, rfl, y, b, j, _, _, _, rfl, by kcj_m, rfl⟩, List.forall_mem_cons.mpr ⟨⟨2, _, rfl, z, c, k, _, _, _, rfl, by kcj_m, rfl⟩, List.forall_mem_nil _⟩⟩⟩); (case' turn => (obtain ⟨V9, d9, c9, s1, s2, s3, rfl, hm9, hg9⟩ := hP9; refine AllObj.cons (fun p1 hc1 => AllObj.cons (fun p2 hc2 => AllObj.nil (fun N9 => ?_))); (try dsimp only at hc1 hc2); (try simp only [List.cons_append, List.nil_append] at N9); (try dsimp only); (try k_fold))); (case' done => ((try dsimp only); (try k_fold)))))))
  (k_with "UnrEndW" => (k_dflt (ktu_end; exact ⟨fun y h1 h2 h3 h4 h5 => by simp only [if_neg h1, if_neg h2, if_neg h3, if_neg h4, if_neg h5], by kcj_in⟩)))
  (refine wpAny_call ?_; k_dflt (refine' code_defG (binds := [(Str.ofString "some", Value.ref l)]) ?k1 ?k2 ?k3 ?k4 ?k5 ?kA ?kF ?kK ?k6 ?k7 ?k8 ?k9 ?kB ?_ ?c2 ?c3 ?c4 ?c5; (case kA => exact rfl); (case kF => assumption); (case kK => assumption); (case k1 => k_asm); (case k2 => k_asm); (case k3 => k_asm); (case k4 => k_asm); (case k5 => k_asm); (case k6 => k_is); (case k7 => k_is); (case k8 => ktr_room); (case k9 => first | exact BindsTo.of_eq rfl | exact binds_K (by k_in) rfl (by k_is) rfl rfl rfl); (case c5 => decide); (case kB => exact locs rfl); (case c2 => exact rfl); (case c3 => exact rfl); (case c4 => exact rfl); k_whole; intro g' L' h' FG' F' N' B' X' T' kG'; (try dsimp only); (try k_lift B'); (try k_fold)))
  k_steps
  all_goals exact hret _ _ _ _ ⟨rfl, rfl⟩ (by k_asm) (back N N2 kG' (by k_asm) (by k_asm) (by kcj_in))

/-- an exception of ours: its args, its dict -/
def excO (t : Addr) (dx : Option Addr) : Obj := { cls := .ref 52, dict := dx, data := .fields #[.ref t, .none, .none, .none, .bool false, .none] }
theorem meta_exc : typeOf (.type "Exception") = pure (.type "type") := by kernel_rfl
section
variable {w : World} {A : Around} {E : Value → Shared → Prop} {s : Shared} {P : Params} {h : Heap} {e t : Addr} {dx : Option Addr}
abbrev mdl (w : World) : Model := model PySem.Challenge.pw_pc0192_01 w
theorem exc_isExc (X : (frg.heap_1 P).In h) : Looks (mdl w) h (isSubtype (.ref 52) (.type "Exception")) true := looks_mroIn X (by kernel_rfl)
theorem exc_isBase (X : (frg.heap_1 P).In h) : Looks (mdl w) h (isSubtype (.ref 52) (.type "BaseException")) true := looks_mroIn X (by kernel_rfl)
/-- the class Thrown as the top leaves it -/
def cls52 : Obj := { cls := .type "type", data := .cls { name := Str.ofString "Thrown", bases := [.ref 32], mro := [.ref 52, .ref 32, .type "Exception", .type "BaseException", .type "object"], ns := 51, qualname := Str.ofString "Thrown" }, slots := #[some (.ref 36), none, some (.str (Str.ofString "Thrown") 220), some (.str (Str.ofString "Thrown") 228), some (.builtin "Exception.__new__"), some (.bool true)] }
theorem at52 (X : (frg.heap_1 P).In h) : h.get? 52 = some cls52 := X _ _ (by kernel_rfl)
theorem exc_typeOf (he : h.get? e = some (excO t dx)) : Looks (mdl w) h (typeOf (.ref e)) (.ref 52) := (Looks.ld he).andThen .now
theorem exc_check_init {v : Value} {Q : Unit → Shared → Prop} (X : (frg.heap_1 P).In s.heap) (he : s.heap.get? e = some (excO t dx)) (hq : Q () s) :
    wpAny (mdl w) A (checkBuiltinCall "Exception.__init__" ⟨[.ref e, v], []⟩) Q E s := by
  have F := PySem.F.excBase_Exception
  have t1 := exc_typeOf (w := w) he
  have i1 := exc_isExc (w := w) X
  have hshort := F.noStar
  have hC := at52 X
  obtain ⟨hp, g, d, tk, os⟩ := s
  simp only [checkBuiltinCall, F.initKind, F.initSplit, F.initRow]
  unfold isInstance
  repeat lk
  exact hq
theorem exc_init {h₀ : Heap} {L : Addr} {m : Str → Option Value} {led : Ledger} {v : Value} {Q : Value → Shared → Prop} (X : (frg.heap_1 P).In h₀) (F : Fr h₀ L s.heap m) (N : News h₀ L s.heap ((e, excO t dx) :: led)) (hR : ∀ p ∈ led, p.1 ≠ e)
    (h : ∀ t1 h', Fr h₀ L h' m → News h₀ L h' ((t1, ({ cls := .type "tuple", data := .seq #[v] } : Obj)) :: (e, excO t1 dx) :: led) → (∀ p ∈ (e, excO t dx) :: led, p.1 < t1) → Q .none { s with heap := h' }) :
    wpAny (mdl w) A (call (.builtin "Exception.__init__") [.ref e, v]) Q E s := by
  have B := PySem.F.excBase_Exception
  have he := (N _ (.head _)).1
  refine wpAny_call (codeAny_call_builtin B.init.plain B.initEntry (exc_check_init (X.keeps F.keep) he ?_))
  have N1 := N.push F ({ cls := .type "tuple", data := .seq #[v] } : Obj)
  have F1 := F.push ({ cls := .type "tuple", data := .seq #[v] } : Obj)
  have he1 := Heap.get?_push_of_some ({ cls := .type "tuple", data := .seq #[v] } : Obj) he
  have hs : Heap.SameBut e (s.heap.push ({ cls := .type "tuple", data := .seq #[v] } : Obj)) ((s.heap.push ({ cls := .type "tuple", data := .seq #[v] } : Obj)).update e (Obj.mapFields (·.setIfInBounds 0 (.ref s.heap.objs.size)))) := Heap.SameBut.update ..
  have ho : ((s.heap.push ({ cls := .type "tuple", data := .seq #[v] } : Obj)).update e (Obj.mapFields (·.setIfInBounds 0 (.ref s.heap.objs.size)))).get? e = some (excO s.heap.objs.size dx) := by
    rw [Heap.get?_update_self _ he1 rfl]
    rfl
  have lt : ∀ p ∈ (e, excO t dx) :: led, p.1 < s.heap.objs.size := fun p hp => Heap.lt_size (N p hp).1
  have hne : s.heap.objs.size ≠ e := Nat.ne_of_gt (lt _ (.head _))
  have F2 := Fr.update F1 N1 (.tail _ (.head _)) hs
  have N2 := News.setSecond N1 hne hR hs ho
  have z := h s.heap.objs.size _ F2 N2 lt
  unfold Builtin.«BaseException.__init__»
  dsimp only
  rw [if_neg (by simp)]
  unfold newTuple Builtin.BaseException.bexcPut
  refine wpAny_bind (wpAny_newObj_type (wpAny_bind (wpAny_bind (wpAny_field he1 rfl rfl (wpAny_bind (wpAny_setField he1 rfl (by show 0 < 6; decide) ?_))))) (by size_fits))
  exact wpAny_letGo (wpAny_pure z)
/-- what the class is -/
def cd52 : ClassData := { name := Str.ofString "Thrown", bases := [.ref 32], mro := [.ref 52, .ref 32, .type "Exception", .type "BaseException", .type "object"], ns := 51, qualname := Str.ofString "Thrown" }
theorem in52 (P : Params) : clsIn (frg.heap_1 P) 52 = some cd52 := by kernel_rfl
theorem osa52 {R : Result → Shared → Prop} {ox : Obj} {od : Option Obj} {name : Str} {tk : Tok} {v : Value} (X : (frg.heap_1 P).In s.heap) (I : InstAt s.heap e ox 52 od) (ht : findIn (frg.heap_1 P) (.ref 52) name = some none)
    (h : ∀ b, wpAny (mdl w) A.in1 (Builtin.ObjectAttr.storeInOwnDict (.ref e) (.ref 52) (.str name tk) name v b)
      (fun fin s' => match fin with | .done f => R (.ok f) s' | .again c' => c'.quiet = true ∧ codeAny (mdl w) A c' R s') (fun e s' => R (.error e) s') s) :
    codeAny (mdl w) A (.call (.builtin "object.__setattr__") ⟨[.ref e, .str name tk, v], []⟩) R s := by
  have SF := PySem.F.store_object
  have SE := PySem.F.store_Exception
  have sub : Looks (mdl w) s.heap (isInstance (.ref e) (.type "object")) true := I.type.andThen (looks_mroIn X (by kernel_rfl))
  refine codeAny_call_builtin SF.slot.plain SF.entry (@check_slot (mdl w) _ _ s "object.__setattr__" "object" "__setattr__" (.ref e) [.str name tk, v] [] _ SF.kind SF.split sub (SF.args (.ref e) (.str name tk) v) ?_)
  have hm : Looks (mdl w) s.heap (mroOf (.ref 52)) cd52.mro := (looks_clsIn X (in52 P)).andThen .now
  rw [osa_eq, refuse_eq]
  refine wpAny_bind (wpAny_bind (I.type.here (wpAny_bind (hm.here ?_))))
  rw [show cd52.mro = [.ref 52, .ref 32, .type "Exception", .type "BaseException", .type "object"] from rfl, refuseLoop_ref, refuseLoop_ref, SE.passes]
  exact wpAny_pure (wpAny_bind (I.type.here (wpAny_bind ((looks_findIn X ht).here (wpAny_bind (wpAny_pure (h _)))))))
section
variable {h₀ : Heap} {L : Addr} {m : Str → Option Value} {led : Ledger} {name : Str} {v : Value} {Q : Unit → Shared → Prop} {ot od od' : Obj} {dd : Addr} {es : List DictEntry} {n : Nat}
theorem set52 (X : (frg.heap_1 P).In h₀) (F : Fr h₀ L s.heap m) {ox : Obj} {od : Option Obj} (I : InstAt s.heap e ox 52 od) (ht : findIn (frg.heap_1 P) (.ref 52) name = some none)
    (h : ∀ b, wpAny (mdl w) A.in1 (Builtin.ObjectAttr.storeInOwnDict (.ref e) (.ref 52) (.str name s.toks) name v b)
      (fun fin s' => match fin with | .done (.ret _) => Q () s' | _ => False) (fun e s' => E e s') { s with toks := s.toks + 1 }) :
    wpAny (mdl w) A (setAttr (.ref e) name v) Q E s := by
  have X' := X.keeps F.keep
  refine set_plain X' I (by kernel_rfl) (osa52 (s := { s with toks := s.toks + 1 }) X' I ht fun b => wpAny_mono (h b) (fun fin s' z => ?_) fun _ _ z => z)
  rcases fin with (v | _ | _ | _) | c <;> first | exact z | exact z.elim
/-- a name is stored into the dict that stands -/
theorem exc_set (X : (frg.heap_1 P).In h₀) (F : Fr h₀ L s.heap m) (N : News h₀ L s.heap ((dd, od) :: led)) (hm : (e, excO t (some dd)) ∈ led) (hR : ∀ p ∈ led, p.1 ≠ dd) (ht : findIn (frg.heap_1 P) (.ref 52) name = some none)
    {es₀ : Array DictEntry} {n₀ : Nat} (hd : od.data = .dict es₀ n₀) (hk : aRefKeyMayBeTheName name es₀ = false) (e1 : Obj.putName name (PyData.keyHash w.params name) (.str name (s.toks + 1)) v od = od') (e2 : od'.data = .dict es.toArray n) (hz : es.length ≤ 1000)
    (h : ∀ h' tk', Fr h₀ L h' m → News h₀ L h' ((dd, od') :: led) → Q () { s with heap := h', toks := tk' }) :
    wpAny (mdl w) A (setAttr (.ref e) name v) Q E s := by
  have D := (N _ (.head _)).1
  have O := (N _ (.tail _ hm)).1
  have I : InstAt s.heap e (excO t (some dd)) 52 (some od) := ⟨O, rfl, rfl, D⟩
  obtain ⟨U1, U2⟩ := news_upd (pre := []) (f := Obj.putName name (PyData.keyHash w.params name) (.str name (s.toks + 1)) v) F N (fun p hp => (nomatch hp)) hR e1 (by obtain ⟨_, _, dd, _⟩ := od'; cases e2; rfl)
  have D' := (U2 (dd, od') (by simp)).1
  obtain ⟨hp, g, d, tk, os⟩ := s
  refine set52 X F I ht fun b => ?_
  refine wpAny_bind (wpAny_pure (wpAny_bind (wpAny_bind (wpAny_loadPart O (wpAny_bind ((looks_clsIn (X.keeps F.keep) (in52 P)).at ?_))))))
  refine wpAny_pure (a := some dd) (wpAny_bind (wpAny_pure (wpAny_bind ?_)))
  unfold nsSet
  refine wpAny_bind (wpAny_bind (wpAny_askSetting (wpAny_pure (wpAny_bind (wpAny_mkText (wpAny_bind (wpAny_loadPart D ?_)))))))
  rw [hd]
  dsimp only
  rw [hk]
  refine wpAny_updatePart D (wpAny_bind (wpAny_lookBehind D' (by rw [e2]; exact pastItsLine_dict (by rw [List.size_toArray, sizeLine_eq]; omega)) ?_))
  exact wpAny_pure (h _ _ U1 U2)
/-- the first name: the dict is made -/
theorem exc_set0 (X : (frg.heap_1 P).In h₀) (F : Fr h₀ L s.heap m) (N : News h₀ L s.heap ((t, ot) :: (e, excO t none) :: led)) (hte : t ≠ e) (hR : ∀ p ∈ led, p.1 ≠ e) (ht : findIn (frg.heap_1 P) (.ref 52) name = some none)
    (e1 : Obj.putName name (PyData.keyHash w.params name) (.str name (s.toks + 1)) v emptyDict = od') (e2 : od'.data = .dict es.toArray n) (hz : es.length ≤ 1000)
    (h : ∀ dd h' tk', (∀ p ∈ (t, ot) :: (e, excO t none) :: led, p.1 < dd) → Fr h₀ L h' m → News h₀ L h' ((dd, od') :: (t, ot) :: (e, excO t (some dd)) :: led) → Q () { s with heap := h', toks := tk' }) :
    wpAny (mdl w) A (setAttr (.ref e) name v) Q E s := by
  have O := (N _ (.tail _ (.head _))).1
  have I : InstAt s.heap e (excO t none) 52 none := ⟨O, rfl, rfl, trivial⟩
  have lt : ∀ p ∈ (t, ot) :: (e, excO t none) :: led, p.1 < s.heap.objs.size := fun p hp => Heap.lt_size (N p hp).1
  have F1 := F.push emptyDict
  have N1 := N.push F emptyDict
  have ne : ∀ p ∈ (t, ot) :: (e, excO t none) :: led, p.1 ≠ s.heap.objs.size := fun p hp => Nat.ne_of_lt (lt p hp)
  obtain ⟨F2, N2⟩ := news_upd (pre := [(s.heap.objs.size, emptyDict), (t, ot)]) (o' := excO t (some s.heap.objs.size)) (f := fun o => { o with dict := some s.heap.objs.size }) F1 N1 (fun p hp => by
    rcases List.mem_cons.mp hp with rfl | hp
    · exact (ne _ (.tail _ (.head _))).symm
    · rcases List.mem_cons.mp hp with rfl | hp
      · exact hte
      · cases hp) hR rfl rfl
  have D := (N2 _ (.head _)).1
  obtain ⟨F3, N3⟩ := news_upd (pre := []) (f := Obj.putName name (PyData.keyHash w.params name) (.str name (s.toks + 1)) v) F2 N2 (fun p hp => (nomatch hp)) (fun p hp => by
    rcases List.mem_cons.mp hp with rfl | hp
    · exact ne _ (.head _)
    · rcases List.mem_cons.mp hp with rfl | hp
      · exact ne (e, excO t none) (.tail _ (.head _))
      · exact ne _ (.tail _ (.tail _ hp))) e1 (by obtain ⟨_, _, dd, _⟩ := od'; cases e2; rfl)
  have D' := (N3 (s.heap.objs.size, od') (by simp)).1
  obtain ⟨hp, g, d, tk, os⟩ := s
  refine set52 X F I ht fun b => ?_
  refine wpAny_bind (wpAny_pure (wpAny_bind (wpAny_bind (wpAny_loadPart O (wpAny_bind ((looks_clsIn (X.keeps F.keep) (in52 P)).at ?_))))))
  refine wpAny_bind (wpAny_alloc (wpAny_bind (wpAny_update (Heap.get?_push_of_some _ O) ?_)))
  refine wpAny_pure (a := some hp.objs.size) (wpAny_bind (wpAny_pure (wpAny_bind ?_)))
  unfold nsSet
  refine wpAny_bind (wpAny_bind (wpAny_askSetting (wpAny_pure (wpAny_bind (wpAny_mkText (wpAny_bind (wpAny_loadPart D ?_)))))))
  dsimp only
  rw [show aRefKeyMayBeTheName name #[] = false from rfl]
  refine wpAny_updatePart D (wpAny_bind (wpAny_lookBehind D' (by rw [e2]; exact pastItsLine_dict (by rw [List.size_toArray, sizeLine_eq]; omega)) ?_))
  exact wpAny_pure (h _ _ _ lt F3 N3)
theorem below_ne {t e dd : Addr} {o1 o2 o3 o4 : Obj} {led : Ledger} (lD : ∀ p ∈ (t, o1) :: (e, o2) :: led, p.1 < dd) : ∀ p ∈ (t, o3) :: (e, o4) :: led, p.1 ≠ dd := fun p hp => by
  rcases List.mem_cons.mp hp with rfl | hp
  · exact Nat.ne_of_lt (lD (t, o1) (.head _))
  · rcases List.mem_cons.mp hp with rfl | hp
    · exact Nat.ne_of_lt (lD (e, o2) (.tail _ (.head _)))
    · exact Nat.ne_of_lt (lD p (.tail _ (.tail _ hp)))
/-- the exception's dict: one name, two, three -/
def dx1 (P : Params) (a : Tok) (x : Value) : Obj := { cls := .type "dict", data := .dict [⟨PyData.keyHash P (Str.ofString "message"), .str (Str.ofString "message") a, x⟩].toArray 1 }
def dx2 (P : Params) (a b : Tok) (x y : Value) : Obj := { cls := .type "dict", data := .dict [⟨PyData.keyHash P (Str.ofString "message"), .str (Str.ofString "message") a, x⟩, ⟨PyData.keyHash P (Str.ofString "spot"), .str (Str.ofString "spot") b, y⟩].toArray 2 }
def dx3 (P : Params) (a b c : Tok) (x y z : Value) : Obj := { cls := .type "dict", data := .dict [⟨PyData.keyHash P (Str.ofString "message"), .str (Str.ofString "message") a, x⟩, ⟨PyData.keyHash P (Str.ofString "spot"), .str (Str.ofString "spot") b, y⟩, ⟨PyData.keyHash P (Str.ofString "value"), .str (Str.ofString "value") c, z⟩].toArray 3 }
theorem set_message (X : (frg.heap_1 w.params).In h₀) (F : Fr h₀ L s.heap m) (N : News h₀ L s.heap ((t, ot) :: (e, excO t none) :: led)) (hte : t ≠ e) (hR : ∀ p ∈ led, p.1 ≠ e)
    (h : ∀ dd h' tk' a, (∀ p ∈ (t, ot) :: (e, excO t none) :: led, p.1 < dd) → Fr h₀ L h' m → News h₀ L h' ((dd, dx1 w.params a v) :: (t, ot) :: (e, excO t (some dd)) :: led) → Q () { s with heap := h', toks := tk' }) :
    wpAny (mdl w) A (setAttr (.ref e) (Str.ofString "message") v) Q E s :=
  exc_set0 (od' := dx1 w.params (s.toks + 1) v) X F N hte hR (by kernel_rfl) (by kernel_rfl) rfl (by show 1 ≤ 1000; decide) fun dd h' tk' a b c => h dd h' tk' _ a b c
theorem set_spot {a : Tok} {x : Value} (X : (frg.heap_1 w.params).In h₀) (F : Fr h₀ L s.heap m) (N : News h₀ L s.heap ((dd, dx1 w.params a x) :: led)) (hm : (e, excO t (some dd)) ∈ led) (hR : ∀ p ∈ led, p.1 ≠ dd)
    (h : ∀ h' tk' b, Fr h₀ L h' m → News h₀ L h' ((dd, dx2 w.params a b x v) :: led) → Q () { s with heap := h', toks := tk' }) :
    wpAny (mdl w) A (setAttr (.ref e) (Str.ofString "spot") v) Q E s :=
  exc_set (od' := dx2 w.params a (s.toks + 1) x v) X F N hm hR (by kernel_rfl) rfl (by kernel_rfl) (by kernel_rfl) rfl (by show 2 ≤ 1000; decide) fun h' tk' a b => h h' tk' _ a b
theorem set_value {a b : Tok} {x y : Value} (X : (frg.heap_1 w.params).In h₀) (F : Fr h₀ L s.heap m) (N : News h₀ L s.heap ((dd, dx2 w.params a b x y) :: led)) (hm : (e, excO t (some dd)) ∈ led) (hR : ∀ p ∈ led, p.1 ≠ dd)
    (h : ∀ h' tk' c, Fr h₀ L h' m → News h₀ L h' ((dd, dx3 w.params a b c x y v) :: led) → Q () { s with heap := h', toks := tk' }) :
    wpAny (mdl w) A (setAttr (.ref e) (Str.ofString "value") v) Q E s :=
  exc_set (od' := dx3 w.params a b (s.toks + 1) x y v) X F N hm hR (by kernel_rfl) rfl (by kernel_rfl) (by kernel_rfl) rfl (by show 3 ≤ 1000; decide) fun h' tk' a b => h h' tk' _ a b
end
end

set_option maxHeartbeats 8000000 in
theorem c_rows_init (w : World) (e t0 : Addr) (msg : Str) (tm : Tok) (news : Ledger) (hR : ∀ p ∈ news, p.1 ≠ e) : Ctr w 2 29 [.ref e, .str msg tm] ((e, excO t0 none) :: news) (fun r n' => r = .none ∧ ∃ t1 dd a b, n' = (dd, dx2 w.params a b (.str msg tm) .none) :: (t1, ({ cls := .type "tuple", data := .seq #[.str msg tm] } : Obj)) :: (e, excO t1 (some dd)) :: news ∧ (∀ p ∈ news, p.1 < t1) ∧ (∀ p ∈ news, p.1 < dd) ∧ e < dd ∧ t1 < dd ∧ e < t1) := by
  intro mean mg mb dp un gd env outer A₀ base h₀ L m hp gs dr tk0 os Q E B F X N T hf hk hdp hun hret
  k_with_none
  (k_with "eval Call" => first | k_compRoot | (k_here; (with_reducible show wpAny _ _ (eval _ (compEnvC _ _ _ _)) _ _ _); k_dflt (refine Call_ ?_)) | (k_here; (with_reducible show wpAny _ _ (eval (PySem.Expr.Call (PySem.Expr.Name _ _) [PySem.Expr.Name _ _] [] _) _) _ _ _); k_dflt (refine' callN1 ?F ?X ?T ?e ?k ?x ?_ ?c ?g ?l ?df ?dx; (case F => k_asm); (case X => k_asm); (case T => k_asm); (case e => k_is); (case k => k_is); (case x => exact rfl); (case c => exact rfl); (case g => exact rfl); (case l => exact rfl); (case df => decide); (case dx => decide); k_whole)) | (k_here; (with_reducible show wpAny _ _ (eval (PySem.Expr.Call (PySem.Expr.Name _ _) [PySem.Expr.Name _ _, PySem.Expr.Name _ _] [] _) _) _ _ _); k_dflt (refine' callN2 ?F ?X ?T ?e ?k ?x ?y ?_ ?c ?g ?l ?m ?df ?dx ?dy; (case F => k_asm); (case X => k_asm); (case T => k_asm); (case e => k_is); (case k => k_is); (case x => exact rfl); (case y => exact rfl); (case c => exact rfl); (case g => exact rfl); (case l => exact rfl); (case m => exact rfl); (case df => decide); (case dx => decide); (case dy => decide); k_whole)) | (k_here; (with_reducible show wpAny _ _ (eval (PySem.Expr.Call (PySem.Expr.Name _ _) [_] [] _) _) _ _ _); k_dflt (refine' callE1 ?F ?X ?T ?e ?k ?_ ?c ?g ?df ?h1; (case F => k_asm); (case X => k_asm); (case T => k_asm); (case e => k_is); (case k => k_is); (case c => exact rfl); (case g => exact rfl); (case df => decide); (case h1 => exact rfl); k_whole)) | (k_here; (with_reducible show wpAny _ _ (eval (PySem.Expr.Call (PySem.Expr.Name _ _) [_, _] [] _) _) _ _ _); k_dflt (refine' callE2 ?F ?X ?T ?e ?k ?_ ?c ?g ?df ?h1 ?h2; (case F => k_asm); (case X => k_asm); (case T => k_asm); (case e => k_is); (case k => k_is); (case c => exact rfl); (case g => exact rfl); (case df => decide); (case h1 => exact rfl); (case h2 => exact rfl); k_whole)) | k_dflt (refine Call_ ?_))
  (k_with "newTuple" => (k_here; k_dflt (refine' kup_newTuple ?F ?N ?_ ?z; (case F => k_asm); (case N => k_asm); (case z => kmk_size)); intro D' h' F' N' lD; (try k_sweep)))
  (k_with "getMethod type:Exception" => (k_here; (with_reducible refine' method_type ?F ?X ?m (by decide +kernel) ?e ?h ?_); k_dflt ( (case F => k_asm); (case X => k_asm); (case m => exact meta_exc); (case e => k_is); (case h => k_handed))))
  (k_with "call builtin:Exception.__init__" => (k_here; (with_reducible refine' exc_init ?X ?F ?N hR ?_); k_dflt ( (case X => k_asm); (case F => k_asm); (case N => k_asm)); intro t1 h' F' N' lT; (try dsimp only)))
  (k_with "setAttr ref" => first
    | (k_here; (with_reducible refine' set_message ?X ?F ?N ?hte hR ?_); k_dflt ( (case X => k_asm); (case F => k_asm); (case N => k_asm); (case hte => exact Ne.symm (Nat.ne_of_lt (lT _ (.head _))))); intro dd h' tk' a lD F' N'; (try dsimp only))
    | (k_here; (with_reducible refine' set_spot ?X ?F ?N ?hm ?hR ?_); k_dflt ( (case X => k_asm); (case F => k_asm); (case N => k_asm); (case hm => kcj_m); (case hR => exact below_ne lD)); intro h' tk' b F' N'; (try dsimp only)))
  (refine wpAny_call ?_; k_dflt (refine' code_def (binds := [(Str.ofString "self", Value.ref e), (Str.ofString "message", Value.str msg tm), (Str.ofString "spot", Value.none)]) ?k1 ?k2 ?k3 ?k4 ?k5 ?kA ?kF ?kK ?k6 ?k7 ?k8 ?k9 ?kB ?_ ?c2 ?c3 ?c4 ?c5; (case kA => exact rfl); (case kF => assumption); (case kK => assumption); (case k1 => k_asm); (case k2 => k_asm); (case k3 => k_asm); (case k4 => k_asm); (case k5 => k_asm); (case k6 => k_is); (case k7 => k_is); (case k8 => ktr_room); (case k9 => first | exact BindsTo.of_eq rfl | exact binds_K (by k_in) rfl (by k_is) rfl rfl rfl); (case c5 => decide); (case kB => exact locs rfl); (case c2 => exact rfl); (case c3 => exact rfl); (case c4 => exact rfl); k_whole; intro g' L' h' FG' F' N' B' X' T'; (try dsimp only); (try k_lift B'); (try k_fold)))
  k_steps
  all_goals exact hret _ _ _ _ ⟨rfl, _, _, _, _, rfl, fun p hp => lT p (.tail _ hp), fun p hp => lD p (.tail _ (.tail _ hp)), lD (e, _) (.tail _ (.head _)), lD _ (.head _), lT _ (.head _)⟩ (by k_asm) (by k_asm)
def NewExc (w : World) (e : Addr) (v : Value) (news : Ledger) (n' : Ledger) : Prop :=
  ∃ t1 dd a b c u, n' = (dd, dx3 w.params a b c (.str (Str.ofString "a value is thrown") u) .none v) :: (t1, ({ cls := .type "tuple", data := .seq #[.str (Str.ofString "a value is thrown") u] } : Obj)) :: (e, excO t1 (some dd)) :: news ∧ (∀ p ∈ news, p.1 < t1) ∧ (∀ p ∈ news, p.1 < dd) ∧ e < dd ∧ t1 < dd ∧ e < t1
/-- the same at the code, below no tree -/
def CtrC (w : World) (d : Nat) (f : Addr) (vs : List Value) (news : Ledger) (post : Value → Ledger → Prop) : Prop :=
  ∀ (mean : ExcName → Option Value) (mg mb : Str → Option Value) (dp un : Nat) (gd : Option (List Code)) (env : Env) (outer : List Env) (A₀ : Around) (base h₀ : Heap) (L : Addr) (m : Str → Option Value) (hp : Heap) (gs : Array GenState) (dr : Drawn) (tk0 : Nat) (os : OsState) (R : Result → Shared → Prop),
    Below A₀ base outer h₀ → Fr h₀ L hp m → (frg.heap_1 w.params).In h₀ → News h₀ L hp news → Top vw loose2 mean mg mb h₀ → env.frame = some L → env.scope.kind = .function → dp + d < recursionLimit → un + 20 * d < cLine →
    (∀ r news' h' tk', post r news' → Fr h₀ L h' m → News h₀ L h' news' → R (.ok (.ret r)) ⟨h', gs, dr, tk', os⟩) →
    codeAny (model PySem.Challenge.pw_pc0192_01 w) (topA dp un gd env outer) (.call (.ref f) ⟨vs, []⟩) R ⟨hp, gs, dr, tk0, os⟩
set_option maxHeartbeats 8000000 in
theorem c_thrown_init (w : World) (e t0 : Addr) (v : Value) (news : Ledger) (hR : ∀ p ∈ news, p.1 ≠ e) : CtrC w 4 49 [.ref e, v] ((e, excO t0 none) :: news) (fun r n' => r = .none ∧ NewExc w e v news n') := by
  intro mean mg mb dp un gd env outer A₀ base h₀ L m hp gs dr tk0 os R B F X N T hf hk hdp hun hret
  k_with_none
  (k_with "eval Call" => first | k_compRoot | (k_here; (with_reducible show wpAny _ _ (eval _ (compEnvC _ _ _ _)) _ _ _); k_dflt (refine Call_ ?_)) | (k_here; (with_reducible show wpAny _ _ (eval (PySem.Expr.Call (PySem.Expr.Name _ _) [PySem.Expr.Name _ _] [] _) _) _ _ _); k_dflt (refine' callN1 ?F ?X ?T ?e ?k ?x ?_ ?c ?g ?l ?df ?dx; (case F => k_asm); (case X => k_asm); (case T => k_asm); (case e => k_is); (case k => k_is); (case x => exact rfl); (case c => exact rfl); (case g => exact rfl); (case l => exact rfl); (case df => decide); (case dx => decide); k_whole)) | (k_here; (with_reducible show wpAny _ _ (eval (PySem.Expr.Call (PySem.Expr.Name _ _) [PySem.Expr.Name _ _, PySem.Expr.Name _ _] [] _) _) _ _ _); k_dflt (refine' callN2 ?F ?X ?T ?e ?k ?x ?y ?_ ?c ?g ?l ?m ?df ?dx ?dy; (case F => k_asm); (case X => k_asm); (case T => k_asm); (case e => k_is); (case k => k_is); (case x => exact rfl); (case y => exact rfl); (case c => exact rfl); (case g => exact rfl); (case l => exact rfl); (case m => exact rfl); (case df => decide); (case dx => decide); (case dy => decide); k_whole)) | (k_here; (with_reducible show wpAny _ _ (eval (PySem.Expr.Call (PySem.Expr.Name _ _) [_] [] _) _) _ _ _); k_dflt (refine' callE1 ?F ?X ?T ?e ?k ?_ ?c ?g ?df ?h1; (case F => k_asm); (case X => k_asm); (case T => k_asm); (case e => k_is); (case k => k_is); (case c => exact rfl); (case g => exact rfl); (case df => decide); (case h1 => exact rfl); k_whole)) | (k_here; (with_reducible show wpAny _ _ (eval (PySem.Expr.Call (PySem.Expr.Name _ _) [_, _] [] _) _) _ _ _); k_dflt (refine' callE2 ?F ?X ?T ?e ?k ?_ ?c ?g ?df ?h1 ?h2; (case F => k_asm); (case X => k_asm); (case T => k_asm); (case e => k_is); (case k => k_is); (case c => exact rfl); (case g => exact rfl); (case df => decide); (case h1 => exact rfl); (case h2 => exact rfl); k_whole)) | k_dflt (refine Call_ ?_))
  (k_with "newTuple" => (k_here; k_dflt (refine' kup_newTuple ?F ?N ?_ ?z; (case F => k_asm); (case N => k_asm); (case z => kmk_size)); intro D' h' F' N' lD; (try k_sweep)))
  (k_with "call ref" => (k_here; k_dflt (refine' Ctr.use (c_rows_init w e t0 _ _ _ hR) ?hz1 ?hz2 ?hz3 ?hz4 ?hz5 ?hz6 ?hz7 ?hz8 ?hz9 ?_; (case hz1 => k_asm); (case hz2 => k_asm); (case hz3 => k_asm); (case hz4 => k_asm); (case hz5 => k_asm); (case hz6 => first | exact rfl | assumption);  (case hz7 => first | exact rfl | assumption); (case hz8 => ktr_room); (case hz9 => ktr_units); intro r' n' h' tk' hp' F' N'; obtain ⟨rfl, t1, dd, a, b, rfl, l1, l2, l3, l4, l5⟩ := hp'; (try dsimp only); (try k_fold))))
  (k_with "setAttr ref" => (k_here; (with_reducible refine' set_value ?X ?F ?N ?hm ?hR ?_); k_dflt ( (case X => k_asm); (case F => k_asm); (case N => k_asm); (case hm => kcj_m); (case hR => exact List.forall_mem_cons.mpr ⟨Nat.ne_of_lt l4, List.forall_mem_cons.mpr ⟨Nat.ne_of_lt l3, fun p hp => Nat.ne_of_lt (l2 p hp)⟩⟩)); intro h' tk' c F' N'; (try dsimp only)))
  (k_dflt (refine' code_def (binds := [(Str.ofString "self", Value.ref e), (Str.ofString "value", v)]) ?k1 ?k2 ?k3 ?k4 ?k5 ?kA ?kF ?kK ?k6 ?k7 ?k8 ?k9 ?kB ?_ ?c2 ?c3 ?c4 ?c5; (case kA => exact rfl); (case kF => assumption); (case kK => assumption); (case k1 => k_asm); (case k2 => k_asm); (case k3 => k_asm); (case k4 => k_asm); (case k5 => k_asm); (case k6 => k_is); (case k7 => k_is); (case k8 => ktr_room); (case k9 => first | exact BindsTo.of_eq rfl | exact binds_K (by k_in) rfl (by k_is) rfl rfl rfl); (case c5 => decide); (case kB => exact locs rfl); (case c2 => exact rfl); (case c3 => exact rfl); (case c4 => exact rfl); k_whole; intro g' L' h' FG' F' N' B' X' T'; (try dsimp only); (try k_lift B'); (try k_fold)))
  k_steps
  all_goals exact hret _ _ _ _ ⟨rfl, _, _, _, _, _, _, rfl, l1, l2, l3, l4, l5⟩ (by k_asm) (by k_asm)

section
variable {w : World} {A : Around} {E : Value → Shared → Prop} {P : Params} {h : Heap} {R : Result → Shared → Prop} {v : Value} {g : Array GenState} {d : Drawn} {tk : Nat} {os : OsState}
def cls32 : Obj := { cls := .type "type", data := .cls { name := Str.ofString "RowsError", bases := [.type "Exception"], mro := [.ref 32, .type "Exception", .type "BaseException", .type "object"], ns := 31, qualname := Str.ofString "RowsError", subclasses := [.ref 52] }, slots := #[some (.ref 15), none, some (.str (Str.ofString "RowsError") 189), some (.str (Str.ofString "RowsError") 197), some (.builtin "Exception.__new__"), some (.bool true)] }
theorem at32 (X : (frg.heap_1 P).In h) : h.get? 32 = some cls32 := X _ _ (by kernel_rfl)
theorem check_new52 {Q : Unit → Shared → Prop} (X : (frg.heap_1 P).In h) (hq : Q () ⟨h, g, d, tk, os⟩) :
    wpAny (mdl w) A (checkBuiltinCall "Exception.__new__" ⟨[.ref 52, v], []⟩) Q E ⟨h, g, d, tk, os⟩ := by
  have B := PySem.F.excBase_Exception
  have hC := at52 X
  have hD := at32 X
  have i1 := exc_isExc (w := w) X
  have i2 : Looks (mdl w) h (isInstance (.ref 52) (.type "type")) true := looks_instIn X (by kernel_rfl)
  have hshort := B.noStar
  simp only [checkBuiltinCall, B.newKind, B.newSplit, B.newRow]
  repeat lk
  exact hq
theorem new52 (X : (frg.heap_1 P).In h) (hq : R (.ok (.ret (.ref (h.objs.size + 1)))) ⟨(h.push { cls := .type "tuple", data := .seq #[v] }).push (excO h.objs.size none), g, d, tk, os⟩) :
    codeAny (mdl w) A (.call (.builtin "Exception.__new__") ⟨[.ref 52, v], []⟩) R ⟨h, g, d, tk, os⟩ := by
  have B := PySem.F.excBase_Exception
  have hC := at52 X
  have hD := at32 X
  have i1 := exc_isExc (w := w) X
  have i2 : Looks (mdl w) h (isInstance (.ref 52) (.type "type")) true := looks_instIn X (by kernel_rfl)
  have i3 : Looks (mdl w) h (isSubtype (.ref 52) (.type "AttributeError")) false := looks_mroIn X (by kernel_rfl)
  have i4 : Looks (mdl w) h (isSubtype (.ref 52) (.type "NameError")) false := looks_mroIn X (by kernel_rfl)
  have hends := B.ends
  refine codeAny_call_builtin_code (Code.quiet_builtin _ B.quiet) (check_new52 X ?_)
  refine codeAny_builtinAt B.entry ?_
  unfold Builtin.«BaseException.__new__»
  refine PySem.wpAt_bind ?_
  show PySem.wpAt _ _ _ (stack >>= _) _ _ _
  refine PySem.wpAt_bind (PySem.wpAt_stack fun p below => PySem.wpAt_of_wpAny ?_)
  wp_walk
  refine PySem.wpAt_of_wpAny ?_
  rw [B.owner]
  repeat lk
  refine nd_load (Heap.get?_push_of_some _ (Heap.get?_push_of_some _ hC)) ?_
  repeat lk
  show R _ _
  rw [Heap.size_push]
  exact hq
theorem make52 {h₀ : Heap} {L : Addr} {m : Str → Option Value} {news : Ledger} {s : Shared} (X : (frg.heap_1 P).In h₀) (F : Fr h₀ L s.heap m) (N : News h₀ L s.heap news)
    (hq : ∀ e t0 h', Fr h₀ L h' m → News h₀ L h' ((e, excO t0 none) :: news) → (∀ p ∈ news, p.1 < e) →
      codeAny (mdl w) (A.under (.builtin "type.__call__" ⟨[.ref 52, v], []⟩)) (.call (.ref 49) ⟨[.ref e, v], []⟩) (InitBack e R) { s with heap := h' }) :
    codeAny (mdl w) A (.call (.ref 52) ⟨[v], []⟩) R s := by
  have B := PySem.F.excBase_Exception
  obtain ⟨h, g, d, tk, os⟩ := s
  have X' := X.keeps F.keep
  have hC := at52 X'
  have hD := at32 X'
  have i2 : Looks (mdl w) h (isInstance (.ref 52) (.type "type")) true := looks_instIn X' (by kernel_rfl)
  have call : Looks (mdl w) h (specialOf (.ref 52) "__call__") (some (.builtin "type.__call__")) := looks_specialIn X' (by kernel_rfl)
  refine codeAny_of_tree ?_
  show wpAny _ _ (callAny (.ref 52) _) _ _ _
  refine nd_load hC ?_
  show wpAny _ _ (callAny.viaDunder (.ref 52) _) _ _ _
  unfold callAny.viaDunder
  refine wpAny_bind (call.at ?_)
  dsimp only
  rw [tc_bind]
  refine wpAny_bind (wpAny_pure (wpAny_bind (wpAny_pure ?_)))
  refine wpAny_pure (a := Fin.again (.call (.builtin "type.__call__") ⟨[.ref 52, v], []⟩)) (And.intro rfl ?_)
  refine codeAny_call_builtin_at (Code.quiet_builtin _ (by decide +kernel)) entry_typeCall (check_slot tc_kind tc_split i2 (tc_args _ _ _) ?_)
  unfold Builtin.«type.__call__»
  repeat (first | with_reducible refine wpAny_call ?_ | lk)
  refine new52 X' ?_
  have N1 := (N.push F ({ cls := .type "tuple", data := .seq #[v] } : Obj)).push (F.push _) (excO h.objs.size none)
  rw [Heap.size_push] at N1
  have F1 := (F.push ({ cls := .type "tuple", data := .seq #[v] } : Obj)).push (excO h.objs.size none)
  have X1 := X.keeps F1.keep
  have O := (N1 _ (.head _)).1
  have I : InstAt _ (h.objs.size + 1) (excO h.objs.size none) 52 none := ⟨O, rfl, rfl, trivial⟩
  have self : Looks (mdl w) _ (isSubtype (.ref 52) (.ref 52)) true := looks_mroIn X1 (by kernel_rfl)
  have lt : ∀ p ∈ news, p.1 < h.objs.size + 1 := fun p hp => Nat.lt_succ_of_lt (Heap.lt_size (N p hp).1)
  have z := hq _ _ _ F1 (fun p hp => N1 p (by
    rcases List.mem_cons.mp hp with rfl | hp
    · exact .head _
    · exact .tail _ (.tail _ hp))) lt
  unfold isInstance
  refine wpAny_bind (wpAny_bind (I.type.at (self.at ?_)))
  refine wpAny_bind (wpAny_holding ?_)
  refine special_fn (s := ⟨_, g, d, tk, os⟩) X1 I (by kernel_rfl) (by kernel_rfl) (wpAny_call (codeAny_mono z fun r s' q => ?_))
  rcases r with e | (v | _ | _ | _) <;> first | exact q | exact q.elim | skip
  obtain ⟨rfl, q⟩ := q
  exact wpAny_pure q
end

theorem under_make (A : Around) (a : Args) : A.under (.builtin "type.__call__" a) = { A with depth := A.depth + (Code.builtin "type.__call__" a).weight, units := A.units + (Code.builtin "type.__call__" a).cUnits } := by
  have e1 : (Code.builtin "type.__call__" a).envs = [] := by rfl
  have e2 : (Code.builtin "type.__call__" a).guards = [] := by rfl
  unfold Around.under
  rw [e1, e2]
  rfl
theorem make_weight (C : Addr) (v : Value) : (Code.builtin "type.__call__" ⟨[.ref C, v], []⟩).weight ≤ 3 ∧ (Code.builtin "type.__call__" ⟨[.ref C, v], []⟩).cUnits ≤ 3 := by
  have e1 : (Code.builtin "type.__call__" ⟨[.ref C, v], []⟩).weight = 1 := by rfl
  have e2 : (Code.builtin "type.__call__" ⟨[.ref C, v], []⟩).cUnits = 1 := by rfl
  omega
theorem CtrC.use {w : World} {d : Nat} {f : Addr} {vs : List Value} {news : Ledger} {post : Value → Ledger → Prop} (C : CtrC w d f vs news post)
    {mean : ExcName → Option Value} {mg mb : Str → Option Value} {dp un : Nat} {gd : Option (List Code)} {env : Env} {outer : List Env} {A₀ : Around} {base h₀ : Heap} {L : Addr} {m : Str → Option Value} {hp : Heap} {gs : Array GenState} {dr : Drawn} {tk0 : Nat} {os : OsState} {R : Result → Shared → Prop} {C' : Addr} {v : Value}
    (B : Below A₀ base outer h₀) (F : Fr h₀ L hp m) (X : (frg.heap_1 w.params).In h₀) (N : News h₀ L hp news) (T : Top vw loose2 mean mg mb h₀) (hf : env.frame = some L) (hk : env.scope.kind = .function) (hdp : dp + 3 + d < recursionLimit) (hun : un + 3 + 20 * d < cLine)
    (ret : ∀ r news' h' tk', post r news' → Fr h₀ L h' m → News h₀ L h' news' → R (.ok (.ret r)) ⟨h', gs, dr, tk', os⟩) :
    codeAny (model PySem.Challenge.pw_pc0192_01 w) ((topA dp un gd env outer).under (.builtin "type.__call__" ⟨[.ref C', v], []⟩)) (.call (.ref f) ⟨vs, []⟩) R ⟨hp, gs, dr, tk0, os⟩ := by
  rw [under_make]
  have q := make_weight C' v
  exact C mean mg mb _ _ gd env outer A₀ base h₀ L m hp gs dr tk0 os R B F X N T hf hk (by show dp + _ + d < recursionLimit; omega) (by show un + _ + 20 * d < cLine; omega) ret
/-- Thrown(v) -/
theorem c_make (w : World) (v : Value) (news : Ledger) : Ctr w 8 52 [v] news (fun r n' => ∃ e, r = .ref e ∧ NewExc w e v news n' ∧ ∀ p ∈ news, p.1 < e) := by
  intro mean mg mb dp un gd env outer A₀ base h₀ L m hp gs dr tk0 os Q E B F X N T hf hk hdp hun hret
  refine wpAny_call (make52 X F N fun e t0 h' F' N' l => ?_)
  refine CtrC.use (c_thrown_init w e t0 v news fun p hp => Nat.ne_of_lt (l p hp)) B F' X N' T hf hk (by omega) (by omega) fun r n' h' tk' q F' N' => ?_
  obtain ⟨rfl, q⟩ := q
  exact ⟨rfl, hret _ _ _ _ ⟨e, rfl, q, l⟩ F' N'⟩

/-- what thrown gives: an exception whose value is a pair of a word and a pair .. -/
def NewThrown (w : World) (news : Ledger) (r : Value) (n' : Ledger) : Prop :=
  ∃ e t1 dd a b c u V l, r = .ref e ∧ n' = (dd, dx3 w.params a b c (.str (Str.ofString "a value is thrown") u) .none (.ref V)) :: (t1, ({ cls := .type "tuple", data := .seq #[.str (Str.ofString "a value is thrown") u] } : Obj)) :: (e, excO t1 (some dd)) :: l ∧
    (∃ K x y c1 i1 i2 z c2, (V, ({ cls := .type "tuple", data := .seq #[x, .ref K, y] c1 } : Obj)) ∈ l ∧ (K, ({ cls := .type "tuple", data := .seq #[.str (Str.ofString "name") i1, .str (Str.ofString "InexactError") i2, z] c2 } : Obj)) ∈ l) ∧ (∀ p ∈ news, p ∈ l) ∧ (∀ p ∈ l, p.1 < e) ∧ e < t1 ∧ t1 < dd
set_option maxHeartbeats 8000000 in
theorem c_thrown (w : World) (a : Addr) (x y z : Value) (c : Nat) (t : Tok) (news : Ledger) (hm : (a, ({ cls := .type "tuple", data := .seq #[x, y, z] c } : Obj)) ∈ news) : Ctr w 10 82 [.str (Str.ofString "InexactError") t, .ref a] news (NewThrown w news) := by
  intro mean mg mb dp un gd env outer A₀ base h₀ L m hp gs dr tk0 os Q E B F X N T hf hk hdp hun hret
  k_with_none
  (k_with "eval Call" => first | k_compRoot | (k_here; (with_reducible show wpAny _ _ (eval _ (compEnvC _ _ _ _)) _ _ _); k_dflt (refine Call_ ?_)) | (k_here; (with_reducible show wpAny _ _ (eval (PySem.Expr.Call (PySem.Expr.Name _ _) [PySem.Expr.Name _ _] [] _) _) _ _ _); k_dflt (refine' callN1 ?F ?X ?T ?e ?k ?x ?_ ?c ?g ?l ?df ?dx; (case F => k_asm); (case X => k_asm); (case T => k_asm); (case e => k_is); (case k => k_is); (case x => exact rfl); (case c => exact rfl); (case g => exact rfl); (case l => exact rfl); (case df => decide); (case dx => decide); k_whole)) | (k_here; (with_reducible show wpAny _ _ (eval (PySem.Expr.Call (PySem.Expr.Name _ _) [PySem.Expr.Name _ _, PySem.Expr.Name _ _] [] _) _) _ _ _); k_dflt (refine' callN2 ?F ?X ?T ?e ?k ?x ?y ?_ ?c ?g ?l ?m ?df ?dx ?dy; (case F => k_asm); (case X => k_asm); (case T => k_asm); (case e => k_is); (case k => k_is); (case x => exact rfl); (case y => exact rfl); (case c => exact rfl); (case g => exact rfl); (case l => exact rfl); (case m => exact rfl); (case df => decide); (case dx => decide); (case dy => decide); k_whole)) | (k_here; (with_reducible show wpAny _ _ (eval (PySem.Expr.Call (PySem.Expr.Name _ _) [_] [] _) _) _ _ _); k_dflt (refine' callE1 ?F ?X ?T ?e ?k ?_ ?c ?g ?df ?h1; (case F => k_asm); (case X => k_asm); (case T => k_asm); (case e => k_is); (case k => k_is); (case c => exact rfl); (case g => exact rfl); (case df => decide); (case h1 => exact rfl); k_whole)) | (k_here; (with_reducible show wpAny _ _ (eval (PySem.Expr.Call (PySem.Expr.Name _ _) [_, _] [] _) _) _ _ _); k_dflt (refine' callE2 ?F ?X ?T ?e ?k ?_ ?c ?g ?df ?h1 ?h2; (case F => k_asm); (case X => k_asm); (case T => k_asm); (case e => k_is); (case k => k_is); (case c => exact rfl); (case g => exact rfl); (case df => decide); (case h1 => exact rfl); (case h2 => exact rfl); k_whole)) | k_dflt (refine Call_ ?_))
  (k_with "newTuple" => (k_here; k_dflt (refine' kup_newTuple ?F ?N ?_ ?z; (case F => k_asm); (case N => k_asm); (case z => kmk_size)); intro D' h' F' N' lD; (try k_sweep)))
  (k_with "call ref" => first
    | (k_here; (with_reducible show wpAny _ _ (call (Value.ref 52) [_]) _ _ _); k_dflt (refine' Ctr.use (c_make w _ _) ?hz1 ?hz2 ?hz3 ?hz4 ?hz5 ?hz6 ?hz7 ?hz8 ?hz9 ?_; (case hz1 => k_asm); (case hz2 => k_asm); (case hz3 => k_asm); (case hz4 => k_asm); (case hz5 => k_asm); (case hz6 => first | exact rfl | assumption);  (case hz7 => first | exact rfl | assumption); (case hz8 => ktr_room); (case hz9 => ktr_units); intro r' n' h' tk' hp' F' N'; obtain ⟨e, rfl, ⟨t1, dd, a', b', c', u, rfl, l1, l2, l3, l4, l5⟩, l6⟩ := hp'; (try dsimp only); (try k_fold))))
  (k_with "call type:tuple" => (k_here; k_dflt (refine' call_tuple_tup ?ht ?_; (case ht => exact News.isTup (by k_asm) (by kcj_m)))))
  (refine wpAny_call ?_; k_dflt (refine' code_def (binds := [(Str.ofString "name", Value.str (Str.ofString "InexactError") t), (Str.ofString "parts", Value.ref a)]) ?k1 ?k2 ?k3 ?k4 ?k5 ?kA ?kF ?kK ?k6 ?k7 ?k8 ?k9 ?kB ?_ ?c2 ?c3 ?c4 ?c5; (case kA => exact rfl); (case kF => assumption); (case kK => assumption); (case k1 => k_asm); (case k2 => k_asm); (case k3 => k_asm); (case k4 => k_asm); (case k5 => k_asm); (case k6 => k_is); (case k7 => k_is); (case k8 => ktr_room); (case k9 => first | exact BindsTo.of_eq rfl | exact binds_K (by k_in) rfl (by k_is) rfl rfl rfl); (case c5 => decide); (case kB => exact locs rfl); (case c2 => exact rfl); (case c3 => exact rfl); (case c4 => exact rfl); k_whole; intro g' L' h' FG' F' N' B' X' T'; (try dsimp only); (try k_lift B'); (try k_fold)))
  k_steps
  all_goals exact hret _ _ _ _ ⟨e, t1, dd, a', b', c', u, _, _, rfl, rfl, ⟨_, _, _, _, _, _, _, _, .head _, .tail _ (.head _)⟩, fun p hp => .tail _ (.tail _ (.tail _ hp)), l6, l5, l4⟩ (by k_asm) (by k_asm)

/-- each object that stood stands yet, with the dict that it had -/
def KD (h h' : Heap) : Prop := ∀ b o, h.get? b = some o → ∃ o', h'.get? b = some o' ∧ o'.dict = o.dict
theorem KD.refl (h : Heap) : KD h h := fun _ o e => ⟨o, e, rfl⟩
theorem KD.trans {h h' h'' : Heap} (x : KD h h') (y : KD h' h'') : KD h h'' := fun b o e =>
  let ⟨_, e1, d1⟩ := x b o e; let ⟨o2, e2, d2⟩ := y b _ e1; ⟨o2, e2, d2.trans d1⟩
theorem KD.push (h : Heap) (o : Obj) : KD h (h.push o) := fun _ q e => ⟨q, Heap.get?_push_of_some _ e, rfl⟩
theorem KD.update {h : Heap} {a : Addr} {f : Obj → Obj} (hf : ∀ o : Obj, (f o).dict = o.dict ∧ (f o).isFreed = o.isFreed) : KD h (h.update a f) := fun b o e => by
  by_cases q : a = b
  · subst q
    exact ⟨_, Heap.get?_update_self f e ((hf o).2.trans (Heap.get?_some_iff.mp e).2), (hf o).1⟩
  · exact ⟨o, (Heap.get?_update_other h f q).trans e, rfl⟩
/-- a tree that calls nothing and turns no object's dict -/
inductive DSafe : {α : Type} → Sem α → Prop
  | pure {α : Type} {a : α} : DSafe (.pure a)
  | raise {α : Type} {e : Value} : DSafe (.raise e : Sem α)
  | unsup {α : Type} {x : String} : DSafe (.unsupported x : Sem α)
  | rule {α : Type} {t : String} {k : Unit → Sem α} (h : ∀ u, DSafe (k u)) : DSafe (.rule t k)
  | at {α : Type} {p : Pos} {k : Unit → Sem α} (h : ∀ u, DSafe (k u)) : DSafe (.at p k)
  | load {α : Type} {a : Addr} {p : Option Value} {k : Obj → Sem α} (h : ∀ o, DSafe (k o)) : DSafe (.load a p k)
  | update {α : Type} {a : Addr} {p : Option Value} {f : Obj → Obj} {k : Unit → Sem α} (hf : ∀ o : Obj, (f o).dict = o.dict ∧ (f o).isFreed = o.isFreed) (h : ∀ u, DSafe (k u)) : DSafe (.update a p f k)
  | alloc {α : Type} {o : Obj} {k : Addr → Sem α} (h : ∀ a, DSafe (k a)) : DSafe (.alloc o k)
  | register {α : Type} {a : Addr} {k : Unit → Sem α} : DSafe (.register a k)
  | stack {α : Type} {k : List (Code × Pos) → Sem α} (h : ∀ l, DSafe (k l)) : DSafe (.stack k)
theorem DSafe.bind {α β : Type} {m : Sem α} {f : α → Sem β} (h : DSafe m) (hf : ∀ a, DSafe (f a)) : DSafe (m.bind f) := by
  induction h with
  | pure => exact hf _
  | raise => exact .raise
  | unsup => exact .unsup
  | rule _ ih => exact .rule fun u => ih u
  | «at» _ ih => exact .at fun u => ih u
  | load _ ih => exact .load fun u => ih u
  | update q _ ih => exact .update q fun u => ih u
  | alloc _ ih => exact .alloc fun u => ih u
  | register => exact .register
  | stack _ ih => exact .stack fun u => ih u
theorem DSafe.wpK {α : Type} {t : Sem α} (h : DSafe t) {M : Model} {Γ : PySem.Ctx} : ∀ {Q : α → Pos → Shared → Prop} {E : Value → Pos → Shared → Prop} {p : Pos} {s : Shared}, Sem.wp M Γ t Q E p s →
    Sem.wp M Γ t (fun a p' s' => Q a p' s' ∧ KD s.heap s'.heap) (fun e p' s' => E e p' s' ∧ KD s.heap s'.heap) p s := by
  induction h with
  | pure => intro Q E p s q; exact ⟨q, .refl _⟩
  | raise => intro Q E p s q; exact ⟨q, .refl _⟩
  | unsup => intro Q E p s q; exact q
  | rule _ ih => intro Q E p s q; exact ih () q
  | «at» _ ih => intro Q E p s q; exact ih () q
  | load _ ih => intro Q E p s q; obtain ⟨o, e, q⟩ := q; exact ⟨o, e, ih o q⟩
  | update hf _ ih =>
    intro Q E p s q
    refine ⟨q.1, Sem.wp_mono M Γ _ (fun a p' s' z => ⟨z.1, (KD.update hf).trans z.2⟩) (fun a p' s' z => ⟨z.1, (KD.update hf).trans z.2⟩) _ _ (ih () q.2)⟩
  | alloc _ ih =>
    intro Q E p s q
    exact Sem.wp_mono M Γ _ (fun a p' s' z => ⟨z.1, (KD.push _ _).trans z.2⟩) (fun a p' s' z => ⟨z.1, (KD.push _ _).trans z.2⟩) _ _ (ih _ q)
  | register => intro Q E p s q; exact q
  | stack _ ih => intro Q E p s q; exact ih _ q
/-- what is shown of such a tree is shown with the dicts kept -/
theorem DSafe.any {α : Type} {t : Sem α} (h : DSafe t) {M : Model} {A : Around} {Q : α → Shared → Prop} {E : Value → Shared → Prop} {s : Shared} (q : wpAny M A t Q E s) :
    wpAny M A t (fun a s' => Q a s' ∧ KD s.heap s'.heap) (fun e s' => E e s' ∧ KD s.heap s'.heap) s := fun Γ p hΓ => h.wpK (q Γ p hΓ)
theorem ds_fields (v : Value) : DSafe (fieldsOf v) := by
  unfold fieldsOf
  split
  · refine DSafe.bind (m := load _) (.load fun o => .pure) fun o => ?_
    split
    · exact .pure
    · exact .unsup
  · exact .unsup
theorem ds_field (v : Value) (i : Nat) : DSafe (field v i) := by
  unfold field
  refine DSafe.bind (m := fieldsOf v) (ds_fields v) fun o => ?_
  split
  · exact .pure
  · exact .unsup
theorem ds_mapFields (f : Array Value → Array Value) (o : Obj) : (Obj.mapFields f o).dict = o.dict ∧ (Obj.mapFields f o).isFreed = o.isFreed := by
  obtain ⟨c, d, x, sl⟩ := o
  cases x <;> exact ⟨rfl, rfl⟩
theorem ds_setField (v : Value) (i : Nat) (x : Value) : DSafe (setField v i x) := by
  unfold setField
  split
  · unfold updateField
    refine DSafe.bind (m := load _) (.load fun o => .pure) fun o => ?_
    split
    · split
      · exact .update (ds_mapFields _) fun _ => .pure
      · exact .unsup
    · exact .unsup
  · exact .unsup
theorem ds_setFlight (e : Value) (f : Option Addr) : DSafe (setFlight e f) := by
  unfold setFlight
  refine DSafe.bind (m := field e 1) (ds_field e 1) fun tb => ?_
  split
  · exact ds_setField _ _ _
  · exact .pure
theorem ds_asIs (ty : String) (d : Data) : DSafe (newObjAsIs (.type ty) d) := by
  unfold newObjAsIs
  exact DSafe.bind (m := alloc _) (.alloc fun _ => .pure) fun a => DSafe.bind (m := Pure.pure _) .pure fun _ => .pure
theorem ds_newFields (ty : String) (vs : List Value) : DSafe (newFields ty vs) := by
  unfold newFields newObj
  dsimp only
  split
  · exact DSafe.bind (m := unsupported _) .unsup fun _ => ds_asIs _ _
  · exact ds_asIs _ _
theorem ds_stack : DSafe stack := .stack fun _ => .pure
theorem ds_behind (env : Env) (outer : List Env) : DSafe (behindIsImport env outer) := by
  unfold behindIsImport
  split
  · exact .pure
  · split
    · exact .pure
    · exact DSafe.bind (m := field _ _) (ds_field _ _) fun _ => .pure
theorem ds_under : DSafe underTheClaimsCaller := DSafe.bind (m := stack) ds_stack fun _ => .pure
theorem ds_kept (env : Env) (b : Bool) (l : List Env) : DSafe (keptBack env b l) := by
  cases l
  · show DSafe (if _ then _ else _)
    split
    · exact .pure
    · exact DSafe.bind (m := underTheClaimsCaller) ds_under fun _ => .pure
  · exact .pure
theorem ds_ready : ∀ l : List Env, DSafe (readyFrames l)
  | [] => .pure
  | env :: outer => by
    unfold readyFrames
    split
    · refine DSafe.bind (m := load _) (.load fun _ => .pure) fun o => ?_
      split
      · exact .pure
      · refine DSafe.bind (m := behindIsImport _ _) (ds_behind _ _) fun b => ?_
        refine DSafe.bind (m := keptBack _ _ _) (ds_kept _ _ _) fun k => ?_
        exact DSafe.bind (m := update _ _) (.update (fun o => ⟨rfl, by obtain ⟨_, _, x, _⟩ := o; cases x <;> rfl⟩) fun _ => .pure) fun _ => ds_ready outer
    · exact .unsup
theorem ds_frameObject (l : List Env) : DSafe (frameObject l) := by
  cases l
  · exact .pure
  · exact DSafe.bind (m := readyFrames _) (ds_ready _) fun _ => .pure
theorem ds_frameOf (env : Env) : DSafe (PySem.frameOf env) := by
  unfold PySem.frameOf
  refine DSafe.bind (m := frameEnvs) (DSafe.bind (m := stack) ds_stack fun _ => .pure) fun l => ?_
  refine DSafe.bind (m := frameObject _) (ds_frameObject _) fun o => ?_
  split
  · exact .pure
  · exact .unsup
theorem ds_place (f : Addr) (b : Bool) : DSafe (entryPlaceOf f b) := by
  unfold entryPlaceOf
  refine DSafe.bind (m := stack) ds_stack fun l => ?_
  split
  · exact .pure
  · exact .pure
theorem ds_noteFrame (e : Value) (env : Env) : DSafe (noteFrame e env) := by
  unfold noteFrame
  split
  · refine DSafe.bind (m := field e 1) (ds_field e 1) fun head => ?_
    have tail : DSafe (do setField e 1 (← EntryCells.newEntry head (← PySem.frameOf env) .none (rawInt ‹Addr›) .none (← entryPlaceOf ‹Addr› (head != .none)))) :=
      DSafe.bind (m := PySem.frameOf env) (ds_frameOf env) fun _ => DSafe.bind (m := entryPlaceOf _ _) (ds_place _ _) fun _ => DSafe.bind (m := EntryCells.newEntry _ _ _ _ _ _) (ds_newFields _ _) fun _ => ds_setField _ _ _
    split
    · refine DSafe.bind (m := field head 3) (ds_field head 3) fun x => ?_
      split
      · exact .pure
      · exact DSafe.bind (m := setField head 3 _) (ds_setField _ _ _) fun _ => tail
    · exact tail
  · exact .unsup
theorem ds_leaving (env : Env) (e : Value) : DSafe (leaving env e) := DSafe.bind (m := noteFrame e env) (ds_noteFrame e env) fun _ => ds_setFlight e none

abbrev msgT (u : Tok) : Value := .str (Str.ofString "a value is thrown") u
abbrev tupO (vs : List Value) (c : Nat := 0) : Obj := { cls := .type "tuple", data := .seq vs.toArray c }
/-- the value of our exception: a word, a pair that says InexactError, the rest -/
def ValIn (V : Addr) (l : Ledger) : Prop := ∃ K x y c1 i1 i2 z c2, (V, ({ cls := .type "tuple", data := .seq #[x, .ref K, y] c1 } : Obj)) ∈ l ∧ (K, ({ cls := .type "tuple", data := .seq #[.str (Str.ofString "name") i1, .str (Str.ofString "InexactError") i2, z] c2 } : Obj)) ∈ l
/-- our exception flies: its dict goes with it -/
def RaisedX (w : World) (base : Heap) (l : List Env) (e : Addr) (news : Ledger) (h : Heap) : Prop :=
  ∃ t dd a b c u V led, RaisedK base l e (.ref 52) t [msgT u] ((dd, dx3 w.params a b c (msgT u) .none (.ref V)) :: led) h ∧ ValIn V led ∧ (∀ p ∈ news, p ∈ led) ∧ ∃ o, h.get? e = some o ∧ o.dict = some dd
section
variable {w : World} {A : Around} {E : Value → Shared → Prop} {s' : Shared} {base g g₂ : Heap} {outer : List Env} {L a e : Addr} {m : Str → Option Value} {name : Str} {scope : Scope} {cd : Value} {Q : Unit → Shared → Prop} {news : Ledger}
theorem leave_raiseX {t dd V : Addr} {a' b' c' u : Tok} {l : Ledger} (K : Below A base outer g) (F : Fr g L s'.heap m) (N : News g L s'.heap ((dd, dx3 w.params a' b' c' (msgT u) .none (.ref V)) :: (t, tupO [msgT u]) :: (e, excO t (some dd)) :: l))
    (hl : ∀ p ∈ l, p.1 < e) (h1 : e < t) (h2 : t < dd) (hV : ValIn V l) (hn : ∀ p ∈ news, p ∈ l)
    (hQ : ∀ h', RaisedX w base outer e news h' → g.UpToSlots h' → Q () { s' with heap := h' }) (hk : scope.kind = .function := by rfl) :
    wpAny (mdl w) (A.deeper (envOf name scope L a cd)) (leaving (envOf name scope L a cd) (.ref e)) Q E s' := by
  have K' := K.push (name := name) (a := a) (cd := cd) F hk
  have O := (N _ (.tail _ (.tail _ (.head _))))
  have T := (N _ (.tail _ (.head _)))
  have D := (N _ (.head _))
  have as : List Addr := e :: t :: (envOf name scope L a cd :: outer).filterMap (·.frame)
  have hfn : ∀ p, p ∈ ((dd, dx3 w.params a' b' c' (msgT u) .none (.ref V)) :: (t, tupO [msgT u]) :: (e, excO t (some dd)) :: l : Ledger) → p.1 ∉ (envOf name scope L a cd :: outer).filterMap (·.frame) := fun p hp hm => by
    obtain ⟨env, he, hf⟩ := List.mem_filterMap.mp hm
    rcases List.mem_cons.mp he with rfl | he
    · exact (N p hp).2.1 (Option.some.inj hf).symm
    · obtain ⟨o, ho, _⟩ := (K.frames.mem (List.mem_filterMap.mpr ⟨env, he, hf⟩)).2
      rw [(N p hp).2.2] at ho; cases ho
  have hbn : ∀ p, p ∈ ((dd, dx3 w.params a' b' c' (msgT u) .none (.ref V)) :: (t, tupO [msgT u]) :: (e, excO t (some dd)) :: l : Ledger) → base.get? p.1 = none := fun p hp => fresh_of_stays K.stays (N p hp).2.2
  have hin : ∀ env ∈ (envOf name scope L a cd :: outer), ∀ b, env.frame = some b → b ∈ e :: t :: (envOf name scope L a cd :: outer).filterMap (·.frame) := fun env he b hb => .tail _ (.tail _ (List.mem_filterMap.mpr ⟨env, he, hb⟩))
  have st : base.StaysIn (hideAll s'.heap (e :: t :: (envOf name scope L a cd :: outer).filterMap (·.frame))) := fun b o q => hideAll_get _ (K'.stays b o q) fun hm => by
    rcases List.mem_cons.mp hm with rfl | hm
    · have := hbn _ (.tail _ (.tail _ (.head _))); rw [this] at q; cases q
    · rcases List.mem_cons.mp hm with rfl | hm
      · have := hbn _ (.tail _ (.head _)); rw [this] at q; cases q
      · rw [(K'.frames.mem hm).1] at q; cases q
  have hB : ∀ q ∈ ((dd, dx3 w.params a' b' c' (msgT u) .none (.ref V)) :: l : Ledger), (hideAll s'.heap (e :: t :: (envOf name scope L a cd :: outer).filterMap (·.frame))).get? q.1 = some q.2 ∧ base.get? q.1 = none := fun q hq => by
    have hq' : q ∈ ((dd, dx3 w.params a' b' c' (msgT u) .none (.ref V)) :: (t, tupO [msgT u]) :: (e, excO t (some dd)) :: l : Ledger) := by
      rcases List.mem_cons.mp hq with rfl | hq
      · exact .head _
      · exact .tail _ (.tail _ (.tail _ hq))
    refine ⟨hideAll_get _ (N q hq').1 fun hm => ?_, hbn q hq'⟩
    have hne : q.1 ≠ e ∧ q.1 ≠ t := by
      rcases List.mem_cons.mp hq with rfl | hq
      · exact ⟨Nat.ne_of_gt (Nat.lt_trans h1 h2), Nat.ne_of_gt h2⟩
      · exact ⟨Nat.ne_of_lt (hl q hq), Nat.ne_of_lt (Nat.lt_trans (hl q hq) h1)⟩
    rcases List.mem_cons.mp hm with z | hm
    · exact hne.1 z
    · rcases List.mem_cons.mp hm with z | hm
      · exact hne.2 z
      · exact hfn q hq' hm
  have hen := hideAll_none (h := s'.heap) (e :: t :: (envOf name scope L a cd :: outer).filterMap (·.frame)) (.head _)
  have htn := hideAll_none (h := s'.heap) (e :: t :: (envOf name scope L a cd :: outer).filterMap (·.frame)) (.tail _ (.head _))
  refine wpAny_mono ((ds_leaving _ _).any (wpAny_leaving_firstW (Q := fun _ s'' => ∃ h', s'' = { s' with heap := h' } ∧ Heap.LeftW _ (envOf name scope L a cd :: outer) e (.ref 52) (.ref t) s'.heap h') (E := E) (a0 := .ref t) K'.stack (funFrames_hide K'.frames hin) rfl O.1 (fun b o q => of_hideAll _ q) hen rfl rfl rfl fun h' hL => ⟨h', rfl, hL⟩)) (fun _ s'' z => ?_) fun _ _ z => z.1
  obtain ⟨⟨h', rfl, k1, ⟨_, _, k2⟩, k3, k4⟩, kd⟩ := z
  obtain ⟨o', o1, o2⟩ := kd e _ O.1
  exact hQ h' ⟨t, dd, a', b', c', u, V, l, ⟨⟨_, st, hB, ⟨k1, hen, k2, k3⟩, htn⟩, Heap.TupAt.of_slots ⟨_, _, T.1, rfl, rfl⟩ k4⟩, hV, hn, o', o1, o2⟩ (((Heap.UpToSlots.of_keeps F.keep)).trans k4)
theorem leave_onX (K : Below A base outer g) (F : Fr g L g₂ m) (R : RaisedX w base (envOf name scope L a cd :: outer) e news s'.heap) (hsm : g₂.UpToSlots s'.heap)
    (hQ : ∀ h', RaisedX w base outer e news h' → g.UpToSlots h' → Q () { s' with heap := h' }) :
    wpAny (mdl w) (A.deeper (envOf name scope L a cd)) (leaving (envOf name scope L a cd) (.ref e)) Q E s' := by
  obtain ⟨t, dd, a', b', c', u, V, led, R, hV, hn, o, o1, o2⟩ := R
  refine wpAny_mono ((ds_leaving _ _).any (leave_onK (Q := fun _ s'' => ∃ h', s'' = { s' with heap := h' } ∧ RaisedK base outer e (.ref 52) t [msgT u] ((dd, dx3 w.params a' b' c' (msgT u) .none (.ref V)) :: led) h' ∧ g.UpToSlots h') (E := E) K F R hsm fun h' x1 x2 => ⟨h', rfl, x1, x2⟩)) (fun _ s'' z => ?_) fun _ _ z => z.1
  obtain ⟨⟨h', rfl, x1, x2⟩, kd⟩ := z
  obtain ⟨o', p1, p2⟩ := kd e _ o1
  exact hQ h' ⟨t, dd, a', b', c', u, V, led, x1, hV, hn, o', p1, p2.trans o2⟩ x2
end

section
variable {w : World} {A : Around} {E : Value → Shared → Prop} {s : Shared} {env : Env} {P : Params}
theorem raise_inst {x : Sem Value} {Q : Flow → Shared → Prop} (hh : A.handled = none)
    (h : wpAny (mdl w) A x (fun v s₁ => ∃ e t dx, v = .ref e ∧ (frg.heap_1 P).In s₁.heap ∧ s₁.heap.get? e = some (excO t dx) ∧ E (.ref e) s₁) E s) :
    wpAny (mdl w) A (raiseStmt env (some x) none) Q E s := by
  unfold raiseStmt
  refine wpAny_bind (wpAny_mono h (fun v s₁ h₁ => ?_) fun _ _ x => x)
  obtain ⟨e, t, dx, rfl, X, he, hE⟩ := h₁
  obtain ⟨hp, g, d, tk, os⟩ := s₁
  have t1 := exc_typeOf (w := w) he
  have i1 := exc_isBase (w := w) X
  have hC := at52 X
  have i2 : Looks (mdl w) hp (isSubtype (.ref 52) (.type "type")) false := looks_mroIn X (by kernel_rfl)
  repeat lk
  refine wpAny_handled ?_
  rw [hh]
  exact wpAny_throw hE
theorem Raise_inst {x : PySem.Expr} {pos : Pos} {Q : Flow → Shared → Prop} (hh : A.handled = none)
    (h : wpAny (mdl w) A (eval x env) (fun v s₁ => ∃ e t dx, v = .ref e ∧ (frg.heap_1 P).In s₁.heap ∧ s₁.heap.get? e = some (excO t dx) ∧ E (.ref e) s₁) E s) :
    wpAny (mdl w) A (exec (.Raise (some x) none pos) env) Q E s := by
  rw [arm_exec_Raise]
  simp only [evalOpt, Option.map]
  exact wpAny_bind (wpAny_standAt (raise_inst hh (wpAny_bind (wpAny_mono h (fun v s₁ q => wpAny_bind (wpAny_standAt (wpAny_pure q))) fun _ _ x => x))))
end
def fitsB (k : Kd) (n : Int) : Bool := if loE k ≤ n then decide (n ≤ hiE k) else decide (loE k ≤ n)
theorem lo_s {k : Kd} (h : k.fixed = true) (hs : k.signed = true) : loE k = 0 - 2 ^ ((k.w : Int) - 1).toNat ∧ hiE k = 2 ^ ((k.w : Int) - 1).toNat - 1 := by
  cases k <;> first | exact absurd h Bool.false_ne_true | exact absurd hs Bool.false_ne_true | exact ⟨by decide, by decide⟩
theorem lo_u {k : Kd} (h : k.fixed = true) (hs : k.signed = false) : loE k = 0 ∧ hiE k = 2 ^ (k.w : Int).toNat - 1 := by
  cases k <;> first | exact absurd h Bool.false_ne_true | exact absurd hs.symm Bool.false_ne_true | exact ⟨by decide, by decide⟩
theorem fit1 {k : Kd} {n : Int} (h : k.fixed = true) (hs : k.signed = true) (c : 0 - 2 ^ ((k.w : Int) - 1).toNat ≤ n) : decide (n ≤ 2 ^ ((k.w : Int) - 1).toNat - 1) = fitsB k n := by
  unfold fitsB; rw [(lo_s h hs).1, (lo_s h hs).2, if_pos c]
theorem fit2 {k : Kd} {n : Int} (h : k.fixed = true) (hs : k.signed = true) (c : ¬ 0 - 2 ^ ((k.w : Int) - 1).toNat ≤ n) : decide (0 - 2 ^ ((k.w : Int) - 1).toNat ≤ n) = fitsB k n := by
  unfold fitsB; rw [(lo_s h hs).1, if_neg c]
theorem fit3 {k : Kd} {n : Int} (h : k.fixed = true) (hs : k.signed = false) (c : 0 ≤ n) : decide (n ≤ 2 ^ (k.w : Int).toNat - 1) = fitsB k n := by
  unfold fitsB; rw [(lo_u h hs).1, (lo_u h hs).2, if_pos c]
theorem fit4 {k : Kd} {n : Int} (h : k.fixed = true) (hs : k.signed = false) (c : ¬ 0 ≤ n) : decide (0 ≤ n) = fitsB k n := by
  unfold fitsB; rw [(lo_u h hs).1, if_neg c]
set_option maxHeartbeats 8000000 in
theorem c_fits (w : World) (k : Kd) (hk9 : k.fixed = true) (n : Int) (t t' : Tok) (news : Ledger) : Ctr w 4 125 [.str k.str t, .int n t'] news (fun r n' => r = .bool (fitsB k n) ∧ n' = news) := by
  have hbig := kd_eq_big k hk9
  have hw := kd_w k hk9
  obtain ⟨tw, hwd⟩ := kd_width w.params k hk9
  intro mean mg mb dp un gd env outer A₀ base h₀ L m hp gs dr tk0 os Q E B F X N T hf hk hdp hun hret
  k_with_none
  (k_with "eval Call" => first | k_compRoot | (k_here; (with_reducible show wpAny _ _ (eval _ (compEnvC _ _ _ _)) _ _ _); k_dflt (refine Call_ ?_)) | (k_here; (with_reducible show wpAny _ _ (eval (PySem.Expr.Call (PySem.Expr.Name _ _) [PySem.Expr.Name _ _] [] _) _) _ _ _); k_dflt (refine' callN1 ?F ?X ?T ?e ?k ?x ?_ ?c ?g ?l ?df ?dx; (case F => k_asm); (case X => k_asm); (case T => k_asm); (case e => k_is); (case k => k_is); (case x => exact rfl); (case c => exact rfl); (case g => exact rfl); (case l => exact rfl); (case df => decide); (case dx => decide); k_whole)) | (k_here; (with_reducible show wpAny _ _ (eval (PySem.Expr.Call (PySem.Expr.Name _ _) [PySem.Expr.Name _ _, PySem.Expr.Name _ _] [] _) _) _ _ _); k_dflt (refine' callN2 ?F ?X ?T ?e ?k ?x ?y ?_ ?c ?g ?l ?m ?df ?dx ?dy; (case F => k_asm); (case X => k_asm); (case T => k_asm); (case e => k_is); (case k => k_is); (case x => exact rfl); (case y => exact rfl); (case c => exact rfl); (case g => exact rfl); (case l => exact rfl); (case m => exact rfl); (case df => decide); (case dx => decide); (case dy => decide); k_whole)) | (k_here; (with_reducible show wpAny _ _ (eval (PySem.Expr.Call (PySem.Expr.Name _ _) [_] [] _) _) _ _ _); k_dflt (refine' callE1 ?F ?X ?T ?e ?k ?_ ?c ?g ?df ?h1; (case F => k_asm); (case X => k_asm); (case T => k_asm); (case e => k_is); (case k => k_is); (case c => exact rfl); (case g => exact rfl); (case df => decide); (case h1 => exact rfl); k_whole)) | (k_here; (with_reducible show wpAny _ _ (eval (PySem.Expr.Call (PySem.Expr.Name _ _) [_, _] [] _) _) _ _ _); k_dflt (refine' callE2 ?F ?X ?T ?e ?k ?_ ?c ?g ?df ?h1 ?h2; (case F => k_asm); (case X => k_asm); (case T => k_asm); (case e => k_is); (case k => k_is); (case c => exact rfl); (case g => exact rfl); (case df => decide); (case h1 => exact rfl); (case h2 => exact rfl); k_whole)) | k_dflt (refine Call_ ?_))
  (k_with "binaryOp Pow int int" => (k_here; (with_reducible refine pow_int_small ?kb1 ?kb2 ?kb3 ?_); (case kb1 => omega); (case kb2 => omega); (case kb3 => decide)))
  (k_with "call ref" => (k_here; k_dflt (refine' Ctr.use (c_is_signed w _ _ _) ?hz1 ?hz2 ?hz3 ?hz4 ?hz5 ?hz6 ?hz7 ?hz8 ?hz9 ?_; (case hz1 => k_asm); (case hz2 => k_asm); (case hz3 => k_asm); (case hz4 => k_asm); (case hz5 => k_asm); (case hz6 => first | exact rfl | assumption);  (case hz7 => first | exact rfl | assumption); (case hz8 => ktr_room); (case hz9 => ktr_units); intro r' n' h' tk' hp' F' N'; obtain ⟨rfl, rfl⟩ := hp'; (try dsimp only); (try k_fold))))
  (k_with "subscriptTail Name Name ref str" => (k_here; k_dflt (refine' topItem_K ?F ?X ?l ?k hwd ?_; (case F => k_asm); (case X => k_asm); (case l => k_is); (case k => k_keys))))
  (refine wpAny_call ?_; k_dflt (refine' code_def (binds := [(Str.ofString "kind", Value.str k.str t), (Str.ofString "number", Value.int n t')]) ?k1 ?k2 ?k3 ?k4 ?k5 ?kA ?kF ?kK ?k6 ?k7 ?k8 ?k9 ?kB ?_ ?c2 ?c3 ?c4 ?c5; (case kA => exact rfl); (case kF => assumption); (case kK => assumption); (case k1 => k_asm); (case k2 => k_asm); (case k3 => k_asm); (case k4 => k_asm); (case k5 => k_asm); (case k6 => k_is); (case k7 => k_is); (case k8 => ktr_room); (case k9 => first | exact BindsTo.of_eq rfl | exact binds_K (by k_in) rfl (by k_is) rfl rfl rfl); (case c5 => decide); (case kB => exact locs rfl); (case c2 => exact rfl); (case c3 => exact rfl); (case c4 => exact rfl); k_whole; intro g' L' h' FG' F' N' B' X' T'; (try dsimp only); (try k_lift B'); (try k_fold)))
  k_steps
  all_goals first
    | exact hret _ _ _ _ ⟨congrArg Value.bool (fit1 hk9 (by assumption) (by assumption)), rfl⟩ (by k_asm) (by k_asm)
    | exact hret _ _ _ _ ⟨congrArg Value.bool (fit2 hk9 (by assumption) (by assumption)), rfl⟩ (by k_asm) (by k_asm)
    | exact hret _ _ _ _ ⟨congrArg Value.bool (fit3 hk9 (by assumption) (by assumption)), rfl⟩ (by k_asm) (by k_asm)
    | exact hret _ _ _ _ ⟨congrArg Value.bool (fit4 hk9 (by assumption) (by assumption)), rfl⟩ (by k_asm) (by k_asm)

/-- what a call of the def at f does that may raise our exception: where ok it comes back, else it flies -/
def CtrX (w : World) (d : Nat) (f : Addr) (vs : List Value) (news : Ledger) (ok : Prop) (post : Value → Ledger → Prop) : Prop :=
  ∀ (mean : ExcName → Option Value) (mg mb : Str → Option Value) (dp un : Nat) (gd : Option (List Code)) (env : Env) (outer : List Env) (A₀ : Around) (base h₀ : Heap) (L : Addr) (m : Str → Option Value) (hp : Heap) (gs : Array GenState) (dr : Drawn) (tk0 : Nat) (os : OsState) (Q E : Value → Shared → Prop),
    Below A₀ base outer h₀ → Fr h₀ L hp m → (frg.heap_1 w.params).In h₀ → News h₀ L hp news → Top vw loose2 mean mg mb h₀ → env.frame = some L → env.scope.kind = .function → dp + d < recursionLimit → un + 20 * d < cLine →
    (ok → ∀ r news' h' tk', post r news' → Fr h₀ L h' m → News h₀ L h' news' → Q r ⟨h', gs, dr, tk', os⟩) →
    (¬ ok → ∀ e g h' tk', Fr h₀ L g m → g.UpToSlots h' → RaisedX w base (env :: outer) e news h' → E (.ref e) ⟨h', gs, dr, tk', os⟩) →
    wpAny (model PySem.Challenge.pw_pc0192_01 w) (topA dp un gd env outer) (call (.ref f) vs) Q E ⟨hp, gs, dr, tk0, os⟩
set_option maxHeartbeats 8000000 in
theorem c_kind_value (w : World) (k : Kd) (t : Tok) (news : Ledger) : Ctr w 1 146 [.str k.str t] news (fun r n' => (∃ V, r = .ref V) ∧ n' = news) := by
  intro mean mg mb dp un gd env outer A₀ base h₀ L m hp gs dr tk0 os Q E B F X N T hf hk hdp hun hret
  k_with_none
  (k_with "eval Call" => first | k_compRoot | (k_here; (with_reducible show wpAny _ _ (eval _ (compEnvC _ _ _ _)) _ _ _); k_dflt (refine Call_ ?_)) | (k_here; (with_reducible show wpAny _ _ (eval (PySem.Expr.Call (PySem.Expr.Name _ _) [PySem.Expr.Name _ _] [] _) _) _ _ _); k_dflt (refine' callN1 ?F ?X ?T ?e ?k ?x ?_ ?c ?g ?l ?df ?dx; (case F => k_asm); (case X => k_asm); (case T => k_asm); (case e => k_is); (case k => k_is); (case x => exact rfl); (case c => exact rfl); (case g => exact rfl); (case l => exact rfl); (case df => decide); (case dx => decide); k_whole)) | (k_here; (with_reducible show wpAny _ _ (eval (PySem.Expr.Call (PySem.Expr.Name _ _) [PySem.Expr.Name _ _, PySem.Expr.Name _ _] [] _) _) _ _ _); k_dflt (refine' callN2 ?F ?X ?T ?e ?k ?x ?y ?_ ?c ?g ?l ?m ?df ?dx ?dy; (case F => k_asm); (case X => k_asm); (case T => k_asm); (case e => k_is); (case k => k_is); (case x => exact rfl); (case y => exact rfl); (case c => exact rfl); (case g => exact rfl); (case l => exact rfl); (case m => exact rfl); (case df => decide); (case dx => decide); (case dy => decide); k_whole)) | (k_here; (with_reducible show wpAny _ _ (eval (PySem.Expr.Call (PySem.Expr.Name _ _) [_] [] _) _) _ _ _); k_dflt (refine' callE1 ?F ?X ?T ?e ?k ?_ ?c ?g ?df ?h1; (case F => k_asm); (case X => k_asm); (case T => k_asm); (case e => k_is); (case k => k_is); (case c => exact rfl); (case g => exact rfl); (case df => decide); (case h1 => exact rfl); k_whole)) | (k_here; (with_reducible show wpAny _ _ (eval (PySem.Expr.Call (PySem.Expr.Name _ _) [_, _] [] _) _) _ _ _); k_dflt (refine' callE2 ?F ?X ?T ?e ?k ?_ ?c ?g ?df ?h1 ?h2; (case F => k_asm); (case X => k_asm); (case T => k_asm); (case e => k_is); (case k => k_is); (case c => exact rfl); (case g => exact rfl); (case df => decide); (case h1 => exact rfl); (case h2 => exact rfl); k_whole)) | k_dflt (refine Call_ ?_))
  (k_with "newTuple" => (k_here; k_dflt (refine' kup_newTuple ?F ?N ?_ ?z; (case F => k_asm); (case N => k_asm); (case z => kmk_size)); intro D' h' F' N' lD; (try k_sweep)))
  (refine wpAny_call ?_; k_dflt (refine' code_def (binds := [(Str.ofString "kind", Value.str k.str t)]) ?k1 ?k2 ?k3 ?k4 ?k5 ?kA ?kF ?kK ?k6 ?k7 ?k8 ?k9 ?kB ?_ ?c2 ?c3 ?c4 ?c5; (case kA => exact rfl); (case kF => assumption); (case kK => assumption); (case k1 => k_asm); (case k2 => k_asm); (case k3 => k_asm); (case k4 => k_asm); (case k5 => k_asm); (case k6 => k_is); (case k7 => k_is); (case k8 => ktr_room); (case k9 => first | exact BindsTo.of_eq rfl | exact binds_K (by k_in) rfl (by k_is) rfl rfl rfl); (case c5 => decide); (case kB => exact locs rfl); (case c2 => exact rfl); (case c3 => exact rfl); (case c4 => exact rfl); k_whole; intro g' L' h' FG' F' N' B' X' T'; (try dsimp only); (try k_lift B'); (try k_fold)))
  k_steps
  all_goals exact hret _ _ _ _ ⟨⟨_, rfl⟩, rfl⟩ (by k_asm) (cb_drop (by k_asm) (by intro p hp; repeat (first | exact hp | apply List.mem_cons_of_mem)))
set_option maxHeartbeats 8000000 in
theorem c_converted (w : World) (k : Kd) (hk9 : k.fixed = true) (n : Int) (t t' : Tok) (v : Value) (news : Ledger) : CtrX w 12 153 [.str k.str t, .int n t', v] news (fitsB k n = true) (fun r n' => (∃ t, r = .int n t) ∧ n' = news) := by
  have hbig := kd_eq_big k hk9
  intro mean mg mb dp un gd env outer A₀ base h₀ L m hp gs dr tk0 os Q E B F X N T hf hk hdp hun hret hexc
  k_with_none
  (k_with "eval Call" => first | k_compRoot | (k_here; (with_reducible show wpAny _ _ (eval _ (compEnvC _ _ _ _)) _ _ _); k_dflt (refine Call_ ?_)) | (k_here; (with_reducible show wpAny _ _ (eval (PySem.Expr.Call (PySem.Expr.Name _ _) [PySem.Expr.Name _ _] [] _) _) _ _ _); k_dflt (refine' callN1 ?F ?X ?T ?e ?k ?x ?_ ?c ?g ?l ?df ?dx; (case F => k_asm); (case X => k_asm); (case T => k_asm); (case e => k_is); (case k => k_is); (case x => exact rfl); (case c => exact rfl); (case g => exact rfl); (case l => exact rfl); (case df => decide); (case dx => decide); k_whole)) | (k_here; (with_reducible show wpAny _ _ (eval (PySem.Expr.Call (PySem.Expr.Name _ _) [PySem.Expr.Name _ _, PySem.Expr.Name _ _] [] _) _) _ _ _); k_dflt (refine' callN2 ?F ?X ?T ?e ?k ?x ?y ?_ ?c ?g ?l ?m ?df ?dx ?dy; (case F => k_asm); (case X => k_asm); (case T => k_asm); (case e => k_is); (case k => k_is); (case x => exact rfl); (case y => exact rfl); (case c => exact rfl); (case g => exact rfl); (case l => exact rfl); (case m => exact rfl); (case df => decide); (case dx => decide); (case dy => decide); k_whole)) | (k_here; (with_reducible show wpAny _ _ (eval (PySem.Expr.Call (PySem.Expr.Name _ _) [_] [] _) _) _ _ _); k_dflt (refine' callE1 ?F ?X ?T ?e ?k ?_ ?c ?g ?df ?h1; (case F => k_asm); (case X => k_asm); (case T => k_asm); (case e => k_is); (case k => k_is); (case c => exact rfl); (case g => exact rfl); (case df => decide); (case h1 => exact rfl); k_whole)) | (k_here; (with_reducible show wpAny _ _ (eval (PySem.Expr.Call (PySem.Expr.Name _ _) [_, _] [] _) _) _ _ _); k_dflt (refine' callE2 ?F ?X ?T ?e ?k ?_ ?c ?g ?df ?h1 ?h2; (case F => k_asm); (case X => k_asm); (case T => k_asm); (case e => k_is); (case k => k_is); (case c => exact rfl); (case g => exact rfl); (case df => decide); (case h1 => exact rfl); (case h2 => exact rfl); k_whole)) | k_dflt (refine Call_ ?_))
  (k_with "newTuple" => (k_here; k_dflt (refine' kup_newTuple ?F ?N ?_ ?z; (case F => k_asm); (case N => k_asm); (case z => kmk_size)); intro D' h' F' N' lD; (try k_sweep)))
  (k_with "call ref" => first
    | (k_here; (with_reducible show wpAny _ _ (call (Value.ref 125) [_, _]) _ _ _); k_dflt (refine' Ctr.use (c_fits w k hk9 n _ _ _) ?hz1 ?hz2 ?hz3 ?hz4 ?hz5 ?hz6 ?hz7 ?hz8 ?hz9 ?_; (case hz1 => k_asm); (case hz2 => k_asm); (case hz3 => k_asm); (case hz4 => k_asm); (case hz5 => k_asm); (case hz6 => first | exact rfl | assumption);  (case hz7 => first | exact rfl | assumption); (case hz8 => ktr_room); (case hz9 => ktr_units); intro r' n' h' tk' hp' F' N'; obtain ⟨rfl, rfl⟩ := hp'; (try dsimp only); (try k_fold)))
    | (k_here; (with_reducible show wpAny _ _ (call (Value.ref 146) [_]) _ _ _); k_dflt (refine' Ctr.use (c_kind_value w k _ _) ?hz1 ?hz2 ?hz3 ?hz4 ?hz5 ?hz6 ?hz7 ?hz8 ?hz9 ?_; (case hz1 => k_asm); (case hz2 => k_asm); (case hz3 => k_asm); (case hz4 => k_asm); (case hz5 => k_asm); (case hz6 => first | exact rfl | assumption);  (case hz7 => first | exact rfl | assumption); (case hz8 => ktr_room); (case hz9 => ktr_units); intro r' n' h' tk' hp' F' N'; obtain ⟨⟨V0, rfl⟩, rfl⟩ := hp'; (try dsimp only); (try k_fold)))
    | (k_here; (with_reducible show wpAny _ _ (call (Value.ref 82) [_, _]) _ _ _); k_dflt (refine' Ctr.use (c_thrown w _ _ _ _ _ _ _ ?hm1) ?hz1 ?hz2 ?hz3 ?hz4 ?hz5 ?hz6 ?hz7 ?hz8 ?hz9 ?_; (case hz1 => k_asm); (case hz2 => k_asm); (case hz3 => k_asm); (case hz4 => k_asm); (case hz5 => k_asm); (case hz6 => first | exact rfl | assumption); (case hm1 => kcj_m);  (case hz7 => first | exact rfl | assumption); (case hz8 => ktr_room); (case hz9 => ktr_units); intro r' n' h' tk' hp' F' N'; obtain ⟨e, t1, dd, a', b', c', u, V, l, rfl, rfl, hV, hsub, l1, l2, l3⟩ := hp'; refine ⟨e, t1, some dd, rfl, Frag.In.keeps (by k_asm) (Fr.keep F'), (N' _ (.tail _ (.tail _ (.head _)))).1, ?_⟩; (try dsimp only); (try k_fold))))
  (k_with "exec Raise some none" => (k_here; k_dflt (refine' Raise_inst (P := w.params) rfl ?_)))
  (refine wpAny_call ?_; k_dflt (refine' code_def (binds := [(Str.ofString "kind", Value.str k.str t), (Str.ofString "number", Value.int n t'), (Str.ofString "value", v)]) ?k1 ?k2 ?k3 ?k4 ?k5 ?kA ?kF ?kK ?k6 ?k7 ?k8 ?k9 ?kB ?_ ?c2 ?c3 ?c4 ?c5; (case kA => exact rfl); (case kF => assumption); (case kK => assumption); (case k1 => k_asm); (case k2 => k_asm); (case k3 => k_asm); (case k4 => k_asm); (case k5 => k_asm); (case k6 => k_is); (case k7 => k_is); (case k8 => ktr_room); (case k9 => first | exact BindsTo.of_eq rfl | exact binds_K (by k_in) rfl (by k_is) rfl rfl rfl); (case c5 => decide); (case kB => exact locs rfl); (case c2 => exact rfl); (case c3 => exact rfl); (case c4 => exact rfl); k_whole; intro g' L' h' FG' F' N' B' X' T'; (try dsimp only); (try k_lift B'); (try k_fold)))
  k_steps
  all_goals first
    | exact hret (by assumption) _ _ _ _ ⟨⟨_, rfl⟩, rfl⟩ (by k_asm) (by k_asm)
    | exact leave_raiseX B' F' N' l1 l2 l3 hV (fun p hp => hsub p (.tail _ (.tail _ hp))) fun h9 R9 S9 => hexc (fun q => Bool.false_ne_true ((show _ = false by assumption).symm.trans q)) _ _ _ _ FG' S9 R9
theorem CtrX.use {w : World} {d : Nat} {f : Addr} {vs : List Value} {news : Ledger} {ok : Prop} {post : Value → Ledger → Prop} (C : CtrX w d f vs news ok post)
    {mean : ExcName → Option Value} {mg mb : Str → Option Value} {dp un : Nat} {gd : Option (List Code)} {env : Env} {outer : List Env} {A₀ : Around} {base h₀ : Heap} {L : Addr} {m : Str → Option Value} {hp : Heap} {gs : Array GenState} {dr : Drawn} {tk0 : Nat} {os : OsState} {Q E : Value → Shared → Prop}
    (B : Below A₀ base outer h₀) (F : Fr h₀ L hp m) (X : (frg.heap_1 w.params).In h₀) (N : News h₀ L hp news) (T : Top vw loose2 mean mg mb h₀) (hf : env.frame = some L) (hk : env.scope.kind = .function) (hdp : dp + d < recursionLimit) (hun : un + 20 * d < cLine)
    (hexc : ¬ ok → ∀ e g h' tk', Fr h₀ L g m → g.UpToSlots h' → RaisedX w base (env :: outer) e news h' → E (.ref e) ⟨h', gs, dr, tk', os⟩)
    (ret : ok → ∀ r news' h' tk', post r news' → Fr h₀ L h' m → News h₀ L h' news' → Q r ⟨h', gs, dr, tk', os⟩) :
    wpAny (model PySem.Challenge.pw_pc0192_01 w) (topA dp un gd env outer) (call (.ref f) vs) Q E ⟨hp, gs, dr, tk0, os⟩ :=
  C mean mg mb dp un gd env outer A₀ base h₀ L m hp gs dr tk0 os Q E B F X N T hf hk hdp hun ret hexc
set_option maxHeartbeats 8000000 in
theorem c_converted_to (w : World) (k : Kd) (hk9 : k.fixed = true) (x : V) (t : Tok) (a : Addr) (c : Nat) (t1 t2 t3 : Tok) (news : Ledger) (hm : (a, x.obj c t1 t2 t3) ∈ news) : CtrX w 14 202 [.str k.str t, .ref a] news (fitsB k x.num = true) (NewV news (.i k x.num)) := by
  have hbool : (k.str != Str.ofString "Bool") = true := by rw [bne, kd_eq_bool k (kd_not_bool k hk9)]; rfl
  intro mean mg mb dp un gd env outer A₀ base h₀ L m hp gs dr tk0 os Q E B F X N T hf hk hdp hun hret hexc
  k_with_none
  (k_with "eval Call" => first | k_compRoot | (k_here; (with_reducible show wpAny _ _ (eval _ (compEnvC _ _ _ _)) _ _ _); k_dflt (refine Call_ ?_)) | (k_here; (with_reducible show wpAny _ _ (eval (PySem.Expr.Call (PySem.Expr.Name _ _) [PySem.Expr.Name _ _] [] _) _) _ _ _); k_dflt (refine' callN1 ?F ?X ?T ?e ?k ?x ?_ ?c ?g ?l ?df ?dx; (case F => k_asm); (case X => k_asm); (case T => k_asm); (case e => k_is); (case k => k_is); (case x => exact rfl); (case c => exact rfl); (case g => exact rfl); (case l => exact rfl); (case df => decide); (case dx => decide); k_whole)) | (k_here; (with_reducible show wpAny _ _ (eval (PySem.Expr.Call (PySem.Expr.Name _ _) [PySem.Expr.Name _ _, PySem.Expr.Name _ _] [] _) _) _ _ _); k_dflt (refine' callN2 ?F ?X ?T ?e ?k ?x ?y ?_ ?c ?g ?l ?m ?df ?dx ?dy; (case F => k_asm); (case X => k_asm); (case T => k_asm); (case e => k_is); (case k => k_is); (case x => exact rfl); (case y => exact rfl); (case c => exact rfl); (case g => exact rfl); (case l => exact rfl); (case m => exact rfl); (case df => decide); (case dx => decide); (case dy => decide); k_whole)) | (k_here; (with_reducible show wpAny _ _ (eval (PySem.Expr.Call (PySem.Expr.Name _ _) [_] [] _) _) _ _ _); k_dflt (refine' callE1 ?F ?X ?T ?e ?k ?_ ?c ?g ?df ?h1; (case F => k_asm); (case X => k_asm); (case T => k_asm); (case e => k_is); (case k => k_is); (case c => exact rfl); (case g => exact rfl); (case df => decide); (case h1 => exact rfl); k_whole)) | (k_here; (with_reducible show wpAny _ _ (eval (PySem.Expr.Call (PySem.Expr.Name _ _) [_, _] [] _) _) _ _ _); k_dflt (refine' callE2 ?F ?X ?T ?e ?k ?_ ?c ?g ?df ?h1 ?h2; (case F => k_asm); (case X => k_asm); (case T => k_asm); (case e => k_is); (case k => k_is); (case c => exact rfl); (case g => exact rfl); (case df => decide); (case h1 => exact rfl); (case h2 => exact rfl); k_whole)) | k_dflt (refine Call_ ?_))
  (k_with "call ref" => first
    | (k_here; (with_reducible show wpAny _ _ (call (Value.ref 188) [_]) _ _ _); k_dflt (refine' Ctr.use (c_plain_number w x a c t1 t2 t3 _ hm) ?hz1 ?hz2 ?hz3 ?hz4 ?hz5 ?hz6 ?hz7 ?hz8 ?hz9 ?_; (case hz1 => k_asm); (case hz2 => k_asm); (case hz3 => k_asm); (case hz4 => k_asm); (case hz5 => k_asm); (case hz6 => first | exact rfl | assumption);  (case hz7 => first | exact rfl | assumption); (case hz8 => ktr_room); (case hz9 => ktr_units); intro r' n' h' tk' hp' F' N'; obtain ⟨⟨_, rfl⟩, rfl⟩ := hp'; (try dsimp only); (try k_fold)))
    | (k_here; (with_reducible show wpAny _ _ (call (Value.ref 195) [_, _]) _ _ _); k_dflt (refine' Ctr.use (c_number_value w k (kd_not_bool k hk9) _ _ _ _) ?hz1 ?hz2 ?hz3 ?hz4 ?hz5 ?hz6 ?hz7 ?hz8 ?hz9 ?_; (case hz1 => k_asm); (case hz2 => k_asm); (case hz3 => k_asm); (case hz4 => k_asm); (case hz5 => k_asm); (case hz6 => first | exact rfl | assumption);  (case hz7 => first | exact rfl | assumption); (case hz8 => ktr_room); (case hz9 => ktr_units); intro r' n' h' tk' hp' F' N'; obtain ⟨D', c', u1, u2, u3, rfl, rfl, lD⟩ := hp'; (try dsimp only); (try k_fold)))
    | (k_here; k_dflt (refine' CtrX.use (c_converted w k hk9 _ _ _ _ _) ?hz1 ?hz2 ?hz3 ?hz4 ?hz5 ?hz6 ?hz7 ?hz8 ?hz9 ?hx ?_; (case hz1 => k_asm); (case hz2 => k_asm); (case hz3 => k_asm); (case hz4 => k_asm); (case hz5 => k_asm); (case hz6 => first | exact rfl | assumption); (case hz7 => first | exact rfl | assumption); (case hz8 => ktr_room); (case hz9 => ktr_units); (case hx => exact fun q9 e9 g9 h9 tk9 F9 S9 R9 => leave_onX B' F9 R9 S9 fun h8 R8 S8 => hexc q9 _ _ _ _ FG' S8 R8); intro ok9 r' n' h' tk' hp' F' N'; obtain ⟨⟨_, rfl⟩, rfl⟩ := hp'; (try dsimp only); (try k_fold))))
  (refine wpAny_call ?_; k_dflt (refine' code_def (binds := [(Str.ofString "kind", Value.str k.str t), (Str.ofString "value", Value.ref a)]) ?k1 ?k2 ?k3 ?k4 ?k5 ?kA ?kF ?kK ?k6 ?k7 ?k8 ?k9 ?kB ?_ ?c2 ?c3 ?c4 ?c5; (case kA => exact rfl); (case kF => assumption); (case kK => assumption); (case k1 => k_asm); (case k2 => k_asm); (case k3 => k_asm); (case k4 => k_asm); (case k5 => k_asm); (case k6 => k_is); (case k7 => k_is); (case k8 => ktr_room); (case k9 => first | exact BindsTo.of_eq rfl | exact binds_K (by k_in) rfl (by k_is) rfl rfl rfl); (case c5 => decide); (case kB => exact locs rfl); (case c2 => exact rfl); (case c3 => exact rfl); (case c4 => exact rfl); k_whole; intro g' L' h' FG' F' N' B' X' T'; (try dsimp only); (try k_lift B'); (try k_fold)))
  k_steps
  all_goals exact hret ok9 _ _ _ _ ⟨_, _, _, _, _, rfl, rfl, by assumption⟩ (by k_asm) (by k_asm)

section
variable {prog : Program} {w : World} {A : Around} {s : Shared} {K : Frag} {L : Addr} {h₀ : Heap} {m mg mb : Str → Option Value} {news : List (Addr × Obj)} {p : Program} {loose : List Str} {mean : ExcName → Option Value}
/-- a call of a def, whatever stands around it -/
theorem code_defN {R : Result → Shared → Prop} {name qual : Str} {params : Arguments} {body : List Stmt} {scope : Scope} {dV kV doc pm cdv ct oc : Value} {an od : Option Addr} {osl : Array (Option Value)} {f : Addr} {args : Args} {binds : List (Str × Value)}
    (F : Fr h₀ L s.heap m) (X₀ : K.In h₀) (N : News h₀ L s.heap news) (T : Top p loose mean mg mb h₀)
    (ho : K.lookup f = some ⟨oc, od, .func (fnOf name qual params body scope dV kV doc pm an cdv ct), osl⟩) (hcd : codeIn K cdv qual = true) (hroom : A.depth < recursionLimit)
    (hbind : BindsTo s (fnOf name qual params body scope dV kV doc pm an cdv ct) args binds) (hloc : ∀ y ∈ binds, scope.names.lookup y.1 = some .local)
    (h : ∀ g L' h₁, Fr h₀ L g m → Fr g L' h₁ (fun y => binds.reverse.lookup y) → News g L' h₁ news → K.In g → Top p loose mean mg mb g →
      wpAny (model prog w) (A.deeper (envOf qual scope L' f cdv)) (execs body (envOf qual scope L' f cdv))
        (fun fl s' => LeaveK h₀ L m g R (match fl with | .ret v => v | _ => .none) s' ∨ R (.ok (.ret (match fl with | .ret v => v | _ => .none))) s')
        (fun e s' => wpAny (model prog w) (A.deeper (envOf qual scope L' f cdv)) (leaving (envOf qual scope L' f cdv) e) (fun _ s'' => R (.error e) s'') (fun e' s'' => R (.error e') s'') s')
        { s with heap := h₁, toks := s.toks + binds.length })
    (hco : scope.isCoroutine = false) (hgen : scope.isGenerator = false) (hk : scope.kind = .function)
    (hcell : ∀ x ∈ scope.names, x.2 ≠ .cell) : codeAny (model prog w) A (.call (.ref f) args) R s := by
  have X := X₀.keeps F.keep
  refine codeAny_call_def (fd := fnOf name qual params body scope dV kV doc pm an cdv ct) (body := body) (binds := binds) hroom (X _ _ ho) rfl (T.nolimit.keeps F.keep) (codeRec_of X hcd) rfl hbind hcell hloc (fun h₁ hns hk₁ => ?_) hco hgen hk
  -- the ground of the body: what stands, less the ledger
  have old : ∀ b o, h₀.get? b = some o → b ∉ news.map (·.1) := fun b o e q => by
    obtain ⟨z, hz, rfl⟩ := List.mem_map.mp q
    exact absurd (e.symm.trans (N z hz).2.2) (fun t => nomatch t)
  have keepG : h₀.StaysIn (hideAll s.heap (news.map (·.1))) := fun b o e => hideAll_get _ (F.keep b o e) (old b o e)
  obtain ⟨oL, es, ep, a1, a2, a3⟩ := F.ns
  have LG : (hideAll s.heap (news.map (·.1))).get? L = some oL := hideAll_get _ a1 fun q => by
    obtain ⟨z, hz, e⟩ := List.mem_map.mp q
    exact (N z hz).2.1 e
  have Fg : Fr h₀ L (hideAll s.heap (news.map (·.1))) m := ⟨⟨oL, es, ep, LG, a2, a3⟩, keepG, F.above⟩
  have F' : Fr (hideAll s.heap (news.map (·.1))) s.heap.objs.size h₁ (fun y => binds.reverse.lookup y) := ⟨hns, fun b o e => hk₁ b o (of_hideAll _ e), Nat.le_of_eq (hideAll_size _ _)⟩
  have N' : News (hideAll s.heap (news.map (·.1))) s.heap.objs.size h₁ news := fun z hz => ⟨hk₁ _ _ (N z hz).1, Nat.ne_of_lt (Heap.lt_size (N z hz).1), hideAll_none _ (List.mem_map_of_mem hz)⟩
  refine wpAny_mono (h _ s.heap.objs.size h₁ Fg F' N' (X₀.keeps keepG) (T.keeps keepG)) (fun fl s' hl => ?_) fun _ _ y => y
  rcases hl with ⟨L', m', news', F9, N9, k⟩ | hl
  · refine k ⟨⟨oL, es, ep, F9.keep L oL LG, a2, a3⟩, fun b o e => F9.keep b o (keepG b o e), F.above⟩ fun z hz => ⟨(N9 z hz).1, fun q => ?_, ?_⟩
    · exact absurd ((q ▸ LG).symm.trans (N9 z hz).2.2) (fun t => nomatch t)
    · cases q : h₀.get? z.1 with
      | none => rfl
      | some o => exact absurd ((keepG _ _ q).symm.trans (N9 z hz).2.2) (fun t => nomatch t)
  · exact hl
/-- a call of a def right below the law's own frame; it may come back as it likes, or upon a ground that the flight of an exception has turned -/
theorem code_defT {env : Env} {R : Result → Shared → Prop} {name qual : Str} {params : Arguments} {body : List Stmt} {scope : Scope} {dV kV doc pm cdv ct oc : Value} {an od : Option Addr} {osl : Array (Option Value)} {f : Addr} {args : Args} {binds : List (Str × Value)}
    (F : Fr h₀ L s.heap m) (X₀ : K.In h₀) (N : News h₀ L s.heap news) (T : Top p loose mean mg mb h₀) (hA : A.frames = some [env]) (hf : env.frame = some L) (hke : env.scope.kind = .function)
    (ho : K.lookup f = some ⟨oc, od, .func (fnOf name qual params body scope dV kV doc pm an cdv ct), osl⟩) (hcd : codeIn K cdv qual = true) (hroom : A.depth < recursionLimit)
    (hbind : BindsTo s (fnOf name qual params body scope dV kV doc pm an cdv ct) args binds) (hloc : ∀ y ∈ binds, scope.names.lookup y.1 = some .local)
    (h : ∀ g L' h₁, Fr h₀ L g m → Fr g L' h₁ (fun y => binds.reverse.lookup y) → News g L' h₁ news → Below A h₀ [env] g → K.In g → Top p loose mean mg mb g →
      wpAny (model prog w) (A.deeper (envOf qual scope L' f cdv)) (execs body (envOf qual scope L' f cdv))
        (fun fl s' => LeaveK h₀ L m g R (match fl with | .ret v => v | _ => .none) s' ∨ R (.ok (.ret (match fl with | .ret v => v | _ => .none))) s')
        (fun e s' => wpAny (model prog w) (A.deeper (envOf qual scope L' f cdv)) (leaving (envOf qual scope L' f cdv) e) (fun _ s'' => R (.error e) s'') (fun e' s'' => R (.error e') s'') s')
        { s with heap := h₁, toks := s.toks + binds.length })
    (hco : scope.isCoroutine = false) (hgen : scope.isGenerator = false) (hk : scope.kind = .function)
    (hcell : ∀ x ∈ scope.names, x.2 ≠ .cell) : codeAny (model prog w) A (.call (.ref f) args) R s := by
  refine code_defN F X₀ N T ho hcd hroom hbind hloc (fun g L' h₁ FG F' N' X' T' => h g L' h₁ FG F' N' ?_ X' T') hco hgen hk hcell
  have L0 : h₀.get? L = none := by
    cases q : h₀.get? L with
    | none => rfl
    | some o => exact absurd (Nat.lt_of_lt_of_le (Heap.lt_size q) F.above) (Nat.lt_irrefl _)
  obtain ⟨oL, es, ep, a1, a2, _⟩ := FG.ns
  exact ⟨hA, FG.keep, (show env.scope.kind ≠ .module ∧ (∃ L o, env.frame = some L ∧ h₀.get? L = none ∧ g.get? L = some o ∧ ∀ vs, o.data ≠ .fields vs) ∧ True from ⟨(by rw [hke]; exact (fun z => (nomatch z))), ⟨L, oL, hf, L0, a1, fun vs z => by rw [a2] at z; cases z⟩, trivial⟩)⟩
/-- how the two grounds lie -/
theorem grounds {g h : Heap} {L' : Addr} {m' : Str → Option Value} (FG : Fr h₀ L g m) (F' : Fr g L' h m') : h₀.objs.size ≤ L' ∧ (∃ o, g.get? L = some o ∧ ∀ vs, o.data ≠ .fields vs) ∧ h₀.get? L = none ∧ L ≠ L' := by
  obtain ⟨oL, es, ep, a1, a2, _⟩ := FG.ns
  have l1 := Heap.lt_size a1
  have l2 := F'.above
  have l3 := FG.above
  refine ⟨Nat.le_of_lt (Nat.lt_of_le_of_lt l3 (Nat.lt_of_lt_of_le l1 l2)), ⟨oL, a1, fun vs z => by rw [a2] at z; cases z⟩, ?_, Nat.ne_of_lt (Nat.lt_of_lt_of_le l1 l2)⟩
  cases q : h₀.get? L with
  | none => rfl
  | some o => exact absurd (Nat.lt_of_lt_of_le (Heap.lt_size q) l3) (Nat.lt_irrefl _)
/-- the law's frame, told by its object -/
theorem fr_back {h : Heap} {g : Heap} {o' : Obj} (FG : Fr h₀ L g m) (k : h₀.StaysIn h) (e : h.get? L = some o') (l : ∃ o, g.get? L = some o ∧ o'.data = o.data) : Fr h₀ L h m := by
  obtain ⟨oL, es, ep, a1, a2, a3⟩ := FG.ns
  obtain ⟨o, b1, b2⟩ := l
  obtain rfl := Option.some.inj (a1.symm.trans b1)
  exact ⟨⟨o', es, ep, e, b2.trans a2, a3⟩, k, FG.above⟩
end

/-- a contract that asks nothing of what stands around the call -/
def CtrN (w : World) (f : Addr) (vs : List Value) (news : Ledger) (post : Value → Ledger → Prop) : Prop :=
  ∀ (mean : ExcName → Option Value) (mg mb : Str → Option Value) (A : Around) (h₀ : Heap) (L : Addr) (m : Str → Option Value) (hp : Heap) (gs : Array GenState) (dr : Drawn) (tk0 : Nat) (os : OsState) (Q E : Value → Shared → Prop),
    Fr h₀ L hp m → (frg.heap_1 w.params).In h₀ → News h₀ L hp news → Top vw loose2 mean mg mb h₀ → A.depth + 1 < recursionLimit → A.units + 20 < cLine →
    (∀ r news' h' tk', post r news' → Fr h₀ L h' m → News h₀ L h' news' → Q r ⟨h', gs, dr, tk', os⟩) →
    wpAny (model PySem.Challenge.pw_pc0192_01 w) A (call (.ref f) vs) Q E ⟨hp, gs, dr, tk0, os⟩
theorem CtrN.use {w : World} {f : Addr} {vs : List Value} {news : Ledger} {post : Value → Ledger → Prop} (C : CtrN w f vs news post) {mean : ExcName → Option Value} {mg mb : Str → Option Value} {A : Around} {h₀ : Heap} {L : Addr} {m : Str → Option Value} {hp : Heap} {gs : Array GenState} {dr : Drawn} {tk0 : Nat} {os : OsState} {Q E : Value → Shared → Prop}
    (F : Fr h₀ L hp m) (X : (frg.heap_1 w.params).In h₀) (N : News h₀ L hp news) (T : Top vw loose2 mean mg mb h₀) (hdp : A.depth + 1 < recursionLimit) (hun : A.units + 20 < cLine)
    (ret : ∀ r news' h' tk', post r news' → Fr h₀ L h' m → News h₀ L h' news' → Q r ⟨h', gs, dr, tk', os⟩) :
    wpAny (model PySem.Challenge.pw_pc0192_01 w) A (call (.ref f) vs) Q E ⟨hp, gs, dr, tk0, os⟩ :=
  C mean mg mb A h₀ L m hp gs dr tk0 os Q E F X N T hdp hun ret
set_option maxHeartbeats 8000000 in
theorem n_law_plain (w : World) (v : V) (a : Addr) (c : Nat) (t1 t2 t3 : Tok) (news : Ledger) (hm : (a, v.obj c t1 t2 t3) ∈ news) : CtrN w 272 [.ref a] news (fun r n' => (∃ t, r = .int v.num t) ∧ n' = news) := by
  intro mean mg mb A h₀ L m hp gs dr tk0 os Q E F X N T hdp hun hret
  k_with_none
  (k_with "eval Call" => first | k_compRoot | (k_here; (with_reducible show wpAny _ _ (eval _ (compEnvC _ _ _ _)) _ _ _); k_dflt (refine Call_ ?_)) | (k_here; (with_reducible show wpAny _ _ (eval (PySem.Expr.Call (PySem.Expr.Name _ _) [PySem.Expr.Name _ _] [] _) _) _ _ _); k_dflt (refine' callN1 ?F ?X ?T ?e ?k ?x ?_ ?c ?g ?l ?df ?dx; (case F => k_asm); (case X => k_asm); (case T => k_asm); (case e => k_is); (case k => k_is); (case x => exact rfl); (case c => exact rfl); (case g => exact rfl); (case l => exact rfl); (case df => decide); (case dx => decide); k_whole)) | (k_here; (with_reducible show wpAny _ _ (eval (PySem.Expr.Call (PySem.Expr.Name _ _) [PySem.Expr.Name _ _, PySem.Expr.Name _ _] [] _) _) _ _ _); k_dflt (refine' callN2 ?F ?X ?T ?e ?k ?x ?y ?_ ?c ?g ?l ?m ?df ?dx ?dy; (case F => k_asm); (case X => k_asm); (case T => k_asm); (case e => k_is); (case k => k_is); (case x => exact rfl); (case y => exact rfl); (case c => exact rfl); (case g => exact rfl); (case l => exact rfl); (case m => exact rfl); (case df => decide); (case dx => decide); (case dy => decide); k_whole)) | (k_here; (with_reducible show wpAny _ _ (eval (PySem.Expr.Call (PySem.Expr.Name _ _) [_] [] _) _) _ _ _); k_dflt (refine' callE1 ?F ?X ?T ?e ?k ?_ ?c ?g ?df ?h1; (case F => k_asm); (case X => k_asm); (case T => k_asm); (case e => k_is); (case k => k_is); (case c => exact rfl); (case g => exact rfl); (case df => decide); (case h1 => exact rfl); k_whole)) | (k_here; (with_reducible show wpAny _ _ (eval (PySem.Expr.Call (PySem.Expr.Name _ _) [_, _] [] _) _) _ _ _); k_dflt (refine' callE2 ?F ?X ?T ?e ?k ?_ ?c ?g ?df ?h1 ?h2; (case F => k_asm); (case X => k_asm); (case T => k_asm); (case e => k_is); (case k => k_is); (case c => exact rfl); (case g => exact rfl); (case df => decide); (case h1 => exact rfl); (case h2 => exact rfl); k_whole)) | k_dflt (refine Call_ ?_))
  cases v
  all_goals dsimp only [V.obj, V.num] at hm hret ⊢
  all_goals (refine wpAny_call ?_; k_dflt (refine' code_defN (binds := [(Str.ofString "value", Value.ref a)]) ?k2 ?k3 ?k4 ?k5 ?k6 ?k7 ?k8 ?k9 ?kB ?_ ?c2 ?c3 ?c4 ?c5; (case k2 => k_asm); (case k3 => k_asm); (case k4 => k_asm); (case k5 => k_asm); (case k6 => k_is); (case k7 => k_is); (case k8 => ktr_room); (case k9 => first | exact BindsTo.of_eq rfl | exact binds_K (by k_in) rfl (by k_is) rfl rfl rfl); (case c5 => decide); (case kB => exact locs rfl); (case c2 => exact rfl); (case c3 => exact rfl); (case c4 => exact rfl); k_whole; intro g' L' h' FG' F' N' X' T'; (try dsimp only); (try k_fold)))
  all_goals k_steps
  all_goals exact .inl (leaveK_ (by k_asm) (by k_asm) fun F9 N9 => hret _ _ _ _ ⟨⟨_, rfl⟩, rfl⟩ F9 N9)

/-- the law's own frame, as it stands when the exception has landed -/
def LikeFr (g : Heap) (L : Addr) (o' : Obj) : Prop := ∃ o, g.get? L = some o ∧ o'.data = o.data ∧ ∀ vs, o.data ≠ .fields vs
section
variable {w : World} {A₀ : Around} {E : Value → Shared → Prop} {s' : Shared} {g G h₀ : Heap} {outer : List Env} {L L' a e : Addr} {m : Str → Option Value} {name : Str} {scope : Scope} {cd : Value} {news : Ledger}
  {mean : ExcName → Option Value} {mg mb : Str → Option Value} {n : Str} {b₀ : Stmt} {suite : List Stmt} {pos np : Pos} {rest : List ExceptHandler} {Q : Flow → Shared → Prop}
theorem caught_X (hfr : A₀.frames = some outer) (F : Fr g L' G m) (hsm : G.UpToSlots s'.heap) (R : RaisedX w h₀ (envOf name scope L' a cd :: outer) e news s'.heap) (X : (frg.heap_1 w.params).In h₀) (T : Top vw loose2 mean mg mb h₀)
    (hab : h₀.objs.size ≤ L') (hL : ∃ o, g.get? L = some o ∧ ∀ vs, o.data ≠ .fields vs) (hL0 : h₀.get? L = none) (hLL : L ≠ L') (hN : ∀ p ∈ news, h₀.get? p.1 = none)
    (k : ∀ h' tk (dd : Addr) ta tb tc u V K x y c1 i1 i2 z c2 oe oL (E' : Value → Shared → Prop), oe = ({ cls := .ref 52, dict := some dd, data := oe.data, slots := oe.slots } : Obj) → notCls oe = true → (∃ ws, oe.data = .fields ws) → LikeFr g L oL →
      Fr h₀ L' h' (fun y => if y = n then some (.ref e) else m y) →
      News h₀ L' h' ((e, oe) :: (dd, dx3 w.params ta tb tc (msgT u) .none (.ref V)) :: (V, ({ cls := .type "tuple", data := .seq #[x, .ref K, y] c1 } : Obj)) :: (K, ({ cls := .type "tuple", data := .seq #[.str (Str.ofString "name") i1, .str (Str.ofString "InexactError") i2, z] c2 } : Obj)) :: (L, oL) :: news) →
      wpAny (mdl w) ((A₀.deeper (envOf name scope L' a cd)).mark (some (.ref e))) (execs (b₀ :: suite) (envOf name scope L' a cd))
        (fun f s₄ => wpAny (mdl w) (A₀.deeper (envOf name scope L' a cd)) (do bindName (envOf name scope L' a cd) n .none; unbindBehindTheSuite (envOf name scope L' a cd) n pos) (fun _ s₅ => Q f s₅) E s₄) E' { s' with heap := h', toks := tk })
    (hk : scope.kind = .function := by rfl) (hlo : (envOf name scope L' a cd).kindOf n = some .local := by rfl) (hx : (envOf name scope L' a cd).kindOf (Str.ofString "Thrown") = some .globalImplicit := by rfl) :
    wpAny (mdl w) (A₀.deeper (envOf name scope L' a cd)) (noteFrame (.ref e) (envOf name scope L' a cd))
      (fun _ s₂ => wpAny (mdl w) (A₀.deeper (envOf name scope L' a cd)) (setFlight (.ref e) none) (fun _ s₃ =>
        wpAny (mdl w) (A₀.deeper (envOf name scope L' a cd)) (handleBy (.ref e) (envOf name scope L' a cd) (.ExceptHandler (some (.Name (Str.ofString "Thrown") np)) (some n) (b₀ :: suite) pos :: rest)) Q E s₃) E s₂) E s' := by
  obtain ⟨t, dd, a', b', c', u, V, led, ⟨⟨B, hB, hl, hfl, hnew⟩, htup⟩, ⟨K, x, y, c1, i1, i2, z, c2, hV, hK⟩, hn, o, o1, o2⟩ := R
  refine wpAny_mono ((ds_noteFrame _ _).any (wpAny_looks_onW (Q := fun _ s2 => ∃ h, s2 = { s' with heap := h } ∧ Heap.HeldW B (envOf name scope L' a cd :: outer) e (.ref 52) (.ref t) L' h ∧ s'.heap.UpToSlots h) (Around.frames_deeper hfr) rfl hfl fun h q1 q2 => ⟨h, rfl, q1, q2⟩)) (fun _ s2 z2 => ?_) fun _ _ z2 => z2.1
  obtain ⟨⟨h4, rfl, held4, sm4⟩, kd4⟩ := z2
  refine wpAny_mono ((ds_setFlight _ _).any (wpAny_landsW (Q := fun _ s2 => ∃ h, s2 = { s' with heap := h } ∧ Heap.FlyingW B (envOf name scope L' a cd :: outer) e (.ref 52) (.ref t) h ∧ h4.UpToSlots h) held4 fun h q1 q2 => ⟨h, rfl, q1, q2⟩)) (fun _ s2 z2 => ?_) fun _ _ z2 => z2.1
  obtain ⟨⟨h5, rfl, fly5, sm5⟩, kd5⟩ := z2
  have fly5' := flyingW_base hB fly5
  have F5 : Fr h₀ L' h5 m := ⟨(((hsm.trans sm4).trans sm5).ns F.ns), fly5'.1, hab⟩
  obtain ⟨ob, hob, hobc⟩ := fly5'.there
  refine wpAny_handleBy_cons (codeAny_handlers_test (name_K (v := .ref 52) F5 X (topRead_of T) (by kernel_rfl) ?_ hk hx (by decide))) (by intro q; cases q)
  refine wpAny_excMatches_sub_self (at52 (X.keeps F5.keep)) hob hobc (by decide) (codeAny_handlers_suite_as ?_)
  refine wpAny_mono ((ds_setFlight _ _).any (lands_againW (Q := fun _ s2 => ∃ h, s2 = { s' with heap := h } ∧ Heap.FlyingW B (envOf name scope L' a cd :: outer) e (.ref 52) (.ref t) h ∧ h5.UpToSlots h) fly5 fun h q1 q2 => ⟨h, rfl, q1, q2⟩)) (fun _ s2 z2 => ?_) fun _ _ z2 => z2.1
  obtain ⟨⟨h6, rfl, fly6, sm6⟩, kd6⟩ := z2
  have fly6' := flyingW_base hB fly6
  have up : G.UpToSlots h6 := ((hsm.trans sm4).trans sm5).trans sm6
  have F6 : Fr h₀ L' h6 m := ⟨up.ns F.ns, fly6'.1, hab⟩
  obtain ⟨oe0, p1, p2⟩ := (kd4.trans (kd5.trans kd6)) e o o1
  obtain ⟨oe, ws, hoe, hoec, hoed, hoe0⟩ := fly6'.first
  obtain rfl : oe = oe0 := Option.some.inj (hoe.symm.trans p1)
  obtain ⟨oL, hL, hLd⟩ := hL
  obtain ⟨sl, hsl⟩ := up L oL (F.keep L oL hL) hLd
  have inB : ∀ q ∈ ((dd, dx3 w.params a' b' c' (msgT u) .none (.ref V)) :: led : Ledger), h6.get? q.1 = some q.2 ∧ h₀.get? q.1 = none := fun q hq => ⟨fly6.1 _ _ (hl q hq).1, (hl q hq).2⟩
  have notL : ∀ q : Addr × Obj, h6.get? q.1 = some q.2 → B.get? q.1 = some q.2 → q.1 ≠ L' := fun q _ e2 ee => by
    obtain ⟨_, ⟨L9, _, hf, hn', _⟩, _⟩ := fly6.2.2.1
    obtain rfl : L' = L9 := Option.some.inj hf
    rw [ee, hn'] at e2; cases e2
  have inN : ∀ q ∈ ((dd, dx3 w.params a' b' c' (msgT u) .none (.ref V)) :: led : Ledger), h6.get? q.1 = some q.2 ∧ q.1 ≠ L' ∧ h₀.get? q.1 = none := fun q hq => ⟨(inB q hq).1, notL q (inB q hq).1 (hl q hq).1, (inB q hq).2⟩
  have eL : e ≠ L' := fun ee => by
    obtain ⟨oM, es, ep, m1, m2, _⟩ := F6.ns
    rw [← ee, hoe] at m1
    cases m1
    rw [hoed] at m2; cases m2
  have N6 : News h₀ L' h6 ((e, oe) :: (dd, dx3 w.params a' b' c' (msgT u) .none (.ref V)) :: (V, ({ cls := .type "tuple", data := .seq #[x, .ref K, y] c1 } : Obj)) :: (K, ({ cls := .type "tuple", data := .seq #[.str (Str.ofString "name") i1, .str (Str.ofString "InexactError") i2, z] c2 } : Obj)) :: (L, ({ oL with slots := sl } : Obj)) :: news) :=
    List.forall_mem_cons.mpr ⟨⟨hoe, eL, fly6'.2.1⟩, List.forall_mem_cons.mpr ⟨inN _ (.head _), List.forall_mem_cons.mpr ⟨inN _ (.tail _ hV), List.forall_mem_cons.mpr ⟨inN _ (.tail _ hK), List.forall_mem_cons.mpr ⟨⟨hsl, hLL, hL0⟩, fun q hq => inN q (.tail _ (hn q hq))⟩⟩⟩⟩⟩
  refine stN F6 N6 (fun h7 F7 N7 => ?_) hk hlo
  refine k h7 _ dd a' b' c' u V K x y c1 i1 i2 z c2 oe ({ oL with slots := sl } : Obj) _ ?_ ?_ ⟨ws, hoed⟩ ⟨oL, hL, rfl, hLd⟩ F7 N7
  · obtain ⟨q1, q2, q3, q4⟩ := oe
    have d2 : q2 = some dd := p2.trans o2
    have d1 : q1 = .ref 52 := hoec
    subst d1 d2
    rfl
  · obtain ⟨q1, q2, q3, q4⟩ := oe
    have d3 : q3 = .fields ws := hoed
    subst d3
    rfl
end

section
variable {w : World} {A : Around} {E : Value → Shared → Prop} {P : Params} {h : Heap} {g : Array GenState} {d : Drawn} {tk : Nat} {os : OsState} {e : Addr} {oe od : Obj} {v : Value}
theorem get_value52 {expr : Bool} {r : Addr} {Q : Value → Shared → Prop} (X : (frg.heap_1 P).In h) (I : InstAt h e oe 52 (some od)) (hl : lookIn (Str.ofString "value") od = some (some (.ref r))) (hq : Q (.ref r) ⟨h, g, d, tk + 1, os⟩) :
    wpAny (mdl w) A (getAttr (.ref e) (Str.ofString "value") expr) Q E ⟨h, g, d, tk, os⟩ := by
  have FX := PySem.F.attr_Exception
  have t1 : Looks (mdl w) h (typeOf (.ref e)) (.ref 52) := I.type
  have l1 : Looks (mdl w) h (typeLookup (.ref 52) "__getattribute__") (some (.builtin "BaseException.__getattribute__")) := looks_findIn X (by kernel_rfl)
  have l2 : Looks (mdl w) h (typeLookup (.ref 52) "__getattr__") none := looks_findIn X (by kernel_rfl)
  have l3 : Looks (mdl w) h (typeLookup (.ref 52) (Str.ofString "value")) none := looks_findIn X (by kernel_rfl)
  have l4 : Looks (mdl w) h (Builtin.ObjectAttr.inOwnDict (Str.ofString "value") (.ref e)) (some (.ref r)) := looks_own X I (in52 P) (show PySem.W.ownOf cd52 (some od) _ = _ from hl)
  have i1 := exc_isBase (w := w) X
  have f3 : Looks (mdl w) h (bindSpecial (.builtin "BaseException.__getattribute__") (.ref e)) _ := Looks.of_pure (FX.ga.bind (.ref e))
  have i2 : Looks (mdl w) h (isInstance (.ref e) (.type "BaseException")) true := t1.andThen i1
  unfold getAttr
  refine wpAny_bind (wpAny_mkText ?_)
  cases expr
  all_goals repeat (first | with_reducible refine wpAny_attempt ?_ | with_reducible refine wpAny_call ?_ | lk)
  all_goals refine codeAny_call_builtin FX.ga.plain PySem.F.entry_bexc_ga (@check_slot (mdl w) _ _ _ "BaseException.__getattribute__" "BaseException" "__getattribute__" (.ref e) [.str (Str.ofString "value") tk] [] _ (by decide +kernel) (by decide +kernel) i2 (PySem.F.args_bexc_ga _ _) ?_)
  all_goals unfold Builtin.«object.__getattribute__»
  all_goals repeat lk
  all_goals exact hq
theorem get_fault {h₀ : Heap} {L dd V : Addr} {m : Str → Option Value} {led : Ledger} {s : Shared} {ta tb tc : Tok} {x y : Value} {expr : Bool} {Q : Value → Shared → Prop} (X : (frg.heap_1 w.params).In h₀) (F : Fr h₀ L s.heap m) (N : News h₀ L s.heap led)
    (he : (e, oe) ∈ led) (hd : (dd, dx3 w.params ta tb tc x y (.ref V)) ∈ led) (hoe : oe = ({ cls := .ref 52, dict := some dd, data := oe.data, slots := oe.slots } : Obj)) (hn : notCls oe = true) (h : Q (.ref V) { s with toks := s.toks + 1 }) :
    wpAny (mdl w) A (getAttr (.ref e) (Str.ofString "value") expr) Q E s := by
  obtain ⟨hp, g, d, tk, os⟩ := s
  have D := (N _ hd).1
  refine get_value52 (X.keeps F.keep) (oe := oe) (od := dx3 w.params ta tb tc x y (.ref V)) ⟨(N _ he).1, by rw [hoe], hn, ?_⟩ (by kernel_rfl) h
  rw [hoe]
  exact D
end

/-- a contract of a def that is called right below the law's own frame -/
def CtrT (w : World) (d : Nat) (f : Addr) (vs : List Value) (news : Ledger) (post : Value → Ledger → Prop) : Prop :=
  ∀ (mean : ExcName → Option Value) (mg mb : Str → Option Value) (dp un : Nat) (gd : Option (List Code)) (env : Env) (h₀ : Heap) (L : Addr) (m : Str → Option Value) (hp : Heap) (gs : Array GenState) (dr : Drawn) (tk0 : Nat) (os : OsState) (Q E : Value → Shared → Prop),
    Fr h₀ L hp m → (frg.heap_1 w.params).In h₀ → News h₀ L hp news → Top vw loose2 mean mg mb h₀ → env.frame = some L → env.scope.kind = .function → dp + d < recursionLimit → un + 20 * d < cLine →
    (∀ r news' h' tk', post r news' → Fr h₀ L h' m → News h₀ L h' news' → Q r ⟨h', gs, dr, tk', os⟩) →
    wpAny (model PySem.Challenge.pw_pc0192_01 w) (topA dp un gd env []) (call (.ref f) vs) Q E ⟨hp, gs, dr, tk0, os⟩
section
variable {prog : Program} {w : World} {A : Around} {E : Value → Shared → Prop} {s : Shared} {a b : Addr} {k : Kd} {n : Int} {c d : Nat} {t1 t2 t3 u1 u2 u3 : Tok} {Q : Value → Shared → Prop}
theorem eq_same {n' : Int} (e : n = n') (hu : A.units + 64 < cLine) (ha : s.heap.get? a = some ((V.i k n).obj c t1 t2 t3)) (hb : s.heap.get? b = some ((V.i k n').obj d u1 u2 u3)) (h : Q (.bool true) s) :
    wpAny (model prog w) A (compareOp .Eq (.ref a) (.ref b)) Q E s :=
  by subst e; exact eq_dataH (v_reads ha) (v_reads hb) (v_shaped k n) (v_shaped k n) hu (by rw [v_eqv]; exact h)
end
theorem fits_in {k : Kd} {n : Int} (h : fitsB k n = true) : loE k ≤ n ∧ n ≤ hiE k := by
  unfold fitsB at h
  split at h
  · exact ⟨by assumption, of_decide_eq_true h⟩
  · rename_i q; exact absurd (of_decide_eq_true h) q
theorem fits_out {k : Kd} {n : Int} (h : ¬ fitsB k n = true) (c : loE k ≤ n) : ¬ n ≤ hiE k := fun q => h (by
  unfold fitsB
  rw [if_pos c]
  exact decide_eq_true q)
set_option maxHeartbeats 8000000 in
theorem c_one_right (w : World) (k wd : Kd) (hk9 : k.fixed = true) (hw9 : wd.fixed = true) (hle : k.w ≤ wd.w) (x : V) (hx : x.ok) (a : Addr) (c : Nat) (t1 t2 t3 t t' : Tok) (news : Ledger) (hm : (a, x.obj c t1 t2 t3) ∈ news) :
    CtrT w 20 279 [.ref a, .str k.str t, .str wd.str t'] news (fun r n' => r = .bool true ∧ n' = news) := by
  have hx5 := up_500 hx.1 hx.2
  have hin := wrapZ_in k x.num hk9
  have hwd : -(2 ^ 500) < wrapZ wd x.num ∧ wrapZ wd x.num < 2 ^ 500 := (fun q => up_500 q.1 q.2) (wrap_small wd x.num hx.1 hx.2)
  have hnb := kd_not_bool k hk9
  have hnw := kd_not_bool wd hw9
  have LL : ∀ l a' c' u1 u2 u3 u, (a', (V.i wd (wrapZ wd x.num)).obj c' u1 u2 u3) ∈ l → Ctr w 5 209 [.str k.str u, .ref a'] l (NewV l (.i k (wrapZ k x.num))) := fun l a' c' u1 u2 u3 u q => by
    have z := c_led_to w k hnb (V.i wd (wrapZ wd x.num)) hwd.1 hwd.2 u a' c' u1 u2 u3 l q
    rw [num_i, wrapZ_over k wd x.num hk9 hw9 hle] at z
    exact z
  intro mean mg mb dp un gd env h₀ L m hp gs dr tk0 os Q E F X N T hf hk hdp hun hret
  k_with_none
  (k_with "eval Call" => first | k_compRoot | (k_here; (with_reducible show wpAny _ _ (eval _ (compEnvC _ _ _ _)) _ _ _); k_dflt (refine Call_ ?_)) | (k_here; (with_reducible show wpAny _ _ (eval (PySem.Expr.Call (PySem.Expr.Name _ _) [PySem.Expr.Name _ _] [] _) _) _ _ _); k_dflt (refine' callN1 ?F ?X ?T ?e ?k ?x ?_ ?c ?g ?l ?df ?dx; (case F => k_asm); (case X => k_asm); (case T => k_asm); (case e => k_is); (case k => k_is); (case x => exact rfl); (case c => exact rfl); (case g => exact rfl); (case l => exact rfl); (case df => decide); (case dx => decide); k_whole)) | (k_here; (with_reducible show wpAny _ _ (eval (PySem.Expr.Call (PySem.Expr.Name _ _) [PySem.Expr.Name _ _, PySem.Expr.Name _ _] [] _) _) _ _ _); k_dflt (refine' callN2 ?F ?X ?T ?e ?k ?x ?y ?_ ?c ?g ?l ?m ?df ?dx ?dy; (case F => k_asm); (case X => k_asm); (case T => k_asm); (case e => k_is); (case k => k_is); (case x => exact rfl); (case y => exact rfl); (case c => exact rfl); (case g => exact rfl); (case l => exact rfl); (case m => exact rfl); (case df => decide); (case dx => decide); (case dy => decide); k_whole)) | (k_here; (with_reducible show wpAny _ _ (eval (PySem.Expr.Call (PySem.Expr.Name _ _) [_] [] _) _) _ _ _); k_dflt (refine' callE1 ?F ?X ?T ?e ?k ?_ ?c ?g ?df ?h1; (case F => k_asm); (case X => k_asm); (case T => k_asm); (case e => k_is); (case k => k_is); (case c => exact rfl); (case g => exact rfl); (case df => decide); (case h1 => exact rfl); k_whole)) | (k_here; (with_reducible show wpAny _ _ (eval (PySem.Expr.Call (PySem.Expr.Name _ _) [_, _] [] _) _) _ _ _); k_dflt (refine' callE2 ?F ?X ?T ?e ?k ?_ ?c ?g ?df ?h1 ?h2; (case F => k_asm); (case X => k_asm); (case T => k_asm); (case e => k_is); (case k => k_is); (case c => exact rfl); (case g => exact rfl); (case df => decide); (case h1 => exact rfl); (case h2 => exact rfl); k_whole)) | k_dflt (refine Call_ ?_))
  (k_with "newTuple" => (k_here; k_dflt (refine' kup_newTuple ?F ?N ?_ ?z; (case F => k_asm); (case N => k_asm); (case z => kmk_size)); intro D' h' F' N' lD; (try k_sweep)))
  (k_with "call ref" => first
    | (k_here; (with_reducible show wpAny _ _ (call (Value.ref 202) _) _ _ _); k_dflt (refine' CtrX.use (c_converted_to w k hk9 x _ a c t1 t2 t3 _ ?hm1) ?hz1 ?hz2 ?hz3 ?hz4 ?hz5 ?hz6 ?hz7 ?hz8 ?hz9 ?hx ?hr; (case hz1 => k_asm); (case hz2 => k_asm); (case hz3 => k_asm); (case hz4 => k_asm); (case hz5 => k_asm); (case hz6 => first | exact rfl | assumption); (case hm1 => kcj_m); (case hz7 => first | exact rfl | assumption); (case hz8 => ktr_room); (case hz9 => ktr_units); (case' hx => (intro q9 e9 g9 h9 tk9 F9 S9 R9; obtain ⟨w1, w2, w3, w4⟩ := grounds FG' F9; refine' caught_X rfl F9 S9 R9 X T w1 w2 w3 w4 ?hN ?hk9; (case hN => exact fun p hp => fresh_of_stays FG'.keep ((by k_asm : News g' L' _ _) p hp).2.2); intro h7 tk7 dd7 ta tb tc u7 V7 K7 x7 y7 c71 i71 i72 z7 c72 oe7 oL7 E7 hoe7 hnc7 hws7 hLike7 F7 N7; (try dsimp only); (try k_fold))); (case' hr => (intro ok9 r' n' h' tk' hp' F' N'; obtain ⟨D5, c5, s1, s2, s3, rfl, rfl, lD5⟩ := hp'; have fin9 := fits_in ok9; have room9 := wrapZ_room k x.num hk9 fin9.1 fin9.2; (try dsimp only); (try k_fold)))))
    | (k_here; (with_reducible show wpAny _ _ (call (Value.ref 272) [_]) _ _ _); k_dflt (refine' CtrN.use (n_law_plain w x a c t1 t2 t3 _ ?hm1) ?hz2 ?hz3 ?hz4 ?hz5 ?hz8 ?hz9 ?_; (case hz2 => k_asm); (case hz3 => k_asm); (case hz4 => k_asm); (case hz5 => k_asm); (case hm1 => kcj_m); (case hz8 => first | ktr_room | (simp only [Around.mark, Around.deeper]; omega)); (case hz9 => first | ktr_units | (simp only [Around.mark, Around.deeper]; omega)); intro r' n' h' tk' hp' F' N'; obtain ⟨⟨_, rfl⟩, rfl⟩ := hp'; (try dsimp only); (try k_fold)))
    | (k_here; (with_reducible show wpAny _ _ (call (Value.ref 265) [_, _]) _ _ _); k_dflt (refine' Ctr.use (c_law_led w k hk9 _ _ _ _) ?hz1 ?hz2 ?hz3 ?hz4 ?hz5 ?hz6 ?hz7 ?hz8 ?hz9 ?_; (case hz1 => k_asm); (case hz2 => k_asm); (case hz3 => k_asm); (case hz4 => k_asm); (case hz5 => k_asm); (case hz6 => first | exact rfl | assumption);  (case hz7 => first | exact rfl | assumption); (case hz8 => ktr_room); (case hz9 => ktr_units); intro r' n' h' tk' hp' F' N'; obtain ⟨⟨_, rfl⟩, rfl⟩ := hp'; (try dsimp only); (try k_fold)))
    | (k_here; (with_reducible show wpAny _ _ (call (Value.ref 251) [_]) _ _ _); k_dflt (refine' Ctr.use (c_edges w k _ _) ?hz1 ?hz2 ?hz3 ?hz4 ?hz5 ?hz6 ?hz7 ?hz8 ?hz9 ?_; (case hz1 => k_asm); (case hz2 => k_asm); (case hz3 => k_asm); (case hz4 => k_asm); (case hz5 => k_asm); (case hz6 => first | exact rfl | assumption);  (case hz7 => first | exact rfl | assumption); (case hz8 => ktr_room); (case hz9 => ktr_units); intro r' n' h' tk' hp' F' N'; obtain ⟨D', u1, u2, rfl, rfl, lK⟩ := hp'; (try k_lt lK); (try dsimp only); (try k_fold)))
    | (k_here; k_dflt (refine' Ctr.use (c_led_to w k hnb x hx5.1 hx5.2 _ a c t1 t2 t3 _ ?hm1) ?hz1 ?hz2 ?hz3 ?hz4 ?hz5 ?hz6 ?hz7 ?hz8 ?hz9 ?_; (case hz1 => k_asm); (case hz2 => k_asm); (case hz3 => k_asm); (case hz4 => k_asm); (case hz5 => k_asm); (case hz6 => first | exact rfl | assumption); (case hm1 => kcj_m);  (case hz7 => first | exact rfl | assumption); (case hz8 => ktr_room); (case hz9 => ktr_units); intro r' n' h' tk' hp' F' N'; obtain ⟨D1, c1, a1, a2, a3, rfl, rfl, lD1⟩ := hp'; (try dsimp only); (try k_fold)))
    | (k_here; k_dflt (refine' Ctr.use (c_led_to w wd hnw x hx5.1 hx5.2 _ a c t1 t2 t3 _ ?hm1) ?hz1 ?hz2 ?hz3 ?hz4 ?hz5 ?hz6 ?hz7 ?hz8 ?hz9 ?_; (case hz1 => k_asm); (case hz2 => k_asm); (case hz3 => k_asm); (case hz4 => k_asm); (case hz5 => k_asm); (case hz6 => first | exact rfl | assumption); (case hm1 => kcj_m);  (case hz7 => first | exact rfl | assumption); (case hz8 => ktr_room); (case hz9 => ktr_units); intro r' n' h' tk' hp' F' N'; obtain ⟨D2, c2, b1, b2, b3, rfl, rfl, lD2⟩ := hp'; (try dsimp only); (try k_fold)))
    | (k_here; k_dflt (refine' Ctr.use (LL _ _ _ _ _ _ _ ?hm1) ?hz1 ?hz2 ?hz3 ?hz4 ?hz5 ?hz6 ?hz7 ?hz8 ?hz9 ?_; (case hz1 => k_asm); (case hz2 => k_asm); (case hz3 => k_asm); (case hz4 => k_asm); (case hz5 => k_asm); (case hz6 => first | exact rfl | assumption); (case hm1 => kcj_m);  (case hz7 => first | exact rfl | assumption); (case hz8 => ktr_room); (case hz9 => ktr_units); intro r' n' h' tk' hp' F' N'; obtain ⟨D3, c3, e1, e2, e3, rfl, rfl, lD3⟩ := hp'; (try dsimp only); (try k_fold))))
  (k_with "compareOp NotEq ref ref" => (k_here; k_dflt (refine' ne_same ?hu9 ?ha9 ?hb9 ?_; (case hu9 => ktr_units); (case ha9 => exact News.get (by k_asm) (by k_mem)); (case hb9 => exact News.get (by k_asm) (by k_mem)))))
  (k_with "getAttr ref" => (k_here; k_dflt (refine' get_fault ?gX ?gF ?gN ?ge ?gd hoe7 hnc7 ?_; (case gX => exact X); (case gF => k_asm); (case gN => k_asm); (case ge => kcj_m); (case gd => kcj_m))))
  (k_with "compareOp Eq ref ref" => (k_here; k_dflt (refine' eq_same room9.symm ?hu9 ?ha9 ?hb9 ?_; (case hu9 => ktr_units); (case ha9 => exact News.get (by k_asm) (by k_mem)); (case hb9 => exact News.get (by k_asm) (by k_mem)))))
  (refine wpAny_call ?_; k_dflt (refine' code_defT (binds := [(Str.ofString "value", Value.ref a), (Str.ofString "kind", Value.str k.str t), (Str.ofString "wider", Value.str wd.str t')]) ?k2 ?k3 ?k4 ?k5 ?kA ?kF ?kK ?k6 ?k7 ?k8 ?k9 ?kB ?_ ?c2 ?c3 ?c4 ?c5; (case kA => exact rfl); (case kF => assumption); (case kK => assumption); (case k2 => k_asm); (case k3 => k_asm); (case k4 => k_asm); (case k5 => k_asm); (case k6 => k_is); (case k7 => k_is); (case k8 => ktr_room); (case k9 => first | exact BindsTo.of_eq rfl | exact binds_K (by k_in) rfl (by k_is) rfl rfl rfl); (case c5 => decide); (case kB => exact locs rfl); (case c2 => exact rfl); (case c3 => exact rfl); (case c4 => exact rfl); k_whole; intro g' L' h' FG' F' N' B' X' T'; (try dsimp only); (try k_lift B'); (try k_fold)))
  k_steps
  all_goals first
    | exact .inl (leaveK_ (by k_asm) (by k_asm) fun F9 N9 => hret _ _ _ _ ⟨congrArg Value.bool (decide_eq_true fin9.2), rfl⟩ F9 (cb_drop N9 (by kcj_in)))
    | (refine .inr (hret _ _ _ _ ⟨?hv, rfl⟩ ?hF ?hN)
       case hv => first
         | exact congrArg Value.bool (by rw [decide_eq_false (fits_out q9 (by assumption))]; rfl)
         | exact congrArg Value.bool (by rw [decide_eq_false (by assumption)]; rfl)
       case hF => exact fr_back (o' := oL7) FG' (Fr.keep (L := L') (by k_asm)) (News.get (by k_asm) (by kcj_m)) (hLike7.imp fun o z => ⟨z.1, z.2.1⟩)
       case hN => exact fun p hp => ⟨((by k_asm : News h₀ L' _ _) p (by repeat (first | exact hp | apply List.mem_cons_of_mem))).1, (N p hp).2.1, (N p hp).2.2⟩)

/-- the pair that the law draws from -/
def NewKeg (news : Ledger) (r : Value) (n' : Ledger) : Prop := ∃ D a b u1 u2 c, r = .ref D ∧ 0 ≤ a ∧ 0 ≤ b ∧ b < 65393 ∧ n' = (D, W.listOf #[.int a u1, .int b u2] c) :: news ∧ ∀ p ∈ news, p.1 < D
def CtrL (w : World) (d : Nat) (f : Addr) (sc : Addr) (xs : List Value) (ns : List Int) (news : Ledger) (post : Value → Ledger → Prop) : Prop :=
  ∀ (mean : ExcName → Option Value) (mg mb : Str → Option Value) (dp un : Nat) (gd : Option (List Code)) (env : Env) (outer : List Env) (A₀ : Around) (base h₀ : Heap) (L : Addr) (m : Str → Option Value) (hp : Heap) (gs : Array GenState) (dr : Drawn) (tk0 : Nat) (os : OsState) (Q E : Value → Shared → Prop),
    Below A₀ base outer h₀ → Fr h₀ L hp m → (frg.heap_1 w.params).In h₀ → News h₀ L hp news → Top vw loose2 mean mg mb h₀ → env.frame = some L → env.scope.kind = .function → dp + d < recursionLimit → un + 20 * d < cLine → h₀.IsList sc xs.toArray → IntsAre xs ns →
    (∀ r news' h' tk', post r news' → Fr h₀ L h' m → News h₀ L h' news' → Q r ⟨h', gs, dr, tk', os⟩) →
    wpAny (model PySem.Challenge.pw_pc0192_01 w) (topA dp un gd env outer) (call (.ref f) [.ref sc]) Q E ⟨hp, gs, dr, tk0, os⟩
set_option maxHeartbeats 8000000 in
theorem c_law_keg (w : World) (sc : Addr) (xs : List Value) (ns : List Int) (hlen : ns.length ≤ 63) (news : Ledger) : CtrL w 2 230 sc xs ns news (NewKeg news) := by
  intro mean mg mb dp un gd env outer A₀ base h₀ L m hp gs dr tk0 os Q E B F X N T hf hk hdp hun hL hI hret
  k_with_none
  (k_with "eval Call" => first | k_compRoot | (k_here; (with_reducible show wpAny _ _ (eval _ (compEnvC _ _ _ _)) _ _ _); k_dflt (refine Call_ ?_)) | (k_here; (with_reducible show wpAny _ _ (eval (PySem.Expr.Call (PySem.Expr.Name _ _) [PySem.Expr.Name _ _] [] _) _) _ _ _); k_dflt (refine' callN1 ?F ?X ?T ?e ?k ?x ?_ ?c ?g ?l ?df ?dx; (case F => k_asm); (case X => k_asm); (case T => k_asm); (case e => k_is); (case k => k_is); (case x => exact rfl); (case c => exact rfl); (case g => exact rfl); (case l => exact rfl); (case df => decide); (case dx => decide); k_whole)) | (k_here; (with_reducible show wpAny _ _ (eval (PySem.Expr.Call (PySem.Expr.Name _ _) [PySem.Expr.Name _ _, PySem.Expr.Name _ _] [] _) _) _ _ _); k_dflt (refine' callN2 ?F ?X ?T ?e ?k ?x ?y ?_ ?c ?g ?l ?m ?df ?dx ?dy; (case F => k_asm); (case X => k_asm); (case T => k_asm); (case e => k_is); (case k => k_is); (case x => exact rfl); (case y => exact rfl); (case c => exact rfl); (case g => exact rfl); (case l => exact rfl); (case m => exact rfl); (case df => decide); (case dx => decide); (case dy => decide); k_whole)) | (k_here; (with_reducible show wpAny _ _ (eval (PySem.Expr.Call (PySem.Expr.Name _ _) [_] [] _) _) _ _ _); k_dflt (refine' callE1 ?F ?X ?T ?e ?k ?_ ?c ?g ?df ?h1; (case F => k_asm); (case X => k_asm); (case T => k_asm); (case e => k_is); (case k => k_is); (case c => exact rfl); (case g => exact rfl); (case df => decide); (case h1 => exact rfl); k_whole)) | (k_here; (with_reducible show wpAny _ _ (eval (PySem.Expr.Call (PySem.Expr.Name _ _) [_, _] [] _) _) _ _ _); k_dflt (refine' callE2 ?F ?X ?T ?e ?k ?_ ?c ?g ?df ?h1 ?h2; (case F => k_asm); (case X => k_asm); (case T => k_asm); (case e => k_is); (case k => k_is); (case c => exact rfl); (case g => exact rfl); (case df => decide); (case h1 => exact rfl); (case h2 => exact rfl); k_whole)) | k_dflt (refine Call_ ?_))
  (refine wpAny_call ?_; k_dflt (refine' code_def (binds := [(Str.ofString "script", Value.ref sc)]) ?k1 ?k2 ?k3 ?k4 ?k5 ?kA ?kF ?kK ?k6 ?k7 ?k8 ?k9 ?kB ?_ ?c2 ?c3 ?c4 ?c5; (case kA => exact rfl); (case kF => assumption); (case kK => assumption); (case k1 => k_asm); (case k2 => k_asm); (case k3 => k_asm); (case k4 => k_asm); (case k5 => k_asm); (case k6 => k_is); (case k7 => k_is); (case k8 => ktr_room); (case k9 => first | exact BindsTo.of_eq rfl | exact binds_K (by k_in) rfl (by k_is) rfl rfl rfl); (case c5 => decide); (case kB => exact locs rfl); (case c2 => exact rfl); (case c3 => exact rfl); (case c4 => exact rfl); k_whole; intro g' L' h' FG' F' N' B' X' T'; (try dsimp only); (try k_lift B'); (try k_fold)))
  have hL9 : g'.IsList sc xs.toArray := let ⟨o, e, r⟩ := hL; ⟨o, FG'.keep _ _ e, r⟩
  k_steps
  all_goals refine hret _ _ _ _ ⟨_, _, _, _, _, _, rfl, ?_, ?_, ?_, rfl, ?_⟩ (by k_asm) (by k_asm)
  all_goals first
    | assumption
    | omega
    | exact (fm_in _ 65393 (by decide)).1
    | exact (fm_in _ 65393 (by decide)).2
    | decide
/-- a new value, and the pair that it was drawn from turned -/
def NewVal (news : Ledger) (g : Obj → Ledger) (r : Value) (n' : Ledger) : Prop := ∃ v : V, v.ok ∧ ∃ D c' u1 u2 u3 a' b' s1 s2 c'', r = .ref D ∧ 0 ≤ a' ∧ 0 ≤ b' ∧ b' < 65393 ∧ n' = (D, v.obj c' u1 u2 u3) :: g (W.listOf #[.int a' s1, .int b' s2] c'') ∧ ∀ p ∈ news, p.1 < D
theorem c_law_value (w : World) (a b : Int) (ha : 0 ≤ a) (hb : 0 ≤ b) (hb2 : b < 65393) (keg : Addr) (t1 t2 : Tok) (c : Nat) (news : Ledger) (g : Obj → Ledger) (U : UpdF keg (W.listOf #[.int a t1, .int b t2] c) news g) : Ctr w 5 258 [.ref keg] news (NewVal news g) := by
  intro mean mg mb dp un gd env outer A₀ base h₀ L m hp gs dr tk0 os Q E B F X N T hf hk hdp hun hret
  obtain ⟨pre, post, e, eg, h1, h2⟩ := U.split
  subst e
  refine c_law_value0 w a b ha hb hb2 keg t1 t2 c (pre ++ post) (fun p hp => (List.mem_append.mp hp).elim (h1 p) (h2 p)) mean mg mb dp un gd env outer A₀ base h₀ L m hp gs dr tk0 os Q E B F X (fun p hp => N p ?_) T hf hk hdp hun fun r n' h' tk' hp F' N' => ?_
  · rcases List.mem_cons.mp hp with rfl | hp
    · exact List.mem_append.mpr (.inr (.head _))
    · exact (List.mem_append.mp hp).elim (fun q => List.mem_append.mpr (.inl q)) fun q => List.mem_append.mpr (.inr (.tail _ q))
  · obtain ⟨v, hv, D, c', u1, u2, u3, a', b', s1, s2, c'', rfl, q3, q4, q5, rfl, l1, l2⟩ := hp
    refine hret _ _ _ _ ⟨v, hv, D, c', u1, u2, u3, a', b', s1, s2, c'', rfl, q3, q4, q5, rfl, fun p hp => ?_⟩ F' (fun p hp => N' p ?_)
    · rcases List.mem_append.mp hp with hp | hp
      · exact l2 p (List.mem_append.mpr (.inl hp))
      · rcases List.mem_cons.mp hp with rfl | hp
        · exact l1
        · exact l2 p (List.mem_append.mpr (.inr hp))
    · rw [eg] at hp
      rcases List.mem_cons.mp hp with rfl | hp
      · exact .head _
      · rcases List.mem_append.mp hp with hp | hp
        · exact .tail _ (.tail _ (List.mem_append.mpr (.inl hp)))
        · rcases List.mem_cons.mp hp with rfl | hp
          · exact .tail _ (.head _)
          · exact .tail _ (.tail _ (List.mem_append.mpr (.inr hp)))
theorem loose_is : looseW vw loose2 = loose2 := by kernel_rfl
section
variable {prog : Program} {w : World} {A : Around} {E : Value → Shared → Prop} {s : Shared} {a b : Addr} {k : Kd} {n n' : Int} {c d : Nat} {t1 t2 t3 u1 u2 u3 : Tok} {Q : Value → Shared → Prop}
theorem ne_sameN (e : n = n') (hu : A.units + 64 < cLine) (ha : s.heap.get? a = some ((V.i k n).obj c t1 t2 t3)) (hb : s.heap.get? b = some ((V.i k n').obj d u1 u2 u3)) (h : Q (.bool false) s) :
    wpAny (model prog w) A (compareOp .NotEq (.ref a) (.ref b)) Q E s := by subst e; exact ne_same hu ha hb h
end
theorem CtrL.use {w : World} {d : Nat} {f sc : Addr} {xs : List Value} {ns : List Int} {news : Ledger} {post : Value → Ledger → Prop} (C : CtrL w d f sc xs ns news post)
    {mean : ExcName → Option Value} {mg mb : Str → Option Value} {dp un : Nat} {gd : Option (List Code)} {env : Env} {outer : List Env} {A₀ : Around} {base h₀ : Heap} {L : Addr} {m : Str → Option Value} {hp : Heap} {gs : Array GenState} {dr : Drawn} {tk0 : Nat} {os : OsState} {Q E : Value → Shared → Prop}
    (B : Below A₀ base outer h₀) (F : Fr h₀ L hp m) (X : (frg.heap_1 w.params).In h₀) (N : News h₀ L hp news) (T : Top vw loose2 mean mg mb h₀) (hf : env.frame = some L) (hk : env.scope.kind = .function) (hdp : dp + d < recursionLimit) (hun : un + 20 * d < cLine)
    (hL : h₀.IsList sc xs.toArray) (hI : IntsAre xs ns)
    (ret : ∀ r news' h' tk', post r news' → Fr h₀ L h' m → News h₀ L h' news' → Q r ⟨h', gs, dr, tk', os⟩) :
    wpAny (model PySem.Challenge.pw_pc0192_01 w) (topA dp un gd env outer) (call (.ref f) [.ref sc]) Q E ⟨hp, gs, dr, tk0, os⟩ :=
  C mean mg mb dp un gd env outer A₀ base h₀ L m hp gs dr tk0 os Q E B F X N T hf hk hdp hun hL hI ret
theorem CtrT.use {w : World} {d : Nat} {f : Addr} {vs : List Value} {news : Ledger} {post : Value → Ledger → Prop} (C : CtrT w d f vs news post)
    {mean : ExcName → Option Value} {mg mb : Str → Option Value} {dp un : Nat} {gd : Option (List Code)} {env : Env} {h₀ : Heap} {L : Addr} {m : Str → Option Value} {hp : Heap} {gs : Array GenState} {dr : Drawn} {tk0 : Nat} {os : OsState} {Q E : Value → Shared → Prop}
    (F : Fr h₀ L hp m) (X : (frg.heap_1 w.params).In h₀) (N : News h₀ L hp news) (T : Top vw loose2 mean mg mb h₀) (hf : env.frame = some L) (hk : env.scope.kind = .function) (hdp : dp + d < recursionLimit) (hun : un + 20 * d < cLine)
    (ret : ∀ r news' h' tk', post r news' → Fr h₀ L h' m → News h₀ L h' news' → Q r ⟨h', gs, dr, tk', os⟩) :
    wpAny (model PySem.Challenge.pw_pc0192_01 w) (topA dp un gd env []) (call (.ref f) vs) Q E ⟨hp, gs, dr, tk0, os⟩ :=
  C mean mg mb dp un gd env h₀ L m hp gs dr tk0 os Q E F X N T hf hk hdp hun ret
/-- the rest of a range's turns, by what holds between the turns -/
theorem rest_inv {prog : Program} {w : World} {A : Around} {E : Value → Shared → Prop} {h₀ : Heap} {env : Env} {x : Str} {body : List Stmt} {Q : Flow → Shared → Prop} {s : Shared} {I : Addr} {a : Int} {n : Nat} (J : (Str → Option Value) → Ledger → Prop)
    (turn : ∀ (i : Nat) m news, J m news → ∀ t h tk, Fr h₀ env.locals h (fun y => if y = x then some (.int (a + (i : Int)) t) else m y) → News h₀ env.locals h ((I, itR (a + ((i + 1 : Nat) : Int)) ((n : Int) - ((i + 1 : Nat) : Int))) :: news) →
      wpAny (model prog w) A (execs body env) (UnrPost h₀ env.locals { s with heap := h, toks := tk } I (itR (a + ((i + 1 : Nat) : Int)) ((n : Int) - ((i + 1 : Nat) : Int))) J Q) E { s with heap := h, toks := tk })
    (done : ∀ m news, J m news → ∀ h tk, Fr h₀ env.locals h m → News h₀ env.locals h news → Q .next { s with heap := h, toks := tk }) :
    ∀ k i m news, J m news → RangeRest prog w A E h₀ env x body Q s I a n k i m news
  | 0, _, m, news, hJ => done m news hJ
  | k + 1, i, m, news, hJ => fun t h tk F N => wpAny_mono (turn i m news hJ t h tk F N) (fun f s2 z => by
      have up : UnrEnd h₀ env.locals { s with heap := h, toks := tk } I (itR (a + ((i + 1 : Nat) : Int)) ((n : Int) - ((i + 1 : Nat) : Int))) J s2 → UnrEnd h₀ env.locals { s with heap := h, toks := tk } I (itR (a + ((i + 1 : Nat) : Int)) ((n : Int) - ((i + 1 : Nat) : Int))) (RangeRest prog w A E h₀ env x body Q s I a n k (i + 1)) s2 := by
        rintro ⟨h', tk', m', news', e, F', N', off, r⟩
        exact ⟨h', tk', m', news', e, F', N', off, rest_inv J turn done k (i + 1) m' news' r⟩
      cases f <;> first | exact z | exact up z) fun _ _ z => z
/-- between the turns: the pair that is drawn from, the three cells -/
def LawJ (keg S : Addr) (_ : Str → Option Value) (news : Ledger) : Prop :=
  ∃ a b u v c o1 o2 o3, (∀ p ∈ [(keg, W.listOf #[.int a u, .int b v] c), (S + 1 + 1 + 1, o3), (S + 1 + 1, o2), (S + 1, o1)], p ∈ news) ∧ o1.data = Data.cell (some (.ref keg)) ∧ (∃ x, o2.data = Data.cell x) ∧ (∃ x, o3.data = Data.cell x) ∧ 0 ≤ a ∧ 0 ≤ b ∧ b < 65393
theorem LawJ.intro {keg S : Addr} {m : Str → Option Value} {news : Ledger} {a b : Int} {u v : Tok} {c : Nat} {o1 o2 o3 : Obj} {x2 x3 : Option Value} (h : ∀ p ∈ [(keg, W.listOf #[.int a u, .int b v] c), (S + 1 + 1 + 1, o3), (S + 1 + 1, o2), (S + 1, o1)], p ∈ news) (h1 : o1.data = Data.cell (some (.ref keg))) (h2 : o2.data = Data.cell x2) (h3 : o3.data = Data.cell x3) (q1 : 0 ≤ a) (q2 : 0 ≤ b) (q3 : b < 65393) : LawJ keg S m news :=
  ⟨a, b, u, v, c, o1, o2, o3, h, h1, ⟨_, h2⟩, ⟨_, h3⟩, q1, q2, q3⟩
theorem News.under {h₀ h : Heap} {L : Addr} {p : Addr × Obj} {l n : Ledger} (N : News h₀ L h (p :: n)) (hs : ∀ q ∈ l, q ∈ n) : News h₀ L h (p :: l) := List.forall_mem_cons.mpr ⟨N _ (.head _), fun q hq => N q (.tail _ (hs q hq))⟩

/-- one of the values that were made -/
def IsNew (news : Ledger) (v : Value) : Prop := ∃ (d : Addr) (x : V) (c : Nat) (t1 t2 t3 : Tok), v = Value.ref d ∧ x.ok ∧ (d, x.obj c t1 t2 t3) ∈ news
/-- a filter's turn that lets nothing through -/
def FilterNo (h₀ : Heap) (L : Addr) (m : Str → Option Value) (s₁ : Shared) (I : Addr) (oI : Obj) (C : Addr) (oC : Obj) (D : Addr) (news : Ledger) (ok : Bool) (s' : Shared) : Prop :=
  ok = false ∧ ∃ h' tk', s' = { s₁ with heap := h', toks := tk' } ∧ Fr h₀ L h' m ∧ News h₀ L h' ((I, oI) :: (C, oC) :: (D, LCg.lst []) :: news)
theorem filter_inv {prog : Program} {w : World} {A : Around} {h₀ : Heap} {L : Addr} {m : Str → Option Value} {env : Env} {ct elt : PySem.Expr} {x : Str} {scope : Scope} {cl : List (Str × Addr)} {s : Shared} {S : Ledger → Prop} {Fin : List Value → Ledger → Prop} {its : Array Value} {news : Ledger}
    (hP : ∀ v ∈ its.toList, IsNew news v) (hS : S news)
    (turn : ∀ v I oI C oC D m₂ h tk (E' : Value → Shared → Prop), IsNew news v → LCg.NsObj oC m₂ → m₂ x = some v → Fr h₀ L h m → News h₀ L h ((I, oI) :: (C, oC) :: (D, LCg.lst []) :: news) → LCg.Off3 I C D news → ((@Ne Nat I C) ∧ (@Ne Nat I D) ∧ (@Ne Nat C D)) →
      wpAny (model prog w) A (isTrue ct (compEnvC scope cl C env) (eval ct (compEnvC scope cl C env))) (FilterNo h₀ L m { s with heap := h, toks := tk } I oI C oC D news) E' { s with heap := h, toks := tk })
    (fin : Fin [] news) : ∀ n i, LCt.CompRestT prog w A h₀ L m env ct elt x scope cl s S (fun i v => its[i]? = some v) Fin n i [] news
  | 0, _ => fin
  | n + 1, i => fun v I oI C oC D m₂ h tk E' hv hC hx F N off ne => wpAny_mono (turn v I oI C oC D m₂ h tk E' (hP v (Array.mem_toList_iff.mpr (Array.mem_of_getElem? hv))) hC hx F N off ne)
      (fun ok s' z => by
        obtain ⟨rfl, h', tk', rfl, F', N'⟩ := z
        exact ⟨h', tk', news, rfl, F', N', off, hS, filter_inv hP hS turn fin n (i + 1)⟩) (fun _ _ z => z)
theorem IsNew.head {d : Addr} {x : V} {c : Nat} {t1 t2 t3 : Tok} {l : Ledger} (h : x.ok) : IsNew ((d, x.obj c t1 t2 t3) :: l) (.ref d) := ⟨d, x, c, t1, t2, t3, rfl, h, .head _⟩
theorem IsNew.tail {p : Addr × Obj} {v : Value} {l : Ledger} (h : IsNew l v) : IsNew (p :: l) v := let ⟨d, x, c, t1, t2, t3, e, o, m⟩ := h; ⟨d, x, c, t1, t2, t3, e, o, .tail _ m⟩
/-- the turn's end: what holds between the turns holds again -/
theorem end_law {h₀ h' : Heap} {L I keg S : Addr} {it : Obj} {s₁ : Shared} {tk : Nat} {m' : Str → Option Value} {all : Ledger} {a b : Int} {u v : Tok} {c : Nat} {o1 o2 o3 : Obj} {x2 x3 : Option Value}
    (F : Fr h₀ L h' m') (N : News h₀ L h' all) (hI : (I, it) ∈ all) (hk : (keg, W.listOf #[.int a u, .int b v] c) ∈ all) (h3 : (S + 1 + 1 + 1, o3) ∈ all) (h2 : (S + 1 + 1, o2) ∈ all) (h1 : (S + 1, o1) ∈ all)
    (d1 : o1.data = Data.cell (some (.ref keg))) (d2 : o2.data = Data.cell x2) (d3 : o3.data = Data.cell x3) (q1 : 0 ≤ a) (q2 : 0 ≤ b) (q3 : b < 65393)
    (n0 : @Ne Nat keg I) (n3 : @Ne Nat (S + 1 + 1 + 1) I) (n2 : @Ne Nat (S + 1 + 1) I) (n1 : @Ne Nat (S + 1) I) : UnrEnd h₀ L s₁ I it (LawJ keg S) { s₁ with heap := h', toks := tk } :=
  UnrEnd.intro F N [(keg, W.listOf #[.int a u, .int b v] c), (S + 1 + 1 + 1, o3), (S + 1 + 1, o2), (S + 1, o1)]
    (List.forall_mem_cons.mpr ⟨hI, List.forall_mem_cons.mpr ⟨hk, List.forall_mem_cons.mpr ⟨h3, List.forall_mem_cons.mpr ⟨h2, List.forall_mem_cons.mpr ⟨h1, List.forall_mem_nil _⟩⟩⟩⟩⟩)
    (List.forall_mem_cons.mpr ⟨n0, List.forall_mem_cons.mpr ⟨n3, List.forall_mem_cons.mpr ⟨n2, List.forall_mem_cons.mpr ⟨n1, List.forall_mem_nil _⟩⟩⟩⟩)
    (LawJ.intro (fun _ hp => hp) d1 d2 d3 q1 q2 q3)
/-- a comprehension's turn that made one new object: only that one is new -/
theorem compEnd_new {h₀ h' : Heap} {L I C D D9 : Addr} {m : Str → Option Value} {s₁ : Shared} {oI oC oD o9 : Obj} {S : Ledger → Prop} {rest : Value → Ledger → Prop} {y : Value} {tk : Nat} {news' : Ledger} {R : Prop}
    (F : Fr h₀ L h' m) (N : News h₀ L h' ((D9, o9) :: (I, oI) :: (C, oC) :: (D, oD) :: news')) (l : I < D9 ∧ C < D9 ∧ D < D9 ∧ R) (off : LCg.Off3 I C D news') (hS : S ((D9, o9) :: news')) (r : rest y ((D9, o9) :: news')) :
    LCg.CompEnd h₀ L m s₁ I oI C oC D oD S rest y { s₁ with heap := h', toks := tk } :=
  LCg.CompEnd.intro F N ((D9, o9) :: news')
    (List.forall_mem_cons.mpr ⟨.tail _ (.head _), List.forall_mem_cons.mpr ⟨.tail _ (.tail _ (.head _)), List.forall_mem_cons.mpr ⟨.tail _ (.tail _ (.tail _ (.head _))), List.forall_mem_cons.mpr ⟨.head _, fun _ hp => .tail _ (.tail _ (.tail _ (.tail _ hp)))⟩⟩⟩⟩)
    ⟨⟨Nat.ne_of_gt l.1, Nat.ne_of_gt l.2.1, Nat.ne_of_gt l.2.2.1⟩, off⟩ hS r
section
variable {prog : Program} {w : World} {A : Around} {E : Value → Shared → Prop} {s : Shared} {value slice : PySem.Expr} {l : Addr} {items : Array Value} {k : Int} {u : Tok} {x : Value} {Q : Value → Shared → Prop}
theorem lst_at (hl : s.heap.IsList l items) (h0 : 0 ≤ k) (hk : k < 2 ^ 63) (hx : items[k.toNat]? = some x) (h : Q x s)
    (hs : subscripted slice false (.ref l) (.int k u) = operate [.ref l, .int k u] (getItem (.ref l) (.int k u)) := by with_unfolding_all rfl) :
    wpAny (model prog w) A (subscriptTail value slice (.ref l) (.int k u)) Q E s :=
  tail_any hl.typeIs slot_list_getitem.lookup (wpAny_getItem_list hl h0 hk hx h) hs
end

theorem six_kinds {t0 t1 t2 t3 t4 t5 : Tok} : ∀ v ∈ [Value.str (Str.ofString "Int8") t0, .str (Str.ofString "UInt8") t1, .str (Str.ofString "Int16") t2, .str (Str.ofString "UInt16") t3, .str (Str.ofString "Int32") t4, .str (Str.ofString "UInt32") t5], ∃ (k : Kd) (t : Tok), v = Value.str k.str t ∧ k.fixed = true ∧ k.w ≤ 32 := by
  intro v hv
  simp only [List.mem_cons, List.not_mem_nil, or_false] at hv
  rcases hv with rfl | rfl | rfl | rfl | rfl | rfl
  · exact ⟨.i8, _, rfl, rfl, by decide⟩
  · exact ⟨.u8, _, rfl, rfl, by decide⟩
  · exact ⟨.i16, _, rfl, rfl, by decide⟩
  · exact ⟨.u16, _, rfl, rfl, by decide⟩
  · exact ⟨.i32, _, rfl, rfl, by decide⟩
  · exact ⟨.u32, _, rfl, rfl, by decide⟩
theorem three_kinds {k : Kd} (hk : k.fixed = true) (hw : k.w ≤ 32) {t0 t1 t2 : Tok} : ∀ v ∈ [Value.str (Str.ofString "Int64") t0, .str (Str.ofString "UInt64") t1, .str k.str t2], ∃ (wd : Kd) (t : Tok), v = Value.str wd.str t ∧ wd.fixed = true ∧ k.w ≤ wd.w := by
  intro v hv
  simp only [List.mem_cons, List.not_mem_nil, or_false] at hv
  rcases hv with rfl | rfl | rfl
  · exact ⟨.i64, _, rfl, rfl, by show k.w ≤ 64; omega⟩
  · exact ⟨.u64, _, rfl, rfl, by show k.w ≤ 64; omega⟩
  · exact ⟨k, _, rfl, hk, Nat.le_refl _⟩
set_option maxHeartbeats 8000000 in
theorem tst : PySem.Challenge.rw_pc0192_01.Holds := by
  w_on
  refine holds_law said fun said => ?_
  refine holds_open (q := vw) (loose := loose2) (Xt := Xt) (XP := XL vw []) (Yf := hook.obs) (Ya := hook.val) (YP := hook.says) (N := 2000) left1 (Hook.of hook) (Hook.keeps hook) (fun s e => xl_of s (Bool.and_eq_true_iff.mp e).1) XL.keeps (by rfl) (by rfl) (by rfl) (fun s e => recFacts_of (Bool.and_eq_true_iff.mp e).2) (by rfl) said okk ⟨rfl, rfl, rfl, rfl, rfl, by decide +kernel⟩ prom1 ?hc
  case hc =>
    w_strict k_go0
    (rename Top _ _ _ _ _ _ => T0)
    have T9 := T0
    rw [loose_is] at T9
    k_with_none
    (k_with "eval Call" => first | k_compRoot | (k_here; (with_reducible show wpAny _ _ (eval _ (compEnvC _ _ _ _)) _ _ _); k_dflt (refine Call_ ?_)) | (k_here; (with_reducible show wpAny _ _ (eval (PySem.Expr.Call (PySem.Expr.Name _ _) [PySem.Expr.Name _ _] [] _) _) _ _ _); k_dflt (refine' callN1 ?F ?X ?T ?e ?k ?x ?_ ?c ?g ?l ?df ?dx; (case F => k_asm); (case X => k_asm); (case T => k_asm); (case e => k_is); (case k => k_is); (case x => exact rfl); (case c => exact rfl); (case g => exact rfl); (case l => exact rfl); (case df => decide); (case dx => decide); k_whole)) | (k_here; (with_reducible show wpAny _ _ (eval (PySem.Expr.Call (PySem.Expr.Name _ _) [PySem.Expr.Name _ _, PySem.Expr.Name _ _] [] _) _) _ _ _); k_dflt (refine' callN2 ?F ?X ?T ?e ?k ?x ?y ?_ ?c ?g ?l ?m ?df ?dx ?dy; (case F => k_asm); (case X => k_asm); (case T => k_asm); (case e => k_is); (case k => k_is); (case x => exact rfl); (case y => exact rfl); (case c => exact rfl); (case g => exact rfl); (case l => exact rfl); (case m => exact rfl); (case df => decide); (case dx => decide); (case dy => decide); k_whole)) | (k_here; (with_reducible show wpAny _ _ (eval (PySem.Expr.Call (PySem.Expr.Name _ _) [_] [] _) _) _ _ _); k_dflt (refine' callE1 ?F ?X ?T ?e ?k ?_ ?c ?g ?df ?h1; (case F => k_asm); (case X => k_asm); (case T => k_asm); (case e => k_is); (case k => k_is); (case c => exact rfl); (case g => exact rfl); (case df => decide); (case h1 => exact rfl); k_whole)) | (k_here; (with_reducible show wpAny _ _ (eval (PySem.Expr.Call (PySem.Expr.Name _ _) [_, _] [] _) _) _ _ _); k_dflt (refine' callE2 ?F ?X ?T ?e ?k ?_ ?c ?g ?df ?h1 ?h2; (case F => k_asm); (case X => k_asm); (case T => k_asm); (case e => k_is); (case k => k_is); (case c => exact rfl); (case g => exact rfl); (case df => decide); (case h1 => exact rfl); (case h2 => exact rfl); k_whole)) | k_dflt (refine Call_ ?_))
    (k_with "newTuple" => (k_here; k_dflt (refine' kup_newTuple ?F ?N ?_ ?z; (case F => k_asm); (case N => k_asm); (case z => kmk_size)); intro D' h' F' N' lD; (try k_sweep)))
    (k_with "call ref" => first
      | (k_here; (with_reducible show wpAny _ _ (call (Value.ref 230) [_]) _ _ _); k_dflt (refine' CtrL.use (c_law_keg _ _ _ _ ?hlen _) ?hz1 ?hz2 ?hz3 ?hz4 ?hz5 ?hz6 ?hz7 ?hz8 ?hz9 ?hzL ?hzI ?_; (case hz1 => k_asm); (case hz2 => k_asm); (case hz3 => k_asm); (case hz4 => k_asm); (case hz5 => k_asm); (case hz6 => first | exact rfl | assumption); (case hzL => assumption); (case hzI => assumption); (case hlen => omega); (case hz7 => first | exact rfl | assumption); (case hz8 => ktr_room); (case hz9 => ktr_units); intro r' n' h' tk' hp' F' N'; obtain ⟨keg9, a9, b9, u91, u92, c91, rfl, q91, q92, q93, rfl, lK9⟩ := hp'; (try k_lt lK9); (try dsimp only); (try k_fold)))
      | (k_here; (with_reducible show wpAny _ _ (call (Value.ref 209) [_, _]) _ _ _); k_dflt (refine' Ctr.use (c_led_to _ .i8 (fun h => Kd.noConfusion h) (V.i .i64 200) (by decide +kernel) (by decide +kernel) _ _ _ _ _ _ _ ?hm1) ?hz1 ?hz2 ?hz3 ?hz4 ?hz5 ?hz6 ?hz7 ?hz8 ?hz9 ?_; (case hz1 => k_asm); (case hz2 => k_asm); (case hz3 => k_asm); (case hz4 => k_asm); (case hz5 => k_asm); (case hz6 => first | exact rfl | assumption); (case hm1 => kcj_m);  (case hz7 => first | exact rfl | assumption); (case hz8 => ktr_room); (case hz9 => ktr_units); intro r' n' h' tk' hp' F' N'; obtain ⟨D1, c1, a1, a2, a3, rfl, rfl, lD1⟩ := hp'; (try dsimp only); (try k_fold)))
      | (k_here; (with_reducible show wpAny _ _ (call (Value.ref 209) [_, _]) _ _ _); k_dflt (refine' Ctr.use (c_led_to _ .u16 (fun h => Kd.noConfusion h) (V.b true) (by decide +kernel) (by decide +kernel) _ _ _ _ 0 0 _ ?hm1) ?hz1 ?hz2 ?hz3 ?hz4 ?hz5 ?hz6 ?hz7 ?hz8 ?hz9 ?_; (case hz1 => k_asm); (case hz2 => k_asm); (case hz3 => k_asm); (case hz4 => k_asm); (case hz5 => k_asm); (case hz6 => first | exact rfl | assumption); (case hm1 => kcj_m);  (case hz7 => first | exact rfl | assumption); (case hz8 => ktr_room); (case hz9 => ktr_units); intro r' n' h' tk' hp' F' N'; obtain ⟨D2, c2, b1, b2, b3, rfl, rfl, lD2⟩ := hp'; (try dsimp only); (try k_fold)))
      | (k_here; (with_reducible show wpAny _ _ (call (Value.ref 258) [_]) _ _ _); k_dflt (refine' Ctr.use (c_law_value _ _ _ ?hf1 ?hf2 ?hf3 _ _ _ _ _ _ ?hu1) ?hz1 ?hz2 ?hz3 ?hz4 ?hz5 ?hz6 ?hz7 ?hz8 ?hz9 ?_; (case hz1 => k_asm); (case hz2 => k_asm); (case hz3 => k_asm); (case hz4 => k_asm); (case hz5 => k_asm); (case hz6 => first | exact rfl | assumption); (case hu1 => k_updF); (case hf1 => first | assumption | omega); (case hf2 => first | assumption | omega); (case hf3 => first | assumption | omega);  (case hz7 => first | exact rfl | assumption); (case hz8 => ktr_room); (case hz9 => ktr_units); intro r' n' h' tk' hp' F' N'; obtain ⟨x9, ok9, D9, c9, u1, u2, u3, a9, b9, s1, s2, c8, rfl, q3, q4, q5, rfl, lK⟩ := hp'; (try k_lt lK); (try dsimp only at N'); (try dsimp only); (try k_fold)))
      | (k_here; (with_reducible show wpAny _ _ (call (Value.ref 237) [_, _]) _ _ _); k_dflt (refine' Ctr.use (c_sip _ _ _ _ ?hf1 ?hf2 ?hf3 ?hf4 ?hf5 _ _ _ _ _ _ _ ?hu1) ?hz1 ?hz2 ?hz3 ?hz4 ?hz5 ?hz6 ?hz7 ?hz8 ?hz9 ?_; (case hz1 => k_asm); (case hz2 => k_asm); (case hz3 => k_asm); (case hz4 => k_asm); (case hz5 => k_asm); (case hz6 => first | exact rfl | assumption); (case hu1 => k_updF); (case hf1 => first | assumption | omega); (case hf2 => first | assumption | omega); (case hf3 => first | assumption | omega); (case hf4 => first | assumption | omega); (case hf5 => first | assumption | omega);  (case hz7 => first | exact rfl | assumption); (case hz8 => ktr_room); (case hz9 => ktr_units); intro r' n' h' tk' hp' F' N'; obtain ⟨x8, a9, b9, t9, s1, s2, c8, rfl, q1, q2, q3, q4, q5, rfl⟩ := hp'; (try dsimp only at N'); (try dsimp only); (try k_fold)))
      | (k_here; (with_reducible show wpAny _ _ (call (Value.ref 279) [_, _, _]) _ _ _); k_dflt (refine' CtrT.use (c_one_right _ k9 w9 kf9 wf9 wl9 _ ?hx _ _ _ _ _ _ _ _ ?hm1) ?hz1 ?hz2 ?hz3 ?hz4 ?hz6 ?hz7 ?hz8 ?hz9 ?_; (case hz1 => k_asm); (case hz2 => k_asm); (case hz3 => k_asm); (case hz4 => k_asm); (case hz6 => first | exact rfl | assumption); (case hm1 => kcj_m); (case hx => assumption); (case hz7 => first | exact rfl | assumption); (case hz8 => ktr_room); (case hz9 => ktr_units); intro r' n' h' tk' hp' F' N'; obtain ⟨rfl, rfl⟩ := hp'; (try dsimp only); (try k_fold)))
      | (k_here; (with_reducible show wpAny _ _ (call (Value.ref 286) [_, _]) _ _ _); k_dflt (refine' Ctr.use (c_two_right _ _ _ ?hf1 ?hf2 _ _ _ _ _ _ _ _ _ _ _ ?hm1 ?hm2) ?hz1 ?hz2 ?hz3 ?hz4 ?hz5 ?hz6 ?hz7 ?hz8 ?hz9 ?_; (case hz1 => k_asm); (case hz2 => k_asm); (case hz3 => k_asm); (case hz4 => k_asm); (case hz5 => k_asm); (case hz6 => first | exact rfl | assumption); (case hm1 => kcj_m); (case hm2 => kcj_m); (case hf1 => first | assumption | omega); (case hf2 => first | assumption | omega);  (case hz7 => first | exact rfl | assumption); (case hz8 => ktr_room); (case hz9 => ktr_units); intro r' n' h' tk' hp' F' N'; obtain ⟨rfl, rfl⟩ := hp'; (try dsimp only); (try k_fold)))
      | (k_here; (with_reducible show wpAny _ _ (call (Value.ref 291) [_]) _ _ _); k_dflt (refine' Ctr.use (c_order_right _ _ _ _ _ _ _ _ _ _ _ _ _ _ _ _ _ _ _ _ _ _ ?hm2 ?hm3 ?hm4 ?hm1) ?hz1 ?hz2 ?hz3 ?hz4 ?hz5 ?hz6 ?hz7 ?hz8 ?hz9 ?_; (case hz1 => k_asm); (case hz2 => k_asm); (case hz3 => k_asm); (case hz4 => k_asm); (case hz5 => k_asm); (case hz6 => first | exact rfl | assumption); (case hm1 => kcj_m); (case hm2 => kcj_m); (case hm3 => kcj_m); (case hm4 => kcj_m);  (case hz7 => first | exact rfl | assumption); (case hz8 => ktr_room); (case hz9 => ktr_units); intro r' n' h' tk' hp' F' N'; obtain ⟨rfl, rfl⟩ := hp'; (try dsimp only); (try k_fold))))
    (k_with "compareOp NotEq ref ref" => first
      | ((fail_if_success (have q9 := kf9)); k_here; k_dflt (refine' ne_sameN (n' := -56) ?he9 ?hu9 ?ha9 ?hb9 ?_; (case ha9 => exact News.get (by k_asm) (by k_mem)); (case hb9 => exact News.get (by k_asm) (by k_mem)); (case hu9 => ktr_units); (case he9 => decide +kernel)))
      | ((fail_if_success (have q9 := kf9)); k_here; k_dflt (refine' ne_sameN (n' := 1) ?he9 ?hu9 ?ha9 ?hb9 ?_; (case ha9 => exact News.get (by k_asm) (by k_mem)); (case hb9 => exact News.get (by k_asm) (by k_mem)); (case hu9 => ktr_units); (case he9 => decide +kernel))))
    (k_with "subscriptTail" => first
      | (k_here; k_dflt (refine' menu_item (fun v => ∃ (k : Kd) (t : Tok), v = Value.str k.str t ∧ k.fixed = true ∧ k.w ≤ 32) ?ml ?m0 ?mk ?mz ?mp ?_; (case ml => exact News.isList (by k_asm) (by k_mem)); (case mp => exact six_kinds); (case m0 => assumption); (case mk => (simp only [List.length_cons, List.length_nil]; omega)); (case mz => (simp only [List.length_cons, List.length_nil]; omega))); intro v9 hv9; obtain ⟨k9, tk8, rfl, kf9, kw9⟩ := hv9; (rename News _ _ _ _ => cN9); replace cN9 := News.tl cN9)
      | (k_here; k_dflt (refine' menu_item (fun v => ∃ (wd : Kd) (t : Tok), v = Value.str wd.str t ∧ wd.fixed = true ∧ k9.w ≤ wd.w) ?ml ?m0 ?mk ?mz ?mp ?_; (case ml => exact News.isList (by k_asm) (by k_mem)); (case mp => exact three_kinds kf9 kw9); (case m0 => assumption); (case mk => (simp only [List.length_cons, List.length_nil]; omega)); (case mz => (simp only [List.length_cons, List.length_nil]; omega))); intro v9 hv9; obtain ⟨w9, tw9, rfl, wf9, wl9⟩ := hv9; (rename News _ _ _ _ => cN9); replace cN9 := News.tl cN9))
    (k_with "CompEnd" => (k_here; (refine compEnd_new (by assumption) (by assumption) (by assumption) (by (simp only [LCg.Off3, and_true]; assumption)) (by lcg_src) ?_)))
    (k_with "subscriptTail Name Constant ref int" => (k_here; (with_reducible refine' lst_at ?ml ?m0 ?m1 ?mx ?_); k_dflt ((case ml => exact News.isList (by k_asm) (by k_mem)); (case m0 => decide); (case m1 => decide); (case mx => exact rfl))))
    (k_with "CompSrcT" => (k_here; k_dflt (refine LCt.CompSrcT.ledger (by rfl) (by k_asm) (by k_asm) (by k_mem) (by first | size_fits | exact Nat.le_of_ble_eq_true rfl) ?_; intro g'; refine' filter_inv ?hP9 ?hS9 (fun v9 I9 oI9 C9 oC9 D0 m0 h0 tk0 E0 hv9 hC9 hx9 F' N' off' ne' => ?turn9) ?fin9 _ _; (case hP9 => (refine List.forall_mem_cons.mpr ⟨?_, List.forall_mem_cons.mpr ⟨?_, List.forall_mem_cons.mpr ⟨?_, List.forall_mem_nil _⟩⟩⟩ <;> (repeat (first | exact IsNew.head (by assumption) | refine IsNew.tail ?_)))); (case hS9 => exact Or.inr ⟨_, by kcj_m, rfl, _, rfl⟩); (case' turn9 => (obtain ⟨d9, x9, c9, t91, t92, t93, rfl, ok9, hm9⟩ := hv9; (try dsimp only))); (try k_fold))))
    (k_with "FilterNo" => exact ⟨rfl, _, _, rfl, by k_asm, by k_asm⟩)
    (k_with "eval Name" => first
      | (k_here; (with_reducible show wpAny _ _ (eval (Expr.Name (Str.ofString "_law_value") _) (compEnvC _ _ _ _)) _ _ _); k_dflt (refine LCgL.ld_global (by k_asm) (by k_asm) (by k_asm) (by k_is) ?_))
      | (k_here; (with_reducible show wpAny _ _ (eval (Expr.Name (Str.ofString "_law_one_right") _) (compEnvC _ _ _ _)) _ _ _); k_dflt (refine LCgL.ld_global (by k_asm) (by k_asm) (by k_asm) (by k_is) ?_)))
    (k_with "CompSrc" => (k_here; k_dflt (first
      | (refine LCg.CompSrc.ledger (by rfl) (by k_asm) (by k_asm) (by k_mem) (by first | size_fits | exact Nat.le_of_ble_eq_true rfl) ?_; intro g'; lcg_lit)
      | (refine LCg.CompSrc.range (by rfl) (by k_asm) (by k_asm) (by assumption) (by first | decide | rfl) (by first | rfl | decide) (by first | size_fits | exact Nat.le_of_ble_eq_true rfl) ?_; intro g'; lcg_lit))))
    (k_with "RangeRest" => (k_dflt (refine' rest_inv (LawJ keg9 _) (fun i9 m9 n9 hJ9 t9 h9 tk9 F' N' => ?turn) (fun m9 n9 hJ9 h9 tk9 F' N' => ?done) _ _ _ _ (LawJ.intro ?lh ?l1 ?l2 ?l3 ?q1 ?q2 ?q3); (case l1 => assumption); (case lh => refine List.forall_mem_cons.mpr ⟨by kcf_m, List.forall_mem_cons.mpr ⟨by kcf_m, List.forall_mem_cons.mpr ⟨by kcf_m, List.forall_mem_cons.mpr ⟨by kcf_m, List.forall_mem_nil _⟩⟩⟩⟩); (case l2 => assumption); (case l3 => assumption); (case q1 => assumption); (case q2 => assumption); (case q3 => assumption); (case' turn => ((try (rename AllLt _ _ => lI9; simp only [AllLt, List.cons_append, List.nil_append, and_true] at lI9)); obtain ⟨a9, b9, u9, v9, c9, o19, o29, o39, hs9, e19, ⟨x29, e29⟩, ⟨x39, e39⟩, q19, q29, q39⟩ := hJ9; replace N' := News.under N' hs9; clear hs9; (try dsimp only); (try k_fold))); (case' done => (clear hJ9; (try dsimp only); (try k_fold))))))
    (k_with "UnrEnd" => (k_here; k_dflt (refine' end_law ?eF ?eN ?eI ?ek ?e3 ?e2 ?e1 ?d1 ?d2 ?d3 ?q1 ?q2 ?q3 ?n0 ?n3 ?n2 ?n1; (case eF => k_asm); (case eN => k_asm); (case eI => kcj_m); (case ek => kcj_m); (case e3 => kcj_m); (case e2 => kcj_m); (case e1 => kcj_m); (case d1 => first | exact rfl | assumption); (case d2 => first | exact rfl | assumption); (case d3 => first | exact rfl | assumption); (case q1 => assumption); (case q2 => assumption); (case q3 => assumption); (case n0 => k_ne); (case n3 => k_ne); (case n2 => k_ne); (case n1 => k_ne))))
    all_goals try k_fold
    k_steps

end Mine
theorem PySem.Challenge.cw_pc0192_01_holds : PySem.Challenge.rw_pc0192_01.Holds := by
  exact Mine.tst
