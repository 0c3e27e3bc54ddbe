import PyProof.Rows.All
import Wide.All
import OpenK.AllK
import Wide.FinOn
import Open.Tops
import PySem.Challenge.RW_nt0418_01
open PySem PySem.W PyProof.Rows
set_option Elab.async false
set_option maxRecDepth 100000
set_option maxHeartbeats 8000000
namespace Mine.Hd
def nth : List Stmt → Nat → Stmt
  | [], _ => .Pass default
  | s :: _, 0 => s
  | _ :: r, n + 1 => nth r n
def st (i : Nat) : Stmt := nth PySem.Challenge.pw_nt0418_01.main.body i
def prog : Program := { PySem.Challenge.pw_nt0418_01 with main := { PySem.Challenge.pw_nt0418_01.main with body := [st 0, st 1, st 2, st 3, st 4, st 5, st 6, st 7, st 8, st 9, st 10, st 11, st 12, st 13, st 14, st 15, st 16, st 17, st 18, st 19, st 20, st 21, st 22, st 23, st 24, st 25, st 26, st 27, st 28, st 29, st 30, st 31, st 32, st 33] } }
def law : OpenLaw := { PySem.Challenge.rw_nt0418_01 with prog := prog }
open_shared top for Mine.Hd.prog leaving 0
noncomputable def KK : Params → Frag := fun P => ((nat_lit 2, top.o_5 P) :: (nat_lit 3, top.o_237 P) :: (nat_lit 15, top.o_8 P) :: (nat_lit 22, top.o_15 P) :: (nat_lit 24, top.o_17 P) :: (nat_lit 25, top.o_18 P) :: (nat_lit 27, top.o_20 P) :: (nat_lit 28, top.o_21 P) :: (nat_lit 29, top.o_22 P) :: (nat_lit 30, top.o_23 P) :: (nat_lit 31, top.o_31 P) :: (nat_lit 32, top.o_25 P) :: (nat_lit 35, top.o_32 P) :: (nat_lit 42, top.o_39 P) :: (nat_lit 43, top.o_40 P) :: (nat_lit 44, top.o_41 P) :: (nat_lit 47, top.o_44 P) :: (nat_lit 49, top.o_46 P) :: (nat_lit 50, top.o_47 P) :: (nat_lit 52, top.o_49 P) :: (nat_lit 53, top.o_50 P) :: (nat_lit 54, top.o_51 P) :: (nat_lit 56, top.o_53 P) :: (nat_lit 57, top.o_54 P) :: (nat_lit 59, top.o_56 P) :: (nat_lit 60, top.o_57 P) :: (nat_lit 61, top.o_58 P) :: (nat_lit 63, top.o_60 P) :: (nat_lit 64, top.o_61 P) :: (nat_lit 66, top.o_63 P) :: (nat_lit 67, top.o_64 P) :: (nat_lit 68, top.o_68 P) :: (nat_lit 70, top.o_70 P) :: (nat_lit 71, top.o_71 P) :: (nat_lit 73, top.o_73 P) :: (nat_lit 74, top.o_74 P) :: (nat_lit 75, top.o_75 P) :: (nat_lit 77, top.o_77 P) :: (nat_lit 78, top.o_78 P) :: (nat_lit 80, top.o_80 P) :: (nat_lit 81, top.o_81 P) :: (nat_lit 82, top.o_82 P) :: (nat_lit 84, top.o_84 P) :: (nat_lit 85, top.o_85 P) :: (nat_lit 87, top.o_87 P) :: (nat_lit 88, top.o_88 P) :: (nat_lit 89, top.o_89 P) :: (nat_lit 91, top.o_91 P) :: (nat_lit 92, top.o_92 P) :: (nat_lit 94, top.o_94 P) :: (nat_lit 95, top.o_95 P) :: (nat_lit 103, top.o_106 P) :: (nat_lit 105, top.o_108 P) :: (nat_lit 106, top.o_109 P) :: (nat_lit 108, top.o_111 P) :: (nat_lit 109, top.o_112 P) :: (nat_lit 110, top.o_113 P) :: (nat_lit 112, top.o_115 P) :: (nat_lit 113, top.o_116 P) :: (nat_lit 115, top.o_118 P) :: (nat_lit 116, top.o_119 P) :: (nat_lit 117, top.o_120 P) :: (nat_lit 119, top.o_122 P) :: (nat_lit 120, top.o_123 P) :: (nat_lit 122, top.o_125 P) :: (nat_lit 123, top.o_126 P) :: (nat_lit 124, top.o_127 P) :: (nat_lit 126, top.o_129 P) :: (nat_lit 127, top.o_130 P) :: (nat_lit 129, top.o_132 P) :: (nat_lit 130, top.o_133 P) :: (nat_lit 131, top.o_134 P) :: (nat_lit 133, top.o_136 P) :: (nat_lit 134, top.o_137 P) :: (nat_lit 136, top.o_139 P) :: (nat_lit 137, top.o_140 P) :: (nat_lit 138, top.o_141 P) :: (nat_lit 140, top.o_143 P) :: (nat_lit 141, top.o_144 P) :: (nat_lit 143, top.o_146 P) :: (nat_lit 144, top.o_147 P) :: (nat_lit 145, top.o_148 P) :: (nat_lit 146, top.o_149 P) :: (nat_lit 147, top.o_150 P) :: (nat_lit 148, top.o_151 P) :: (nat_lit 149, top.o_152 P) :: (nat_lit 152, top.o_158 P) :: (nat_lit 155, top.o_161 P) :: (nat_lit 156, top.o_162 P) :: (nat_lit 157, top.o_163 P) :: (nat_lit 159, top.o_165 P) :: (nat_lit 160, top.o_166 P) :: (nat_lit 162, top.o_168 P) :: (nat_lit 163, top.o_169 P) :: (nat_lit 164, top.o_170 P) :: (nat_lit 166, top.o_172 P) :: (nat_lit 167, top.o_173 P) :: (nat_lit 169, top.o_175 P) :: (nat_lit 170, top.o_176 P) :: (nat_lit 171, top.o_177 P) :: (nat_lit 173, top.o_179 P) :: (nat_lit 174, top.o_180 P) :: (nat_lit 176, top.o_182 P) :: (nat_lit 177, top.o_183 P) :: (nat_lit 178, top.o_184 P) :: (nat_lit 180, top.o_186 P) :: (nat_lit 181, top.o_187 P) :: (nat_lit 183, top.o_189 P) :: (nat_lit 184, top.o_190 P) :: (nat_lit 185, top.o_191 P) :: (nat_lit 187, top.o_193 P) :: (nat_lit 188, top.o_194 P) :: (nat_lit 190, top.o_196 P) :: (nat_lit 191, top.o_197 P) :: (nat_lit 192, top.o_198 P) :: (nat_lit 195, top.o_201 P) :: (nat_lit 196, top.o_202 P) :: (nat_lit 197, top.o_203 P) :: (nat_lit 199, top.o_205 P) :: (nat_lit 200, top.o_206 P) :: (nat_lit 202, top.o_208 P) :: (nat_lit 203, top.o_209 P) :: (nat_lit 204, top.o_210 P) :: (nat_lit 206, top.o_212 P) :: (nat_lit 207, top.o_213 P) :: (nat_lit 209, top.o_215 P) :: (nat_lit 210, top.o_216 P) :: (nat_lit 211, top.o_217 P) :: (nat_lit 213, top.o_219 P) :: (nat_lit 214, top.o_220 P) :: (nat_lit 216, top.o_222 P) :: (nat_lit 217, top.o_223 P) :: (nat_lit 218, top.o_224 P) :: (nat_lit 221, top.o_227 P) :: (nat_lit 222, top.o_228 P) :: (nat_lit 223, top.o_229 P) :: (nat_lit 225, top.o_231 P) :: (nat_lit 226, top.o_232 P) :: (nat_lit 228, top.o_234 P) :: (nat_lit 229, top.o_235 P) :: (nat_lit 230, top.o_239 P) :: (nat_lit 233, top.o_242 P) :: (nat_lit 234, top.o_243 P) :: [])
abbrev KKas : List Addr := (nat_lit 2 :: nat_lit 3 :: nat_lit 15 :: nat_lit 22 :: nat_lit 24 :: nat_lit 25 :: nat_lit 27 :: nat_lit 28 :: nat_lit 29 :: nat_lit 30 :: nat_lit 31 :: nat_lit 32 :: nat_lit 35 :: nat_lit 42 :: nat_lit 43 :: nat_lit 44 :: nat_lit 47 :: nat_lit 49 :: nat_lit 50 :: nat_lit 52 :: nat_lit 53 :: nat_lit 54 :: nat_lit 56 :: nat_lit 57 :: nat_lit 59 :: nat_lit 60 :: nat_lit 61 :: nat_lit 63 :: nat_lit 64 :: nat_lit 66 :: nat_lit 67 :: nat_lit 68 :: nat_lit 70 :: nat_lit 71 :: nat_lit 73 :: nat_lit 74 :: nat_lit 75 :: nat_lit 77 :: nat_lit 78 :: nat_lit 80 :: nat_lit 81 :: nat_lit 82 :: nat_lit 84 :: nat_lit 85 :: nat_lit 87 :: nat_lit 88 :: nat_lit 89 :: nat_lit 91 :: nat_lit 92 :: nat_lit 94 :: nat_lit 95 :: nat_lit 103 :: nat_lit 105 :: nat_lit 106 :: nat_lit 108 :: nat_lit 109 :: nat_lit 110 :: nat_lit 112 :: nat_lit 113 :: nat_lit 115 :: nat_lit 116 :: nat_lit 117 :: nat_lit 119 :: nat_lit 120 :: nat_lit 122 :: nat_lit 123 :: nat_lit 124 :: nat_lit 126 :: nat_lit 127 :: nat_lit 129 :: nat_lit 130 :: nat_lit 131 :: nat_lit 133 :: nat_lit 134 :: nat_lit 136 :: nat_lit 137 :: nat_lit 138 :: nat_lit 140 :: nat_lit 141 :: nat_lit 143 :: nat_lit 144 :: nat_lit 145 :: nat_lit 146 :: nat_lit 147 :: nat_lit 148 :: nat_lit 149 :: nat_lit 152 :: nat_lit 155 :: nat_lit 156 :: nat_lit 157 :: nat_lit 159 :: nat_lit 160 :: nat_lit 162 :: nat_lit 163 :: nat_lit 164 :: nat_lit 166 :: nat_lit 167 :: nat_lit 169 :: nat_lit 170 :: nat_lit 171 :: nat_lit 173 :: nat_lit 174 :: nat_lit 176 :: nat_lit 177 :: nat_lit 178 :: nat_lit 180 :: nat_lit 181 :: nat_lit 183 :: nat_lit 184 :: nat_lit 185 :: nat_lit 187 :: nat_lit 188 :: nat_lit 190 :: nat_lit 191 :: nat_lit 192 :: nat_lit 195 :: nat_lit 196 :: nat_lit 197 :: nat_lit 199 :: nat_lit 200 :: nat_lit 202 :: nat_lit 203 :: nat_lit 204 :: nat_lit 206 :: nat_lit 207 :: nat_lit 209 :: nat_lit 210 :: nat_lit 211 :: nat_lit 213 :: nat_lit 214 :: nat_lit 216 :: nat_lit 217 :: nat_lit 218 :: nat_lit 221 :: nat_lit 222 :: nat_lit 223 :: nat_lit 225 :: nat_lit 226 :: nat_lit 228 :: nat_lit 229 :: nat_lit 230 :: nat_lit 233 :: nat_lit 234 :: [])
def QQ : Program := { law.row.prog with main := { law.row.prog.main with body := [st 1, st 2, st 3, st 5, st 6, st 7, st 8, st 9, st 10, st 11, st 12, st 13, st 14, st 15, st 16, st 17, st 18, st 19, st 20, st 21, st 23, st 24, st 25, st 26, st 27, st 28, st 29, st 30, st 31, st 32, st 33] } }
noncomputable abbrev cE : Code := .body (behindTheImports prog) top.env_1
noncomputable abbrev hk : Hook := kHook KK KKas (fun _ => by kernel_rfl)
noncomputable abbrev s0 (w : World) (os : OsState) : Shared := ⟨boot_heap w.params, Array.mk [], boot_drawn, boot_toks, os⟩
noncomputable abbrev sB (w : World) (os : OsState) : Shared := SharedT.abs ⟨top.tree_4 w.params, 15, {}, Array.mk [], {}, 187, os⟩
noncomputable abbrev sK (w : World) (os : OsState) : Shared := SharedT.abs ⟨top.tree_243 w.params, 235, {}, Array.mk [], {}, 524, os⟩
noncomputable abbrev hE (P : Params) : Heap := absHeap (top.tree_243 P) 235 {}
theorem pre (w : World) (os : OsState) : topGo treeTable prog w 11 (some (.ref 6)) 12 (s0 w os) (topStub prog) = some (sB w os, ⟨denote treeTable cE, cE, ⟨0, 0, 0, 0⟩, [topFrame ⟨0, 0, 0, 0⟩]⟩) := by kernel_rfl
theorem block (w : World) (os : OsState) : segRun treeTable prog w 11 (some (.ref 6)) 1 1 (sB w os) (blockOf (behindTheImports prog) top.env_1 cE ⟨0, 0, 0, 0⟩ [topFrame ⟨0, 0, 0, 0⟩]) = some (.next, sB w os, cE, ⟨0, 0, 0, 0⟩) := by kernel_rfl
theorem fin (w : World) (os : OsState) : topRun treeTable prog w 11 (some (.ref 6)) 2 (sK w os) (restOf [] top.env_1 cE ⟨189, 0, 224, 76⟩ [topFrame ⟨0, 0, 0, 0⟩]) = some (sK w os) := by kernel_rfl
theorem run (w : World) (os : OsState) : topRun treeTable prog w 11 (some (.ref 6)) (12 + (1 + 1567)) (s0 w os) (topStub prog) = some (sK w os) :=
  go_top (pre w os) (piece_block (block w os) (top.chain prog (behindTheImports prog) w os [] 2 (sK w os) (fin w os)))
theorem size (w : World) : ((boot_heap w.params).isNs mainGlobals && (Array.mk [] : Array GenState).size == 0, (boot_heap w.params).objs.size, (boot_heap w.params).nsMap mainGlobals "__annotations__") = (true, 11, some (.ref 6)) := by kernel_rfl
theorem kview (w : World) (os : OsState) : hk.obs (sK w os) = hk.val w := by kernel_rfl
theorem look0 (w : World) (os : OsState) : (staticsOk (importedModules prog.main.body) (boot_heap w.params) (hE w.params) && namesBound prog (hE w.params) && gensDone (sK w os) && laidKept (boot_heap w.params) (hE w.params)) = true := by kernel_rfl
theorem l2 (w : World) (os : OsState) : (sK w os).heap.bltView = bltViewBooted := by kernel_rfl
theorem l4 (w : World) (os : OsState) : tabsOk QQ (sK w os) = true := by kernel_rfl
theorem l5 (w : World) (os : OsState) : pinSeenD QQ (drecsOf QQ) (sK w os) = pinGoodD (drecsOf QQ) := by kernel_rfl
theorem l6 (w : World) (os : OsState) : plainSeenE QQ (looseW QQ []) (sK w os) = plainGoodE QQ (looseW QQ []) := by kernel_rfl
theorem l7 (w : World) (os : OsState) : plainSeenD QQ [] (sK w os) = plainGoodD QQ [] := by kernel_rfl
theorem l8 (w : World) (os : OsState) : wideSeen QQ (sK w os) = wideGood QQ := by kernel_rfl
theorem l9 (w : World) (os : OsState) : clsSeenW QQ [] (sK w os) = clsGoodW QQ [] := by kernel_rfl
theorem l1 (w : World) (os : OsState) : seen ((recsOf QQ).map (·.name)) (ownsOf QQ) [] { sK w os with gens := #[] } = expectedOf QQ := by kernel_rfl
theorem l3 (w : World) (os : OsState) : ((sK w os).heap.keysOk (looseW QQ []) ((recsOf QQ).map (·.name)) ((litsOf QQ).map (·.1)) ((clssOf QQ (looseW QQ [])).map (·.name)) && (sK w os).heap.accountedOkI (importedModules prog.main.body) && (sK w os).heap.isNs mainGlobals && (sK w os).heap.isNs builtinsNs && tablesOk QQ (sK w os).heap && (xlAt QQ [] (sK w os) && recOk (RowW.records law.row.toRowW) (sK w os)) && (if true = true then (sK w os).gens.size == 0 else !leftWithCleanup (sK w os).gens)) = true := by kernel_rfl
theorem left : LeftO law.row.prog QQ [] (fun s => xlAt QQ [] s && recOk (RowW.records law.row.toRowW) s) (Hook.obs hk) (Hook.val hk) 3244 :=
  LeftO.of_pieces (H₀ := boot_heap) (H₁ := hE) (gs₀ := Array.mk []) (gs₁ := Array.mk []) (d₀ := boot_drawn) (d₁ := {}) (k₀ := boot_toks) (k₁ := 524) (m₀ := 11) (ann := some (.ref 6)) (M := 12 + (1 + 1567))
    (boot_open (by kernel_rfl) (by kernel_rfl) (fun s => by kernel_rfl)) size run (by kernel_rfl)
    fun w => funext fun os => looks_pair (look0 w os) (looks_pair (looks_pair (l1 w os) (looks_pair (l2 w os) (looks_pair (l3 w os) (looks_pair (l4 w os) (looks_pair (l5 w os) (looks_pair (l6 w os) (looks_pair (l7 w os) (looks_pair (l8 w os) (l9 w os))))))))) (kview w os))
theorem same (h : law.Holds) : PySem.Challenge.rw_nt0418_01.Holds := h
theorem lawly (h : law.row.wellSaid = true → law.row.Holds) : law.Holds := by
  o_law
  rename_i q
  exact h q
end Mine.Hd
open PySem.Spec PySem.Calls
set_option maxHeartbeats 4000000
set_option linter.unusedVariables false
set_option genSizeOf false
set_option genInjectivity false
set_option genSizeOfSpec false
noncomputable section
namespace Mine
theorem fill_it : (PySem.Challenge.rw_nt0418_01 = PySem.Challenge.rw_nt0418_01) ∧ Hd.KK = Hd.KK := by
  k_fill
  exact ⟨rfl, rfl⟩
abbrev Mp := PySem.Str → Option Value
abbrev Led := List (Addr × Obj)
structure Cx where
  prog : Program
  w : World
  mean : ExcName → Option Value
  mg : Mp
  mb : Mp
  A₀ : Around
  base : Heap
  h₀ : Heap
  outer : List Env
  dp : Nat
  un : Nat
  hn : Option Value
  gd : Option (List Code)
  g : Array GenState
  d : Drawn
  os : OsState
  E : Value → Shared → Prop
  z : Led
noncomputable abbrev Cx.A (c : Cx) (env : Env) : Around := { handled := c.hn, depth := c.dp, frames := some (env :: c.outer), guards := c.gd, units := c.un }
noncomputable abbrev Cx.S (c : Cx) (h : Heap) (tk : Nat) : Shared := ⟨h, c.g, c.d, tk, c.os⟩
structure Okh (K : Params → Frag) (P : Program) (c : Cx) (n : Nat) : Prop where
  B : Below c.A₀ c.base c.outer c.h₀
  X : (K c.w.params).In c.h₀
  T : Top P [] c.mean c.mg c.mb c.h₀
  hd : c.dp + n < recursionLimit
  hu : c.un + 16 * n + 100 < cLine
structure Ok (K : Params → Frag) (P : Program) (c : Cx) (n : Nat) : Prop extends Okh K P c n where
  hn : c.hn = none
theorem Ok.le {K : Params → Frag} {P : Program} {c : Cx} {n k : Nat} (o : Ok K P c n) (h : k ≤ n) : Ok K P c k :=
  ⟨⟨o.B, o.X, o.T, Nat.lt_of_le_of_lt (Nat.add_le_add_left h _) o.hd, Nat.lt_of_le_of_lt (Nat.add_le_add_right (Nat.add_le_add_left (Nat.mul_le_mul_left _ h) _) _) o.hu⟩, o.hn⟩
theorem Okh.T' {K : Params → Frag} {P : Program} {c : Cx} {n : Nat} (o : Okh K P c n) : TopRead P [] c.mg c.mb c.h₀ := topRead_of o.T
structure St (c : Cx) (env : Env) (h : Heap) (m : Mp) (l : Led) : Prop where
  F : Fr c.h₀ env.locals h m
  N : News c.h₀ env.locals h (l ++ c.z)
  D : ∀ p ∈ c.z, ∀ q ∈ l, p.1 ≠ q.1
section
variable {α β : Type} {c : Cx} {env : Env} {m : Mp} {l : Led}
theorem St.get {h : Heap} (S : St c env h m l) {a : Addr} {o : Obj} (e : (a, o) ∈ l) : h.get? a = some o := (S.N _ (List.mem_append_left _ e)).1
theorem St.drop {h : Heap} {l' : Led} (S : St c env h m l) (hs : ∀ p ∈ l', p ∈ l) : St c env h m l' :=
  ⟨S.F, fun p hp => S.N p ((List.mem_append.mp hp).elim (fun q => List.mem_append_left _ (hs p q)) fun q => List.mem_append_right _ q), fun p hp q hq => S.D p hp q (hs q hq)⟩
theorem St.same {h h' : Heap} {m' : Mp} (S : St c env h m l) (F : Fr c.h₀ env.locals h' m') (N : News c.h₀ env.locals h' (l ++ c.z)) : St c env h' m' l := ⟨F, N, S.D⟩
/-- a new object -/
theorem St.new {h h' : Heap} {m' : Mp} {D : Addr} {o : Obj} (S : St c env h m l) (F : Fr c.h₀ env.locals h' m') (N : News c.h₀ env.locals h' ((D, o) :: (l ++ c.z))) (lt : ∀ p ∈ l ++ c.z, p.1 < D) : St c env h' m' ((D, o) :: l) :=
  ⟨F, N, fun p hp q hq => by
    rcases List.mem_cons.mp hq with rfl | hq
    · exact Nat.ne_of_lt (lt p (List.mem_append_right _ hp))
    · exact S.D p hp q hq⟩
def Kq (c : Cx) (env : Env) (k : α → Mp → Led → Prop) (a : α) (s : Shared) : Prop :=
  ∃ h tk m l, s = c.S h tk ∧ St c env h m l ∧ k a m l
def W (c : Cx) (env : Env) (t : Sem α) (k : α → Mp → Led → Prop) (m : Mp) (l : Led) : Prop :=
  ∀ h tk, St c env h m l → wpAny (model c.prog c.w) (c.A env) t (Kq c env k) c.E (c.S h tk)
theorem Kq.mk {k : α → Mp → Led → Prop} {a : α} {h : Heap} {tk : Nat} {m : Mp} {l : Led} (S : St c env h m l) (x : k a m l) : Kq c env k a (c.S h tk) := ⟨h, tk, m, l, rfl, S, x⟩
theorem Kq.st {k : α → Mp → Led → Prop} {Q : Prop} {a : α} {s : Shared} (x : Kq c env k a s) (y : ∀ h tk m l, s = c.S h tk → St c env h m l → k a m l → Q) : Q := match x with
  | ⟨h, tk, m, l, e, S, x⟩ => y h tk m l e S x
theorem Kq.run' {t : Sem β} {k : β → Mp → Led → Prop} {s : Shared} (h : Heap) (tk : Nat) (m : Mp) (l : Led) (e : s = c.S h tk) (S : St c env h m l) (x : W c env t k m l) : wpAny (model c.prog c.w) (c.A env) t (Kq c env k) c.E s := e ▸ x h tk S
theorem Kq.fin {k : α → Mp → Led → Prop} {a : α} {s : Shared} (h : Heap) (tk : Nat) (m : Mp) (l : Led) (e : s = c.S h tk) (S : St c env h m l) (x : k a m l) : Kq c env k a s := ⟨h, tk, m, l, e, S, x⟩
theorem Kq.run {t : α → Sem β} {k : α → β → Mp → Led → Prop} {a : α} {s : Shared} (x : Kq c env (fun a m l => W c env (t a) (k a) m l) a s) : wpAny (model c.prog c.w) (c.A env) (t a) (Kq c env (k a)) c.E s := x.st Kq.run'
theorem W.to {t : Sem α} {k : α → Mp → Led → Prop} {Q : α → Shared → Prop} {h : Heap} {tk : Nat} (x : W c env t k m l) (S : St c env h m l) (y : ∀ a s, Kq c env k a s → Q a s) :
    wpAny (model c.prog c.w) (c.A env) t Q c.E (c.S h tk) := wpAny_mono (x h tk S) y fun _ _ e => e
theorem Kq.to {t : α → Sem β} {k : α → β → Mp → Led → Prop} {Q : β → Shared → Prop} {a : α} {s : Shared} (x : Kq c env (fun a m l => W c env (t a) (k a) m l) a s) (y : ∀ b s, Kq c env (k a) b s → Q b s) : wpAny (model c.prog c.w) (c.A env) (t a) Q c.E s :=
  wpAny_mono x.run y fun _ _ e => e
/-- two ways -/
def two (G H : Mp → Led → Prop) (b : Bool) (m : Mp) (l : Led) : Prop := (b = true → G m l) ∧ (b = false → H m l)
theorem two_dec {G H : Mp → Led → Prop} {p : Prop} {d : Decidable p} {m : Mp} {l : Led} (x : p → G m l) (y : ¬ p → H m l) : two G H (@decide p d) m l := ⟨fun h => x (of_decide_eq_true h), fun h => y (of_decide_eq_false h)⟩
theorem two_bool {G H : Mp → Led → Prop} {b : Bool} {m : Mp} {l : Led} (x : b = true → G m l) (y : b = false → H m l) : two G H b m l := ⟨x, y⟩
theorem two_not {G H : Mp → Led → Prop} {b : Bool} {m : Mp} {l : Led} (x : two H G b m l) : two G H (!b) m l := ⟨fun h => x.2 (by cases b <;> first | rfl | cases h), fun h => x.1 (by cases b <;> first | rfl | cases h)⟩
theorem two_true {G H : Mp → Led → Prop} {m : Mp} {l : Led} (x : G m l) : two G H true m l := ⟨fun _ => x, fun h => nomatch h⟩
theorem two_false {G H : Mp → Led → Prop} {m : Mp} {l : Led} (x : H m l) : two G H false m l := ⟨fun h => (nomatch h), fun _ => x⟩
/-- what follows a statement -/
def seqK (r : Mp → Led → Prop) (k : Flow → Mp → Led → Prop) (f : Flow) (m : Mp) (l : Led) : Prop := match f with
  | .next => r m l
  | f => k f m l
theorem seq_next {r : Mp → Led → Prop} {k : Flow → Mp → Led → Prop} {m : Mp} {l : Led} (x : r m l) : seqK r k .next m l := x
theorem seq_ret {r : Mp → Led → Prop} {k : Flow → Mp → Led → Prop} {m : Mp} {l : Led} {v : Value} (x : k (.ret v) m l) : seqK r k (.ret v) m l := x
theorem Kq.ite {G H : Mp → Led → Prop} {X Y : Prop} {b : Bool} {s : Shared} (x : Kq c env (two G H) b s)
    (y : ∀ h tk m l, s = c.S h tk → St c env h m l → G m l → X) (z : ∀ h tk m l, s = c.S h tk → St c env h m l → H m l → Y) : if b = true then X else Y :=
  x.st fun h tk m l e S x => match b, x with
    | true, x => y h tk m l e S (x.1 rfl)
    | false, x => z h tk m l e S (x.2 rfl)
theorem W.bind {t : Sem α} {f : α → Sem β} {k : β → Mp → Led → Prop} (x : W c env t (fun a m l => W c env (f a) k m l) m l) : W c env (t >>= f) k m l := fun h tk S =>
  wpAny_bind (x.to S fun a s y => y.run)
theorem W.pure {a : α} {k : α → Mp → Led → Prop} (x : k a m l) : W c env (pure a : Sem α) k m l := fun h tk S => wpAny_pure (.mk S x)
theorem W.mono {t : Sem α} {k k' : α → Mp → Led → Prop} (x : W c env t k m l) (y : ∀ a m l, k a m l → k' a m l) : W c env t k' m l := fun h tk S =>
  x.to S fun a s z => z.st fun h tk m l e S z => .fin h tk m l e S (y _ _ _ z)
theorem W.drop {t : Sem α} {k : α → Mp → Led → Prop} {l' : Led} (hs : ∀ p ∈ l', p ∈ l) (x : W c env t k m l') : W c env t k m l := fun h tk S => x h tk (S.drop hs)
theorem W.map {t : Sem α} {k : α → Mp → Led → Prop} {m' : Mp} (e : m = m') (x : W c env t k m' l) : W c env t k m l := e ▸ x
/-- what the heap behind the ledger gives: an address bears one object -/
theorem W.news {t : Sem α} {k : α → Mp → Led → Prop} (x : (∀ a o o', (a, o) ∈ l → (a, o') ∈ l → o = o') → W c env t k m l) : W c env t k m l := fun h tk S =>
  x (fun a o o' h1 h2 => Option.some.inj ((S.get h1).symm.trans (S.get h2))) h tk S
end
/-! statements -/
section
variable {c : Cx} {env : Env} {m : Mp} {l : Led} {k : Flow → Mp → Led → Prop}
theorem S_nil (x : k .next m l) : W c env (execs [] env) k m l := fun h tk S => wpAny_execs_nil (.mk S x)
theorem S_cons {st : Stmt} {rest : List Stmt} (x : W c env (exec st env) (seqK (W c env (execs rest env) k) k) m l) : W c env (execs (st :: rest) env) k m l := fun h tk S =>
  wpAny_execs_cons (x.to S fun f s y => y.st fun h tk m l e S z => match f, z with
    | .next, z => Kq.run' h tk m l e S z
    | .brk, z => .fin h tk m l e S z
    | .cont, z => .fin h tk m l e S z
    | .ret v, z => .fin h tk m l e S z)
theorem S_If {test : Expr} {body orelse : List Stmt} {pos : Pos}
    (x : W c env (isTrue test env (eval test env)) (two (W c env (execs body env) k) (W c env (execs orelse env) k)) m l) : W c env (exec (.If test body orelse pos) env) k m l := fun h tk S =>
  wpAny_If (x.to S fun b s y => y.ite Kq.run' Kq.run')
theorem S_ret {e : Expr} {pos : Pos} (x : W c env (eval e env) (fun v m l => k (.ret v) m l) m l) : W c env (exec (.Return (some e) pos) env) k m l := fun h tk S => wpAny_Return_some (x h tk S)
theorem S_ret0 {pos : Pos} (x : k (.ret .none) m l) : W c env (exec (.Return none pos) env) k m l := fun h tk S => wpAny_Return_none (.mk S x)
theorem S_expr {e : Expr} {pos : Pos} (x : W c env (eval e env) (fun _ m l => k .next m l) m l) (hi : autoParam (interactive env = false) PySem.W.nameX_K._auto_1) (hs : autoParam (swapsWith e none pos.line env = pure false) PySem.W.nameX_K._auto_1) :
    W c env (exec (.Expr e pos) env) k m l := fun h tk S => wpAny_Expr_any (x h tk S) hi hs
theorem storeName_W {x : PySem.Str} {v : Value} {k : Unit → Mp → Led → Prop} (h : k () (fun y => if y = x then some v else m y) l) (hk : env.scope.kind = .function) (hl : env.kindOf x = some .local) : W c env (storeName env x v) k m l := fun hh tk S =>
  wpAny_storeName_local hl S.F.ns (fun h' hn hs => .mk (S.same (S.F.set hn hs) (News.set S.N hs)) h) (by rw [hk]; rfl)
theorem S_assign {x : PySem.Str} {pos' pos : Pos} {value : Expr} (y : W c env (eval value env) (fun v m l => k .next (fun y => if y = x then some v else m y) l) m l)
    (hk : autoParam (env.scope.kind = .function) PySem.W.nameX_K._auto_1) (hl : autoParam (env.kindOf x = some .local) PySem.W.nameX_K._auto_1)
    (hs : autoParam (swapsWith value (some (.Name x pos')) pos.line env = pure false) PySem.W.nameX_K._auto_1) : W c env (exec (.Assign [.Name x pos'] value pos) env) k m l := fun h tk S =>
  wpAny_Assign_Name (y.to S fun v s z => z.st fun h tk m l e S z => Kq.run' (k := fun _ => k .next) h tk m l e S (storeName_W z hk hl)) hs
theorem S_aug {x : PySem.Str} {pos' pos : Pos} {op : Operator} {value : Expr} {old : Value} (hv : m x = some old)
    (y : W c env (eval value env) (fun v m l => W c env (inplaceOp op old v) (fun r m l => k .next (fun y => if y = x then some r else m y) l) m l) m l)
    (hk : autoParam (env.scope.kind = .function) PySem.W.nameX_K._auto_1) (hl : autoParam (env.kindOf x = some .local) PySem.W.nameX_K._auto_1) : W c env (exec (.AugAssign (.Name x pos') op value pos) env) k m l := fun h tk S =>
  wpAny_AugAssign_Name (wpAny_loadName_local hk hl S.F.ns hv (y.to S fun v s z => z.to fun r s z => z.st fun h tk m l e S z => Kq.run' (k := fun _ => k .next) h tk m l e S (storeName_W z hk hl)))
theorem S_setSub {o i value : Expr} {pos' pos : Pos} (y : W c env (eval value env) (fun v m l => W c env (eval o env) (fun ov m l => W c env (eval i env) (fun iv m l => W c env (setItem ov iv v) (fun _ m l => k .next m l) m l) m l) m l) m l)
    (hs : autoParam (swapsWith value (some (.Subscript o i pos')) pos.line env = pure false) PySem.W.nameX_K._auto_1) : W c env (exec (.Assign [.Subscript o i pos'] value pos) env) k m l := fun h tk S =>
  wpAny_Assign_Subscript (y.to S fun v s z => z.to fun ov s z => z.to fun iv s z => z.run) hs
theorem S_setAttr {o value : Expr} {attr : PySem.Str} {pos' pos : Pos} (y : W c env (eval value env) (fun v m l => W c env (eval o env) (fun ov m l => W c env (setAttr ov attr v) (fun _ m l => k .next m l) m l) m l) m l)
    (hs : autoParam (swapsWith value (some (.Attribute o attr pos')) pos.line env = pure false) PySem.W.nameX_K._auto_1) : W c env (exec (.Assign [.Attribute o attr pos'] value pos) env) k m l := fun h tk S =>
  plainObj_wpAny_Assign_Attribute (y.to S fun v s z => z.to fun ov s z => z.run) hs
theorem S_assignTup {elts : List Expr} {kk : Nat} {tpos pos : Pos} {value : Expr} (y : W c env (eval value env) (fun v m l => W c env (assign (.Tuple elts kk tpos) env v) (fun _ m l => k .next m l) m l) m l)
    (h1 : autoParam (swapsWithSole [.Tuple elts kk tpos] value pos.line env = pure false) PySem.W.nameX_K._auto_1) (h2 : autoParam (swappedStores [.Tuple elts kk tpos] value env = pure none) PySem.W.nameX_K._auto_1) : W c env (exec (.Assign [.Tuple elts kk tpos] value pos) env) k m l := fun h tk S =>
  Assign_Tuple (y.to S fun v s z => z.run) h1 h2
end
/-! expressions -/
section
variable {c : Cx} {env ev : Env} {m : Mp} {l : Led} {k : Value → Mp → Led → Prop}
theorem E_int {i : Int} {u : Nat} {pos : Pos} (x : ∀ t, k (.int i t) m l) : W c env (eval (.Constant (.int i) u pos) ev) k m l := fun h tk S => wpAny_Constant_int (.mk S (x _))
theorem E_bool {b : Bool} {u : Nat} {pos : Pos} (x : k (.bool b) m l) : W c env (eval (.Constant (.bool b) u pos) ev) k m l := fun h tk S => fun _ _ _ => .mk S x
theorem E_none {u : Nat} {pos : Pos} (x : k .none m l) : W c env (eval (.Constant .none u pos) ev) k m l := fun h tk S => fun _ _ _ => .mk S x
theorem E_binop {a b : Expr} {op : Operator} {pos : Pos} (x : W c env (eval a ev) (fun va m l => W c env (eval b ev) (fun vb m l => W c env (binaryOp op va vb) k m l) m l) m l) : W c env (eval (.BinOp a op b pos) ev) k m l := fun h tk S =>
  wpAny_BinOp (x.to S fun _ _ z => z.to fun _ _ z => z.run)
theorem E_unary {a : Expr} {op : UnaryOp} {pos : Pos} (x : W c env (eval a ev) (fun va m l => W c env (unaryOp op va) k m l) m l) : W c env (eval (.UnaryOp op a pos) ev) k m l := fun h tk S =>
  UnaryOp_ (x.to S fun _ _ z => z.run)
theorem E_cmp {a b : Expr} {op : CmpOp} {pos : Pos} (x : W c env (eval a ev) (fun va m l => W c env (eval b ev) (fun vb m l => W c env (compareOp op va vb) k m l) m l) m l)
    (hm : autoParam (behindInMarks op b = false) PySem.W.itemI_int._auto_1) : W c env (eval (.Compare a [op] [b] pos) ev) k m l := fun h tk S =>
  wpAny_Compare1 (x.to S fun _ _ z => z.to fun _ _ z => z.run) hm
theorem E_cmp2 {a b d : Expr} {op op' : CmpOp} {pos : Pos}
    (x : W c env (eval a ev) (fun va m l => W c env (eval b ev) (fun vb m l => W c env (compareOp op va vb) (fun cv m l => W c env (truthy cv) (two (fun m l => W c env (eval d ev) (fun vd m l => W c env (compareOp op' vb vd) k m l) m l) (fun m l => k cv m l)) m l) m l) m l) m l)
    (hm : autoParam (lastMarks [op, op'] [b, d] = false) PySem.W.itemI_int._auto_1) : W c env (eval (.Compare a [op, op'] [b, d] pos) ev) k m l := fun h tk S =>
  Compare_chain (x.to S fun va _ z => chain_link (z.to fun vb _ z => z.to fun cv _ z => z.to fun t s z => z.ite (fun h tk m l e S y => e ▸ chain_last (y.to S fun _ _ z => z.run)) Kq.fin)) hm
theorem E_and {e₁ e₂ : Expr} {rest : List Expr} {pos : Pos}
    (x : W c env (eval e₁ ev) (fun v m l => W c env (truthy v) (two (fun m l => W c env (eval (.BoolOp .And (e₂ :: rest) pos) ev) k m l) (fun m l => k v m l)) m l) m l) : W c env (eval (.BoolOp .And (e₁ :: e₂ :: rest) pos) ev) k m l := fun h tk S =>
  BoolOp_and (x.to S fun v _ z => z.to fun t s z => z.ite Kq.run' Kq.fin)
theorem E_or {e₁ e₂ : Expr} {rest : List Expr} {pos : Pos}
    (x : W c env (eval e₁ ev) (fun v m l => W c env (truthy v) (two (fun m l => k v m l) (fun m l => W c env (eval (.BoolOp .Or (e₂ :: rest) pos) ev) k m l)) m l) m l) : W c env (eval (.BoolOp .Or (e₁ :: e₂ :: rest) pos) ev) k m l := fun h tk S =>
  BoolOp_or (x.to S fun v _ z => z.to fun t s z => z.ite Kq.fin Kq.run')
theorem E_bool1 {e : Expr} {op : BoolOp} {pos : Pos} (x : W c env (eval e ev) k m l) : W c env (eval (.BoolOp op [e] pos) ev) k m l := fun h tk S => BoolOp_one (x h tk S)
theorem E_if {test body orelse : Expr} {pos : Pos} (x : W c env (isTrue test ev (eval test ev)) (two (fun m l => W c env (eval body ev) k m l) (fun m l => W c env (eval orelse ev) k m l)) m l) : W c env (eval (.IfExp test body orelse pos) ev) k m l := fun h tk S =>
  IfExp_ (x.to S fun b s y => y.ite Kq.run' Kq.run')
theorem E_sub {a b : Expr} {pos : Pos} (x : W c env (eval a ev) (fun va m l => W c env (eval b ev) (fun vb m l => W c env (subscriptTail a b va vb) k m l) m l) m l) : W c env (eval (.Subscript a b pos) ev) k m l := fun h tk S =>
  Subscript_ (x.to S fun _ _ z => z.to fun _ _ z => z.run)
theorem E_attr {n : PySem.Str} {np pos : Pos} {attr : PySem.Str} (x : W c env (eval (.Name n np) ev) (fun o m l => W c env (getAttr o attr true) k m l) m l) : W c env (eval (.Attribute (.Name n np) attr pos) ev) k m l := fun h tk S =>
  Attribute_name (x.to S fun _ _ z => z.run)
theorem E_tuple {elts : List Expr} {u : Nat} {pos : Pos} (x : W c env (spliced (backTo pos (starEach elts ev))) (fun vs m l => W c env (newTuple vs) k m l) m l) : W c env (eval (.Tuple elts u pos) ev) k m l := fun h tk S =>
  Tuple_ (x.to S fun _ _ z => z.run)
theorem E_list {elts : List Expr} {pos : Pos} (x : W c env (spliced (backTo pos (starEach elts ev))) (fun vs m l => W c env (newList vs) k m l) m l) : W c env (eval (.List elts pos) ev) k m l := fun h tk S =>
  List_ (x.to S fun _ _ z => z.run)
theorem E_local {x : PySem.Str} {pos : Pos} {v : Value} (hv : m x = some v) (h : k v m l) (hk : autoParam (env.scope.kind = .function) PySem.W.nameX_K._auto_1) (hl : autoParam (env.kindOf x = some .local) PySem.W.nameX_K._auto_1) (hd : autoParam ((x == ("__debug__" : PySem.Str)) = false) PySem.W.nameX_K._auto_5) :
    W c env (eval (.Name x pos) env) k m l := fun hh tk S => wpAny_Name (wpAny_loadName_local hk hl S.F.ns hv (.mk S h)) hd
end
section
variable {c : Cx} {env ev : Env} {m : Mp} {l : Led} {k : List Value → Mp → Led → Prop}
theorem A_nil {pos : Pos} (x : k [] m l) : W c env (spliced (backTo pos (starEach [] ev))) k m l := fun h tk S => wpAny_pure (.mk S x)
theorem A_cons {e : Expr} {rest : List Expr} {pos : Pos} (x : W c env (eval e ev) (fun v m l => W c env (spliced (backTo pos (starEach rest ev))) (fun vs m l => k (v :: vs) m l) m l) m l)
    (hs : autoParam (starEach (e :: rest) ev = (false, eval e ev) :: starEach rest ev) PySem.W.nameX_K._auto_1) : W c env (spliced (backTo pos (starEach (e :: rest) ev))) k m l := fun h tk S =>
  args_cons (x.to S fun v _ z => z.run) hs
end
/-! tests -/
section
variable {c : Cx} {env ev : Env} {m : Mp} {l : Led} {k : Bool → Mp → Led → Prop} {whole : Sem Value}
theorem T_plain {e : Expr} (x : W c env whole (fun v m l => W c env (truthy v) k m l) m l) (he : autoParam (isTrue e ev whole = (do let v ← whole; standAt e.pos; holding [v] (truthy v))) PySem.W.nameX_K._auto_1) : W c env (isTrue e ev whole) k m l := fun h tk S =>
  isTrue_plain (x.to S fun v _ z => z.run) he
theorem T_cmp {a b : Expr} {op : CmpOp} {pos : Pos} (x : W c env (eval a ev) (fun va m l => W c env (eval b ev) (fun vb m l => W c env (compareOp op va vb) (fun cv m l => W c env (truthy cv) k m l) m l) m l) m l)
    (hm : autoParam (behindInMarks op b = false) PySem.W.itemI_int._auto_1) : W c env (isTrue (.Compare a [op] [b] pos) ev whole) k m l := fun h tk S =>
  wpAny_isTrue_Compare1 (x.to S fun _ _ z => z.to fun _ _ z => z.to fun _ _ z => z.run) hm
theorem T_cmp2 {a b d : Expr} {op op' : CmpOp} {pos : Pos}
    (x : W c env (eval a ev) (fun va m l => W c env (eval b ev) (fun vb m l => W c env (compareOp op va vb) (fun cv m l => W c env (truthy cv) (two (fun m l => W c env (eval d ev) (fun vd m l => W c env (compareOp op' vb vd) (fun cv m l => W c env (truthy cv) k m l) m l) m l) (fun m l => k false m l)) m l) m l) m l) m l)
    (hm : autoParam (lastMarks [op, op'] [b, d] = false) PySem.W.itemI_int._auto_1) : W c env (isTrue (.Compare a [op, op'] [b, d] pos) ev whole) k m l := fun h tk S =>
  isTrue_chain (x.to S fun va _ z => test_link (z.to fun vb _ z => z.to fun cv _ z => z.to fun t s z => z.ite (fun h tk m l e S y => e ▸ test_last (y.to S fun _ _ z => z.to fun _ _ z => z.run)) Kq.fin)) hm
theorem T_and {x : Expr} {rest : List Expr} {pos : Pos} (y : W c env (isTrue x ev (eval x ev)) (two (fun m l => W c env (isTrue (.BoolOp .And rest pos) ev whole) k m l) (fun m l => k false m l)) m l) : W c env (isTrue (.BoolOp .And (x :: rest) pos) ev whole) k m l := fun h tk S =>
  isTrue_and (y.to S fun t s z => z.ite Kq.run' Kq.fin)
theorem T_or {x : Expr} {rest : List Expr} {pos : Pos} (y : W c env (isTrue x ev (eval x ev)) (two (fun m l => k true m l) (fun m l => W c env (isTrue (.BoolOp .Or rest pos) ev whole) k m l)) m l) : W c env (isTrue (.BoolOp .Or (x :: rest) pos) ev whole) k m l := fun h tk S =>
  isTrue_or (y.to S fun t s z => z.ite Kq.fin Kq.run')
theorem T_and0 {pos : Pos} (x : k true m l) : W c env (isTrue (.BoolOp .And [] pos) ev whole) k m l := fun h tk S => isTrue_and_nil (.mk S x)
theorem T_or0 {pos : Pos} (x : k false m l) : W c env (isTrue (.BoolOp .Or [] pos) ev whole) k m l := fun h tk S => isTrue_or_nil (.mk S x)
theorem T_not {x : Expr} {pos : Pos} (y : W c env (isTrue x ev (eval x ev)) (fun t m l => k (!t) m l) m l) : W c env (isTrue (.UnaryOp .Not x pos) ev whole) k m l := fun h tk S => isTrue_not (y.to S fun t s z => z)
theorem truthy_bool {b : Bool} (x : k b m l) : W c env (truthy (.bool b)) k m l := fun h tk S => wpAny_truthy_bool (.mk S x)
end
/-- an object put anew at an address -/
noncomputable def put (a : Addr) (o : Obj) (l : Led) : Led := (a, o) :: l.filter fun p => decide (p.1 ≠ a)
theorem put_at {a : Addr} {o : Obj} {l : Led} : (a, o) ∈ put a o l := List.mem_cons_self
theorem put_off {a b : Addr} {o ob : Obj} {l : Led} (h : (b, ob) ∈ l) (n : b ≠ a) : (b, ob) ∈ put a o l := List.mem_cons_of_mem _ (List.mem_filter.mpr ⟨h, decide_eq_true n⟩)
theorem put_mem {a : Addr} {o : Obj} {l : Led} {p : Addr × Obj} (h : p ∈ put a o l) : p = (a, o) ∨ (p ∈ l ∧ p.1 ≠ a) := by
  rcases List.mem_cons.mp h with h | h
  · exact .inl h
  · exact .inr ⟨(List.mem_filter.mp h).1, of_decide_eq_true (List.mem_filter.mp h).2⟩
noncomputable abbrev tupO (vs : List Value) : Obj := { cls := .type "tuple", data := .seq vs.toArray }
noncomputable abbrev lstO (vs : List Value) (n : Nat) : Obj := listOf vs.toArray n
section
variable {c : Cx} {env : Env} {m : Mp} {l : Led} {h h' : Heap}
theorem St.front {a : Addr} {o : Obj} (S : St c env h m l) (e : (a, o) ∈ l) : St c env h m (put a o l) := S.drop fun p hp => by
  rcases put_mem hp with rfl | q
  · exact e
  · exact q.1
theorem St.off {a : Addr} {o o' : Obj} (S : St c env h m l) (e : (a, o) ∈ l) : Upd a o o' (put a o l ++ c.z) (put a o' l ++ c.z) := by
  refine Upd.head fun p hp => ?_
  rcases List.mem_append.mp hp with hp | hp
  · exact of_decide_eq_true (List.mem_filter.mp hp).2
  · exact S.D p hp _ e
theorem St.put {a : Addr} {o o' : Obj} {m' : Mp} (S : St c env h m l) (e : (a, o) ∈ l) (F : Fr c.h₀ env.locals h' m') (N : News c.h₀ env.locals h' (Mine.put a o' l ++ c.z)) : St c env h' m' (Mine.put a o' l) :=
  ⟨F, N, fun p hp q hq => by
    rcases put_mem hq with rfl | hq
    · exact (show p.1 ≠ a from S.D p hp (a, o) e)
    · exact S.D p hp q hq.1⟩
theorem St.put' {a : Addr} {o o' : Obj} (S : St c env h m l) (e : (a, o) ∈ l) (hs : Heap.SameBut a h h') (ho : h'.get? a = some o') : St c env h' m (Mine.put a o' l) := by
  have z := S.N _ (List.mem_append_left _ e)
  refine S.put e (S.F.change hs z.2.1 z.2.2) ?_
  intro p hp
  rcases List.mem_append.mp hp with q | q
  · rcases put_mem q with rfl | q
    · exact ⟨ho, z.2⟩
    · have w := S.N p (List.mem_append_left _ q.1)
      exact ⟨(hs.2 _ q.2).trans w.1, w.2⟩
  · have w := S.N p (List.mem_append_right _ q)
    exact ⟨(hs.2 _ (S.D p q _ e)).trans w.1, w.2⟩
theorem St.isList {a : Addr} {vs : List Value} {n : Nat} (S : St c env h m l) (e : (a, lstO vs n) ∈ l) : h.IsList a vs.toArray := ⟨_, S.get e, rfl, n, rfl⟩
theorem St.isTup {a : Addr} {vs : List Value} (S : St c env h m l) (e : (a, tupO vs) ∈ l) : IsTup h a vs.toArray := ⟨_, S.get e, rfl, 0, rfl⟩
end
/-! names -/
section
variable {K : Params → Frag} {P : Program} {c : Cx} {cn : PySem.Str} {cs : Scope} {L a : Addr} {ccd : Value} {cl : List (PySem.Str × Addr)} {m : Mp} {l : Led} {k : Value → Mp → Led → Prop} {n : Nat}
theorem E_glob {x : PySem.Str} {pos : Pos} {v : Value} (o : Okh K P c n) (e : nsIn (K c.w.params) mainGlobals x = some (some v)) (h : k v m l) (hk : autoParam (cs.kind = .function) PySem.W.nameX_K._auto_1) (hx : autoParam ((envX cn cs L a ccd cl).kindOf x = some .globalImplicit) PySem.W.nameX_K._auto_1)
    (hd : autoParam ((x == ("__debug__" : PySem.Str)) = false) PySem.W.nameX_K._auto_5) : W c (envX cn cs L a ccd cl) (eval (.Name x pos) (envX cn cs L a ccd cl)) k m l := fun hh tk S => nameX_K S.F o.X o.T' e (.mk S h) hk hx hd
theorem E_built {x : PySem.Str} {pos : Pos} {v : Value} (o : Okh K P c n) (e : nsIn (K c.w.params) mainGlobals x = some none) (hv : bootBuiltins x = some v) (h : k v m l) (hn : autoParam (x ≠ "__name__") PySem.W.nameX_K._auto_5) (hk : autoParam (cs.kind = .function) PySem.W.nameX_K._auto_1) (hx : autoParam ((envX cn cs L a ccd cl).kindOf x = some .globalImplicit) PySem.W.nameX_K._auto_1)
    (hd : autoParam ((x == ("__debug__" : PySem.Str)) = false) PySem.W.nameX_K._auto_5) : W c (envX cn cs L a ccd cl) (eval (.Name x pos) (envX cn cs L a ccd cl)) k m l := fun hh tk S => nameX_B S.F o.X o.T' e hv hn (.mk S h) hk hx hd
theorem E_cell {x : PySem.Str} {pos : Pos} {b : Addr} {ob : Obj} {v : Value} (hc : cl.lookup x = some b) (hm : (b, ob) ∈ l ++ c.z) (hb : ob.data = .cell (some v)) (h : k v m l) (hk : autoParam (cs.kind = .function) PySem.W.nameX_K._auto_1) (hx : autoParam ((envX cn cs L a ccd cl).kindOf x = some .cell) PySem.W.nameX_K._auto_1)
    (hd : autoParam ((x == ("__debug__" : PySem.Str)) = false) PySem.W.nameX_K._auto_5) : W c (envX cn cs L a ccd cl) (eval (.Name x pos) (envX cn cs L a ccd cl)) k m l := fun hh tk S => nameX_C S.N hc hm hb (.mk S h) hk hx hd
end
/-! operators -/
section
variable {c : Cx} {env : Env} {m : Mp} {l : Led} {k : Value → Mp → Led → Prop} {a b : Int} {t u : Tok}
theorem O_add (x : ∀ t, k (.int (a + b) t) m l) : W c env (binaryOp .Add (.int a t) (.int b u)) k m l := fun h tk S => PyProof.Rows.add_int (.mk S (x _))
theorem O_sub (x : ∀ t, k (.int (a - b) t) m l) : W c env (binaryOp .Sub (.int a t) (.int b u)) k m l := fun h tk S => PyProof.Rows.sub_int (.mk S (x _))
theorem O_iadd (x : ∀ t, k (.int (a + b) t) m l) : W c env (inplaceOp .Add (.int a t) (.int b u)) k m l := fun h tk S => PyProof.Rows.iadd_int (.mk S (x _))
theorem O_isub (x : ∀ t, k (.int (a - b) t) m l) : W c env (inplaceOp .Sub (.int a t) (.int b u)) k m l := fun h tk S => PyProof.Rows.isub_int (.mk S (x _))
theorem O_mul (ok : IntMulOk a b) (x : ∀ t, k (.int (a * b) t) m l) : W c env (binaryOp .Mult (.int a t) (.int b u)) k m l := fun h tk S => PyProof.Rows.mul_int (.mk S (x _)) ok
theorem O_mod (hb : b ≠ 0) (x : ∀ t, k (.int (Int.fmod a b) t) m l) : W c env (binaryOp .Mod (.int a t) (.int b u)) k m l := fun h tk S => mod_int' hb (.mk S (x _))
theorem O_div (hb : b ≠ 0) (hs : b.natAbs.log2 < 9000) (x : ∀ t, k (.int (Int.fdiv a b) t) m l) : W c env (binaryOp .FloorDiv (.int a t) (.int b u)) k m l := fun h tk S => floordiv_int hb (.mk S (x _)) (.inl (PyProof.noPylong_of_log2 hs))
theorem O_and (x : ∀ t, k (.int (Builtin.bitAnd a b) t) m l) : W c env (binaryOp .BitAnd (.int a t) (.int b u)) k m l := fun h tk S => and_int (.mk S (x _))
theorem O_or (x : ∀ t, k (.int (Builtin.bitOr a b) t) m l) : W c env (binaryOp .BitOr (.int a t) (.int b u)) k m l := fun h tk S => or_int (.mk S (x _))
theorem O_shr (hb : 0 ≤ b) (x : ∀ t, k (.int (Int.fdiv a (2 ^ b.toNat)) t) m l) : W c env (binaryOp .RShift (.int a t) (.int b u)) k m l := fun h tk S => rshift_int hb (.mk S (x _))
theorem O_shl (hb : 0 ≤ b) (hs : (Builtin.Int.intBits a : Int) + b ≤ 2 ^ 27) (x : ∀ t, k (.int (a * 2 ^ b.toNat) t) m l) : W c env (binaryOp .LShift (.int a t) (.int b u)) k m l := fun h tk S =>
  lshift_int hb hs (.mk S (x _))
theorem O_neg (x : ∀ t, k (.int (-a) t) m l) : W c env (unaryOp .USub (.int a t)) k m l := fun h tk S => PyProof.Rows.neg_int (.mk S (x _))
theorem O_not {v : Bool} (x : k (.bool !v) m l) : W c env (unaryOp .Not (.bool v)) k m l := fun h tk S => not_of (wpAny_truthy_bool (.mk S x))
theorem C_lt (x : k (.bool (decide (a < b))) m l) : W c env (compareOp .Lt (.int a t) (.int b u)) k m l := fun h tk S => PyProof.Rows.lt_int (.mk S x)
theorem C_le (x : k (.bool (decide (a ≤ b))) m l) : W c env (compareOp .LtE (.int a t) (.int b u)) k m l := fun h tk S => PyProof.Rows.le_int (.mk S x)
theorem C_gt (x : k (.bool (decide (b < a))) m l) : W c env (compareOp .Gt (.int a t) (.int b u)) k m l := fun h tk S => PyProof.Rows.gt_int (.mk S x)
theorem C_ge (x : k (.bool (decide (b ≤ a))) m l) : W c env (compareOp .GtE (.int a t) (.int b u)) k m l := fun h tk S => PyProof.Rows.ge_int (.mk S x)
theorem C_eq (x : k (.bool (decide (a = b))) m l) : W c env (compareOp .Eq (.int a t) (.int b u)) k m l := fun h tk S => PyProof.Rows.eq_int (.mk S x)
theorem bne_dec (a b : Int) : (a != b) = decide (a ≠ b) := by by_cases h : a = b <;> simp [h]
theorem C_ne (x : k (.bool (decide (a ≠ b))) m l) : W c env (compareOp .NotEq (.int a t) (.int b u)) k m l := fun h tk S => PyProof.Rows.ne_int (.mk S ((bne_dec a b).symm ▸ x))
theorem C_neB {p q : Bool} (x : k (.bool (p != q)) m l) : W c env (compareOp .NotEq (.bool p) (.bool q)) k m l := fun h tk S => by
  refine PyProof.Rows.ne_bool ?_
  exact .mk S x
end
/-! containers -/
section
variable {c : Cx} {env : Env} {m : Mp} {l : Led} {k : Value → Mp → Led → Prop} {a : Addr} {vs : List Value} {n : Nat} {i : Int} {t : Tok}
theorem N_tup (x : ∀ D, (∀ p ∈ l, p.1 < D) → k (.ref D) m ((D, tupO vs) :: l)) (hs : autoParam (Nat.ble vs.length 1000 = true) PySem.W.nameX_K._auto_1) : W c env (newTuple vs) k m l := fun h tk S =>
  newTuple_N S.F S.N (fun h' F' N' => have lt := fun p hp => Heap.lt_size (S.N p hp).1; .mk (S.new F' N' lt) (x _ fun p hp => lt p (List.mem_append_left _ hp))) (by rw [sizeLine_eq]; have := Nat.le_of_ble_eq_true hs; omega)
theorem N_lst (x : ∀ D, (∀ p ∈ l, p.1 < D) → k (.ref D) m ((D, lstO vs 0) :: l)) (hs : autoParam (Nat.ble vs.length 1000 = true) PySem.W.nameX_K._auto_1) : W c env (newList vs) k m l := fun h tk S =>
  newList_N S.F S.N (fun h' F' N' => have lt := fun p hp => Heap.lt_size (S.N p hp).1; .mk (S.new F' N' lt) (x _ fun p hp => lt p (List.mem_append_left _ hp))) (by rw [sizeLine_eq]; have := Nat.le_of_ble_eq_true hs; omega)
theorem I_lst {value slice : Expr} {v : Value} (hm : (a, lstO vs n) ∈ l) (h0 : 0 ≤ i) (h1 : i < 2 ^ 63) (hx : vs[i.toNat]? = some v) (x : k v m l)
    (hs : autoParam (subscripted slice false (.ref a) (.int i t) = operate [.ref a, .int i t] (getItem (.ref a) (.int i t))) PySem.W.itemI_int._auto_1) : W c env (subscriptTail value slice (.ref a) (.int i t)) k m l := fun h tk S =>
  tail_any (S.isList hm).typeIs slot_list_getitem.lookup (wpAny_getItem_list (S.isList hm) h0 h1 (by simpa using hx) (.mk S x)) hs
theorem I_tup {value slice : Expr} {v : Value} (hm : (a, tupO vs) ∈ l) (h0 : 0 ≤ i) (h1 : i < 2 ^ 63) (hx : vs[i.toNat]? = some v) (x : k v m l)
    (hs : autoParam (subscripted slice false (.ref a) (.int i t) = operate [.ref a, .int i t] (getItem (.ref a) (.int i t))) PySem.W.itemI_int._auto_1) : W c env (subscriptTail value slice (.ref a) (.int i t)) k m l := fun h tk S =>
  item_tupleT (j := i.toNat) (S.isTup hm) (by omega) h1 (by
    have hl : i.toNat < vs.length := (List.getElem?_eq_some_iff.mp hx).1
    unfold seqIndex?
    have e1 : ¬ i < 0 := by omega
    simp only [e1, if_false]
    have e2 : ¬ (i < 0 ∨ (vs.length : Int) ≤ i) := by omega
    first | (rw [if_pos (by omega)]) | (rw [if_neg e2]) | (simp; omega)) hx (.mk S x) hs
theorem U_lst {v : Value} {k : Unit → Mp → Led → Prop} (hm : (a, lstO vs n) ∈ l) (h0 : 0 ≤ i) (h1 : i < 2 ^ 63) (hn : i < vs.length) (x : k () m (put a (lstO (vs.set i.toNat v) n) l)) : W c env (setItem (.ref a) (.int i t) v) k m l := fun h tk S =>
  ki_setAt (n := n) (items := vs.toArray) (S.get hm) h0 h1 (by simpa using hn) (.mk (S.put' hm (Heap.SameBut.update ..) (by
    have q := PySem.IsL.update (S.get hm) (fun x : Array Value => x.setIfInBounds i.toNat v)
    simp only [List.setIfInBounds_toArray, List.size_toArray, List.length_set, beq_self_eq_true, if_true] at q
    exact q)) x)
theorem M_append {v : Value} (hm : (a, lstO vs n) ∈ l) (x : k .none m (put a (lstO (vs ++ [v]) (n + 1)) l)) (hs : vs.length ≤ 1000000) : W c env (call (.builtin "list.append") [.ref a, v]) k m l := fun h tk S =>
  append_at (its := vs.toArray) (S.get hm) (fun h' hb ho => .mk (S.put' hm hb (by rw [List.push_toArray] at ho; exact ho)) x) (by rw [sizeLine_eq, List.size_toArray]; omega)
theorem M_insert {v : Value} {j : Nat} (hm : (a, lstO vs n) ∈ l) (hj : i = j) (h1 : j ≤ vs.length) (hs : vs.length ≤ 1000000) (x : k .none m (put a (lstO (vs.take j ++ v :: vs.drop j) (n + 1)) l)) : W c env (call (.builtin "list.insert") [.ref a, .int i t, v]) k m l := fun h tk S => by
  subst hj
  refine kl_insert (its := vs.toArray) (n := n) (S.F) (S.front hm).N (fitsIndex_of (by omega) (by omega)) ?_ (S.off hm) (by rw [sizeLine_eq]; simp; omega) fun h' F' N' => .mk (S.put hm F' N') x
  unfold kl_ins
  have e : ¬ ((j : Int) < 0) := by omega
  simp [e, Nat.min_eq_left h1]
theorem M_len (hm : (a, lstO vs n) ∈ l) (hs : vs.length ≤ 1000000) (x : ∀ t, k (.int vs.length t) m l) : W c env (call (.builtin "len") [.ref a]) k m l := fun h tk S =>
  KM.len_K S.N (List.mem_append_left _ hm) (by simp) (by omega) (.mk S (x _))
theorem M_tuple (hm : (a, lstO vs n) ∈ l) (hs : vs.length ≤ 1000) (x : ∀ D, (∀ p ∈ l, p.1 < D) → k (.ref D) m ((D, tupO vs) :: l)) : W c env (call (.type "tuple") [.ref a]) k m l := fun h tk S =>
  kde_tupleOf S.F S.N (S.isList hm) (by simp; omega) (by simp) fun D h' F' N' lt => .mk (S.new F' N' lt) (x _ fun p hp => lt p (List.mem_append_left _ hp))
theorem M_rep (hm : (a, lstO vs n) ∈ l) (h0 : 0 ≤ i) (h1 : vs.length * i.toNat ≤ 256) (h2 : i < 2 ^ 63) (x : ∀ D, (∀ p ∈ l, p.1 < D) → k (.ref D) m ((D, lstO (List.replicate i.toNat vs).flatten 0) :: l)) : W c env (binaryOp .Mult (.ref a) (.int i t)) k m l := fun h tk S =>
  KMa.mul S.F S.N (S.isList hm) (by omega) h2 h1 rfl fun D h' F' N' lt => .mk (S.new F' N' lt) (x _ fun p hp => lt p (List.mem_append_left _ hp))
end
/-! calls -/
section
variable {K : Params → Frag} {P : Program} {c : Cx} {env ev : Env} {m : Mp} {l : Led} {k : Value → Mp → Led → Prop} {n : Nat}
theorem K_name {x : PySem.Str} {xp pos : Pos} {args : List Expr} (y : W c env (eval (.Name x xp) ev) (fun f m l => W c env (callWith pos f [] (backTo pos (starEach args ev)) []) k m l) m l) : W c env (eval (.Call (.Name x xp) args [] pos) ev) k m l := fun h tk S =>
  Call_ (y.to S fun f s z => z.run) (by rfl)
theorem K_def {pos : Pos} {f : Value} {first : List Value} {e : Expr} {rest : List Expr} (o : Okh K P c n) (hk : keepIn (K c.w.params) f = true) (y : W c env (spliced (backTo pos (starEach (e :: rest) ev))) (fun vs m l => W c env (call f (first ++ vs)) k m l) m l)
    (he : autoParam (starEach (e :: rest) ev = (false, eval e ev) :: starEach rest ev) PySem.W.nameX_K._auto_1) (hp : autoParam ((backTo pos (starEach rest ev)).any (·.1) = false) PySem.W.nameX_K._auto_1) : W c env (callWith pos f first (backTo pos (starEach (e :: rest) ev)) []) k m l := fun h tk S =>
  callWith_K o.X hk (y.to S fun vs s z => ⟨z.st fun h tk m l e S z => e ▸ o.X.keeps S.F.keep, z.run⟩) he hp
theorem K_def0 {pos : Pos} {f : Value} {first : List Value} (o : Okh K P c n) (hk : keepIn (K c.w.params) f = true) (y : W c env (call f (first ++ [])) k m l) : W c env (callWith pos f first (backTo pos (starEach [] ev)) []) k m l := fun h tk S =>
  callWith_K0 (o.X.keeps S.F.keep) hk (y h tk S)
theorem K_built {pos : Pos} {id : String} {first : List Value} {e : Expr} {rest : List Expr} (y : W c env (spliced (backTo pos (starEach (e :: rest) ev))) (fun vs m l => W c env (call (.builtin id) (first ++ vs)) k m l) m l)
    (he : autoParam (starEach (e :: rest) ev = (false, eval e ev) :: starEach rest ev) PySem.W.nameX_K._auto_1) (hp : autoParam ((backTo pos (starEach rest ev)).any (·.1) = false) PySem.W.nameX_K._auto_1) : W c env (callWith pos (.builtin id) first (backTo pos (starEach (e :: rest) ev)) []) k m l := fun h tk S =>
  callWith_method1 (y.to S fun vs s z => z.run) he hp
theorem K_type {pos : Pos} {T : String} {e : Expr} {rest : List Expr} (y : W c env (spliced (backTo pos (starEach (e :: rest) ev))) (fun vs m l => W c env (call (.type T) vs) k m l) m l)
    (he : autoParam (starEach (e :: rest) ev = (false, eval e ev) :: starEach rest ev) PySem.W.nameX_K._auto_1) (hp : autoParam ((backTo pos (starEach rest ev)).any (·.1) = false) PySem.W.nameX_K._auto_1) : W c env (callWith pos (.type T) [] (backTo pos (starEach (e :: rest) ev)) []) k m l := fun h tk S =>
  PyProof.Rows.callWith_type1 (y.to S fun vs s z => z.run) he hp
theorem K_meth {ob : Expr} {name : PySem.Str} {apos pos : Pos} {args : List Expr} {pl : Sem Bool} (y : W c env (eval ob ev) (fun ov m l => W c env (getMethod ov name pl) (fun fx m l => W c env (callWith pos fx.1 fx.2 (backTo pos (starEach args ev)) []) k m l) m l) m l)
    (hs : autoParam (eval (.Call (.Attribute ob name apos) args [] pos) ev = (do
          let ov ← eval ob ev
          standAt (Pos.atName apos)
          let __x ← holding [ov] (getMethod ov name pl)
          match __x with
            | (f, first) => callWith pos f first (backTo pos (starEach args ev)) [])) PySem.W.nameX_K._auto_1) : W c env (eval (.Call (.Attribute ob name apos) args [] pos) ev) k m l := fun h tk S =>
  MethodCall_ (y.to S fun ov s z => z.to fun fx s z => z.run) hs
end
/-- an exception under way, without a context -/
def TrV (h base : Heap) (e : Addr) (cls fl : Value) : Prop :=
  ∃ oe vs T oT ts, h.get? e = some oe ∧ oe.cls = cls ∧ oe.data = .fields vs ∧ vs[1]? = some (.ref T) ∧ vs[2]? = some .none ∧ base.get? T = none ∧ T ≠ e ∧ h.get? T = some oT ∧ oT.data = .fields ts ∧ ts[3]? = some fl
structure FlyV (base : Heap) (l : List Env) (e : Addr) (cls fl : Value) (h : Heap) : Prop where
  st : base.StaysIn h
  new : base.get? e = none
  fr : h.FunFrames base l
  tr : TrV h base e cls fl
section
variable {M : Model} {A : Around} {E : Value → Shared → Prop} {s : Shared} {base : Heap} {env : Env} {outer : List Env} {L e : Addr} {cls : Value} {Q : Unit → Shared → Prop}
theorem entryV {oe : Obj} {vs : Array Value} {head : Value} {hadNext : Bool} (hfr : A.frames = some (env :: outer)) (hl : s.heap.FunFrames base (env :: outer)) (hf : env.frame = some L) (he : s.heap.get? e = some oe) (hkb : base.StaysIn s.heap) (hen : base.get? e = none) (hd : oe.data = .fields vs) (h2 : vs[2]? = some .none)
    (h : ∀ h', FlyV base (env :: outer) e oe.cls (rawInt L) h' → s.heap.UpToSlots h' → Q () { s with heap := h' }) :
    wpAny M A (do let a ← frameOf env; let pl ← entryPlaceOf L hadNext; let b ← EntryCells.newEntry head a .none (rawInt L) .none pl; setField (.ref e) 1 b) Q E s := by
  have hsz : 2 < vs.size := (Array.getElem?_eq_some_iff.mp h2).1
  have nf : ∀ b o, s.heap.get? b = some o → (∀ vs, o.data ≠ .fields vs) → b ≠ e := fun b o hb hnf q => by
    rw [q, he] at hb; injection hb with hb; subst hb; exact hnf vs hd
  refine wpAny_bind (wpAny_frameOf_fun hfr hl hf fun h₁ hs₁ => ?_)
  refine wpAny_bind (wpAny_entryPlaceOf fun pl hpl => ?_)
  unfold EntryCells.newEntry newFields
  refine wpAny_bind (wpAny_newObj_type ?_ (hpl.sizeOk5 _ _ _ _ _))
  have he₁ : h₁.get? e = some oe := (hs₁.2.1 e fun hm => by
    obtain ⟨_, o, ho, hnf⟩ := hl.mem hm
    exact nf _ _ ho hnf rfl).trans he
  have kb₁ : base.StaysIn h₁ := fun b o hbo => (hs₁.2.1 b fun hm => by rw [(hl.mem hm).1] at hbo; cases hbo).trans (hkb b o hbo)
  generalize hob : ({ cls := .type "traceback", dict := none, data := .fields ([head, .ref L, .none, rawInt L, .none] ++ (if pl.isEmpty then List.replicate 6 Value.none else pl)).toArray } : Obj) = ob
  have he₂ := Heap.get?_push_of_some (h := h₁) ob he₁
  refine wpAny_setField he₂ hd (Nat.lt_of_succ_lt hsz) (h _ ?_ ?_)
  all_goals
    have hd₃ := Obj.data_mapFields hd (·.setIfInBounds 1 (Value.ref h₁.objs.size))
    have he₃ := Heap.get?_update_self (Obj.mapFields (·.setIfInBounds 1 (Value.ref h₁.objs.size))) he₂ (Obj.isFreed_of_fields hd₃)
    have keep : ∀ b o, b ≠ e → h₁.get? b = some o → ((h₁.push ob).update e (Obj.mapFields (·.setIfInBounds 1 (Value.ref h₁.objs.size)))).get? b = some o := fun b o hbe hb => by
      rw [Heap.get?_update_other _ _ (Ne.symm hbe)]
      exact Heap.get?_push_of_some _ hb
  · have hTe : h₁.objs.size ≠ e := Nat.ne_of_gt (Heap.lt_size he₁)
    refine ⟨fun b o hbo => keep b o (fun q => by rw [q, hen] at hbo; cases hbo) (kb₁ b o hbo), hen, hl.of_keeps fun b o hb hnf => ?_, ?_⟩
    · obtain ⟨sl, hs⟩ := hs₁.2.2 b o hb
      exact ⟨_, keep b _ (nf b o hb hnf) hs, rfl⟩
    · refine ⟨_, _, h₁.objs.size, ob, _, he₃, Obj.cls_mapFields _ _, hd₃, by rw [Array.getElem?_setIfInBounds_self_of_lt (Nat.lt_of_succ_lt hsz)], by rw [Array.getElem?_setIfInBounds_ne (by decide)]; exact h2, kb₁.fresh, hTe, (Heap.get?_update_other _ _ (Ne.symm hTe)).trans (Heap.get?_push_size h₁ (by rw [← hob]; rfl)), by rw [← hob], by first | (simp; done) | (rcases hpl with rfl | ⟨_, _, _, _, _, _, _, rfl⟩ <;> simp)⟩
  · intro b o hb hnf
    obtain ⟨sl, hs⟩ := hs₁.2.2 b o hb
    exact ⟨sl, keep b _ (nf b o hb hnf) hs⟩
theorem noteV_first {oe : Obj} {vs : Array Value} (hfr : A.frames = some (env :: outer)) (hl : s.heap.FunFrames base (env :: outer)) (hf : env.frame = some L) (he : s.heap.get? e = some oe) (hkb : base.StaysIn s.heap) (hen : base.get? e = none) (hd : oe.data = .fields vs) (h1 : vs[1]? = some .none) (h2 : vs[2]? = some .none)
    (h : ∀ h', FlyV base (env :: outer) e oe.cls (rawInt L) h' → s.heap.UpToSlots h' → Q () { s with heap := h' }) : wpAny M A (noteFrame (.ref e) env) Q E s := by
  unfold noteFrame
  simp only [hf]
  refine wpAny_bind (wpAny_field he hd h1 ?_)
  rw [if_neg (by decide)]
  exact entryV hfr hl hf he hkb hen hd h2 h
theorem noteV_on (hfr : A.frames = some (env :: outer)) (hf : env.frame = some L) (hy : FlyV base (env :: outer) e cls .none s.heap)
    (h : ∀ h', FlyV base (env :: outer) e cls (rawInt L) h' → s.heap.UpToSlots h' → Q () { s with heap := h' }) : wpAny M A (noteFrame (.ref e) env) Q E s := by
  obtain ⟨hkb, hen, hl, oe, vs, T, oT, ts, he, rfl, hd, h1, h2, hnT, hTe, hT, hdT, h3⟩ := hy
  unfold noteFrame
  simp only [hf]
  refine wpAny_bind (wpAny_field he hd h1 ?_)
  rw [if_pos (show (Value.ref T != Value.none) = true from by simp)]
  refine wpAny_bind (wpAny_field hT hdT h3 ?_)
  rw [if_neg (show ¬ ((Value.none == rawInt L) = true) from by simp [rawInt])]
  refine wpAny_bind (wpAny_setField hT hdT (Array.getElem?_eq_some_iff.mp h3).1 ?_)
  have other : ∀ b, b ≠ T → (s.heap.update T (Obj.mapFields (·.setIfInBounds 3 Value.none))).get? b = s.heap.get? b := fun b hb => Heap.get?_update_other _ _ (Ne.symm hb)
  have noR : ∀ b o, s.heap.get? b = some o → (∀ vs, o.data ≠ .fields vs) → b ≠ T := fun b o hb hnf q => by
    rw [q, hT] at hb; injection hb with hb; subst hb; exact hnf ts hdT
  refine entryV hfr (hl.of_keeps fun b o hb hnf => ⟨o, (other b (noR b o hb hnf)).trans hb, rfl⟩) hf ((other e (Ne.symm hTe)).trans he)
    (fun b o hbo => (other b fun q => by rw [q, hnT] at hbo; cases hbo).trans (hkb b o hbo)) hen hd h2
    fun h' k1 k2 => h h' k1 fun b o hb hnf => k2 b o ((other b (noR b o hb hnf)).trans hb) hnf
theorem flightV {fl : Value} {l : List Env} (hy : FlyV base l e cls fl s.heap) (h : ∀ h', FlyV base l e cls .none h' → s.heap.UpToSlots h' → Q () { s with heap := h' }) : wpAny M A (setFlight (.ref e) none) Q E s := by
  obtain ⟨hkb, hen, hl, oe, vs, T, oT, ts, he, rfl, hd, h1, h2, hnT, hTe, hT, hdT, h3⟩ := hy
  have hsz3 : 3 < ts.size := (Array.getElem?_eq_some_iff.mp h3).1
  have other : ∀ b, b ≠ T → (s.heap.update T (Obj.mapFields (·.setIfInBounds 3 ((none : Option Addr).elim Value.none fun f => rawInt f)))).get? b = s.heap.get? b :=
    fun b hb => Heap.get?_update_other _ _ (Ne.symm hb)
  have noR : ∀ b o, s.heap.get? b = some o → (∀ vs, o.data ≠ .fields vs) → b ≠ T := fun b o hb hnf q => by
    rw [q, hT] at hb; injection hb with hb; subst hb; exact hnf ts hdT
  unfold setFlight
  refine wpAny_bind (wpAny_field he hd h1 ?_)
  rw [if_pos (show (Value.ref T != Value.none) = true from by simp)]
  refine wpAny_setField hT hdT hsz3 (h _ ⟨fun b o hbo => (other b fun q => by rw [q, hnT] at hbo; cases hbo).trans (hkb b o hbo), hen,
    hl.of_keeps fun b o hb hnf => ⟨o, (other b (noR b o hb hnf)).trans hb, rfl⟩, oe, vs, T, _, _, (other e (Ne.symm hTe)).trans he, rfl, hd, h1, h2, hnT, hTe, Heap.get?_update_self _ hT (Obj.isFreed_of_fields (Obj.data_mapFields hdT _)), Obj.data_mapFields hdT _, by simp [hsz3]⟩ fun b o hb hnf => ⟨o.slots, (other b (noR b o hb hnf)).trans hb⟩)
end
noncomputable abbrev Cx.q (c : Cx) (z : Led) : Cx := { c with z := z, E := fun _ _ => False }
theorem Ok.q {K : Params → Frag} {P : Program} {c : Cx} {n : Nat} (o : Ok K P c n) (z : Led) : Ok K P (c.q z) n := ⟨⟨o.B, o.X, o.T, o.hd, o.hu⟩, o.hn⟩
theorem news_sub {h₀ h : Heap} {L : Addr} {l l' : Led} (N : News h₀ L h l) (hs : ∀ p ∈ l', p ∈ l) : News h₀ L h l' := fun p hp => N p (hs p hp)
/-- a turn's end -/
def turnK (k : Flow → Mp → Led → Prop) (Jn : Mp → Led → Prop) (f : Flow) (m : Mp) (l : Led) : Prop := match f with
  | .ret v => k (.ret v) m l
  | .brk => k .next m l
  | _ => Jn m l
theorem turn_next {k : Flow → Mp → Led → Prop} {Jn : Mp → Led → Prop} {m : Mp} {l : Led} (x : Jn m l) : turnK k Jn .next m l := x
theorem turn_ret {k : Flow → Mp → Led → Prop} {Jn : Mp → Led → Prop} {m : Mp} {l : Led} {v : Value} (x : k (.ret v) m l) : turnK k Jn (.ret v) m l := x
section
variable {c : Cx} {env : Env} {m : Mp} {l : Led} {k : Flow → Mp → Led → Prop}
theorem St.unz {z z' : Led} {E : Value → Shared → Prop} {h : Heap} (S : St { c with z := z ++ z', E := E } env h m l) : St { c with z := z' } env h m l :=
  ⟨S.F, news_sub S.N fun p hp => (List.mem_append.mp hp).elim (List.mem_append_left _) fun q => List.mem_append_right _ (List.mem_append_right _ q), fun p hp => S.D p (List.mem_append_right _ hp)⟩
theorem loop_core {x : PySem.Str} {body : List Stmt} {I : Addr} {fp : List Addr} {n : Nat} {P : Nat → Value → Prop} {Sx : Nat → Heap → Prop} {h : Heap} {tk : Nat} (J : Nat → Mp → Led → Prop)
    (w : Walks c.prog c.w (c.A env) I fp [I] n P Sx) (hL : env.locals ∉ fp) (h0 : c.h₀.get? I = none) (hst : Sx 0 h) (hI : ∀ i h, Sx i h → ∃ o, h.get? I = some o) (S : St c env h m l) (hl : ∀ p ∈ l ++ c.z, p.1 ≠ I)
    (hc : ∀ b ∈ fp, b = I ∨ ∃ o, ∀ i m l, J i m l → (b, o) ∈ l) (hj : J 0 m l)
    (turn : ∀ z i v m₁ l₁, i < n → P i v → J i m₁ l₁ → W (c.q z) env (execs body env) (turnK k (J (i + 1))) (fun y => if y = x then some v else m₁ y) l₁)
    (done : ∀ m₁ l₁, J n m₁ l₁ → k .next m₁ l₁) :
    LoopAtV c.prog c.w (c.A env) c.h₀ env x body (Kq c env k) (fun _ _ => False) (.ref I) (c.S h tk) := by
  refine ⟨I, fp, [I], n, P, Sx, m, l ++ c.z, fun i m nx => ∃ l, nx = l ++ c.z ∧ (∀ p ∈ c.z, ∀ q ∈ l, p.1 ≠ q.1) ∧ J i m l, rfl, w, hL, fun b hb => by rw [List.mem_singleton.mp hb]; exact h0, fun p hp hm => hl p hp (List.mem_singleton.mp hm), hst, S.F, S.N, ⟨l, rfl, S.D, hj⟩, ?_, ?_⟩
  · rintro i v m₁ nx s₁ own ⟨h₁, tk₁, rfl⟩ hin hP ⟨l₁, rfl, hD, hJ⟩ hoff hown hget hfp hst₁ F₁ N₁
    obtain ⟨oI, hoI⟩ := hI _ _ hst₁
    have hIown : (I, oI) ∈ own := hfp I (w.sub I List.mem_cons_self) h0 _ hoI
    have S₁ : St (c.q (own.filter (fun p => decide (p.1 = I)) ++ c.z)) env h₁ (fun y => if y = x then some v else m₁ y) l₁ := by
      refine ⟨F₁, ?_, ?_⟩
      · refine news_sub N₁ fun p hp => ?_
        rcases List.mem_append.mp hp with a | a
        · exact List.mem_append_right _ (List.mem_append_left _ a)
        · rcases List.mem_append.mp a with a | a
          · exact List.mem_append_left _ (List.mem_filter.mp a).1
          · exact List.mem_append_right _ (List.mem_append_right _ a)
      · intro p hp q hq
        rcases List.mem_append.mp hp with a | a
        · rw [of_decide_eq_true (List.mem_filter.mp a).2]
          exact fun e => hoff q (List.mem_append_left _ hq) (List.mem_singleton.mpr e.symm)
        · exact hD p a q hq
    have hIz : (I, oI) ∈ own.filter (fun p => decide (p.1 = I)) := List.mem_filter.mpr ⟨hIown, decide_eq_true rfl⟩
    refine wpAny_mono (turn _ i v m₁ l₁ hin hP hJ h₁ tk₁ S₁) (fun f s₂ y => y.st fun h₂ tk₂ m₂ l₂ e S₂ z => ?_) fun _ _ e => e
    subst e
    have fin : J (i + 1) m₂ l₂ → LoopStepU c.h₀ env.locals [I] own (fun m nx => ∃ l, nx = l ++ c.z ∧ (∀ p ∈ c.z, ∀ q ∈ l, p.1 ≠ q.1) ∧ J (i + 1) m l) (c.S h₁ tk₁) .next (c.S h₂ tk₂) := fun hJ' => by
      refine ⟨rfl, h₂, tk₂, m₂, l₂ ++ c.z, rfl, S₂.F, fun p hp => ?_, fun p hp hm => ?_, l₂, rfl, fun p hp => S₂.D p (List.mem_append_right _ hp), hJ'⟩
      · rcases List.mem_append.mp hp with a | a
        · by_cases e : p.1 = I
          · exact S₂.N p (List.mem_append_right _ (List.mem_append_left _ (List.mem_filter.mpr ⟨a, decide_eq_true e⟩)))
          · obtain ⟨o, ho⟩ := (hc p.1 (hown p a)).resolve_left e
            have e1 := (N₁ _ (List.mem_append_right _ (List.mem_append_left _ (ho _ _ _ hJ)))).1
            have e2 : p.2 = o := Option.some.inj ((hget p a).symm.trans e1)
            have e3 := S₂.N _ (List.mem_append_left _ (ho _ _ _ hJ'))
            rw [← e2] at e3
            exact e3
        · rcases List.mem_append.mp a with a | a
          · exact S₂.N p (List.mem_append_left _ a)
          · exact S₂.N p (List.mem_append_right _ (List.mem_append_right _ a))
      · rcases List.mem_append.mp hp with a | a
        · exact S₂.D _ (List.mem_append_left _ hIz) p a (List.mem_singleton.mp hm).symm
        · exact hoff p (List.mem_append_right _ a) hm
    cases f with
    | ret v => exact .ret (.mk S₂.unz z)
    | brk => exact .brk (.mk S₂.unz z)
    | next => exact .next (fin z)
    | cont => exact .cont (fin z)
  · rintro h' tk' m' nx F' N' _ ⟨l', rfl, hD, hJ⟩
    exact .mk ⟨F', N', hD⟩ (done m' l' hJ)
/-- the object of a range by ones -/
noncomputable abbrev rngO (a : Int) (t : Tok) (b : Int) (u v : Tok) : Obj := { cls := .type "range", data := .fields #[.int a t, .int b u, .int 1 v] }
structure IsRng (xv : Value) (l : Led) (a b : Int) : Prop where
  at_ : ∃ r t u v, xv = .ref r ∧ (r, rngO a t b u v) ∈ l
  lo : -(2 ^ 62) ≤ a
  lo' : a < 2 ^ 62
  hi : -(2 ^ 62) ≤ b
  hi' : b < 2 ^ 62
variable {K : Params → Frag} {P : Program} {n : Nat}
theorem quiet {s : Shared} {t : Sem Flow} (h : wpAny (model c.prog c.w) (c.A env) t (Kq c env k) (fun _ _ => False) s) : wpAny (model c.prog c.w) (c.A env) t (Kq c env k) c.E s := wpAny_mono h (fun _ _ x => x) fun _ _ x => x.elim
theorem S_range {x : PySem.Str} {px pos : Pos} {iter : Expr} {body : List Stmt} (o : Ok K P c n) (N : Nat) (a b : Int) (J : Nat → Mp → Led → Prop) (hN : (b - a).toNat = N)
    (y : ∀ c', Ok K P c' n → (∃ z, c' = c.q z) → W c' env (eval iter env) (fun xv m l => IsRng xv l a b ∧ J 0 m l) m l)
    (turn : ∀ c', Ok K P c' n → (∃ z, c' = c.q z) → ∀ i t m₁ l₁, i < N → J i m₁ l₁ → W c' env (execs body env) (turnK k (J (i + 1))) (fun y => if y = x then some (.int (a + (i : Int)) t) else m₁ y) l₁)
    (done : ∀ m₁ l₁, J N m₁ l₁ → k .next m₁ l₁)
    (hx : autoParam (env.kindOf x = some .local) PySem.W.nameX_K._auto_1) (hk : autoParam (env.scope.kind = .function) PySem.W.nameX_K._auto_1) (hs : autoParam (∀ x, foldedSetIterable iter env x = pure x) PyProof.Rows.LCg.ListComp_U._auto_1) : W c env (exec (.For (.Name x px) iter body [] pos) env) k m l := fun h tk S =>
  quiet (For_invV c.h₀ hx (by rw [hk]; rfl) ((y _ (o.q c.z) ⟨_, rfl⟩).to (c := c.q c.z) ⟨S.F, S.N, S.D⟩ fun xv s₁ z => z.st fun h₁ tk₁ m₁ l₁ e S₁ z => by
    obtain ⟨⟨⟨r, t, u, v, rfl, hr⟩, b1, b2, b3, b4⟩, hj⟩ := z
    subst e
    have hsz : Builtin.Range.rangeSize a b 1 = (N : Int) := by rw [rangeSize_one]; split <;> omega
    refine wpAny_pyIter_range (S₁.get hr) (small_one b1 b2 b3 b4) ?_
    have S₂ : St c env (h₁.push { cls := .type "range_iterator", data := .fields #[rawInt a, rawInt (Builtin.Range.rangeSize a b 1), rawInt 1] }) m₁ l₁ :=
      ⟨S₁.F.push _, fun p hp => ⟨Heap.get?_push_of_some _ (S₁.N p hp).1, (S₁.N p hp).2⟩, S₁.D⟩
    have w : Walks c.prog c.w (c.A env) h₁.objs.size [h₁.objs.size] [h₁.objs.size] N (fun i v => i < N ∧ ∃ t, v = .int (a + i * 1) t)
      (fun i h => IsRangeIter h h₁.objs.size (a + (i : Nat) * 1) ((N : Int) - (i : Nat)) 1) := (Walks.range o.hn _ a 1 N).bound
    refine loop_core (c := c) J w (fun hm => absurd S₁.F.ns.lt ((List.mem_singleton.mp hm) ▸ Nat.lt_irrefl _)) (next_is_new S₁.F) (by show IsRangeIter _ _ _ _ _; rw [hsz]; simpa using Heap.get?_push_size _ rfl) (fun i h e => ⟨_, e⟩) S₂
      (fun p hp => Nat.ne_of_lt (Heap.lt_size (S₁.N p hp).1)) (fun b hb => .inl (List.mem_singleton.mp hb)) hj (fun z i v m₂ l₂ hi hp hJ => ?_) done
    obtain ⟨_, t, rfl⟩ := hp
    rw [Int.mul_one]
    exact turn _ (o.q z) ⟨_, rfl⟩ i t m₂ l₂ hi hJ) hs .never)
theorem S_listX {x : PySem.Str} {px pos : Pos} {iter : Expr} {body : List Stmt} (o : Ok K P c n)
    (y : ∀ c', Ok K P c' n → W c' env (eval iter env) (fun xv m l => ∃ (a : Addr) (vs : List Value) (e : Nat) (J : Nat → Mp → Led → Prop), xv = .ref a ∧ J 0 m l ∧ (∀ i m l, J i m l → (a, lstO vs e) ∈ l) ∧ (∀ c', Ok K P c' n → ∀ i v m₁ l₁, vs[i]? = some v → J i m₁ l₁ → W c' env (execs body env) (turnK k (J (i + 1))) (fun y => if y = x then some v else m₁ y) l₁) ∧ ∀ m₁ l₁, J vs.length m₁ l₁ → k .next m₁ l₁) m l)
    (hx : autoParam (env.kindOf x = some .local) PySem.W.nameX_K._auto_1) (hk : autoParam (env.scope.kind = .function) PySem.W.nameX_K._auto_1) (hs : autoParam (∀ x, foldedSetIterable iter env x = pure x) PyProof.Rows.LCg.ListComp_U._auto_1) : W c env (exec (.For (.Name x px) iter body [] pos) env) k m l := fun h tk S =>
  quiet (For_invV c.h₀ hx (by rw [hk]; rfl) ((y _ (o.q c.z)).to (c := c.q c.z) ⟨S.F, S.N, S.D⟩ fun xv s₁ z => z.st fun h₁ tk₁ m₁ l₁ e' S₁ z => by
    obtain ⟨a, vs, e, J, rfl, hj, hJm, turn, done⟩ := z
    subst e'
    have hm := hJm _ _ _ hj
    have hls := S₁.isList hm
    have hne : a ≠ h₁.objs.size := Nat.ne_of_lt (Heap.lt_size (S₁.get hm))
    refine wpAny_pyIter_list hls ?_
    have w := Walks.list (prog := c.prog) (w := c.w) (A := c.A env) o.hn h₁.objs.size a hne vs.toArray
    rw [List.size_toArray] at w
    refine loop_core (c := c) J w (fun hm' => ?_) (next_is_new S₁.F) ⟨⟨_, Heap.get?_push_size _ rfl, rfl, rfl⟩, hls.at fun o e => Heap.get?_push_of_some _ e⟩ (fun i h e => by obtain ⟨⟨o, ho, _⟩, _⟩ := e; exact ⟨o, ho⟩)
      ⟨S₁.F.push _, fun p hp => ⟨Heap.get?_push_of_some _ (S₁.N p hp).1, (S₁.N p hp).2⟩, S₁.D⟩ (fun p hp => Nat.ne_of_lt (Heap.lt_size (S₁.N p hp).1)) (fun b hb => ?_) hj (fun z i v m₂ l₂ hi hp hJ => ?_) done
    · rcases List.mem_cons.mp hm' with q | q
      · exact absurd S₁.F.ns.lt (q ▸ Nat.lt_irrefl _)
      · exact (S₁.N _ (List.mem_append_left _ hm)).2.1 (List.mem_singleton.mp q).symm
    · rcases List.mem_cons.mp hb with q | q
      · exact .inl q
      · exact .inr ⟨lstO vs e, fun i m l hJ => (List.mem_singleton.mp q) ▸ hJm _ _ _ hJ⟩
    · exact turn _ (o.q z) i v m₂ l₂ (by simpa using hp) hJ) hs .never)
theorem S_list {x : PySem.Str} {px pos : Pos} {iter : Expr} {body : List Stmt} (o : Ok K P c n) (a : Addr) (vs : List Value) (e : Nat) (J : Nat → Mp → Led → Prop) (hJm : ∀ i m l, J i m l → (a, lstO vs e) ∈ l)
    (y : ∀ c', Ok K P c' n → W c' env (eval iter env) (fun xv m l => xv = .ref a ∧ J 0 m l) m l)
    (turn : ∀ c', Ok K P c' n → ∀ i v m₁ l₁, vs[i]? = some v → J i m₁ l₁ → W c' env (execs body env) (turnK k (J (i + 1))) (fun y => if y = x then some v else m₁ y) l₁)
    (done : ∀ m₁ l₁, J vs.length m₁ l₁ → k .next m₁ l₁)
    (hx : autoParam (env.kindOf x = some .local) PySem.W.nameX_K._auto_1) (hk : autoParam (env.scope.kind = .function) PySem.W.nameX_K._auto_1) (hs : autoParam (∀ x, foldedSetIterable iter env x = pure x) PyProof.Rows.LCg.ListComp_U._auto_1) : W c env (exec (.For (.Name x px) iter body [] pos) env) k m l :=
  S_listX o (fun c' o' => (y c' o').mono fun xv m l z => ⟨a, vs, e, J, z.1, z.2, hJm, turn, done⟩) hx hk hs
end
section
variable {c : Cx} {env : Env} {m : Mp} {l : Led} {k : Value → Mp → Led → Prop}
theorem M_range1 {a : Int} {t : Tok} (x : ∀ D u v, (∀ p ∈ l, p.1 < D) → k (.ref D) m ((D, rngO 0 u a t v) :: l)) : W c env (call (.type "range") [.int a t]) k m l := fun h tk S =>
  call_range_1 (have lt := fun p hp => Heap.lt_size (S.N p hp).1; .mk (S.new (S.F.push _) (News.push S.F S.N _) lt) (x _ _ _ fun p hp => lt p (List.mem_append_left _ hp)))
theorem M_range2 {a b : Int} {t u : Tok} (x : ∀ D v, (∀ p ∈ l, p.1 < D) → k (.ref D) m ((D, rngO a t b u v) :: l)) : W c env (call (.type "range") [.int a t, .int b u]) k m l := fun h tk S =>
  call_range_2 (have lt := fun p hp => Heap.lt_size (S.N p hp).1; .mk (S.new (S.F.push _) (News.push S.F S.N _) lt) (x _ _ fun p hp => lt p (List.mem_append_left _ hp)))
end
/-! defs entered -/
noncomputable def flv (f : Flow) : Value := match f with
  | .ret v => v
  | _ => .none
/-- a def's end -/
def retK (k : Value → Mp → Led → Prop) (m : Mp) (f : Flow) (_ : Mp) (l : Led) : Prop := k (flv f) m l
theorem ret_ret {k : Value → Mp → Led → Prop} {m m' : Mp} {l : Led} {v : Value} (x : k v m l) : retK k m (.ret v) m' l := x
theorem ret_next {k : Value → Mp → Led → Prop} {m m' : Mp} {l : Led} (x : k .none m l) : retK k m .next m' l := x
/-- the map at a def's start -/
noncomputable def mapOf : List PySem.Str → List Value → Mp
  | n :: ns, v :: vs => fun y => if y = n then some v else mapOf ns vs y
  | _, _ => fun _ => none
theorem mapOf_rev : ∀ (ns : List PySem.Str) (vs : List Value), ns.Nodup → (fun y => (ns.zip vs).reverse.lookup y) = mapOf ns vs
  | [], _, _ => rfl
  | n :: ns, [], _ => rfl
  | n :: ns, v :: vs, h => by
    funext y
    have ih := congrFun (mapOf_rev ns vs (List.nodup_cons.mp h).2) y
    have hn := (List.nodup_cons.mp h).1
    show List.lookup y ((n, v) :: ns.zip vs).reverse = if y = n then some v else mapOf ns vs y
    rw [List.reverse_cons, List.lookup_append, ih]
    by_cases e : y = n
    · subst e
      have : mapOf ns vs y = none := by
        rw [← ih]
        refine List.lookup_eq_none_iff.mpr fun p hp => ?_
        have := (List.of_mem_zip (List.mem_reverse.mp hp)).1
        simpa using fun q : y = p.1 => hn (q ▸ this)
      simp [this]
    · have : (y == n) = false := by simpa using e
      simp [e, List.lookup_cons, this]
/-- an exception under way above frames; what still stands -/
def RaisedV (base G : Heap) (l : List Env) (e : Addr) (cls : Value) (zs : Led) (h : Heap) : Prop :=
  ∃ B, base.StaysIn B ∧ (∀ b o, G.get? b = some o → b ∉ l.filterMap (·.frame) → B.get? b = some o) ∧ (∀ q ∈ zs, B.get? q.1 = some q.2 ∧ G.get? q.1 = none ∧ base.get? q.1 = none) ∧ FlyV B l e cls .none h
section
variable {M : Model} {A : Around} {E : Value → Shared → Prop} {s' : Shared} {base g G : Heap} {outer : List Env} {L a e : Addr} {m : Mp} {name : PySem.Str} {scope : Scope} {cd cls : Value} {Q : Unit → Shared → Prop} {zs : Led} {oe : Obj} {vs : Array Value}
/-- an exception leaves the frame that raises it -/
theorem leave_raise (B : Below A base outer g) (F : Fr g L s'.heap m) (N : News g L s'.heap ((e, oe) :: zs)) (hc : oe.cls = cls) (hd : oe.data = .fields vs) (h1 : vs[1]? = some .none) (h2 : vs[2]? = some .none) (ne : ∀ q ∈ zs, q.1 ≠ e)
    (hQ : ∀ h', RaisedV base g outer e cls zs h' → g.UpToSlots h' → Q () { s' with heap := h' }) (hk : scope.kind = .function) :
    wpAny M (A.deeper (envOf name scope L a cd)) («leaving» (envOf name scope L a cd) (.ref e)) Q E s' := by
  have K' := B.push (name := name) (a := a) (cd := cd) F hk
  have Ne := N _ (.head _)
  generalize hfs : (envOf name scope L a cd :: outer).filterMap (·.frame) = fs
  have hin : ∀ env ∈ (envOf name scope L a cd :: outer), ∀ b, env.frame = some b → b ∈ e :: fs := fun env he b hb => .tail _ (hfs ▸ List.mem_filterMap.mpr ⟨env, he, hb⟩)
  have sg : ∀ b o, g.get? b = some o → b ∉ outer.filterMap (·.frame) → (hideAll s'.heap (e :: fs)).get? b = some o := fun b o q nm => hideAll_get _ (F.keep b o q) fun hm => by
    rcases List.mem_cons.mp hm with rfl | hm
    · rw [Ne.2.2] at q; cases q
    · rcases kts_mem (hfs ▸ hm) with z | z
      · rw [z, kts_self F] at q; cases q
      · exact nm z
  have st : base.StaysIn (hideAll s'.heap (e :: fs)) := fun b o q => sg b o (B.stays b o q) fun h => by rw [(B.frames.mem h).1] at q; cases q
  unfold «leaving»
  refine wpAny_bind (noteV_first K'.stack (funFrames_hide K'.frames hin) rfl Ne.1 (fun b o q => of_hideAll _ q) (hideAll_none _ (.head _)) hd h1 h2 fun h1 y1 u1 => flightV y1 fun h2 y2 u2 => ?_)
  refine hQ h2 ⟨_, st, sg, fun q hq => ?_, y2.st, y2.new, y2.fr.2.2, hc ▸ y2.tr⟩ (((Heap.UpToSlots.of_keeps F.keep).trans u1).trans u2)
  have Nq := N _ (.tail _ hq)
  refine ⟨hideAll_get _ Nq.1 fun h => ?_, Nq.2.2, fresh_of_stays B.stays Nq.2.2⟩
  rcases List.mem_cons.mp h with h | h
  · exact ne q hq h
  · rcases kts_mem (hfs ▸ h) with z | z
    · exact Nq.2.1 z
    · obtain ⟨o, ho, _⟩ := (B.frames.mem z).2
      rw [Nq.2.2] at ho; cases ho
/-- it leaves a frame below -/
theorem leave_on (B : Below A base outer g) (F : Fr g L G m) (R : RaisedV base G (envOf name scope L a cd :: outer) e cls zs s'.heap) (u : G.UpToSlots s'.heap) (hQ : ∀ h', RaisedV base g outer e cls zs h' → g.UpToSlots h' → Q () { s' with heap := h' }) :
    wpAny M (A.deeper (envOf name scope L a cd)) («leaving» (envOf name scope L a cd) (.ref e)) Q E s' := by
  obtain ⟨B0, hB, hBG, hl, hy⟩ := R
  unfold «leaving»
  refine wpAny_bind (noteV_on (Around.frames_deeper B.stack) rfl hy fun h1 y1 u1 => flightV y1 fun h2 y2 u2 => ?_)
  exact hQ h2 ⟨B0, hB, fun b o q nm => hBG b o (F.keep b o q) (fun hm => by
    rcases kts_mem hm with z | z
    · rw [z, kts_self F] at q; cases q
    · exact nm z), fun q hq => ⟨(hl q hq).1, kts_none F.keep (hl q hq).2.1, (hl q hq).2.2⟩, y2.st, y2.new, y2.fr.2.2, y2.tr⟩ ((((Heap.UpToSlots.of_keeps F.keep).trans u).trans u1).trans u2)
end
section
variable {K : Params → Frag} {P : Program} {c : Cx} {env : Env} {m : Mp} {l : Led} {k : Value → Mp → Led → Prop} {n : Nat}
/-- exceptions of a class may come into the frame from a def that it called -/
structure Thr (c : Cx) (env : Env) (C : Addr) (zs : Led) (m : Mp) : Prop where
  hn : c.hn = none
  go : ∀ G e s, Fr c.h₀ env.locals G m → RaisedV c.base G (env :: c.outer) e (.ref C) zs s.heap → G.UpToSlots s.heap → (∃ h tk, s = c.S h tk) → c.E (.ref e) s
/-- the frame may raise them itself -/
structure Rse (c : Cx) (env : Env) (C : Addr) (zs : Led) : Prop where
  thr : ∀ m, Thr c env C zs m
  own : ∀ m e oe vs h tk, Fr c.h₀ env.locals h m → News c.h₀ env.locals h ((e, oe) :: zs) → oe.cls = .ref C → oe.data = .fields vs → vs[1]? = some .none → vs[2]? = some .none → (∀ q ∈ zs, q.1 ≠ e) → c.E (.ref e) (c.S h tk)
/-- the context of a def that is called -/
noncomputable abbrev Cx.into (c : Cx) (env env' : Env) (g : Heap) : Cx := { c with
  A₀ := c.A env
  h₀ := g
  outer := env :: c.outer
  dp := c.dp + 1
  un := c.un + 3
  E := fun e s' => wpAny (model c.prog c.w) ((c.A env).deeper env') («leaving» env' e) (fun _ s'' => c.E e s'') (fun e' s'' => c.E e' s'') s' }
/-- what the context of a called def has of its caller's -/
structure Sub (c c' : Cx) : Prop where
  hn : c'.hn = c.hn
  z : c'.z = c.z
  keep : ∀ b o, c.h₀.get? b = some o → c'.h₀.get? b = some o
theorem enterCode {name qual : PySem.Str} {params : Arguments} {body : List Stmt} {scope : Scope} {dV kV doc pm cdv ct oc : Value} {an od : Option Addr} {osl : Array (Option Value)} {f : Addr} {vs : List Value} {R : Result → Shared → Prop} (ns : List PySem.Str)
    (o : Okh K P c (n + 1)) (hf : env.frame = some env.locals) (hke : env.scope.kind = .function)
    (ho : (K c.w.params).lookup f = some ⟨oc, od, .func (fnOf name qual params body scope dV kV doc pm an cdv ct), osl⟩) (hcd : codeIn (K c.w.params) cdv qual = true)
    (hbind : bindArgs (fnOf name qual params body scope dV kV doc pm an cdv ct) ⟨vs, []⟩ = pure (ns.zip vs)) (hns : ns.Nodup) (hloc : (ns.all fun x => decide (scope.names.lookup x = some .local)) = true)
    (hco : scope.isCoroutine = false) (hgen : scope.isGenerator = false) (hk : scope.kind = .function) (hcell : (scope.names.all fun x => decide (x.2 ≠ .cell)) = true)
    (hR : ∀ v s', Kq c env k v s' → R (.ok (.ret v)) s') (hE : ∀ e s', c.E e s' → R (.error e) s')
    (h : ∀ c', Okh K P c' n → Sub c c' → ∀ L', (∀ C zs, Thr c env C zs m → Rse c' (envOf qual scope L' f cdv) C zs) → W c' (envOf qual scope L' f cdv) (execs body (envOf qual scope L' f cdv)) (retK k m) (mapOf ns vs) l) {hh : Heap} {tk : Nat} (S : St c env hh m l) :
    codeAny (model c.prog c.w) (c.A env) (.call (.ref f) ⟨vs, []⟩) R (c.S hh tk) :=
  code_def (A := c.A env) (A₀ := c.A₀) (base := c.base) (outer := c.outer) o.B S.F o.X S.N o.T rfl hf hke ho hcd (by have := o.hd; show c.dp < _; omega) (BindsTo.of_eq hbind) (fun y hy => of_decide_eq_true (List.all_eq_true.mp hloc _ (List.of_mem_zip hy).1)) (fun g L' h₁ FG F' N' B' X' T' => by
    rw [mapOf_rev ns vs hns] at F'
    refine wpAny_mono (h (c.into env (envOf qual scope L' f cdv) g) ⟨B', X', T', by have := o.hd; show c.dp + 1 + n < _; omega, by have := o.hu; show c.un + 3 + _ + _ < _; omega⟩ ⟨rfl, rfl, FG.keep⟩ L' (fun C zs X => ⟨fun m' => ⟨X.hn, fun G e s F R u w => ?_⟩, fun m' e oe vs h tk F N hc hd h1 h2 ne => ?_⟩) h₁ _ ⟨F', N', S.D⟩) (fun fl s' y => y.st fun h₂ tk₂ m₂ l₂ e S₂ z => ?_) fun _ _ e => wpAny_mono e (fun _ _ z => hE _ _ z) fun _ _ z => hE _ _ z
    · obtain ⟨h, tk, rfl⟩ := w
      exact leave_on B' F R u fun h' R' u' => X.go g e _ FG R' u' ⟨_, _, rfl⟩
    · exact leave_raise B' F N hc hd h1 h2 ne (fun h' R' u' => X.go g e _ FG R' u' ⟨_, _, rfl⟩) hk
    subst e
    exact leaveK_ S₂.F S₂.N fun F N => hR _ _ (.mk ⟨F, N, S₂.D⟩ (by cases fl <;> exact z))) hco hgen hk (fun x hx => of_decide_eq_true (List.all_eq_true.mp hcell x hx))
theorem enter {name qual : PySem.Str} {params : Arguments} {body : List Stmt} {scope : Scope} {dV kV doc pm cdv ct oc : Value} {an od : Option Addr} {osl : Array (Option Value)} {f : Addr} {vs : List Value} (ns : List PySem.Str)
    (o : Ok K P c (n + 1)) (hf : env.frame = some env.locals) (hke : env.scope.kind = .function)
    (ho : (K c.w.params).lookup f = some ⟨oc, od, .func (fnOf name qual params body scope dV kV doc pm an cdv ct), osl⟩) (hcd : codeIn (K c.w.params) cdv qual = true)
    (hbind : bindArgs (fnOf name qual params body scope dV kV doc pm an cdv ct) ⟨vs, []⟩ = pure (ns.zip vs)) (hns : ns.Nodup) (hloc : (ns.all fun x => decide (scope.names.lookup x = some .local)) = true)
    (hco : scope.isCoroutine = false) (hgen : scope.isGenerator = false) (hk : scope.kind = .function) (hcell : (scope.names.all fun x => decide (x.2 ≠ .cell)) = true)
    (h : ∀ c', Ok K P c' n → ∀ L', W c' (envOf qual scope L' f cdv) (execs body (envOf qual scope L' f cdv)) (retK k m) (mapOf ns vs) l) :
    W c env (call (.ref f) vs) k m l := fun hh tk S =>
  wpAny_call (enterCode ns o.toOkh hf hke ho hcd hbind hns hloc hco hgen hk hcell (fun _ _ z => z) (fun _ _ z => z) (fun c' o' e L' _ => h c' ⟨o', e.hn.trans o.hn⟩ L') S)
/-- a def that may raise -/
theorem enterR {name qual : PySem.Str} {params : Arguments} {body : List Stmt} {scope : Scope} {dV kV doc pm cdv ct oc : Value} {an od : Option Addr} {osl : Array (Option Value)} {f : Addr} {vs : List Value} (ns : List PySem.Str)
    (o : Ok K P c (n + 1)) (hf : env.frame = some env.locals) (hke : env.scope.kind = .function)
    (ho : (K c.w.params).lookup f = some ⟨oc, od, .func (fnOf name qual params body scope dV kV doc pm an cdv ct), osl⟩) (hcd : codeIn (K c.w.params) cdv qual = true)
    (hbind : bindArgs (fnOf name qual params body scope dV kV doc pm an cdv ct) ⟨vs, []⟩ = pure (ns.zip vs)) (hns : ns.Nodup) (hloc : (ns.all fun x => decide (scope.names.lookup x = some .local)) = true)
    (hco : scope.isCoroutine = false) (hgen : scope.isGenerator = false) (hk : scope.kind = .function) (hcell : (scope.names.all fun x => decide (x.2 ≠ .cell)) = true)
    (h : ∀ c', Ok K P c' n → Sub c c' → ∀ L', (∀ C zs, Thr c env C zs m → Rse c' (envOf qual scope L' f cdv) C zs) → W c' (envOf qual scope L' f cdv) (execs body (envOf qual scope L' f cdv)) (retK k m) (mapOf ns vs) l) :
    W c env (call (.ref f) vs) k m l := fun hh tk S =>
  wpAny_call (enterCode ns o.toOkh hf hke ho hcd hbind hns hloc hco hgen hk hcell (fun _ _ z => z) (fun _ _ z => z) (fun c' o' e => h c' ⟨o', e.hn.trans o.hn⟩ e) S)
theorem enterH {name qual : PySem.Str} {params : Arguments} {body : List Stmt} {scope : Scope} {dV kV doc pm cdv ct oc : Value} {an od : Option Addr} {osl : Array (Option Value)} {f : Addr} {vs : List Value} (ns : List PySem.Str)
    (o : Okh K P c (n + 1)) (hf : env.frame = some env.locals) (hke : env.scope.kind = .function)
    (ho : (K c.w.params).lookup f = some ⟨oc, od, .func (fnOf name qual params body scope dV kV doc pm an cdv ct), osl⟩) (hcd : codeIn (K c.w.params) cdv qual = true)
    (hbind : bindArgs (fnOf name qual params body scope dV kV doc pm an cdv ct) ⟨vs, []⟩ = pure (ns.zip vs)) (hns : ns.Nodup) (hloc : (ns.all fun x => decide (scope.names.lookup x = some .local)) = true)
    (hco : scope.isCoroutine = false) (hgen : scope.isGenerator = false) (hk : scope.kind = .function) (hcell : (scope.names.all fun x => decide (x.2 ≠ .cell)) = true)
    (h : ∀ c', Okh K P c' n → Sub c c' → ∀ L', W c' (envOf qual scope L' f cdv) (execs body (envOf qual scope L' f cdv)) (retK k m) (mapOf ns vs) l) :
    W c env (call (.ref f) vs) k m l := fun hh tk S =>
  wpAny_call (enterCode ns o hf hke ho hcd hbind hns hloc hco hgen hk hcell (fun _ _ z => z) (fun _ _ z => z) (fun c' o' e L' _ => h c' o' e L') S)
theorem tc_units (a : Args) : Code.cUnits (.builtin "type.__call__" a) ≤ 3 := by
  have : Code.cUnits (.builtin "type.__call__" a) = Code.cUnits (.builtin "type.__call__" ⟨[], []⟩) := rfl
  rw [this]; decide
/-- a class of the program's own is called -/
theorem enterInit {C : Addr} {name qual : PySem.Str} {params : Arguments} {body : List Stmt} {scope : Scope} {dV kV doc pm cdv ct oc : Value} {an od : Option Addr} {osl : Array (Option Value)} {f : Addr} {vs : List Value} (ns : List PySem.Str)
    (o : Ok K P c (n + 2)) (hf : env.frame = some env.locals) (hke : env.scope.kind = .function) (hm : makesIn (K c.w.params) C = true) (hi : findIn (K c.w.params) (.ref C) "__init__" = some (some (.ref f))) (hfn : isFn (K c.w.params) (.ref f) = true)
    (ho : (K c.w.params).lookup f = some ⟨oc, od, .func (fnOf name qual params body scope dV kV doc pm an cdv ct), osl⟩) (hcd : codeIn (K c.w.params) cdv qual = true)
    (hbind : ∀ x, bindArgs (fnOf name qual params body scope dV kV doc pm an cdv ct) ⟨.ref x :: vs, []⟩ = pure (ns.zip (.ref x :: vs))) (hns : ns.Nodup) (hloc : (ns.all fun x => decide (scope.names.lookup x = some .local)) = true)
    (hco : scope.isCoroutine = false) (hgen : scope.isGenerator = false) (hk : scope.kind = .function) (hcell : (scope.names.all fun x => decide (x.2 ≠ .cell)) = true)
    (h : ∀ c', Ok K P c' n → ∀ L' x dx, (∀ p ∈ l, p.1 < dx) → dx < x → W c' (envOf qual scope L' f cdv) (execs body (envOf qual scope L' f cdv)) (retK (fun v m l => v = .none ∧ k (.ref x) m l) m) (mapOf ns (.ref x :: vs)) ((x, instObj C dx) :: (dx, dictOf [] 0) :: l)) :
    W c env (call (.ref C) vs) k m l := fun hh tk S =>
  call_cls S.F o.X S.N hm hi hfn (fun x dx h' F' N' lt lx => by
    have o2 : Ok K P { c with dp := ((c.A env).under (.builtin "type.__call__" ⟨.ref C :: vs, []⟩)).depth, un := ((c.A env).under (.builtin "type.__call__" ⟨.ref C :: vs, []⟩)).units, gd := ((c.A env).under (.builtin "type.__call__" ⟨.ref C :: vs, []⟩)).guards } (n + 1) :=
      ⟨⟨o.B, o.X, o.T, by have := o.hd; show c.dp + 1 + _ < _; omega, by have := o.hu; show c.un + Code.cUnits (.builtin "type.__call__" ⟨.ref C :: vs, []⟩) + _ + _ < _; have := tc_units ⟨.ref C :: vs, []⟩; omega⟩, o.hn⟩
    exact enterCode (c := { c with dp := ((c.A env).under (.builtin "type.__call__" ⟨.ref C :: vs, []⟩)).depth, un := ((c.A env).under (.builtin "type.__call__" ⟨.ref C :: vs, []⟩)).units, gd := ((c.A env).under (.builtin "type.__call__" ⟨.ref C :: vs, []⟩)).guards }) (k := fun v m l => v = .none ∧ k (.ref x) m l)
      ns o2.toOkh hf hke ho hcd (hbind x) hns hloc hco hgen hk hcell (fun v s' z => z.st fun h tk m l e S z => ⟨z.1, e ▸ .mk ⟨S.F, S.N, S.D⟩ z.2⟩) (fun _ _ z => z) (fun c' o' e L' _ => h c' ⟨o', e.hn.trans o.hn⟩ L' x dx (fun p hp => lt p (List.mem_append_left _ hp)) lx)
      ⟨F', N', fun p hp q hq => by
        rcases List.mem_cons.mp hq with rfl | hq
        · exact Nat.ne_of_lt (Nat.lt_trans (lt p (List.mem_append_right _ hp)) lx)
        · rcases List.mem_cons.mp hq with rfl | hq
          · exact Nat.ne_of_lt (lt p (List.mem_append_right _ hp))
          · exact S.D p hp q hq⟩)
end
/-- a row: key, move, value, depth, bound, age -/
structure Rw where
  k : Int
  m : Int
  v : Int
  d : Int
  b : Int
  a : Int
/-- within the ranges -/
structure Va (r : Rw) : Prop where
  k0 : 0 ≤ r.k
  m0 : 0 ≤ r.m
  m1 : r.m ≤ 65535
  v0 : -32767 ≤ r.v
  v1 : r.v ≤ 32767
  d0 : -8 ≤ r.d
  d1 : r.d ≤ 247
  b0 : 0 ≤ r.b
  b1 : r.b ≤ 3
  a0 : 0 ≤ r.a
  a1 : r.a ≤ 63
noncomputable def PK (r : Rw) : Int := r.m + 65536 * ((r.v + 32768) + 65536 * ((r.d + 8) + 256 * (r.b + 4 * (r.a + 64 * r.k))))
theorem and_mod (x y : Int) (n : Nat) (h : y = 2 ^ n - 1) : Builtin.bitAnd x y = x % 2 ^ n := by rw [h, kbt_mask]
theorem fdiv_pow {x : Int} {n : Nat} {i : Int} (h : i.toNat = n) : Int.fdiv x (2 ^ i.toNat) = x / 2 ^ n := by rw [h, Int.fdiv_eq_ediv_of_nonneg _ (Int.le_of_lt (kbt_pos n))]
theorem or_add {x y : Int} (n : Nat) (h0 : 0 ≤ x) (h1 : x < 2 ^ n) (q : Int) (hq : 0 ≤ q) (hy : y = q * 2 ^ n) : Builtin.bitOr x y = x + y := by
  have hp := kbt_pos n
  have hy0 : 0 ≤ y := hy ▸ Int.mul_nonneg hq (Int.le_of_lt hp)
  obtain ⟨a, rfl⟩ := Int.eq_ofNat_of_zero_le h0
  obtain ⟨b, rfl⟩ := Int.eq_ofNat_of_zero_le hq
  obtain ⟨y, rfl⟩ := Int.eq_ofNat_of_zero_le hy0
  have e : y = 2 ^ n * b := by
    have : (y : Int) = ((2 ^ n * b : Nat) : Int) := by rw [Int.natCast_mul, kbt_cast, Int.mul_comm, ← hy]
    exact Int.ofNat.inj this
  have ha : a < 2 ^ n := by
    have : (a : Int) < ((2 ^ n : Nat) : Int) := by rw [kbt_cast]; exact h1
    exact Int.ofNat_lt.mp this
  unfold Builtin.bitOr Builtin.bitAnd Builtin.bitNot
  have e1 : decide ((0 : Int) ≤ -Int.ofNat a - 1) = false := by simp; omega
  have e2 : decide ((0 : Int) ≤ -Int.ofNat y - 1) = false := by simp; omega
  rw [show (a : Int) = Int.ofNat a from rfl, show (y : Int) = Int.ofNat y from rfl, e1, e2]
  show -(-(((-(-Int.ofNat a - 1) - 1).toNat ||| (-(-Int.ofNat y - 1) - 1).toNat : Nat) : Int) - 1) - 1 = _
  have z1 : -(-Int.ofNat a - 1) - 1 = Int.ofNat a := by omega
  have z2 : -(-Int.ofNat y - 1) - 1 = Int.ofNat y := by omega
  rw [z1, z2]
  show -(-((a ||| y : Nat) : Int) - 1) - 1 = _
  have z3 : a ||| y = a + y := by rw [Nat.or_comm, e, ← Nat.two_pow_add_eq_or_of_lt ha, Nat.add_comm]
  rw [z3]
  simp
  omega
theorem ed2 {x : Int} (a b n : Nat) (h : n = a + b) : x / 2 ^ n = x / 2 ^ a / 2 ^ b := by
  rw [h, Int.pow_add, Int.ediv_ediv_of_nonneg (Int.le_of_lt (kbt_pos a))]
section
variable {r : Rw}
theorem PK_1 (V : Va r) : PK r / 2 ^ 16 = (r.v + 32768) + 65536 * ((r.d + 8) + 256 * (r.b + 4 * (r.a + 64 * r.k))) ∧ PK r % 2 ^ 16 = r.m :=
  kbt_unique (by decide) rfl V.m0 (by have := V.m1; omega)
theorem PK_2 (V : Va r) : PK r / 2 ^ 32 = (r.d + 8) + 256 * (r.b + 4 * (r.a + 64 * r.k)) ∧ PK r / 2 ^ 16 % 2 ^ 16 = r.v + 32768 := by
  rw [ed2 16 16 32 rfl, (PK_1 V).1]
  exact kbt_unique (by decide) rfl (by have := V.v0; omega) (by have := V.v1; omega)
theorem PK_3 (V : Va r) : PK r / 2 ^ 40 = r.b + 4 * (r.a + 64 * r.k) ∧ PK r / 2 ^ 32 % 2 ^ 8 = r.d + 8 := by
  rw [ed2 32 8 40 rfl, (PK_2 V).1]
  exact kbt_unique (by decide) rfl (by have := V.d0; omega) (by have := V.d1; omega)
theorem PK_4 (V : Va r) : PK r / 2 ^ 42 = r.a + 64 * r.k ∧ PK r / 2 ^ 40 % 2 ^ 2 = r.b := by
  rw [ed2 40 2 42 rfl, (PK_3 V).1]
  exact kbt_unique (by decide) rfl V.b0 (by have := V.b1; omega)
theorem PK_5 (V : Va r) : PK r / 2 ^ 48 = r.k ∧ PK r / 2 ^ 42 % 2 ^ 6 = r.a := by
  rw [ed2 42 6 48 rfl, (PK_4 V).1]
  exact kbt_unique (by decide) rfl V.a0 (by have := V.a1; omega)
theorem PK_m (V : Va r) : Builtin.bitAnd (PK r) 65535 = r.m := (and_mod _ _ 16 (by decide)).trans (PK_1 V).2
theorem PK_v (V : Va r) : Builtin.bitAnd ((PK r).fdiv (2 ^ Int.toNat 16)) 65535 = r.v + 32768 := by
  rw [and_mod _ _ 16 (by decide), fdiv_pow (n := 16) rfl, (PK_2 V).2]
theorem PK_d (V : Va r) : Builtin.bitAnd ((PK r).fdiv (2 ^ Int.toNat 32)) 255 = r.d + 8 := by
  rw [and_mod _ _ 8 (by decide), fdiv_pow (n := 32) rfl, (PK_3 V).2]
theorem PK_b (V : Va r) : Builtin.bitAnd ((PK r).fdiv (2 ^ Int.toNat 40)) 3 = r.b := by
  rw [and_mod _ _ 2 (by decide), fdiv_pow (n := 40) rfl, (PK_4 V).2]
theorem PK_a (V : Va r) : Builtin.bitAnd ((PK r).fdiv (2 ^ Int.toNat 42)) 63 = r.a := by
  rw [and_mod _ _ 6 (by decide), fdiv_pow (n := 42) rfl, (PK_5 V).2]
theorem PK_k (V : Va r) : (PK r).fdiv (2 ^ Int.toNat 48) = r.k := (fdiv_pow (n := 48) rfl).trans (PK_5 V).1
theorem PK_mk {m' : Int} : PK r - r.m + m' = PK { r with m := m' } := by
  unfold PK
  generalize 65536 * (r.v + 32768 + _) = q
  show r.m + q - r.m + m' = m' + q
  omega
theorem PK_nn (V : Va r) : 0 < (r.v + 32768) + 65536 * ((r.d + 8) + 256 * (r.b + 4 * (r.a + 64 * r.k))) ∧ 0 ≤ (r.d + 8) + 256 * (r.b + 4 * (r.a + 64 * r.k)) := by
  have h1 : 0 ≤ r.b + 4 * (r.a + 64 * r.k) := by have := V.k0; have := V.a0; have := V.b0; omega
  have := V.v0; have := V.d0
  omega
theorem PK_pos (V : Va r) : 0 < PK r := by
  have := (PK_nn V).1; have := V.m0
  unfold PK; omega
theorem PK_ne (V : Va r) : PK r ≠ 0 := Int.ne_of_gt (PK_pos V)
theorem or_up {x q y : Int} (n k N : Nat) (hN : N = n + k) (h : 0 ≤ x ∧ x < 2 ^ n) (hq : 0 ≤ q) (hk : q < 2 ^ k) (hy : y = q * 2 ^ n) : Builtin.bitOr x y = x + y ∧ 0 ≤ x + y ∧ x + y < 2 ^ N := by
  have hp := kbt_pos n
  have h1 : 0 ≤ q * 2 ^ n := Int.mul_nonneg hq (Int.le_of_lt hp)
  have h2 : (q + 1) * 2 ^ n ≤ 2 ^ k * 2 ^ n := Int.mul_le_mul_of_nonneg_right (by omega) (Int.le_of_lt hp)
  rw [Int.add_mul, Int.one_mul, Int.mul_comm (2 ^ k), ← Int.pow_add, ← hN] at h2
  subst hy
  exact ⟨or_add n h.1 h.2 q hq rfl, by omega, by omega⟩
theorem PK_or (V : Va r) : Builtin.bitOr (Builtin.bitOr (Builtin.bitOr (Builtin.bitOr (Builtin.bitOr r.m ((r.v + 32767 + 1) * 2 ^ Int.toNat 16)) ((r.d - -8) * 2 ^ Int.toNat 32)) (r.b * 2 ^ Int.toNat 40)) (r.a * 2 ^ Int.toNat 42)) (r.k * 2 ^ Int.toNat 48) = PK r := by
  have h0 : 0 ≤ r.m ∧ r.m < 2 ^ 16 := ⟨V.m0, by have := V.m1; omega⟩
  obtain ⟨e1, h1⟩ := or_up 16 16 32 rfl h0 (q := r.v + 32767 + 1) (by have := V.v0; omega) (by have := V.v1; omega) rfl
  rw [show Int.toNat 16 = 16 from rfl, e1]
  obtain ⟨e2, h2⟩ := or_up 32 8 40 rfl h1 (q := r.d - -8) (by have := V.d0; omega) (by have := V.d1; omega) rfl
  rw [show Int.toNat 32 = 32 from rfl, e2]
  obtain ⟨e3, h3⟩ := or_up 40 2 42 rfl h2 (q := r.b) V.b0 (by have := V.b1; omega) rfl
  rw [show Int.toNat 40 = 40 from rfl, e3]
  obtain ⟨e4, h4⟩ := or_up 42 6 48 rfl h3 (q := r.a) V.a0 (by have := V.a1; omega) rfl
  rw [show Int.toNat 42 = 42 from rfl, e4]
  rw [show Int.toNat 48 = 48 from rfl, or_add 48 h4.1 h4.2 r.k V.k0 rfl]
  unfold PK
  omega
end
/-- what a slot holds -/
noncomputable def slotE (rs : List Rw) (i : Nat) : Int := match rs[i]? with
  | some r => PK r
  | none => 0
/-- worth -/
noncomputable def wv (age : Int) (r : Rw) : Int := r.d - 8 * (age - r.a).fmod 64
/-- f is the first least of ws -/
structure IsAmin (ws : List Int) (n f : Nat) : Prop where
  lt : f < n
  bef : ∀ i, i < f → ws[f]! < ws[i]!
  all : ∀ i, i < n → ws[f]! ≤ ws[i]!
theorem IsAmin.uniq {ws : List Int} {n f g : Nat} (a : IsAmin ws n f) (b : IsAmin ws n g) : f = g := by
  rcases Nat.lt_trichotomy f g with h | h | h
  · have := b.bef _ h; have := a.all _ b.lt; omega
  · exact h
  · have := a.bef _ h; have := b.all _ a.lt; omega
theorem IsAmin.one {ws : List Int} : IsAmin ws 1 0 := ⟨by decide, fun i h => absurd h (by omega), fun i h => by
  have : i = 0 := by omega
  subst this
  exact Int.le_refl _⟩
theorem IsAmin.less {ws : List Int} {n f : Nat} (a : IsAmin ws n f) (h : ws[n]! < ws[f]!) : IsAmin ws (n + 1) n :=
  ⟨by omega, fun i hi => (by have := a.all i hi; omega), fun i hi => by
    rcases Nat.lt_succ_iff_lt_or_eq.mp hi with h1 | rfl
    · have := a.all i h1; omega
    · exact Int.le_refl _⟩
theorem IsAmin.keep {ws : List Int} {n f : Nat} (a : IsAmin ws n f) (h : ¬ ws[n]! < ws[f]!) : IsAmin ws (n + 1) f :=
  ⟨(by have := a.lt; omega), a.bef, fun i hi => by
    rcases Nat.lt_succ_iff_lt_or_eq.mp hi with h1 | rfl
    · exact a.all i h1
    · omega⟩
/-- a cluster after a save -/
def hit (rs : List Rw) (key : Int) (j : Nat) : Prop := (∃ r, rs[j]? = some r ∧ r.k = key) ∧ ∀ i, i < j → ∀ r, rs[i]? = some r → r.k ≠ key
def miss (rs : List Rw) (key : Int) : Prop := ∀ r ∈ rs, r.k ≠ key
/-- the row after it is saved over -/
noncomputable def over (old r : Rw) : Rw := if r.b = 3 ∨ old.a ≠ r.a ∨ old.d - 4 < r.d then { r with m := if r.m = 0 then old.m else r.m } else { old with m := if r.m = 0 then old.m else r.m }
inductive Saved (w : Nat) (rs : List Rw) (r : Rw) : List Rw → Prop
  | hit {j : Nat} {old : Rw} : rs[j]? = some old → old.k = r.k → (∀ i, i < j → ∀ r', rs[i]? = some r' → r'.k ≠ r.k) → Saved w rs r (rs.set j (over old r))
  | new : miss rs r.k → rs.length < w → Saved w rs r (rs ++ [r])
  | out {j : Nat} : miss rs r.k → rs.length = w → IsAmin (rs.map (wv r.a)) w j → Saved w rs r (rs.set j r)
theorem Saved.uniq {w : Nat} {rs a b : List Rw} {r : Rw} (x : Saved w rs r a) (y : Saved w rs r b) : a = b := by
  cases x with
  | hit h1 h2 h3 =>
    rename_i j o
    cases y with
    | hit g1 g2 g3 =>
      rename_i i p
      rcases Nat.lt_trichotomy i j with h | h | h
      · exact absurd g2 (h3 _ h _ g1)
      · subst h; rw [h1] at g1; cases g1; rfl
      · exact absurd h2 (g3 _ h _ h1)
    | new g1 g2 => exact absurd h2 (g1 _ (List.mem_of_getElem? h1))
    | out g1 g2 g3 => exact absurd h2 (g1 _ (List.mem_of_getElem? h1))
  | new h1 h2 =>
    cases y with
    | hit g1 g2 g3 => exact absurd g2 (h1 _ (List.mem_of_getElem? g1))
    | new g1 g2 => rfl
    | out g1 g2 g3 => omega
  | out h1 h2 h3 =>
    cases y with
    | hit g1 g2 g3 => exact absurd g2 (h1 _ (List.mem_of_getElem? g1))
    | new g1 g2 => omega
    | out g1 g2 g3 => rw [h3.uniq g3]
/-- pure expressions: what they give, the state unchanged -/
noncomputable def PI (c : Cx) (env : Env) (m : Mp) (l : Led) (e : Expr) (i : Int) : Prop := ∀ k : Value → Mp → Led → Prop, (∀ t, k (.int i t) m l) → W c env (eval e env) k m l
noncomputable def PV (c : Cx) (env : Env) (m : Mp) (l : Led) (e : Expr) (v : Value) : Prop := ∀ k : Value → Mp → Led → Prop, k v m l → W c env (eval e env) k m l
noncomputable def PT (c : Cx) (env : Env) (m : Mp) (l : Led) (e : Expr) (b : Bool) : Prop := ∀ whole (k : Bool → Mp → Led → Prop), k b m l → W c env (isTrue e env whole) k m l
section
variable {c : Cx} {env : Env} {m : Mp} {l : Led} {a b d e : Expr} {x y z : Int} {p q r : Bool} {op op' : CmpOp} {pos ps : Pos} {u : Nat} {v w : Value}
theorem E_pi {k : Value → Mp → Led → Prop} (h : PI c env m l e x) (z : ∀ t, k (.int x t) m l) : W c env (eval e env) k m l := h k z
theorem E_pv {k : Value → Mp → Led → Prop} (h : PV c env m l e v) (z : k v m l) : W c env (eval e env) k m l := h k z
theorem T_pt {k : Bool → Mp → Led → Prop} {wh : Sem Value} (h : PT c env m l e p) (z : k p m l) : W c env (isTrue e env wh) k m l := h wh k z
theorem PI_v {t : Tok} (h : PV c env m l e (.int x t)) : PI c env m l e x := fun k z => h k (z t)
theorem PI_int : PI c env m l (.Constant (.int x) u pos) x := fun k h => E_int h
theorem PV_none : PV c env m l (.Constant .none u pos) .none := fun k h => E_none h
theorem PV_bool : PV c env m l (.Constant (.bool p) u pos) (.bool p) := fun k h => E_bool h
theorem PV_loc {n : PySem.Str} (hv : m n = some v) (hk : autoParam (env.scope.kind = .function) PySem.W.nameX_K._auto_1) (hl : autoParam (env.kindOf n = some .local) PySem.W.nameX_K._auto_1) (hd : autoParam ((n == ("__debug__" : PySem.Str)) = false) PySem.W.nameX_K._auto_5) : PV c env m l (.Name n pos) v := fun k h => E_local hv h hk hl hd
theorem PI_loc {n : PySem.Str} {t : Tok} (hv : m n = some (.int x t)) (hk : autoParam (env.scope.kind = .function) PySem.W.nameX_K._auto_1) (hl : autoParam (env.kindOf n = some .local) PySem.W.nameX_K._auto_1) (hd : autoParam ((n == ("__debug__" : PySem.Str)) = false) PySem.W.nameX_K._auto_5) : PI c env m l (.Name n pos) x := PI_v (PV_loc hv hk hl hd)
theorem PI_bin {o : Operator} (ha : PI c env m l a x) (hb : PI c env m l b y) (h : ∀ t u (k : Value → Mp → Led → Prop), (∀ t, k (.int z t) m l) → W c env (binaryOp o (.int x t) (.int y u)) k m l) : PI c env m l (.BinOp a o b pos) z := fun k hk =>
  E_binop (ha _ fun t => hb _ fun u => h t u k hk)
theorem PI_add (ha : PI c env m l a x) (hb : PI c env m l b y) : PI c env m l (.BinOp a .Add b pos) (x + y) := PI_bin ha hb fun _ _ _ h => O_add h
theorem PI_sub (ha : PI c env m l a x) (hb : PI c env m l b y) : PI c env m l (.BinOp a .Sub b pos) (x - y) := PI_bin ha hb fun _ _ _ h => O_sub h
theorem PI_and (ha : PI c env m l a x) (hb : PI c env m l b y) : PI c env m l (.BinOp a .BitAnd b pos) (Builtin.bitAnd x y) := PI_bin ha hb fun _ _ _ h => O_and h
theorem PI_or (ha : PI c env m l a x) (hb : PI c env m l b y) : PI c env m l (.BinOp a .BitOr b pos) (Builtin.bitOr x y) := PI_bin ha hb fun _ _ _ h => O_or h
theorem PI_mul (ha : PI c env m l a x) (hb : PI c env m l b y) (h : IntMulOk x y) : PI c env m l (.BinOp a .Mult b pos) (x * y) := PI_bin ha hb fun _ _ _ z => O_mul h z
theorem PI_shr (ha : PI c env m l a x) (hb : PI c env m l b y) (h : 0 ≤ y) : PI c env m l (.BinOp a .RShift b pos) (x.fdiv (2 ^ y.toNat)) := PI_bin ha hb fun _ _ _ z => O_shr h z
theorem PI_shl (ha : PI c env m l a x) (hb : PI c env m l b y) (h : 0 ≤ y) (hs : (Builtin.Int.intBits x : Int) + y ≤ 2 ^ 27) : PI c env m l (.BinOp a .LShift b pos) (x * 2 ^ y.toNat) := PI_bin ha hb fun _ _ _ z => O_shl h hs z
theorem PI_mod (ha : PI c env m l a x) (hb : PI c env m l b y) (h : y ≠ 0) : PI c env m l (.BinOp a .Mod b pos) (x.fmod y) := PI_bin ha hb fun _ _ _ z => O_mod h z
theorem PI_div (ha : PI c env m l a x) (hb : PI c env m l b y) (h : y ≠ 0) (hs : y.natAbs.log2 < 9000) : PI c env m l (.BinOp a .FloorDiv b pos) (x.fdiv y) := PI_bin ha hb fun _ _ _ z => O_div h hs z
theorem PI_pow (ha : PI c env m l a x) (hb : PI c env m l b y) (h : 0 ≤ y) (h1 : y ≤ 1000000) (h2 : x.natAbs < 2 ^ 64) : PI c env m l (.BinOp a .Pow b pos) (x ^ y.toNat) := PI_bin ha hb fun _ _ _ z => fun hh tk S => pow_int_small h h1 h2 (.mk S (z _))
theorem PI_neg (ha : PI c env m l a x) : PI c env m l (.UnaryOp .USub a pos) (-x) := fun k h => E_unary (ha _ fun _ => O_neg h)
theorem PV_lst {s : Addr} {vs : List Value} {n : Nat} (hm : (s, lstO vs n) ∈ l) (ha : PV c env m l a (.ref s)) (hb : PI c env m l b x) (h0 : 0 ≤ x) (h1 : x < 2 ^ 63) (hx : vs[x.toNat]? = some v)
    (hs : autoParam ((fun t => subscripted b false (.ref s) (.int x t)) = fun t => operate [.ref s, .int x t] (getItem (.ref s) (.int x t))) PySem.W.itemI_int._auto_1) : PV c env m l (.Subscript a b pos) v := fun k h => E_sub (ha _ (hb _ fun t => I_lst hm h0 h1 hx h (congrFun hs t)))
theorem PV_tup {s : Addr} {vs : List Value} (hm : (s, tupO vs) ∈ l) (ha : PV c env m l a (.ref s)) (hb : PI c env m l b x) (h0 : 0 ≤ x) (h1 : x < 2 ^ 63) (hx : vs[x.toNat]? = some v)
    (hs : autoParam ((fun t => subscripted b false (.ref s) (.int x t)) = fun t => operate [.ref s, .int x t] (getItem (.ref s) (.int x t))) PySem.W.itemI_int._auto_1) : PV c env m l (.Subscript a b pos) v := fun k h => E_sub (ha _ (hb _ fun t => I_tup hm h0 h1 hx h (congrFun hs t)))
/-- a comparison of ints -/
noncomputable def cmpB (op : CmpOp) (x y : Int) : Bool := match op with
  | .Lt => decide (x < y)
  | .LtE => decide (x ≤ y)
  | .Gt => decide (y < x)
  | .GtE => decide (y ≤ x)
  | .Eq => decide (x = y)
  | _ => decide (x ≠ y)
noncomputable def cmpI (op : CmpOp) : Bool := match op with
  | .Is | .IsNot | .In | .NotIn => false
  | _ => true
theorem cmpB_W {k : Value → Mp → Led → Prop} {t u : Tok} (h : cmpI op = true) (z : k (.bool (cmpB op x y)) m l) : W c env (compareOp op (.int x t) (.int y u)) k m l := match op, h, z with
  | .Lt, _, z => C_lt z
  | .LtE, _, z => C_le z
  | .Gt, _, z => C_gt z
  | .GtE, _, z => C_ge z
  | .Eq, _, z => C_eq z
  | .NotEq, _, z => C_ne z
theorem cmpB_marks (h : cmpI op = true) (e : Expr) : behindInMarks op e = false := match op, h with
  | .Lt, _ | .LtE, _ | .Gt, _ | .GtE, _ | .Eq, _ | .NotEq, _ => by cases e <;> first | rfl | exact Bool.and_eq_false_iff.mpr (.inl (Bool.and_eq_false_iff.mpr (.inr rfl)))
theorem PV_cmp (ha : PI c env m l a x) (hb : PI c env m l b y) (h : cmpI op = true) : PV c env m l (.Compare a [op] [b] pos) (.bool (cmpB op x y)) := fun k z =>
  E_cmp (ha _ fun _ => hb _ fun _ => cmpB_W h z) (cmpB_marks h _)
theorem PT_cmp (ha : PI c env m l a x) (hb : PI c env m l b y) (h : cmpI op = true) : PT c env m l (.Compare a [op] [b] pos) (cmpB op x y) := fun wh k z =>
  T_cmp (ha _ fun _ => hb _ fun _ => cmpB_W h (truthy_bool z)) (cmpB_marks h _)
theorem two_and {k : Bool → Mp → Led → Prop} {G : Mp → Led → Prop} (z : k (p && q) m l) (g : k q m l → G m l) : two G (fun m l => k false m l) p m l := match p, z with
  | true, z => two_true (g z)
  | false, z => two_false z
theorem two_or {k : Bool → Mp → Led → Prop} {G : Mp → Led → Prop} (z : k (p || q) m l) (g : k q m l → G m l) : two (fun m l => k true m l) G p m l := match p, z with
  | true, z => two_true z
  | false, z => two_false (g z)
theorem PV_cmp2 (ha : PI c env m l a x) (hb : PI c env m l b y) (hd : PI c env m l d z) (h : cmpI op = true) (h' : cmpI op' = true) : PV c env m l (.Compare a [op, op'] [b, d] pos) (.bool (cmpB op x y && cmpB op' y z)) := fun k w =>
  E_cmp2 (ha _ fun _ => hb _ fun _ => cmpB_W h (truthy_bool (match cmpB op x y, w with
    | true, w => two_true (hd _ fun _ => cmpB_W h' w)
    | false, w => two_false w))) (cmpB_marks h' _)
theorem PT_cmp2 (ha : PI c env m l a x) (hb : PI c env m l b y) (hd : PI c env m l d z) (h : cmpI op = true) (h' : cmpI op' = true) : PT c env m l (.Compare a [op, op'] [b, d] pos) (cmpB op x y && cmpB op' y z) := fun wh k w =>
  T_cmp2 (ha _ fun _ => hb _ fun _ => cmpB_W h (truthy_bool (two_and w fun w => hd _ fun _ => cmpB_W h' (truthy_bool w)))) (cmpB_marks h' _)
theorem PT_and0 : PT c env m l (.BoolOp .And [] pos) true := fun wh k z => T_and0 z
theorem PT_or0 : PT c env m l (.BoolOp .Or [] pos) false := fun wh k z => T_or0 z
theorem PT_and {es : List Expr} (h : PT c env m l e p) (g : PT c env m l (.BoolOp .And es pos) q) : PT c env m l (.BoolOp .And (e :: es) pos) (p && q) := fun wh k z => T_and (h _ _ (two_and z fun z => g _ _ z))
theorem PT_or {es : List Expr} (h : PT c env m l e p) (g : PT c env m l (.BoolOp .Or es pos) q) : PT c env m l (.BoolOp .Or (e :: es) pos) (p || q) := fun wh k z => T_or (h _ _ (two_or z fun z => g _ _ z))
theorem PT_not (h : PT c env m l e p) : PT c env m l (.UnaryOp .Not e pos) (!p) := fun wh k z => T_not (h _ _ z)
theorem PV_bool1 {o : BoolOp} (h : PV c env m l e (.bool p)) : PV c env m l (.BoolOp o [e] pos) (.bool p) := fun k z => E_bool1 (h _ z)
theorem PV_and {es : List Expr} (h : PV c env m l e (.bool p)) (g : PV c env m l (.BoolOp .And (a :: es) pos) (.bool q)) : PV c env m l (.BoolOp .And (e :: a :: es) pos) (.bool (p && q)) := fun k z =>
  E_and (h _ (truthy_bool (match p, z with
    | true, z => two_true (g _ z)
    | false, z => two_false z)))
theorem PV_or {es : List Expr} (h : PV c env m l e (.bool p)) (g : PV c env m l (.BoolOp .Or (a :: es) pos) (.bool q)) : PV c env m l (.BoolOp .Or (e :: a :: es) pos) (.bool (p || q)) := fun k z =>
  E_or (h _ (truthy_bool (match p, z with
    | true, z => two_true z
    | false, z => two_false (g _ z))))
theorem PV_not (h : PV c env m l e (.bool p)) : PV c env m l (.UnaryOp .Not e pos) (.bool !p) := fun k z => E_unary (h _ (O_not z))
end
section
variable {K : Params → Frag} {P : Program} {c : Cx} {cn : PySem.Str} {cs : Scope} {L a : Addr} {ccd : Value} {cl : List (PySem.Str × Addr)} {m : Mp} {l : Led} {n : Nat}
theorem PV_glob {x : PySem.Str} {pos : Pos} {v : Value} (o : Okh K P c n) (e : nsIn (K c.w.params) mainGlobals x = some (some v)) (hk : autoParam (cs.kind = .function) PySem.W.nameX_K._auto_1) (hx : autoParam ((envX cn cs L a ccd cl).kindOf x = some .globalImplicit) PySem.W.nameX_K._auto_1)
    (hd : autoParam ((x == ("__debug__" : PySem.Str)) = false) PySem.W.nameX_K._auto_5) : PV c (envX cn cs L a ccd cl) m l (.Name x pos) v := fun k h => E_glob o e h hk hx hd
theorem PI_glob {x : PySem.Str} {pos : Pos} {i : Int} {t : Tok} (o : Okh K P c n) (e : nsIn (K c.w.params) mainGlobals x = some (some (.int i t))) (hk : autoParam (cs.kind = .function) PySem.W.nameX_K._auto_1) (hx : autoParam ((envX cn cs L a ccd cl).kindOf x = some .globalImplicit) PySem.W.nameX_K._auto_1)
    (hd : autoParam ((x == ("__debug__" : PySem.Str)) = false) PySem.W.nameX_K._auto_5) : PI c (envX cn cs L a ccd cl) m l (.Name x pos) i := PI_v (PV_glob o e hk hx hd)
theorem PV_cell {x : PySem.Str} {pos : Pos} {b : Addr} {ob : Obj} {v : Value} (hc : cl.lookup x = some b) (hm : (b, ob) ∈ l ++ c.z) (hb : ob.data = .cell (some v)) (hk : autoParam (cs.kind = .function) PySem.W.nameX_K._auto_1) (hx : autoParam ((envX cn cs L a ccd cl).kindOf x = some .cell) PySem.W.nameX_K._auto_1)
    (hd : autoParam ((x == ("__debug__" : PySem.Str)) = false) PySem.W.nameX_K._auto_5) : PV c (envX cn cs L a ccd cl) m l (.Name x pos) v := fun k h => E_cell hc hm hb h hk hx hd
end
theorem two_on {G H : Mp → Led → Prop} {b : Bool} {m : Mp} {l : Led} (h : b = true) (x : G m l) : two G H b m l := h ▸ two_true x
theorem two_off {G H : Mp → Led → Prop} {b : Bool} {m : Mp} {l : Led} (h : b = false) (x : H m l) : two G H b m l := h ▸ two_false x
theorem two_if {G H : Mp → Led → Prop} {b : Bool} {p : Prop} {m : Mp} {l : Led} (h : b = true ↔ p) (x : p → G m l) (y : ¬ p → H m l) : two G H b m l := ⟨fun e => x (h.mp e), fun e => y fun q => by rw [h.mpr q] at e; cases e⟩
/-- what is behind may be dropped at the end -/
theorem W.shed {α : Type} {c : Cx} {env : Env} {t : Sem α} {k : α → Mp → Led → Prop} {m : Mp} {l : Led} (x : W c env t (fun a m l' => ∃ l₂, (∀ p ∈ l₂, p ∈ l') ∧ k a m l₂) m l) : W c env t k m l := fun h tk S =>
  x.to S fun a s y => y.st fun h tk m l e S z => z.elim fun l₂ z => .fin h tk m l₂ e (S.drop z.1) z.2
/-- a part is set aside -/
theorem W.frame {α : Type} {c : Cx} {env : Env} {t : Sem α} {k : α → Mp → Led → Prop} {m : Mp} {l : Led} (l₁ z : Led) (h1 : ∀ p ∈ l₁, p ∈ l) (h2 : ∀ p ∈ z, p ∈ l) (hd : ∀ p ∈ z, ∀ q ∈ l₁, p.1 ≠ q.1)
    (x : W { c with z := z ++ c.z } env t (fun a m l' => (∀ p ∈ z, ∀ q ∈ l', p.1 ≠ q.1) → k a m (l' ++ z)) m l₁) : W c env t k m l := fun h tk S =>
  wpAny_mono (x h tk ⟨S.F, fun p hp => S.N p (by
      rcases List.mem_append.mp hp with q | q
      · exact List.mem_append_left _ (h1 _ q)
      · rcases List.mem_append.mp q with q | q
        · exact List.mem_append_left _ (h2 _ q)
        · exact List.mem_append_right _ q), fun p hp q hq => (List.mem_append.mp hp).elim (fun w => hd p w q hq) fun w => S.D p w q (h1 _ hq)⟩) (fun a s y => y.st fun h' tk' m' l' e S' z' => by
    refine .fin h' tk' m' (l' ++ z) e ⟨S'.F, fun p hp => S'.N p (by simpa only [List.append_assoc] using hp), fun p hp q hq => ?_⟩ (z' fun p hp => S'.D p (List.mem_append_left _ hp))
    rcases List.mem_append.mp hq with w | w
    · exact S'.D p (List.mem_append_right _ hp) q w
    · exact S.D p hp q (h2 _ w)) fun _ _ e => e
structure Clu (vs : List Value) (start w : Nat) (rs : List Rw) : Prop where
  le : rs.length ≤ w
  va : ∀ r ∈ rs, Va r
  at_ : ∀ i, i < w → ∃ t, vs[start + i]? = some (.int (slotE rs i) t)
  sm : start + w ≤ 1000
theorem slotE_some {rs : List Rw} {i : Nat} {r : Rw} (h : rs[i]? = some r) : slotE rs i = PK r := by unfold slotE; rw [h]
theorem slotE_none {rs : List Rw} {i : Nat} (h : rs[i]? = none) : slotE rs i = 0 := by unfold slotE; rw [h]
theorem slot_hit {rs : List Rw} {key : Int} {i : Nat} (va : ∀ r ∈ rs, Va r) : (cmpB .NotEq (slotE rs i) 0 && (cmpB .Eq ((slotE rs i).fdiv (2 ^ Int.toNat 48)) key && true)) = true ↔ ∃ r, rs[i]? = some r ∧ r.k = key := by
  rw [Bool.and_true, Bool.and_eq_true]
  refine Iff.trans (and_congr decide_eq_true_iff decide_eq_true_iff) ?_
  cases h : rs[i]? with
  | none =>
    rw [slotE_none h]
    exact ⟨fun e => absurd rfl e.1, fun ⟨_, e, _⟩ => nomatch e⟩
  | some r =>
    have V := va r (List.mem_of_getElem? h)
    rw [slotE_some h, PK_k V]
    exact ⟨fun e => ⟨r, rfl, e.2⟩, fun ⟨_, e, e'⟩ => ⟨PK_ne V, by cases e; exact e'⟩⟩
theorem slot_zero {rs : List Rw} {i : Nat} (va : ∀ r ∈ rs, Va r) : cmpB .Eq (slotE rs i) 0 = true ↔ rs.length ≤ i := by
  refine Iff.trans decide_eq_true_iff ?_
  cases h : rs[i]? with
  | none => exact ⟨fun _ => List.getElem?_eq_none_iff.mp h, fun _ => slotE_none h⟩
  | some r =>
    rw [slotE_some h]
    exact ⟨fun e => absurd e (PK_ne (va r (List.mem_of_getElem? h))), fun e => by rw [List.getElem?_eq_none_iff.mpr e] at h; cases h⟩
/-- nothing is handled, or an exception without a context -/
def Hd (A : Around) (h : Heap) : Prop := A.handled = none ∨ ∃ e oe ws, A.handled = some (.ref e) ∧ h.get? e = some oe ∧ oe.data = .fields ws ∧ ws[2]? = some .none
section
variable {prog : Program} {w : World} {A : Around} {E : Value → Shared → Prop} {s : Shared}
theorem entry_unchain : entryFor table "proto.unchain" = some Builtin.«proto.unchain» := entryFor_of_tree (by kernel_rfl)
theorem raise_new {α : Type} {a : Addr} {o : Obj} {vs : Array Value} {Q : α → Shared → Prop} (H : Hd A s.heap) (ho : s.heap.get? a = some o) (hd : o.data = .fields vs) (hz : 2 < vs.size) (hf : ∀ e, A.handled = some (.ref e) → e ≠ a)
    (h : ∀ h', Heap.SameBut a s.heap h' → (∃ o', h'.get? a = some o' ∧ o'.cls = o.cls) → E (.ref a) { s with heap := h' }) : wpAny (model prog w) A (raiseNew (.ref a) : Sem α) Q E s := by
  simp only [raiseNew]
  refine wpAny_bind (wpAny_handled ?_)
  rcases H with hh | ⟨e, oe, ws, hh, he, hde, h2⟩
  · rw [hh]
    exact wpAny_bind (wpAny_pure (wpAny_throw (h _ (Heap.SameBut.refl ..) ⟨o, ho, rfl⟩)))
  · rw [hh]
    have ne := hf e hh
    show wpAny _ _ (if (Value.ref e != Value.ref a) = true then _ else _) _ _ _
    rw [if_pos (show (Value.ref e != Value.ref a) = true from by simpa using ne)]
    refine wpAny_bind (wpAny_holding (wpAny_runValue (codeAny_builtin entry_unchain ?_)))
    show wpAny _ _ (field (.ref e) 2 >>= _) _ _ _
    refine wpAny_bind (wpAny_field he hde h2 ?_)
    rw [if_pos (show (Value.none == Value.none) = true from rfl)]
    refine wpAny_bind (wpAny_pure (wpAny_pure ?_))
    refine wpAny_bind (wpAny_setField (s := s) ho hd hz ?_)
    exact wpAny_throw (h _ (Heap.SameBut.update ..) ⟨_, Heap.get?_update_self _ ho (Obj.isFreed_of_fields (Obj.data_mapFields hd _)), Obj.cls_mapFields ..⟩)
theorem next_end {it t : Addr} {i : Nat} {items} {Q : Option Value → Shared → Prop} (H : Hd A s.heap) (hi : ∀ e, A.handled = some (.ref e) → e ≠ it)
    (hit : IsTupIter s.heap it t i) (ht : IsTup s.heap t items) (hx : items[i]? = none)
    (hQ : ∀ h', Heap.ExtBut it s.heap h' → Q none { s with heap := h' }) : wpAny (model prog w) A (pyNext (.ref it)) Q E s := by
  obtain ⟨o, ho, hc, hd⟩ := id hit
  obtain ⟨ol, hol, _, nl, hdl⟩ := ht
  unfold pyNext
  refine wpAny_bind (wpAny_attempt (wpAny_callSpecial?_slot (name := Str.ofString "__next__") hit.typeIs PySem.F.slot_tuple_iterator_next
    (wpAny_call_entry PySem.F.slot_tuple_iterator_next hit.typeIs PySem.F.entry_tuple_iterator_next ?_ (PySem.F.args_tuple_iterator_next_1 _))))
  show wpAny _ _ (field (.ref it) 0 >>= _) _ _ s
  refine wpAny_bind (wpAny_field ho hd (x := .ref t) rfl ?_)
  show wpAny _ _ (if (Value.ref t == Value.none) = true then _ else _) _ _ s
  rw [if_neg (show ¬ ((Value.ref t == Value.none) = true) from Bool.false_ne_true)]
  show wpAny _ _ (field (.ref it) 1 >>= _) _ _ s
  refine wpAny_bind (wpAny_field ho hd (x := .int i 0) rfl ?_)
  show wpAny _ _ (seqItems? (.ref t) >>= _) _ _ s
  refine wpAny_bind (wpAny_seqItems hol hdl ?_)
  simp only [Int.toNat_natCast, hx]
  refine wpAny_bind (wpAny_rule (wpAny_bind (wpAny_setField ho hd (by simp) ?_)))
  show wpAny _ _ (newExc (.type "StopIteration") [] >>= _) _ _ _
  refine wpAny_bind ?_
  simp only [newExc, newTuple]
  refine wpAny_bind (wpAny_newObj_type ?_ (by size_fits))
  refine wpAny_bind (m := firstArgMember _ _) (wpAny_of_eq (a := Value.none) (by first | rfl | (simp only [firstArgMember]; rfl)) ?_)
  refine wpAny_newObj_type ?_ (by size_fits)
  have lt : ∀ e, A.handled = some (.ref e) → e < s.heap.objs.size := fun e hh => by
    rcases H with q | ⟨e', oe, ws, hh', he, _⟩
    · have := q.symm.trans hh; cases this
    · have := hh'.symm.trans hh
      cases this
      exact Heap.lt_size he
  refine raise_new ?_ (Heap.get?_push_size _ rfl) rfl (by simp; omega) (fun e hh => Nat.ne_of_lt (by simp only [Heap.size_push, Heap.size_after_update]; exact Nat.lt_succ_of_lt (lt e hh))) fun h' hs ⟨o', ho', hc'⟩ => ?_
  · rcases H with q | ⟨e, oe, ws, hh, he, hde, h2⟩
    · exact .inl q
    · exact .inr ⟨e, oe, ws, hh, Heap.get?_push_of_some _ (Heap.get?_push_of_some _ ((Heap.get?_update_other _ _ (Ne.symm (hi e hh))).trans he)), hde, h2⟩
  refine wpAny_bind (wpAny_isInstance (T := "StopIteration") (b := true) (show ∃ o, _ ∧ _ from ⟨_, ho', hc'⟩) isSubtype_stop ?_)
  refine wpAny_pure (hQ _ fun b o hb e => ?_)
  have e1 : b < s.heap.objs.size := Heap.lt_size e
  exact (hs.2 b (Nat.ne_of_lt (by simp only [Heap.size_push, Heap.size_after_update]; exact Nat.lt_succ_of_lt e1))).trans (((Heap.SameBut.update ..).extBut.push _).push _ b o hb e)
theorem assign_tup {env : Env} {elts : List Expr} {x1} {pos : Pos} {t : Addr} {items : Array Value} {Q : Unit → Shared → Prop} (H : Hd A s.heap) (ht : IsTup s.heap t items)
    (hn : (assignEach elts env).length = items.size) (hstar : (assignEach elts env).findIdx? (·.1) = none)
    (h : ∀ h', Heap.ExtBut s.heap.objs.size s.heap h' → wpAny (model prog w) A (assignInOrder ((assignEach elts env).map (·.2)) items.toList) Q E { s with heap := h' }) :
    wpAny (model prog w) A (assign (.Tuple elts x1 pos) env (.ref t)) Q E s := by
  rw [PyProof.Rows.assign_Tuple]
  refine wpAny_bind (wpAny_standAt ?_)
  unfold unpack
  rw [hn, hstar]
  have hlt : t ≠ s.heap.objs.size := by obtain ⟨o, ho, _⟩ := ht; exact Nat.ne_of_lt (Heap.lt_size ho)
  refine wpAny_bind (wpAny_holding ?_)
  unfold unpackItems
  refine wpAny_bind ?_
  unfold notIterableAtAll
  refine wpAny_bind (wpAny_specialOf ht.typeIs slot_tuple_iter.lookup ?_)
  refine wpAny_pure ?_
  simp only [Bool.false_eq_true, if_false]
  refine wpAny_bind (wpAny_holding (iter_tuple ht ?_))
  refine wpAny_bind (wpAny_holding (draw_tuple hlt items.size 0 _ _ ⟨_, Heap.get?_push_size _ rfl, rfl, rfl⟩ (ht.push _) (by omega) fun h₁ hit₁ hs₁ => ?_))
  have hall : List.take items.size (List.drop 0 items.toList) = items.toList := by
    rw [List.drop_zero]; exact List.take_of_length_le (by simp)
  rw [hall]
  rw [if_neg (by simp)]
  have ht₁ : IsTup h₁ t items := (ht.push _).extBut hs₁.extBut hlt
  have ne : ∀ e oe, s.heap.get? e = some oe → e ≠ s.heap.objs.size := fun e oe he => Nat.ne_of_lt (Heap.lt_size he)
  have H₁ : Hd A h₁ := by
    rcases H with q | ⟨e, oe, ws, hh, he, r⟩
    · exact .inl q
    · exact .inr ⟨e, oe, ws, hh, (hs₁.2 e (ne e oe he)).trans (Heap.get?_push_of_some _ he), r⟩
  refine wpAny_bind (wpAny_holding (next_end (s := { s with heap := h₁ }) H₁ (fun e hh => ?_) hit₁ ht₁ (by simp) fun h₂ he₂ => ?_))
  · rcases H with q | ⟨e', oe, ws, hh', he, _⟩
    · have := q.symm.trans hh; cases this
    · have := hh'.symm.trans hh
      cases this
      exact ne _ _ he
  simp only [Option.isSome_none, Bool.false_eq_true, if_false]
  refine wpAny_pure (h h₂ fun b o hb e => he₂ b o hb (hs₁.extBut b o hb (Heap.get?_push_of_some _ e)))
end
section
variable {K : Params → Frag} {P : Program} {c : Cx} {env : Env} {m : Mp} {l : Led} {n q : Nat} {x dx C : Addr} {es : List DictEntry} {name : PySem.Str} {v : Value}
theorem G_attr {k : Value → Mp → Led → Prop} {attr : Option Value} (o : Ok K P c q) (h1 : (x, instObj C dx) ∈ l) (h2 : (dx, dictOf es n) ∈ l) (hg : plainGet (K c.w.params) C name = true) (hh : hasDictIn (K c.w.params) C = true)
    (ha : findIn (K c.w.params) (.ref C) name = some attr) (hn : noGet (K c.w.params) attr = true) (hl : getL name es = some (some v)) (hv : handedIn v = true) (z : k v m l) : W c env (getAttr (.ref x) name true) k m l := fun h tk S =>
  get_own S.F o.X (InstAt.of_news S.N (List.mem_append_left _ h1) (List.mem_append_left _ h2)) hg hh ha hn hl hv (.mk S z)
theorem PV_attr {np u : Pos} {nm : PySem.Str} {attr : Option Value} (o : Ok K P c q) (h1 : (x, instObj C dx) ∈ l) (h2 : (dx, dictOf es n) ∈ l) (hx : PV c env m l (.Name nm np) (.ref x)) (hg : plainGet (K c.w.params) C name = true) (hh : hasDictIn (K c.w.params) C = true)
    (ha : findIn (K c.w.params) (.ref C) name = some attr) (hn : noGet (K c.w.params) attr = true) (hl : getL name es = some (some v)) (hv : handedIn v = true) : PV c env m l (.Attribute (.Name nm np) name u) v := fun k z =>
  E_attr (hx _ (G_attr o h1 h2 hg hh ha hn hl hv z))
theorem U_attr {k : Unit → Mp → Led → Prop} (o : Ok K P c q) (h1 : (x, instObj C dx) ∈ l) (h2 : (dx, dictOf es n) ∈ l) (hs : findIn (K c.w.params) (.ref C) "__setattr__" = some (some (.builtin "object.__setattr__"))) (hp : plainOver (K c.w.params) C = true)
    (ht : takerIn (K c.w.params) C name = some none) (hh : hasDictIn (K c.w.params) C = true) (hl : (getL name es).isSome = true) (hz : ∀ hsh key, (putL name hsh key v es).length ≤ 1000)
    (z : ∀ hsh t, k () m (put dx (dictOf (putL name hsh (.str name t) v es) (putN name es n)) l)) : W c env (setAttr (.ref x) name v) k m l := fun h tk S =>
  set_dict S.F o.X (S.front h2).N (InstAt.of_news S.N (List.mem_append_left _ h1) (List.mem_append_left _ h2)) rfl hs hp ht hh hl rfl (S.off h2) (hz _ _) fun h' F' N' => .mk (S.put h2 F' N') (z _ _)
theorem G_meth {pl : Sem Bool} {f : Addr} {k : Value × List Value → Mp → Led → Prop} (o : Ok K P c q) (h1 : (x, instObj C dx) ∈ l) (h2 : (dx, dictOf es n) ∈ l) (hg : plainGet (K c.w.params) C name = true)
    (hf : findIn (K c.w.params) (.ref C) name = some (some (.ref f))) (ht : isFn (K c.w.params) (.ref f) = true) (hl : getL name es = some none) (z : k (.ref f, [.ref x]) m l) : W c env (getMethod (.ref x) name pl) k m l := fun h tk S =>
  method_inst S.F o.X (InstAt.of_news S.N (List.mem_append_left _ h1) (List.mem_append_left _ h2)) hg hf ht hl (.mk S z)
theorem G_lst {a : Addr} {vs : List Value} {id : String} {pl : Sem Bool} {k : Value × List Value → Mp → Led → Prop} (slot : Slot "list" name id) (hty : typeOf (.builtin id) = pure (.type "method_descriptor")) (hm : (a, lstO vs n) ∈ l)
    (z : k (.builtin id, [.ref a]) m l) : W c env (getMethod (.ref a) name pl) k m l := fun h tk S =>
  getMethod_list_of slot hty (S.isList hm) ⟨_, S.get hm, rfl⟩ (.mk S z)
theorem G_append {a : Addr} {vs : List Value} {pl : Sem Bool} {k : Value × List Value → Mp → Led → Prop} (hm : (a, lstO vs n) ∈ l) (z : k (.builtin "list.append", [.ref a]) m l) : W c env (getMethod (.ref a) "append" pl) k m l := G_lst PySem.F.slot_list_append PySem.F.type_list_append hm z
theorem G_insert {a : Addr} {vs : List Value} {pl : Sem Bool} {k : Value × List Value → Mp → Led → Prop} (hm : (a, lstO vs n) ∈ l) (z : k (.builtin "list.insert", [.ref a]) m l) : W c env (getMethod (.ref a) "insert" pl) k m l := G_lst PySem.F.slot_list_insert PySem.F.type_list_insert hm z
theorem G_index {a : Addr} {vs : List Value} {pl : Sem Bool} {k : Value × List Value → Mp → Led → Prop} (hm : (a, lstO vs n) ∈ l) (z : k (.builtin "list.index", [.ref a]) m l) : W c env (getMethod (.ref a) "index" pl) k m l := G_lst PySem.F.slot_list_index PySem.F.type_list_index hm z
end
/-! names bound from a tuple -/
section
variable {c : Cx} {env : Env} {m : Mp} {l : Led} {k : Unit → Mp → Led → Prop}
theorem X_nil {vs : List Value} (z : k () m l) : W c env (assignInOrder ((assignEach [] env).map (·.2)) vs) k m l := fun h tk S => wpAny_pure (.mk S z)
theorem X_cons {x : PySem.Str} {p : Pos} {es : List Expr} {v : Value} {vs : List Value} (z : W c env (assignInOrder ((assignEach es env).map (·.2)) vs) k (fun y => if y = x then some v else m y) l)
    (hk : autoParam (env.scope.kind = .function) PySem.W.nameX_K._auto_1) (hl : autoParam (env.kindOf x = some .local) PySem.W.nameX_K._auto_1) : W c env (assignInOrder ((assignEach (.Name x p :: es) env).map (·.2)) (v :: vs)) k m l := fun h tk S => by
  show wpAny _ _ (assignInOrder (assign (.Name x p) env :: (assignEach es env).map (·.2)) (v :: vs)) _ _ _
  refine assignInOrder_cons (wpAny_assign_Name ?_)
  exact wpAny_mono (storeName_W (c := c) (k := fun _ m l => W c env (assignInOrder ((assignEach es env).map (·.2)) vs) k m l) z hk hl h tk S) (fun _ s y => y.st fun h tk m l e S z => Kq.run' h tk m l e S z) fun _ _ e => e
/-- nothing is handled, or an exception without a context that the ledger holds -/
def HdC (c : Cx) (l : Led) : Prop := c.hn = none ∨ ∃ e oe ws, c.hn = some (.ref e) ∧ (e, oe) ∈ l ++ c.z ∧ oe.data = .fields ws ∧ ws[2]? = some .none
theorem HdC.to {h : Heap} (H : HdC c l) (S : St c env h m l) : Hd (c.A env) h := by
  rcases H with q | ⟨e, oe, ws, q, hm, r⟩
  · exact .inl q
  · exact .inr ⟨e, oe, ws, q, (S.N _ hm).1, r⟩
theorem X_tup {elts : List Expr} {kk : Nat} {pos : Pos} {t : Addr} {vs : List Value} (H : HdC c l) (hm : (t, tupO vs) ∈ l) (hn : (assignEach elts env).length = vs.length) (hst : (assignEach elts env).findIdx? (·.1) = none)
    (z : W c env (assignInOrder ((assignEach elts env).map (·.2)) vs) k m l) : W c env (assign (.Tuple elts kk pos) env (.ref t)) k m l := fun h tk S =>
  assign_tup (H.to S) (S.isTup hm) (by simpa using hn) hst fun h' he => z h' tk ⟨S.F.extBut he (Nat.le_refl _), S.N.extBut he (Nat.le_refl _), S.D⟩
end
/-! list comprehensions -/
section
variable {K : Params → Frag} {P : Program} {c : Cx} {env : Env} {m m₂ : Mp} {l : Led} {n : Nat} {scope : Scope} {cl : List (PySem.Str × Addr)} {C : Addr} {oC : Obj} {x : PySem.Str} {pos : Pos} {v : Value}
theorem V_own {k : Value → Mp → Led → Prop} (hm : (C, oC) ∈ l ++ c.z) (hC : LCg.NsObj oC m₂) (hx : m₂ x = some v) (z : k v m l) (hk : autoParam ((compEnvC scope cl C env).scope.kind = .function) PySem.W.nameX_K._auto_1) (hl : autoParam ((compEnvC scope cl C env).kindOf x = some .local) PySem.W.nameX_K._auto_1) (hd : autoParam ((x == ("__debug__" : PySem.Str)) = false) PySem.W.nameX_K._auto_5) :
    W c env (eval (.Name x pos) (compEnvC scope cl C env)) k m l := fun h tk S => LCgL.ld_own S.N hm hC hx (.mk S z) hk hl hd
theorem V_glob {k : Value → Mp → Led → Prop} (o : Ok K P c n) (e : nsIn (K c.w.params) mainGlobals x = some (some v)) (z : k v m l) (hg : autoParam (env.globals = mainGlobals) PySem.W.nameX_K._auto_1) (hk : autoParam ((compEnvC scope cl C env).scope.kind = .function) PySem.W.nameX_K._auto_1) (hl : autoParam ((compEnvC scope cl C env).kindOf x = some .globalImplicit) PySem.W.nameX_K._auto_1) (hd : autoParam ((x == ("__debug__" : PySem.Str)) = false) PySem.W.nameX_K._auto_5) :
    W c env (eval (.Name x pos) (compEnvC scope cl C env)) k m l := fun h tk S => LCgL.ld_global S.F o.X o.T e (.mk S z) hg hk hl hd
theorem V_cell {k : Value → Mp → Led → Prop} {b : Addr} {ob : Obj} (hc : cl.lookup x = some b) (hm : (b, ob) ∈ l ++ c.z) (ho : ob.data = .cell (some v)) (z : k v m l) (hk : autoParam ((compEnvC scope cl C env).scope.kind = .function) PySem.W.nameX_K._auto_1) (hl : autoParam ((compEnvC scope cl C env).kindOf x = some .cell) PySem.W.nameX_K._auto_1) (hd : autoParam ((x == ("__debug__" : PySem.Str)) = false) PySem.W.nameX_K._auto_5) :
    W c env (eval (.Name x pos) (compEnvC scope cl C env)) k m l := fun h tk S => lcf_cell S.N hc hm ho (.mk S z) hk hl hd
end
section
variable {K : Params → Frag} {P : Program} {c : Cx} {env : Env} {m : Mp} {n : Nat} {scope : Scope} {cl : List (PySem.Str × Addr)} {x : PySem.Str} {ct elt : Expr}
/-- the context of a turn -/
structure Turn (c c' : Cx) (C : Addr) (m₂ : Mp) : Prop where
  cell : ∃ oC, (C, oC) ∈ c'.z ∧ LCg.NsObj oC m₂
  keep : ∀ p ∈ c.z, p ∈ c'.z
theorem off3_z {c : Cx} {I C D : Addr} {oI oC oD : Obj} {l : Led} (off : LCg.Off3 I C D (l ++ c.z)) (D' : ∀ p ∈ c.z, ∀ q ∈ l, p.1 ≠ q.1) : ∀ p ∈ (I, oI) :: (C, oC) :: (D, oD) :: c.z, ∀ q ∈ l, p.1 ≠ q.1 := fun p hp q hq => by
  have w := off.mem q (List.mem_append_left _ hq)
  rcases List.mem_cons.mp hp with rfl | hp
  · exact Ne.symm w.1
  · rcases List.mem_cons.mp hp with rfl | hp
    · exact Ne.symm w.2.1
    · rcases List.mem_cons.mp hp with rfl | hp
      · exact Ne.symm w.2.2
      · exact D' p hp q hq
theorem front3 {α : Type} {a b d : α} {l z : List α} : ∀ p ∈ l ++ a :: b :: d :: z, p ∈ a :: b :: d :: (l ++ z) := fun p hp => by
  simp only [List.mem_append, List.mem_cons] at hp ⊢
  rcases hp with h | h | h | h | h
  · exact .inr (.inr (.inr (.inl h)))
  · exact .inl h
  · exact .inr (.inl h)
  · exact .inr (.inr (.inl h))
  · exact .inr (.inr (.inr (.inr h)))
theorem back3 {α : Type} {a b d : α} {l z : List α} : ∀ p ∈ a :: b :: d :: (l ++ z), p ∈ l ++ a :: b :: d :: z := fun p hp => by
  simp only [List.mem_append, List.mem_cons] at hp ⊢
  rcases hp with h | h | h | h | h
  · exact .inr (.inl h)
  · exact .inr (.inr (.inl h))
  · exact .inr (.inr (.inr (.inl h)))
  · exact .inl h
  · exact .inr (.inr (.inr (.inr h)))
theorem end3 {c : Cx} {env : Env} {m : Mp} {I C D : Addr} {oI oC oD : Obj} {s : Shared} {S : Led → Prop} {rest : Value → Led → Prop} {y : Value} {h : Heap} {tk : Nat} {l : Led} (St' : St (c.q ((I, oI) :: (C, oC) :: (D, oD) :: c.z)) env h m l)
    (hS : S (l ++ c.z)) (r : (∀ p ∈ c.z, ∀ q ∈ l, p.1 ≠ q.1) → rest y (l ++ c.z)) (off : LCg.Off3 I C D c.z) (hs : (c.q ((I, oI) :: (C, oC) :: (D, oD) :: c.z)).S h tk = { s with heap := h, toks := tk }) : LCg.CompEnd c.h₀ env.locals m s I oI C oC D oD S rest y { s with heap := h, toks := tk } :=
  ⟨h, tk, l ++ c.z, rfl, St'.F, fun p hp => St'.N p (back3 p hp), .of fun p hp => by
    rcases List.mem_append.mp hp with q | q
    · exact ⟨Ne.symm (St'.D (I, oI) (.head _) p q), Ne.symm (St'.D (C, oC) (.tail _ (.head _)) p q), Ne.symm (St'.D (D, oD) (.tail _ (.tail _ (.head _))) p q)⟩
    · exact off.mem p q, hS, r fun p hp q hq => St'.D p (.tail _ (.tail _ (.tail _ hp))) q hq⟩
theorem off_z {I C D : Addr} {l z : Led} (h : LCg.Off3 I C D (l ++ z)) : LCg.Off3 I C D z := .of fun p hp => h.mem p (List.mem_append_right _ hp)
theorem rest_U (o : Ok K P c n) {g : Heap} {tk₀ : Nat} {N : Nat} {J : Nat → List Value → Led → Prop} {S : Led → Prop} {Pv : Nat → Value → Prop} {Fin : List Value → Led → Prop} (hS : ∀ i ys l, J i ys l → S (l ++ c.z))
    (turn : ∀ c', Ok K P c' n → ∀ i v ys l₁ C m₂, i < N → Pv i v → J i ys l₁ → m₂ x = some v → Turn c c' C m₂ → W c' env (eval elt (compEnvC scope cl C env)) (fun y m' l' => m' = m ∧ J (i + 1) (ys ++ [y]) l') m l₁)
    (fin : ∀ ys l, J N ys l → (∀ p ∈ c.z, ∀ q ∈ l, p.1 ≠ q.1) → Fin ys (l ++ c.z)) :
    ∀ k i ys l, i + k = N → J i ys l → (∀ p ∈ c.z, ∀ q ∈ l, p.1 ≠ q.1) → LCg.CompRest c.prog c.w (c.A env) c.h₀ env.locals m env elt x scope cl (c.S g tk₀) S Pv Fin k i ys (l ++ c.z)
  | 0, i, ys, l, e, hJ, D => .zero (fin ys l (by rw [Nat.add_zero] at e; exact e ▸ hJ) D)
  | k + 1, i, ys, l, e, hJ, D => .succ fun v I oI C oC Dd m₂ h tk E' hv hC hx F Nw off ne => by
    have st : St (c.q ((I, oI) :: (C, oC) :: (Dd, LCg.lst ys) :: c.z)) env h m l := ⟨F, fun p hp => Nw p (front3 p hp), off3_z off D⟩
    refine wpAny_mono (turn _ (o.q _) i v ys l C m₂ (by omega) hv hJ hx ⟨⟨oC, .tail _ (.head _), hC⟩, fun p hp => .tail _ (.tail _ (.tail _ hp))⟩ h tk st) (fun y s₂ z => z.st fun h₂ tk₂ m' l' es S₂ z => ?_) fun _ _ e => e.elim
    obtain ⟨em, w⟩ := z
    subst es
    exact end3 (em ▸ S₂) (hS _ _ _ w) (rest_U o hS turn fin k (i + 1) _ l' (by omega) w) (off_z off) rfl
theorem rest_T (o : Ok K P c n) {g : Heap} {tk₀ : Nat} {N : Nat} {J : Nat → List Value → Led → Prop} {S : Led → Prop} {Pv : Nat → Value → Prop} {Fin : List Value → Led → Prop} (hS : ∀ i ys l, J i ys l → S (l ++ c.z))
    (turn : ∀ c', Ok K P c' n → ∀ i v ys l₁ C m₂, i < N → Pv i v → J i ys l₁ → m₂ x = some v → Turn c c' C m₂ → W c' env (isTrue ct (compEnvC scope cl C env) (eval ct (compEnvC scope cl C env)))
      (two (W c' env (eval elt (compEnvC scope cl C env)) (fun y m' l' => m' = m ∧ J (i + 1) (ys ++ [y]) l')) (fun m' l' => m' = m ∧ J (i + 1) ys l')) m l₁)
    (fin : ∀ ys l, J N ys l → (∀ p ∈ c.z, ∀ q ∈ l, p.1 ≠ q.1) → Fin ys (l ++ c.z)) :
    ∀ k i ys l, i + k = N → J i ys l → (∀ p ∈ c.z, ∀ q ∈ l, p.1 ≠ q.1) → LCt.CompRestT c.prog c.w (c.A env) c.h₀ env.locals m env ct elt x scope cl (c.S g tk₀) S Pv Fin k i ys (l ++ c.z)
  | 0, i, ys, l, e, hJ, D => .zero (fin ys l (by rw [Nat.add_zero] at e; exact e ▸ hJ) D)
  | k + 1, i, ys, l, e, hJ, D => .succ fun v I oI C oC Dd m₂ h tk E' hv hC hx F Nw off ne => by
    have st : St (c.q ((I, oI) :: (C, oC) :: (Dd, LCg.lst ys) :: c.z)) env h m l := ⟨F, fun p hp => Nw p (front3 p hp), off3_z off D⟩
    refine wpAny_mono (turn _ (o.q _) i v ys l C m₂ (by omega) hv hJ hx ⟨⟨oC, .tail _ (.head _), hC⟩, fun p hp => .tail _ (.tail _ (.tail _ hp))⟩ h tk st) (fun b s₂ z0 => z0.ite (fun h₂ tk₂ m' l' es S₂ z1 => ?_) (fun h₂ tk₂ m' l' es S₂ z1 => ?_)) fun _ _ e => e.elim
    · subst es
      refine wpAny_mono (z1 h₂ tk₂ S₂) (fun y s₃ z2 => z2.st fun h₃ tk₃ m₃ l₃ es S₃ z3 => ?_) fun _ _ e => e.elim
      obtain ⟨em, w⟩ := z3
      subst es
      exact end3 (em ▸ S₃) (hS _ _ _ w) (rest_T o hS turn fin k (i + 1) _ l₃ (by omega) w) (off_z off) rfl
    · obtain ⟨em, w⟩ := z1
      subst es
      exact end3 (y := Value.none) (em ▸ S₂) (hS _ _ _ w) (rest_T o hS turn fin k (i + 1) _ l' (by omega) w) (off_z off) rfl
theorem LCg_off1 {D : Addr} : ∀ {l : Led}, LCg.Off1 D l → ∀ p ∈ l, p.1 ≠ D
  | [], _, _, h => nomatch h
  | _ :: _, x, p, h => (List.mem_cons.mp h).elim (fun e => e ▸ x.1) fun h => LCg_off1 x.2 p h
theorem lst_lstO (ys : List Value) : LCg.lst ys = lstO ys ys.length := rfl
theorem L_U_list {iter : Expr} {y : PySem.Str} {px py pos spos : Pos} {l : Led} {k : Flow → Mp → Led → Prop} (o : Ok K P c n) (a : Addr) (vs : List Value) (e : Nat) (J : Nat → List Value → Led → Prop) (hJm : ∀ i ys l, J i ys l → (a, lstO vs e) ∈ l) (hl : vs.length ≤ 1000)
    (it : W c env (eval iter env) (fun xv m' l' => m' = m ∧ xv = .ref a ∧ J 0 [] l') m l)
    (turn : ∀ c', Ok K P c' n → ∀ i v ys l₁ C m₂, vs[i]? = some v → J i ys l₁ → m₂ x = some v → Turn c c' C m₂ → W c' env (eval elt (compEnvC scope cl C env)) (fun y m' l' => m' = m ∧ J (i + 1) (ys ++ [y]) l') m l₁)
    (done : ∀ ys l' D, J vs.length ys l' → (∀ p ∈ l', p.1 ≠ D) → k .next (fun z => if z = y then some (.ref D) else m z) ((D, lstO ys ys.length) :: l'))
    (hclos : closureFor scope env = pure cl) (hcell : ∀ z ∈ scope.names, z.2 ≠ .cell) (hkind : scope.kind = .function) (hnames : ∀ z ∈ scope.names, z.2 = .local → scope.names.lookup z.1 = some .local) (hx : scope.names.lookup x = some .local)
    (hsw : swapsWith (.ListComp elt [⟨.Name x px, iter, [], 0⟩] scope pos) (some (.Name y py)) spos.line env = pure true) (hy : autoParam (env.kindOf y = some .local) PySem.W.nameX_K._auto_1) (hk : autoParam (env.scope.kind = .function) PySem.W.nameX_K._auto_1) (hs : autoParam (∀ x, foldedSetIterable iter env x = pure x) PyProof.Rows.LCg.ListComp_U._auto_1) :
    W c env (exec (.Assign [.Name y py] (.ListComp elt [⟨.Name x px, iter, [], 0⟩] scope pos) spos) env) k m l := fun h tk S₀ =>
  LCg.Assign_ListComp_U S₀.F rfl hsw hclos hcell hkind hnames hx hy (by rw [hk]; rfl) (it.to S₀ fun xv s₁ z => z.st fun h₁ tk₁ m₁ l₁ es S₁ z => by
    obtain ⟨rfl, rfl, w⟩ := z
    subst es
    refine LCg.CompSrc.ledger o.hn S₁.F S₁.N (List.mem_append_left _ (hJm _ _ _ w)) (by rw [sizeLine_eq, List.size_toArray]; omega) fun g => ?_
    rw [List.size_toArray]
    refine rest_U (c := c) (tk₀ := tk₁) o (J := J) (fun i ys l hJ => .inr ⟨_, List.mem_append_left _ (hJm _ _ _ hJ), rfl, _, rfl⟩) (fun c' o' i v ys l₁ C m₂ _ hv => turn c' o' i v ys l₁ C m₂ (by simpa using hv)) (fun ys l' w D' D h tk F N off => ?_) _ _ _ _ (Nat.zero_add _) w S₁.D
    have ne : ∀ p ∈ l' ++ c.z, p.1 ≠ D := (LCg_off1 off)
    exact .mk ⟨F, N, fun p hp q hq => (List.mem_cons.mp hq).elim (fun e => e ▸ ne p (List.mem_append_right _ hp)) fun hq => D' p hp q hq⟩ (done ys l' D w fun p hp => ne p (List.mem_append_left _ hp))) hs
theorem L_U_range {iter : Expr} {y : PySem.Str} {px py pos spos : Pos} {l : Led} {k : Flow → Mp → Led → Prop} (o : Ok K P c n) (N : Nat) (J : Nat → List Value → Led → Prop) (hN : N ≤ 1000)
    (it : W c env (eval iter env) (fun xv m' l' => m' = m ∧ IsRng xv l' 0 N ∧ J 0 [] l') m l)
    (turn : ∀ c', Ok K P c' n → ∀ i t ys l₁ C m₂, i < N → J i ys l₁ → m₂ x = some (.int (i : Int) t) → Turn c c' C m₂ → W c' env (eval elt (compEnvC scope cl C env)) (fun y m' l' => m' = m ∧ J (i + 1) (ys ++ [y]) l') m l₁)
    (done : ∀ ys l' D, J N ys l' → (∀ p ∈ l', p.1 ≠ D) → k .next (fun z => if z = y then some (.ref D) else m z) ((D, lstO ys ys.length) :: l'))
    (hclos : closureFor scope env = pure cl) (hcell : ∀ z ∈ scope.names, z.2 ≠ .cell) (hkind : scope.kind = .function) (hnames : ∀ z ∈ scope.names, z.2 = .local → scope.names.lookup z.1 = some .local) (hx : scope.names.lookup x = some .local)
    (hsw : swapsWith (.ListComp elt [⟨.Name x px, iter, [], 0⟩] scope pos) (some (.Name y py)) spos.line env = pure true) (hy : autoParam (env.kindOf y = some .local) PySem.W.nameX_K._auto_1) (hk : autoParam (env.scope.kind = .function) PySem.W.nameX_K._auto_1) (hs : autoParam (∀ x, foldedSetIterable iter env x = pure x) PyProof.Rows.LCg.ListComp_U._auto_1) :
    W c env (exec (.Assign [.Name y py] (.ListComp elt [⟨.Name x px, iter, [], 0⟩] scope pos) spos) env) k m l := fun h tk S₀ =>
  LCg.Assign_ListComp_U S₀.F rfl hsw hclos hcell hkind hnames hx hy (by rw [hk]; rfl) (it.to S₀ fun xv s₁ z => z.st fun h₁ tk₁ m₁ l₁ es S₁ z => by
    obtain ⟨rfl, ⟨⟨r, t, u, v, rfl, hr⟩, b1, b2, b3, b4⟩, w⟩ := z
    subst es
    refine LCg.CompSrc.range (n := N) o.hn S₁.F S₁.N (S₁.get hr) (small_one b1 b2 b3 b4) (by rw [rangeSize_one]; split <;> omega) (by rw [sizeLine_eq]; omega) fun g => ?_
    refine rest_U (c := c) (tk₀ := tk₁) o (J := J) (fun i ys l hJ => trivial) (fun c' o' i v ys l₁ C m₂ hi hv hJ hx => by
      obtain ⟨t, rfl⟩ := hv
      exact turn c' o' i t ys l₁ C m₂ hi hJ (by rw [hx, Int.zero_add])) (fun ys l' w D' D h tk F N off => ?_) _ _ _ _ (Nat.zero_add _) w S₁.D
    have ne : ∀ p ∈ l' ++ c.z, p.1 ≠ D := (LCg_off1 off)
    exact .mk ⟨F, N, fun p hp q hq => (List.mem_cons.mp hq).elim (fun e => e ▸ ne p (List.mem_append_right _ hp)) fun hq => D' p hp q hq⟩ (done ys l' D w fun p hp => ne p (List.mem_append_left _ hp))) hs
theorem L_U_rangeE {iter : Expr} {px pos : Pos} {l : Led} {k : Value → Mp → Led → Prop} (o : Ok K P c n) (N : Nat) (J : Nat → List Value → Led → Prop) (hN : N ≤ 1000)
    (it : W c env (eval iter env) (fun xv m' l' => m' = m ∧ IsRng xv l' 0 N ∧ J 0 [] l') m l)
    (turn : ∀ c', Ok K P c' n → ∀ i t ys l₁ C m₂, i < N → J i ys l₁ → m₂ x = some (.int (i : Int) t) → Turn c c' C m₂ → W c' env (eval elt (compEnvC scope cl C env)) (fun y m' l' => m' = m ∧ J (i + 1) (ys ++ [y]) l') m l₁)
    (done : ∀ ys l' D, J N ys l' → (∀ p ∈ l', p.1 ≠ D) → k (.ref D) m ((D, lstO ys ys.length) :: l'))
    (hclos : closureFor scope env = pure cl) (hcell : ∀ z ∈ scope.names, z.2 ≠ .cell) (hkind : scope.kind = .function) (hnames : ∀ z ∈ scope.names, z.2 = .local → scope.names.lookup z.1 = some .local) (hx : scope.names.lookup x = some .local)
    (hs : autoParam (∀ x, foldedSetIterable iter env x = pure x) PyProof.Rows.LCg.ListComp_U._auto_1) :
    W c env (eval (.ListComp elt [⟨.Name x px, iter, [], 0⟩] scope pos) env) k m l := fun h tk S₀ =>
  LCg.ListComp_U S₀.F hclos hcell hkind hnames hx (it.to S₀ fun xv s₁ z => z.st fun h₁ tk₁ m₁ l₁ es S₁ z => by
    obtain ⟨rfl, ⟨⟨r, t, u, v, rfl, hr⟩, b1, b2, b3, b4⟩, w⟩ := z
    subst es
    refine LCg.CompSrc.range (n := N) o.hn S₁.F S₁.N (S₁.get hr) (small_one b1 b2 b3 b4) (by rw [rangeSize_one]; split <;> omega) (by rw [sizeLine_eq]; omega) fun g => ?_
    refine rest_U (c := c) (tk₀ := tk₁) o (J := J) (fun i ys l hJ => trivial) (fun c' o' i v ys l₁ C m₂ hi hv hJ hx => by
      obtain ⟨t, rfl⟩ := hv
      exact turn c' o' i t ys l₁ C m₂ hi hJ (by rw [hx, Int.zero_add])) (fun ys l' w D' D h tk F N off => ?_) _ _ _ _ (Nat.zero_add _) w S₁.D
    have ne : ∀ p ∈ l' ++ c.z, p.1 ≠ D := (LCg_off1 off)
    exact .mk ⟨F, N, fun p hp q hq => (List.mem_cons.mp hq).elim (fun e => e ▸ ne p (List.mem_append_right _ hp)) fun hq => D' p hp q hq⟩ (done ys l' D w fun p hp => ne p (List.mem_append_left _ hp))) hs
theorem L_T_listE {iter : Expr} {px pos : Pos} {l : Led} {k : Value → Mp → Led → Prop} (o : Ok K P c n) (a : Addr) (vs : List Value) (e : Nat) (J : Nat → List Value → Led → Prop) (hJm : ∀ i ys l, J i ys l → (a, lstO vs e) ∈ l) (hl : vs.length ≤ 1000)
    (it : W c env (eval iter env) (fun xv m' l' => m' = m ∧ xv = .ref a ∧ J 0 [] l') m l)
    (turn : ∀ c', Ok K P c' n → ∀ i v ys l₁ C m₂, vs[i]? = some v → J i ys l₁ → m₂ x = some v → Turn c c' C m₂ → W c' env (isTrue ct (compEnvC scope cl C env) (eval ct (compEnvC scope cl C env)))
      (two (W c' env (eval elt (compEnvC scope cl C env)) (fun y m' l' => m' = m ∧ J (i + 1) (ys ++ [y]) l')) (fun m' l' => m' = m ∧ J (i + 1) ys l')) m l₁)
    (done : ∀ ys l' D, J vs.length ys l' → (∀ p ∈ l', p.1 ≠ D) → k (.ref D) m ((D, lstO ys ys.length) :: l'))
    (hclos : closureFor scope env = pure cl) (hcell : ∀ z ∈ scope.names, z.2 ≠ .cell) (hkind : scope.kind = .function) (hnames : ∀ z ∈ scope.names, z.2 = .local → scope.names.lookup z.1 = some .local) (hx : scope.names.lookup x = some .local)
    (hs : autoParam (∀ x, foldedSetIterable iter env x = pure x) PyProof.Rows.LCg.ListComp_U._auto_1) :
    W c env (eval (.ListComp elt [⟨.Name x px, iter, [ct], 0⟩] scope pos) env) k m l := fun h tk S₀ =>
  LCt.ListComp_T S₀.F hclos hcell hkind hnames hx (it.to S₀ fun xv s₁ z => z.st fun h₁ tk₁ m₁ l₁ es S₁ z => by
    obtain ⟨rfl, rfl, w⟩ := z
    subst es
    refine LCt.CompSrcT.ledger o.hn S₁.F S₁.N (List.mem_append_left _ (hJm _ _ _ w)) (by rw [sizeLine_eq, List.size_toArray]; omega) fun g => ?_
    rw [List.size_toArray]
    refine rest_T (c := c) (tk₀ := tk₁) o (J := J) (fun i ys l hJ => .inr ⟨_, List.mem_append_left _ (hJm _ _ _ hJ), rfl, _, rfl⟩) (fun c' o' i v ys l₁ C m₂ _ hv => turn c' o' i v ys l₁ C m₂ (by simpa using hv)) (fun ys l' w D' D h tk F N off => ?_) _ _ _ _ (Nat.zero_add _) w S₁.D
    have ne : ∀ p ∈ l' ++ c.z, p.1 ≠ D := (LCg_off1 off)
    exact .mk ⟨F, N, fun p hp q hq => (List.mem_cons.mp hq).elim (fun e => e ▸ ne p (List.mem_append_right _ hp)) fun hq => D' p hp q hq⟩ (done ys l' D w fun p hp => ne p (List.mem_append_left _ hp))) hs
theorem L_T_list {iter : Expr} {y : PySem.Str} {px py pos spos : Pos} {l : Led} {k : Flow → Mp → Led → Prop} (o : Ok K P c n) (a : Addr) (vs : List Value) (e : Nat) (J : Nat → List Value → Led → Prop) (hJm : ∀ i ys l, J i ys l → (a, lstO vs e) ∈ l) (hl : vs.length ≤ 1000)
    (it : W c env (eval iter env) (fun xv m' l' => m' = m ∧ xv = .ref a ∧ J 0 [] l') m l)
    (turn : ∀ c', Ok K P c' n → ∀ i v ys l₁ C m₂, vs[i]? = some v → J i ys l₁ → m₂ x = some v → Turn c c' C m₂ → W c' env (isTrue ct (compEnvC scope cl C env) (eval ct (compEnvC scope cl C env)))
      (two (W c' env (eval elt (compEnvC scope cl C env)) (fun y m' l' => m' = m ∧ J (i + 1) (ys ++ [y]) l')) (fun m' l' => m' = m ∧ J (i + 1) ys l')) m l₁)
    (done : ∀ ys l' D, J vs.length ys l' → (∀ p ∈ l', p.1 ≠ D) → k .next (fun z => if z = y then some (.ref D) else m z) ((D, lstO ys ys.length) :: l'))
    (hclos : closureFor scope env = pure cl) (hcell : ∀ z ∈ scope.names, z.2 ≠ .cell) (hkind : scope.kind = .function) (hnames : ∀ z ∈ scope.names, z.2 = .local → scope.names.lookup z.1 = some .local) (hx : scope.names.lookup x = some .local)
    (hsw : swapsWith (.ListComp elt [⟨.Name x px, iter, [ct], 0⟩] scope pos) (some (.Name y py)) spos.line env = pure true) (hy : autoParam (env.kindOf y = some .local) PySem.W.nameX_K._auto_1) (hk : autoParam (env.scope.kind = .function) PySem.W.nameX_K._auto_1) (hs : autoParam (∀ x, foldedSetIterable iter env x = pure x) PyProof.Rows.LCg.ListComp_U._auto_1) :
    W c env (exec (.Assign [.Name y py] (.ListComp elt [⟨.Name x px, iter, [ct], 0⟩] scope pos) spos) env) k m l := fun h tk S₀ =>
  LCt.Assign_ListComp_T S₀.F rfl hsw hclos hcell hkind hnames hx hy (by rw [hk]; rfl) (it.to S₀ fun xv s₁ z => z.st fun h₁ tk₁ m₁ l₁ es S₁ z => by
    obtain ⟨rfl, rfl, w⟩ := z
    subst es
    refine LCt.CompSrcT.ledger o.hn S₁.F S₁.N (List.mem_append_left _ (hJm _ _ _ w)) (by rw [sizeLine_eq, List.size_toArray]; omega) fun g => ?_
    rw [List.size_toArray]
    refine rest_T (c := c) (tk₀ := tk₁) o (J := J) (fun i ys l hJ => .inr ⟨_, List.mem_append_left _ (hJm _ _ _ hJ), rfl, _, rfl⟩) (fun c' o' i v ys l₁ C m₂ _ hv => turn c' o' i v ys l₁ C m₂ (by simpa using hv)) (fun ys l' w D' D h tk F N off => ?_) _ _ _ _ (Nat.zero_add _) w S₁.D
    have ne : ∀ p ∈ l' ++ c.z, p.1 ≠ D := (LCg_off1 off)
    exact .mk ⟨F, N, fun p hp q hq => (List.mem_cons.mp hq).elim (fun e => e ▸ ne p (List.mem_append_right _ hp)) fun hq => D' p hp q hq⟩ (done ys l' D w fun p hp => ne p (List.mem_append_left _ hp))) hs
end
section
variable {K : Params → Frag} {P : Program} {c : Cx} {env : Env} {m : Mp} {l : Led} {k : Flow → Mp → Led → Prop} {n : Nat}
theorem Kq.unq {α : Type} {k : α → Mp → Led → Prop} {a : α} {s : Shared} (x : Kq (c.q c.z) env k a s) : Kq c env k a s := x.st fun h tk m l e S z => .fin h tk m l e ⟨S.F, S.N, S.D⟩ z
theorem S_while {test : Expr} {body : List Stmt} {pos : Pos} (o : Ok K P c n) (J : Nat → Mp → Led → Prop) (n₀ : Nat) (hJ : J n₀ m l)
    (turn : ∀ c', Ok K P c' n → ∀ i m₁ l₁, J i m₁ l₁ → W c' env (isTrue test env (eval test env)) (two (W c' env (execs body env) (turnK k (fun m l => ∃ i', i' < i ∧ J i' m l))) (k .next)) m₁ l₁) : W c env (exec (.While test body [] pos) env) k m l := fun h tk S => by
  refine quiet (wpAny_While (codeAny_whileLoop (fun i s' => Kq (c.q c.z) env (fun _ m l => J i m l) () s') ?_ n₀ (.fin h tk m l rfl ⟨S.F, S.N, S.D⟩ hJ)))
  rintro i s' ⟨h₁, tk₁, m₁, l₁, rfl, S₁, J₁⟩
  refine wpAny_mono (turn _ (o.q c.z) i m₁ l₁ J₁ h₁ tk₁ S₁) (fun b s₂ z => ?_) fun _ _ e => e.elim
  cases b with
  | false =>
    obtain ⟨h₂, tk₂, m₂, l₂, rfl, S₂, z⟩ := z
    exact wpAny_execs_nil (.unq (.fin _ _ _ _ rfl S₂ (z.2 rfl)))
  | true =>
    obtain ⟨h₂, tk₂, m₂, l₂, rfl, S₂, z⟩ := z
    refine wpAny_mono (z.1 rfl h₂ tk₂ S₂) (fun f s₃ z => ?_) fun _ _ e => e.elim
    obtain ⟨h₃, tk₃, m₃, l₃, rfl, S₃, z⟩ := z
    cases f with
    | next => exact z.elim fun i' z => ⟨i', z.1, .fin _ _ _ _ rfl S₃ z.2⟩
    | cont => exact z.elim fun i' z => ⟨i', z.1, .fin _ _ _ _ rfl S₃ z.2⟩
    | brk => exact .unq (.fin _ _ _ _ rfl S₃ z)
    | ret v => exact .unq (.fin _ _ _ _ rfl S₃ z)
end
open PyProof.V PySem.SeqAt
theorem cells_in {cm : PySem.Str → Option Value} {cs : List (PySem.Str × Addr)} {cells : Led} (x : CellsAre cm cs cells) : ∀ q ∈ cells, ∃ n, (n, q.1) ∈ cs := by
  induction x with
  | nil => exact fun q h => nomatch h
  | cons h r ih => exact fun q hq => (List.mem_cons.mp hq).elim (fun e => by subst e; exact ⟨_, .head _⟩) fun hq => (ih q hq).elim fun n h => ⟨n, .tail _ h⟩
theorem cellsFrom_ge : ∀ (names : List (PySem.Str × NameKind)) (n : Nat) (acc : List (PySem.Str × Addr)) (x : PySem.Str) (b : Addr), (x, b) ∈ cellsFrom n names acc → (n : Nat) ≤ b ∨ (x, b) ∈ acc
  | [], _, _, _, _, h => .inr h
  | (y, k) :: r, n, acc, x, b, h => by
    unfold cellsFrom at h
    split at h
    · rcases cellsFrom_ge r _ _ x b h with q | q
      · exact .inl (Nat.le_of_succ_le q)
      · rcases List.mem_cons.mp q with q | q
        · exact .inl (Nat.le_of_eq (congrArg Prod.snd q).symm)
        · exact .inr q
    · exact cellsFrom_ge r _ _ x b h
section
variable {K : Params → Frag} {P : Program} {c : Cx} {env : Env} {m : Mp} {l : Led} {k : Value → Mp → Led → Prop} {n : Nat}
theorem enterC {name qual : PySem.Str} {params : Arguments} {body : List Stmt} {scope : Scope} {dV kV doc pm cdv ct oc : Value} {an od : Option Addr} {osl : Array (Option Value)} {f : Addr} {vs : List Value} (ns : List PySem.Str)
    (o : Ok K P c (n + 1)) (hf : env.frame = some env.locals) (hke : env.scope.kind = .function)
    (ho : (K c.w.params).lookup f = some ⟨oc, od, .func (fnOf name qual params body scope dV kV doc pm an cdv ct), osl⟩) (hcd : codeIn (K c.w.params) cdv qual = true)
    (hbind : bindArgs (fnOf name qual params body scope dV kV doc pm an cdv ct) ⟨vs, []⟩ = pure (ns.zip vs)) (hkind : ((ns.zip vs).all fun y => scope.names.lookup y.1 == some .local || scope.names.lookup y.1 == some .cell) = true)
    (hnd : ((cellsFrom 0 scope.names []).map (·.1)).Nodup) (hco : scope.isCoroutine = false) (hgen : scope.isGenerator = false) (hk : scope.kind = .function)
    (h : ∀ c', Ok K P c' n → ∀ L' cells, CellsAre (bindC (envOfC qual scope L' f cdv).kindOf (ns.zip vs) fun _ => none) (cellsFrom (L' + 1) scope.names []) cells → (∀ p ∈ l, ∀ q ∈ cells, p.1 < q.1) →
      W c' (envOfC qual scope L' f cdv) (execs body (envOfC qual scope L' f cdv)) (retK k m) (bindL (envOfC qual scope L' f cdv).kindOf (ns.zip vs) fun _ => none) (cells ++ l)) :
    W c env (call (.ref f) vs) k m l := fun hh tk S =>
  wpAny_call (code_defC (A := c.A env) (A₀ := c.A₀) (base := c.base) (outer := c.outer) o.B S.F o.X S.N o.T rfl hf hke ho hcd (by have := o.hd; show c.dp < _; omega) (BindsTo.of_eq hbind) hkind hnd (fun g L' h₁ tk cells FG F' N' Y B' X' T' lt => by
    have ge : ∀ p ∈ l ++ c.z, ∀ q ∈ cells, p.1 < q.1 := fun p hp q hq => by
      obtain ⟨x, hx⟩ := cells_in Y q hq
      have h1 := lt p hp
      rcases cellsFrom_ge _ _ _ _ _ hx with w | w
      · exact Nat.lt_of_lt_of_le h1 (Nat.le_of_succ_le w)
      · cases w
    refine wpAny_mono (h (c.into env (envOfC qual scope L' f cdv) g) ⟨⟨B', X', T', by have := o.hd; show c.dp + 1 + n < _; omega, by have := o.hu; show c.un + 3 + _ + _ < _; omega⟩, o.hn⟩ L' cells Y (fun p hp => ge p (List.mem_append_left _ hp)) h₁ tk
      ⟨F', by rw [List.append_assoc]; exact N', fun p hp q hq => (List.mem_append.mp hq).elim (fun w => Nat.ne_of_lt (ge p (List.mem_append_right _ hp) q w)) fun w => S.D p hp q w⟩) (fun fl s' y => y.st fun h₂ tk₂ m₂ l₂ e S₂ z => ?_) fun _ _ e => wpAny_mono e (fun _ _ z => z) fun _ _ z => z
    subst e
    exact leaveK_ S₂.F S₂.N fun F N => .mk ⟨F, N, S₂.D⟩ (by cases fl <;> exact z)) hco hgen hk)
end
/-! equality -/
def Rd (l : Led) (v : Value) (d : PyData) : Prop := ∀ h : Heap, (∀ p ∈ l, h.get? p.1 = some p.2) → ∃ as, Reads h v d as
theorem Rd.none {l : Led} : Rd l .none .none := fun h _ => ⟨_, .none⟩
theorem Rd.tup {l : Led} {D : Addr} {vs : List Value} {ns : List Int} (hm : (D, tupO vs) ∈ l) (I : IntsAre vs ns) : Rd l (.ref D) (.tuple (ns.map .int)) := fun h S => ⟨_, .tuple (S _ hm) rfl rfl (by simpa using readsAll_of_ints I)⟩
theorem shaped_tup (ns : List Int) : shaped (.tuple (ns.map PyData.int)) = true := by
  have h1 := W.depthAll_ints ns
  have h2 : PyData.depth (.tuple (ns.map PyData.int)) ≤ 64 := by simp only [PyData.depth]; omega
  show (PyData.canLay0 (.tuple (ns.map PyData.int)) && decide (PyData.depth (.tuple (ns.map PyData.int)) ≤ 64)) = true
  rw [Bool.and_eq_true]
  exact ⟨by simp only [PyData.canLay0]; exact canLayAll0_ints ns, decide_eq_true h2⟩
theorem same_tup (ns ms : List Int) : PySem.Spec.same (.tuple (ns.map .int)) (.tuple (ms.map .int)) = decide (ns = ms) := by simp only [PySem.Spec.same]; exact same_ints ns ms
theorem mix_tup (ns ms : List Int) : noMix (.tuple (ns.map .int)) (.tuple (ms.map .int)) = true := by simp only [noMix]; exact noMix_ints ns ms
/-- tuples of ints, one after the other -/
theorem tups_read {l : Led} {h : Heap} (S : ∀ p ∈ l, h.get? p.1 = some p.2) : ∀ {ds : List Addr} {ns : List (List Int)}, Paired (fun d n => Rd l (.ref d) (.tuple (n.map .int))) ds ns → ∃ as, ReadsAll h (ds.map .ref) (ns.map fun n => .tuple (n.map .int)) as
  | _, _, .nil => ⟨_, .nil⟩
  | _, _, .cons a t => by
    obtain ⟨as, x⟩ := a h S
    obtain ⟨bs, y⟩ := tups_read S t
    exact ⟨_, .cons x y⟩
theorem Rd.tups {l : Led} {D : Addr} {n : Nat} {ds : List Addr} {ns : List (List Int)} (hm : (D, lstO (ds.map .ref) n) ∈ l) (P : Paired (fun d n => Rd l (.ref d) (.tuple (n.map .int))) ds ns) : Rd l (.ref D) (.list (ns.map fun n => .tuple (n.map .int))) := fun h S => by
  obtain ⟨as, x⟩ := tups_read S P
  exact ⟨_, .list (S _ hm) rfl rfl (by simpa using x)⟩
theorem lay_tups : ∀ ns : List (List Int), PyData.canLayAll0 (ns.map fun n => PyData.tuple (n.map .int)) = true
  | [] => by simp [PyData.canLayAll0]
  | n :: r => by
    rw [List.map_cons]
    simp only [PyData.canLayAll0, PyData.canLay0, canLayAll0_ints n, lay_tups r, Bool.and_self]
theorem deep_tups : ∀ ns : List (List Int), PyData.depthAll (ns.map fun n => PyData.tuple (n.map .int)) ≤ 2
  | [] => by simp [PyData.depthAll]
  | n :: r => by
    have h1 := W.depthAll_ints n
    have h2 := deep_tups r
    simp only [List.map_cons, PyData.depthAll, PyData.depth]
    omega
theorem shaped_tups (ns : List (List Int)) : shaped (.list (ns.map fun n => PyData.tuple (n.map .int))) = true := by
  have h1 := deep_tups ns
  have h2 : PyData.depth (.list (ns.map fun n => PyData.tuple (n.map .int))) ≤ 64 := by simp only [PyData.depth]; omega
  show (PyData.canLay0 _ && decide (PyData.depth _ ≤ 64)) = true
  rw [Bool.and_eq_true]
  exact ⟨by simp only [PyData.canLay0]; exact lay_tups ns, decide_eq_true h2⟩
theorem mixAll_tups : ∀ ns ms : List (List Int), noMixAll (ns.map fun n => PyData.tuple (n.map .int)) (ms.map fun n => PyData.tuple (n.map .int)) = true
  | [], [] => by simp [noMixAll]
  | [], _ :: _ => by simp [noMixAll]
  | _ :: _, [] => by simp [noMixAll]
  | n :: r, m :: q => by
    rw [List.map_cons, List.map_cons]
    simp only [noMixAll, mix_tup, mixAll_tups r q, Bool.and_self]
theorem sameAll_tups : ∀ ns ms : List (List Int), PySem.Spec.sameAll (ns.map fun n => PyData.tuple (n.map .int)) (ms.map fun n => PyData.tuple (n.map .int)) = decide (ns = ms)
  | [], [] => by simp [PySem.Spec.sameAll]
  | [], _ :: _ => by simp [PySem.Spec.sameAll]
  | _ :: _, [] => by simp [PySem.Spec.sameAll]
  | n :: r, m :: q => by
    rw [List.map_cons, List.map_cons]
    simp only [PySem.Spec.sameAll, same_tup, sameAll_tups r q]
    by_cases h : n = m <;> simp [h]
section
variable {K : Params → Frag} {P : Program} {c : Cx} {env : Env} {m : Mp} {l : Led} {k : Value → Mp → Led → Prop} {n : Nat} {a b : Value} {da db : PyData}
theorem C_eqD (o : Ok K P c n) (ra : Rd l a da) (rb : Rd l b db) (ha : shaped da = true) (hb : shaped db = true) (hm : noMix da db = true) (z : k (.bool (PySem.Spec.same da db)) m l) : W c env (compareOp .Eq a b) k m l := fun h tk S => by
  obtain ⟨as, x⟩ := ra h fun p hp => S.get hp
  obtain ⟨bs, y⟩ := rb h fun p hp => S.get hp
  exact eq_dataH_same x y ha hb (by have := o.hu; show c.un + 64 < _; omega) hm (.mk S z)
theorem C_neD (o : Ok K P c n) (ra : Rd l a da) (rb : Rd l b db) (ha : shaped da = true) (hb : shaped db = true) (hm : noMix da db = true) (z : k (.bool (!PySem.Spec.same da db)) m l) : W c env (compareOp .NotEq a b) k m l := fun h tk S => by
  obtain ⟨as, x⟩ := ra h fun p hp => S.get hp
  obtain ⟨bs, y⟩ := rb h fun p hp => S.get hp
  exact ne_dataH_same x y ha hb (by have := o.hu; show c.un + 64 < _; omega) hm (.mk S z)
end
section
variable {c : Cx} {env : Env} {m : Mp} {l : Led} {k : Value → Mp → Led → Prop} {a : Addr} {vs : List Value} {ns : List Int} {n : Nat}
theorem M_min (hn : c.hn = none) (hm : (a, lstO vs n) ∈ l) (I : IntsAre vs ns) (hne : 0 < ns.length) (z : ∀ M t, M ∈ ns → (∀ x, x ∈ ns → M ≤ x) → k (.int M t) m l) : W c env (call (.builtin "min") [.ref a]) k m l := fun h tk S =>
  min_list_N hn S.F S.N (S.isList hm) I hne fun h' M t tk F N h1 h2 => .mk ⟨F, N, S.D⟩ (z M t h1 h2)
theorem M_index {x : Int} {t : Tok} (hm : (a, lstO vs n) ∈ l) (I : IntsAre vs ns) (hl : PyData.layable0 (.list (ns.map .int)) = true) (hx : x ∈ ns) (z : ∀ t, k (.int (ns.idxOf x : Nat) t) m l) : W c env (call (.builtin "list.index") [.ref a, .int x t]) k m l := fun h tk S =>
  index_list_ints (S.isList hm) I hl hx (.mk S (z _))
end
theorem weight_ints : ∀ ns : List Int, (∀ x ∈ ns, x.natAbs < 2 ^ 64) → PyData.weightAll (ns.map PyData.int) ≤ 65 * ns.length
  | [], _ => by simp [PyData.weightAll]
  | n :: r, h => by
    have ih := weight_ints r fun x hx => h x (.tail _ hx)
    have h1 : PyData.weight (.int n) ≤ 64 := by
      simp only [PyData.weight]
      split
      · exact Nat.zero_le _
      · rename_i e
        exact (Nat.log2_lt (fun q => e (by simpa using q))).mpr (h n (.head _))
    simp only [List.map_cons, PyData.weightAll, List.length_cons]
    omega
theorem layable_ints {ns : List Int} (h : ∀ x ∈ ns, x.natAbs < 2 ^ 64) (hl : ns.length ≤ 1000) : PyData.layable0 (.list (ns.map .int)) = true := by
  have h1 := W.depthAll_ints ns
  have h2 := weight_ints ns h
  show (PyData.canLay0 _ && decide (PyData.depth _ ≤ 64) && decide (PyData.weight _ ≤ 2 ^ 20)) = true
  rw [Bool.and_eq_true, Bool.and_eq_true]
  exact ⟨⟨by simp only [PyData.canLay0]; exact canLayAll0_ints ns, decide_eq_true (by simp only [PyData.depth]; omega)⟩, decide_eq_true (by simp only [PyData.weight]; omega)⟩
/-- a loop whose body binds no name but the loop's own -/
noncomputable abbrev upd (m : Mp) (x : PySem.Str) (ov : Option Value) : Mp := fun y => if y = x then ov else m y
theorem upd_upd {m : Mp} {x : PySem.Str} {ov ov' : Option Value} : (fun y => if y = x then ov' else upd m x ov y) = upd m x ov' := by
  funext y
  show (if y = x then ov' else if y = x then ov else m y) = if y = x then ov' else m y
  split <;> rfl
theorem upd_self {m : Mp} {x : PySem.Str} : m = upd m x (m x) := by
  funext y
  show m y = if y = x then m x else m y
  split
  · rename_i h; rw [h]
  · rfl
section
variable {K : Params → Frag} {P : Program} {c : Cx} {env : Env} {m : Mp} {l : Led} {k : Flow → Mp → Led → Prop} {n : Nat}
theorem S_listM {x : PySem.Str} {px pos : Pos} {iter : Expr} {body : List Stmt} (o : Ok K P c n) (a : Addr) (vs : List Value) (e : Nat) (J : Nat → Led → Prop) (hJm : ∀ i l, J i l → (a, lstO vs e) ∈ l)
    (y : ∀ c', Ok K P c' n → W c' env (eval iter env) (fun xv m' l => m' = m ∧ xv = .ref a ∧ J 0 l) m l)
    (turn : ∀ c', Ok K P c' n → ∀ i v l₁, vs[i]? = some v → J i l₁ → W c' env (execs body env) (turnK k (fun m' l' => (∃ ov, m' = upd m x ov) ∧ J (i + 1) l')) (upd m x (some v)) l₁)
    (done : ∀ ov l₁, J vs.length l₁ → k .next (upd m x ov) l₁)
    (hx : autoParam (env.kindOf x = some .local) PySem.W.nameX_K._auto_1) (hk : autoParam (env.scope.kind = .function) PySem.W.nameX_K._auto_1) (hs : autoParam (∀ x, foldedSetIterable iter env x = pure x) PyProof.Rows.LCg.ListComp_U._auto_1) : W c env (exec (.For (.Name x px) iter body [] pos) env) k m l :=
  S_list o a vs e (fun i m' l' => (∃ ov, m' = upd m x ov) ∧ J i l') (fun i m' l' h => hJm i l' h.2) (fun c' o' => (y c' o').mono fun xv m' l' z => ⟨z.2.1, ⟨_, z.1.trans upd_self⟩, z.2.2⟩)
    (fun c' o' i v m₁ l₁ hv hJ => by
      obtain ⟨⟨ov, rfl⟩, hJ⟩ := hJ
      rw [upd_upd]
      exact turn c' o' i v l₁ hv hJ) (fun m₁ l₁ hJ => by
      obtain ⟨⟨ov, rfl⟩, hJ⟩ := hJ
      exact done ov l₁ hJ) hx hk hs
end
noncomputable def padded (w : Nat) (rs : List Rw) : List Int := rs.map PK ++ List.replicate (w - rs.length) 0
noncomputable def slotsOf (w : Nat) : List (List Rw) → List Int
  | [] => []
  | rs :: css => padded w rs ++ slotsOf w css
/-- clusters whose rows are within the ranges and the ways -/
def Fit (w : Nat) (css : List (List Rw)) : Prop := ∀ rs ∈ css, rs.length ≤ w ∧ ∀ r ∈ rs, Va r
theorem padded_len {w : Nat} {rs : List Rw} (h : rs.length ≤ w) : (padded w rs).length = w := by unfold padded; simp; omega
theorem padded_get {w i : Nat} {rs : List Rw} (h : rs.length ≤ w) (hi : i < w) : (padded w rs)[i]? = some (slotE rs i) := by
  unfold padded slotE
  rw [List.getElem?_append, List.length_map]
  split
  · rename_i g
    rw [List.getElem?_map, List.getElem?_eq_getElem g]; rfl
  · rename_i g
    rw [List.getElem?_replicate, if_pos (by omega), List.getElem?_eq_none (by omega)]
theorem slots_get {w i : Nat} {rs : List Rw} : ∀ {css : List (List Rw)} {j : Nat}, Fit w css → css[j]? = some rs → i < w → (slotsOf w css)[j * w + i]? = some (slotE rs i)
  | [], j, F, h, hi => by cases h
  | r :: css, 0, F, h, hi => by
    cases h
    have hl := (F rs List.mem_cons_self).1
    unfold slotsOf
    rw [Nat.zero_mul, Nat.zero_add, List.getElem?_append_left (by rw [padded_len hl]; exact hi), padded_get hl hi]
  | r :: css, j + 1, F, h, hi => by
    have hl := (F r List.mem_cons_self).1
    unfold slotsOf
    rw [Nat.succ_mul, List.getElem?_append_right (by rw [padded_len hl]; omega), padded_len hl, show j * w + w + i - w = j * w + i by omega]
    exact slots_get (fun rs h => F rs (List.mem_cons_of_mem _ h)) h hi
theorem slots_len {w : Nat} : ∀ {css : List (List Rw)}, Fit w css → (slotsOf w css).length = css.length * w
  | [], _ => (Nat.zero_mul _).symm
  | r :: css, F => by
    unfold slotsOf
    rw [List.length_append, padded_len (F r List.mem_cons_self).1, slots_len fun rs h => F rs (List.mem_cons_of_mem _ h), List.length_cons, Nat.succ_mul, Nat.add_comm]
theorem slots_set {w i : Nat} {v : Int} {rs rs' : List Rw} (hp : (padded w rs).set i v = padded w rs') (hi : i < w) : ∀ {css : List (List Rw)} {j : Nat}, Fit w css → css[j]? = some rs → (slotsOf w css).set (j * w + i) v = slotsOf w (css.set j rs')
  | [], j, F, h => by cases h
  | r :: css, 0, F, h => by
    cases h
    have hl := (F rs List.mem_cons_self).1
    unfold slotsOf
    rw [Nat.zero_mul, Nat.zero_add, List.set_append_left _ _ (by rw [padded_len hl]; exact hi), hp]; rfl
  | r :: css, j + 1, F, h => by
    have hl := (F r List.mem_cons_self).1
    show (padded w r ++ slotsOf w css).set _ v = padded w r ++ slotsOf w (css.set j rs')
    rw [Nat.succ_mul, List.set_append_right _ _ (by rw [padded_len hl]; omega), padded_len hl, show j * w + w + i - w = j * w + i by omega, slots_set hp hi (fun rs h => F rs (List.mem_cons_of_mem _ h)) h]
theorem padded_set {w j : Nat} {rs : List Rw} {r : Rw} (hj : j < rs.length) : (padded w rs).set j (PK r) = padded w (rs.set j r) := by
  unfold padded
  rw [List.set_append_left _ _ (by rw [List.length_map]; exact hj), List.map_set, List.length_set]
theorem padded_new {w : Nat} {rs : List Rw} {r : Rw} (h : rs.length < w) : (padded w rs).set rs.length (PK r) = padded w (rs ++ [r]) := by
  unfold padded
  rw [List.set_append_right _ _ (by rw [List.length_map]; exact Nat.le_refl _), List.length_map, Nat.sub_self, List.map_append, List.length_append, List.append_assoc]
  obtain ⟨q, hq⟩ : ∃ q, w - rs.length = q + 1 := ⟨w - rs.length - 1, by omega⟩
  have e : w - (rs.length + [r].length) = q := by show w - (rs.length + 1) = q; omega
  rw [hq, e]; rfl
theorem slots_zero {w : Nat} : ∀ n, slotsOf w (List.replicate n []) = List.replicate (n * w) 0
  | 0 => by rw [Nat.zero_mul]; rfl
  | n + 1 => by
    rw [List.replicate_succ]
    show List.replicate w 0 ++ slotsOf w (List.replicate n []) = _
    rw [slots_zero n, List.replicate_append_replicate, Nat.succ_mul, Nat.add_comm]
theorem slots_kept {w : Nat} : ∀ {css : List (List Rw)}, Fit w css → (slotsOf w css).filter (fun e => decide (e ≠ 0)) = css.flatten.map PK
  | [], _ => rfl
  | r :: css, F => by
    unfold slotsOf padded
    rw [List.filter_append, List.filter_append, slots_kept fun rs h => F rs (List.mem_cons_of_mem _ h), List.flatten_cons, List.map_append, List.filter_replicate_of_neg (by decide), List.append_nil]
    rw [List.filter_eq_self.mpr fun a ha => ?_]
    obtain ⟨q, hq, rfl⟩ := List.mem_map.mp ha
    exact decide_eq_true (PK_ne ((F r List.mem_cons_self).2 q hq))
theorem clu_of {w j : Nat} {rs : List Rw} {css : List (List Rw)} {vs : List Value} (F : Fit w css) (I : IntsAre vs (slotsOf w css)) (h : css[j]? = some rs) (hC : css.length ≤ 3) (hw : w ≤ 3) : Clu vs (j * w) w rs where
  le := (F rs (List.mem_of_getElem? h)).1
  va := (F rs (List.mem_of_getElem? h)).2
  at_ i hi := I.get _ _ (slots_get F h hi)
  sm := by
    have : j < css.length := (List.getElem?_eq_some_iff.mp h).1
    have : j * w ≤ 3 * 3 := Nat.mul_le_mul (by omega) hw
    omega
theorem ints_set {n : Int} {t : Tok} : ∀ {vs : List Value} {ns : List Int}, IntsAre vs ns → ∀ i, IntsAre (vs.set i (.int n t)) (ns.set i n)
  | _, _, .nil, _ => .nil
  | _, _, .cons a b h, 0 => .cons _ _ h
  | _, _, .cons a b h, i + 1 => .cons _ _ (ints_set h i)
noncomputable def keyAt (C : Nat) (key : Int) : Nat := (key.fmod C).toNat
theorem keyAt_lt {C : Nat} (h : 0 < C) (key : Int) : keyAt C key < C := by
  have h0 := Int.fmod_nonneg_of_pos key (show (0 : Int) < (C : Int) by omega)
  have h1 := Int.fmod_lt_of_pos key (show (0 : Int) < (C : Int) by omega)
  unfold keyAt; omega
theorem keyAt_eq {C : Nat} (h : 0 < C) (key : Int) : key.fmod C = (keyAt C key : Int) := (Int.toNat_of_nonneg (Int.fmod_nonneg_of_pos key (show (0 : Int) < (C : Int) by omega))).symm
theorem over_va {old r : Rw} (V : Va old) (W : Va r) : Va (over old r) := by
  unfold over
  split
  · refine { W with m0 := ?_, m1 := ?_ } <;> (show _ ≤ _; split <;> first | exact V.m0 | exact V.m1 | exact W.m0 | exact W.m1)
  · refine { V with m0 := ?_, m1 := ?_ } <;> (show _ ≤ _; split <;> first | exact V.m0 | exact V.m1 | exact W.m0 | exact W.m1)
theorem Saved.fit {w : Nat} {rs rs' : List Rw} {r : Rw} (h : Saved w rs r rs') (hl : rs.length ≤ w) (V : ∀ r ∈ rs, Va r) (W : Va r) : rs'.length ≤ w ∧ ∀ r ∈ rs', Va r := by
  cases h with
  | hit h1 h2 h3 => exact ⟨by rw [List.length_set]; exact hl, fun q hq => (List.mem_or_eq_of_mem_set hq).elim (V q) fun e => e ▸ over_va (V _ (List.mem_of_getElem? h1)) W⟩
  | new h1 h2 => exact ⟨by rw [List.length_append]; exact h2, fun q hq => (List.mem_append.mp hq).elim (V q) fun e => List.mem_singleton.mp e ▸ W⟩
  | out h1 h2 h3 => exact ⟨by rw [List.length_set]; exact hl, fun q hq => (List.mem_or_eq_of_mem_set hq).elim (V q) fun e => e ▸ W⟩
theorem Fit.set {w j : Nat} {css : List (List Rw)} {rs : List Rw} (F : Fit w css) (h : rs.length ≤ w ∧ ∀ r ∈ rs, Va r) : Fit w (css.set j rs) := fun q hq => (List.mem_or_eq_of_mem_set hq).elim (F q) fun e => e ▸ h
structure TQ where
  h1 : Int
  h2 : Int
  h3 : Int
  h4 : Int
  t1 : Tok
  t2 : Tok
  t3 : Tok
  t4 : Tok
noncomputable abbrev tblE (q : TQ) (C w a : Int) (tc tw ta : Tok) (sa : Addr) : List DictEntry := [⟨q.h1, .str "clusters" q.t1, .int C tc⟩, ⟨q.h2, .str "ways" q.t2, .int w tw⟩, ⟨q.h3, .str "age" q.t3, .int a ta⟩, ⟨q.h4, .str "slots" q.t4, .ref sa⟩]
/-- a table: what its slots hold -/
structure TF (x : Addr) (w : Nat) (a : Int) (css : List (List Rw)) (l : Led) : Prop where
  ex : ∃ dx q tc tw ta sa n vs, (x, instObj 147 dx) ∈ l ∧ (dx, dictOf (tblE q css.length w a tc tw ta sa) 4) ∈ l ∧ (sa, lstO vs n) ∈ l ∧ IntsAre vs (slotsOf w css)
  fit : Fit w css
  c0 : 0 < css.length
  c1 : css.length ≤ 3
  w0 : 0 < w
  w1 : w ≤ 3
  a0 : 0 ≤ a
  a1 : a ≤ 63
theorem TF.up {x : Addr} {w : Nat} {a : Int} {css : List (List Rw)} {l l' : Led} (T : TF x w a css l) (h : ∀ p ∈ l, p ∈ l') : TF x w a css l' :=
  { T with ex := let ⟨dx, q, tc, tw, ta, sa, n, vs, h1, h2, h3, h4⟩ := T.ex; ⟨dx, q, tc, tw, ta, sa, n, vs, h _ h1, h _ h2, h _ h3, h4⟩ }
/-- an address bears one object -/
def One (l : Led) : Prop := ∀ a o o', (a, o) ∈ l → (a, o') ∈ l → o = o'
theorem ne_of_cls {l : Led} (u : One l) {a b : Addr} {o o' : Obj} (h : (a, o) ∈ l) (h' : (b, o') ∈ l) (n : o.cls ≠ o'.cls) : a ≠ b := fun e => n (congrArg Obj.cls (u _ _ _ h (e ▸ h')))
theorem dict_lst : (Value.type "dict") ≠ .type "list" := fun e => absurd (Value.type.inj e) (by decide)
theorem tup_lst : (Value.type "tuple") ≠ .type "list" := fun e => absurd (Value.type.inj e) (by decide)
theorem TF.set {x dx sa : Addr} {w n j i : Nat} {a : Int} {css : List (List Rw)} {l : Led} {rs rs' : List Rw} {r : Rw} {q : TQ} {tc tw ta t : Tok} {vs : List Value} (T : TF x w a css l) (u : One l) (h1 : (x, instObj 147 dx) ∈ l) (h2 : (dx, dictOf (tblE q css.length w a tc tw ta sa) 4) ∈ l) (h3 : (sa, lstO vs n) ∈ l) (I : IntsAre vs (slotsOf w css))
    (hr : css[j]? = some rs) (hp : (padded w rs).set i (PK r) = padded w rs') (hi : i < w) (hf : rs'.length ≤ w ∧ ∀ r ∈ rs', Va r) : TF x w a (css.set j rs') (put sa (lstO (vs.set (j * w + i) (.int (PK r) t)) n) l) :=
  { T with
    ex := ⟨dx, q, tc, tw, ta, sa, n, _, put_off h1 (ne_of_cls u h1 h3 (fun e => nomatch e)), by rw [List.length_set]; exact put_off h2 (ne_of_cls u h2 h3 dict_lst), put_at, by rw [← slots_set hp hi T.fit hr]; exact ints_set I _⟩
    fit := T.fit.set hf
    c0 := by rw [List.length_set]; exact T.c0
    c1 := by rw [List.length_set]; exact T.c1 }
/-- the first row of a key -/
noncomputable def ask (rs : List Rw) (key : Int) : Option Rw := rs.find? fun r => decide (r.k = key)
theorem ask_hit {key : Int} {r : Rw} : ∀ {rs : List Rw} {j : Nat}, rs[j]? = some r → r.k = key → (∀ i, i < j → ∀ r', rs[i]? = some r' → r'.k ≠ key) → ask rs key = some r
  | [], _, h, _, _ => by cases h
  | a :: rs, 0, h, e, _ => by
    cases h
    exact List.find?_cons_of_pos (decide_eq_true e)
  | a :: rs, j + 1, h, e, f => by
    unfold ask
    rw [List.find?_cons_of_neg (by simpa using f 0 (Nat.succ_pos _) a rfl)]
    exact ask_hit h e fun i hi r' hr => f (i + 1) (Nat.succ_lt_succ hi) r' hr
theorem ask_miss {key : Int} {rs : List Rw} (h : miss rs key) : ask rs key = none := List.find?_eq_none.mpr fun r hr => by simpa using h r hr
theorem ix {s w i L : Nat} (hi : i < w) (h : s + w ≤ L) (h' : s + w ≤ 1000) : 0 ≤ (s : Int) + (i : Int) ∧ (s : Int) + (i : Int) < 2 ^ 63 ∧ (s : Int) + (i : Int) < (L : Int) := by omega
theorem sub1 {α : Type} {a b : α} {l : List α} : ∀ p ∈ a :: l, p ∈ a :: b :: l := fun p h => (List.mem_cons.mp h).elim (fun e => e ▸ .head _) fun h => .tail _ (.tail _ h)
theorem slots_room {w j : Nat} {css : List (List Rw)} {vs : List Value} (F : Fit w css) (I : IntsAre vs (slotsOf w css)) (hj : j < css.length) : j * w + w ≤ vs.length := by
  rw [I.length, slots_len F, ← Nat.succ_mul]
  exact Nat.mul_le_mul_right _ hj
theorem over_on {old r : Rw} (h : r.b = 3 ∨ old.a ≠ r.a ∨ old.d - 4 < r.d) : over old r = { r with m := if r.m = 0 then old.m else r.m } := if_pos h
theorem over_off {old r : Rw} (h : ¬ (r.b = 3 ∨ old.a ≠ r.a ∨ old.d - 4 < r.d)) : over old r = { old with m := if r.m = 0 then old.m else r.m } := if_neg h
theorem Va.mv {r : Rw} (V : Va r) {m' : Int} (h : 0 ≤ m') (h' : m' ≤ 65535) : Va { r with m := m' } := { V with m0 := h, m1 := h' }
theorem PK_inj {r r' : Rw} (V : Va r) (V' : Va r') (h : PK r = PK r') : r = r' := by
  obtain ⟨k, m, v, d, b, a⟩ := r
  obtain ⟨k', m', v', d', b', a'⟩ := r'
  have e1 : k = k' := by have := PK_k V; rw [h, PK_k V'] at this; exact this.symm
  have e2 : m = m' := by have := PK_m V; rw [h, PK_m V'] at this; exact this.symm
  have e3 : v + 32768 = v' + 32768 := by have := PK_v V; rw [h, PK_v V'] at this; exact this.symm
  have e4 : d + 8 = d' + 8 := by have := PK_d V; rw [h, PK_d V'] at this; exact this.symm
  have e5 : b = b' := by have := PK_b V; rw [h, PK_b V'] at this; exact this.symm
  have e6 : a = a' := by have := PK_a V; rw [h, PK_a V'] at this; exact this.symm
  rw [e1, e2, e5, e6, show v = v' by omega, show d = d' by omega]
theorem PKs_inj : ∀ {rs rs' : List Rw}, (∀ r ∈ rs, Va r) → (∀ r ∈ rs', Va r) → rs.map PK = rs'.map PK → rs = rs'
  | [], [], _, _, _ => rfl
  | [], _ :: _, _, _, h => nomatch h
  | _ :: _, [], _, _, h => nomatch h
  | r :: rs, r' :: rs', V, V', h => by
    obtain ⟨h1, h2⟩ := List.cons.inj h
    rw [PK_inj (V _ (.head _)) (V' _ (.head _)) h1, PKs_inj (fun q hq => V q (.tail _ hq)) (fun q hq => V' q (.tail _ hq)) h2]
theorem slots_mem {w : Nat} {n : Int} : ∀ {css : List (List Rw)}, Fit w css → n ∈ slotsOf w css → n = 0 ∨ ∃ r, Va r ∧ n = PK r
  | [], _, h => nomatch h
  | rs :: css, F, h => by
    rcases List.mem_append.mp h with h | h
    · rcases List.mem_append.mp h with h | h
      · obtain ⟨r, hr, rfl⟩ := List.mem_map.mp h
        exact .inr ⟨r, (F rs (.head _)).2 r hr, rfl⟩
      · exact .inl (List.eq_of_mem_replicate h)
    · exact slots_mem (fun q hq => F q (.tail _ hq)) h
theorem fit_flat {w : Nat} {css : List (List Rw)} (F : Fit w css) : ∀ r ∈ css.flatten, Va r := fun r hr => by
  obtain ⟨rs, h1, h2⟩ := List.mem_flatten.mp hr
  exact (F rs h1).2 r h2
/-- an entry that counts -/
noncomputable def ageP (a n : Int) : Bool := cmpB .NotEq n 0 && (cmpB .Eq (Builtin.bitAnd (n.fdiv (2 ^ Int.toNat 42)) 63) a && true)
theorem ages_map {a : Int} : ∀ {rs : List Rw}, (∀ r ∈ rs, Va r) → ((rs.map PK).filter (ageP a)).length = (rs.filter fun r => decide (r.a = a)).length
  | [], _ => rfl
  | r :: rs, V => by
    have ih := ages_map (a := a) fun q hq => V q (List.mem_cons_of_mem r hq)
    have e : ageP a (PK r) = decide (r.a = a) := by
      unfold ageP
      rw [PK_a (V r (.head _)), show cmpB .NotEq (PK r) 0 = true from decide_eq_true (PK_ne (V r (.head _))), Bool.true_and, Bool.and_true]; rfl
    rw [List.map_cons, List.filter_cons, List.filter_cons, e]
    split
    · rw [List.length_cons, List.length_cons, ih]
    · exact ih
theorem ages_slots {w : Nat} {a : Int} {css : List (List Rw)} (F : Fit w css) : ((slotsOf w css).filter (ageP a)).length = (css.flatten.filter fun r => decide (r.a = a)).length := by
  rw [← ages_map (fit_flat F), ← slots_kept F, List.filter_filter]
  refine congrArg List.length (List.filter_congr fun n _ => ?_)
  by_cases h : n = 0
  · subst h; rfl
  · rw [decide_eq_true h, Bool.and_true]
theorem filter_step {α : Type} {p : α → Bool} {l : List α} {i : Nat} {x : α} (h : l[i]? = some x) : (l.take (i + 1)).filter p = (l.take i).filter p ++ if p x then [x] else [] := by
  rw [List.take_add_one, h, List.filter_append]; simp [List.filter_cons]
/-- a tuple of a row -/
def RowT (l : Led) (d : Addr) (r : Rw) : Prop := ∃ t1 t2 t3 t4 t5 t6, (d, tupO [.int r.k t1, .int r.m t2, .int r.v t3, .int r.d t4, .int r.b t5, .int r.a t6]) ∈ l
theorem RowT.up {l l' : Led} {d : Addr} {r : Rw} (h : ∀ p ∈ l, p ∈ l') : RowT l d r → RowT l' d r := fun ⟨t1, t2, t3, t4, t5, t6, q⟩ => ⟨t1, t2, t3, t4, t5, t6, h _ q⟩
theorem rowsT_up {l l' : Led} {ds : List Addr} {rs : List Rw} (h : ∀ p ∈ l, p ∈ l') (x : Paired (RowT l) ds rs) : Paired (RowT l') ds rs := x.mono fun _ _ => RowT.up h
def Ahead (g : Nat → Int) (i j : Nat) : Prop := g j < g i ∨ (g i = g j ∧ i < j)
structure Ord (g : Nat → Int) (n : Nat) (is : List Nat) : Prop where
  perm : is.Perm (List.range n)
  srt : is.Pairwise (Ahead g)
theorem Ord.uniq {g : Nat → Int} {n : Nat} {is js : List Nat} (a : Ord g n is) (b : Ord g n js) : is = js :=
  List.Perm.eq_of_pairwise (fun x y _ _ h h' => by unfold Ahead at h h'; omega) a.srt b.srt (a.perm.trans b.perm.symm)
theorem Ord.nil {g : Nat → Int} : Ord g 0 [] := ⟨.refl _, .nil⟩
theorem Ord.len {g : Nat → Int} {n : Nat} {is : List Nat} (a : Ord g n is) : is.length = n := by rw [a.perm.length_eq, List.length_range]
theorem Ord.lt {g : Nat → Int} {n i : Nat} {is : List Nat} (a : Ord g n is) (h : i ∈ is) : i < n := List.mem_range.mp (a.perm.mem_iff.mp h)
theorem Ord.ins {g : Nat → Int} {n a : Nat} {is : List Nat} (o : Ord g n is) (h1 : ∀ j, a ≤ j → ∀ q, is[j]? = some q → g q < g n) (h2 : a = 0 ∨ ∃ b q, a = b + 1 ∧ is[b]? = some q ∧ g n ≤ g q) : Ord g (n + 1) (is.take a ++ n :: is.drop a) := by
  have s := o.srt
  rw [← List.take_append_drop a is] at s
  obtain ⟨s1, s2, s3⟩ := List.pairwise_append.mp s
  refine ⟨List.perm_middle.trans ?_, List.pairwise_append.mpr ⟨s1, List.pairwise_cons.mpr ⟨fun q hq => ?_, s2⟩, fun x hx y hy => ?_⟩⟩
  · rw [List.take_append_drop, List.range_succ]
    exact (o.perm.cons n).trans (List.perm_append_comm (l₁ := [n]))
  · obtain ⟨j, hj⟩ := List.getElem?_of_mem hq
    rw [List.getElem?_drop] at hj
    exact .inl (h1 _ (Nat.le_add_right _ _) q hj)
  · rcases List.mem_cons.mp hy with rfl | hy
    · have hxn := o.lt (List.mem_of_mem_take hx)
      have hg : g y ≤ g x := by
        rcases h2 with rfl | ⟨b, q, rfl, hb, hq⟩
        · cases hx
        · rw [List.take_add_one, hb] at hx s1
          rcases List.mem_append.mp hx with h | h
          · have := (List.pairwise_append.mp s1).2.2 x h q (by simp)
            unfold Ahead at this
            omega
          · have : x = q := by simpa using h
            rw [this]; exact hq
      unfold Ahead
      omega
    · exact s3 x hx y hy
/-- rows saved one after the other into an aged table -/
inductive Saves (w : Nat) (css : List (List Rw)) : List Rw → List (List Rw) → Prop
  | nil : Saves w css [] css
  | snoc {rs : List Rw} {r : Rw} {c1 : List (List Rw)} {q q' : List Rw} : Saves w css rs c1 → c1[keyAt c1.length r.k]? = some q → Saved w q { r with a := 0 } q' → Saves w css (rs ++ [r]) (c1.set (keyAt c1.length r.k) q')
theorem Saves.uniq {w : Nat} {css a : List (List Rw)} {rs : List Rw} (x : Saves w css rs a) : ∀ {b : List (List Rw)}, Saves w css rs b → a = b := by
  induction x with
  | nil =>
    intro b y
    generalize e : ([] : List Rw) = l at y
    cases y with
    | nil => rfl
    | snoc => simp at e
  | @snoc rs r c1 q q' x h h' ih =>
    intro b y
    generalize e : rs ++ [r] = l at y
    cases y with
    | nil => simp at e
    | @snoc rs2 r2 c2 q2 q2' y g g' =>
      obtain ⟨rfl, e2⟩ := List.append_inj' e rfl
      cases List.singleton_inj.mp e2
      cases ih y
      rw [h] at g
      cases g
      rw [h'.uniq g']
theorem fmod_other (a b : Int) : (b - a - 1).fmod 64 = 63 - (a - b).fmod 64 := by
  rw [Int.fmod_eq_emod_of_nonneg _ (by decide), Int.fmod_eq_emod_of_nonneg _ (by decide)]; omega
theorem paired_get {α β : Type} {R : α → β → Prop} : ∀ {as : List α} {bs : List β}, Paired R as bs → ∀ {i : Nat} {b : β}, bs[i]? = some b → ∃ a, as[i]? = some a ∧ R a b
  | _, _, .nil, _, _, h => by cases h
  | _, _, .cons h t, 0, _, e => by cases e; exact ⟨_, rfl, h⟩
  | _, _, .cons h t, i + 1, _, e => paired_get t e
theorem paired_get' {α β : Type} {R : α → β → Prop} : ∀ {as : List α} {bs : List β}, Paired R as bs → ∀ {i : Nat} {a : α}, as[i]? = some a → ∃ b, bs[i]? = some b ∧ R a b
  | _, _, .nil, _, _, h => by cases h
  | _, _, .cons h t, 0, _, e => by cases e; exact ⟨_, rfl, h⟩
  | _, _, .cons h t, i + 1, _, e => paired_get' t e
/-- the order in which load_rows saves -/
noncomputable def gOf (age : Int) (rs : List Rw) (i : Nat) : Int := match rs[i]? with
  | some r => (age - r.a).fmod 64
  | none => 0
theorem gOf_at {age : Int} {rs : List Rw} {i : Nat} {r : Rw} (h : rs[i]? = some r) : gOf age rs i = (age - r.a).fmod 64 := by unfold gOf; rw [h]
noncomputable def rowAt (rs : List Rw) (i : Nat) : Rw := match rs[i]? with
  | some r => r
  | none => ⟨0, 0, 0, 0, 0, 0⟩
theorem rowAt_at {rs : List Rw} {i : Nat} {r : Rw} (h : rs[i]? = some r) : rowAt rs i = r := by unfold rowAt; rw [h]
noncomputable def refAt (ds : List Addr) (i : Nat) : Value := match ds[i]? with
  | some d => .ref d
  | none => .none
theorem refAt_at {ds : List Addr} {i : Nat} {d : Addr} (h : ds[i]? = some d) : refAt ds i = .ref d := by unfold refAt; rw [h]
theorem map_ins {α β : Type} (f : α → β) (l : List α) (a : Nat) (x : α) : (l.map f).take a ++ f x :: (l.map f).drop a = (l.take a ++ x :: l.drop a).map f := by
  rw [List.map_append, List.map_cons, List.map_take, List.map_drop]
theorem cast_pred (b : Nat) : ((b + 1 : Nat) : Int) - 1 = (b : Int) := by omega
theorem cast_below {b n : Nat} (h : b + 1 ≤ n) (hn : n ≤ 1000) : 0 ≤ ((b + 1 : Nat) : Int) - 1 ∧ ((b + 1 : Nat) : Int) - 1 < 2 ^ 63 ∧ (((b + 1 : Nat) : Int) - 1).toNat = b := by omega
/-! the law's own lists -/
abbrev Rw.l (r : Rw) : List Int := [r.k, r.m, r.v, r.d, r.b, r.a]
def RowL (l : Led) (d : Addr) (r : Rw) : Prop := ∃ vs n, (d, lstO vs n) ∈ l ∧ IntsAre vs r.l
theorem RowL.up {l l' : Led} {d : Addr} {r : Rw} (h : ∀ p ∈ l, p ∈ l') : RowL l d r → RowL l' d r := fun ⟨vs, n, a, b⟩ => ⟨vs, n, h _ a, b⟩
def RowsF (a : Addr) (rs : List Rw) (l : Led) : Prop := ∃ ds n, (a, lstO (ds.map .ref) n) ∈ l ∧ Paired (RowL l) ds rs ∧ a ∉ ds ∧ ds.Nodup
theorem RowsF.up {l l' : Led} {a : Addr} {rs : List Rw} (h : ∀ p ∈ l, p ∈ l') : RowsF a rs l → RowsF a rs l' := fun ⟨ds, n, x, y, z⟩ => ⟨ds, n, h _ x, y.mono fun _ _ => RowL.up h, z⟩
inductive SepC : List Addr → List (List Rw) → Led → Prop
  | nil {l : Led} : SepC [] [] l
  | cons {a : Addr} {rs : List Rw} {as : List Addr} {css : List (List Rw)} {l l1 l2 : Led} : RowsF a rs l1 → SepC as css l2 → (∀ p ∈ l1, p ∈ l) → (∀ p ∈ l2, p ∈ l) → (∀ p ∈ l1, ∀ q ∈ l2, p.1 ≠ q.1) → SepC (a :: as) (rs :: css) l
theorem SepC.up {as : List Addr} {css : List (List Rw)} {l l' : Led} (h : ∀ p ∈ l, p ∈ l') : SepC as css l → SepC as css l'
  | .nil => .nil
  | .cons a b c d e => .cons a b (fun p hp => h p (c p hp)) (fun p hp => h p (d p hp)) e
theorem SepC.len {as : List Addr} {css : List (List Rw)} {l : Led} : SepC as css l → as.length = css.length
  | .nil => rfl
  | .cons _ b _ _ _ => congrArg (· + 1) b.len
theorem SepC.pair {as : List Addr} {css : List (List Rw)} {l : Led} : SepC as css l → Paired (fun a rs => RowsF a rs l) as css
  | .nil => .nil
  | .cons a b c d _ => .cons (a.up c) (b.pair.mono fun _ _ => RowsF.up d)
theorem SepC.at : ∀ {as : List Addr} {css : List (List Rw)} {l : Led} {j : Nat} {rs : List Rw}, SepC as css l → css[j]? = some rs → ∃ a l1 l2, as[j]? = some a ∧ RowsF a rs l1 ∧ (∀ p ∈ l1, p ∈ l) ∧ (∀ p ∈ l2, p ∈ l) ∧ (∀ p ∈ l2, ∀ q ∈ l1, p.1 ≠ q.1) ∧
    ∀ rs' l1', RowsF a rs' l1' → (∀ p ∈ l2, ∀ q ∈ l1', p.1 ≠ q.1) → SepC as (css.set j rs') (l1' ++ l2)
  | _, _, _, 0, _, .cons a b c d e, h => by
    cases h
    exact ⟨_, _, _, rfl, a, c, d, fun p hp q hq => (e q hq p hp).symm, fun rs' l1' x y => .cons x b (fun p => List.mem_append_left _) (fun p => List.mem_append_right _) fun p hp q hq => (y q hq p hp).symm⟩
  | _, _, _, j + 1, _, .cons (l1 := lh) (l2 := lt) a b c d e, h => by
    obtain ⟨x, l1, l2, h1, h2, h3, h4, h5, h6⟩ := b.at (j := j) h
    refine ⟨x, l1, lh ++ l2, h1, h2, fun p hp => d p (h3 p hp), fun p hp => (List.mem_append.mp hp).elim (c p) fun w => d p (h4 p w), fun p hp q hq => (List.mem_append.mp hp).elim (fun w => e p w q (h3 q hq)) fun w => h5 p w q hq, fun rs' l1' y z => ?_⟩
    refine .cons a (h6 rs' l1' y fun p hp => z p (List.mem_append_right _ hp)) (fun p hp => List.mem_append_right _ (List.mem_append_left _ hp)) (fun p hp => (List.mem_append.mp hp).elim (List.mem_append_left _) fun w => List.mem_append_right _ (List.mem_append_right _ w)) fun p hp q hq => ?_
    rcases List.mem_append.mp hq with w | w
    · exact z p (List.mem_append_left _ hp) q w
    · exact e p hp q (h4 q w)
/-- the list of clusters -/
def CF (cs : Addr) (css : List (List Rw)) (l : Led) : Prop := ∃ as n l2, (cs, lstO (as.map .ref) n) ∈ l ∧ SepC as css l2 ∧ (∀ p ∈ l2, p ∈ l) ∧ ∀ q ∈ l2, cs ≠ q.1
theorem CF.up {cs : Addr} {css : List (List Rw)} {l l' : Led} (h : ∀ p ∈ l, p ∈ l') : CF cs css l → CF cs css l' := fun ⟨as, n, l2, a, b, c, d⟩ => ⟨as, n, l2, h _ a, b, fun p hp => h p (c p hp), d⟩
/-- one row of a cluster is put anew -/
theorem rows_put {l : Led} {a d : Addr} {ds : List Addr} {rs : List Rw} {r' : Rw} {i n n' : Nat} {vs : List Value} (ha : (a, lstO (ds.map .ref) n) ∈ l) (hP : Paired (RowL l) ds rs) (hn : a ∉ ds) (nd : ds.Nodup) (hd : ds[i]? = some d) (I : IntsAre vs r'.l) :
    RowsF a (rs.set i r') (put d (lstO vs n') l) := by
  refine ⟨ds, n, put_off ha fun e => hn (e ▸ List.mem_of_getElem? hd), ?_, hn, nd⟩
  clear hn ha
  induction hP generalizing i with
  | nil => cases hd
  | @cons d0 r0 ds rs h t ih =>
    obtain ⟨n1, n2⟩ := List.nodup_cons.mp nd
    cases i with
    | zero =>
      cases hd
      refine .cons ⟨vs, n', put_at, I⟩ ?_
      have : ∀ d' ∈ ds, d' ≠ d := fun d' h e => n1 (e ▸ h)
      clear ih n1 nd n2
      induction t with
      | nil => exact .nil
      | @cons d1 r1 ds rs h' t ih => exact .cons (by obtain ⟨vs, n, a, b⟩ := h'; exact ⟨vs, n, put_off a (this _ (.head _)), b⟩) (ih fun d' h => this d' (.tail _ h))
    | succ i =>
      have ne : d0 ≠ d := fun e => n1 (e ▸ List.mem_of_getElem? hd)
      exact .cons (by obtain ⟨vs, n, a, b⟩ := h; exact ⟨vs, n, put_off a ne, b⟩) (ih n2 hd)
theorem paired_put {l : Led} {a : Addr} {o : Obj} {ds : List Addr} {rs : List Rw} (hP : Paired (RowL l) ds rs) (hn : a ∉ ds) : Paired (RowL (put a o l)) ds rs := by
  induction hP with
  | nil => exact .nil
  | @cons d r ds rs h t ih => exact .cons (by obtain ⟨vs, n, x, y⟩ := h; exact ⟨vs, n, put_off x fun e => hn (e ▸ .head _), y⟩) (ih fun h => hn (.tail _ h))
theorem paired_set {α β : Type} {R : α → β → Prop} {x : α} {y : β} (h : R x y) : ∀ {as : List α} {bs : List β}, Paired R as bs → ∀ i, Paired R (as.set i x) (bs.set i y)
  | _, _, .nil, _ => .nil
  | _, _, .cons a t, 0 => .cons h t
  | _, _, .cons a t, i + 1 => .cons a (paired_set h t i)
theorem nodup_set {α : Type} {x : α} : ∀ {as : List α}, as.Nodup → x ∉ as → ∀ i, (as.set i x).Nodup
  | [], h, _, _ => h
  | a :: as, h, n, 0 => List.nodup_cons.mpr ⟨fun q => n (.tail _ q), (List.nodup_cons.mp h).2⟩
  | a :: as, h, n, i + 1 => List.nodup_cons.mpr ⟨fun q => (List.mem_or_eq_of_mem_set q).elim (List.nodup_cons.mp h).1 fun e => n (e ▸ .head _), nodup_set (List.nodup_cons.mp h).2 (fun q => n (.tail _ q)) i⟩
theorem ints6 {vs : List Value} {a b c d e f : Int} (I : IntsAre vs [a, b, c, d, e, f]) : ∃ t1 t2 t3 t4 t5 t6, vs = [.int a t1, .int b t2, .int c t3, .int d t4, .int e t5, .int f t6] := by
  cases I with | cons _ t1 I => cases I with | cons _ t2 I => cases I with | cons _ t3 I => cases I with | cons _ t4 I => cases I with | cons _ t5 I => cases I with | cons _ t6 I => cases I with | nil => exact ⟨t1, t2, t3, t4, t5, t6, rfl⟩
theorem map_ref {ds : List Addr} {i : Nat} {v : Value} (h : (ds.map Value.ref)[i]? = some v) : ∃ d, ds[i]? = some d ∧ v = .ref d := by
  rw [List.getElem?_map] at h
  cases e : ds[i]? with
  | none => rw [e] at h; cases h
  | some d => rw [e] at h; cases h; exact ⟨d, rfl, rfl⟩
/-- the cluster of a key -/
theorem at_key {as : List Addr} {css : List (List Rw)} {a : Addr} {key : Int} (hl : as.length = css.length) (c0 : 0 < css.length) (c1 : css.length ≤ 3) (h : as[keyAt css.length key]? = some a) :
    0 ≤ key.fmod ((as.map Value.ref).length : Int) ∧ key.fmod ((as.map Value.ref).length : Int) < 2 ^ 63 ∧ (as.map Value.ref)[(key.fmod ((as.map Value.ref).length : Int)).toNat]? = some (.ref a) ∧ ((as.map Value.ref).length : Int) ≠ 0 := by
  have e : ((as.map Value.ref).length : Int) = (css.length : Int) := by rw [List.length_map, hl]
  rw [e]
  refine ⟨Int.fmod_nonneg_of_pos _ (by omega), ?_, by rw [List.getElem?_map]; show (as[keyAt css.length key]?).map _ = _; rw [h]; rfl, by omega⟩
  exact Int.lt_of_lt_of_le (Int.fmod_lt_of_pos _ (by omega)) (by omega)
theorem keep_cond {a b c d e : Int} : (cmpB .Eq b 3 || (cmpB .NotEq a e || (cmpB .GtE d (c - 3) || false))) = true ↔ (b = 3 ∨ a ≠ e ∨ c - 4 < d) := by
  rw [Bool.or_false, Bool.or_eq_true, Bool.or_eq_true]
  refine or_congr decide_eq_true_iff (or_congr decide_eq_true_iff (decide_eq_true_iff.trans ?_))
  omega
theorem rows_mem {l : Led} {ds : List Addr} {rs : List Rw} (h : Paired (RowL l) ds rs) : ∀ d ∈ ds, ∃ o, (d, o) ∈ l := by
  induction h with
  | nil => exact fun _ h => nomatch h
  | cons a t ih => exact fun d hd => (List.mem_cons.mp hd).elim (fun e => by subst e; obtain ⟨vs, n, q, _⟩ := a; exact ⟨_, q⟩) (ih d)
/-- a joint behind a statement -/
theorem S_cut {c : Cx} {env : Env} {st : Stmt} {rest : List Stmt} {k : Flow → Mp → Led → Prop} {m : Mp} {l : Led} (Q : Led → Prop) (x : W c env (exec st env) (fun f m' l' => f = .next ∧ m' = m ∧ Q l') m l) (y : ∀ l', Q l' → W c env (execs rest env) k m l') : W c env (execs (st :: rest) env) k m l :=
  S_cons (x.mono fun f m' l' z => by
    obtain ⟨rfl, rfl, z⟩ := z
    exact y l' z)
theorem idx_le : ∀ {ns : List Int} {i : Nat} {x : Int}, ns[i]? = some x → ns.idxOf x ≤ i
  | [], _, _, h => by cases h
  | a :: ns, 0, x, h => by
    cases h
    rw [List.idxOf_cons]
    simp
  | a :: ns, i + 1, x, h => by
    rw [List.idxOf_cons]
    have := idx_le (ns := ns) h
    cases (a == x)
    · exact Nat.succ_le_succ this
    · exact Nat.zero_le _
theorem amin_idx {ns : List Int} {M : Int} (h : M ∈ ns) (hm : ∀ x, x ∈ ns → M ≤ x) : IsAmin ns ns.length (ns.idxOf M) := by
  have h1 := List.idxOf_lt_length_of_mem h
  have g : ∀ i, (hi : i < ns.length) → ns[i]! = ns[i] := fun i hi => by rw [List.getElem!_eq_getElem?_getD, List.getElem?_eq_getElem hi]; rfl
  have h2 : ns[ns.idxOf M]! = M := by rw [g _ h1]; exact List.getElem_idxOf h1
  refine ⟨h1, fun i hi => ?_, fun i hi => ?_⟩
  · have hl := Nat.lt_trans hi h1
    rw [h2, g i hl]
    have ne : ns[i] ≠ M := fun e => by
      have h3 : ns.idxOf M ≤ i := idx_le (by rw [List.getElem?_eq_getElem hl, e])
      omega
    have := hm _ (List.getElem_mem hl)
    omega
  · rw [h2, g i hi]
    exact hm _ (List.getElem_mem hi)
theorem wv_small {age : Int} {r : Rw} (V : Va r) : (wv age r).natAbs < 2 ^ 64 := by
  have h0 := Int.fmod_nonneg_of_pos (age - r.a) (show (0 : Int) < 64 by decide)
  have h1 := Int.fmod_lt_of_pos (age - r.a) (show (0 : Int) < 64 by decide)
  have := V.d0
  have := V.d1
  unfold wv
  omega
theorem take_snoc {α : Type} {l : List α} {i : Nat} {x : α} (h : l[i]? = some x) : l.take (i + 1) = l.take i ++ [x] := by rw [List.take_add_one, h]; rfl
theorem over_l {old r : Rw} (h : r.b = 3 ∨ old.a ≠ r.a ∨ old.d - 4 < r.d) (hk : old.k = r.k) : (over old r).l = [old.k, if r.m = 0 then old.m else r.m, r.v, r.d, r.b, r.a] := by rw [over_on h, hk]
theorem over_l' {old r : Rw} (h : ¬ (r.b = 3 ∨ old.a ≠ r.a ∨ old.d - 4 < r.d)) : (over old r).l = [old.k, if r.m = 0 then old.m else r.m, old.v, old.d, old.b, old.a] := by rw [over_off h]
/-- one cluster of the list, and how it is put anew -/
structure Row1 (cs : Addr) (css : List (List Rw)) (j : Nat) (rs : List Rw) (a : Addr) (ds : List Addr) (l : Led) : Prop where
  rows : Paired (RowL l) ds rs
  ne : ∀ d ∈ ds, a ≠ d
  put : ∀ i d r' vs' n' l', ds[i]? = some d → IntsAre vs' r'.l → (d, lstO vs' n') ∈ l' → (∀ p ∈ l, p.1 ≠ d → p ∈ l') → CF cs (css.set j (rs.set i r')) l'
  add : ∀ ds' rs' n'' d vs r' n' l', (∀ p ∈ l, p.1 ≠ d) → (d, lstO vs n') ∈ l' → IntsAre vs r'.l → ((ds' = ds ++ [d] ∧ rs' = rs ++ [r']) ∨ ∃ i, ds' = ds.set i d ∧ rs' = rs.set i r') → (a, lstO (ds'.map .ref) n'') ∈ l' → (∀ p ∈ l, p.1 ≠ a → p ∈ l') → CF cs (css.set j rs') l'
theorem CF.one {cs : Addr} {css : List (List Rw)} {l : Led} {j : Nat} {rs : List Rw} (T : CF cs css l) (hr : css[j]? = some rs) : ∃ (as : List Addr) (n : Nat) (a : Addr) (ds : List Addr) (nd : Nat), (cs, lstO (as.map .ref) n) ∈ l ∧ as.length = css.length ∧ as[j]? = some a ∧ (a, lstO (ds.map .ref) nd) ∈ l ∧ Row1 cs css j rs a ds l := by
  obtain ⟨as, n, l2, hc, sep, su, sd⟩ := T
  obtain ⟨a, lj, lo, ha, ⟨ds, nd, hd, hP, hnd, hdn⟩, sj, so, dj, re⟩ := sep.at hr
  have up : ∀ p ∈ lj, p ∈ l := fun p hp => su p (sj p hp)
  refine ⟨as, n, a, ds, nd, hc, sep.len, ha, up _ hd, hP.mono fun _ _ => RowL.up up, fun d h e => hnd (e ▸ h), ?_, ?_⟩
  · intro i d r' vs' n' l' hi I h1 keep
    obtain ⟨r0, _, vs0, n0, q0, _⟩ := paired_get' hP hi
    have dc : ∀ q ∈ Mine.put d (lstO vs' n') lj, (q.1 = d) ∨ q ∈ lj := fun q hq => (put_mem hq).elim (fun e => .inl (congrArg Prod.fst e)) fun w => .inr w.1
    refine ⟨as, n, _, keep _ hc (sd _ (sj _ q0)), re _ _ (rows_put hd hP hnd hdn hi I) fun p hp q hq => (dc q hq).elim (fun e => e ▸ dj p hp _ q0) (dj p hp q), fun p hp => ?_, fun q hq => ?_⟩
    · rcases List.mem_append.mp hp with w | w
      · rcases put_mem w with rfl | w
        · exact h1
        · exact keep _ (up _ w.1) w.2
      · exact keep _ (su _ (so _ w)) (dj p w _ q0)
    · rcases List.mem_append.mp hq with w | w
      · exact (dc q w).elim (fun e => e ▸ sd _ (sj _ q0)) fun w => sd _ (sj _ w)
      · exact sd _ (so _ w)
  · intro ds' rs' n'' d vs r' n' l' fr h1 I hx h2 keep
    have da : a ≠ d := fr _ (up _ hd)
    have dn : d ∉ ds := fun h => by
      obtain ⟨o, ho⟩ := rows_mem hP d h
      exact fr _ (up _ ho) rfl
    have P0 : Paired (RowL ((d, lstO vs n') :: lj)) ds rs := hP.mono fun _ _ => RowL.up fun p hp => .tail _ hp
    have R0 : RowL ((d, lstO vs n') :: lj) d r' := ⟨vs, n', .head _, I⟩
    have big : Paired (RowL ((d, lstO vs n') :: lj)) ds' rs' ∧ a ∉ ds' ∧ ds'.Nodup := by
      rcases hx with ⟨rfl, rfl⟩ | ⟨i, rfl, rfl⟩
      · exact ⟨P0.snoc R0, fun h => (List.mem_append.mp h).elim hnd fun h => da (List.mem_singleton.mp h), List.nodup_append.mpr ⟨hdn, by simp, fun x hx y hy e => dn (by rw [← List.mem_singleton.mp hy, ← e]; exact hx)⟩⟩
      · exact ⟨paired_set R0 P0 i, fun h => (List.mem_or_eq_of_mem_set h).elim hnd da, nodup_set hdn dn i⟩
    have dc : ∀ q ∈ Mine.put a (lstO (ds'.map .ref) n'') ((d, lstO vs n') :: lj), q.1 = a ∨ q.1 = d ∨ q ∈ lj := fun q hq => (put_mem hq).elim (fun e => .inl (congrArg Prod.fst e)) fun w => .inr ((List.mem_cons.mp w.1).imp (congrArg Prod.fst) id)
    refine ⟨as, n, _, keep _ hc (sd _ (sj _ hd)), re _ _ ⟨ds', n'', put_at, paired_put big.1 big.2.1, big.2⟩ fun p hp q hq => ?_, fun p hp => ?_, fun q hq => ?_⟩
    · rcases dc q hq with e | e | w
      · exact e ▸ dj p hp _ hd
      · exact e ▸ fr p (su _ (so _ hp))
      · exact dj p hp q w
    · rcases List.mem_append.mp hp with w | w
      · rcases put_mem w with rfl | ⟨w, e⟩
        · exact h2
        · rcases List.mem_cons.mp w with rfl | w
          · exact h1
          · exact keep _ (up _ w) e
      · exact keep _ (su _ (so _ w)) (dj p w _ hd)
    · rcases List.mem_append.mp hq with w | w
      · rcases dc q w with e | e | w
        · exact e ▸ sd _ (sj _ hd)
        · exact e ▸ fr _ hc
        · exact sd _ (sj _ w)
      · exact sd _ (so _ w)
section
variable {cmp : Nat → Nat → (Bool → Shared → Prop) → Shared → Prop} {n : Nat} {z : Nat → Int} {s : Shared}
/-- the value at a place -/
abbrev pz (z : Nat → Int) (p : Array Nat) (i : Nat) : Int := z (p.getD i 0)
abbrev Pm (n : Nat) (p : Array Nat) : Prop := p.toList.Perm (List.range n)
abbrev Srt (z : Nat → Int) (p : Array Nat) (k : Nat) : Prop := ∀ i j, i < j → j < k → pz z p i < pz z p j
abbrev Dsc (z : Nat → Int) (p : Array Nat) (k : Nat) : Prop := ∀ i j, i < j → j < k → pz z p j < pz z p i
theorem Pm.size {p : Array Nat} (h : Pm n p) : p.size = n := by have := h.length_eq; rwa [List.length_range] at this
theorem Pm.at {p : Array Nat} (h : Pm n p) {i : Nat} (hi : i < n) : p.getD i 0 < n ∧ p[i]? = some (p.getD i 0) := by
  have hs : i < p.size := h.size ▸ hi
  have e : p[i]? = some (p.getD i 0) := by rw [Array.getD_eq_getD_getElem?, Array.getElem?_eq_getElem hs]; rfl
  exact ⟨List.mem_range.mp (h.mem_iff.mp (Array.mem_toList_iff.mpr (Array.mem_of_getElem? e))), e⟩
theorem Pm.ne {p : Array Nat} (h : Pm n p) (hz : ∀ i j, i < n → j < n → z i = z j → i = j) {i j : Nat} (hi : i < n) (hj : j < n) (ne : i ≠ j) : pz z p i ≠ pz z p j := fun e => by
  have e1 := hz _ _ (h.at hi).1 (h.at hj).1 e
  have nd : p.toList.Nodup := h.nodup_iff.mpr List.nodup_range
  have a := (h.at hi).2
  have b := (h.at hj).2
  rw [← e1] at b
  rw [← Array.getElem?_toList] at a b
  exact ne ((List.getElem?_inj (List.getElem?_eq_some_iff.mp a).1 nd).mp (a.trans b.symm))
theorem getD_of {p q : Array Nat} {i j : Nat} (h : p[i]? = q[j]?) : p.getD i 0 = q.getD j 0 := by rw [Array.getD_eq_getD_getElem?, Array.getD_eq_getD_getElem?, h]
theorem grow {p : Array Nat} {a : Nat} {lt : Int → Int → Prop} (tr : ∀ {a b c}, lt a b → lt b c → lt a c) (hs : ∀ i j, i < j → j < a → lt (pz z p i) (pz z p j)) (h : lt (pz z p (a - 1)) (pz z p a)) : ∀ i j, i < j → j < a + 1 → lt (pz z p i) (pz z p j) := fun i j hij hj => by
  rcases Nat.lt_succ_iff_lt_or_eq.mp hj with g | rfl
  · exact hs i j hij g
  · rcases Nat.lt_or_ge i (j - 1) with g | g
    · exact tr (hs i (j - 1) g (Nat.sub_lt (Nat.zero_lt_of_lt hij) Nat.one_pos)) h
    · cases Nat.le_antisymm g (Nat.le_sub_one_of_lt hij)
      exact h
theorem kasc {p : Array Nat} (hc : ∀ i j C, i < n → j < n → C (decide (z i < z j)) s → cmp i j C s) (hz : ∀ i j, i < n → j < n → z i = z j → i = j) (P : Pm n p) {Q : Nat → Shared → Prop} : ∀ f a, 1 ≤ a → a + f ≤ n → Srt z p a →
    (∀ b, a ≤ b → b ≤ a + f → Srt z p b → (b = a + f ∨ pz z p b < pz z p (b - 1)) → Q b s) → (kas_asc p f a).kasWp cmp Q s
  | 0, a, _, _, hs, q => q a (Nat.le_refl _) (Nat.le_refl _) hs (.inl rfl)
  | f + 1, a, h1, h2, hs, q => by
    have ha : a < n := Nat.lt_of_lt_of_le (Nat.lt_add_of_pos_right (Nat.succ_pos f)) h2
    have ha' : a - 1 < n := Nat.lt_of_le_of_lt (Nat.sub_le a 1) ha
    have hl : a - 1 < a := Nat.sub_lt h1 Nat.one_pos
    have e := Nat.succ_add_eq_add_succ a f
    refine hc _ _ _ (P.at ha).1 (P.at ha').1 ?_
    by_cases c : pz z p a < pz z p (a - 1)
    · dsimp only; rw [decide_eq_true c, if_pos rfl]
      exact q a (Nat.le_refl _) (Nat.le_add_right _ _) hs (.inr c)
    · dsimp only; rw [decide_eq_false c, if_neg Bool.false_ne_true]
      exact kasc hc hz P f (a + 1) (Nat.succ_pos a) (e ▸ h2) (grow (lt := (· < ·)) Int.lt_trans hs (Int.lt_iff_le_and_ne.mpr ⟨Int.not_lt.mp c, P.ne hz ha' ha (Nat.ne_of_lt hl)⟩)) fun b h3 h4 h5 h6 => q b (Nat.le_of_succ_le h3) (e ▸ h4) h5 (h6.imp (fun w => w.trans e) id)
theorem kdesc {p : Array Nat} (hc : ∀ i j C, i < n → j < n → C (decide (z i < z j)) s → cmp i j C s) (hz : ∀ i j, i < n → j < n → z i = z j → i = j) (P : Pm n p) {Q : Array Nat × Nat × Nat → Shared → Prop} : ∀ f a, 1 ≤ a → a + f ≤ n → Dsc z p a →
    (∀ b, a ≤ b → b ≤ a + f → Dsc z p b → Q (p, b, 0) s) → (kas_desc f p a 0).kasWp cmp Q s
  | 0, a, _, _, hs, q => q a (Nat.le_refl _) (Nat.le_refl _) hs
  | f + 1, a, h1, h2, hs, q => by
    refine hc _ _ _ (P.at (by omega)).1 (P.at (by omega)).1 ?_
    by_cases c : pz z p a < pz z p (a - 1)
    · dsimp only; rw [decide_eq_true c, if_pos rfl, if_neg (Nat.lt_irrefl 0)]
      refine kdesc hc hz P f (a + 1) (by omega) (by omega) (fun i j hij hj => ?_) fun b h3 h4 => q b (by omega) (by omega)
      rcases Nat.lt_succ_iff_lt_or_eq.mp hj with h | rfl
      · exact hs i j hij h
      · rcases Nat.lt_or_ge i (j - 1) with g | g
        · have := hs i (j - 1) g (by omega); omega
        · cases (show i = j - 1 by omega); omega
    · dsimp only; rw [decide_eq_false c, if_neg Bool.false_ne_true]
      refine hc _ _ _ (P.at (by omega)).1 (P.at (by omega)).1 ?_
      have c' := P.ne hz (i := a - 1) (j := a) (by omega) (by omega) (by omega)
      dsimp only; rw [decide_eq_true (show pz z p (a - 1) < pz z p a by omega), if_pos rfl]
      exact q a (Nat.le_refl _) (Nat.le_add_right _ _) hs
theorem rev_perm {p : Array Nat} (P : Pm n p) (i j : Nat) : Pm n (kas_rev p i j) := (Array.perm_iff_toList_perm.mp (mirror_perm p i j _)).trans P
theorem rev_srt {p : Array Nat} (P : Pm n p) {b : Nat} (hb : b ≤ n) (h : Dsc z p b) : Srt z (kas_rev p 0 b) b := fun i j hij hj => by
  have e : ∀ i, i < b → (kas_rev p 0 b).getD i 0 = p.getD (b - 1 - i) 0 := fun i hi => getD_of (by
    unfold kas_rev
    rw [getElem?_mirror_all (by rw [P.size]; exact hb), if_pos ⟨Nat.zero_le _, hi⟩, Nat.zero_add])
  show z _ < z _
  rw [e i (by omega), e j hj]
  exact h (b - 1 - j) (b - 1 - i) (by omega) (by omega)
theorem kcount {p : Array Nat} (hc : ∀ i j C, i < n → j < n → C (decide (z i < z j)) s → cmp i j C s) (hz : ∀ i j, i < n → j < n → z i = z j → i = j) (P : Pm n p) (h2 : 2 ≤ n) {Q : Nat × Array Nat → Shared → Prop}
    (q : ∀ b p', Pm n p' → 1 ≤ b → b ≤ n → Srt z p' b → Q (b, p') s) : (kas_count n p).kasWp cmp Q s := by
  unfold kas_count
  rw [KasT.kasWp_bind]
  refine kasc hc hz P (n - 1) 1 (Nat.le_refl _) (by omega) (fun i j h1 h2 => by omega) fun b h3 h4 h5 h6 => ?_
  by_cases hb : b = n
  · rw [if_pos (by simpa using hb)]
    exact q b p P h3 (by omega) h5
  rw [if_neg (by simpa using hb)]
  by_cases h1 : b > 1
  · rw [if_pos h1]
    refine hc _ _ _ (P.at (by omega)).1 (P.at (by omega)).1 ?_
    dsimp only; rw [decide_eq_true (h5 0 (b - 1) (by omega) (by omega)), if_pos rfl]
    exact q b p P h3 (by omega) h5
  rw [if_neg h1]
  have b1 : b = 1 := by omega
  subst b1
  unfold kas_descPart
  rw [KasT.kasWp_bind]
  refine kdesc hc hz P (n - (1 + 1)) (1 + 1) (by omega) (by omega) (fun i j g1 g2 => ?_) fun b g1 g2 g3 => ?_
  · have := h6.resolve_left (by omega)
    cases (show j = 1 by omega)
    cases (show i = 0 by omega)
    exact this
  rw [if_neg (Nat.lt_irrefl 0)]
  unfold kas_tail3
  rw [KasT.kasWp_bind]
  exact kasc hc hz (rev_perm P 0 b) (n - b) b (by omega) (by omega) (rev_srt P (by omega) g3) fun d k1 k2 k3 _ => q d _ (rev_perm P 0 b) (by omega) (by omega) k3
theorem kplace {p : Array Nat} (hc : ∀ i j C, i < n → j < n → C (decide (z i < z j)) s → cmp i j C s) (hz : ∀ i j, i < n → j < n → z i = z j → i = j) (P : Pm n p) {k : Nat} (hk : k < n) (hs : Srt z p k) {Q : Nat → Shared → Prop}
    (q : ∀ l, l ≤ k → (∀ i, i < l → pz z p i < pz z p k) → (∀ i, l ≤ i → i < k → pz z p k < pz z p i) → Q l s) : ∀ f l r, l ≤ r → r ≤ k → r ≤ l + f → (∀ i, i < l → pz z p i < pz z p k) → (∀ i, r ≤ i → i < k → pz z p k < pz z p i) → (kas_place p k f l r).kasWp cmp Q s
  | 0, l, r, h1, h2, h3, h4, h5 => q l (by omega) h4 fun i hi => h5 i (by omega)
  | f + 1, l, r, h1, h2, h3, h4, h5 => by
    unfold kas_place
    by_cases c : l ≥ r
    · rw [if_pos c]
      exact q l (by omega) h4 fun i hi => h5 i (by omega)
    rw [if_neg c]
    have m1 : l ≤ (l + r) / 2 := by omega
    have m2 : (l + r) / 2 < r := by omega
    generalize (l + r) / 2 = d at m1 m2 ⊢
    refine hc _ _ _ (P.at hk).1 (P.at (by omega)).1 ?_
    by_cases g : pz z p k < pz z p d
    · dsimp only; rw [decide_eq_true g, if_pos rfl]
      refine kplace hc hz P hk hs q f l d m1 (by omega) (by omega) h4 fun i hi hik => ?_
      rcases Nat.lt_or_ge d i with w | w
      · exact Int.lt_trans g (hs d i w hik)
      · cases (show i = d by omega); exact g
    · dsimp only; rw [decide_eq_false g, if_neg Bool.false_ne_true]
      have c' := P.ne hz (i := d) (j := k) (by omega) hk (by omega)
      refine kplace hc hz P hk hs q f (d + 1) r m2 h2 (by omega) (fun i hi => ?_) h5
      rcases Nat.lt_succ_iff_lt_or_eq.mp hi with w | rfl
      · have := hs i d w (by omega); omega
      · omega
theorem kbin (hc : ∀ i j C, i < n → j < n → C (decide (z i < z j)) s → cmp i j C s) (hz : ∀ i j, i < n → j < n → z i = z j → i = j) {Q : Array Nat → Shared → Prop} (q : ∀ p, Pm n p → Srt z p n → Q p s) : ∀ f p k, k + f = n → Pm n p → Srt z p k → (kas_bin f p k).kasWp cmp Q s
  | 0, p, k, h1, P, hs => q p P (by rw [← h1]; exact hs)
  | f + 1, p, k, h1, P, hs => by
    refine Eq.mpr (KasT.kasWp_bind _ _) ?_
    refine kplace hc hz P (by omega) hs (fun l hl b1 b2 => ?_) k 0 k (Nat.zero_le _) (Nat.le_refl _) (by omega) (fun i h => absurd h (Nat.not_lt_zero _)) fun i h h' => absurd h (Nat.not_le.mpr h')
    have e : ∀ i, i ≤ k → (bubble p k (k - l)).getD i 0 = p.getD (if i = l then k else if l < i then i - 1 else i) 0 := fun i hi => getD_of (by
      rw [getElem?_bubble (by rw [P.size]; omega) _ (Nat.sub_le _ _), show k - (k - l) = l by omega]
      by_cases h : i = l
      · rw [if_pos h, if_pos h]
      · rw [if_neg h, if_neg h]
        by_cases h' : l < i
        · rw [if_pos ⟨h', hi⟩, if_pos h']
        · rw [if_neg fun w => h' w.1, if_neg h'])
    refine kbin hc hz q f _ (k + 1) (by omega) ((Array.perm_iff_toList_perm.mp (bubble_perm p k _)).trans P) fun i j hij hj => ?_
    show z _ < z _
    rw [e i (by omega), e j (by omega)]
    by_cases c1 : i = l
    · rw [if_pos c1, if_neg (by omega), if_pos (by omega)]
      exact b2 (j - 1) (by omega) (by omega)
    rw [if_neg c1]
    by_cases c2 : j = l
    · rw [if_pos c2, if_neg (by omega)]
      exact b1 i (by omega)
    rw [if_neg c2]
    by_cases c3 : l < i
    · rw [if_pos c3, if_pos (by omega)]
      exact hs _ _ (by omega) (by omega)
    rw [if_neg c3]
    by_cases c4 : l < j
    · rw [if_pos c4]
      exact hs _ _ (by omega) (by omega)
    · rw [if_neg c4]
      exact hs _ _ hij (by omega)
/-- the sort sorts -/
theorem ksort (hc : ∀ i j C, i < n → j < n → C (decide (z i < z j)) s → cmp i j C s) (hz : ∀ i j, i < n → j < n → z i = z j → i = j) (h2 : 2 ≤ n) {Q : Array Nat → Shared → Prop} (q : ∀ p, Pm n p → Srt z p n → Q p s) : (kas_sort n).kasWp cmp Q s := by
  unfold kas_sort
  rw [KasT.kasWp_bind]
  refine kcount hc hz (by show (List.range n).Perm _; exact .refl _) h2 fun b p P h1 h3 h4 => ?_
  by_cases c : b < n
  · rw [if_pos c]
    have e : max b 1 = b := Nat.max_eq_left h1
    exact kbin hc hz q _ _ _ (by rw [e]; omega) P (by rw [e]; exact h4)
  · rw [if_neg c]
    exact q p P (by rw [show n = b by omega]; exact h4)
end
section
variable {prog : Program} {w : World} {A : Around} {E : Value → Shared → Prop} {s : Shared}
theorem sort_short {a : Addr} {vs : List Value} {n : Nat} {P : PySem.Fin → Shared → Prop} (ho : s.heap.get? a = some (seqObj "list" vs.toArray n)) (h2 : vs.length < 2)
    (h : P (.done (.ret .none)) { s with heap := sortedHeap s.heap a vs vs.toArray }) : wpAny (model prog w) A (Builtin.«list.sort» ⟨[.ref a], []⟩) P E s := by
  rw [list_sort_plain]
  have ha : a < s.heap.objs.size := Heap.lt_size ho
  refine wpAny_bind (listItems_at ho rfl ?_)
  refine wpAny_bind (listUpdate_at ho rfl ?_ (by rw [List.size_toArray, sizeLine_eq]; omega) (Nat.zero_le _))
  obtain ⟨e1, ho1⟩ : ∃ e1, (s.heap.update a (Obj.mapSeq fun _ => #[])).get? a = some (seqObj "list" #[] e1) := ⟨_, get?_update_seq ho (fun _ => #[])⟩
  refine wpAny_bind (seqEpoch_at ho1 rfl ?_)
  refine wpAny_bind (wpAny_newTuple ?_ (by show vs.length ≤ _; rw [sizeLine_eq]; omega))
  refine wpAny_bind (wpAny_newList ?_ (Nat.zero_le _))
  refine wpAny_holding ?_
  have ho6 : (((s.heap.update a (Obj.mapSeq fun _ => #[])).push (seqObj "tuple" vs.toArray 0)).push (seqObj "list" #[] 0)).get? a = some (seqObj "list" #[] e1) := by
    rw [Heap.get?_push_ne _ _ _ (by rw [size_push', Heap.size_update]; exact Nat.ne_of_lt (Nat.lt_succ_of_lt ha)), Heap.get?_push_ne _ _ _ (by rw [Heap.size_update]; exact Nat.ne_of_lt ha)]
    exact ho1
  show wpAny (model prog w) A _ P E { s with heap := ((s.heap.update a (Obj.mapSeq fun _ => #[])).push (seqObj "tuple" vs.toArray 0)).push (seqObj "list" #[] 0) }
  dsimp only
  have h2' : vs.toArray.size < 2 := by rw [List.size_toArray]; exact h2
  rw [if_pos h2', if_pos h2']
  refine wpAny_bind (wpAny_pure ?_)
  rw [StateT.run_pure]
  refine wpAny_bind (wpAny_pure ?_)
  dsimp only
  refine wpAny_bind (seqEpoch_at ho6 rfl ?_)
  have hout : (arrOf (SortSt.mk' general' (vs.toArray.zip vs.toArray) #[] 7 none)).map (·.2) = vs.toArray := by
    show (vs.toArray.zip vs.toArray).map Prod.snd = vs.toArray
    rw [Array.map_snd_zip (Nat.le_refl _)]
  rw [hout]
  refine wpAny_bind (listUpdate_at ho6 rfl ?_ (Nat.zero_le _) (by rw [List.size_toArray, sizeLine_eq]; omega))
  simp only [bne_self_eq_false, Bool.false_eq_true, if_false]
  exact wpAny_pure h
theorem sorted_short {a : Addr} {vs : List Value} {Q : Value → Shared → Prop} (hl : s.heap.IsList a vs.toArray) (h2 : vs.length < 2)
    (h : Q (.ref (s.heap.objs.size + 1)) { s with heap := sortedAll s.heap vs vs.toArray }) : wpAny (model prog w) A (call (.builtin "sorted") [.ref a]) Q E s := by
  refine Calls.call_function_entry kind_sorted plain_sorted entry_sorted (args_sorted1 _) ?_
  unfold Builtin.«sorted»
  refine wpAny_bind (m := checkCount "sorted" 1 1 _) (wpAny_pure ?_)
  refine wpAny_bind (collect_list hl ?_ (by rw [sizeLine_eq]; omega))
  refine wpAny_bind (wpAny_newList ?_ (by rw [sizeLine_eq]; omega))
  have hsz : ((s.heap.push (seqObj "list" #[] 0)).update s.heap.objs.size (Obj.mapSeq (· ++ vs.toArray))).objs.size = s.heap.objs.size + 1 := by
    rw [Heap.size_update, size_push']
  have hoL : (((s.heap.push (seqObj "list" #[] 0)).update s.heap.objs.size (Obj.mapSeq (· ++ vs.toArray))).push (seqObj "list" vs.toArray 0)).get? (s.heap.objs.size + 1) = some (seqObj "list" vs.toArray 0) := by
    rw [← hsz]; exact Heap.get?_push_size _ rfl
  show wpAny _ _ _ _ _ { s with heap := ((s.heap.push (seqObj "list" #[] 0)).update s.heap.objs.size (Obj.mapSeq (· ++ vs.toArray))).push (seqObj "list" vs.toArray 0) }
  rw [hsz]
  refine wpAny_bind (wpAny_holding (wpAny_call_entry slot_list_sort ⟨_, hoL, rfl⟩ entry_list_sort (sort_short (s := { s with heap := ((s.heap.push (seqObj "list" #[] 0)).update s.heap.objs.size (Obj.mapSeq (· ++ vs.toArray))).push (seqObj "list" vs.toArray 0) }) hoL h2 ⟨_, rfl, ?_⟩) (args_list_sort _)))
  exact wpAny_pure ⟨_, rfl, h⟩
end
section
variable {c : Cx} {env : Env} {m : Mp} {l : Led} {k : Value → Mp → Led → Prop}
/-- pairs of a key and a place -/
abbrev PairT (l : Led) (d : Addr) (q : Int × Nat) : Prop := ∃ t u, (d, tupO [.int q.1 t, .int (q.2 : Int) u]) ∈ l
theorem kat_of {h : Heap} (S : ∀ p ∈ l, h.get? p.1 = some p.2) : ∀ {ds : List Addr} {qs : List (Int × Nat)}, Paired (PairT l) ds qs → ∃ fs, KatTups h (ds.map .ref) fs ∧ fs.length = ds.length ∧ ∀ v ∈ fs, ∃ b t, v = Value.int b t
  | _, _, .nil => ⟨[], .nil, rfl, fun _ h => nomatch h⟩
  | _, _, .cons a t => by
    obtain ⟨fs, h1, h2, h3⟩ := kat_of S t
    obtain ⟨u, v, a⟩ := a
    exact ⟨_ :: fs, .cons (S _ a) rfl rfl rfl h1, congrArg (· + 1) h2, fun x hx => (List.mem_cons.mp hx).elim (fun e => ⟨_, _, e⟩) (h3 x)⟩
/-- before -/
abbrev PLt (qs : List (Int × Nat)) (i j : Nat) : Prop := (qs.getD i (0, 0)).1 < (qs.getD j (0, 0)).1 ∨ ((qs.getD i (0, 0)).1 = (qs.getD j (0, 0)).1 ∧ i < j)
theorem getD_ref {ds : List Addr} {i : Nat} {d : Addr} (h : ds[i]? = some d) : (ds.map Value.ref).getD i Value.none = .ref d := by
  rw [List.getD_eq_getElem?_getD, List.getElem?_map, h]; rfl
theorem M_sorted {a : Addr} {ds : List Addr} {qs : List (Int × Nat)} {e : Nat} (hm : (a, lstO (ds.map .ref) e) ∈ l) (P : Paired (PairT l) ds qs) (hl : ds.length < 64) (hq : ∀ i (q : Int × Nat), qs[i]? = some q → q.2 = i)
    (x : ∀ D (is : List Nat) e', (∀ p ∈ l, p.1 < D) → is.Perm (List.range ds.length) → is.Pairwise (PLt qs) → k (.ref D) m ((D, lstO (is.map fun i => (ds.map Value.ref).getD i .none) e') :: l)) : W c env (call (.builtin "sorted") [.ref a]) k m l := fun h tk S => by
  have ll : (ds.map Value.ref).length = ds.length := List.length_map _
  have lq : qs.length = ds.length := P.length.symm
  by_cases h2 : (ds.map Value.ref).length < 2
  · refine sorted_short (S.isList hm) h2 ?_
    obtain ⟨e', he⟩ := sortedAll_at h (ds.map Value.ref) (ds.map Value.ref).toArray
    refine .mk (S.new (S.F.kept fun _ _ => sortedAll_old) (S.N.kept_cons S.F (fun _ _ => sortedAll_old) (Nat.le_succ _) he) fun p hp => Nat.lt_succ_of_lt (Heap.lt_size (S.N p hp).1)) ?_
    have := x (h.objs.size + 1) (List.range ds.length) e' (fun p hp => Nat.lt_succ_of_lt (Heap.lt_size (S.get hp))) (.refl _) (List.pairwise_lt_range.imp_of_mem fun hi hj hij => by
      have := List.mem_range.mp hj; omega)
    rw [show ((List.range ds.length).map fun i => (ds.map Value.ref).getD i Value.none) = ds.map Value.ref from List.ext_getElem (by simp) fun i h1 h2 => by
      have hd : i < ds.length := by simpa using h2
      simp [List.getElem?_eq_getElem hd]] at this
    exact this
  · refine kat_sorted S.F S.N (S.isList hm) (Nat.le_of_not_lt h2) (by rw [ll]; exact hl) fun D e1 h' F' N' lt => ?_
    obtain ⟨fs, k1, k2, k3⟩ := kat_of (l := l) (h := h') (fun p hp => (N' p (.tail _ (List.mem_append_left _ hp))).1) P
    refine kat_kind (T := .type "int") k1 (by rw [k2]; omega) (fun v hv => ?_) (by decide) ?_
    · obtain ⟨b, t, rfl⟩ := k3 v hv
      exact .now
    refine ksort (z := fun i => (qs.getD i (0, 0)).1 * 64 + (i : Int)) (fun i j C hi hj hC => ?_) (fun i j hi hj hz => ?_) (Nat.le_of_not_lt h2) fun p Pp hs => ?_
    · rw [ll] at hi hj
      obtain ⟨⟨b, i'⟩, gi, t, u, mi⟩ := paired_get' P (List.getElem?_eq_getElem hi)
      obtain ⟨⟨b', j'⟩, gj, t', u', mj⟩ := paired_get' P (List.getElem?_eq_getElem hj)
      cases (hq _ _ gi)
      cases (hq _ _ gj)
      rw [List.getD_eq_getElem?_getD, List.getD_eq_getElem?_getD, gi, gj] at hC
      replace hC : C (decide (b * 64 + (i' : Int) < b' * 64 + (j' : Int))) _ := hC
      unfold kas_ask
      rw [getD_ref (List.getElem?_eq_getElem hi), getD_ref (List.getElem?_eq_getElem hj)]
      refine kat_lt (N' _ (.tail _ (List.mem_append_left _ mi))).1 rfl (N' _ (.tail _ (List.mem_append_left _ mj))).1 rfl ?_
      show KatLex _ _ _ _ _ C [(.int b t, .int b' t'), (.int (i' : Int) u, .int (j' : Int) u')] 0 _
      refine kat_cons (wpAny_eqBool_int ?_)
      by_cases e1 : b = b'
      · rw [show (b == b') = true by simpa using e1]
        refine kat_yes (kat_cons (wpAny_eqBool_int ?_))
        by_cases e2 : (i' : Int) = (j' : Int)
        · rw [show ((i' : Int) == (j' : Int)) = true by simpa using e2]
          refine kat_yes (kat_nil ?_)
          rw [decide_eq_false (by omega)] at hC
          exact hC
        · rw [show ((i' : Int) == (j' : Int)) = false by simpa using e2]
          refine kat_no ?_
          show wpAny _ _ (oneLt' false _ _) _ _ _
          refine kat_one _ _ (PyProof.Rows.lt_int ?_)
          rw [show decide (b * 64 + (i' : Int) < b' * 64 + (j' : Int)) = decide ((i' : Int) < (j' : Int)) from decide_eq_decide.mpr (by omega)] at hC
          exact hC
      · rw [show (b == b') = false by simpa using e1]
        refine kat_no ?_
        show wpAny _ _ (oneLt' true _ _) _ _ _
        refine oneLt_int ?_
        rw [show decide (b * 64 + (i' : Int) < b' * 64 + (j' : Int)) = decide (b < b') from decide_eq_decide.mpr (by omega)] at hC
        exact hC
    · rw [ll] at hi hj
      omega
    · refine .intro F' N' (.head fun q hq => Nat.ne_of_lt (lt q hq)) fun h'' c'' F'' N'' => .mk (S.new F'' N'' lt) (x D p.toList c'' (fun p hp => lt p (List.mem_append_left _ hp)) (ll ▸ Pp) ?_)
      refine List.pairwise_iff_getElem.mpr fun i j h3 h4 hij => ?_
      rw [Pp.length_eq, List.length_range] at h3 h4
      have e1 : ∀ i (h : i < p.toList.length), p.toList[i] = p.getD i 0 := fun i h => by
        rw [Array.getD_eq_getD_getElem?, Array.getElem?_eq_getElem (by simpa using h)]; rfl
      have a1 := (Pp.at h3).1
      have a2 := (Pp.at h4).1
      have a3 := hs i j hij h4
      rw [e1, e1]
      rw [ll] at a1 a2
      replace a3 : (qs.getD (p.getD i 0) (0, 0)).1 * 64 + ((p.getD i 0 : Nat) : Int) < (qs.getD (p.getD j 0) (0, 0)).1 * 64 + ((p.getD j 0 : Nat) : Int) := a3
      show _ ∨ _
      omega
end
section
variable {prog : Program} {w : World} {A : Around} {E : Value → Shared → Prop} {s : Shared} {v0 v1 v2 v3 v4 v5 : Value}
theorem item_take5 {t sl : Addr} {u : Tok} {Q : Value → Shared → Prop} (ht : IsTup s.heap t #[v0, v1, v2, v3, v4, v5]) (hs : s.heap.IsSliceOf sl .none (.int 5 u) .none)
    (h : Q (.ref s.heap.objs.size) { s with heap := s.heap.push { cls := .type "tuple", data := .seq #[v0, v1, v2, v3, v4] } }) : wpAny (model prog w) A (getItem (.ref t) (.ref sl)) Q E s := by
  obtain ⟨os, hos, hcs, hds⟩ := id hs
  have hTs : s.TypeIs (.ref sl) "slice" := ⟨os, hos, hcs⟩
  unfold getItem
  try with_reducible refine wpAny_holding ?_
  first | refine wpAny_bind (wpAny_pure ?_) | skip
  refine wpAny_bind (wpAny_sequenceKey ht.typeIs (by decide) ?_)
  refine wpAny_bind (wpAny_callSpecial?_slot (name := Str.ofString "__getitem__") ht.typeIs slot_tuple_getitem
    (wpAny_call_entry slot_tuple_getitem ht.typeIs entry_tuple_getitem ?_ (args_tuple_getitem _ _)))
  show wpAny _ _ (Builtin.Tuple.tupleItemsOf (.ref t) >>= _) _ _ s
  refine wpAny_bind (tupleItemsOf_ ht ?_)
  refine wpAny_bind (wpAny_typeOf hTs ?_)
  rw [if_pos (by decide)]
  refine wpAny_bind (m := Builtin.Slice.sliceApplied _ _) ?_
  unfold Builtin.Slice.sliceApplied Builtin.Slice.sliceFields
  refine wpAny_bind (wpAny_bind (wpAny_field hos hds (x := .none) rfl (wpAny_bind (wpAny_field hos hds (x := .int 5 u) rfl (wpAny_bind (wpAny_field hos hds (x := .none) rfl (wpAny_pure ?_)))))))
  refine wpAny_bind (slicePart_none ?_)
  show wpAny _ _ (if ((1 : Int) == 0) = true then _ else _) _ _ s
  rw [if_neg (by decide)]
  refine wpAny_bind (slicePart_none (wpAny_bind (slicePart_int (wpAny_bind (wpAny_pure ?_)))))
  show wpAny _ _ (pure ((0 : Int), (1 : Int), 5)) _ _ s
  refine wpAny_pure ?_
  show wpAny _ _ (if ((0 : Int) == 0 && (1 : Int) == 1 && (5 : Nat) == 6) = true then _ else _) _ _ s
  rw [if_neg (by decide)]
  have hd : sizeOk (.seq #[v0, v1, v2, v3, v4]) := by show 5 ≤ sizeLine; rw [sizeLine_eq]; omega
  have e : ((List.range 5).filterMap fun (k : Nat) => #[v0, v1, v2, v3, v4, v5][((0 : Int) + (k : Int) * 1).toNat]?).toArray = #[v0, v1, v2, v3, v4] := rfl
  rw [e]
  first
    | exact wpAny_bind (m := Builtin.Tuple.tupleExact _) (wpAny_newObj_type (wpAny_pure ⟨_, rfl, wpAny_pure h⟩) hd)
    | exact wpAny_bind (m := Builtin.Tuple.tupleExact _) (wpAny_newObj_type (wpAny_bind (wpAny_pure (wpAny_pure ⟨_, rfl, wpAny_pure h⟩))) hd)
    | exact wpAny_bind (wpAny_bind (m := Builtin.Tuple.tupleExact _) (wpAny_newObj_type (wpAny_pure (wpAny_pure ⟨_, rfl, wpAny_pure h⟩)) hd))
    | exact wpAny_bind (wpAny_bind (m := Builtin.Tuple.tupleExact _) (wpAny_newObj_type (wpAny_pure ⟨_, rfl, wpAny_pure h⟩) hd))
end
section
variable {c : Cx} {env : Env} {m : Mp} {l : Led} {k : Value → Mp → Led → Prop}
theorem E_take5 {a : Expr} {u : Nat} {p5 sp pos : Pos} (x : W c env (eval a env) (fun v m' l' => ∃ t v0 v1 v2 v3 v4 v5, v = .ref t ∧ (t, tupO [v0, v1, v2, v3, v4, v5]) ∈ l' ∧ ∀ D, (∀ p ∈ l', p.1 < D) → k (.ref D) m' ((D, tupO [v0, v1, v2, v3, v4]) :: l')) m l)
    (hs : (fun (t D : Addr) => subscripted (.Slice none (some (.Constant (.int 5) u p5)) none sp) false (.ref t) (.ref D)) = fun t D => operate [.ref D, .ref t] (getItem (.ref t) (.ref D))) :
    W c env (eval (.Subscript a (.Slice none (some (.Constant (.int 5) u p5)) none sp) pos) env) k m l := fun h tk S =>
  Subscript_ (x.to S fun v s z0 => z0.st fun h1 tk1 m1 l1 e S1 z1 => by
    obtain ⟨t, v0, v1, v2, v3, v4, v5, rfl, ht, z⟩ := z1
    subst e
    have lt := fun p hp => Heap.lt_size (S1.N p hp).1
    refine wpAny_Slice (wpAny_pure ?_)
    show wpAny _ _ (eval (.Constant (.int 5) u p5) env) _ _ _
    refine wpAny_Constant_int (wpAny_pure ?_)
    refine tail_any (T := "tuple") ((S1.isTup ht).keeps fun _ _ e => Heap.get?_push_of_some _ e).typeIs slot_tuple_getitem.lookup (item_take5 ((S1.isTup ht).keeps fun _ _ e => Heap.get?_push_of_some _ e) (Heap.IsSliceOf.new ..) ?_) (congrFun (congrFun hs t) _)
    have N1 := News.push (S1.F.push { cls := .type "slice", data := .fields #[.none, .int 5 tk1, .none] }) (S1.N.grown fun _ _ e => Heap.get?_push_of_some _ e) { cls := .type "tuple", data := .seq #[v0, v1, v2, v3, v4] }
    exact .mk (S1.new ((S1.F.push _).push _) N1 fun p hp => by rw [Heap.size_push]; exact Nat.lt_succ_of_lt (lt p hp)) (z _ fun p hp => by rw [Heap.size_push]; exact Nat.lt_succ_of_lt (lt p (List.mem_append_left _ hp))))
end
open PyProof.V PySem.SeqAt
theorem SepC.snoc {d : Addr} : ∀ {as : List Addr} {css : List (List Rw)} {l l' : Led}, SepC as css l → (d, lstO [] 0) ∈ l' → (∀ p ∈ l, p ∈ l') → (∀ p ∈ l, p.1 ≠ d) → SepC (as ++ [d]) (css ++ [[]]) l'
  | _, _, _, _, .nil, h, _, _ => .cons (l1 := [(d, lstO [] 0)]) (l2 := []) ⟨[], 0, .head _, .nil, fun h => (nomatch h), .nil⟩ .nil (fun p hp => List.mem_singleton.mp hp ▸ h) (fun _ h => nomatch h) fun _ _ _ h => nomatch h
  | _, _, _, _, .cons (l1 := l1) (l2 := l2) a b c e f, h, u, n =>
    .cons (l2 := (d, lstO [] 0) :: l2) a (b.snoc (.head _) (fun p hp => .tail _ hp) fun p hp => n p (e p hp)) (fun p hp => u p (c p hp)) (fun p hp => (List.mem_cons.mp hp).elim (fun q => q ▸ h) fun q => u p (e p q))
      fun p hp q hq => (List.mem_cons.mp hq).elim (fun w => by rw [w]; exact n p (c p hp)) (f p hp q)
theorem keyAt_set {css : List (List Rw)} {j : Nat} {rs : List Rw} : (css.set j rs).length = css.length := List.length_set
section
variable {K : Params → Frag} {P : Program} {c : Cx} {env : Env} {m : Mp} {l : Led} {k : Flow → Mp → Led → Prop} {n : Nat} {scope : Scope} {cl : List (PySem.Str × Addr)} {x : PySem.Str}
/-- new empty clusters -/
theorem newC {iter : Expr} {y : PySem.Str} {lp px py pos spos : Pos} (o : Ok K P c n) (N : Nat) (hN : N ≤ 3)
    (it : W c env (eval iter env) (fun xv m' l' => m' = m ∧ IsRng xv l' 0 N ∧ ∀ p ∈ l, p ∈ l') m l)
    (done : ∀ D lx l', CF D (List.replicate N []) lx → (∀ p ∈ lx, p ∈ l') → (∀ p ∈ l, p ∈ l') → (∀ p ∈ l, ∀ q ∈ lx, p.1 ≠ q.1) → k .next (fun z => if z = y then some (.ref D) else m z) l')
    (hclos : closureFor scope env = pure cl) (hcell : ∀ z ∈ scope.names, z.2 ≠ .cell) (hkind : scope.kind = .function) (hnames : ∀ z ∈ scope.names, z.2 = .local → scope.names.lookup z.1 = some .local) (hx : scope.names.lookup x = some .local)
    (hsw : swapsWith (.ListComp (.List [] lp) [⟨.Name x px, iter, [], 0⟩] scope pos) (some (.Name y py)) spos.line env = pure true) (hy : autoParam (env.kindOf y = some .local) PySem.W.nameX_K._auto_1) (hk : autoParam (env.scope.kind = .function) PySem.W.nameX_K._auto_1) (hs : autoParam (∀ x, foldedSetIterable iter env x = pure x) PyProof.Rows.LCg.ListComp_U._auto_1) :
    W c env (exec (.Assign [.Name y py] (.ListComp (.List [] lp) [⟨.Name x px, iter, [], 0⟩] scope pos) spos) env) k m l :=
  L_U_range o N (fun i ys l' => ∃ as lc, ys = as.map .ref ∧ SepC as (List.replicate i []) lc ∧ (∀ p ∈ lc, p ∈ l') ∧ (∀ p ∈ l, p ∈ l') ∧ ∀ p ∈ l, ∀ q ∈ lc, p.1 ≠ q.1) (by omega)
    (it.mono fun xv m' l' z => ⟨z.1, z.2.1, [], [], rfl, .nil, fun _ h => (nomatch h), z.2.2, fun _ _ _ h => (nomatch h)⟩)
    (fun c' o' i t ys l₁ C m₂ hi hJ hx hT => by
      obtain ⟨as, lc, rfl, h1, h2, h3, h4⟩ := hJ
      refine E_list (A_nil (N_lst (fun D lt => ?_) rfl))
      refine ⟨rfl, as ++ [D], (D, lstO [] 0) :: lc, by rw [List.map_append]; rfl, ?_, fun p hp => (List.mem_cons.mp hp).elim (fun e => e ▸ .head _) fun e => .tail _ (h2 p e), fun p hp => .tail _ (h3 p hp), fun p hp q hq => (List.mem_cons.mp hq).elim (fun e => by rw [e]; exact Nat.ne_of_lt (lt p (h3 p hp))) (h4 p hp q)⟩
      rw [List.replicate_succ']
      exact h1.snoc (.head _) (fun p hp => .tail _ hp) fun p hp => Nat.ne_of_lt (lt p (h2 p hp)))
    (fun ys l' D hJ off => by
      obtain ⟨as, lc, rfl, h1, h2, h3, h4⟩ := hJ
      exact done D ((D, _) :: lc) _ ⟨as, _, lc, .head _, h1, fun p hp => .tail _ hp, fun q hq => (off q (h2 q hq)).symm⟩ (fun p hp => (List.mem_cons.mp hp).elim (fun e => e ▸ .head _) fun e => .tail _ (h2 p e)) (fun p hp => .tail _ (h3 p hp)) fun p hp q hq => (List.mem_cons.mp hq).elim (fun e => by rw [e]; exact off p (h3 p hp)) (h4 p hp q))
    hclos hcell hkind hnames hx hsw hy hk hs
end
theorem Ok.fr {K : Params → Frag} {P : Program} {c : Cx} {n k : Nat} {z : Led} (o : Ok K P c n) (h : k ≤ n) : Ok K P { c with z := z } k := have q := o.le h; ⟨⟨q.B, q.X, q.T, q.hd, q.hu⟩, q.hn⟩
theorem rows_rd {l : Led} : ∀ {ds : List Addr} {rs : List Rw}, Paired (RowT l) ds rs → Paired (fun d n => Rd l (.ref d) (.tuple (n.map .int))) ds (rs.map Rw.l)
  | _, _, .nil => .nil
  | _, _, .cons a t => .cons (by
      obtain ⟨t1, t2, t3, t4, t5, t6, a⟩ := a
      exact Rd.tup a (.cons _ _ (.cons _ _ (.cons _ _ (.cons _ _ (.cons _ _ (.cons _ _ .nil))))))) (rows_rd t)
theorem C_eqRows {K : Params → Frag} {P : Program} {c : Cx} {env : Env} {m : Mp} {l : Led} {k : Value → Mp → Led → Prop} {n D D' e e' : Nat} {ds ds' : List Addr} {rs rs' : List Rw} (o : Ok K P c n) (h : (D, lstO (ds.map .ref) e) ∈ l) (p : Paired (RowT l) ds rs) (h' : (D', lstO (ds'.map .ref) e') ∈ l) (p' : Paired (RowT l) ds' rs')
    (z : k (.bool (decide (rs.map Rw.l = rs'.map Rw.l))) m l) : W c env (compareOp .Eq (.ref D) (.ref D')) k m l :=
  C_eqD o (Rd.tups h (rows_rd p)) (Rd.tups h' (rows_rd p')) (shaped_tups _) (shaped_tups _) (by simp only [noMix]; exact mixAll_tups _ _) (by
    rw [show PySem.Spec.same (.list _) (.list _) = _ from by simp only [PySem.Spec.same]; exact sameAll_tups _ _]
    exact z)
theorem range_2 {n i : Nat} {g : Nat → Int} {q : Int × Nat} (h : ((List.range n).map fun j => (g j, j))[i]? = some q) : q.2 = i := by
  rw [List.getElem?_map] at h
  obtain ⟨j, hj, rfl⟩ := Option.map_eq_some_iff.mp h
  have := (List.getElem?_eq_some_iff.mp hj).2
  rw [List.getElem_range] at this
  exact this.symm
theorem range_D {n i : Nat} {g : Nat → Int} (h : i < n) : ((List.range n).map fun j => (g j, j)).getD i (0, 0) = (g i, i) := by
  rw [List.getD_eq_getElem?_getD, List.getElem?_map, List.getElem?_range h]; rfl
/-! an except clause -/
section
variable {prog : Program} {w : World} {A₀ : Around} {E : Value → Shared → Prop} {s' : Shared} {base g g₀ G : Heap} {outer : List Env} {L a e C : Addr} {m : Mp} {name : PySem.Str} {scope : Scope} {cd : Value}
  {b₀ : Stmt} {suite : List Stmt} {pos np : Pos} {rest : List ExceptHandler} {Q : Flow → Shared → Prop} {zs : Led} {KF : Frag} {p : Program} {loose : List PySem.Str} {mean : ExcName → Option Value} {mg mb : Mp} {x : PySem.Str}
theorem caughtV (R : RaisedV base G (envOf name scope L a cd :: outer) e (.ref C) zs s'.heap) (F : Fr g L G m) (K : Below A₀ base outer g) (hsm : G.UpToSlots s'.heap) (XB : KF.In base) (TB : Top p loose mean mg mb base)
    (ex : nsIn KF mainGlobals x = some (some (.ref C))) (q : ktsIn KF C "BaseException" = true)
    (k : ∀ h' g' oe ws, KtsTurn (outer.filterMap (·.frame)) g g' → Fr g' L h' m → News g' L h' ((e, oe) :: zs) → oe.data = .fields ws → ws[2]? = some .none → (∀ q ∈ zs, q.1 ≠ e) → Below A₀ base outer g' → KF.In g' → Top p loose mean mg mb g' →
      wpAny (model prog w) ((A₀.deeper (envOf name scope L a cd)).mark (some (.ref e))) (execs (b₀ :: suite) (envOf name scope L a cd)) Q E { s' with heap := h' })
    (hk : scope.kind = .function) (hx : (envOf name scope L a cd).kindOf x = some .globalImplicit) (hd : (x == ("__debug__" : PySem.Str)) = false)
    (hE : PassesOwnAt (model prog w) ((A₀.deeper (envOf name scope L a cd)).mark (some (.ref e))) (A₀.deeper (envOf name scope L a cd)) (envOf name scope L a cd) E) :
    wpAny (model prog w) (A₀.deeper (envOf name scope L a cd)) (noteFrame (.ref e) (envOf name scope L a cd))
      (fun _ s₂ => wpAny (model prog w) (A₀.deeper (envOf name scope L a cd)) (setFlight (.ref e) none) (fun _ s₃ =>
        wpAny (model prog w) (A₀.deeper (envOf name scope L a cd)) (handleBy (.ref e) (envOf name scope L a cd) (.ExceptHandler (some (.Name x np)) none (b₀ :: suite) pos :: rest)) Q E s₃) E s₂) E s' := by
  obtain ⟨B, hB, hBG, hl, hy⟩ := R
  have hL : B.get? L = none := by
    obtain ⟨_, ⟨L', _, hf, hn', _⟩, _⟩ := hy.fr
    obtain rfl : L = L' := Option.some.inj hf
    exact hn'
  refine noteV_on (Around.frames_deeper K.stack) rfl hy fun h₄ y₄ u₄ => flightV y₄ fun h₅ y₅ u₅ => ?_
  obtain ⟨g₅, T₅, F₅, K₅⟩ := kts_ground K F hBG y₅.st ((hsm.trans u₄).trans u₅)
  have X₅ : KF.In g₅ := XB.keeps K₅.stays
  have P₅ : TopRead p loose mg mb g₅ := topRead_of (TB.keeps K₅.stays)
  obtain ⟨ob, _, _, _, _, hob, hobc, _⟩ := y₅.tr
  obtain ⟨nm, q', N, bs, bm, hdct, sn, sub, ab, col, dd, k0, k1, k2, k3, k5, newId, hC, hbase, hbT⟩ := kts_cls X₅ q
  have hC₅ := F₅.keep _ _ hC
  refine wpAny_handleBy_cons (codeAny_handlers_test (name_K F₅ X₅ P₅ ex ?_ hk hx hd)) (by intro q; cases q)
  refine wpAny_excMatches_sub_self hC₅ hob hobc hbase (codeAny_handlers_suite ?_)
  refine flightV y₅ fun h₆ y₆ u₆ => ?_
  have u := ((hsm.trans u₄).trans u₅).trans u₆
  obtain ⟨g₆, T₆, F₆, K₆⟩ := kts_ground K F hBG y₆.st u
  obtain ⟨oe, vs, _, _, _, he, hc, hd', _, h2, _⟩ := y₆.tr
  have ne₆ : g₆.get? e = none := T₆.none_ _ (kts_fresh F hBG y₆.new fun o ho m => by
    obtain ⟨_, o', ho', hd⟩ := K.frames.mem m
    rw [ho] at ho'
    cases ho'
    obtain ⟨sl, hs⟩ := u _ _ (F.keep _ _ ho) hd
    rw [he] at hs
    cases hs
    exact hd _ hd')
  refine wpAny_passesOwnAt hE (k h₆ g₆ oe vs T₆ F₆ (fun q hq => ?_) hd' h2 (fun q hq e => ?_) K₆ (XB.keeps K₆.stays) (TB.keeps K₆.stays))
  · rcases List.mem_cons.mp hq with rfl | hq
    · exact (News.more F₆ News.nil he (fun es n q => by rw [hd'] at q; cases q) ne₆) _ (.head _)
    · exact ⟨y₆.st _ _ (hl q hq).1, (fun z => by have := (hl q hq).1; rw [z, hL] at this; cases this), T₆.none_ _ (kts_none F.keep (hl q hq).2.1)⟩
  · have := (hl q hq).1
    rw [e, y₆.new] at this; cases this
end
section
variable {c : Cx} {env : Env} {m : Mp} {l : Led} {k : Value → Mp → Led → Prop} {r : Rw}
theorem with_move_W {v : Int} {te tv : Tok} (o : Ok Hd.KK Hd.QQ c 1) (hf : env.frame = some env.locals) (hke : env.scope.kind = .function) (V : Va r)
   (x : ∀ t, k (.int (PK { r with m := v }) t) m l) : W c env (call (.ref 95) [.int (PK r) te, .int v tv]) k m l := by
  (refine' enter ["entry", "move"] (by assumption) (by first | assumption | exact rfl) (by first | assumption | exact rfl) ?k6 ?k7 ?k9 ?kN ?kB ?c2 ?c3 ?c4 ?c5 ?_; (case k6 => k_is); (case k7 => k_is); (case k9 => exact rfl); (case kN => decide); (case kB => exact rfl); (case c5 => exact rfl); (case c2 => exact rfl); (case c3 => exact rfl); (case c4 => exact rfl); intro c' o' L')
  repeat' (with_reducible first
   | (((show W _ _ (eval (Expr.BinOp _ _ _ _) _) _ _ _; k_dflt (refine' E_pi ?pi fun _ => ?_))); (case pi => repeat' (with_reducible first | exact PI_int | (show PI _ _ _ _ (Expr.Name _ _) _; k_dflt (first | exact PI_loc rfl | exact PI_loc (by assumption) | exact PI_glob (by first | assumption | exact Ok.toOkh (by assumption)) (by k_is))) | apply PI_add | apply PI_sub | apply PI_and)))
   | (show W _ _ (execs _ _) _ _ _; refine S_cons ?_)
   | (show W _ _ (exec _ _) _ _ _; refine S_ret ?_)
   | refine seq_ret ?_
   | refine ret_ret ?_)
  rw [PK_m V, PK_mk]
  exact x _
theorem unpack_W {te : Tok} (o : Ok Hd.KK Hd.QQ c 1) (hf : env.frame = some env.locals) (hke : env.scope.kind = .function) (V : Va r)
   (x : ∀ D t1 t2 t3 t4 t5 t6, (∀ p ∈ l, p.1 < D) → k (.ref D) m ((D, tupO [.int r.k t1, .int r.m t2, .int r.v t3, .int r.d t4, .int r.b t5, .int r.a t6]) :: l)) : W c env (call (.ref 60) [.int (PK r) te]) k m l := by
  (refine' enter ["entry"] (by assumption) (by first | assumption | exact rfl) (by first | assumption | exact rfl) ?k6 ?k7 ?k9 ?kN ?kB ?c2 ?c3 ?c4 ?c5 ?_; (case k6 => k_is); (case k7 => k_is); (case k9 => exact rfl); (case kN => decide); (case kB => exact rfl); (case c5 => exact rfl); (case c2 => exact rfl); (case c3 => exact rfl); (case c4 => exact rfl); intro c' o' L')
  repeat' (with_reducible first
   | (((show W _ _ (eval (Expr.BinOp _ _ _ _) _) _ _ _; k_dflt (refine' E_pi ?pi fun _ => ?_))); (case pi => repeat' (with_reducible first | exact PI_int | (show PI _ _ _ _ (Expr.Name _ _) _; k_dflt (first | exact PI_loc rfl | exact PI_loc (by assumption) | exact PI_glob (by first | assumption | exact Ok.toOkh (by assumption)) (by k_is))) | apply PI_add | apply PI_sub | apply PI_and | apply PI_shr | (show (_ : Int) ≤ _; k_dflt (first | decide | assumption | omega)))))
   | (show W _ _ (eval _ _) _ _ _; first | (show W _ _ (eval (Expr.Name _ _) _) _ _ _; k_dflt (refine E_local rfl ?_)) | refine E_tuple ?_)
   | (show W _ _ (spliced _) _ _ _; first | (show W _ _ (spliced (backTo _ (starEach (_ :: _) _))) _ _ _; k_dflt (refine A_cons ?_)) | refine A_nil ?_)
   | (show W _ _ (execs _ _) _ _ _; refine S_cons ?_)
   | (show W _ _ (exec _ _) _ _ _; first | refine S_ret ?_ | (show W _ _ (exec (Stmt.Assign [Expr.Name _ _] _ _) _) _ _ _; k_dflt (refine S_assign ?_)))
   | (show W _ _ (newTuple _) _ _ _; k_dflt (refine N_tup ?_; intro _ _))
   | refine seq_next ?_
   | refine seq_ret ?_
   | refine ret_ret ?_)
  rw [PK_k V, PK_m V, PK_v V, PK_d V, PK_b V, PK_a V, show r.v + 32768 - 32767 - 1 = r.v from by omega, show r.d + 8 + -8 = r.d from Int.add_neg_cancel_right _ _]
  exact x _ _ _ _ _ _ _ ‹_›
theorem worth_W {age : Int} {te ta : Tok} (o : Ok Hd.KK Hd.QQ c 2) (hf : env.frame = some env.locals) (hke : env.scope.kind = .function) (V : Va r)
   (x : ∀ t, k (.int (wv age r) t) m l) : W c env (call (.ref 74) [.int (PK r) te, .int age ta]) k m l := by
  refine W.shed ?_
  (refine' enter ["entry", "age"] (by assumption) (by first | assumption | exact rfl) (by first | assumption | exact rfl) ?k6 ?k7 ?k9 ?kN ?kB ?c2 ?c3 ?c4 ?c5 ?_; (case k6 => k_is); (case k7 => k_is); (case k9 => exact rfl); (case kN => decide); (case kB => exact rfl); (case c5 => exact rfl); (case c2 => exact rfl); (case c3 => exact rfl); (case c4 => exact rfl); intro c' o' L')
  repeat' (with_reducible first
   | k_dflt ((with_reducible show W _ _ (call (Value.ref 60) _) _ _ _); refine unpack_W o' rfl rfl V ?_; intro _ _ _ _ _ _ _ _)
   | (((show W _ _ (eval (Expr.BinOp _ _ _ _) _) _ _ _; k_dflt (refine' E_pi ?pi fun _ => ?_))); (case pi => repeat' (with_reducible first | exact PI_int | (show PI _ _ _ _ (Expr.Name _ _) _; k_dflt (first | exact PI_loc rfl | exact PI_loc (by assumption) | exact PI_glob (by first | assumption | exact Ok.toOkh (by assumption)) (by k_is))) | apply PI_sub | apply PI_and | apply PI_mul | apply PI_shr | apply PI_mod | (show IntMulOk _ _; first | assumption | k_dflt (exact IntMulOk.of_left (by decide)) | k_dflt (exact IntMulOk.of_right (by decide))) | (show (_ : Int) ≠ _; k_dflt (first | decide | assumption | omega)) | (show (_ : Int) ≤ _; k_dflt (first | decide | assumption | omega)))))
   | (show W _ _ (eval _ _) _ _ _; first | (show W _ _ (eval (Expr.Name _ _) _) _ _ _; k_dflt (refine E_local rfl ?_)) | (show W _ _ (eval (Expr.Name _ _) _) _ _ _; k_dflt (refine E_glob (by first | assumption | exact Ok.toOkh (by assumption)) (by k_is) ?_)) | (refine E_int ?_; intro _) | refine E_binop ?_ | refine E_sub ?_ | refine K_name ?_)
   | (show W _ _ (spliced _) _ _ _; first | (show W _ _ (spliced (backTo _ (starEach (_ :: _) _))) _ _ _; k_dflt (refine A_cons ?_)) | refine A_nil ?_)
   | (show W _ _ (execs _ _) _ _ _; refine S_cons ?_)
   | (show W _ _ (exec _ _) _ _ _; refine S_ret ?_)
   | (show W _ _ (binaryOp _ _ _) _ _ _; (refine O_sub ?_; intro _))
   | (show W _ _ (subscriptTail _ _ (Value.ref _) (Value.int _ _)) _ _ _; k_dflt (refine I_tup (by repeat (first | with_reducible exact List.mem_cons_self | assumption | with_reducible apply List.mem_cons_of_mem)) (by decide) (by decide) rfl ?_))
   | (show W _ _ (callWith _ (Value.ref _) _ (backTo _ (starEach (_ :: _) _)) []) _ _ _; k_dflt (refine K_def (by first | assumption | exact Ok.toOkh (by assumption)) (by k_is) ?_))
   | refine seq_ret ?_
   | refine ret_ret ?_)
  rw [PK_a V]
  exact ⟨l, fun _ h => .tail _ h, x _⟩
theorem pushes_W {d b age : Int} {te td tb ta : Tok} (o : Ok Hd.KK Hd.QQ c 2) (hf : env.frame = some env.locals) (hke : env.scope.kind = .function) (V : Va r)
   (x : ∀ p : Bool, (p = true ↔ (b = 3 ∨ r.a ≠ age ∨ r.d - 4 < d)) → k (.bool p) m l) : W c env (call (.ref 88) [.int (PK r) te, .int d td, .int b tb, .int age ta]) k m l := by
  refine W.shed ?_
  (refine' enter ["entry", "depth", "bound", "age"] (by assumption) (by first | assumption | exact rfl) (by first | assumption | exact rfl) ?k6 ?k7 ?k9 ?kN ?kB ?c2 ?c3 ?c4 ?c5 ?_; (case k6 => k_is); (case k7 => k_is); (case k9 => exact rfl); (case kN => decide); (case kB => exact rfl); (case c5 => exact rfl); (case c2 => exact rfl); (case c3 => exact rfl); (case c4 => exact rfl); intro c' o' L')
  have H : (cmpB CmpOp.Eq b 3 || (cmpB CmpOp.NotEq (Builtin.bitAnd ((PK r).fdiv (2 ^ Int.toNat 42)) 63) age || false)) = true ↔ (b = 3 ∨ r.a ≠ age) := by
    rw [PK_a V, Bool.or_false, Bool.or_eq_true]; exact or_congr decide_eq_true_iff decide_eq_true_iff
  repeat' (with_reducible first
   | k_dflt ((with_reducible show W _ _ (call (Value.ref 60) _) _ _ _); refine unpack_W o' rfl rfl V ?_; intro _ _ _ _ _ _ _ _)
   | k_dflt ((with_reducible show two _ _ _ _ _); refine two_if H (fun q => ?_) (fun q => ?_))
   | ((first | (show W _ _ (eval (Expr.BinOp _ _ _ _) _) _ _ _; k_dflt (refine' E_pi ?pi fun _ => ?_)) | (show W _ _ (isTrue _ _ _) _ _ _; k_dflt (refine' T_pt ?pi ?_)) | (show W _ _ (eval (Expr.Compare _ _ _ _) _) _ _ _; k_dflt (refine' E_pv ?pi ?_))); (case pi => repeat' (with_reducible first | exact PI_int | (show PI _ _ _ _ (Expr.Name _ _) _; k_dflt (first | exact PI_loc rfl | exact PI_loc (by assumption) | exact PI_glob (by first | assumption | exact Ok.toOkh (by assumption)) (by k_is))) | apply PI_sub | apply PI_and | apply PI_shr | apply PV_cmp | apply PT_cmp | exact PT_or0 | apply PT_or | (show cmpI _ = true; k_dflt rfl) | (show (_ : Int) ≤ _; k_dflt (first | decide | assumption | omega)))))
   | (show W _ _ (eval _ _) _ _ _; first | (show W _ _ (eval (Expr.Name _ _) _) _ _ _; k_dflt (refine E_local rfl ?_)) | (show W _ _ (eval (Expr.Name _ _) _) _ _ _; k_dflt (refine E_glob (by first | assumption | exact Ok.toOkh (by assumption)) (by k_is) ?_)) | (refine E_int ?_; intro _) | refine E_bool ?_ | refine E_binop ?_ | refine E_sub ?_ | (show W _ _ (eval (Expr.Compare _ [_] [_] _) _) _ _ _; k_dflt (refine E_cmp ?_)) | refine K_name ?_)
   | (show W _ _ (spliced _) _ _ _; first | (show W _ _ (spliced (backTo _ (starEach (_ :: _) _))) _ _ _; k_dflt (refine A_cons ?_)) | refine A_nil ?_)
   | (show W _ _ (execs _ _) _ _ _; first | refine S_cons ?_ | refine S_nil ?_)
   | (show W _ _ (exec _ _) _ _ _; first | refine S_ret ?_ | refine S_If ?_)
   | (show W _ _ (binaryOp _ _ _) _ _ _; (refine O_sub ?_; intro _))
   | (show W _ _ (compareOp _ _ _) _ _ _; refine C_gt ?_)
   | (show W _ _ (subscriptTail _ _ (Value.ref _) (Value.int _ _)) _ _ _; k_dflt (refine I_tup (by repeat (first | with_reducible exact List.mem_cons_self | assumption | with_reducible apply List.mem_cons_of_mem)) (by decide) (by decide) rfl ?_))
   | (show W _ _ (callWith _ (Value.ref _) _ (backTo _ (starEach (_ :: _) _)) []) _ _ _; k_dflt (refine K_def (by first | assumption | exact Ok.toOkh (by assumption)) (by k_is) ?_))
   | refine seq_next ?_
   | refine seq_ret ?_
   | refine ret_ret ?_)
  · exact ⟨l, fun _ h => h, x _ (iff_of_true rfl (q.imp id .inl))⟩
  · exact ⟨l, fun _ h => .tail _ h, x _ (decide_eq_true_iff.trans ⟨fun z => .inr (.inr z), fun z => z.elim (fun z => absurd (.inl z) q) fun z => z.elim (fun z => absurd (.inr z) q) id⟩)⟩
theorem Va.t1 (V : Va r) : cmpB .Lt r.k 0 = false := decide_eq_false (Int.not_lt.mpr V.k0)
theorem t2 {x a b : Int} (h : a ≤ x) (h' : x ≤ b) : (cmpB .Lt x a || (cmpB .Gt x b || false)) = false := by
  rw [show cmpB .Lt x a = false from decide_eq_false (Int.not_lt.mpr h), show cmpB .Gt x b = false from decide_eq_false (Int.not_lt.mpr h')]; rfl
theorem t3 {x a b : Int} (h : a ≤ x) (h' : x < b) : (cmpB .Lt x a || (cmpB .GtE x b || false)) = false := by
  rw [show cmpB .Lt x a = false from decide_eq_false (Int.not_lt.mpr h), show cmpB .GtE x b = false from decide_eq_false (Int.not_le.mpr h')]; rfl
theorem pack_W {tk tm tv td tb ta : Tok} (o : Ok Hd.KK Hd.QQ c 1) (hf : env.frame = some env.locals) (hke : env.scope.kind = .function) (V : Va r) (hk : (Builtin.Int.intBits r.k : Int) ≤ 2000000)
   (x : ∀ t, k (.int (PK r) t) m l) : W c env (call (.ref 53) [.int r.k tk, .int r.m tm, .int r.v tv, .int r.d td, .int r.b tb, .int r.a ta]) k m l := by
  (refine' enter ["key", "move", "value", "depth", "bound", "age"] (by assumption) (by first | assumption | exact rfl) (by first | assumption | exact rfl) ?k6 ?k7 ?k9 ?kN ?kB ?c2 ?c3 ?c4 ?c5 ?_; (case k6 => k_is); (case k7 => k_is); (case k9 => exact rfl); (case kN => decide); (case kB => exact rfl); (case c5 => exact rfl); (case c2 => exact rfl); (case c3 => exact rfl); (case c4 => exact rfl); intro c' o' L')
  have h1 := V.t1
  have h2 := t2 V.m0 V.m1
  have h3 : (cmpB .Lt r.v (-32767) || (cmpB .Gt r.v 32767 || false)) = false := t2 V.v0 V.v1
  have h4 := t2 V.d0 V.d1
  have h5 := t2 V.b0 V.b1
  have h6 := t3 (b := 64) V.a0 (Int.lt_add_one_of_le V.a1)
  have s1 : (Builtin.Int.intBits (r.v + 32767 + 1) : Int) + 16 ≤ 2 ^ 27 := bits_add_le (by have := V.v0; have := V.v1; omega) (by decide)
  have s2 : (Builtin.Int.intBits (r.d - -8) : Int) + 32 ≤ 2 ^ 27 := bits_add_le (by have := V.d0; have := V.d1; omega) (by decide)
  have s3 : (Builtin.Int.intBits r.b : Int) + 40 ≤ 2 ^ 27 := bits_add_le (by have := V.b0; have := V.b1; omega) (by decide)
  have s4 : (Builtin.Int.intBits r.a : Int) + 42 ≤ 2 ^ 27 := bits_add_le (by have := V.a0; have := V.a1; omega) (by decide)
  have s5 : (Builtin.Int.intBits r.k : Int) + 48 ≤ 2 ^ 27 := by omega
  repeat' (with_reducible first
   | ((first | (show W _ _ (eval (Expr.BinOp _ _ _ _) _) _ _ _; k_dflt (refine' E_pi ?pi fun _ => ?_)) | (show W _ _ (isTrue _ _ _) _ _ _; k_dflt (refine' T_pt ?pi ?_))); (case pi => repeat' (with_reducible first | exact PI_int | (show PI _ _ _ _ (Expr.Name _ _) _; k_dflt (first | exact PI_loc rfl | exact PI_loc (by assumption) | exact PI_glob (by first | assumption | exact Ok.toOkh (by assumption)) (by k_is))) | apply PI_add | apply PI_sub | apply PI_or | apply PI_shl | apply PI_neg | apply PT_cmp | exact PT_or0 | apply PT_or | (show cmpI _ = true; k_dflt rfl) | (show ((Builtin.Int.intBits _ : Nat) : Int) + _ ≤ _; assumption) | (show (_ : Int) ≤ _; k_dflt (first | decide | assumption | omega)))))
   | (show W _ _ (execs _ _) _ _ _; first | refine S_cons ?_ | refine S_nil ?_)
   | (show W _ _ (exec _ _) _ _ _; first | refine S_ret ?_ | refine S_If ?_ | (show W _ _ (exec (Stmt.Assign [Expr.Name _ _] _ _) _) _ _ _; k_dflt (refine S_assign ?_)))
   | refine seq_next ?_
   | refine seq_ret ?_
   | refine ret_ret ?_
   | refine two_off (by assumption) ?_)
  rw [PK_or V]
  exact x _
end
section
variable {c : Cx} {env : Env} {m : Mp} {l : Led} {k : Value → Mp → Led → Prop} {r : Rw} {rs : List Rw} {sa n start w : Nat} {vs : List Value}
theorem find_W {key : Int} {ts tw tk : Tok} (o : Ok Hd.KK Hd.QQ c 1) (hf : env.frame = some env.locals) (hke : env.scope.kind = .function) (hm : (sa, lstO vs n) ∈ l) (C : Clu vs start w rs)
   (xh : ∀ (j : Nat) r t, rs[j]? = some r → r.k = key → (∀ i, i < j → ∀ r', rs[i]? = some r' → r'.k ≠ key) → k (.int ((start : Int) + (j : Int)) t) m l) (xm : ∀ t, miss rs key → k (.int (-1) t) m l) :
   W c env (call (.ref 67) [.ref sa, .int start ts, .int w tw, .int key tk]) k m l := by
  have C1 := C.sm
  refine W.shed ?_
  (refine' enter ["slots", "start", "ways", "key"] (by assumption) (by first | assumption | exact rfl) (by first | assumption | exact rfl) ?k6 ?k7 ?k9 ?kN ?kB ?c2 ?c3 ?c4 ?c5 ?_; (case k6 => k_is); (case k7 => k_is); (case k9 => exact rfl); (case kN => decide); (case kB => exact rfl); (case c5 => exact rfl); (case c2 => exact rfl); (case c3 => exact rfl); (case c4 => exact rfl); intro c' o' L')
  refine S_cons ?_
  refine S_range o' w start ((start : Int) + (w : Int)) (fun i m' l' => (∃ p, l' = p :: l) ∧ m' "slots" = some (.ref sa) ∧ m' "key" = some (.int key tk) ∧ ∀ q, q < i → ∀ r, rs[q]? = some r → r.k ≠ key) (by omega) (fun c'' o'' _ => ?_) (fun c'' o'' _ i t m₁ l₁ hi hJ => ?_) (fun m₁ l₁ hJ => ?_)
  · repeat' (with_reducible first
     | (((show W _ _ (eval (Expr.BinOp _ _ _ _) _) _ _ _; k_dflt (refine' E_pi ?pi fun _ => ?_))); (case pi => repeat' (with_reducible first | (show PI _ _ _ _ (Expr.Name _ _) _; k_dflt (first | exact PI_loc rfl | exact PI_loc (by assumption) | exact PI_glob (by first | assumption | exact Ok.toOkh (by assumption)) (by k_is))) | apply PI_add)))
     | (show W _ _ (eval _ _) _ _ _; first | (show W _ _ (eval (Expr.Name _ _) _) _ _ _; k_dflt (refine E_local rfl ?_)) | (show W _ _ (eval (Expr.Name _ _) _) _ _ _; k_dflt (refine E_built (by first | assumption | exact Ok.toOkh (by assumption)) (by k_is) (by boot_fast) ?_ (by decide))) | refine K_name ?_)
     | (show W _ _ (spliced _) _ _ _; first | (show W _ _ (spliced (backTo _ (starEach (_ :: _) _))) _ _ _; k_dflt (refine A_cons ?_)) | refine A_nil ?_)
     | (show W _ _ (callWith _ (Value.type _) _ (backTo _ (starEach (_ :: _) _)) []) _ _ _; k_dflt (refine K_type ?_))
     | (show W _ _ (call (Value.type _) [Value.int _ _, Value.int _ _]) _ _ _; refine M_range2 ?_; intro _ _ _))
    exact ⟨⟨⟨_, _, _, _, rfl, List.mem_cons_self⟩, by omega, by omega, by omega, by omega⟩, ⟨_, rfl⟩, rfl, rfl, fun q h => absurd h (Nat.not_lt_zero _)⟩
  · obtain ⟨⟨p, rfl⟩, e1, e2, e3⟩ := hJ
    obtain ⟨t0, hx⟩ := C.at_ i hi
    have hm' : (sa, lstO vs n) ∈ p :: l := .tail _ hm
    have h0 : 0 ≤ (start : Int) + (i : Int) := Int.natCast_nonneg (start + i)
    have h1 : (start : Int) + (i : Int) < 2 ^ 63 := by omega
    replace hx : vs[((start : Int) + (i : Int)).toNat]? = _ := hx
    have H := slot_hit (key := key) (i := i) C.va
    repeat' (with_reducible first
     | k_dflt ((with_reducible show two _ _ _ _ _); refine two_if H (fun q => ?_) (fun q => ?_))
     | (((show W _ _ (isTrue _ _ _) _ _ _; k_dflt (refine' T_pt ?pi ?_))); (case pi => repeat' (with_reducible first | exact PI_int | (show PI _ _ _ _ (Expr.Name _ _) _; k_dflt (first | exact PI_loc rfl | exact PI_loc (by assumption) | exact PI_glob (by first | assumption | exact Ok.toOkh (by assumption)) (by k_is))) | apply PI_shr | apply PT_cmp | exact PT_and0 | apply PT_and | k_dflt ((with_reducible show PV _ _ _ _ (Expr.Subscript _ _ _) _); exact PV_lst hm' (PV_loc (by first | rfl | assumption)) (PI_loc (by first | rfl | assumption)) h0 h1 hx) | (show PI _ _ _ _ (Expr.Subscript _ _ _) _; apply PI_v) | (show cmpI _ = true; k_dflt rfl) | (show (_ : Int) ≤ _; k_dflt (first | decide | assumption | omega)))))
     | (show W _ _ (eval _ _) _ _ _; (show W _ _ (eval (Expr.Name _ _) _) _ _ _; k_dflt (refine E_local rfl ?_)))
     | (show W _ _ (execs _ _) _ _ _; first | refine S_cons ?_ | refine S_nil ?_)
     | (show W _ _ (exec _ _) _ _ _; first | refine S_ret ?_ | refine S_If ?_)
     | refine seq_next ?_
     | refine seq_ret ?_
     | refine ret_ret ?_
     | refine turn_next ?_
     | refine turn_ret ?_)
    · obtain ⟨r, q1, q2⟩ := q
      exact ⟨l, fun _ h => .tail _ h, xh i r _ q1 q2 e3⟩
    · refine ⟨⟨p, rfl⟩, e1, e2, fun j hj r hr => ?_⟩
      rcases Nat.lt_succ_iff_lt_or_eq.mp hj with g | rfl
      · exact e3 j g r hr
      · exact fun e => q ⟨r, hr, e⟩
  · obtain ⟨⟨p, rfl⟩, e1, e2, e3⟩ := hJ
    repeat' (with_reducible first
     | (((show W _ _ (eval (Expr.UnaryOp UnaryOp.USub _ _) _) _ _ _; k_dflt (refine' E_pi ?pi fun _ => ?_))); (case pi => repeat' (with_reducible first | exact PI_int | apply PI_neg)))
     | (show W _ _ (execs _ _) _ _ _; refine S_cons ?_)
     | (show W _ _ (exec _ _) _ _ _; refine S_ret ?_)
     | refine seq_next ?_
     | refine seq_ret ?_
     | refine ret_ret ?_)
    refine ⟨l, fun _ h => .tail _ h, xm _ fun r hr => ?_⟩
    obtain ⟨j, hj⟩ := List.getElem?_of_mem hr
    exact e3 j (Nat.lt_of_lt_of_le (List.getElem?_eq_some_iff.mp hj).1 C.le) r hj
theorem map_get {i : Nat} {r : Rw} {g : Rw → Int} (h : rs[i]? = some r) : (rs.map g)[i]! = g r := by
  rw [List.getElem!_eq_getElem?_getD, List.getElem?_map, h]; rfl
theorem victim_W {age : Int} {ts tw ta : Tok} (o : Ok Hd.KK Hd.QQ c 3) (hf : env.frame = some env.locals) (hke : env.scope.kind = .function) (hm : (sa, lstO vs n) ∈ l) (C : Clu vs start w rs) (hw : 0 < w)
   (xn : ∀ t, rs.length < w → k (.int ((start : Int) + (rs.length : Int)) t) m l) (xo : ∀ (j : Nat) t, rs.length = w → IsAmin (rs.map (wv age)) w j → k (.int ((start : Int) + (j : Int)) t) m l) :
   W c env (call (.ref 81) [.ref sa, .int start ts, .int w tw, .int age ta]) k m l := by
  have C1 := C.sm
  refine W.shed ?_
  (refine' enter ["slots", "start", "ways", "age"] (by assumption) (by first | assumption | exact rfl) (by first | assumption | exact rfl) ?k6 ?k7 ?k9 ?kN ?kB ?c2 ?c3 ?c4 ?c5 ?_; (case k6 => k_is); (case k7 => k_is); (case k9 => exact rfl); (case kN => decide); (case kB => exact rfl); (case c5 => exact rfl); (case c2 => exact rfl); (case c3 => exact rfl); (case c4 => exact rfl); intro c' o' L')
  repeat' (with_reducible first
   | (show W _ _ (eval _ _) _ _ _; (show W _ _ (eval (Expr.Name _ _) _) _ _ _; k_dflt (refine E_local rfl ?_)))
   | (show W _ _ (execs _ _) _ _ _; refine S_cons ?_)
   | (show W _ _ (exec _ _) _ _ _; (show W _ _ (exec (Stmt.Assign [Expr.Name _ _] _ _) _) _ _ _; k_dflt (refine S_assign ?_)))
   | refine seq_next ?_)
  refine S_range o' w start ((start : Int) + (w : Int)) (fun i m' l' => (∃ p, l' = p :: l) ∧ m' "slots" = some (.ref sa) ∧ m' "age" = some (.int age ta) ∧ i ≤ rs.length ∧ ∃ (f : Nat) (tf : Tok), m' "found" = some (.int ((start : Int) + (f : Int)) tf) ∧ (i = 0 → f = 0) ∧ (0 < i → IsAmin (rs.map (wv age)) i f)) (by omega) (fun c'' o'' _ => ?_) (fun c'' o'' _ i t m₁ l₁ hi hJ => ?_) (fun m₁ l₁ hJ => ?_)
  · repeat' (with_reducible first
     | (((show W _ _ (eval (Expr.BinOp _ _ _ _) _) _ _ _; k_dflt (refine' E_pi ?pi fun _ => ?_))); (case pi => repeat' (with_reducible first | (show PI _ _ _ _ (Expr.Name _ _) _; k_dflt (first | exact PI_loc rfl | exact PI_loc (by assumption) | exact PI_glob (by first | assumption | exact Ok.toOkh (by assumption)) (by k_is))) | apply PI_add)))
     | (show W _ _ (eval _ _) _ _ _; first | (show W _ _ (eval (Expr.Name _ _) _) _ _ _; k_dflt (refine E_local rfl ?_)) | (show W _ _ (eval (Expr.Name _ _) _) _ _ _; k_dflt (refine E_built (by first | assumption | exact Ok.toOkh (by assumption)) (by k_is) (by boot_fast) ?_ (by decide))) | refine K_name ?_)
     | (show W _ _ (spliced _) _ _ _; first | (show W _ _ (spliced (backTo _ (starEach (_ :: _) _))) _ _ _; k_dflt (refine A_cons ?_)) | refine A_nil ?_)
     | (show W _ _ (callWith _ (Value.type _) _ (backTo _ (starEach (_ :: _) _)) []) _ _ _; k_dflt (refine K_type ?_))
     | (show W _ _ (call (Value.type _) [Value.int _ _, Value.int _ _]) _ _ _; refine M_range2 ?_; intro _ _ _))
    exact ⟨⟨⟨_, _, _, _, rfl, List.mem_cons_self⟩, by omega, by omega, by omega, by omega⟩, ⟨_, rfl⟩, rfl, rfl, Nat.zero_le _, 0, _, congrArg (fun z => some (Value.int z ts)) (Int.add_zero _).symm, fun _ => rfl, fun h => absurd h (Nat.lt_irrefl _)⟩
  · obtain ⟨⟨p, rfl⟩, e1, e2, e3, f, tf, e4, e5, e6⟩ := hJ
    obtain ⟨t0, hx⟩ := C.at_ i hi
    have hm' : (sa, lstO vs n) ∈ p :: l := .tail _ hm
    have h0 : 0 ≤ (start : Int) + (i : Int) := Int.natCast_nonneg (start + i)
    have h1 : (start : Int) + (i : Int) < 2 ^ 63 := by omega
    replace hx : vs[((start : Int) + (i : Int)).toNat]? = _ := hx
    cases hr : rs[i]? with
    | none =>
      rw [slotE_none hr] at hx
      have H : cmpB .Eq 0 0 = true := decide_eq_true (rfl : (0 : Int) = 0)
      repeat' (with_reducible first
       | (((show W _ _ (isTrue _ _ _) _ _ _; k_dflt (refine' T_pt ?pi ?_))); (case pi => repeat' (with_reducible first | exact PI_int | apply PT_cmp | k_dflt ((with_reducible show PV _ _ _ _ (Expr.Subscript _ _ _) _); exact PV_lst hm' (PV_loc (by first | rfl | assumption)) (PI_loc (by first | rfl | assumption)) h0 h1 hx) | (show PI _ _ _ _ (Expr.Subscript _ _ _) _; apply PI_v) | (show cmpI _ = true; k_dflt rfl))))
       | (show W _ _ (eval _ _) _ _ _; (show W _ _ (eval (Expr.Name _ _) _) _ _ _; k_dflt (refine E_local rfl ?_)))
       | (show W _ _ (execs _ _) _ _ _; refine S_cons ?_)
       | (show W _ _ (exec _ _) _ _ _; first | refine S_ret ?_ | refine S_If ?_)
       | refine seq_ret ?_
       | refine ret_ret ?_
       | refine turn_ret ?_
       | refine two_on (by assumption) ?_)
      have hl := List.getElem?_eq_none_iff.mp hr
      refine ⟨l, fun _ h => .tail _ h, ?_⟩
      cases Nat.le_antisymm hl e3
      exact xn _ hi
    | some r =>
      rw [slotE_some hr] at hx
      have V := C.va r (List.mem_of_getElem? hr)
      have H : cmpB .Eq (PK r) 0 = false := decide_eq_false (PK_ne V)
      have hil := (List.getElem?_eq_some_iff.mp hr).1
      have hfi : f ≤ i := by
        rcases Nat.eq_zero_or_pos i with g | g
        · rw [e5 g]; exact Nat.zero_le _
        · exact Nat.le_of_lt (e6 g).lt
      obtain ⟨rf, hrf⟩ : ∃ rf, rs[f]? = some rf := ⟨_, List.getElem?_eq_getElem (Nat.lt_of_le_of_lt hfi hil)⟩
      have VF := C.va rf (List.mem_of_getElem? hrf)
      obtain ⟨t1, hxf⟩ := C.at_ f (Nat.lt_of_le_of_lt hfi hi)
      rw [slotE_some hrf] at hxf
      replace hxf : vs[((start : Int) + (f : Int)).toNat]? = _ := hxf
      have f0 : 0 ≤ (start : Int) + (f : Int) := Int.natCast_nonneg (start + f)
      have f1 : (start : Int) + (f : Int) < 2 ^ 63 := by omega
      repeat' (with_reducible first
       | k_dflt ((with_reducible show W _ _ (call (Value.ref 74) _) _ _ _); refine worth_W o'' rfl rfl (by assumption) ?_; intro _)
       | ((first | (show W _ _ (isTrue _ _ _) _ _ _; k_dflt (refine' T_pt ?pi ?_)) | (show W _ _ (eval (Expr.Subscript _ _ _) _) _ _ _; k_dflt (refine' E_pv ?pi ?_))); (case pi => repeat' (with_reducible first | exact PI_int | apply PT_cmp | k_dflt ((with_reducible show PV _ _ _ _ (Expr.Subscript _ _ _) _); exact PV_lst hm' (PV_loc (by first | rfl | assumption)) (PI_loc (by first | rfl | assumption)) h0 h1 hx) | k_dflt ((with_reducible show PV _ _ _ _ (Expr.Subscript _ _ _) _); exact PV_lst hm' (PV_loc (by first | rfl | assumption)) (PI_loc (by first | rfl | assumption)) f0 f1 hxf) | (show PI _ _ _ _ (Expr.Subscript _ _ _) _; apply PI_v) | (show cmpI _ = true; k_dflt rfl))))
       | (show W _ _ (eval _ _) _ _ _; first | (show W _ _ (eval (Expr.Name _ _) _) _ _ _; k_dflt (refine E_local rfl ?_)) | (show W _ _ (eval (Expr.Name _ _) _) _ _ _; k_dflt (refine E_local (by assumption) ?_)) | (show W _ _ (eval (Expr.Name _ _) _) _ _ _; k_dflt (refine E_glob (by first | assumption | exact Ok.toOkh (by assumption)) (by k_is) ?_)) | refine K_name ?_)
       | (show W _ _ (spliced _) _ _ _; first | (show W _ _ (spliced (backTo _ (starEach (_ :: _) _))) _ _ _; k_dflt (refine A_cons ?_)) | refine A_nil ?_)
       | (show W _ _ (execs _ _) _ _ _; first | refine S_cons ?_ | refine S_nil ?_)
       | (show W _ _ (exec _ _) _ _ _; first | refine S_If ?_ | (show W _ _ (exec (Stmt.Assign [Expr.Name _ _] _ _) _) _ _ _; k_dflt (refine S_assign ?_)))
       | (show W _ _ (isTrue _ _ _) _ _ _; (show W _ _ (isTrue (Expr.Compare _ [_] [_] _) _ _) _ _ _; k_dflt (refine T_cmp ?_)))
       | (show W _ _ (compareOp _ _ _) _ _ _; refine C_lt ?_)
       | refine truthy_bool ?_
       | (show W _ _ (callWith _ (Value.ref _) _ (backTo _ (starEach (_ :: _) _)) []) _ _ _; k_dflt (refine K_def (by first | assumption | exact Ok.toOkh (by assumption)) (by k_is) ?_))
       | refine seq_next ?_
       | refine turn_next ?_
       | refine two_off (by assumption) ?_
       | refine two_dec (fun _ => ?_) (fun _ => ?_))
      · rename_i g
        refine ⟨⟨p, rfl⟩, e1, e2, hil, i, _, rfl, (fun h => nomatch h), fun _ => ?_⟩
        rcases Nat.eq_zero_or_pos i with q | q
        · subst q
          exact .one
        · exact (e6 q).less (by rw [map_get hr, map_get hrf]; exact g)
      · rename_i g
        refine ⟨⟨p, rfl⟩, e1, e2, hil, f, _, e4, (fun h => nomatch h), fun _ => ?_⟩
        rcases Nat.eq_zero_or_pos i with q | q
        · subst q
          cases e5 rfl
          exact .one
        · exact (e6 q).keep (by rw [map_get hr, map_get hrf]; exact g)
  · obtain ⟨⟨p, rfl⟩, e1, e2, e3, f, tf, e4, e5, e6⟩ := hJ
    repeat' (with_reducible first
     | (show W _ _ (eval _ _) _ _ _; (show W _ _ (eval (Expr.Name _ _) _) _ _ _; k_dflt (refine E_local (by assumption) ?_)))
     | (show W _ _ (execs _ _) _ _ _; refine S_cons ?_)
     | (show W _ _ (exec _ _) _ _ _; refine S_ret ?_)
     | refine seq_next ?_
     | refine seq_ret ?_
     | refine ret_ret ?_)
    exact ⟨l, fun _ h => .tail _ h, xo f _ (Nat.le_antisymm C.le e3) (e6 hw)⟩
end
section
variable {c : Cx} {env : Env} {m : Mp} {l : Led} {q0 : Nat} {x dx sa : Addr} {q : TQ} {C w a : Int} {tc tw ta : Tok} {nm : PySem.Str} {np u : Pos}
theorem A_clusters (o : Ok Hd.KK Hd.QQ c q0) (h1 : (x, instObj 147 dx) ∈ l) (h2 : (dx, dictOf (tblE q C w a tc tw ta sa) 4) ∈ l) (hx : PV c env m l (.Name nm np) (.ref x)) : PV c env m l (.Attribute (.Name nm np) "clusters" u) (.int C tc) :=
  PV_attr (attr := none) o h1 h2 hx (by k_is) (by k_is) (by k_is) (by k_is) rfl rfl
theorem A_ways (o : Ok Hd.KK Hd.QQ c q0) (h1 : (x, instObj 147 dx) ∈ l) (h2 : (dx, dictOf (tblE q C w a tc tw ta sa) 4) ∈ l) (hx : PV c env m l (.Name nm np) (.ref x)) : PV c env m l (.Attribute (.Name nm np) "ways" u) (.int w tw) :=
  PV_attr (attr := none) o h1 h2 hx (by k_is) (by k_is) (by k_is) (by k_is) rfl rfl
theorem A_age (o : Ok Hd.KK Hd.QQ c q0) (h1 : (x, instObj 147 dx) ∈ l) (h2 : (dx, dictOf (tblE q C w a tc tw ta sa) 4) ∈ l) (hx : PV c env m l (.Name nm np) (.ref x)) : PV c env m l (.Attribute (.Name nm np) "age" u) (.int a ta) :=
  PV_attr (attr := none) o h1 h2 hx (by k_is) (by k_is) (by k_is) (by k_is) rfl rfl
theorem A_slots (o : Ok Hd.KK Hd.QQ c q0) (h1 : (x, instObj 147 dx) ∈ l) (h2 : (dx, dictOf (tblE q C w a tc tw ta sa) 4) ∈ l) (hx : PV c env m l (.Name nm np) (.ref x)) : PV c env m l (.Attribute (.Name nm np) "slots" u) (.ref sa) :=
  PV_attr (attr := none) o h1 h2 hx (by k_is) (by k_is) (by k_is) (by k_is) rfl rfl
end
section
variable {c : Cx} {env : Env} {m : Mp} {l : Led} {k : Value → Mp → Led → Prop} {x w : Nat} {a : Int} {css : List (List Rw)} {rs : List Rw}
theorem probe_W {key : Int} {tk : Tok} (o : Ok Hd.KK Hd.QQ c 2) (hf : env.frame = some env.locals) (hke : env.scope.kind = .function) (T : TF x w a css l) (hr : css[keyAt css.length key]? = some rs)
   (zm : ask rs key = none → k .none m l) (zh : ∀ r, r ∈ rs → ask rs key = some r → ∀ D t1 t2 t3 t4, (∀ p ∈ l, p.1 < D) → k (.ref D) m ((D, tupO [.int r.m t1, .int r.v t2, .int r.d t3, .int r.b t4]) :: l)) :
   W c env (call (.ref 116) [.ref x, .int key tk]) k m l := by
  obtain ⟨dx, q, tc, tw, ta, sa, n, vs, h1, h2, h3, I⟩ := T.ex
  have CL := clu_of T.fit I hr T.c1 T.w1
  have hst : key.fmod (css.length : Int) * (w : Int) = ((keyAt css.length key * w : Nat) : Int) := by rw [keyAt_eq T.c0 key, Int.natCast_mul]
  have nz : (css.length : Int) ≠ 0 := by have := T.c0; omega
  have mok : IntMulOk (key.fmod (css.length : Int)) (w : Int) := .of_right (intBits_le (by have := T.w1; omega))
  have gm : cmpB .Lt (-1) 0 = true := decide_eq_true (by decide : (-1 : Int) < 0)
  have sm := CL.sm
  refine W.shed ?_
  (refine' enter ["self", "key"] (by assumption) (by first | assumption | exact rfl) (by first | assumption | exact rfl) ?k6 ?k7 ?k9 ?kN ?kB ?c2 ?c3 ?c4 ?c5 ?_; (case k6 => k_is); (case k7 => k_is); (case k9 => exact rfl); (case kN => decide); (case kB => exact rfl); (case c5 => exact rfl); (case c2 => exact rfl); (case c3 => exact rfl); (case c4 => exact rfl); intro c' o' L')
  repeat' (with_reducible first
   | k_dflt ((with_reducible show W _ _ (call (Value.ref 67) _) _ _ _); rw [hst]; refine find_W o' rfl rfl h3 CL (fun i r t e1 e2 e3 => ?_) (fun t e => ?_); (obtain ⟨tx, gx⟩ := CL.at_ i (Nat.lt_of_lt_of_le (List.getElem?_eq_some_iff.mp e1).1 CL.le); rw [slotE_some e1] at gx; have lt := (List.getElem?_eq_some_iff.mp e1).1; have le := CL.le; have g0 : 0 ≤ ((keyAt css.length key * w : Nat) : Int) + (i : Int) := Int.natCast_nonneg (_ + i); have gl : cmpB .Lt (((keyAt css.length key * w : Nat) : Int) + (i : Int)) 0 = false := decide_eq_false (Int.not_lt.mpr g0); have g1 : ((keyAt css.length key * w : Nat) : Int) + (i : Int) < 2 ^ 63 := by omega))
   | k_dflt ((with_reducible show W _ _ (call (Value.ref 60) _) _ _ _); refine unpack_W o' rfl rfl (CL.va r (List.mem_of_getElem? e1)) (fun D t1 t2 t3 t4 t5 t6 lt => ?_))
   | ((first | (show W _ _ (eval (Expr.BinOp _ _ _ _) _) _ _ _; k_dflt (refine' E_pi ?pi fun _ => ?_)) | (show W _ _ (isTrue _ _ _) _ _ _; k_dflt (refine' T_pt ?pi ?_)) | (show W _ _ (eval (Expr.Subscript _ _ _) _) _ _ _; k_dflt (refine' E_pv ?pi ?_)) | (show W _ _ (eval (Expr.Attribute _ _ _) _) _ _ _; k_dflt (refine' E_pv ?pi ?_))); (case pi => repeat' (with_reducible first | exact PI_int | (show PI _ _ _ _ (Expr.Name _ _) _; k_dflt (first | exact PI_loc rfl | exact PI_loc (by assumption) | exact PI_glob (by first | assumption | exact Ok.toOkh (by assumption)) (by k_is))) | apply PI_mul | apply PI_mod | apply PT_cmp | k_dflt ((with_reducible show PV _ _ _ _ (Expr.Attribute (Expr.Name _ _) (Str.ofString "clusters") _) _); exact A_clusters o' h1 h2 (PV_loc (by first | rfl | assumption))) | k_dflt ((with_reducible show PV _ _ _ _ (Expr.Attribute (Expr.Name _ _) (Str.ofString "ways") _) _); exact A_ways o' h1 h2 (PV_loc (by first | rfl | assumption))) | k_dflt ((with_reducible show PV _ _ _ _ (Expr.Attribute (Expr.Name _ _) (Str.ofString "slots") _) _); exact A_slots o' h1 h2 (PV_loc (by first | rfl | assumption))) | k_dflt ((with_reducible show PV _ _ _ _ (Expr.Subscript (Expr.Attribute _ _ _) (Expr.Name _ _) _) _); exact PV_lst h3 (A_slots o' h1 h2 (PV_loc (by first | rfl | assumption))) (PI_loc (by first | rfl | assumption)) g0 g1 gx) | k_dflt ((with_reducible show PV _ _ _ _ (Expr.Subscript (Expr.Name _ _) (Expr.Constant _ _ _) _) _); exact PV_tup (by repeat (first | with_reducible exact List.mem_cons_self | assumption | with_reducible apply List.mem_cons_of_mem)) (PV_loc (by first | rfl | assumption)) PI_int (by decide) (by decide) rfl) | (show PI _ _ _ _ (Expr.Attribute _ _ _) _; apply PI_v) | (show cmpI _ = true; k_dflt rfl) | (show IntMulOk _ _; first | assumption | k_dflt (exact IntMulOk.of_left (by decide)) | k_dflt (exact IntMulOk.of_right (by decide))) | (show (_ : Int) ≠ _; k_dflt (first | decide | assumption | omega)))))
   | (show W _ _ (eval _ _) _ _ _; first | (show W _ _ (eval (Expr.Name _ _) _) _ _ _; k_dflt (refine E_local rfl ?_)) | (show W _ _ (eval (Expr.Name _ _) _) _ _ _; k_dflt (refine E_glob (by first | assumption | exact Ok.toOkh (by assumption)) (by k_is) ?_)) | refine E_none ?_ | refine E_tuple ?_ | refine K_name ?_)
   | (show W _ _ (spliced _) _ _ _; first | (show W _ _ (spliced (backTo _ (starEach (_ :: _) _))) _ _ _; k_dflt (refine A_cons ?_)) | refine A_nil ?_)
   | (show W _ _ (execs _ _) _ _ _; first | refine S_cons ?_ | refine S_nil ?_)
   | (show W _ _ (exec _ _) _ _ _; first | refine S_ret ?_ | refine S_If ?_ | (show W _ _ (exec (Stmt.Assign [Expr.Name _ _] _ _) _) _ _ _; k_dflt (refine S_assign ?_)))
   | (show W _ _ (newTuple _) _ _ _; k_dflt (refine N_tup ?_; intro _ _))
   | (show W _ _ (callWith _ (Value.ref _) _ (backTo _ (starEach (_ :: _) _)) []) _ _ _; k_dflt (refine K_def (by first | assumption | exact Ok.toOkh (by assumption)) (by k_is) ?_))
   | refine seq_next ?_
   | refine seq_ret ?_
   | refine ret_ret ?_
   | refine two_on (by assumption) ?_
   | refine two_off (by assumption) ?_)
  · rename_i fr
    exact ⟨_, sub1, zh r (List.mem_of_getElem? e1) (ask_hit e1 e2 e3) _ _ _ _ _ fun p hp => fr p (.tail _ hp)⟩
  · exact ⟨l, fun _ h => h, zm (ask_miss e)⟩
theorem save_W {r : Rw} {tk tm tv td tb : Tok} (o : Ok Hd.KK Hd.QQ c 4) (hf : env.frame = some env.locals) (hke : env.scope.kind = .function) (T : TF x w r.a css l) (V : Va r) (hk : (Builtin.Int.intBits r.k : Int) ≤ 2000000)
   (z : ∀ rs rs' l', css[keyAt css.length r.k]? = some rs → Saved w rs r rs' → TF x w r.a (css.set (keyAt css.length r.k) rs') l' → k .none m l') :
   W c env (call (.ref 123) [.ref x, .int r.k tk, .int r.m tm, .int r.v tv, .int r.d td, .int r.b tb]) k m l := by
  refine W.news fun u => ?_
  obtain ⟨dx, q, tc, tw, ta, sa, n, vs, h1, h2, h3, I⟩ := T.ex
  obtain ⟨rs, hr⟩ : ∃ rs, css[keyAt css.length r.k]? = some rs := ⟨_, List.getElem?_eq_getElem (keyAt_lt T.c0 r.k)⟩
  have CL := clu_of T.fit I hr T.c1 T.w1
  have hst : r.k.fmod (css.length : Int) * (w : Int) = ((keyAt css.length r.k * w : Nat) : Int) := by rw [keyAt_eq T.c0 r.k, Int.natCast_mul]
  have nz : (css.length : Int) ≠ 0 := by have := T.c0; omega
  have mok : IntMulOk (r.k.fmod (css.length : Int)) (w : Int) := .of_right (intBits_le (by have := T.w1; omega))
  have gm : cmpB .Lt (-1) 0 = true := decide_eq_true (by decide : (-1 : Int) < 0)
  have rm := slots_room T.fit I (keyAt_lt T.c0 r.k)
  have sm := CL.sm
  have hm : (r.m = 0 ∧ cmpB .Eq r.m 0 = true) ∨ (r.m ≠ 0 ∧ cmpB .Eq r.m 0 = false) := (Decidable.em (r.m = 0)).imp (fun e => ⟨e, decide_eq_true e⟩) fun e => ⟨e, decide_eq_false e⟩
  have fin : ∀ i rs' t, i < w → Saved w rs r rs' → ∀ r', (padded w rs).set i (PK r') = padded w rs' → k .none m (put sa (lstO (vs.set (((keyAt css.length r.k * w : Nat) : Int) + (i : Int)).toNat (.int (PK r') t)) n) l) := fun i rs' t hi hs r' hp => z rs rs' _ hr hs (T.set u h1 h2 h3 I hr hp hi (hs.fit CL.le CL.va V))
  (refine' enter ["self", "key", "move", "value", "depth", "bound"] (by assumption) (by first | assumption | exact rfl) (by first | assumption | exact rfl) ?k6 ?k7 ?k9 ?kN ?kB ?c2 ?c3 ?c4 ?c5 ?_; (case k6 => k_is); (case k7 => k_is); (case k9 => exact rfl); (case kN => decide); (case kB => exact rfl); (case c5 => exact rfl); (case c2 => exact rfl); (case c3 => exact rfl); (case c4 => exact rfl); intro c' o' L')
  repeat' (with_reducible first
   | k_dflt ((with_reducible show W _ _ (call (Value.ref 53) _) _ _ _); refine pack_W (o'.le (by decide)) rfl rfl V hk (fun _ => ?_))
   | k_dflt ((with_reducible show W _ _ (call (Value.ref 67) _) _ _ _); rw [hst]; refine find_W (o'.le (by decide)) rfl rfl h3 CL (fun i old t e1 e2 e3 => ?_) (fun t e => ?_); (have lt := (List.getElem?_eq_some_iff.mp e1).1; have iw := Nat.lt_of_lt_of_le lt CL.le; obtain ⟨tx, gx⟩ := CL.at_ i iw; rw [slotE_some e1] at gx; have VO := CL.va old (List.mem_of_getElem? e1); have V2 := V.mv VO.m0 VO.m1; have g0 := (ix iw rm sm).1; have gl : cmpB .Lt (((keyAt css.length r.k * w : Nat) : Int) + (i : Int)) 0 = false := decide_eq_false (Int.not_lt.mpr g0); have g1 := (ix iw rm sm).2.1; rcases hm with ⟨hm0, gmv⟩ | ⟨hm0, gmv⟩))
   | k_dflt ((with_reducible show W _ _ (call (Value.ref 81) _) _ _ _); refine victim_W (o'.le (by decide)) rfl rfl h3 CL T.w0 (fun t iw => ?_) (fun j t lw am => ?_))
   | k_dflt ((with_reducible show W _ _ (call (Value.ref 95) _) _ _ _); (first | rw [PK_m VO] | rw [PK_m V2] | rw [PK_m V]); refine with_move_W (o'.le (by decide)) rfl rfl (by assumption) (fun _ => ?_))
   | k_dflt ((with_reducible show W _ _ (call (Value.ref 88) _) _ _ _); refine pushes_W (o'.le (by decide)) rfl rfl VO (fun p hp => ?_))
   | k_dflt ((with_reducible show two _ _ _ _ _); refine two_if hp (fun q => ?_) (fun q => ?_))
   | k_dflt ((with_reducible show W _ _ (setItem _ _ _) _ _ _); first | refine U_lst h3 (ix iw rm sm).1 (ix iw rm sm).2.1 (ix iw rm sm).2.2 ?_ | refine U_lst h3 (ix am.lt rm sm).1 (ix am.lt rm sm).2.1 (ix am.lt rm sm).2.2 ?_)
   | ((first | (show W _ _ (eval (Expr.BinOp _ _ _ _) _) _ _ _; k_dflt (refine' E_pi ?pi fun _ => ?_)) | (show W _ _ (isTrue _ _ _) _ _ _; k_dflt (refine' T_pt ?pi ?_)) | (show W _ _ (eval (Expr.Subscript _ _ _) _) _ _ _; k_dflt (refine' E_pv ?pi ?_)) | (show W _ _ (eval (Expr.Attribute _ _ _) _) _ _ _; k_dflt (refine' E_pv ?pi ?_))); (case pi => repeat' (with_reducible first | exact PI_int | (show PI _ _ _ _ (Expr.Name _ _) _; k_dflt (first | exact PI_loc rfl | exact PI_loc (by assumption) | exact PI_glob (by first | assumption | exact Ok.toOkh (by assumption)) (by k_is))) | apply PI_and | apply PI_mul | apply PI_mod | apply PT_cmp | k_dflt ((with_reducible show PV _ _ _ _ (Expr.Attribute (Expr.Name _ _) (Str.ofString "clusters") _) _); exact A_clusters o' h1 h2 (PV_loc (by first | rfl | assumption))) | k_dflt ((with_reducible show PV _ _ _ _ (Expr.Attribute (Expr.Name _ _) (Str.ofString "ways") _) _); exact A_ways o' h1 h2 (PV_loc (by first | rfl | assumption))) | k_dflt ((with_reducible show PV _ _ _ _ (Expr.Attribute (Expr.Name _ _) (Str.ofString "age") _) _); exact A_age o' h1 h2 (PV_loc (by first | rfl | assumption))) | k_dflt ((with_reducible show PV _ _ _ _ (Expr.Attribute (Expr.Name _ _) (Str.ofString "slots") _) _); exact A_slots o' h1 h2 (PV_loc (by first | rfl | assumption))) | k_dflt ((with_reducible show PV _ _ _ _ (Expr.Subscript (Expr.Attribute _ _ _) (Expr.Name _ _) _) _); exact PV_lst h3 (A_slots o' h1 h2 (PV_loc (by first | rfl | assumption))) (PI_loc (by first | rfl | assumption)) g0 g1 gx) | (show PI _ _ _ _ (Expr.Attribute _ _ _) _; apply PI_v) | (show cmpI _ = true; k_dflt rfl) | (show IntMulOk _ _; first | assumption | k_dflt (exact IntMulOk.of_left (by decide)) | k_dflt (exact IntMulOk.of_right (by decide))) | (show (_ : Int) ≠ _; k_dflt (first | decide | assumption | omega)))))
   | (show W _ _ (eval _ _) _ _ _; first | (show W _ _ (eval (Expr.Name _ _) _) _ _ _; k_dflt (refine E_local rfl ?_)) | (show W _ _ (eval (Expr.Name _ _) _) _ _ _; k_dflt (refine E_glob (by first | assumption | exact Ok.toOkh (by assumption)) (by k_is) ?_)) | refine K_name ?_)
   | (show W _ _ (spliced _) _ _ _; first | (show W _ _ (spliced (backTo _ (starEach (_ :: _) _))) _ _ _; k_dflt (refine A_cons ?_)) | refine A_nil ?_)
   | (show W _ _ (execs _ _) _ _ _; first | refine S_cons ?_ | refine S_nil ?_)
   | (show W _ _ (exec _ _) _ _ _; first | refine S_ret0 ?_ | refine S_If ?_ | (show W _ _ (exec (Stmt.Assign [Expr.Name _ _] _ _) _) _ _ _; k_dflt (refine S_assign ?_)) | (show W _ _ (exec (Stmt.Assign [Expr.Subscript _ _ _] _ _) _) _ _ _; k_dflt (refine S_setSub ?_)))
   | (show W _ _ (isTrue _ _ _) _ _ _; k_dflt (refine T_plain ?_))
   | refine truthy_bool ?_
   | (show W _ _ (callWith _ (Value.ref _) _ (backTo _ (starEach (_ :: _) _)) []) _ _ _; k_dflt (refine K_def (by first | assumption | exact Ok.toOkh (by assumption)) (by k_is) ?_))
   | refine seq_next ?_
   | refine seq_ret ?_
   | refine ret_ret ?_
   | refine ret_next ?_
   | refine two_on (by assumption) ?_
   | refine two_off (by assumption) ?_)
  · exact fin i _ _ iw (.hit e1 e2 e3) _ (by rw [over_on q, if_pos hm0]; exact padded_set lt)
  · exact fin i _ _ iw (.hit e1 e2 e3) _ (by rw [over_off q, if_pos hm0]; exact padded_set lt)
  · exact fin i _ _ iw (.hit e1 e2 e3) _ (by rw [over_on q, if_neg hm0]; exact padded_set lt)
  · exact fin i _ _ iw (.hit e1 e2 e3) _ (by rw [over_off q, if_neg hm0]; exact padded_set lt)
  · exact fin _ _ _ iw (.new e iw) _ (padded_new iw)
  · exact fin j _ _ am.lt (.out e lw am) _ (padded_set (lw ▸ am.lt))
end
section
variable {c : Cx} {env : Env} {m : Mp} {l : Led} {q0 : Nat} {x dx sa : Addr} {q : TQ} {C w a : Int} {tc tw ta : Tok}
theorem U_age {k : Unit → Mp → Led → Prop} {a' : Int} {t' : Tok} (o : Ok Hd.KK Hd.QQ c q0) (h1 : (x, instObj 147 dx) ∈ l) (h2 : (dx, dictOf (tblE q C w a tc tw ta sa) 4) ∈ l) (z : k () m (put dx (dictOf (tblE q C w a' tc tw t' sa) 4) l)) : W c env (setAttr (.ref x) "age" (.int a' t')) k m l :=
  U_attr (C := 147) o h1 h2 (by k_is) (by k_is) (by k_is) (by k_is) rfl (fun _ _ => Nat.le_of_ble_eq_true rfl) fun _ _ => z
theorem U_slots {k : Unit → Mp → Led → Prop} {s' : Addr} (o : Ok Hd.KK Hd.QQ c q0) (h1 : (x, instObj 147 dx) ∈ l) (h2 : (dx, dictOf (tblE q C w a tc tw ta sa) 4) ∈ l) (z : k () m (put dx (dictOf (tblE q C w a tc tw ta s') 4) l)) : W c env (setAttr (.ref x) "slots" (.ref s')) k m l :=
  U_attr (C := 147) o h1 h2 (by k_is) (by k_is) (by k_is) (by k_is) rfl (fun _ _ => Nat.le_of_ble_eq_true rfl) fun _ _ => z
theorem I_clusters {k : Unit → Mp → Led → Prop} {v1 : Value} (o : Ok Hd.KK Hd.QQ c q0) (h1 : (x, instObj 147 dx) ∈ l) (h2 : (dx, dictOf [] 0) ∈ l) (z : ∀ h t, k () m (put dx (dictOf [⟨h, .str "clusters" t, v1⟩] 1) l)) : W c env (setAttr (.ref x) "clusters" v1) k m l :=
  U_attr (C := 147) o h1 h2 (by k_is) (by k_is) (by k_is) (by k_is) rfl (fun _ _ => Nat.le_of_ble_eq_true rfl) z
theorem I_ways {k : Unit → Mp → Led → Prop} {v1 v2 : Value} (o : Ok Hd.KK Hd.QQ c q0) (h1 : (x, instObj 147 dx) ∈ l) (h2 : (dx, dictOf [⟨q.h1, .str "clusters" q.t1, v1⟩] 1) ∈ l) (z : ∀ h t, k () m (put dx (dictOf [⟨q.h1, .str "clusters" q.t1, v1⟩, ⟨h, .str "ways" t, v2⟩] 2) l)) : W c env (setAttr (.ref x) "ways" v2) k m l :=
  U_attr (C := 147) o h1 h2 (by k_is) (by k_is) (by k_is) (by k_is) rfl (fun _ _ => Nat.le_of_ble_eq_true rfl) z
theorem I_age {k : Unit → Mp → Led → Prop} {v1 v2 v3 : Value} (o : Ok Hd.KK Hd.QQ c q0) (h1 : (x, instObj 147 dx) ∈ l) (h2 : (dx, dictOf [⟨q.h1, .str "clusters" q.t1, v1⟩, ⟨q.h2, .str "ways" q.t2, v2⟩] 2) ∈ l) (z : ∀ h t, k () m (put dx (dictOf [⟨q.h1, .str "clusters" q.t1, v1⟩, ⟨q.h2, .str "ways" q.t2, v2⟩, ⟨h, .str "age" t, v3⟩] 3) l)) : W c env (setAttr (.ref x) "age" v3) k m l :=
  U_attr (C := 147) o h1 h2 (by k_is) (by k_is) (by k_is) (by k_is) rfl (fun _ _ => Nat.le_of_ble_eq_true rfl) z
theorem I_slots {k : Unit → Mp → Led → Prop} {v1 v2 v3 v4 : Value} (o : Ok Hd.KK Hd.QQ c q0) (h1 : (x, instObj 147 dx) ∈ l) (h2 : (dx, dictOf [⟨q.h1, .str "clusters" q.t1, v1⟩, ⟨q.h2, .str "ways" q.t2, v2⟩, ⟨q.h3, .str "age" q.t3, v3⟩] 3) ∈ l) (z : ∀ h t, k () m (put dx (dictOf [⟨q.h1, .str "clusters" q.t1, v1⟩, ⟨q.h2, .str "ways" q.t2, v2⟩, ⟨q.h3, .str "age" q.t3, v3⟩, ⟨h, .str "slots" t, v4⟩] 4) l)) : W c env (setAttr (.ref x) "slots" v4) k m l :=
  U_attr (C := 147) o h1 h2 (by k_is) (by k_is) (by k_is) (by k_is) rfl (fun _ _ => Nat.le_of_ble_eq_true rfl) z
theorem ints_zero {t : Tok} : ∀ n, IntsAre (List.replicate n [Value.int 0 t]).flatten (List.replicate n 0)
  | 0 => .nil
  | n + 1 => .cons _ _ (ints_zero n)
end
section
variable {c : Cx} {env : Env} {m : Mp} {l : Led} {k : Value → Mp → Led → Prop} {x w C : Nat} {a : Int} {css : List (List Rw)}
theorem fit_empty : Fit w (List.replicate C []) := fun rs h => by rw [List.eq_of_mem_replicate h]; exact ⟨Nat.zero_le _, fun _ h => nomatch h⟩
theorem new_W {tc tw : Tok} (o : Ok Hd.KK Hd.QQ c 2) (hf : env.frame = some env.locals) (hke : env.scope.kind = .function) (c0 : 0 < C) (c1 : C ≤ 3) (w0 : 0 < w) (w1 : w ≤ 3)
   (z : ∀ x l', TF x w 0 (List.replicate C []) l' → k (.ref x) m l') : W c env (call (.ref 147) [.int C tc, .int w tw]) k m l := by
  have H : (cmpB .Lt (C : Int) 1 || (cmpB .Lt (w : Int) 1 || false)) = false := by
    rw [show cmpB .Lt (C : Int) 1 = false from decide_eq_false (by omega), show cmpB .Lt (w : Int) 1 = false from decide_eq_false (by omega)]; rfl
  have mok : IntMulOk (C : Int) (w : Int) := .of_right (intBits_le (by omega))
  have cw : C * w ≤ 9 := Nat.mul_le_mul c1 w1
  (refine' enterInit ["self", "clusters", "ways"] (by assumption) (by first | assumption | exact rfl) (by first | assumption | exact rfl) ?m1 ?m2 ?m3 ?k6 ?k7 ?k9 ?kN ?kB ?c2 ?c3 ?c4 ?c5 ?_; (case m1 => k_is); (case m2 => k_is); (case m3 => k_is); (case k6 => k_is); (case k7 => k_is); (case k9 => intro _; exact rfl); (case kN => decide); (case kB => exact rfl); (case c5 => exact rfl); (case c2 => exact rfl); (case c3 => exact rfl); (case c4 => exact rfl); intro c' o' L' x dx lt lx)
  have ne : x ≠ dx := Nat.ne_of_gt lx
  repeat' (with_reducible first
   | k_dflt ((with_reducible show W _ _ (setAttr _ (Str.ofString "clusters") _) _ _ _); refine I_clusters o' (by (repeat (first | with_reducible exact List.mem_cons_self | with_reducible apply List.mem_cons_of_mem | (refine put_off ?_ ne)))) (by (repeat (first | with_reducible exact put_at | with_reducible exact List.mem_cons_self | with_reducible apply List.mem_cons_of_mem))) (fun h1 t1 => ?_))
   | k_dflt ((with_reducible show W _ _ (setAttr _ (Str.ofString "ways") _) _ _ _); refine I_ways (q := ⟨h1, 0, 0, 0, t1, 0, 0, 0⟩) o' (by (repeat (first | with_reducible exact List.mem_cons_self | with_reducible apply List.mem_cons_of_mem | (refine put_off ?_ ne)))) (by (repeat (first | with_reducible exact put_at | with_reducible exact List.mem_cons_self | with_reducible apply List.mem_cons_of_mem))) (fun h2 t2 => ?_))
   | k_dflt ((with_reducible show W _ _ (setAttr _ (Str.ofString "age") _) _ _ _); refine I_age (q := ⟨h1, h2, 0, 0, t1, t2, 0, 0⟩) o' (by (repeat (first | with_reducible exact List.mem_cons_self | with_reducible apply List.mem_cons_of_mem | (refine put_off ?_ ne)))) (by (repeat (first | with_reducible exact put_at | with_reducible exact List.mem_cons_self | with_reducible apply List.mem_cons_of_mem))) (fun h3 t3 => ?_))
   | k_dflt ((with_reducible show W _ _ (setAttr _ (Str.ofString "slots") _) _ _ _); refine I_slots (q := ⟨h1, h2, h3, 0, t1, t2, t3, 0⟩) o' (by (repeat (first | with_reducible exact List.mem_cons_self | with_reducible apply List.mem_cons_of_mem | (refine put_off ?_ ne)))) (by (repeat (first | with_reducible exact put_at | with_reducible exact List.mem_cons_self | with_reducible apply List.mem_cons_of_mem))) (fun h4 t4 => ?_))
   | k_dflt ((with_reducible show W _ _ (binaryOp Operator.Mult (Value.ref _) (Value.int _ _)) _ _ _); refine M_rep (by repeat (first | with_reducible exact List.mem_cons_self | assumption | with_reducible apply List.mem_cons_of_mem)) (by omega) (by simp only [List.length_cons, List.length_nil]; omega) (by omega) (fun D lt => ?_))
   | ((first | (show W _ _ (eval (Expr.BinOp _ _ _ _) _) _ _ _; k_dflt (refine' E_pi ?pi fun _ => ?_)) | (show W _ _ (isTrue _ _ _) _ _ _; k_dflt (refine' T_pt ?pi ?_))); (case pi => repeat' (with_reducible first | exact PI_int | (show PI _ _ _ _ (Expr.Name _ _) _; k_dflt (first | exact PI_loc rfl | exact PI_loc (by assumption) | exact PI_glob (by first | assumption | exact Ok.toOkh (by assumption)) (by k_is))) | apply PI_mul | apply PT_cmp | exact PT_or0 | apply PT_or | (show cmpI _ = true; k_dflt rfl) | (show IntMulOk _ _; first | assumption | k_dflt (exact IntMulOk.of_left (by decide)) | k_dflt (exact IntMulOk.of_right (by decide))))))
   | (show W _ _ (eval _ _) _ _ _; first | (show W _ _ (eval (Expr.Name _ _) _) _ _ _; k_dflt (refine E_local rfl ?_)) | (refine E_int ?_; intro _) | refine E_binop ?_ | refine E_list ?_)
   | (show W _ _ (spliced _) _ _ _; first | (show W _ _ (spliced (backTo _ (starEach (_ :: _) _))) _ _ _; k_dflt (refine A_cons ?_)) | refine A_nil ?_)
   | (show W _ _ (execs _ _) _ _ _; first | refine S_cons ?_ | refine S_nil ?_)
   | (show W _ _ (exec _ _) _ _ _; first | refine S_If ?_ | (show W _ _ (exec (Stmt.Assign [Expr.Attribute _ _ _] _ _) _) _ _ _; k_dflt (refine S_setAttr ?_)))
   | (show W _ _ (newList _) _ _ _; k_dflt (refine N_lst ?_; intro _ _))
   | refine seq_next ?_
   | refine ret_next ?_
   | refine two_off (by assumption) ?_)
  have e1 : ((C : Int) * (w : Int)).toNat = C * w := by rw [← Int.natCast_mul]; rfl
  refine ⟨rfl, z x _ { ex := ⟨dx, ⟨h1, h2, h3, h4, t1, t2, t3, t4⟩, _, _, _, D, 0, _, (by (repeat (first | with_reducible assumption | with_reducible exact List.mem_cons_self | with_reducible apply List.mem_cons_of_mem | (refine put_off ?_ ne)))), by rw [List.length_replicate]; exact put_at, put_off (.head _) (Nat.ne_of_gt (lt _ (.tail _ put_at))), by rw [e1, slots_zero]; exact ints_zero _⟩, fit := fit_empty, c0 := by rw [List.length_replicate]; exact c0, c1 := by rw [List.length_replicate]; exact c1, w0 := w0, w1 := w1, a0 := by decide, a1 := by decide }⟩
theorem inst_dict {l : Led} (u : One l) {x dx : Addr} {es : List DictEntry} {n : Nat} (h1 : (x, instObj 147 dx) ∈ l) (h2 : (dx, dictOf es n) ∈ l) : x ≠ dx := ne_of_cls u h1 h2 fun e => nomatch e
theorem search_W (o : Ok Hd.KK Hd.QQ c 1) (hf : env.frame = some env.locals) (hke : env.scope.kind = .function) (T : TF x w a css l)
   (z : ∀ l', TF x w ((a + 1).fmod 64) css l' → k .none m l') : W c env (call (.ref 130) [.ref x]) k m l := by
  refine W.news fun u => ?_
  obtain ⟨dx, q, tc, tw, ta, sa, n, vs, h1, h2, h3, I⟩ := T.ex
  have ne := inst_dict u h1 h2
  (refine' enter ["self"] (by assumption) (by first | assumption | exact rfl) (by first | assumption | exact rfl) ?k6 ?k7 ?k9 ?kN ?kB ?c2 ?c3 ?c4 ?c5 ?_; (case k6 => k_is); (case k7 => k_is); (case k9 => exact rfl); (case kN => decide); (case kB => exact rfl); (case c5 => exact rfl); (case c2 => exact rfl); (case c3 => exact rfl); (case c4 => exact rfl); intro c' o' L')
  repeat' (with_reducible first
   | k_dflt ((with_reducible show W _ _ (setAttr _ (Str.ofString "age") _) _ _ _); refine U_age o' h1 h2 ?_)
   | (((show W _ _ (eval (Expr.BinOp _ _ _ _) _) _ _ _; k_dflt (refine' E_pi ?pi fun _ => ?_))); (case pi => repeat' (with_reducible first | exact PI_int | (show PI _ _ _ _ (Expr.Name _ _) _; k_dflt (first | exact PI_loc rfl | exact PI_loc (by assumption) | exact PI_glob (by first | assumption | exact Ok.toOkh (by assumption)) (by k_is))) | apply PI_add | apply PI_mod | k_dflt ((with_reducible show PV _ _ _ _ (Expr.Attribute (Expr.Name _ _) (Str.ofString "age") _) _); exact A_age o' (by (repeat (first | with_reducible assumption | with_reducible exact List.mem_cons_self | with_reducible apply List.mem_cons_of_mem | (refine put_off ?_ ne)))) (by (repeat (first | with_reducible assumption | with_reducible exact put_at | with_reducible exact List.mem_cons_self | with_reducible apply List.mem_cons_of_mem))) (PV_loc (by first | rfl | assumption))) | (show PI _ _ _ _ (Expr.Attribute _ _ _) _; apply PI_v) | (show (_ : Int) ≠ _; k_dflt (first | decide | assumption | omega)))))
   | (show W _ _ (eval _ _) _ _ _; (show W _ _ (eval (Expr.Name _ _) _) _ _ _; k_dflt (refine E_local rfl ?_)))
   | (show W _ _ (execs _ _) _ _ _; first | refine S_cons ?_ | refine S_nil ?_)
   | (show W _ _ (exec _ _) _ _ _; (show W _ _ (exec (Stmt.Assign [Expr.Attribute _ _ _] _ _) _) _ _ _; k_dflt (refine S_setAttr ?_)))
   | refine seq_next ?_
   | refine ret_next ?_)
  exact z _ { T with ex := ⟨dx, q, _, _, _, sa, n, vs, put_off h1 ne, put_at, put_off h3 (ne_of_cls u h3 h2 (Ne.symm dict_lst)), I⟩, a0 := Int.fmod_nonneg_of_pos _ (by decide), a1 := Int.le_of_lt_add_one (Int.fmod_lt_of_pos _ (by decide)) }
theorem clear_W (o : Ok Hd.KK Hd.QQ c 1) (hf : env.frame = some env.locals) (hke : env.scope.kind = .function) (T : TF x w a css l)
   (z : ∀ l', TF x w 0 (List.replicate css.length []) l' → k .none m l') : W c env (call (.ref 137) [.ref x]) k m l := by
  refine W.news fun u => ?_
  obtain ⟨dx, q, tc, tw, ta, sa, n, vs, h1, h2, h3, I⟩ := T.ex
  have ne := inst_dict u h1 h2
  have mok : IntMulOk (css.length : Int) (w : Int) := .of_right (intBits_le (by have := T.w1; omega))
  have cw : css.length * w ≤ 9 := Nat.mul_le_mul T.c1 T.w1
  have e1 : ((css.length : Int) * (w : Int)).toNat = css.length * w := by rw [← Int.natCast_mul]; rfl
  have b0 : (0 : Int) ≤ (css.length : Int) * (w : Int) := by rw [← Int.natCast_mul]; exact Int.natCast_nonneg _
  have b1 : (css.length : Int) * (w : Int) < 2 ^ 63 := by rw [← Int.natCast_mul]; omega
  (refine' enter ["self"] (by assumption) (by first | assumption | exact rfl) (by first | assumption | exact rfl) ?k6 ?k7 ?k9 ?kN ?kB ?c2 ?c3 ?c4 ?c5 ?_; (case k6 => k_is); (case k7 => k_is); (case k9 => exact rfl); (case kN => decide); (case kB => exact rfl); (case c5 => exact rfl); (case c2 => exact rfl); (case c3 => exact rfl); (case c4 => exact rfl); intro c' o' L')
  repeat' (with_reducible first
   | k_dflt ((with_reducible show W _ _ (setAttr _ (Str.ofString "age") _) _ _ _); refine U_age o' h1 h2 ?_)
   | k_dflt ((with_reducible show W _ _ (setAttr _ (Str.ofString "slots") _) _ _ _); refine U_slots o' (by (repeat (first | with_reducible assumption | with_reducible exact List.mem_cons_self | with_reducible apply List.mem_cons_of_mem | (refine put_off ?_ ne)))) (by (repeat (first | with_reducible assumption | with_reducible exact put_at | with_reducible exact List.mem_cons_self | with_reducible apply List.mem_cons_of_mem))) ?_)
   | k_dflt ((with_reducible show W _ _ (binaryOp Operator.Mult (Value.ref _) (Value.int _ _)) _ _ _); refine M_rep (by repeat (first | with_reducible exact List.mem_cons_self | assumption | with_reducible apply List.mem_cons_of_mem)) b0 (by rw [e1]; simp only [List.length_cons, List.length_nil]; omega) b1 (fun D lt => ?_))
   | (((show W _ _ (eval (Expr.BinOp _ _ _ _) _) _ _ _; k_dflt (refine' E_pi ?pi fun _ => ?_))); (case pi => repeat' (with_reducible first | apply PI_mul | k_dflt ((with_reducible show PV _ _ _ _ (Expr.Attribute (Expr.Name _ _) (Str.ofString "clusters") _) _); exact A_clusters o' (by (repeat (first | with_reducible assumption | with_reducible exact List.mem_cons_self | with_reducible apply List.mem_cons_of_mem | (refine put_off ?_ ne)))) (by (repeat (first | with_reducible assumption | with_reducible exact put_at | with_reducible exact List.mem_cons_self | with_reducible apply List.mem_cons_of_mem))) (PV_loc (by first | rfl | assumption))) | k_dflt ((with_reducible show PV _ _ _ _ (Expr.Attribute (Expr.Name _ _) (Str.ofString "ways") _) _); exact A_ways o' (by (repeat (first | with_reducible assumption | with_reducible exact List.mem_cons_self | with_reducible apply List.mem_cons_of_mem | (refine put_off ?_ ne)))) (by (repeat (first | with_reducible assumption | with_reducible exact put_at | with_reducible exact List.mem_cons_self | with_reducible apply List.mem_cons_of_mem))) (PV_loc (by first | rfl | assumption))) | (show PI _ _ _ _ (Expr.Attribute _ _ _) _; apply PI_v) | (show IntMulOk _ _; first | assumption | k_dflt (exact IntMulOk.of_left (by decide)) | k_dflt (exact IntMulOk.of_right (by decide))))))
   | (show W _ _ (eval _ _) _ _ _; first | (show W _ _ (eval (Expr.Name _ _) _) _ _ _; k_dflt (refine E_local rfl ?_)) | (refine E_int ?_; intro _) | refine E_binop ?_ | refine E_list ?_)
   | (show W _ _ (spliced _) _ _ _; first | (show W _ _ (spliced (backTo _ (starEach (_ :: _) _))) _ _ _; k_dflt (refine A_cons ?_)) | refine A_nil ?_)
   | (show W _ _ (execs _ _) _ _ _; first | refine S_cons ?_ | refine S_nil ?_)
   | (show W _ _ (exec _ _) _ _ _; (show W _ _ (exec (Stmt.Assign [Expr.Attribute _ _ _] _ _) _) _ _ _; k_dflt (refine S_setAttr ?_)))
   | (show W _ _ (newList _) _ _ _; k_dflt (refine N_lst ?_; intro _ _))
   | refine seq_next ?_
   | refine ret_next ?_)
  rw [e1]
  exact z _ { T with ex := ⟨dx, q, _, _, _, D, 0, _, (by (repeat (first | with_reducible assumption | with_reducible exact List.mem_cons_self | with_reducible apply List.mem_cons_of_mem | (refine put_off ?_ ne)))), by rw [List.length_replicate]; exact put_at, put_off (.head _) (Nat.ne_of_gt (lt _ (.tail _ put_at))), by rw [slots_zero]; exact ints_zero _⟩, fit := fit_empty, c0 := by rw [List.length_replicate]; exact T.c0, c1 := by rw [List.length_replicate]; exact T.c1, a0 := by decide, a1 := by decide }
end
section
variable {c : Cx} {env : Env} {m : Mp} {l : Led} {k : Value → Mp → Led → Prop} {x w : Nat} {a : Int} {css : List (List Rw)}
theorem full_W (o : Ok Hd.KK Hd.QQ c 1) (hf : env.frame = some env.locals) (hke : env.scope.kind = .function) (T : TF x w a css l)
   (z : ∀ t, k (.int (Int.fdiv (((css.flatten.filter fun r => decide (r.a = a)).length : Int) * 1000) ((css.length : Int) * (w : Int))) t) m l) : W c env (call (.ref 144) [.ref x]) k m l := by
  obtain ⟨dx, q, tc, tw, ta, sa, n, vs, h1, h2, h3, I⟩ := T.ex
  have cw : css.length * w ≤ 9 := Nat.mul_le_mul T.c1 T.w1
  have cp : 0 < css.length * w := Nat.mul_pos T.c0 T.w0
  have vl : vs.length = css.length * w := I.length.trans (slots_len T.fit)
  have b0 : (vs.length : Int) ≠ 0 := by omega
  have b1 : (vs.length : Int).natAbs.log2 < 9000 := by
    have : (vs.length : Int).natAbs < 2 ^ 9 := by omega
    have h0 : (vs.length : Int).natAbs ≠ 0 := by omega
    have := (Nat.log2_lt h0).mpr this
    omega
  (refine' enter ["self"] (by assumption) (by first | assumption | exact rfl) (by first | assumption | exact rfl) ?k6 ?k7 ?k9 ?kN ?kB ?c2 ?c3 ?c4 ?c5 ?_; (case k6 => k_is); (case k7 => k_is); (case k9 => exact rfl); (case kN => decide); (case kB => exact rfl); (case c5 => exact rfl); (case c2 => exact rfl); (case c3 => exact rfl); (case c4 => exact rfl); intro c' o' L')
  repeat' (with_reducible first
   | (show W _ _ (eval _ _) _ _ _; (refine E_int ?_; intro _))
   | (show W _ _ (execs _ _) _ _ _; refine S_cons ?_)
   | (show W _ _ (exec _ _) _ _ _; (show W _ _ (exec (Stmt.Assign [Expr.Name _ _] _ _) _) _ _ _; k_dflt (refine S_assign ?_)))
   | refine seq_next ?_)
  refine S_list o' sa vs n (fun i m' l' => l' = l ∧ m' "self" = some (.ref x) ∧ ∃ t, m' "count" = some (.int (((slotsOf w css).take i).filter (ageP a)).length t)) (fun i m' l' hJ => hJ.1 ▸ h3) (fun c'' o'' => ?_) (fun c'' o'' i v m₁ l₁ hv hJ => ?_) (fun m₁ l₁ hJ => ?_)
  · repeat' (with_reducible (((show W _ _ (eval (Expr.Attribute _ _ _) _) _ _ _; k_dflt (refine' E_pv ?pi ?_))); (case pi => repeat' (with_reducible k_dflt ((with_reducible show PV _ _ _ _ (Expr.Attribute (Expr.Name _ _) (Str.ofString "slots") _) _); first | exact A_slots o' h1 h2 (PV_loc (by first | rfl | assumption)) | exact A_slots o'' h1 h2 (PV_loc (by first | rfl | assumption)))))))
    exact ⟨rfl, rfl, rfl, _, rfl⟩
  · obtain ⟨rfl, e1, t0, e2⟩ := hJ
    obtain ⟨e, t, rfl, he⟩ := I.at i v hv
    have hs := filter_step (p := ageP a) he
    have H : (cmpB .NotEq e 0 && (cmpB .Eq (Builtin.bitAnd (e.fdiv (2 ^ Int.toNat 42)) 63) a && true)) = ageP a e := rfl
    repeat' (with_reducible first
     | k_dflt ((with_reducible show two _ _ _ _ _); refine two_bool (fun g => ?_) (fun g => ?_))
     | (((show W _ _ (isTrue _ _ _) _ _ _; k_dflt (refine' T_pt ?pi ?_))); (case pi => repeat' (with_reducible first | exact PI_int | (show PI _ _ _ _ (Expr.Name _ _) _; k_dflt (first | exact PI_loc rfl | exact PI_loc (by assumption) | exact PI_glob (by first | assumption | exact Ok.toOkh (by assumption)) (by k_is))) | apply PI_and | apply PI_shr | apply PT_cmp | exact PT_and0 | apply PT_and | k_dflt ((with_reducible show PV _ _ _ _ (Expr.Attribute (Expr.Name _ _) (Str.ofString "age") _) _); first | exact A_age o' h1 h2 (PV_loc (by first | rfl | assumption)) | exact A_age o'' h1 h2 (PV_loc (by first | rfl | assumption))) | (show PI _ _ _ _ (Expr.Attribute _ _ _) _; apply PI_v) | (show cmpI _ = true; k_dflt rfl) | (show (_ : Int) ≤ _; k_dflt (first | decide | assumption | omega)))))
     | (show W _ _ (eval _ _) _ _ _; (refine E_int ?_; intro _))
     | (show W _ _ (execs _ _) _ _ _; first | refine S_cons ?_ | refine S_nil ?_)
     | (show W _ _ (exec _ _) _ _ _; first | refine S_If ?_ | (show W _ _ (exec (Stmt.AugAssign (Expr.Name _ _) _ _ _) _) _ _ _; k_dflt (refine S_aug (by assumption) ?_)))
     | (refine O_iadd ?_; intro _)
     | refine seq_next ?_
     | refine turn_next ?_)
    · exact ⟨rfl, e1, _, by rw [hs, if_pos (H.symm.trans g), List.length_append]; rfl⟩
    · refine ⟨rfl, e1, t0, ?_⟩
      rw [hs, if_neg (by rw [H.symm.trans g]; exact Bool.false_ne_true), List.append_nil]
      exact e2
  · obtain ⟨rfl, e1, t0, e2⟩ := hJ
    rw [List.take_of_length_le (by rw [slots_len T.fit]; exact Nat.le_of_eq vl.symm), ages_slots T.fit] at e2
    repeat' (with_reducible first
     | k_dflt ((with_reducible show W _ _ (call (Value.builtin _) _) _ _ _); refine M_len h3 (by omega) ?_; intro _)
     | k_dflt ((with_reducible show W _ _ (binaryOp Operator.FloorDiv _ _) _ _ _); refine O_div b0 b1 ?_; intro _)
     | ((first | (show W _ _ (eval (Expr.BinOp _ _ _ _) _) _ _ _; k_dflt (refine' E_pi ?pi fun _ => ?_)) | (show W _ _ (eval (Expr.Attribute _ _ _) _) _ _ _; k_dflt (refine' E_pv ?pi ?_))); (case pi => repeat' (with_reducible first | exact PI_int | (show PI _ _ _ _ (Expr.Name _ _) _; k_dflt (first | exact PI_loc rfl | exact PI_loc (by assumption) | exact PI_glob (by first | assumption | exact Ok.toOkh (by assumption)) (by k_is))) | apply PI_mul | apply PI_div | k_dflt ((with_reducible show PV _ _ _ _ (Expr.Attribute (Expr.Name _ _) (Str.ofString "slots") _) _); first | exact A_slots o' h1 h2 (PV_loc (by first | rfl | assumption)) | exact A_slots o'' h1 h2 (PV_loc (by first | rfl | assumption))) | (show IntMulOk _ _; first | assumption | k_dflt (exact IntMulOk.of_left (by decide)) | k_dflt (exact IntMulOk.of_right (by decide))) | (show (_ : Int) ≠ _; k_dflt (first | decide | assumption | omega)) | (show (_ : Nat) < _; k_dflt (first | decide | assumption | omega)))))
     | (show W _ _ (eval _ _) _ _ _; first | (show W _ _ (eval (Expr.Name _ _) _) _ _ _; k_dflt (refine E_built (by first | assumption | exact Ok.toOkh (by assumption)) (by k_is) (by boot_fast) ?_ (by decide))) | refine E_binop ?_ | refine K_name ?_)
     | (show W _ _ (spliced _) _ _ _; first | (show W _ _ (spliced (backTo _ (starEach (_ :: _) _))) _ _ _; k_dflt (refine A_cons ?_)) | refine A_nil ?_)
     | (show W _ _ (execs _ _) _ _ _; refine S_cons ?_)
     | (show W _ _ (exec _ _) _ _ _; refine S_ret ?_)
     | (show W _ _ (callWith _ (Value.builtin _) _ (backTo _ (starEach (_ :: _) _)) []) _ _ _; k_dflt (refine K_built ?_))
     | refine seq_next ?_
     | refine seq_ret ?_
     | refine ret_ret ?_)
    rw [vl, Int.natCast_mul]
    exact z _
theorem kept_W (o : Ok Hd.KK Hd.QQ c 2) (hf : env.frame = some env.locals) (hke : env.scope.kind = .function) (T : TF x w a css l)
   (z : ∀ D ds l' n, (∀ p ∈ l, p ∈ l') → Paired (RowT l') ds css.flatten → (D, lstO (ds.map .ref) n) ∈ l' → k (.ref D) m l') : W c env (call (.ref 156) [.ref x]) k m l := by
  obtain ⟨dx, q, tc, tw, ta, sa, n, vs, h1, h2, h3, I⟩ := T.ex
  have cw : css.length * w ≤ 9 := Nat.mul_le_mul T.c1 T.w1
  have vl : vs.length = css.length * w := I.length.trans (slots_len T.fit)
  (refine' enter ["table"] (by assumption) (by first | assumption | exact rfl) (by first | assumption | exact rfl) ?k6 ?k7 ?k9 ?kN ?kB ?c2 ?c3 ?c4 ?c5 ?_; (case k6 => k_is); (case k7 => k_is); (case k9 => exact rfl); (case kN => decide); (case kB => exact rfl); (case c5 => exact rfl); (case c2 => exact rfl); (case c3 => exact rfl); (case c4 => exact rfl); intro c' o' L')
  refine S_cons ?_
  refine S_ret ?_
  refine L_T_listE o' sa vs n (fun i ys l' => (∀ p ∈ l, p ∈ l') ∧ ∃ ds rs, ys = ds.map .ref ∧ Paired (RowT l') ds rs ∧ ((slotsOf w css).take i).filter (fun e => decide (e ≠ 0)) = rs.map PK ∧ ∀ r ∈ rs, Va r) (fun i ys l' hJ => hJ.1 _ h3) (by omega) ?_ (fun c'' o'' i v ys l₁ C m₂ hv hJ hx hT => ?_) (fun ys l' D hJ off => ?_) (by with_unfolding_all rfl) (by decide) (by rfl) (by decide) (by rfl)
  · repeat' (with_reducible (((show W _ _ (eval (Expr.Attribute _ _ _) _) _ _ _; k_dflt (refine' E_pv ?pi ?_))); (case pi => repeat' (with_reducible k_dflt ((with_reducible show PV _ _ _ _ (Expr.Attribute (Expr.Name _ _) (Str.ofString "slots") _) _); first | exact A_slots o' h1 h2 (PV_loc (by first | rfl | assumption)) | exact A_slots o'' h1 h2 (PV_loc (by first | rfl | assumption)))))))
    exact ⟨rfl, rfl, fun _ h => h, [], [], rfl, .nil, rfl, fun _ h => nomatch h⟩
  · obtain ⟨oC, hC1, hC2⟩ := hT.cell
    obtain ⟨j1, ds, rs, rfl, j2, j3, j4⟩ := hJ
    obtain ⟨e, t, rfl, he⟩ := I.at i v hv
    have hs := filter_step (p := fun e => decide (e ≠ 0)) he
    rcases slots_mem T.fit (List.mem_of_getElem? he) with rfl | ⟨r, V, rfl⟩
    · have H : decide ((0 : Int) ≠ 0) = false := decide_eq_false fun h => h rfl
      repeat' (with_reducible first
       | k_dflt ((with_reducible show W _ _ (eval (Expr.Name _ _) (compEnvC _ _ _ _)) _ _ _); first | refine V_own (List.mem_append_right _ hC1) hC2 hx ?_ | refine V_glob o'' (by k_is) ?_)
       | (show W _ _ (eval _ _) _ _ _; (refine E_int ?_; intro _))
       | (show W _ _ (isTrue _ _ _) _ _ _; (show W _ _ (isTrue (Expr.Compare _ [_] [_] _) _ _) _ _ _; k_dflt (refine T_cmp ?_)))
       | (show W _ _ (compareOp _ _ _) _ _ _; refine C_ne ?_)
       | refine truthy_bool ?_
       | refine two_off (by assumption) ?_)
      exact ⟨rfl, j1, ds, rs, rfl, j2, by rw [hs, j3]; exact List.append_nil _, j4⟩
    · have H : decide (PK r ≠ 0) = true := decide_eq_true (PK_ne V)
      repeat' (with_reducible first
       | k_dflt ((with_reducible show W _ _ (eval (Expr.Name _ _) (compEnvC _ _ _ _)) _ _ _); first | refine V_own (List.mem_append_right _ hC1) hC2 hx ?_ | refine V_glob o'' (by k_is) ?_)
       | k_dflt ((with_reducible show W _ _ (call (Value.ref 60) _) _ _ _); refine unpack_W o'' rfl rfl V (fun D t1 t2 t3 t4 t5 t6 lt => ?_))
       | (show W _ _ (eval _ _) _ _ _; first | (refine E_int ?_; intro _) | refine K_name ?_)
       | (show W _ _ (spliced _) _ _ _; first | (show W _ _ (spliced (backTo _ (starEach (_ :: _) _))) _ _ _; k_dflt (refine A_cons ?_)) | refine A_nil ?_)
       | (show W _ _ (isTrue _ _ _) _ _ _; (show W _ _ (isTrue (Expr.Compare _ [_] [_] _) _ _) _ _ _; k_dflt (refine T_cmp ?_)))
       | (show W _ _ (compareOp _ _ _) _ _ _; refine C_ne ?_)
       | refine truthy_bool ?_
       | (show W _ _ (callWith _ (Value.ref _) _ (backTo _ (starEach (_ :: _) _)) []) _ _ _; k_dflt (refine K_def (by first | assumption | exact Ok.toOkh (by assumption)) (by k_is) ?_))
       | refine two_on (by assumption) ?_)
      refine ⟨rfl, fun p hp => .tail _ (j1 p hp), ds ++ [D], rs ++ [r], by rw [List.map_append]; rfl, (rowsT_up (fun p hp => .tail _ hp) j2).snoc ⟨t1, t2, t3, t4, t5, t6, .head _⟩, by rw [hs, j3, H, List.map_append]; rfl, fun q hq => (List.mem_append.mp hq).elim (j4 q) fun e => List.mem_singleton.mp e ▸ V⟩
  · obtain ⟨j1, ds, rs, rfl, j2, j3, j4⟩ := hJ
    rw [List.take_of_length_le (by rw [slots_len T.fit]; exact Nat.le_of_eq vl.symm), slots_kept T.fit] at j3
    cases PKs_inj (fit_flat T.fit) j4 j3
    repeat' (with_reducible first
     | refine seq_ret ?_
     | refine ret_ret ?_)
    exact z D ds _ _ (fun p hp => .tail _ (j1 p hp)) (rowsT_up (fun p hp => .tail _ hp) j2) (.head _)
end
section
variable {c : Cx} {env : Env} {m : Mp} {l : Led} {k : Value → Mp → Led → Prop} {x w : Nat} {a : Int} {css : List (List Rw)}
theorem load_W {lT lR : Led} {ra n : Nat} {ds : List Addr} {rs : List Rw} {ta : Tok} (o : Ok Hd.KK Hd.QQ c 5) (hf : env.frame = some env.locals) (hke : env.scope.kind = .function) (T : TF x w 0 css lT) (sT : ∀ p ∈ lT, p ∈ l) (sR : ∀ p ∈ lR, p ∈ l) (dj : ∀ p ∈ lR, ∀ q ∈ lT, p.1 ≠ q.1)
   (hr : (ra, lstO (ds.map .ref) n) ∈ lR) (hP : Paired (RowT lR) ds rs) (V : ∀ r ∈ rs, Va r) (hb : ∀ r ∈ rs, (Builtin.Int.intBits r.k : Int) ≤ 2000000) (hn : rs.length ≤ 100)
   (z : ∀ is l' lT' css', Ord (gOf a rs) rs.length is → Saves w css (is.map (rowAt rs)) css' → TF x w 0 css' lT' → (∀ p ∈ lT', p ∈ l') → (∀ p ∈ lR, p ∈ l') → k .none m l') :
   W c env (call (.ref 163) [.ref x, .ref ra, .int a ta]) k m l := by
  have hlen := hP.length
  (refine' enter ["table", "rows", "age"] (by assumption) (by first | assumption | exact rfl) (by first | assumption | exact rfl) ?k6 ?k7 ?k9 ?kN ?kB ?c2 ?c3 ?c4 ?c5 ?_; (case k6 => k_is); (case k7 => k_is); (case k9 => exact rfl); (case kN => decide); (case kB => exact rfl); (case c5 => exact rfl); (case c2 => exact rfl); (case c3 => exact rfl); (case c4 => exact rfl); intro c' o' L')
  repeat' (with_reducible first
   | (show W _ _ (eval _ _) _ _ _; refine E_list ?_)
   | (show W _ _ (spliced _) _ _ _; refine A_nil ?_)
   | (show W _ _ (execs _ _) _ _ _; refine S_cons ?_)
   | (show W _ _ (exec _ _) _ _ _; (show W _ _ (exec (Stmt.Assign [Expr.Name _ _] _ _) _) _ _ _; k_dflt (refine S_assign ?_)))
   | (show W _ _ (newList _) _ _ _; k_dflt (refine N_lst ?_; intro _ _))
   | refine seq_next ?_)
  rename_i wa fr
  refine S_list o' ra (ds.map .ref) n (fun i m' l' => m' "table" = some (.ref x) ∧ m' "rows" = some (.ref ra) ∧ m' "age" = some (.int a ta) ∧ m' "waiting" = some (.ref wa) ∧ (∀ p ∈ l, p ∈ l') ∧ ∃ is n', Ord (gOf a rs) i is ∧ (wa, lstO (is.map (refAt ds)) n') ∈ l') (fun i m' l' hJ => hJ.2.2.2.2.1 _ (sR _ hr)) (fun c'' o'' => ?_) (fun c'' o'' i v m₁ l₁ hv hJ => ?_) (fun m₁ l₁ hJ => ?_)
  · repeat' (with_reducible (show W _ _ (eval _ _) _ _ _; (show W _ _ (eval (Expr.Name _ _) _) _ _ _; k_dflt (refine E_local rfl ?_))))
    exact ⟨rfl, rfl, rfl, rfl, rfl, fun p hp => .tail _ hp, [], 0, .nil, .head _⟩
  · obtain ⟨e1, e2, e3, e4, e5, is, n', O, hw⟩ := hJ
    obtain ⟨d, hdd, rfl⟩ : ∃ d, ds[i]? = some d ∧ v = .ref d := by
      rw [List.getElem?_map] at hv
      cases h : ds[i]? with
      | none => rw [h] at hv; cases hv
      | some d => rw [h] at hv; cases hv; exact ⟨d, rfl, rfl⟩
    obtain ⟨r, hri, t1, t2, t3, t4, t5, t6, ht⟩ := paired_get' hP hdd
    have hil : i < rs.length := (List.getElem?_eq_some_iff.mp hri).1
    replace ht := e5 _ (sR _ ht)
    have ol := O.len
    have ln : (is.map (refAt ds)).length = i := by rw [List.length_map, ol]
    have fin : ∀ (b : Nat) (m' : Mp), (∀ j, b ≤ j → ∀ q, is[j]? = some q → gOf a rs q < gOf a rs i) → (b = 0 ∨ ∃ e q, b = e + 1 ∧ is[e]? = some q ∧ gOf a rs i ≤ gOf a rs q) → m' "table" = some (.ref x) → m' "rows" = some (.ref ra) → m' "age" = some (.int a ta) → m' "waiting" = some (.ref wa) →
        (fun (i : Nat) (m' : Mp) (l' : Led) => m' "table" = some (.ref x) ∧ m' "rows" = some (.ref ra) ∧ m' "age" = some (.int a ta) ∧ m' "waiting" = some (.ref wa) ∧ (∀ p ∈ l, p ∈ l') ∧ ∃ is n', Ord (gOf a rs) i is ∧ (wa, lstO (is.map (refAt ds)) n') ∈ l') (i + 1) m' (put wa (lstO ((is.map (refAt ds)).take b ++ .ref d :: (is.map (refAt ds)).drop b) (n' + 1)) l₁) := fun b m' h1 h2 a1 a2 a3 a4 =>
      ⟨a1, a2, a3, a4, fun p hp => put_off (e5 p hp) (Nat.ne_of_lt (fr p hp)), _, _, O.ins h1 h2, by rw [← map_ins, refAt_at hdd]; exact put_at⟩
    repeat' (with_reducible first
     | k_dflt ((with_reducible show W _ _ (call (Value.builtin _) _) _ _ _); refine M_len hw (by omega) ?_; intro _)
     | (show W _ _ (eval _ _) _ _ _; first | (show W _ _ (eval (Expr.Name _ _) _) _ _ _; k_dflt (refine E_local (by assumption) ?_)) | (show W _ _ (eval (Expr.Name _ _) _) _ _ _; k_dflt (refine E_built (by first | assumption | exact Ok.toOkh (by assumption)) (by k_is) (by boot_fast) ?_ (by decide))) | refine K_name ?_)
     | (show W _ _ (spliced _) _ _ _; first | (show W _ _ (spliced (backTo _ (starEach (_ :: _) _))) _ _ _; k_dflt (refine A_cons ?_)) | refine A_nil ?_)
     | (show W _ _ (execs _ _) _ _ _; refine S_cons ?_)
     | (show W _ _ (exec _ _) _ _ _; (show W _ _ (exec (Stmt.Assign [Expr.Name _ _] _ _) _) _ _ _; k_dflt (refine S_assign ?_)))
     | (show W _ _ (callWith _ (Value.builtin _) _ (backTo _ (starEach (_ :: _) _)) []) _ _ _; k_dflt (refine K_built ?_))
     | refine seq_next ?_)
    refine S_while o'' (fun b m' l' => b ≤ is.length ∧ l' = l₁ ∧ m' "table" = some (.ref x) ∧ m' "rows" = some (.ref ra) ∧ m' "age" = some (.int a ta) ∧ m' "waiting" = some (.ref wa) ∧ m' "row" = some (.ref d) ∧ (∃ t, m' "at" = some (.int (b : Int) t)) ∧ ∀ j, b ≤ j → ∀ q, is[j]? = some q → gOf a rs q < gOf a rs i) is.length ⟨Nat.le_refl _, rfl, e1, e2, e3, e4, rfl, ⟨_, by rw [List.length_map]; rfl⟩, fun j hj q hq => by rw [List.getElem?_eq_none hj] at hq; cases hq⟩ (fun c3 o3 b m₂ l₂ hJ => ?_)
    obtain ⟨bl, rfl, e1, e2, e3, e4, e6, ⟨t0, e7⟩, e8⟩ := hJ
    cases b with
    | zero =>
      have H : cmpB .Gt ((0 : Nat) : Int) 0 = false := decide_eq_false (Int.lt_irrefl 0)
      repeat' (with_reducible first
       | k_dflt ((with_reducible show W _ _ (getMethod _ _ _) _ _ _); refine G_insert hw ?_)
       | k_dflt ((with_reducible show W _ _ (call (Value.builtin _) _) _ _ _); refine M_insert hw rfl (by omega) (by omega) ?_)
       | (((show W _ _ (isTrue _ _ _) _ _ _; k_dflt (refine' T_pt ?pi ?_))); (case pi => repeat' (with_reducible first | exact PI_int | (show PI _ _ _ _ (Expr.Name _ _) _; k_dflt (first | exact PI_loc rfl | exact PI_loc (by assumption) | exact PI_glob (by first | assumption | exact Ok.toOkh (by assumption)) (by k_is))) | apply PI_sub | apply PI_mod | apply PT_cmp | exact PT_and0 | apply PT_and | k_dflt ((with_reducible show PV _ _ _ _ (Expr.Subscript (Expr.Name _ _) (Expr.Constant _ _ _) _) _); exact PV_tup ht (PV_loc (by first | rfl | assumption)) PI_int (by decide) (by decide) rfl) | (show PI _ _ _ _ (Expr.Subscript _ _ _) _; apply PI_v) | (show cmpI _ = true; k_dflt rfl) | (show (_ : Int) ≠ _; k_dflt (first | decide | assumption | omega)))))
       | (show W _ _ (eval _ _) _ _ _; first | (show W _ _ (eval (Expr.Name _ _) _) _ _ _; k_dflt (refine E_local (by assumption) ?_)) | (show W _ _ (eval (Expr.Call (Expr.Attribute _ _ _) _ [] _) _) _ _ _; k_dflt (refine K_meth ?_)))
       | (show W _ _ (spliced _) _ _ _; first | (show W _ _ (spliced (backTo _ (starEach (_ :: _) _))) _ _ _; k_dflt (refine A_cons ?_)) | refine A_nil ?_)
       | (show W _ _ (execs _ _) _ _ _; first | refine S_cons ?_ | refine S_nil ?_)
       | (show W _ _ (exec _ _) _ _ _; (show W _ _ (exec (Stmt.Expr _ _) _) _ _ _; k_dflt (refine S_expr ?_)))
       | (show W _ _ (isTrue _ _ _) _ _ _; refine T_and ?_)
       | (show W _ _ (callWith _ (Value.builtin _) _ (backTo _ (starEach (_ :: _) _)) []) _ _ _; k_dflt (refine K_built ?_))
       | refine seq_next ?_
       | refine turn_next ?_
       | refine two_off (by assumption) ?_
       | refine two_false ?_)
      exact fin 0 _ e8 (.inl rfl) e1 e2 e3 e4
    | succ b =>
      obtain ⟨b0, b1, b2⟩ := cast_below bl (by omega)
      obtain ⟨q, hq1⟩ : ∃ q, is[b]? = some q := ⟨_, List.getElem?_eq_getElem bl⟩
      have hql := O.lt (List.mem_of_getElem? hq1)
      obtain ⟨rq, hrq⟩ : ∃ rq, rs[q]? = some rq := ⟨_, List.getElem?_eq_getElem (Nat.lt_trans hql hil)⟩
      obtain ⟨dq, hdq, s1, s2, s3, s4, s5, s6, htq⟩ := paired_get hP hrq
      replace htq := e5 _ (sR _ htq)
      have hq : (is.map (refAt ds))[(((b + 1 : Nat) : Int) - 1).toNat]? = some (.ref dq) := by rw [b2, List.getElem?_map, hq1, ← refAt_at hdq]; rfl
      have H : (cmpB .Gt ((b + 1 : Nat) : Int) 0 && (cmpB .Lt ((a - rq.a).fmod 64) ((a - r.a).fmod 64) && true)) = true ↔ gOf a rs q < gOf a rs i := by
        rw [gOf_at hrq, gOf_at hri, Bool.and_true, show cmpB .Gt ((b + 1 : Nat) : Int) 0 = true from decide_eq_true (by omega), Bool.true_and]; exact decide_eq_true_iff
      repeat' (with_reducible first
       | k_dflt ((with_reducible show W _ _ (getMethod _ _ _) _ _ _); refine G_insert hw ?_)
       | k_dflt ((with_reducible show W _ _ (call (Value.builtin _) _) _ _ _); refine M_insert hw rfl (by omega) (by omega) ?_)
       | k_dflt ((with_reducible show two _ _ _ _ _); refine two_if H (fun g => ?_) (fun g => ?_))
       | (((show W _ _ (isTrue _ _ _) _ _ _; k_dflt (refine' T_pt ?pi ?_))); (case pi => repeat' (with_reducible first | exact PI_int | (show PI _ _ _ _ (Expr.Name _ _) _; k_dflt (first | exact PI_loc rfl | exact PI_loc (by assumption) | exact PI_glob (by first | assumption | exact Ok.toOkh (by assumption)) (by k_is))) | apply PI_sub | apply PI_mod | apply PT_cmp | exact PT_and0 | apply PT_and | k_dflt ((with_reducible show PV _ _ _ _ (Expr.Subscript (Expr.Subscript _ _ _) (Expr.Constant _ _ _) _) _); exact PV_tup htq (PV_lst hw (PV_loc (by first | rfl | assumption)) (PI_sub (PI_loc (by first | rfl | assumption)) PI_int) b0 b1 hq) PI_int (by decide) (by decide) rfl) | k_dflt ((with_reducible show PV _ _ _ _ (Expr.Subscript (Expr.Name _ _) (Expr.Constant _ _ _) _) _); exact PV_tup ht (PV_loc (by first | rfl | assumption)) PI_int (by decide) (by decide) rfl) | (show PI _ _ _ _ (Expr.Subscript _ _ _) _; apply PI_v) | (show cmpI _ = true; k_dflt rfl) | (show (_ : Int) ≠ _; k_dflt (first | decide | assumption | omega)))))
       | (show W _ _ (eval _ _) _ _ _; first | (show W _ _ (eval (Expr.Name _ _) _) _ _ _; k_dflt (refine E_local (by assumption) ?_)) | (refine E_int ?_; intro _) | (show W _ _ (eval (Expr.Call (Expr.Attribute _ _ _) _ [] _) _) _ _ _; k_dflt (refine K_meth ?_)))
       | (show W _ _ (spliced _) _ _ _; first | (show W _ _ (spliced (backTo _ (starEach (_ :: _) _))) _ _ _; k_dflt (refine A_cons ?_)) | refine A_nil ?_)
       | (show W _ _ (execs _ _) _ _ _; first | refine S_cons ?_ | refine S_nil ?_)
       | (show W _ _ (exec _ _) _ _ _; first | (show W _ _ (exec (Stmt.AugAssign (Expr.Name _ _) _ _ _) _) _ _ _; k_dflt (refine S_aug (by assumption) ?_)) | (show W _ _ (exec (Stmt.Expr _ _) _) _ _ _; k_dflt (refine S_expr ?_)))
       | (refine O_isub ?_; intro _)
       | (show W _ _ (callWith _ (Value.builtin _) _ (backTo _ (starEach (_ :: _) _)) []) _ _ _; k_dflt (refine K_built ?_))
       | refine seq_next ?_
       | refine turn_next ?_)
      · refine ⟨b, Nat.lt_succ_self b, Nat.le_of_succ_le bl, rfl, e1, e2, e3, e4, e6, ⟨_, congrArg (fun z => some (Value.int z _)) (cast_pred b)⟩, fun j hj p hp => ?_⟩
        rcases Nat.eq_or_lt_of_le hj with h | h
        · subst h
          rw [hq1] at hp
          cases hp
          exact g
        · exact e8 j h p hp
      · exact fin (b + 1) _ e8 (.inr ⟨b, q, rfl, hq1, Int.not_lt.mp g⟩) e1 e2 e3 e4
  · obtain ⟨e1, e2, e3, e4, e5, is, n', O, hw⟩ := hJ
    rw [List.length_map, hlen] at O
    have wR : ∀ p ∈ lR, p.1 ≠ wa := fun p hp => Nat.ne_of_lt (fr p (sR p hp))
    have wT : ∀ q ∈ lT, wa ≠ q.1 := fun q hq => Nat.ne_of_gt (fr q (sT q hq))
    refine S_cons ?_
    refine S_list o' wa (is.map (refAt ds)) n' (fun j m' l' => m' "table" = some (.ref x) ∧ ∃ lT' css', TF x w 0 css' lT' ∧ (∀ p ∈ lT', p ∈ l') ∧ (∀ p ∈ (wa, lstO (is.map (refAt ds)) n') :: lR, p ∈ l') ∧ (∀ p ∈ (wa, lstO (is.map (refAt ds)) n') :: lR, ∀ q ∈ lT', p.1 ≠ q.1) ∧ Saves w css ((is.take j).map (rowAt rs)) css') (fun j m' l' hJ => by obtain ⟨_, _, _, _, _, h, _⟩ := hJ; exact h _ (.head _)) (fun c'' o'' => ?_) (fun c'' o'' i v m₁ l₁ hv hJ => ?_) (fun m₁ l₁ hJ => ?_)
    · repeat' (with_reducible (show W _ _ (eval _ _) _ _ _; (show W _ _ (eval (Expr.Name _ _) _) _ _ _; k_dflt (refine E_local (by assumption) ?_))))
      refine ⟨rfl, e1, lT, css, T, fun p hp => e5 p (sT p hp), fun p hp => (List.mem_cons.mp hp).elim (fun e => e ▸ hw) fun h => e5 p (sR p h), fun p hp q hq => (List.mem_cons.mp hp).elim (fun e => e ▸ wT q hq) fun h => dj p h q hq, .nil⟩
    · obtain ⟨e1, lT', css', T', s1, s2, s3, sv⟩ := hJ
      obtain ⟨q, hq, rfl⟩ : ∃ q, is[i]? = some q ∧ v = refAt ds q := by
        rw [List.getElem?_map] at hv
        cases h : is[i]? with
        | none => rw [h] at hv; cases hv
        | some q => rw [h] at hv; cases hv; exact ⟨q, rfl, rfl⟩
      obtain ⟨r, hri⟩ : ∃ r, rs[q]? = some r := ⟨_, List.getElem?_eq_getElem (O.lt (List.mem_of_getElem? hq))⟩
      obtain ⟨d, hdd, t1, t2, t3, t4, t5, t6, ht⟩ := paired_get hP hri
      have W0 := V r (List.mem_of_getElem? hri)
      have bk := hb r (List.mem_of_getElem? hri)
      replace ht := s2 _ (.tail _ ht)
      rw [refAt_at hdd]
      obtain ⟨dx, q1, tc, tw, ta, sa, n, vs, h1, h2, h3, I⟩ := T'.ex
      have h1' := s1 _ h1
      have h2' := s1 _ h2
      repeat' (with_reducible first
       | k_dflt ((with_reducible show W _ _ (getMethod _ _ _) _ _ _); refine G_meth (C := 147) o'' h1' h2' (by k_is) (by k_is) (by k_is) rfl ?_)
       | k_dflt ((with_reducible show W _ _ (eval (Expr.Subscript (Expr.Name _ _) (Expr.Constant _ _ _) _) _) _ _ _); refine E_pv (PV_tup ht (PV_loc (by first | rfl | assumption)) PI_int (by decide) (by decide) rfl) ?_)
       | (show W _ _ (eval _ _) _ _ _; first | (show W _ _ (eval (Expr.Name _ _) _) _ _ _; k_dflt (refine E_local (by assumption) ?_)) | (show W _ _ (eval (Expr.Call (Expr.Attribute _ _ _) _ [] _) _) _ _ _; k_dflt (refine K_meth ?_)))
       | (show W _ _ (spliced _) _ _ _; first | (show W _ _ (spliced (backTo _ (starEach (_ :: _) _))) _ _ _; k_dflt (refine A_cons ?_)) | refine A_nil ?_)
       | (show W _ _ (execs _ _) _ _ _; refine S_cons ?_)
       | (show W _ _ (exec _ _) _ _ _; (show W _ _ (exec (Stmt.Expr _ _) _) _ _ _; k_dflt (refine S_expr ?_)))
       | (show W _ _ (callWith _ (Value.ref _) _ (backTo _ (starEach (_ :: _) _)) []) _ _ _; k_dflt (refine K_def (by first | assumption | exact Ok.toOkh (by assumption)) (by k_is) ?_)))
      refine W.frame lT' ((wa, lstO (is.map (refAt ds)) n') :: lR) s1 s2 s3 ?_
      refine save_W (r := { r with a := 0 }) ⟨⟨o''.B, o''.X, o''.T, o''.hd, o''.hu⟩, o''.hn⟩ rfl rfl T' { W0 with a0 := Int.le_refl 0, a1 := by show (0 : Int) ≤ 63; decide } bk fun rs0 rs1 l2 g1 g2 g3 g4 => ?_
      repeat' (with_reducible first
       | (show W _ _ (execs _ _) _ _ _; refine S_nil ?_)
       | refine seq_next ?_
       | refine turn_next ?_)
      refine ⟨e1, l2, _, g3, fun p hp => List.mem_append_left _ hp, fun p hp => List.mem_append_right _ hp, g4, ?_⟩
      have := sv.snoc (r := r) g1 g2
      rw [List.take_add_one, hq, List.map_append]
      show Saves w css (_ ++ [rowAt rs q]) _
      rw [rowAt_at hri]
      exact this
    · obtain ⟨e1, lT', css', T', s1, s2, s3, sv⟩ := hJ
      rw [List.length_map, List.take_length] at sv
      repeat' (with_reducible first
       | (show W _ _ (execs _ _) _ _ _; refine S_nil ?_)
       | refine seq_next ?_
       | refine ret_next ?_)
      exact z is l₁ lT' css' O sv T' s1 fun p hp => s2 p (.tail _ hp)
end
section
variable {c : Cx} {env : Env} {m : Mp} {l : Led} {k : Value → Mp → Led → Prop} {cs w : Nat} {css : List (List Rw)} {rs : List Rw}
theorem ask_W {key : Int} {tk : Tok} (o : Ok Hd.KK Hd.QQ c 1) (hf : env.frame = some env.locals) (hke : env.scope.kind = .function) (T : CF cs css l) (c0 : 0 < css.length) (c1 : css.length ≤ 3) (hl : ∀ rs ∈ css, rs.length ≤ 100) (hr : css[keyAt css.length key]? = some rs)
   (zm : ask rs key = none → k .none m l) (zh : ∀ r, ask rs key = some r → ∀ D t1 t2 t3 t4, (∀ p ∈ l, p.1 < D) → k (.ref D) m ((D, tupO [.int r.m t1, .int r.v t2, .int r.d t3, .int r.b t4]) :: l)) :
   W c env (call (.ref 203) [.ref cs, .int key tk]) k m l := by
  obtain ⟨as, n, l2, hc, sep, s2, _⟩ := T
  obtain ⟨a, lj, _, ha, ⟨ds, nd, hd, hP, _⟩, sj, _⟩ := sep.at hr
  have up : ∀ p ∈ lj, p ∈ l := fun p hp => s2 p (sj p hp)
  replace hd := up _ hd
  obtain ⟨g0, g1, gx, nz⟩ := at_key sep.len c0 c1 ha
  have al : (as.map Value.ref).length ≤ 1000000 := by rw [List.length_map, sep.len]; omega
  (refine' enter ["clusters", "key"] (by assumption) (by first | assumption | exact rfl) (by first | assumption | exact rfl) ?k6 ?k7 ?k9 ?kN ?kB ?c2 ?c3 ?c4 ?c5 ?_; (case k6 => k_is); (case k7 => k_is); (case k9 => exact rfl); (case kN => decide); (case kB => exact rfl); (case c5 => exact rfl); (case c2 => exact rfl); (case c3 => exact rfl); (case c4 => exact rfl); intro c' o' L')
  refine S_cons ?_
  refine S_list o' a (ds.map .ref) nd (fun i m' l' => l' = l ∧ m' "key" = some (.int key tk) ∧ ∀ q, q < i → ∀ r, rs[q]? = some r → r.k ≠ key) (fun i m' l' hJ => hJ.1 ▸ hd) (fun c'' o'' => ?_) (fun c'' o'' i v m₁ l₁ hv hJ => ?_) (fun m₁ l₁ hJ => ?_)
  · repeat' (with_reducible first
     | k_dflt ((with_reducible show W _ _ (call (Value.builtin _) _) _ _ _); refine M_len hc al ?_; intro _)
     | k_dflt ((with_reducible show W _ _ (subscriptTail _ _ _ _) _ _ _); refine I_lst hc g0 g1 gx ?_)
     | k_dflt ((with_reducible show W _ _ (binaryOp Operator.Mod _ _) _ _ _); refine O_mod nz ?_; intro _)
     | ((first | (show W _ _ (eval (Expr.BinOp _ _ _ _) _) _ _ _; k_dflt (refine' E_pi ?pi fun _ => ?_)) | (show W _ _ (eval (Expr.Subscript _ _ _) _) _ _ _; k_dflt (refine' E_pv ?pi ?_))); (case pi => repeat' (with_reducible first | (show PI _ _ _ _ (Expr.Name _ _) _; k_dflt (first | exact PI_loc rfl | exact PI_loc (by assumption) | exact PI_glob (by first | assumption | exact Ok.toOkh (by assumption)) (by k_is))) | apply PI_mod | (show (_ : Int) ≠ _; k_dflt (first | decide | assumption | omega)))))
     | (show W _ _ (eval _ _) _ _ _; first | (show W _ _ (eval (Expr.Name _ _) _) _ _ _; k_dflt (refine E_local rfl ?_)) | (show W _ _ (eval (Expr.Name _ _) _) _ _ _; k_dflt (refine E_built (by first | assumption | exact Ok.toOkh (by assumption)) (by k_is) (by boot_fast) ?_ (by decide))) | refine E_binop ?_ | refine E_sub ?_ | refine K_name ?_)
     | (show W _ _ (spliced _) _ _ _; first | (show W _ _ (spliced (backTo _ (starEach (_ :: _) _))) _ _ _; k_dflt (refine A_cons ?_)) | refine A_nil ?_)
     | (show W _ _ (callWith _ (Value.builtin _) _ (backTo _ (starEach (_ :: _) _)) []) _ _ _; k_dflt (refine K_built ?_)))
    exact ⟨rfl, rfl, rfl, fun q h => absurd h (Nat.not_lt_zero _)⟩
  · obtain ⟨rfl, e1, e2⟩ := hJ
    obtain ⟨d, hdi, rfl⟩ := map_ref hv
    obtain ⟨r, hri, vs, nr, hw, I⟩ := paired_get' hP hdi
    replace hw := up _ hw
    obtain ⟨t1, t2, t3, t4, t5, t6, rfl⟩ := ints6 I
    repeat' (with_reducible first
     | k_dflt ((with_reducible show two _ _ _ _ _); refine two_bool (fun g => ?_) (fun g => ?_))
     | ((first | (show W _ _ (isTrue _ _ _) _ _ _; k_dflt (refine' T_pt ?pi ?_)) | (show W _ _ (eval (Expr.Subscript _ _ _) _) _ _ _; k_dflt (refine' E_pv ?pi ?_))); (case pi => repeat' (with_reducible first | (show PI _ _ _ _ (Expr.Name _ _) _; k_dflt (first | exact PI_loc rfl | exact PI_loc (by assumption) | exact PI_glob (by first | assumption | exact Ok.toOkh (by assumption)) (by k_is))) | apply PT_cmp | k_dflt ((with_reducible show PV _ _ _ _ (Expr.Subscript (Expr.Name _ _) (Expr.Constant _ _ _) _) _); exact PV_lst hw (PV_loc (by first | rfl | assumption)) PI_int (by decide) (by decide) rfl) | (show PI _ _ _ _ (Expr.Subscript _ _ _) _; apply PI_v) | (show cmpI _ = true; k_dflt rfl))))
     | (show W _ _ (eval _ _) _ _ _; refine E_tuple ?_)
     | (show W _ _ (spliced _) _ _ _; first | (show W _ _ (spliced (backTo _ (starEach (_ :: _) _))) _ _ _; k_dflt (refine A_cons ?_)) | refine A_nil ?_)
     | (show W _ _ (execs _ _) _ _ _; first | refine S_cons ?_ | refine S_nil ?_)
     | (show W _ _ (exec _ _) _ _ _; first | refine S_ret ?_ | refine S_If ?_)
     | (show W _ _ (newTuple _) _ _ _; k_dflt (refine N_tup ?_; intro _ _))
     | refine seq_next ?_
     | refine seq_ret ?_
     | refine ret_ret ?_
     | refine turn_next ?_
     | refine turn_ret ?_)
    · rename_i fr
      exact zh r (ask_hit hri (of_decide_eq_true g) e2) _ _ _ _ _ fr
    · refine ⟨rfl, e1, fun q hq r' hr' => ?_⟩
      rcases Nat.lt_succ_iff_lt_or_eq.mp hq with h | rfl
      · exact e2 q h r' hr'
      · rw [hri] at hr'
        cases hr'
        exact of_decide_eq_false g
  · obtain ⟨rfl, e1, e2⟩ := hJ
    repeat' (with_reducible first
     | (show W _ _ (eval _ _) _ _ _; refine E_none ?_)
     | (show W _ _ (execs _ _) _ _ _; refine S_cons ?_)
     | (show W _ _ (exec _ _) _ _ _; refine S_ret ?_)
     | refine seq_next ?_
     | refine seq_ret ?_
     | refine ret_ret ?_)
    refine zm (ask_miss fun r hr => ?_)
    obtain ⟨j, hj⟩ := List.getElem?_of_mem hr
    exact e2 j (by rw [List.length_map, hP.length]; exact (List.getElem?_eq_some_iff.mp hj).1) r hj
end
section
variable {c : Cx} {env : Env} {m : Mp} {l : Led} {k : Value → Mp → Led → Prop} {cs w : Nat} {css : List (List Rw)}
theorem keep_W {r : Rw} {rw_ : Addr} {ta tw s1 s2 s3 s4 s5 : Tok} (o : Ok Hd.KK Hd.QQ c 1) (hf : env.frame = some env.locals) (hke : env.scope.kind = .function) (T : CF cs css l) (F : Fit w css) (c0 : 0 < css.length) (c1 : css.length ≤ 3) (w1 : w ≤ 3) (w0 : 0 < w) (V : Va r)
   (hrw : ∃ vs, ((rw_, tupO vs) ∈ l ∧ vs = [.int r.k s1, .int r.m s2, .int r.v s3, .int r.d s4, .int r.b s5]))
   (z : ∀ rs rs' l', css[keyAt css.length r.k]? = some rs → Saved w rs r rs' → CF cs (css.set (keyAt css.length r.k) rs') l' → (rw_, tupO [.int r.k s1, .int r.m s2, .int r.v s3, .int r.d s4, .int r.b s5]) ∈ l' → k .none m l') :
   W c env (call (.ref 196) [.ref cs, .int w tw, .int r.a ta, .ref rw_]) k m l := by
  refine W.news fun u => ?_
  obtain ⟨_, hrw, rfl⟩ := hrw
  obtain ⟨rs, hr⟩ : ∃ rs, css[keyAt css.length r.k]? = some rs := ⟨_, List.getElem?_eq_getElem (keyAt_lt c0 r.k)⟩
  obtain ⟨as, n, a, ds, nd, hc, al0, ha, hd0, R⟩ := T.one hr
  obtain ⟨g0, g1, gx, nz⟩ := at_key al0 c0 c1 ha
  have al : (as.map Value.ref).length ≤ 1000000 := by rw [List.length_map, al0]; omega
  have tl : (Value.type "tuple") ≠ .type "list" := fun e => absurd (Value.type.inj e) (by decide)
  have ne_a := ne_of_cls u hrw hd0 tl
  obtain ⟨fl, fv⟩ := F rs (List.mem_of_getElem? hr)
  have dl : ds.length = rs.length := R.rows.length
  have dl' : (ds.map Value.ref).length = rs.length := by rw [List.length_map, dl]
  (refine' enterC ["clusters", "ways", "age", "row"] (by assumption) (by first | assumption | exact rfl) (by first | assumption | exact rfl) ?k6 ?k7 ?k9 ?kB ?kN ?c2 ?c3 ?c4 ?_; (case k6 => k_is); (case k7 => k_is); (case k9 => exact rfl); (case kB => exact rfl); (case kN => decide +kernel); (case c2 => exact rfl); (case c3 => exact rfl); (case c4 => exact rfl); intro c' o' L' cells hcl ltc)
  obtain ⟨ob, rfl, hob⟩ := CellsAre.one (show CellsAre _ [("age", L' + 1)] cells from hcl)
  replace hob : ob.data = .cell (some (.int r.a ta)) := hob
  have hcm : (L' + 1, ob) ∈ [(L' + 1, ob)] ++ l := .head _
  have U : ∀ p ∈ l, p ∈ [(L' + 1, ob)] ++ l := fun p hp => .tail _ hp
  have hrw' := U _ hrw
  have hc' := U _ hc
  have hd' := U _ hd0
  generalize hls : [(L' + 1, ob)] ++ l = ls at hcm U hrw' hc' hd'
  repeat' (with_reducible first
   | k_dflt ((with_reducible show W _ _ (call (Value.builtin _) _) _ _ _); refine M_len hc' al ?_; intro _)
   | k_dflt ((with_reducible show W _ _ (subscriptTail _ _ _ _) _ _ _); refine I_lst hc' g0 g1 gx ?_)
   | k_dflt ((with_reducible show W _ _ (binaryOp Operator.Mod _ _) _ _ _); refine O_mod nz ?_; intro _)
   | ((first | (show W _ _ (eval (Expr.BinOp _ _ _ _) _) _ _ _; k_dflt (refine' E_pi ?pi fun _ => ?_)) | (show W _ _ (eval (Expr.Subscript _ _ _) _) _ _ _; k_dflt (refine' E_pv ?pi ?_))); (case pi => repeat' (with_reducible first | (show PI _ _ _ _ (Expr.Name _ _) _; k_dflt (first | exact PI_loc rfl | exact PI_loc (by assumption) | exact PI_glob (by first | assumption | exact Ok.toOkh (by assumption)) (by k_is))) | apply PI_mod | (show (_ : Int) ≠ _; k_dflt (first | decide | assumption | omega)))))
   | (show W _ _ (eval _ _) _ _ _; first | (show W _ _ (eval (Expr.Name _ _) _) _ _ _; k_dflt (refine E_local rfl ?_)) | (show W _ _ (eval (Expr.Name _ _) _) _ _ _; k_dflt (refine E_built (by first | assumption | exact Ok.toOkh (by assumption)) (by k_is) (by boot_fast) ?_ (by decide))) | refine E_binop ?_ | refine E_sub ?_ | refine K_name ?_)
   | (show W _ _ (spliced _) _ _ _; first | (show W _ _ (spliced (backTo _ (starEach (_ :: _) _))) _ _ _; k_dflt (refine A_cons ?_)) | refine A_nil ?_)
   | (show W _ _ (execs _ _) _ _ _; refine S_cons ?_)
   | (show W _ _ (exec _ _) _ _ _; first | (show W _ _ (exec (Stmt.Assign [Expr.Name _ _] _ _) _) _ _ _; k_dflt (refine S_assign ?_)) | (show W _ _ (exec (Stmt.Assign [Expr.Tuple _ _ _] _ _) _) _ _ _; k_dflt (refine S_assignTup ?_)))
   | (show W _ _ (assign (Expr.Tuple _ _ _) _ (Value.ref _)) _ _ _; k_dflt (refine X_tup (by first | assumption | exact .inl (Ok.hn (by assumption))) (by repeat (first | with_reducible exact List.mem_cons_self | assumption | with_reducible apply List.mem_cons_of_mem)) rfl rfl ?_))
   | (show W _ _ (assignInOrder (List.map _ (assignEach (_ :: _) _)) _) _ _ _; k_dflt (refine X_cons ?_))
   | (show W _ _ (assignInOrder (List.map _ (assignEach [] _)) _) _ _ _; k_dflt (refine X_nil ?_))
   | (show W _ _ (callWith _ (Value.builtin _) _ (backTo _ (starEach (_ :: _) _)) []) _ _ _; k_dflt (refine K_built ?_))
   | refine seq_next ?_)
  refine S_listM o' a (ds.map .ref) nd (fun i l' => l' = ls ∧ ∀ q, q < i → ∀ r', rs[q]? = some r' → r'.k ≠ r.k) (fun i l' hJ => hJ.1 ▸ hd') (fun c'' o'' => ?_) (fun c'' o'' i v l₁ hv hJ => ?_) (fun ov l₁ hJ => ?_)
  · repeat' (with_reducible (show W _ _ (eval _ _) _ _ _; (show W _ _ (eval (Expr.Name _ _) _) _ _ _; k_dflt (refine E_local rfl ?_))))
    exact ⟨rfl, rfl, rfl, fun q h => absurd h (Nat.not_lt_zero _)⟩
  · obtain ⟨rfl, e2⟩ := hJ
    obtain ⟨d, hdi, rfl⟩ := map_ref hv
    obtain ⟨old, hri, vs, nr, hw0, I⟩ := paired_get' R.rows hdi
    have hw := U _ hw0
    obtain ⟨t1, t2, t3, t4, t5, t6, rfl⟩ := ints6 I
    have nec : L' + 1 ≠ d := fun e => absurd (ltc _ hw0 _ (.head _)) (by rw [← e]; exact Nat.lt_irrefl _)
    have H := keep_cond (a := old.a) (b := r.b) (c := old.d) (d := r.d) (e := r.a)
    refine S_cons ?_
    refine S_If (T_pt (p := cmpB .Eq old.k r.k) ?pi (two_bool (fun g => ?hit) (fun g => ?miss)))
    case pi => repeat' (with_reducible first | (show PI _ _ _ _ (Expr.Name _ _) _; k_dflt (first | exact PI_loc rfl | exact PI_loc (by assumption) | exact PI_glob (by first | assumption | exact Ok.toOkh (by assumption)) (by k_is))) | apply PT_cmp | k_dflt ((with_reducible show PV _ _ _ _ (Expr.Subscript (Expr.Name _ _) (Expr.Constant _ _ _) _) _); exact PV_lst (by first | with_reducible assumption | with_reducible exact put_at) (PV_loc (by first | rfl | assumption)) PI_int (by decide) (by decide) rfl) | (show PI _ _ _ _ (Expr.Subscript _ _ _) _; apply PI_v) | (show cmpI _ = true; k_dflt rfl))
    case miss =>
      repeat' (with_reducible first
       | (show W _ _ (execs _ _) _ _ _; refine S_nil ?_)
       | refine seq_next ?_
       | refine turn_next ?_)
      refine ⟨⟨_, rfl⟩, rfl, fun q hq r' hr' => ?_⟩
      rcases Nat.lt_succ_iff_lt_or_eq.mp hq with h | rfl
      · exact e2 q h r' hr'
      · rw [hri] at hr'
        cases hr'
        exact of_decide_eq_false g
    have hk : old.k = r.k := of_decide_eq_true g
    have fin : ∀ vs' l', IntsAre vs' (over old r).l → (d, lstO vs' nr) ∈ l' → (∀ p ∈ l₁, p.1 ≠ d → p ∈ l') → k .none m l' := fun vs' l' I' hd1 keep => 
      z rs _ l' hr (.hit hri hk e2) (R.put i d _ vs' nr l' hdi I' hd1 fun p hp => keep p (U p hp)) (keep _ hrw' (ne_of_cls u hrw hw0 tl))
    refine S_cut (fun l' => ∃ t, (d, lstO [.int old.k t1, .int (if r.m = 0 then old.m else r.m) t, .int old.v t3, .int old.d t4, .int old.b t5, .int old.a t6] nr) ∈ l' ∧ ∀ p ∈ l₁, p.1 ≠ d → p ∈ l') ?_ fun l2 ⟨t, hw2, keep⟩ => ?_
    · refine S_If (T_pt (p := cmpB .NotEq r.m 0) ?pi2 (two_bool (fun g => ?hit2) (fun g => ?miss2)))
      case pi2 => repeat' (with_reducible first | exact PI_int | (show PI _ _ _ _ (Expr.Name _ _) _; k_dflt (first | exact PI_loc rfl | exact PI_loc (by assumption) | exact PI_glob (by first | assumption | exact Ok.toOkh (by assumption)) (by k_is))) | apply PT_cmp | (show cmpI _ = true; k_dflt rfl))
      case miss2 =>
        repeat' (with_reducible (show W _ _ (execs _ _) _ _ _; refine S_nil ?_))
        refine ⟨rfl, rfl, t2, ?_, fun p hp _ => hp⟩
        rw [if_pos (Decidable.not_not.mp (of_decide_eq_false g))]
        exact hw
      repeat' (with_reducible first
       | k_dflt ((with_reducible show W _ _ (setItem _ _ _) _ _ _); refine U_lst hw (by decide) (by decide) (of_decide_eq_true rfl) ?_)
       | (show W _ _ (eval _ _) _ _ _; first | (show W _ _ (eval (Expr.Name _ _) _) _ _ _; k_dflt (refine E_local rfl ?_)) | (refine E_int ?_; intro _))
       | (show W _ _ (execs _ _) _ _ _; first | refine S_cons ?_ | refine S_nil ?_)
       | (show W _ _ (exec _ _) _ _ _; (show W _ _ (exec (Stmt.Assign [Expr.Subscript _ _ _] _ _) _) _ _ _; k_dflt (refine S_setSub ?_)))
       | refine seq_next ?_)
      refine ⟨rfl, rfl, s2, ?_, fun p hp hn => put_off hp hn⟩
      rw [if_neg (of_decide_eq_true g)]
      exact put_at
    · have hcm2 := keep _ hcm nec
      refine S_cons ?_
      refine S_If (T_pt ?pi3 (two_if H (fun q => ?hit3) (fun q => ?miss3)))
      case pi3 => repeat' (with_reducible first | exact PI_int | (show PI _ _ _ _ (Expr.Name _ _) _; k_dflt (first | exact PI_loc rfl | exact PI_loc (by assumption) | exact PI_glob (by first | assumption | exact Ok.toOkh (by assumption)) (by k_is))) | apply PI_sub | apply PT_cmp | exact PT_or0 | apply PT_or | k_dflt ((with_reducible show PV _ _ _ _ (Expr.Subscript (Expr.Name _ _) (Expr.Constant _ _ _) _) _); exact PV_lst (by first | with_reducible assumption | with_reducible exact put_at) (PV_loc (by first | rfl | assumption)) PI_int (by decide) (by decide) rfl) | k_dflt ((with_reducible show PI _ _ _ _ (Expr.Name _ _) _); exact PI_v (PV_cell rfl (List.mem_append_left _ (by first | assumption)) hob)) | (show PI _ _ _ _ (Expr.Subscript _ _ _) _; apply PI_v) | (show cmpI _ = true; k_dflt rfl))
      case miss3 =>
        repeat' (with_reducible first
         | (show W _ _ (execs _ _) _ _ _; first | refine S_cons ?_ | refine S_nil ?_)
         | (show W _ _ (exec _ _) _ _ _; refine S_ret0 ?_)
         | refine seq_next ?_
         | refine seq_ret ?_
         | refine ret_ret ?_
         | refine turn_ret ?_)
        refine fin _ l2 ?_ hw2 keep
        rw [over_l' q]
        exact .cons _ _ (.cons _ _ (.cons _ _ (.cons _ _ (.cons _ _ (.cons _ _ .nil)))))
      repeat' (with_reducible first
       | k_dflt ((with_reducible show W _ _ (setItem _ _ _) _ _ _); refine U_lst (by first | with_reducible assumption | with_reducible exact put_at) (by decide) (by decide) (of_decide_eq_true rfl) ?_)
       | k_dflt ((with_reducible show W _ _ (eval (Expr.Name (Str.ofString "age") _) _) _ _ _); refine E_cell rfl (List.mem_append_left _ (put_off (put_off (put_off hcm2 nec) nec) nec)) hob ?_)
       | (show W _ _ (eval _ _) _ _ _; first | (show W _ _ (eval (Expr.Name _ _) _) _ _ _; k_dflt (refine E_local rfl ?_)) | (refine E_int ?_; intro _))
       | (show W _ _ (execs _ _) _ _ _; first | refine S_cons ?_ | refine S_nil ?_)
       | (show W _ _ (exec _ _) _ _ _; first | refine S_ret0 ?_ | (show W _ _ (exec (Stmt.Assign [Expr.Subscript _ _ _] _ _) _) _ _ _; k_dflt (refine S_setSub ?_)))
       | refine seq_next ?_
       | refine seq_ret ?_
       | refine ret_ret ?_
       | refine turn_ret ?_)
      refine fin _ _ ?_ put_at fun p hp hn => put_off (put_off (put_off (put_off (keep p hp hn) hn) hn) hn) hn
      rw [over_l q hk]
      exact .cons _ _ (.cons _ _ (.cons _ _ (.cons _ _ (.cons _ _ (.cons _ _ .nil)))))
  · obtain ⟨rfl, e2⟩ := hJ
    have mi : miss rs r.k := fun r' hr' => by
      obtain ⟨j, hj⟩ := List.getElem?_of_mem hr'
      exact e2 j (by rw [dl']; exact (List.getElem?_eq_some_iff.mp hj).1) r' hj
    have frs : ∀ D, (∀ p ∈ l₁, p.1 < D) → ∀ p ∈ l, p.1 ≠ D := fun D fr p hp => Nat.ne_of_lt (fr p (U p hp))
    have I6 : IntsAre [.int r.k s1, .int r.m s2, .int r.v s3, .int r.d s4, .int r.b s5, .int r.a ta] r.l := .cons _ _ (.cons _ _ (.cons _ _ (.cons _ _ (.cons _ _ (.cons _ _ .nil)))))
    repeat' (with_reducible first
     | k_dflt ((with_reducible show W _ _ (eval (Expr.Name (Str.ofString "age") _) (envOfC _ _ _ _ _)) _ _ _); refine E_cell rfl (List.mem_append_left _ hcm) hob ?_)
     | k_dflt ((with_reducible show W _ _ (call (Value.builtin "len") _) _ _ _); refine M_len (.tail _ hd') (by omega) ?_; intro _)
     | k_dflt ((with_reducible show W _ _ (getMethod _ _ _) _ _ _); refine G_append (.tail _ hd') ?_)
     | k_dflt ((with_reducible show W _ _ (call (Value.builtin "list.append") _) _ _ _); refine M_append (.tail _ hd') ?_ (by omega))
     | (((show W _ _ (isTrue _ _ _) _ _ _; k_dflt (refine' T_pt ?pi ?_))); (case pi => repeat' (with_reducible first | (show PI _ _ _ _ (Expr.Name _ _) _; k_dflt (first | exact PI_loc rfl | exact PI_loc (by assumption) | exact PI_glob (by first | assumption | exact Ok.toOkh (by assumption)) (by k_is))) | apply PT_cmp | (show cmpI _ = true; k_dflt rfl))))
     | (show W _ _ (eval _ _) _ _ _; first | (show W _ _ (eval (Expr.Name _ _) _) _ _ _; k_dflt (refine E_local rfl ?_)) | (show W _ _ (eval (Expr.Name _ _) _) _ _ _; k_dflt (refine E_built (by first | assumption | exact Ok.toOkh (by assumption)) (by k_is) (by boot_fast) ?_ (by decide))) | refine E_list ?_ | refine K_name ?_ | (show W _ _ (eval (Expr.Call (Expr.Attribute _ _ _) _ [] _) _) _ _ _; k_dflt (refine K_meth ?_)))
     | (show W _ _ (spliced _) _ _ _; first | (show W _ _ (spliced (backTo _ (starEach (_ :: _) _))) _ _ _; k_dflt (refine A_cons ?_)) | refine A_nil ?_)
     | (show W _ _ (execs _ _) _ _ _; first | refine S_cons ?_ | refine S_nil ?_)
     | (show W _ _ (exec _ _) _ _ _; first | refine S_ret0 ?_ | refine S_If ?_ | (show W _ _ (exec (Stmt.Assign [Expr.Name _ _] _ _) _) _ _ _; k_dflt (refine S_assign ?_)) | (show W _ _ (exec (Stmt.Expr _ _) _) _ _ _; k_dflt (refine S_expr ?_)))
     | (show W _ _ (isTrue _ _ _) _ _ _; (show W _ _ (isTrue (Expr.Compare _ [_] [_] _) _ _) _ _ _; k_dflt (refine T_cmp ?_)))
     | (show W _ _ (compareOp _ _ _) _ _ _; refine C_lt ?_)
     | refine truthy_bool ?_
     | (show W _ _ (newList _) _ _ _; k_dflt (refine N_lst ?_; intro _ _))
     | (show W _ _ (callWith _ (Value.builtin _) _ (backTo _ (starEach (_ :: _) _)) []) _ _ _; k_dflt (refine K_built ?_))
     | refine seq_next ?_
     | refine seq_ret ?_
     | refine ret_ret ?_
     | refine two_dec (fun _ => ?_) (fun _ => ?_))
    · rename_i D fr t lw
      exact z rs _ _ hr (.new mi (by omega)) (R.add (ds ++ [D]) _ (nd + 1) D _ r 0 _ (frs D fr) (put_off (.head _) (Nat.ne_of_gt (fr _ hd'))) I6 (.inl ⟨rfl, rfl⟩) (by rw [List.map_append]; exact put_at) fun p hp hn => put_off (.tail _ (U p hp)) hn) (put_off (.tail _ hrw') ne_a)
    · rename_i D fr t lw
      have lw' : rs.length = w := by omega
      have ml : (rs.map (wv r.a)).length = rs.length := List.length_map _
      refine L_U_list o' a (ds.map .ref) nd (fun i ys l' => l' = (D, lstO [.int r.k s1, .int r.m s2, .int r.v s3, .int r.d s4, .int r.b s5, .int r.a ta] 0) :: l₁ ∧ IntsAre ys ((rs.map (wv r.a)).take i)) (fun i ys l' hJ => hJ.1 ▸ .tail _ hd') (by omega) ?_ (fun c'' o'' i v ys l2 C m₂ hv hJ hx hT => ?_) (fun ys l' D2 hJ off => ?_) (by with_unfolding_all rfl) (by decide) (by rfl) (by decide) (by rfl) (by rfl)
      · repeat' (with_reducible (show W _ _ (eval _ _) _ _ _; (show W _ _ (eval (Expr.Name _ _) _) _ _ _; k_dflt (refine E_local rfl ?_))))
        exact ⟨rfl, rfl, rfl, .nil⟩
      · obtain ⟨oC, hC1, hC2⟩ := hT.cell
        obtain ⟨rfl, IA⟩ := hJ
        obtain ⟨d, hdi, rfl⟩ := map_ref hv
        obtain ⟨old, hri, vs, nr, hw0, I⟩ := paired_get' R.rows hdi
        have hw := List.mem_cons_of_mem (D, lstO [.int r.k s1, .int r.m s2, .int r.v s3, .int r.d s4, .int r.b s5, .int r.a ta] 0) (U _ hw0)
        obtain ⟨t1, t2, t3, t4, t5, t6, rfl⟩ := ints6 I
        repeat' (with_reducible first
         | k_dflt ((with_reducible show W _ _ (eval (Expr.Name (Str.ofString "age") _) (compEnvC _ _ _ _)) _ _ _); refine V_cell rfl (List.mem_append_left _ (.tail _ hcm)) hob ?_)
         | k_dflt ((with_reducible show W _ _ (eval (Expr.Name _ _) (compEnvC _ _ _ _)) _ _ _); refine V_own (List.mem_append_right _ hC1) hC2 hx ?_)
         | k_dflt ((with_reducible show W _ _ (subscriptTail _ _ _ _) _ _ _); refine I_lst hw (by decide) (by decide) rfl ?_)
         | (show W _ _ (eval _ _) _ _ _; first | (refine E_int ?_; intro _) | refine E_binop ?_ | refine E_sub ?_)
         | (show W _ _ (binaryOp _ _ _) _ _ _; first | (refine O_sub ?_; intro _) | (show W _ _ (binaryOp Operator.Mod (Value.int _ _) (Value.int _ _)) _ _ _; k_dflt (refine O_mod (by first | decide | assumption | omega) ?_; intro _)) | (show W _ _ (binaryOp Operator.Mult (Value.int _ _) (Value.int _ _)) _ _ _; k_dflt (refine O_mul (by first | with_reducible assumption | exact IntMulOk.of_left (by decide) | exact IntMulOk.of_right (by decide)) ?_; intro _))))
        refine ⟨rfl, rfl, ?_⟩
        rw [take_snoc (show (rs.map (wv r.a))[i]? = some (wv r.a old) by rw [List.getElem?_map, hri]; rfl)]
        exact IA.append (.cons _ _ .nil)
      · obtain ⟨rfl, IA⟩ := hJ
        rw [dl', List.take_of_length_le (Nat.le_of_eq ml)] at IA
        have lay : PyData.layable0 (.list ((rs.map (wv r.a)).map .int)) = true := layable_ints (fun x hx => by
          obtain ⟨q, hq, rfl⟩ := List.mem_map.mp hx
          exact wv_small (fv q hq)) (by omega)
        repeat' (with_reducible first
         | k_dflt ((with_reducible show W _ _ (getMethod _ _ _) _ _ _); refine G_index (.head _) ?_)
         | k_dflt ((with_reducible show W _ _ (call (Value.builtin "min") _) _ _ _); refine M_min o'.hn (.head _) IA (by omega) (fun M tM hM hle => ?_))
         | k_dflt ((with_reducible show W _ _ (call (Value.builtin "list.index") _) _ _ _); refine M_index (.head _) IA lay hM ?_; intro tx; (have am := amin_idx hM hle))
         | k_dflt ((with_reducible show W _ _ (setItem _ _ _) _ _ _); refine U_lst (.tail _ (.tail _ hd')) (Int.natCast_nonneg _) (by have := am.lt; omega) (by have := am.lt; omega) ?_)
         | (show W _ _ (eval _ _) _ _ _; first | (show W _ _ (eval (Expr.Name _ _) _) _ _ _; k_dflt (refine E_local rfl ?_)) | (show W _ _ (eval (Expr.Name _ _) _) _ _ _; k_dflt (refine E_built (by first | assumption | exact Ok.toOkh (by assumption)) (by k_is) (by boot_fast) ?_ (by decide))) | refine K_name ?_ | (show W _ _ (eval (Expr.Call (Expr.Attribute _ _ _) _ [] _) _) _ _ _; k_dflt (refine K_meth ?_)))
         | (show W _ _ (spliced _) _ _ _; first | (show W _ _ (spliced (backTo _ (starEach (_ :: _) _))) _ _ _; k_dflt (refine A_cons ?_)) | refine A_nil ?_)
         | (show W _ _ (execs _ _) _ _ _; first | refine S_cons ?_ | refine S_nil ?_)
         | (show W _ _ (exec _ _) _ _ _; (show W _ _ (exec (Stmt.Assign [Expr.Subscript _ _ _] _ _) _) _ _ _; k_dflt (refine S_setSub ?_)))
         | (show W _ _ (callWith _ (Value.builtin _) _ (backTo _ (starEach (_ :: _) _)) []) _ _ _; k_dflt (refine K_built ?_))
         | refine seq_next ?_
         | refine ret_next ?_)
        rw [ml, lw'] at am
        exact z rs _ _ hr (.out mi lw' am) (R.add (ds.set _ D) _ nd D _ r 0 _ (frs D fr) (put_off (.tail _ (.head _)) (Nat.ne_of_gt (fr _ hd'))) I6 (.inr ⟨_, rfl, rfl⟩) (by rw [List.map_set]; exact put_at) fun p hp hn => put_off (.tail _ (.tail _ (U p hp))) hn) (put_off (.tail _ (.tail _ hrw')) ne_a)
end
section
variable {c : Cx} {env : Env} {m : Mp} {l : Led} {k : Value → Mp → Led → Prop}
/-- a row's fields are right -/
def Rt (key move value depth bound : Int) : Prop := 0 ≤ key ∧ 0 ≤ move ∧ move ≤ 65535 ∧ 0 ≤ bound ∧ bound ≤ 3 ∧ -32767 ≤ value ∧ value ≤ 32767 ∧ -8 ≤ depth ∧ depth ≤ 247
theorem right_W {ra : Addr} {key move value depth bound : Int} {t1 t2 t3 t4 t5 : Tok} (o : Okh Hd.KK Hd.QQ c 1) (hf : env.frame = some env.locals) (hke : env.scope.kind = .function) (H : HdC c l) (hr : (ra, tupO [.int key t1, .int move t2, .int value t3, .int depth t4, .int bound t5]) ∈ l)
   (x : ∀ p : Bool, (p = true ↔ Rt key move value depth bound) → k (.bool p) m l) : W c env (call (.ref 191) [.ref ra]) k m l := by
  (refine' enterH ["row"] (by assumption) (by first | assumption | exact rfl) (by first | assumption | exact rfl) ?k6 ?k7 ?k9 ?kN ?kB ?c2 ?c3 ?c4 ?c5 ?_; (case k6 => k_is); (case k7 => k_is); (case k9 => exact rfl); (case kN => decide); (case kB => exact rfl); (case c5 => exact rfl); (case c2 => exact rfl); (case c3 => exact rfl); (case c4 => exact rfl); intro c' o' sb L')
  have H' : HdC c' l := H.imp (sb.hn.trans ·) fun ⟨e, oe, ws, q, r⟩ => ⟨e, oe, ws, sb.hn.trans q, sb.z ▸ r⟩
  have e1 : (cmpB .Lt key 0 || (!(cmpB .LtE 0 move && cmpB .LtE move 65535) || (!(cmpB .LtE 0 bound && cmpB .LtE bound 3) || false))) = true ↔ ¬ (0 ≤ key ∧ (0 ≤ move ∧ move ≤ 65535) ∧ 0 ≤ bound ∧ bound ≤ 3) := by
    unfold cmpB
    simp only [Bool.or_false, Bool.or_eq_true, Bool.not_eq_true', Bool.and_eq_false_iff, decide_eq_true_eq, decide_eq_false_iff_not]
    omega
  have e2 : ((cmpB .LtE (-32767) value && cmpB .LtE value 32767) && (cmpB .LtE (-8) depth && cmpB .LtE depth 247)) = true ↔ ((-32767 ≤ value ∧ value ≤ 32767) ∧ -8 ≤ depth ∧ depth ≤ 247) := by
    rw [Bool.and_eq_true, Bool.and_eq_true, Bool.and_eq_true]
    exact and_congr (and_congr decide_eq_true_iff decide_eq_true_iff) (and_congr decide_eq_true_iff decide_eq_true_iff)
  repeat' (with_reducible first
   | k_dflt ((with_reducible show two _ _ _ _ _); refine two_if e1 (fun q => ?_) (fun q => ?_))
   | ((first | (show W _ _ (isTrue _ _ _) _ _ _; k_dflt (refine' T_pt ?pi ?_)) | (show W _ _ (eval (Expr.BoolOp _ _ _) _) _ _ _; k_dflt (refine' E_pv ?pi ?_))); (case pi => repeat' (with_reducible first | exact PI_int | (show PI _ _ _ _ (Expr.Name _ _) _; k_dflt (first | exact PI_loc rfl | exact PI_loc (by assumption) | exact PI_glob (by first | assumption | exact Ok.toOkh (by assumption)) (by k_is))) | apply PI_neg | apply PT_cmp | apply PV_cmp2 | apply PT_cmp2 | exact PT_or0 | apply PT_or | apply PT_not | apply PV_and | apply PV_bool1 | (show cmpI _ = true; k_dflt rfl))))
   | (show W _ _ (eval _ _) _ _ _; first | (show W _ _ (eval (Expr.Name _ _) _) _ _ _; k_dflt (refine E_local rfl ?_)) | refine E_bool ?_)
   | (show W _ _ (execs _ _) _ _ _; first | refine S_cons ?_ | refine S_nil ?_)
   | (show W _ _ (exec _ _) _ _ _; first | refine S_ret ?_ | refine S_If ?_ | (show W _ _ (exec (Stmt.Assign [Expr.Tuple _ _ _] _ _) _) _ _ _; k_dflt (refine S_assignTup ?_)))
   | (show W _ _ (assign (Expr.Tuple _ _ _) _ (Value.ref _)) _ _ _; k_dflt (refine X_tup (by first | assumption | exact .inl (Ok.hn (by assumption))) (by repeat (first | with_reducible exact List.mem_cons_self | assumption | with_reducible apply List.mem_cons_of_mem)) rfl rfl ?_))
   | (show W _ _ (assignInOrder (List.map _ (assignEach (_ :: _) _)) _) _ _ _; k_dflt (refine X_cons ?_))
   | (show W _ _ (assignInOrder (List.map _ (assignEach [] _)) _) _ _ _; k_dflt (refine X_nil ?_))
   | refine seq_next ?_
   | refine seq_ret ?_
   | refine ret_ret ?_)
  · exact x _ ⟨fun h => (nomatch h), fun h => absurd ⟨h.1, ⟨h.2.1, h.2.2.1⟩, h.2.2.2.1, h.2.2.2.2.1⟩ q⟩
  · have q' := Decidable.not_not.mp q
    exact x _ (e2.trans ⟨fun h => ⟨q'.1, q'.2.1.1, q'.2.1.2, q'.2.2.1, q'.2.2.2, h.1.1, h.1.2, h.2.1, h.2.2⟩, fun h => ⟨⟨h.2.2.2.2.2.1, h.2.2.2.2.2.2.1⟩, h.2.2.2.2.2.2.2.1, h.2.2.2.2.2.2.2.2⟩⟩)
theorem M_lenS {a : Addr} {vs : List Value} (hl : c.h₀.IsList a vs.toArray) (hs : vs.length ≤ 1000) (x : ∀ t, k (.int vs.length t) m l) : W c env (call (.builtin "len") [.ref a]) k m l := fun h tk S =>
  len_list (hl.at fun o e => S.F.keep _ o e) (by rw [List.size_toArray]; omega) (by rw [List.size_toArray]; exact .mk S (x _))
theorem I_lstS {value slice : Expr} {a : Addr} {vs : List Value} {i : Int} {t : Tok} {v : Value} (hl : c.h₀.IsList a vs.toArray) (h0 : 0 ≤ i) (h1 : i < 2 ^ 63) (hx : vs[i.toNat]? = some v) (x : k v m l)
    (hs : autoParam (subscripted slice false (.ref a) (.int i t) = operate [.ref a, .int i t] (getItem (.ref a) (.int i t))) PySem.W.itemI_int._auto_1) : W c env (subscriptTail value slice (.ref a) (.int i t)) k m l := fun h tk S =>
  have hm := hl.at fun o e => S.F.keep _ o e
  tail_any hm.typeIs slot_list_getitem.lookup (wpAny_getItem_list hm h0 h1 (by simpa using hx) (.mk S x)) hs
/-- a display of written ints -/
inductive CI : List Expr → List Int → Prop
  | nil : CI [] []
  | int {i : Int} {u : Nat} {p : Pos} {r : List Expr} {is : List Int} : CI r is → CI (.Constant (.int i) u p :: r) (i :: is)
  | neg {i : Int} {u : Nat} {p q : Pos} {r : List Expr} {is : List Int} : CI r is → CI (.UnaryOp .USub (.Constant (.int i) u p) q :: r) (-i :: is)
theorem A_consts {pos : Pos} {es : List Expr} {is : List Int} (h : CI es is) : ∀ {k : List Value → Mp → Led → Prop}, (∀ vs, IntsAre vs is → k vs m l) → W c env (spliced (backTo pos (starEach es env))) k m l := by
  induction h with
  | nil => exact fun x => A_nil (x _ .nil)
  | int h ih => exact fun x => A_cons (E_int fun t => ih fun vs I => x _ (.cons _ _ I))
  | neg h ih => exact fun x => A_cons (E_unary (E_int fun t => O_neg fun t => ih fun vs I => x _ (.cons _ _ I)))
theorem E_listC {es : List Expr} {is : List Int} {pos : Pos} (h : CI es is) (hl : is.length ≤ 100) (x : ∀ D vs, IntsAre vs is → k (.ref D) m ((D, lstO vs 0) :: l)) : W c env (eval (.List es pos) env) k m l :=
  E_list (A_consts h fun vs I => N_lst (fun D _ => x D vs I) (Nat.ble_eq_true_of_le (Nat.le_trans (I.length ▸ hl) (by decide))))
theorem I_ints {value slice : Expr} {a : Addr} {vs : List Value} {is : List Int} {n b : Nat} {i : Int} {t : Tok} (hm : (a, lstO vs n) ∈ l) (I : IntsAre vs is) (h0 : 0 ≤ i) (h1 : i < b) (hb : is.length = b) (hl : b ≤ 100) (x : ∀ j u, k (.int j u) m l)
    (hs : autoParam (subscripted slice false (.ref a) (.int i t) = operate [.ref a, .int i t] (getItem (.ref a) (.int i t))) PySem.W.itemI_int._auto_1) : W c env (subscriptTail value slice (.ref a) (.int i t)) k m l := by
  have q : i.toNat < vs.length := by rw [I.length]; omega
  obtain ⟨j, u, e, _⟩ := I.at _ _ (List.getElem?_eq_getElem q)
  exact I_lst hm h0 (by omega) ((List.getElem?_eq_getElem q).trans (congrArg some e)) (x _ _) hs
theorem start_W (o : Ok Hd.KK Hd.QQ c 1) (hf : env.frame = some env.locals) (hke : env.scope.kind = .function)
   (x : ∀ D vs ns, IntsAre vs ns → ns.length = 10 → (∀ n ∈ ns, Builtin.Int.intBits n ≤ 1048576) → k (.ref D) m ((D, lstO vs 0) :: l)) : W c env (call (.ref 170) []) k m l := by
  (refine' enter [] (by assumption) (by first | assumption | exact rfl) (by first | assumption | exact rfl) ?k6 ?k7 ?k9 ?kN ?kB ?c2 ?c3 ?c4 ?c5 ?_; (case k6 => k_is); (case k7 => k_is); (case k9 => exact rfl); (case kN => decide); (case kB => exact rfl); (case c5 => exact rfl); (case c2 => exact rfl); (case c3 => exact rfl); (case c4 => exact rfl); intro c' o' L')
  with_reducible refine S_cons ?_
  with_reducible refine S_ret ?_
  refine E_listC (is := [4, 123305300, 40102121, 37, 65000212042, 7101005, 1105740, 8, 190013, 350093614]) (by repeat (first | exact CI.nil | refine CI.int ?_ | refine CI.neg ?_)) (by decide) fun D vs I => ?_
  exact x _ _ _ I rfl (fun n hn => Nat.le_trans (intBits_le (k := 64) (of_decide_eq_true (List.all_eq_true.mp (show ([4, 123305300, 40102121, 37, 65000212042, 7101005, 1105740, 8, 190013, 350093614] : List Int).all (fun n => decide (n.natAbs < 2 ^ 64)) = true from rfl) n hn))) (by decide))
/-- the script's cell, or a written one -/
theorem at_W {sa i : Nat} {vs : List Value} {ns : List Int} {ti : Tok} (o : Ok Hd.KK Hd.QQ c 2) (hf : env.frame = some env.locals) (hke : env.scope.kind = .function) (hS : c.h₀.IsList sa vs.toArray) (I : IntsAre vs ns) (hl : ns.length ≤ 63) (hb : ∀ x ∈ ns, Builtin.Int.intBits x ≤ 1048576) (hi : i < 10 ∨ i < ns.length)
   (x : ∀ n t, Builtin.Int.intBits n ≤ 1048576 → k (.int n t) m l) : W c env (call (.ref 177) [.ref sa, .int i ti]) k m l := by
  have lv : vs.length = ns.length := I.length
  have i0 : (0 : Int) ≤ (i : Int) := Int.natCast_nonneg _
  have i1 : (i : Int) < 2 ^ 63 := by omega
  refine W.shed ?_
  (refine' enterR ["script", "i"] (by assumption) (by first | assumption | exact rfl) (by first | assumption | exact rfl) ?k6 ?k7 ?k9 ?kN ?kB ?c2 ?c3 ?c4 ?c5 ?_; (case k6 => k_is); (case k7 => k_is); (case k9 => exact rfl); (case kN => decide); (case kB => exact rfl); (case c5 => exact rfl); (case c2 => exact rfl); (case c3 => exact rfl); (case c4 => exact rfl); intro c' o' sb L' rs)
  have hS' : c'.h₀.IsList sa vs.toArray := hS.at fun o e => sb.keep _ o e
  repeat' (with_reducible first
   | k_dflt ((with_reducible show W _ _ (call (Value.builtin _) _) _ _ _); refine M_lenS hS' (by omega) ?_; intro _)
   | k_dflt ((with_reducible show W _ _ (call (Value.ref 170) _) _ _ _); refine start_W (o'.le (by decide)) rfl rfl (fun D vs2 ns2 I2 hn2 hb2 => ?_))
   | (((show W _ _ (isTrue _ _ _) _ _ _; k_dflt (refine' T_pt ?pi ?_))); (case pi => repeat' (with_reducible first | (show PI _ _ _ _ (Expr.Name _ _) _; k_dflt (first | exact PI_loc rfl | exact PI_loc (by assumption) | exact PI_glob (by first | assumption | exact Ok.toOkh (by assumption)) (by k_is))) | apply PT_cmp | (show cmpI _ = true; k_dflt rfl))))
   | (show W _ _ (eval _ _) _ _ _; first | (show W _ _ (eval (Expr.Name _ _) _) _ _ _; k_dflt (refine E_local rfl ?_)) | (show W _ _ (eval (Expr.Name _ _) _) _ _ _; k_dflt (refine E_glob (by first | assumption | exact Ok.toOkh (by assumption)) (by k_is) ?_)) | (show W _ _ (eval (Expr.Name _ _) _) _ _ _; k_dflt (refine E_built (by first | assumption | exact Ok.toOkh (by assumption)) (by k_is) (by boot_fast) ?_ (by decide))) | refine E_sub ?_ | refine E_if ?_ | refine K_name ?_)
   | (show W _ _ (spliced _) _ _ _; first | (show W _ _ (spliced (backTo _ (starEach (_ :: _) _))) _ _ _; k_dflt (refine A_cons ?_)) | refine A_nil ?_)
   | (show W _ _ (execs _ _) _ _ _; refine S_cons ?_)
   | (show W _ _ (exec _ _) _ _ _; refine S_ret ?_)
   | (show W _ _ (isTrue _ _ _) _ _ _; (show W _ _ (isTrue (Expr.Compare _ [_] [_] _) _ _) _ _ _; k_dflt (refine T_cmp ?_)))
   | (show W _ _ (compareOp _ _ _) _ _ _; refine C_lt ?_)
   | refine truthy_bool ?_
   | (show W _ _ (callWith _ (Value.ref _) _ (backTo _ (starEach [] _)) []) _ _ _; k_dflt (refine K_def0 (by first | assumption | exact Ok.toOkh (by assumption)) (by k_is) ?_))
   | (show W _ _ (callWith _ (Value.builtin _) _ (backTo _ (starEach (_ :: _) _)) []) _ _ _; k_dflt (refine K_built ?_))
   | refine two_dec (fun _ => ?_) (fun _ => ?_))
  · rename_i g
    obtain ⟨n, t, e, he⟩ := I.at i _ (List.getElem?_eq_getElem (Int.ofNat_lt.mp g))
    refine I_lstS hS' i0 i1 ((List.getElem?_eq_getElem (Int.ofNat_lt.mp g)).trans (congrArg some e)) ?_
    exact ⟨l, fun _ h => h, x _ _ (hb _ (List.mem_of_getElem? he))⟩
  · rename_i g
    have g' : i < vs2.length := by rw [I2.length, hn2]; exact hi.resolve_right fun h => g (Int.ofNat_lt.mpr (lv ▸ h))
    obtain ⟨n, t, e, he⟩ := I2.at i _ (List.getElem?_eq_getElem g')
    refine I_lst (.head _) i0 i1 ((List.getElem?_eq_getElem g').trans (congrArg some e)) ?_
    exact ⟨l, fun _ h => .tail _ h, x _ _ (hb2 _ (List.mem_of_getElem? he))⟩
theorem fmod_ge (x : Int) {n : Int} (h : 0 < n) : 0 ≤ x.fmod n := Int.fmod_nonneg_of_pos _ h
theorem fmod_lt (x : Int) {n : Int} (h : 0 < n) : x.fmod n < n := Int.fmod_lt_of_pos _ h
/-- one name turned by a statement -/
theorem S_joinI {k : Flow → Mp → Led → Prop} {st : Stmt} {rest : List Stmt} (x : PySem.Str) (w : W c env (exec st env) (fun f m' l' => f = .next ∧ (∃ i t, m' = upd m x (some (.int i t))) ∧ ∀ p ∈ l, p ∈ l') m l)
    (y : ∀ i t l', (∀ p ∈ l, p ∈ l') → W c env (execs rest env) k (upd m x (some (.int i t))) l') : W c env (execs (st :: rest) env) k m l :=
  S_cons (w.mono fun f m' l' z => by
    obtain ⟨rfl, ⟨i, t, rfl⟩, z⟩ := z
    exact y i t l' z)
theorem fields_W {x : Int} {tx : Tok} (o : Ok Hd.KK Hd.QQ c 1) (hf : env.frame = some env.locals) (hke : env.scope.kind = .function) (hb : Builtin.Int.intBits x ≤ 1048576)
   (z : ∀ D key move value depth bound t1 t2 t3 t4 t5, (Builtin.Int.intBits key : Int) ≤ 2000000 → (∀ p ∈ l, p.1 < D) → k (.ref D) m ((D, tupO [.int key t1, .int move t2, .int value t3, .int depth t4, .int bound t5]) :: l)) : W c env (call (.ref 184) [.int x tx]) k m l := by
  refine W.shed ?_
  (refine' enter ["x"] (by assumption) (by first | assumption | exact rfl) (by first | assumption | exact rfl) ?k6 ?k7 ?k9 ?kN ?kB ?c2 ?c3 ?c4 ?c5 ?_; (case k6 => k_is); (case k7 => k_is); (case k9 => exact rfl); (case kN => decide); (case kB => exact rfl); (case c5 => exact rfl); (case c2 => exact rfl); (case c3 => exact rfl); (case c4 => exact rfl); intro c' o' L')
  repeat' (with_reducible first
   | k_dflt ((with_reducible show W _ _ (eval (Expr.List (Expr.Constant (Const.int 32767) _ _ :: _) _) _) _ _ _); refine E_listC (is := [32767, 32768, -32767, -32768]) ?h1 ?h2 ?_; (case h1 => repeat (first | exact CI.nil | refine CI.int ?_ | refine CI.neg ?_)); (case h2 => decide); (intro _ _ I))
   | k_dflt ((with_reducible show W _ _ (eval (Expr.List (_ :: _ :: _ :: _ :: Expr.Constant (Const.int 8001) _ _ :: _) _) _) _ _ _); refine E_listC (is := [0, 1, 2, 3, 8001, 20000, 40001, 65535, 65536, -1]) ?h1 ?h2 ?_; (case h1 => repeat (first | exact CI.nil | refine CI.int ?_ | refine CI.neg ?_)); (case h2 => decide); (intro _ _ I))
   | k_dflt ((with_reducible show W _ _ (eval (Expr.List (_ :: _ :: _ :: _ :: Expr.Constant (Const.int 0) _ _ :: _) _) _) _ _ _); refine E_listC (is := [0, 1, 2, 3, 0, 1, 2, 3, 4, -1]) ?h1 ?h2 ?_; (case h1 => repeat (first | exact CI.nil | refine CI.int ?_ | refine CI.neg ?_)); (case h2 => decide); (intro _ _ I))
   | k_dflt ((with_reducible show W _ _ (subscriptTail _ _ _ _) _ _ _); (first | refine I_ints (b := 10) (.head _) I (fmod_ge _ (by decide)) (fmod_lt _ (by decide)) rfl (by decide) ?_ | refine I_ints (b := 4) (.head _) I (fmod_ge _ (by decide)) (fmod_lt _ (by decide)) rfl (by decide) ?_); (intro _ _))
   | k_dflt ((with_reducible show W _ _ (execs (Stmt.If _ [Stmt.AugAssign _ _ _ _] _ _ :: _) _) _ _ _); refine S_joinI "depth" ?_ (fun _ _ _ s1 => ?_))
   | k_dflt ((with_reducible show W _ _ (execs (Stmt.If _ [Stmt.Assign _ _ _] _ _ :: _) _) _ _ _); refine S_joinI "value" ?_ (fun _ _ _ s2 => ?_))
   | ((first | (show W _ _ (eval (Expr.BinOp _ _ _ _) _) _ _ _; k_dflt (refine' E_pi ?pi fun _ => ?_)) | (show W _ _ (isTrue _ _ _) _ _ _; k_dflt (refine' T_pt ?pi ?_))); (case pi => repeat' (with_reducible first | exact PI_int | (show PI _ _ _ _ (Expr.Name _ _) _; k_dflt (first | exact PI_loc rfl | exact PI_loc (by assumption) | exact PI_glob (by first | assumption | exact Ok.toOkh (by assumption)) (by k_is))) | apply PI_add | apply PI_sub | apply PI_mod | apply PI_div | apply PI_pow | apply PT_cmp | k_dflt ((with_reducible show Nat.log2 (Int.natAbs (HPow.hPow _ _)) < 9000); decide +kernel) | k_dflt ((with_reducible show (HPow.hPow _ _ : Int) ≠ 0); decide +kernel) | (show cmpI _ = true; k_dflt rfl) | (show (_ : Int) ≠ _; k_dflt (first | decide | assumption | omega)) | (show (_ : Int) ≤ _; k_dflt (first | decide | assumption | omega)) | (show (_ : Nat) < _; k_dflt (first | decide | assumption | omega)))))
   | (show W _ _ (eval _ _) _ _ _; first | (show W _ _ (eval (Expr.Name _ _) _) _ _ _; k_dflt (refine E_local rfl ?_)) | (refine E_int ?_; intro _) | refine E_sub ?_ | refine E_tuple ?_)
   | (show W _ _ (spliced _) _ _ _; first | (show W _ _ (spliced (backTo _ (starEach (_ :: _) _))) _ _ _; k_dflt (refine A_cons ?_)) | refine A_nil ?_)
   | (show W _ _ (execs _ _) _ _ _; first | refine S_cons ?_ | refine S_nil ?_)
   | (show W _ _ (exec _ _) _ _ _; first | refine S_ret ?_ | refine S_If ?_ | (show W _ _ (exec (Stmt.Assign [Expr.Name _ _] _ _) _) _ _ _; k_dflt (refine S_assign ?_)) | (show W _ _ (exec (Stmt.AugAssign (Expr.Name _ _) _ _ _) _) _ _ _; k_dflt (refine S_aug rfl ?_)))
   | (refine O_iadd ?_; intro _)
   | (show W _ _ (newTuple _) _ _ _; k_dflt (refine N_tup ?_; intro _ _))
   | refine seq_next ?_
   | refine seq_ret ?_
   | refine ret_ret ?_
   | refine two_bool (fun _ => ?_) (fun _ => ?_))
  · exact ⟨rfl, ⟨_, _, rfl⟩, fun _ h => h⟩
  · exact ⟨rfl, ⟨_, _, upd_self⟩, fun _ h => h⟩
  · exact ⟨rfl, ⟨_, _, rfl⟩, fun _ h => .tail _ h⟩
  · exact ⟨rfl, ⟨_, _, upd_self⟩, fun _ h => h⟩
  · rename_i lt
    have su : ∀ p ∈ l, p ∈ _ := fun p hp => s2 p (.tail _ (s1 p (.tail _ hp)))
    refine ⟨_, fun p hp => (List.mem_cons.mp hp).elim (fun e => e ▸ .head _) fun h => .tail _ (su p h), z _ _ _ _ _ _ _ _ _ _ _ ?_ fun p hp => lt p (su p hp)⟩
    refine Int.le_trans (Int.ofNat_le.mpr (intBits_add_le (intBits_fmod_le (intBits_fdiv_le hb) (n := 64) (intBits_le (by decide))) (intBits_fdiv_le hb))) (by decide)
end
theorem paired_putT {l : Led} {a : Addr} {o : Obj} {ds : List Addr} {rs : List Rw} (hP : Paired (RowT l) ds rs) (hn : a ∉ ds) : Paired (RowT (put a o l)) ds rs := by
  induction hP with
  | nil => exact .nil
  | cons h t ih => exact .cons (h.elim fun t1 h => h.elim fun t2 h => h.elim fun t3 h => h.elim fun t4 h => h.elim fun t5 h => h.elim fun t6 x => ⟨t1, t2, t3, t4, t5, t6, put_off x fun e => hn (e ▸ .head _)⟩) (ih fun h => hn (.tail _ h))
/-- what _law_all has found -/
structure Found (l : Led) (fa : Addr) (rs : List Rw) (m : Mp) (l' : Led) : Prop where
  nm : m "found" = some (.ref fa)
  up : ∀ p ∈ l, p ∈ l'
  ex : ∃ ds n, (fa, lstO (ds.map .ref) n) ∈ l' ∧ Paired (RowT l') ds rs ∧ fa ∉ ds
theorem Found.add {l l' : Led} {fa D : Addr} {rs : List Rw} {m : Mp} {r : Rw} {ds : List Addr} {n : Nat} {vs : List Value} (nm : m "found" = some (.ref fa)) (up : ∀ p ∈ l, p ∈ l') (fr : ∀ p ∈ l, p.1 ≠ fa) (P : Paired (RowT l') ds rs) (hn : fa ∉ ds) (hD : D ≠ fa) (I : IntsAre vs r.l) :
    Found l fa (rs ++ [r]) m (put fa (lstO (ds.map .ref ++ [.ref D]) n) ((D, tupO vs) :: l')) :=
  ⟨nm, fun p hp => put_off (.tail _ (up p hp)) (fr p hp), ds ++ [D], n, by rw [List.map_append]; exact put_at, (paired_putT (rowsT_up (fun p hp => .tail _ hp) P) hn).snoc (by
    obtain ⟨t1, t2, t3, t4, t5, t6, rfl⟩ := ints6 I
    exact ⟨t1, t2, t3, t4, t5, t6, put_off (.head _) hD⟩), fun h => (List.mem_append.mp h).elim hn fun h => hD (List.mem_singleton.mp h).symm⟩
section
variable {c : Cx} {env : Env} {m : Mp} {l : Led} {k : Value → Mp → Led → Prop} {cs w : Nat} {css : List (List Rw)}
theorem all_W (o : Ok Hd.KK Hd.QQ c 1) (hf : env.frame = some env.locals) (hke : env.scope.kind = .function) (T : CF cs css l) (hn : css.flatten.length ≤ 1000)
   (z : ∀ D ds l' n, (∀ p ∈ l, p ∈ l') → Paired (RowT l') ds css.flatten → (D, lstO (ds.map .ref) n) ∈ l' → k (.ref D) m l') : W c env (call (.ref 217) [.ref cs]) k m l := by
  obtain ⟨as, n, l2, hc, sep, s2, _⟩ := T
  have P0 := sep.pair
  (refine' enter ["clusters"] (by assumption) (by first | assumption | exact rfl) (by first | assumption | exact rfl) ?k6 ?k7 ?k9 ?kN ?kB ?c2 ?c3 ?c4 ?c5 ?_; (case k6 => k_is); (case k7 => k_is); (case k9 => exact rfl); (case kN => decide); (case kB => exact rfl); (case c5 => exact rfl); (case c2 => exact rfl); (case c3 => exact rfl); (case c4 => exact rfl); intro c' o' L')
  repeat' (with_reducible first
   | (show W _ _ (eval _ _) _ _ _; refine E_list ?_)
   | (show W _ _ (spliced _) _ _ _; refine A_nil ?_)
   | (show W _ _ (execs _ _) _ _ _; refine S_cons ?_)
   | (show W _ _ (exec _ _) _ _ _; (show W _ _ (exec (Stmt.Assign [Expr.Name _ _] _ _) _) _ _ _; k_dflt (refine S_assign ?_)))
   | (show W _ _ (newList _) _ _ _; k_dflt (refine N_lst ?_; intro _ _))
   | refine seq_next ?_)
  rename_i fa fr
  have frn : ∀ p ∈ l, p.1 ≠ fa := fun p hp => Nat.ne_of_lt (fr p hp)
  refine S_list o' cs (as.map .ref) n (fun i m' l' => Found l fa ((css.take i).flatten) m' l') (fun i m' l' hJ => hJ.up _ hc) (fun c'' o'' => ?_) (fun c'' o'' i v m₁ l₁ hv hJ => ?_) (fun m₁ l₁ hJ => ?_)
  · repeat' (with_reducible (show W _ _ (eval _ _) _ _ _; (show W _ _ (eval (Expr.Name _ _) _) _ _ _; k_dflt (refine E_local rfl ?_))))
    exact ⟨rfl, rfl, fun p hp => .tail _ hp, [], 0, .head _, .nil, fun h => nomatch h⟩
  · obtain ⟨a, hai, rfl⟩ := map_ref hv
    obtain ⟨rs, hri, ds, nd, hd, hP, _⟩ := paired_get' P0 hai
    have hd' := s2 _ hd
    refine S_cons ?_
    refine S_list o'' a (ds.map .ref) nd (fun j m' l' => Found l fa ((css.take i).flatten ++ rs.take j) m' l') (fun i m' l' hJ => hJ.up _ hd') (fun c3 o3 => ?_) (fun c3 o3 j v m₂ l₂ hv2 hJ2 => ?_) (fun m₂ l₂ hJ2 => ?_)
    · repeat' (with_reducible (show W _ _ (eval _ _) _ _ _; (show W _ _ (eval (Expr.Name _ _) _) _ _ _; k_dflt (refine E_local rfl ?_))))
      exact ⟨rfl, hJ.nm, hJ.up, by rw [List.take_zero, List.append_nil]; exact hJ.ex⟩
    · obtain ⟨d, hdi, rfl⟩ := map_ref hv2
      obtain ⟨r, hrj, vs, nr, hw0, I⟩ := paired_get' hP hdi
      obtain ⟨nm, up, dsf, nf, hfa, hPf, hnf⟩ := hJ2
      have hw := up _ (s2 _ hw0)
      have ln : (dsf.map Value.ref).length ≤ 1000000 := by
        rw [List.length_map, hPf.length]
        have s1 : ((css.take i).flatten ++ rs.take j).Sublist ((css.take (i + 1)).flatten) := by
          rw [take_snoc hri, List.flatten_append, List.flatten_singleton]
          exact List.Sublist.append (.refl _) (List.take_sublist _ _)
        rw [← List.take_append_drop (i + 1) css, List.flatten_append, List.length_append] at hn
        exact Nat.le_trans s1.length_le (Nat.le_trans (Nat.le_trans (Nat.le_add_right _ _) hn) (by decide))
      have vl : vs.length ≤ 1000 := by rw [I.length]; exact Nat.le_of_ble_eq_true rfl
      repeat' (with_reducible first
       | k_dflt ((with_reducible show W _ _ (getMethod _ _ _) _ _ _); refine G_append hfa ?_)
       | k_dflt ((with_reducible show W _ _ (call (Value.type _) _) _ _ _); refine M_tuple hw vl ?_; intro D lt)
       | k_dflt ((with_reducible show W _ _ (call (Value.builtin "list.append") _) _ _ _); refine M_append (.tail _ hfa) ?_ ln)
       | (show W _ _ (eval _ _) _ _ _; first | (show W _ _ (eval (Expr.Name _ _) _) _ _ _; k_dflt (refine E_local rfl ?_)) | (show W _ _ (eval (Expr.Name _ _) _) _ _ _; k_dflt (refine E_local (by assumption) ?_)) | (show W _ _ (eval (Expr.Name _ _) _) _ _ _; k_dflt (refine E_built (by first | assumption | exact Ok.toOkh (by assumption)) (by k_is) (by boot_fast) ?_ (by decide))) | refine K_name ?_ | (show W _ _ (eval (Expr.Call (Expr.Attribute _ _ _) _ [] _) _) _ _ _; k_dflt (refine K_meth ?_)))
       | (show W _ _ (spliced _) _ _ _; first | (show W _ _ (spliced (backTo _ (starEach (_ :: _) _))) _ _ _; k_dflt (refine A_cons ?_)) | refine A_nil ?_)
       | (show W _ _ (execs _ _) _ _ _; first | refine S_cons ?_ | refine S_nil ?_)
       | (show W _ _ (exec _ _) _ _ _; (show W _ _ (exec (Stmt.Expr _ _) _) _ _ _; k_dflt (refine S_expr ?_)))
       | (show W _ _ (callWith _ (Value.builtin _) _ (backTo _ (starEach (_ :: _) _)) []) _ _ _; k_dflt (refine K_built ?_))
       | (show W _ _ (callWith _ (Value.type _) _ (backTo _ (starEach (_ :: _) _)) []) _ _ _; k_dflt (refine K_type ?_))
       | refine seq_next ?_
       | refine turn_next ?_)
      rw [take_snoc hrj, ← List.append_assoc]
      exact Found.add nm up frn hPf hnf (Nat.ne_of_gt (lt _ hfa)) I
    · repeat' (with_reducible first
       | (show W _ _ (execs _ _) _ _ _; refine S_nil ?_)
       | refine seq_next ?_
       | refine turn_next ?_)
      rw [List.length_map, hP.length, List.take_length] at hJ2
      rw [take_snoc hri, List.flatten_append, List.flatten_singleton]
      exact hJ2
  · obtain ⟨nm, up, dsf, nf, hfa, hPf, hnf⟩ := hJ
    rw [List.length_map, P0.length, List.take_length] at hPf
    repeat' (with_reducible first
     | (show W _ _ (eval _ _) _ _ _; (show W _ _ (eval (Expr.Name _ _) _) _ _ _; k_dflt (refine E_local (by assumption) ?_)))
     | (show W _ _ (execs _ _) _ _ _; refine S_cons ?_)
     | (show W _ _ (exec _ _) _ _ _; refine S_ret ?_)
     | refine seq_next ?_
     | refine seq_ret ?_
     | refine ret_ret ?_)
    exact z fa dsf _ nf up hPf hfa
end
section
variable {c : Cx} {env : Env} {m : Mp} {l : Led} {k : Value → Mp → Led → Prop}
theorem other_W {ra n0 C w : Nat} {ds : List Addr} {rs : List Rw} {a : Int} {tc tw ta : Tok} (o : Ok Hd.KK Hd.QQ c 6) (hf : env.frame = some env.locals) (hke : env.scope.kind = .function) (hr : (ra, lstO (ds.map .ref) n0) ∈ l) (hP : Paired (RowT l) ds rs)
   (V : ∀ r ∈ rs, Va r) (hb : ∀ r ∈ rs, (Builtin.Int.intBits r.k : Int) ≤ 2000000) (hn : rs.length ≤ 9) (c0 : 0 < C) (c1 : C ≤ 3) (w0 : 0 < w) (w1 : w ≤ 3)
   (z : ∀ l', k (.bool true) m l') : W c env (call (.ref 222) [.ref ra, .int C tc, .int w tw, .int a ta]) k m l := by
  have hlen := hP.length
  (refine' enterC ["rows", "count", "ways", "age"] (by assumption) (by first | assumption | exact rfl) (by first | assumption | exact rfl) ?k6 ?k7 ?k9 ?kB ?kN ?c2 ?c3 ?c4 ?_; (case k6 => k_is); (case k7 => k_is); (case k9 => exact rfl); (case kB => exact rfl); (case kN => decide +kernel); (case c2 => exact rfl); (case c3 => exact rfl); (case c4 => exact rfl); intro c' o' L' cells hcl ltc)
  obtain ⟨oa, orr, rfl, hoa, hor⟩ := CellsAre.two (show CellsAre _ [("age", L' + 2), ("rows", L' + 1)] cells from hcl)
  replace hoa : oa.data = .cell (some (.int a ta)) := hoa
  replace hor : orr.data = .cell (some (.ref ra)) := hor
  generalize hls : [(L' + 2, oa), (L' + 1, orr)] ++ l = ls
  have ca : (L' + 2, oa) ∈ ls := hls ▸ .head _
  have cr : (L' + 1, orr) ∈ ls := hls ▸ .tail _ (.head _)
  have U : ∀ p ∈ l, p ∈ ls := fun p hp => hls ▸ .tail _ (.tail _ hp)
  have hr1 := U _ hr
  have hP1 := rowsT_up U hP
  repeat' (with_reducible first
   | k_dflt ((with_reducible show W _ _ (call (Value.ref 147) _) _ _ _); refine W.frame [] ls (fun _ h => nomatch h) (fun _ h => h) (fun _ _ _ h => nomatch h) ?_; refine new_W (o'.fr (by decide)) rfl rfl w0 w1 c0 c1 (fun tb l1 T dj => ?_))
   | k_dflt ((with_reducible show W _ _ (eval (Expr.Name (Str.ofString "rows") _) (envOfC _ _ _ _ _)) _ _ _); refine E_cell rfl (List.mem_append_left _ (List.mem_append_right _ cr)) hor ?_)
   | k_dflt ((with_reducible show W _ _ (eval (Expr.Name (Str.ofString "age") _) (envOfC _ _ _ _ _)) _ _ _); refine E_cell rfl (List.mem_append_left _ (List.mem_append_right _ ca)) hoa ?_)
   | k_dflt ((with_reducible show W _ _ (call (Value.ref 163) _) _ _ _); refine load_W o' rfl rfl T (fun p hp => List.mem_append_left _ hp) (fun p hp => List.mem_append_right _ hp) dj hr1 hP1 V hb (by omega) (fun is l2 lT css' O sv T' sT sR => ?_))
   | (show W _ _ (eval _ _) _ _ _; first | (show W _ _ (eval (Expr.Name _ _) _) _ _ _; k_dflt (refine E_local rfl ?_)) | (show W _ _ (eval (Expr.Name _ _) _) _ _ _; k_dflt (refine E_glob (by first | assumption | exact Ok.toOkh (by assumption)) (by k_is) ?_)) | refine K_name ?_)
   | (show W _ _ (spliced _) _ _ _; first | (show W _ _ (spliced (backTo _ (starEach (_ :: _) _))) _ _ _; k_dflt (refine A_cons ?_)) | refine A_nil ?_)
   | (show W _ _ (execs _ _) _ _ _; refine S_cons ?_)
   | (show W _ _ (exec _ _) _ _ _; first | (show W _ _ (exec (Stmt.Assign [Expr.Name _ _] _ _) _) _ _ _; k_dflt (refine S_assign ?_)) | (show W _ _ (exec (Stmt.Expr _ _) _) _ _ _; k_dflt (refine S_expr ?_)))
   | (show W _ _ (callWith _ (Value.ref _) _ (backTo _ (starEach (_ :: _) _)) []) _ _ _; k_dflt (refine K_def (by first | assumption | exact Ok.toOkh (by assumption)) (by k_is) ?_))
   | refine seq_next ?_)
  refine newC o' w w1 ?it (fun D lx l3 hC s1 s2 dj2 => ?_) (by with_unfolding_all rfl) (by decide) (by rfl) (by decide) (by rfl) (by rfl)
  case it =>
    repeat' (with_reducible first
     | (show W _ _ (eval _ _) _ _ _; first | (show W _ _ (eval (Expr.Name _ _) _) _ _ _; k_dflt (refine E_local rfl ?_)) | (show W _ _ (eval (Expr.Name _ _) _) _ _ _; k_dflt (refine E_built (by first | assumption | exact Ok.toOkh (by assumption)) (by k_is) (by boot_fast) ?_ (by decide))) | refine K_name ?_)
     | (show W _ _ (spliced _) _ _ _; first | (show W _ _ (spliced (backTo _ (starEach (_ :: _) _))) _ _ _; k_dflt (refine A_cons ?_)) | refine A_nil ?_)
     | (show W _ _ (callWith _ (Value.type _) _ (backTo _ (starEach (_ :: _) _)) []) _ _ _; k_dflt (refine K_type ?_))
     | (show W _ _ (call (Value.type _) [Value.int _ _]) _ _ _; refine M_range1 ?_; intro _ _ _ _))
    exact ⟨rfl, ⟨⟨_, _, _, _, rfl, .head _⟩, by omega, by omega, by omega, by omega⟩, fun p hp => .tail _ hp⟩
  have tq : ∀ i r, rs[i]? = some r → gOf a rs i = (a - r.a).fmod 64 := fun i r h => gOf_at h
  with_reducible refine seq_next ?_
  with_reducible refine S_cons ?_
  refine S_listX o' (fun c'' o'' => ?_)
  have cr3 : (L' + 1, orr) ∈ l3 := s2 _ (sR _ cr)
  have ca3 : (L' + 2, oa) ∈ l3 := s2 _ (sR _ ca)
  have hr3 := s2 _ (sR _ hr1)
  have hP3 := rowsT_up (fun p hp => s2 _ (sR p hp)) hP1
  have rl : (ds.map Value.ref).length = rs.length := by rw [List.length_map, hlen]
  repeat' (with_reducible first
   | (show W _ _ (eval _ _) _ _ _; first | (show W _ _ (eval (Expr.Name _ _) _) _ _ _; k_dflt (refine E_built (by first | assumption | exact Ok.toOkh (by assumption)) (by k_is) (by boot_fast) ?_ (by decide))) | refine K_name ?_)
   | (show W _ _ (spliced _) _ _ _; (show W _ _ (spliced (backTo _ (starEach (_ :: _) _))) _ _ _; k_dflt (refine A_cons ?_)))
   | (show W _ _ (callWith _ (Value.builtin _) _ (backTo _ (starEach (_ :: _) _)) []) _ _ _; k_dflt (refine K_built ?_)))
  refine L_U_rangeE o'' rs.length (fun i ys l' => (∀ p ∈ l3, p ∈ l') ∧ ∃ (dq : List Addr) (qs : List (Int × Nat)) (zs : Led), ys = dq.map .ref ∧ Paired (PairT zs) dq qs ∧ qs = (List.range i).map (fun j => (63 - gOf a rs j, j)) ∧ (∀ p ∈ zs, p ∈ l') ∧ ∀ p ∈ zs, ∀ q ∈ lx, p.1 ≠ q.1) (by omega) ?it2 (fun c3 o3 i t ys l4 CC m4 hi hJ hx hT => ?tn) (fun ys l4 D4 hJ off => ?dn) (by with_unfolding_all rfl) (by decide) (by rfl) (by decide) (by rfl)
  case it2 =>
    repeat' (with_reducible first
     | k_dflt ((with_reducible show W _ _ (eval (Expr.Name (Str.ofString "rows") _) (envOfC _ _ _ _ _)) _ _ _); refine E_cell rfl (List.mem_append_left _ cr3) hor ?_)
     | k_dflt ((with_reducible show W _ _ (call (Value.builtin "len") _) _ _ _); refine M_len hr3 (by omega) ?_; intro _)
     | (show W _ _ (eval _ _) _ _ _; first | (show W _ _ (eval (Expr.Name _ _) _) _ _ _; k_dflt (refine E_built (by first | assumption | exact Ok.toOkh (by assumption)) (by k_is) (by boot_fast) ?_ (by decide))) | refine K_name ?_)
     | (show W _ _ (spliced _) _ _ _; first | (show W _ _ (spliced (backTo _ (starEach (_ :: _) _))) _ _ _; k_dflt (refine A_cons ?_)) | refine A_nil ?_)
     | (show W _ _ (callWith _ (Value.builtin _) _ (backTo _ (starEach (_ :: _) _)) []) _ _ _; k_dflt (refine K_built ?_))
     | (show W _ _ (callWith _ (Value.type _) _ (backTo _ (starEach (_ :: _) _)) []) _ _ _; k_dflt (refine K_type ?_))
     | (show W _ _ (call (Value.type _) [Value.int _ _]) _ _ _; refine M_range1 ?_; intro _ _ _ _))
    rw [rl]
    exact ⟨rfl, ⟨⟨_, _, _, _, rfl, .head _⟩, by omega, by omega, by omega, by omega⟩, fun p hp => .tail _ hp, [], [], [], rfl, .nil, rfl, fun _ h => (nomatch h), fun _ h => (nomatch h)⟩
  case tn =>
    obtain ⟨oC, hC1, hC2⟩ := hT.cell
    obtain ⟨j1, dq, qs, zs, rfl, j2, rfl, j4, j5⟩ := hJ
    obtain ⟨r, hri⟩ : ∃ r, rs[i]? = some r := ⟨_, List.getElem?_eq_getElem hi⟩
    obtain ⟨d, hdi, hd⟩ := paired_get hP3 hri
    obtain ⟨t1, t2, t3, t4, t5, t6, ht⟩ := hd
    have ht4 := j1 _ ht
    have hi' : (ds.map Value.ref)[((i : Nat) : Int).toNat]? = some (.ref d) := by rw [Int.toNat_natCast, List.getElem?_map, hdi]; rfl
    repeat' (with_reducible first
     | k_dflt ((with_reducible show W _ _ (eval (Expr.Name (Str.ofString "rows") _) (compEnvC _ _ _ _)) _ _ _); refine V_cell rfl (List.mem_append_left _ (j1 _ cr3)) hor ?_)
     | k_dflt ((with_reducible show W _ _ (eval (Expr.Name (Str.ofString "age") _) (compEnvC _ _ _ _)) _ _ _); refine V_cell rfl (List.mem_append_left _ (j1 _ ca3)) hoa ?_)
     | k_dflt ((with_reducible show W _ _ (eval (Expr.Name _ _) (compEnvC _ _ _ _)) _ _ _); refine V_own (List.mem_append_right _ hC1) hC2 hx ?_)
     | k_dflt ((with_reducible show W _ _ (subscriptTail _ _ _ _) _ _ _); first | refine I_lst (j1 _ hr3) (Int.natCast_nonneg _) (by omega) hi' ?_ | refine I_tup ht4 (by decide) (by decide) rfl ?_)
     | (show W _ _ (eval _ _) _ _ _; first | (refine E_int ?_; intro _) | refine E_binop ?_ | refine E_sub ?_ | refine E_tuple ?_)
     | (show W _ _ (spliced _) _ _ _; first | (show W _ _ (spliced (backTo _ (starEach (_ :: _) _))) _ _ _; k_dflt (refine A_cons ?_)) | refine A_nil ?_)
     | (show W _ _ (binaryOp _ _ _) _ _ _; first | (refine O_sub ?_; intro _) | (show W _ _ (binaryOp Operator.Mod (Value.int _ _) (Value.int _ _)) _ _ _; k_dflt (refine O_mod (by first | decide | assumption | omega) ?_; intro _)))
     | (show W _ _ (newTuple _) _ _ _; k_dflt (refine N_tup ?_; intro _ _)))
    rename_i Dn fn
    refine ⟨rfl, fun p hp => .tail _ (j1 p hp), dq ++ [Dn], _, (Dn, _) :: zs, by rw [List.map_append]; rfl, (j2.mono fun d q h => by obtain ⟨t, u, h⟩ := h; exact ⟨t, u, .tail _ h⟩).snoc (b := (63 - gOf a rs i, i)) ⟨_, _, by rw [tq i r hri, ← fmod_other]; exact .head _⟩, by rw [List.range_succ, List.map_append]; rfl, fun p hp => (List.mem_cons.mp hp).elim (fun e => e ▸ .head _) fun e => .tail _ (j4 p e), fun p hp q hq => (List.mem_cons.mp hp).elim (fun e => by rw [e]; exact Nat.ne_of_gt (fn q (j1 _ (s1 q hq)))) fun e => j5 p e q hq⟩
  case dn =>
    obtain ⟨j1, dq, qs, zs, rfl, j2, rfl, j4, j5⟩ := hJ
    have ql := j2.length
    rw [List.length_map, List.length_range] at ql
    repeat' (with_reducible first
     | k_dflt ((with_reducible show W _ _ (call (Value.builtin "sorted") _) _ _ _); refine M_sorted (.head _) (j2.mono fun d q h => by obtain ⟨t, u, h⟩ := h; exact ⟨t, u, .tail _ (j4 _ h)⟩) (by omega) (fun i q hq => ?hq) (fun Ds js e5 lt5 pm pw => ?_))
     | (show W _ _ (spliced _) _ _ _; refine A_nil ?_))
    case hq => exact range_2 hq
    rw [ql] at pm
    have jl : ∀ i ∈ js, i < rs.length := fun i hi => List.mem_range.mp (pm.mem_iff.mp hi)
    cases Ord.uniq (⟨pm, pw.imp_of_mem fun hi hj h => by
      unfold PLt at h
      rw [range_D (jl _ hi), range_D (jl _ hj)] at h
      unfold Ahead
      simp only at h
      omega⟩ : Ord (gOf a rs) rs.length js) O
    have lis := O.len
    generalize hvs : (is.map fun i => (dq.map Value.ref).getD i Value.none) = vs at *
    have Dx : ∀ q ∈ lx, Ds ≠ q.1 := fun q hq => Nat.ne_of_gt (lt5 q (.tail _ (j1 _ (s1 q hq))))
    generalize hz0 : ((Ds, lstO vs e5) :: (zs ++ l2)) = z0
    have zD : (Ds, lstO vs e5) ∈ z0 := hz0 ▸ .head _
    have zz : ∀ p ∈ zs, p ∈ z0 := fun p hp => hz0 ▸ .tail _ (List.mem_append_left _ hp)
    have z2 : ∀ p ∈ l2, p ∈ z0 := fun p hp => hz0 ▸ .tail _ (List.mem_append_right _ hp)
    refine ⟨Ds, vs, e5, fun i m' l' => (m' "lists" = some (.ref D) ∧ m' "count" = some (.int C tc) ∧ m' "other" = some (.ref tb)) ∧ ∃ lx' cs, CF D cs lx' ∧ (∀ p ∈ lx', p ∈ l') ∧ (∀ p ∈ z0, p ∈ l') ∧ (∀ p ∈ z0, ∀ q ∈ lx', p.1 ≠ q.1) ∧ Saves C (List.replicate w []) ((is.take i).map (rowAt rs)) cs ∧ Fit C cs ∧ cs.length = w, rfl, ?_, fun i m l h => by obtain ⟨_, _, _, _, _, h, _⟩ := h; exact h _ zD, fun c4 o4 i v m₁ l₁ hv hJ => ?_, fun m₁ l₁ hJ => ?_⟩
    · refine ⟨⟨rfl, rfl, rfl⟩, lx, _, hC, fun p hp => .tail _ (.tail _ (j1 _ (s1 p hp))), fun p hp => ?_, fun p hp q hq => ?_, .nil, fit_empty, List.length_replicate⟩
      · subst hz0
        rcases List.mem_cons.mp hp with e | e
        · exact e ▸ .head _
        · exact .tail _ (.tail _ ((List.mem_append.mp e).elim (j4 p) fun e => j1 _ (s2 p e)))
      · subst hz0
        rcases List.mem_cons.mp hp with e | e
        · rw [e]; exact Dx q hq
        · exact (List.mem_append.mp e).elim (fun e => j5 p e q hq) fun e => dj2 p e q hq
    · obtain ⟨⟨e1, e2, e3⟩, lx', cs, hC', u1, u2, u3, sv', ft, cl⟩ := hJ
      rw [← hvs, List.getElem?_map] at hv
      obtain ⟨q, hq, rfl⟩ := Option.map_eq_some_iff.mp hv
      have ql' := O.lt (List.mem_of_getElem? hq)
      obtain ⟨r, hri⟩ : ∃ r, rs[q]? = some r := ⟨_, List.getElem?_eq_getElem ql'⟩
      obtain ⟨d2, hd2, t, u, ht2⟩ := paired_get j2 (show ((List.range rs.length).map fun j => (63 - gOf a rs j, j))[q]? = some (63 - gOf a rs q, q) by rw [List.getElem?_map, List.getElem?_range ql']; rfl)
      obtain ⟨d, hdi, t1, t2, t3, t4, t5, t6, ht⟩ := paired_get hP1 hri
      rw [getD_ref hd2]
      have k2 := u2 _ (zz _ ht2)
      have kr := u2 _ (z2 _ (sR _ hr1))
      have kt := u2 _ (z2 _ (sR _ ht))
      have kc := u2 _ (z2 _ (sR _ cr))
      have hq' : (ds.map Value.ref)[((q : Nat) : Int).toNat]? = some (.ref d) := by rw [Int.toNat_natCast, List.getElem?_map, hdi]; rfl
      have W0 := V r (List.mem_of_getElem? hri)
      repeat' (with_reducible first
       | k_dflt ((with_reducible show W _ _ (eval (Expr.Subscript _ (Expr.Slice _ _ _ _) _) _) _ _ _); refine E_take5 ?_ (by with_unfolding_all rfl))
       | k_dflt ((with_reducible show W _ _ (eval (Expr.Name (Str.ofString "rows") _) (envOfC _ _ _ _ _)) _ _ _); refine E_cell rfl (List.mem_append_left _ kc) hor ?_)
       | k_dflt ((with_reducible show W _ _ (subscriptTail _ _ _ _) _ _ _); first | refine I_lst kr (Int.natCast_nonneg _) (by omega) hq' ?_ | refine I_tup k2 (by decide) (by decide) rfl ?_)
       | (show W _ _ (eval _ _) _ _ _; first | (show W _ _ (eval (Expr.Name _ _) _) _ _ _; k_dflt (refine E_local rfl ?_)) | (show W _ _ (eval (Expr.Name _ _) _) _ _ _; k_dflt (refine E_local (by assumption) ?_)) | (show W _ _ (eval (Expr.Name _ _) _) _ _ _; k_dflt (refine E_glob (by first | assumption | exact Ok.toOkh (by assumption)) (by k_is) ?_)) | (refine E_int ?_; intro _) | refine E_sub ?_ | refine K_name ?_)
       | (show W _ _ (spliced _) _ _ _; (show W _ _ (spliced (backTo _ (starEach (_ :: _) _))) _ _ _; k_dflt (refine A_cons ?_)))
       | (show W _ _ (execs _ _) _ _ _; refine S_cons ?_)
       | (show W _ _ (exec _ _) _ _ _; (show W _ _ (exec (Stmt.Expr _ _) _) _ _ _; k_dflt (refine S_expr ?_)))
       | (show W _ _ (callWith _ (Value.ref _) _ (backTo _ (starEach (_ :: _) _)) []) _ _ _; k_dflt (refine K_def (by first | assumption | exact Ok.toOkh (by assumption)) (by k_is) ?_)))
      refine ⟨_, _, _, _, _, _, _, rfl, kt, fun Dt ltt => ?_⟩
      repeat' (with_reducible first
       | k_dflt ((with_reducible show W _ _ (call (Value.ref 196) _) _ _ _); refine W.frame ((Dt, tupO [.int r.k t1, .int r.m t2, .int r.v t3, .int r.d t4, .int r.b t5]) :: lx') z0 (fun p hp => (List.mem_cons.mp hp).elim (fun e => e ▸ .head _) fun e => .tail _ (u1 p e)) (fun p hp => .tail _ (u2 p hp)) (fun p hp q hq => (List.mem_cons.mp hq).elim (fun e => by rw [e]; exact Nat.ne_of_lt (ltt p (u2 p hp))) (u3 p hp q)) ?_; refine keep_W (r := { r with a := 0 }) (w := C) (o4.fr (by decide)) rfl rfl (hC'.up fun p hp => .tail _ hp) ft (by rw [cl]; exact w0) (by rw [cl]; exact w1) c1 c0 { W0 with a0 := Int.le_refl 0, a1 := by show (0 : Int) ≤ 63; decide } ⟨_, .head _, rfl⟩ (fun rs0 rs1 l6 g1 g2 g3 _ g4 => ?_))
       | (show W _ _ (spliced _) _ _ _; refine A_nil ?_)
       | (show W _ _ (execs _ _) _ _ _; refine S_nil ?_)
       | refine seq_next ?_
       | refine turn_next ?_)
      refine ⟨⟨e1, e2, e3⟩, l6, _, g3, fun p hp => List.mem_append_left _ hp, fun p hp => List.mem_append_right _ hp, g4, ?_, ft.set (g2.fit (ft _ (List.mem_of_getElem? g1)).1 (ft _ (List.mem_of_getElem? g1)).2 { W0 with a0 := Int.le_refl 0, a1 := by show (0 : Int) ≤ 63; decide }), by rw [List.length_set]; exact cl⟩
      have := sv'.snoc (r := r) g1 g2
      rw [take_snoc hq, List.map_append, List.map_singleton, rowAt_at hri]
      exact this
    · obtain ⟨⟨e1, e2, e3⟩, lx', cs, hC', u1, u2, u3, sv', ft, cl⟩ := hJ
      rw [← hvs, List.length_map, List.take_length] at sv'
      cases sv.uniq sv'
      have T4 := T'.up fun p hp => u2 p (z2 p (sT p hp))
      have C4 := hC'.up u1
      have fl : css'.flatten.length ≤ 1000 := by
        have h1 : ∀ (css : List (List Rw)), Fit C css → css.flatten.length ≤ css.length * 3 := fun css => by
          induction css with
          | nil => exact fun _ => Nat.zero_le _
          | cons x y ih =>
            intro h
            have a := (h x (.head _)).1
            have b := ih fun q hq => h q (.tail _ hq)
            rw [List.flatten_cons, List.length_append, List.length_cons]
            omega
        have := h1 _ ft
        omega
      repeat' (with_reducible first
       | k_dflt ((with_reducible show W _ _ (call (Value.ref 156) _) _ _ _); refine kept_W (o'.le (by decide)) rfl rfl T4 (fun D1 ds1 l7 n7 up7 P7 m7 => ?_))
       | k_dflt ((with_reducible show W _ _ (call (Value.ref 217) _) _ _ _); refine all_W (o'.le (by decide)) rfl rfl (C4.up up7) fl (fun D2 ds2 l8 n8 up8 P8 m8 => ?_))
       | k_dflt ((with_reducible show W _ _ (compareOp _ _ _) _ _ _); refine C_eqRows o' (up8 _ m7) (rowsT_up up8 P7) m8 P8 ?_)
       | (((show W _ _ (eval (Expr.Compare _ _ _ _) _) _ _ _; k_dflt (refine' E_pv ?pi ?_))); (case pi => repeat' (with_reducible first | apply PV_cmp | (show cmpI _ = true; k_dflt rfl))))
       | (show W _ _ (eval _ _) _ _ _; first | (show W _ _ (eval (Expr.Name _ _) _) _ _ _; k_dflt (refine E_local (by assumption) ?_)) | (show W _ _ (eval (Expr.Name _ _) _) _ _ _; k_dflt (refine E_glob (by first | assumption | exact Ok.toOkh (by assumption)) (by k_is) ?_)) | (show W _ _ (eval (Expr.Compare _ [_] [_] _) _) _ _ _; k_dflt (refine E_cmp ?_)) | refine K_name ?_)
       | (show W _ _ (spliced _) _ _ _; first | (show W _ _ (spliced (backTo _ (starEach (_ :: _) _))) _ _ _; k_dflt (refine A_cons ?_)) | refine A_nil ?_)
       | (show W _ _ (execs _ _) _ _ _; refine S_cons ?_)
       | (show W _ _ (exec _ _) _ _ _; refine S_ret ?_)
       | (show W _ _ (callWith _ (Value.ref _) _ (backTo _ (starEach (_ :: _) _)) []) _ _ _; k_dflt (refine K_def (by first | assumption | exact Ok.toOkh (by assumption)) (by k_is) ?_))
       | refine seq_next ?_
       | refine seq_ret ?_
       | refine ret_ret ?_)
      rw [decide_eq_true rfl]
      exact z _
end
/-! an own class of exceptions under an own class that has an own __init__ -/
abbrev bmX : List Value := [.type "Exception", .type "BaseException", .type "object"]
abbrev exO (C t : Addr) (dd : Option Addr) : Obj := ⟨.ref C, dd, .fields #[.ref t, .none, .none, .none, .bool false, .none], #[]⟩
/-- what the heap holds of such a class -/
def XC (C D : Addr) (o : Obj) : Prop := ∃ nm q N bs hdct sn sub ab col dd k0 k1 k2 k3 k5, o = excClassObj nm q C N bs (.ref D :: bmX) hdct sn sub ab col dd k0 k1 k2 k3 k5 "Exception.__new__"
section
variable {prog : Program} {w : World} {A : Around} {E : Value → Shared → Prop} {h : Heap} {g : Array GenState} {d : Drawn} {tk : Nat} {os : OsState} {K : Frag} {C D f : Addr} {oC : Obj} {rest : List Value}
theorem xc_has {v : Value} (hv : bmX.contains v = true) : (Value.ref C :: .ref D :: bmX).contains v = true := by rw [List.contains_cons, List.contains_cons, hv, Bool.or_true, Bool.or_true]
theorem xc_not {n : String} (hv : bmX.contains (.type n) = false) : (Value.ref C :: .ref D :: bmX).contains (.type n) = false := by rw [List.contains_cons, List.contains_cons, hv]; rfl
theorem xc_checkNew {M : Model} {Q : Unit → Shared → Prop} (hC : h.get? C = some oC) (x : XC C D oC) (hq : Q () ⟨h, g, d, tk, os⟩) : wpAny M A (checkBuiltinCall "Exception.__new__" ⟨.ref C :: rest, []⟩) Q E ⟨h, g, d, tk, os⟩ := by
  obtain ⟨nm, q, N, bs, hdct, sn, sub, ab, col, dd, k0, k1, k2, k3, k5, rfl⟩ := x
  have F := PySem.F.excBase_Exception
  have hcont := xc_has (C := C) (D := D) F.hasB
  have hstar := F.noStar
  simp only [checkBuiltinCall, F.newKind, F.newSplit, F.newRow]
  repeat (first | refine wpAny_loadPart_at hC ?_ | (refine wpAny_isSubtype_exc hC ?_; rw [hcont]) | refine wpAny_staticBase_exc hC ?_ | refine wpAny_madeBy_exc hC ?_ | simp only [bne_self_eq_false, Bool.false_eq_true, if_false] | wp_step)
  exact hq
theorem xc_new {R : Result → Shared → Prop} (hC : h.get? C = some oC) (x : XC C D oC)
    (hq : R (.ok (.ret (.ref (h.objs.size + 1)))) ⟨(h.push { cls := .type "tuple", data := .seq rest.toArray }).push (exO C h.objs.size none), g, d, tk, os⟩) (hrest : rest.length ≤ sizeLine) :
    codeAny (model prog w) A (.builtin "Exception.__new__" ⟨.ref C :: rest, []⟩) R ⟨h, g, d, tk, os⟩ := by
  obtain ⟨nm, q, N, bs, hdct, sn, sub, ab, col, dd, k0, k1, k2, k3, k5, rfl⟩ := x
  have F := PySem.F.excBase_Exception
  have hends := F.ends
  have hcB := xc_has (C := C) (D := D) F.hasB
  have hcA := xc_not (C := C) (D := D) F.noAttr
  have hcN := xc_not (C := C) (D := D) F.noName
  refine codeAny_builtinAt F.entry ?_
  unfold Builtin.«BaseException.__new__»
  refine PySem.wpAt_bind ?_
  show PySem.wpAt _ _ _ (stack >>= _) _ _ _
  refine PySem.wpAt_bind (PySem.wpAt_stack fun p below => PySem.wpAt_of_wpAny ?_)
  wp_walk
  refine PySem.wpAt_of_wpAny ?_
  rw [F.owner]
  repeat (first | with_reducible refine wpAny_madeHere_exc F.canon hC ?_ | with_reducible refine wpAny_loadPart_at hC ?_ | (with_reducible refine wpAny_isSubtype_exc hC ?_; first | rw [hcB] | rw [hcA] | rw [hcN]) | wp_step)
  show R _ _
  rw [Heap.size_push]
  exact hq
theorem xc_checkInit {M : Model} {e : Addr} {oe : Obj} {Q : Unit → Shared → Prop}
    (hC : h.get? C = some oC) (x : XC C D oC) (he : h.get? e = some oe) (hcls : oe.cls = .ref C) (hq : Q () ⟨h, g, d, tk, os⟩) :
    wpAny M A (checkBuiltinCall "Exception.__init__" ⟨.ref e :: rest, []⟩) Q E ⟨h, g, d, tk, os⟩ := by
  obtain ⟨nm, q, N, bs, hdct, sn, sub, ab, col, dd, k0, k1, k2, k3, k5, rfl⟩ := x
  have F := PySem.F.excBase_Exception
  have hcB := xc_has (C := C) (D := D) F.hasB
  have hshort := F.noStar
  simp only [checkBuiltinCall, F.initKind, F.initSplit, F.initRow]
  repeat (first | (with_reducible refine wpAny_loadPart_at he ?_; rw [hcls]) | with_reducible refine wpAny_loadPart_at hC ?_ | (with_reducible refine wpAny_isSubtype_exc hC ?_; rw [hcB]) | wp_step)
  refine wpAny_onRaise ?_
  rw [show ∀ (a b : String) (n : Nat), Bind.check ⟨.positional, "*", "Exception", .self, [⟨"args", .varPos, false⟩]⟩ a b n (List.map (fun x => x.fst) ({ pos := Value.ref e :: rest } : Args).kw) = pure () from
    fun a b n => check_star_args _ _ _ _ _ _]
  exact wpAny_pure hq
theorem xc_make {Q : Fin → Shared → Prop} (X : K.In h) (hC : h.get? C = some oC) (x : XC C D oC) (hi : findIn K (.ref C) "__init__" = some (some (.ref f))) (hf : isFn K (.ref f) = true)
    (hq : wpAny (model prog w) A (call (.ref f) (.ref (h.objs.size + 1) :: rest)) (fun r s' => r = .none ∧ Q (.done (.ret (.ref (h.objs.size + 1)))) s') E
      ⟨(h.push { cls := .type "tuple", data := .seq rest.toArray }).push (exO C h.objs.size none), g, d, tk, os⟩) (hrest : rest.length ≤ sizeLine) :
    wpAny (model prog w) A (Builtin.«type.__call__» ⟨.ref C :: rest, []⟩) Q E ⟨h, g, d, tk, os⟩ := by
  have x' := x
  obtain ⟨nm, q, N, bs, hdct, sn, sub, ab, col, dd, k0, k1, k2, k3, k5, rfl⟩ := x
  have F := PySem.F.excBase_Exception
  repeat (first | with_reducible refine wpAny_loadPart_at hC ?_ | with_reducible refine wpAny_madeBy_exc hC ?_ | wp_step)
  refine codeAny_call_builtin_code (Code.quiet_builtin _ F.quiet) (xc_checkNew hC x' ?_)
  refine xc_new hC x' ?_ hrest
  show wpAny _ _ _ _ _ _
  have kp : ∀ b o, h.get? b = some o → ((h.push { cls := .type "tuple", data := .seq rest.toArray }).push (exO C h.objs.size none)).get? b = some o := fun b o e => Heap.get?_push_of_some _ (Heap.get?_push_of_some _ e)
  have hC₁ := kp _ _ hC
  have hget : ((h.push { cls := .type "tuple", data := .seq rest.toArray }).push (exO C h.objs.size none)).get? (h.objs.size + 1) = some (exO C h.objs.size none) := Heap.get?_push_at (by simp only [Heap.size_push]) rfl
  have hcC : (Value.ref C :: .ref D :: bmX).contains (.ref C) = true := by simp
  unfold isInstance
  repeat (first | with_reducible refine wpAny_loadPart_at hget ?_ | (with_reducible refine wpAny_isSubtype_exc hC₁ ?_; rw [hcC]) | wp_step)
  show wpAny _ _ (typeLookup (.ref C) _) _ _ _
  refine looks_findIn X hi _ _ _ _ kp ?_
  refine wpAny_holding (wpAny_bind ?_)
  unfold bindSpecial
  refine wpAny_bind (looks_typeIn X (beq_iff_eq.mp hf) _ _ _ _ kp ?_)
  rw [if_pos (by decide)]
  refine wpAny_pure (wpAny_bind (wpAny_mono hq (fun r s' hr => ?_) fun _ _ x => x))
  obtain ⟨rfl, hQ⟩ := hr
  wp_walk
  exact hQ
theorem xc_call {Q : Value → Shared → Prop} (X : K.In h) (hC : h.get? C = some oC) (x : XC C D oC) (hi : findIn K (.ref C) "__init__" = some (some (.ref f))) (hf : isFn K (.ref f) = true)
    (hq : wpAny (model prog w) (A.under (.builtin "type.__call__" ⟨.ref C :: rest, []⟩)) (call (.ref f) (.ref (h.objs.size + 1) :: rest)) (fun r s' => r = .none ∧ Q (.ref (h.objs.size + 1)) s') E
      ⟨(h.push { cls := .type "tuple", data := .seq rest.toArray }).push (exO C h.objs.size none), g, d, tk, os⟩) (hrest : rest.length ≤ sizeLine) :
    wpAny (model prog w) A (call (.ref C) rest) Q E ⟨h, g, d, tk, os⟩ := by
  have x' := x
  obtain ⟨nm, q, N, bs, hdct, sn, sub, ab, col, dd, k0, k1, k2, k3, k5, rfl⟩ := x
  have f1 := tc_lookup
  have f2 := tc_bind (.ref C)
  have hT : (⟨h, g, d, tk, os⟩ : Shared).TypeIs (.ref C) "type" := ⟨_, hC, rfl⟩
  refine wpAny_call (codeAny_of_tree ?_)
  show wpAny _ _ (callAny (.ref C) _) _ _ _
  repeat (any_goals (first | assumption | with_reducible refine wpAny_loadPart_at hC ?_ | wp_step))
  refine ⟨rfl, ?_⟩
  exact codeAny_call_builtin_at (Code.quiet_builtin _ (by decide +kernel)) entry_typeCall (wpAny_check_type_call_sub hC (xc_make X hC x' hi hf hq hrest))
theorem xc_osa {x : Addr} {ox : Obj} {od : Option Obj} {s : Shared} {name : PySem.Str} {tk : Tok} {v : Value} {R : Result → Shared → Prop} (X : K.In s.heap) (I : InstAt s.heap x ox C od) (hC : K.lookup C = some oC) (xc : XC C D oC) (ht : takerIn K C name = some none)
    (h : ∀ b, wpAny (model prog w) A.in1 (PySem.Builtin.ObjectAttr.storeInOwnDict (.ref x) (.ref C) (.str name tk) name v b)
      (fun fin s' => match fin with | .done f => R (.ok f) s' | .again c' => c'.quiet = true ∧ codeAny (model prog w) A c' R s') (fun e s' => R (.error e) s') s) :
    codeAny (model prog w) A (.call (.builtin "object.__setattr__") ⟨[.ref x, .str name tk, v], []⟩) R s := by
  have SF := PySem.F.store_object
  have hC' := X _ _ hC
  obtain ⟨nm, q, N, bs, hdct, sn, sub, ab, col, dd, k0, k1, k2, k3, k5, rfl⟩ := xc
  have sub : Looks (model prog w) s.heap (isInstance (.ref x) (.type "object")) true := I.type.andThen fun A Q E s kp q => by
    obtain ⟨hh, g, d, t, os⟩ := s
    exact wpAny_isSubtype_exc (kp _ _ hC') (by rw [xc_has (by decide)]; exact q)
  have hm : Looks (model prog w) s.heap (mroOf (.ref C)) (.ref C :: .ref D :: bmX) := fun A Q E s kp q => by
    obtain ⟨hh, g, d, t, os⟩ := s
    exact wpAny_mroOf_exc (kp _ _ hC') q
  refine codeAny_call_builtin SF.slot.plain SF.entry (@check_slot (model prog w) _ _ s "object.__setattr__" "object" "__setattr__" (.ref x) [.str name tk, v] [] _ SF.kind SF.split sub (SF.args (.ref x) (.str name tk) v) ?_)
  obtain ⟨attr, ha, hr⟩ := Option.bind_eq_some_iff.mp ht
  have L3 : Looks (model prog w) s.heap (PySem.Builtin.ObjectAttr.storeTaker? attr) none := by
    cases attr with
    | none => exact .now
    | some a =>
      obtain ⟨b, hb, e⟩ := Option.map_eq_some_iff.mp hr
      refine (looks_takesIn X hb).andThen ?_
      cases b
      · exact .now
      · cases e
  rw [osa_eq, refuse_eq]
  refine wpAny_bind (wpAny_bind (I.type.here (wpAny_bind (hm.here ?_))))
  rw [refuseLoop_ref, refuseLoop_ref, PySem.F.store_Exception.passes]
  refine wpAny_pure (wpAny_bind (I.type.here (wpAny_bind ((looks_findIn X ha).here (wpAny_bind (L3.here ?_))))))
  exact h _
theorem xc_raise {env : Env} {s : Shared} {x : Sem Value} {Q : Flow → Shared → Prop} (hh : A.handled = none)
    (hx : wpAny (model prog w) A x (fun v s₁ => ∃ e t dd, v = .ref e ∧ s₁.heap.get? C = some oC ∧ XC C D oC ∧ s₁.heap.get? e = some (exO C t dd) ∧ E (.ref e) s₁) E s) :
    wpAny (model prog w) A (raiseStmt env (some x) none) Q E s := by
  have hcB := xc_has (C := C) (D := D) PySem.F.excBase_Exception.hasBase
  unfold raiseStmt
  refine wpAny_bind (wpAny_mono hx (fun v s₁ h₁ => ?_) fun _ _ x => x)
  obtain ⟨e, t, dd, rfl, hC, ⟨nm, q, N, bs, hdct, sn, sub, ab, col, dd', k0, k1, k2, k3, k5, rfl⟩, he, hE⟩ := h₁
  obtain ⟨hp, g, d, tk, os⟩ := s₁
  repeat (first | with_reducible refine wpAny_loadPart_at he ?_ | with_reducible refine wpAny_loadPart_at hC ?_ | (with_reducible refine wpAny_isSubtype_exc hC ?_; rw [hcB]) | wp_step)
  exact wpAny_raiseNew_none hh hE
end

section
variable {K : Params → Frag} {P : Program} {c : Cx} {env ev : Env} {m : Mp} {l : Led} {n : Nat} {C D f e t : Addr} {oC : Obj}
theorem E_str {x : PySem.Str} {u : Nat} {pos : Pos} {k : Value → Mp → Led → Prop} (z : ∀ t, k (.str x t) m l) : W c env (eval (.Constant (.str x) u pos) ev) k m l := fun h tk S => wpAny_Constant_str (.mk S (z _))
theorem St.push {h : Heap} (S : St c env h m l) (o : Obj) (hf : o.isFreed = false) : St c env (h.push o) m ((h.objs.size, o) :: l) :=
  S.new (S.F.push _) (News.push S.F S.N _ hf) fun p hp => Heap.lt_size (S.N p hp).1
/-- Exception.__init__(self, ..) -/
theorem X_init {k : Value → Mp → Led → Prop} {v : Value} (o : Okh K P c n) (hC : (K c.w.params).lookup C = some oC) (x : XC C D oC) (hm : (e, exO C t none) ∈ l) (z : ∀ t', k .none m (put e (exO C t' none) l)) : W c env (call (.builtin "Exception.__init__") [.ref e, v]) k m l := fun h tk S => by
  have F := PySem.F.excBase_Exception
  have he := S.get hm
  refine wpAny_call (codeAny_call_builtin F.init.plain F.initEntry (xc_checkInit (o.X.keeps S.F.keep _ _ hC) x he rfl ?_))
  unfold Builtin.«BaseException.__init__»
  dsimp only
  rw [if_neg (by simp)]
  unfold newTuple Builtin.BaseException.bexcPut
  have he₁ := Heap.get?_push_of_some (h := h) { cls := .type "tuple", data := .seq [v].toArray } he
  refine wpAny_bind (wpAny_newObj_type (wpAny_bind (wpAny_bind (wpAny_field he₁ rfl rfl (wpAny_bind (wpAny_setField he₁ rfl (by simp) ?_))))) (by size_fits))
  refine wpAny_letGo (wpAny_pure (show Kq c env k .none _ from .mk (((S.push _ rfl).put' (o' := exO C h.objs.size none) (List.mem_cons_of_mem _ hm) (Heap.SameBut.update ..) (Heap.get?_update_self _ he₁ rfl)).drop (l' := put e (exO C h.objs.size none) l) fun p hp => ?_) (z h.objs.size)))
  rcases put_mem hp with rfl | hp
  · exact put_at
  · exact put_off (List.mem_cons_of_mem _ hp.1) hp.2
/-- the first attribute of an object of the class -/
theorem X_attr {k : Unit → Mp → Led → Prop} {v : Value} {name : PySem.Str} (o : Okh K P c n) (hm : (e, exO C t none) ∈ l) (hs : findIn (K c.w.params) (.ref C) "__setattr__" = some (some (.builtin "object.__setattr__")))
    (hC : (K c.w.params).lookup C = some oC) (xc : XC C D oC) (ht : takerIn (K c.w.params) C name = some none) (hh : hasDictIn (K c.w.params) C = true) (z : ∀ d, k () m (put e (exO C t (some d)) l)) : W c env (setAttr (.ref e) name v) k m l := fun h tk S => by
  have X := o.X.keeps S.F.keep
  have I : InstAt h e (exO C t none) C none := ⟨S.get hm, rfl, rfl, trivial⟩
  refine set_plain X I hs (xc_osa (s := c.S h (tk + 1)) X I hC xc ht fun b => ?_)
  obtain ⟨cd, hc, hd'⟩ := any_some hh
  have he := S.get hm
  refine wpAny_bind (wpAny_pure (wpAny_bind (wpAny_bind (wpAny_loadPart he (wpAny_bind ((looks_clsIn X hc).here ?_))))))
  rw [hd']
  have S₁ := S.push ⟨.type "dict", none, .dict #[] 0, #[]⟩ rfl
  have he₁ := S₁.get (List.mem_cons_of_mem _ hm)
  have S₂ := S₁.put' (o' := exO C t (some h.objs.size)) (List.mem_cons_of_mem _ hm) (Heap.SameBut.update _ _ fun o => { o with dict := some h.objs.size }) (Heap.get?_update_self _ he₁ rfl)
  have hne : h.objs.size ≠ e := Ne.symm (Nat.ne_of_lt (Heap.lt_size he))
  have hdm : (h.objs.size, (⟨.type "dict", none, .dict #[] 0, #[]⟩ : Obj)) ∈ put e (exO C t (some h.objs.size)) ((h.objs.size, ⟨.type "dict", none, .dict #[] 0, #[]⟩) :: l) := put_off (List.mem_cons_self ..) hne
  refine wpAny_bind (wpAny_alloc' (wpAny_bind (wpAny_update' he₁ (wpAny_pure ?_))))
  have hnd : ((h.push ⟨.type "dict", none, .dict #[] 0, #[]⟩).update e fun o => { o with dict := some h.objs.size }).Ns h.objs.size (fun _ => none) := ⟨_, #[], _, S₂.get hdm, rfl, fun e he => absurd he (by simp), fun _ => rfl⟩
  refine wpAny_bind (wpAny_pure (wpAny_bind (wpAny_nsSet1 (Heap.Ns1.of_empty hnd) fun h' hn' hs => ?_)))
  obtain ⟨oD, esD, epD, hoD, hdD, hcD⟩ := hn'.count (Within.cons name v Within.nil)
  refine wpAny_bind (wpAny_lookBehind hoD (by rw [hdD]; exact pastItsLine_dict (Nat.le_trans hcD (by rw [List.length_cons, List.length_nil, sizeLine_eq]; omega))) ?_)
  exact wpAny_pure (show Kq c env k () _ from .mk ((S₂.put' hdm hs hoD).drop fun p hp => by
    rcases put_mem hp with rfl | hp
    · exact put_off put_at (Ne.symm hne)
    · refine put_off (put_off (List.mem_cons_of_mem _ hp.1) hp.2) fun q => ?_
      exact absurd (q ▸ Heap.lt_size (S.N p (List.mem_append_left _ hp.1)).1 : h.objs.size < h.objs.size) (Nat.lt_irrefl _)) (z _))
theorem S_raise {x : PySem.Str} {np cpos pos : Pos} {args : List Expr} {zs : Led} {k : Flow → Mp → Led → Prop} (o : Ok K P c n) (rs : Rse c env C zs) (hC : (K c.w.params).lookup C = some oC) (xc : XC C D oC)
    (y : W c env (eval (.Call (.Name x np) args [] cpos) env) (fun v m l => ∃ e t d, v = .ref e ∧ (e, exO C t d) ∈ l ∧ ∀ p ∈ zs, p ∈ l ++ c.z ∧ p.1 ≠ e) m l) : W c env (exec (.Raise (some (.Call (.Name x np) args [] cpos)) none pos) env) k m l := fun h tk S => by
  rw [arm_exec_Raise]
  refine wpAny_bind (wpAny_standAt (xc_raise (C := C) (D := D) (oC := oC) o.hn (wpAny_bind (y.to S fun v s z => wpAny_bind (wpAny_standAt (wpAny_pure ?_))))))
  obtain ⟨h, tk, m, l, rfl, S, e, t, d, rfl, hm, hz⟩ := z
  refine ⟨e, t, d, rfl, o.X.keeps S.F.keep _ _ hC, xc, S.get hm, rs.own m e (exO C t d) #[.ref t, .none, .none, .none, .bool false, .none] h tk S.F (fun p hp => ?_) rfl rfl rfl rfl fun q hq => (hz q hq).2⟩
  rcases List.mem_cons.mp hp with rfl | hp
  · exact S.N _ (List.mem_append_left _ hm)
  · exact S.N _ (hz p hp).1

/-- the class is called: a new exception, and then its own __init__ -/
theorem enterX {k : Value → Mp → Led → Prop} {name qual : PySem.Str} {params : Arguments} {body : List Stmt} {scope : Scope} {dV kV doc pm cdv ct oc : Value} {an od : Option Addr} {osl : Array (Option Value)} {vs : List Value} (ns : List PySem.Str)
    (o : Ok K P c (n + 2)) (hf : env.frame = some env.locals) (hke : env.scope.kind = .function) (hC : (K c.w.params).lookup C = some oC) (xc : XC C D oC) (hi : findIn (K c.w.params) (.ref C) "__init__" = some (some (.ref f))) (hfn : isFn (K c.w.params) (.ref f) = true)
    (ho : (K c.w.params).lookup f = some ⟨oc, od, .func (fnOf name qual params body scope dV kV doc pm an cdv ct), osl⟩) (hcd : codeIn (K c.w.params) cdv qual = true)
    (hbind : ∀ x, bindArgs (fnOf name qual params body scope dV kV doc pm an cdv ct) ⟨.ref x :: vs, []⟩ = pure (ns.zip (.ref x :: vs))) (hns : ns.Nodup) (hloc : (ns.all fun x => decide (scope.names.lookup x = some .local)) = true)
    (hco : scope.isCoroutine = false) (hgen : scope.isGenerator = false) (hk : scope.kind = .function) (hcell : (scope.names.all fun x => decide (x.2 ≠ .cell)) = true) (hrest : vs.length ≤ sizeLine)
    (h : ∀ c', Ok K P c' n → ∀ L' x t, (∀ p ∈ l ++ c.z, p.1 < x) → W c' (envOf qual scope L' f cdv) (execs body (envOf qual scope L' f cdv)) (retK (fun v m l => v = .none ∧ k (.ref x) m l) m) (mapOf ns (.ref x :: vs)) ((x, exO C t none) :: l)) :
    W c env (call (.ref C) vs) k m l := fun hh tk S =>
  xc_call (o.X.keeps S.F.keep) (o.X.keeps S.F.keep _ _ hC) xc hi hfn (by
    have o2 : Ok K P { c with dp := ((c.A env).under (.builtin "type.__call__" ⟨.ref C :: vs, []⟩)).depth, un := ((c.A env).under (.builtin "type.__call__" ⟨.ref C :: vs, []⟩)).units, gd := ((c.A env).under (.builtin "type.__call__" ⟨.ref C :: vs, []⟩)).guards } (n + 1) :=
      ⟨⟨o.B, o.X, o.T, by have := o.hd; show c.dp + 1 + _ < _; omega, by have := o.hu; show c.un + Code.cUnits (.builtin "type.__call__" ⟨.ref C :: vs, []⟩) + _ + _ < _; have := tc_units ⟨.ref C :: vs, []⟩; omega⟩, o.hn⟩
    have S₁ := S.push ⟨.type "tuple", none, .seq vs.toArray 0, #[]⟩ rfl
    have S₂ := S₁.push (exO C hh.objs.size none) rfl
    rw [Heap.size_push] at S₂
    have S₃ : St c env _ m ((hh.objs.size + 1, exO C hh.objs.size none) :: l) := S₂.drop fun p hp => (List.mem_cons.mp hp).elim (fun q => q ▸ .head _) fun q => .tail _ (.tail _ q)
    exact wpAny_call (enterCode (c := { c with dp := ((c.A env).under (.builtin "type.__call__" ⟨.ref C :: vs, []⟩)).depth, un := ((c.A env).under (.builtin "type.__call__" ⟨.ref C :: vs, []⟩)).units, gd := ((c.A env).under (.builtin "type.__call__" ⟨.ref C :: vs, []⟩)).guards }) (m := m) (l := (hh.objs.size + 1, exO C hh.objs.size none) :: l) (k := fun v m l => v = .none ∧ k (.ref (hh.objs.size + 1)) m l)
      ns o2.toOkh hf hke ho hcd (hbind _) hns hloc hco hgen hk hcell (fun v s' z => z.st fun h tk m l e S z => ⟨z.1, e ▸ .mk ⟨S.F, S.N, S.D⟩ z.2⟩) (fun _ _ z => z) (fun c' o' e L' _ => h c' ⟨o', e.hn.trans o.hn⟩ L' _ _ (fun p hp => Nat.lt_succ_of_lt (Heap.lt_size (S.N p hp).1)))
      ⟨S₃.F, S₃.N, S₃.D⟩)) hrest
end
/-! a def that handles an exception of its callee's, called from the outermost def -/
section
variable {A₀ A : Around} {s : Shared} {base h₀ : Heap} {L : Addr} {m : Mp} {env : Env} {news : Led}
theorem groundT (B : Below A₀ base [] h₀) (F : Fr h₀ L s.heap m) (N : News h₀ L s.heap news) (hA : A.frames = some [env]) (hf : env.frame = some L) (hke : env.scope.kind = .function) :
    Fr h₀ L (hideAll s.heap (news.map (·.1))) m ∧ Below A base [env] (hideAll s.heap (news.map (·.1))) ∧ h₀.StaysIn (hideAll s.heap (news.map (·.1))) ∧
      ∀ g' L' m' news' h', KtsTurn [L] (hideAll s.heap (news.map (·.1))) g' → Fr g' L' h' m' → News g' L' h' news' → Fr h₀ L h' m ∧ News h₀ L h' news' := by
  obtain ⟨FG, BG, st, _⟩ := groundX (R := fun _ _ => True) B F N hA hf hke
  refine ⟨FG, BG, st, fun g' L' m' news' h' T' F' N' => ?_⟩
  obtain ⟨oL, es, ep, hLg, hLd, hLk, hLf⟩ := FG.ns
  obtain ⟨sl, hs⟩ := T'.up hLg
  refine ⟨⟨⟨_, es, ep, F'.keep _ _ hs, hLd, hLk, hLf⟩, fun b o e => F'.keep b o (T'.other b o (st b o e) fun q => ?_), F.above⟩, fun p hp => ⟨(N' p hp).1, fun q => ?_, ?_⟩⟩
  · rw [List.mem_singleton.mp q, kts_self F] at e; cases e
  · have := (N' p hp).2.2; rw [q, hs] at this; cases this
  · cases q : h₀.get? p.1 with
    | none => rfl
    | some o =>
      obtain ⟨sl', hs'⟩ := T'.up (st _ _ q)
      have := (N' p hp).2.2
      rw [hs'] at this
      cases this
end
section
variable {K : Params → Frag} {P : Program} {c : Cx} {env : Env} {m : Mp} {l zs : Led} {n : Nat} {kx : Value → Prop}
/-- how a handler's suite leaves the def: with a value, upon a ground of which the frames' slots may have turned -/
def Xt (c : Cx) (env : Env) (zs : Led) (kx : Value → Prop) (f : Flow) (s : Shared) : Prop :=
  ∃ v g' h' m' tk, f = .ret v ∧ s = c.S h' tk ∧ KtsTurn (c.outer.filterMap (·.frame)) c.h₀ g' ∧ Fr g' env.locals h' m' ∧ News g' env.locals h' zs ∧ kx v
def T (c : Cx) (env : Env) (t : Sem Flow) (k : Flow → Mp → Led → Prop) (X : Flow → Shared → Prop) (m : Mp) (l : Led) : Prop :=
  ∀ h tk, St c env h m l → wpAny (model c.prog c.w) (c.A env) t (fun a s => Kq c env k a s ∨ X a s) c.E (c.S h tk)
theorem T_cons {st : Stmt} {rest : List Stmt} {k : Flow → Mp → Led → Prop} {X : Flow → Shared → Prop} (x : W c env (exec st env) (seqK (T c env (execs rest env) k X) k) m l) : T c env (execs (st :: rest) env) k X m l := fun h tk S =>
  wpAny_execs_cons (x.to S fun f s z => by
    obtain ⟨h, tk, m, l, rfl, S, z⟩ := z
    cases f with
    | next => exact z h tk S
    | _ => exact .inl (.mk S z))
theorem T_try {C : Addr} {name : PySem.Str} {scope : Scope} {L a : Addr} {cd : Value} {body rest suite : List Stmt} {b₀ : Stmt} {x : PySem.Str} {np hpos pos : Pos} {hs : List ExceptHandler} {k : Flow → Mp → Led → Prop}
    (o : Ok K P c n) (hE : c.E = fun _ _ => False) (deep : ∀ e', c.A₀.deeper e' = c.A e') (XB : (K c.w.params).In c.base) (TB : Top P [] c.mean c.mg c.mb c.base)
    (ex : nsIn (K c.w.params) mainGlobals x = some (some (.ref C))) (q : ktsIn (K c.w.params) C "BaseException" = true)
    (hk : scope.kind = .function) (hx : (envOf name scope L a cd).kindOf x = some .globalImplicit) (hd : (x == ("__debug__" : PySem.Str)) = false)
    (y : ∀ E', Thr { c with E := E' } (envOf name scope L a cd) C zs m → W { c with E := E' } (envOf name scope L a cd) (execs body (envOf name scope L a cd)) (seqK (W c (envOf name scope L a cd) (execs rest (envOf name scope L a cd)) k) k) m l)
    (z : ∀ c₂ e oe ws, Okh K P c₂ n → c₂.w = c.w → c₂.hn = some (.ref e) → oe.data = .fields ws → ws[2]? = some .none → c₂.z = [] → W c₂ (envOf name scope L a cd) (execs (b₀ :: suite) (envOf name scope L a cd)) (fun fl _ l => ∃ v, fl = .ret v ∧ (∀ p ∈ zs, p ∈ l) ∧ kx v) m ((e, oe) :: zs)) :
    T c (envOf name scope L a cd) (execs (.Try body (.ExceptHandler (some (.Name x np)) none (b₀ :: suite) hpos :: hs) [] [] pos :: rest) (envOf name scope L a cd)) k (Xt c (envOf name scope L a cd) zs kx) m l := fun h tk S => by
  refine wpAny_execs_cons (wpAny_Try_except (wpAny_mono (y (fun e s₁ => wpAny (model c.prog c.w) (c.A (envOf name scope L a cd)) (noteFrame e (envOf name scope L a cd)) (fun _ s₂ => wpAny (model c.prog c.w) (c.A (envOf name scope L a cd)) (setFlight e none)
      (fun _ s₃ => wpAny (model c.prog c.w) (c.A (envOf name scope L a cd)) (handleBy e (envOf name scope L a cd) (.ExceptHandler (some (.Name x np)) none (b₀ :: suite) hpos :: hs))
        (fun f s' => match f with | .next => wpAny (model c.prog c.w) (c.A (envOf name scope L a cd)) (execs rest (envOf name scope L a cd)) (fun a_1 s => Kq c (envOf name scope L a cd) k a_1 s ∨ Xt c (envOf name scope L a cd) zs kx a_1 s) c.E s' | f => Kq c (envOf name scope L a cd) k f s' ∨ Xt c (envOf name scope L a cd) zs kx f s') c.E s₃) c.E s₂) c.E s₁)
      ⟨o.hn, fun G e s FG R u w => ?h⟩ h tk ⟨S.F, S.N, S.D⟩) (fun f s w => ?g) fun _ _ w => w))
  case h =>
    obtain ⟨h₁, tk₁, rfl⟩ := w
    have ca := caughtV (prog := c.prog) (w := c.w) (A₀ := c.A₀) (E := c.E) (s' := c.S h₁ tk₁) (rest := hs) (pos := hpos) (np := np) (b₀ := b₀) (suite := suite)
      (Q := fun f s' => match f with | .next => wpAny (model c.prog c.w) (c.A (envOf name scope L a cd)) (execs rest (envOf name scope L a cd)) (fun a_1 s => Kq c (envOf name scope L a cd) k a_1 s ∨ Xt c (envOf name scope L a cd) zs kx a_1 s) c.E s' | f => Kq c (envOf name scope L a cd) k f s' ∨ Xt c (envOf name scope L a cd) zs kx f s') R FG o.B u XB TB ex q (fun h' g' oe ws T' F' N' hd' h2 ne B' X' Tp' => ?_) hk hx hd (by rw [hE]; exact .never)
    · rw [deep] at ca
      exact ca
    · rw [deep, hE]
      refine wpAny_mono (z { c with h₀ := g', hn := some (.ref e), E := fun _ _ => False, z := [] } e oe ws ⟨B', X', Tp', o.hd, o.hu⟩ rfl rfl hd' h2 rfl h' tk₁ ⟨F', by rw [List.append_nil]; exact N', fun _ m => nomatch m⟩) (fun f s w => ?_) fun _ _ w => w
      obtain ⟨h, tk, m, l, rfl, S, v, rfl, hz, kv⟩ := w
      exact .inr ⟨v, g', h, m, tk, rfl, rfl, T', S.F, fun p hp => S.N p (List.mem_append_left _ (hz p hp)), kv⟩
  case g =>
    obtain ⟨h, tk, m, l, rfl, S, w⟩ := w
    cases f with
    | next => 
      refine wpAny_execs_nil ?_
      exact wpAny_mono (w h tk ⟨S.F, S.N, S.D⟩) (fun _ _ w => .inl w) fun _ _ w => w
    | _ => exact .inl ⟨h, tk, m, l, rfl, ⟨S.F, S.N, S.D⟩, w⟩

theorem enterT {k : Value → Mp → Led → Prop} {name qual : PySem.Str} {params : Arguments} {body : List Stmt} {scope : Scope} {dV kV doc pm cdv ct oc : Value} {an od : Option Addr} {osl : Array (Option Value)} {f : Addr} {vs : List Value} (ns : List PySem.Str)
    (o : Ok K P c (n + 1)) (hO : c.outer = []) (hf : env.frame = some env.locals) (hke : env.scope.kind = .function)
    (ho : (K c.w.params).lookup f = some ⟨oc, od, .func (fnOf name qual params body scope dV kV doc pm an cdv ct), osl⟩) (hcd : codeIn (K c.w.params) cdv qual = true)
    (hbind : bindArgs (fnOf name qual params body scope dV kV doc pm an cdv ct) ⟨vs, []⟩ = pure (ns.zip vs)) (hns : ns.Nodup) (hloc : (ns.all fun x => decide (scope.names.lookup x = some .local)) = true)
    (hco : scope.isCoroutine = false) (hgen : scope.isGenerator = false) (hk : scope.kind = .function) (hcell : (scope.names.all fun x => decide (x.2 ≠ .cell)) = true)
    (h : ∀ c', Ok K P c' n → Sub c c' → c'.E = (fun _ _ => False) → (∀ e', c'.A₀.deeper e' = c'.A e') → c'.base = c.base → c'.mean = c.mean → c'.mg = c.mg → c'.mb = c.mb → c'.w = c.w → ∀ L', T c' (envOf qual scope L' f cdv) (execs body (envOf qual scope L' f cdv)) (retK k m) (Xt c' (envOf qual scope L' f cdv) (l ++ c.z) (fun v => k v m l)) (mapOf ns vs) l) :
    W c env (call (.ref f) vs) k m l := fun hh tk S => by
  have X := o.X.keeps S.F.keep
  have B₀ : Below c.A₀ c.base [] c.h₀ := hO ▸ o.B
  have hA : (c.A env).frames = some [env] := by show some (env :: c.outer) = _; rw [hO]
  obtain ⟨FG, BG, st, lv⟩ := groundT B₀ (s := c.S hh tk) S.F S.N hA hf hke
  have X₁ := o.X.keeps st
  have T₁ := o.T.keeps st
  refine wpAny_call (codeAny_call_def (A := c.A env) (fd := fnOf name qual params body scope dV kV doc pm an cdv ct) (body := body) (binds := ns.zip vs) (by have := o.hd; show c.dp < _; omega) (X _ _ ho) rfl (o.T.nolimit.keeps S.F.keep) (codeRec_of X hcd) rfl (BindsTo.of_eq hbind)
    (fun x hx => of_decide_eq_true (List.all_eq_true.mp hcell x hx)) (fun y hy => of_decide_eq_true (List.all_eq_true.mp hloc _ (List.of_mem_zip hy).1)) (fun h₁ hns' hk₁ => ?_) hco hgen hk)
  refine wpAny_mono (h { c.into env (envOf qual scope hh.objs.size f cdv) (hideAll hh ((l ++ c.z).map Prod.fst)) with E := fun _ _ => False } ⟨⟨by show Below (c.A env) c.base (env :: c.outer) _; rw [hO]; exact BG, X₁, T₁, by have := o.hd; show c.dp + 1 + n < _; omega, by have := o.hu; show c.un + 3 + _ + _ < _; omega⟩, o.hn⟩ ⟨rfl, rfl, FG.keep⟩ rfl (fun _ => rfl) rfl rfl rfl rfl rfl hh.objs.size h₁ _
    ⟨⟨(mapOf_rev ns vs hns) ▸ hns', fun b o e => hk₁ b o (of_hideAll _ e), Nat.le_of_eq (hideAll_size _ _)⟩, fun p hp => ⟨hk₁ _ _ (S.N p hp).1, Nat.ne_of_lt (Heap.lt_size (S.N p hp).1), hideAll_none _ (List.mem_map_of_mem hp)⟩, S.D⟩) (fun fl s' y => ?_) fun _ _ e => e.elim
  rcases y with ⟨h₂, tk₂, m₂, l₂, rfl, S₂, z⟩ | ⟨v, g', h', m', tk', rfl, rfl, T', F', N', z⟩
  · obtain ⟨F₃, N₃⟩ := lv _ _ _ _ _ .refl S₂.F S₂.N
    exact .mk (S := ⟨F₃, N₃, S₂.D⟩) (by cases fl <;> exact z)
  · have T'' : KtsTurn [env.locals] (hideAll hh ((l ++ c.z).map Prod.fst)) g' := by
      have e : (env :: c.outer).filterMap (·.frame) = [env.locals] := by rw [hO, List.filterMap_cons, hf]; rfl
      exact e ▸ T'
    obtain ⟨F₃, N₃⟩ := lv _ _ _ _ _ T'' F' N'
    exact .mk (S := ⟨F₃, N₃, S.D⟩) z

/-- nothing is raised -/
theorem S_tryOk {body : List Stmt} {h₀ : ExceptHandler} {hs : List ExceptHandler} {pos : Pos} {k : Flow → Mp → Led → Prop} (y : W { c with E := fun _ _ => False } env (execs body env) k m l) : W c env (exec (.Try body (h₀ :: hs) [] [] pos) env) k m l := fun h tk S =>
  wpAny_Try_except (wpAny_mono (y h tk ⟨S.F, S.N, S.D⟩) (fun f s w => by
    obtain ⟨h, tk, m, l, rfl, S, w⟩ := w
    cases f with
    | next => exact wpAny_execs_nil ⟨h, tk, m, l, rfl, ⟨S.F, S.N, S.D⟩, w⟩
    | _ => exact ⟨h, tk, m, l, rfl, ⟨S.F, S.N, S.D⟩, w⟩) fun _ _ w => w.elim)
theorem Okh.le {k : Nat} (o : Okh K P c n) (h : k ≤ n) : Okh K P c k :=
  ⟨o.B, o.X, o.T, Nat.lt_of_le_of_lt (Nat.add_le_add_left h _) o.hd, Nat.lt_of_le_of_lt (Nat.add_le_add_right (Nat.add_le_add_left (Nat.mul_le_mul_left _ h) _) _) o.hu⟩
theorem Ok.noE {E : Value → Shared → Prop} (o : Ok K P c n) : Ok K P { c with E := E } n := ⟨⟨o.B, o.X, o.T, o.hd, o.hu⟩, o.hn⟩
end
section
variable {c : Cx} {env : Env} {m : Mp} {l : Led} {k : Value → Mp → Led → Prop}
theorem G_tmeth {K : Params → Frag} {P : Program} {n : Nat} {T : String} {name : PySem.Str} {v : Value} {pl : Sem Bool} {k : Value × List Value → Mp → Led → Prop} (o : Okh K P c n) (ht : kitMeta T = true) (hs : Manifest.isStub T = false)
    (e : findCls (K c.w.params) (.type T) (.type "type") name = some (.val v)) (hh : handedIn v = true) (z : k (v, []) m l) : W c env (getMethod (.type T) name pl) k m l := fun h tk S =>
  method_type S.F o.X (kitMeta_of ht) hs e hh (.mk S z)
theorem xc44 (w : World) : ∃ oC, (Hd.KK w.params).lookup 44 = some oC ∧ XC 44 31 oC := by
  refine ⟨_, by k_is, ?_⟩
  exact ⟨_, _, _, _, _, _, _, _, _, _, _, _, _, _, _, rfl⟩
theorem bad_W {s : PySem.Str} {ts : Tok} (o : Ok Hd.KK Hd.QQ c 2) (hf : env.frame = some env.locals) (hke : env.scope.kind = .function)
   (z : ∀ e t d, (∀ p ∈ l ++ c.z, p.1 < e) → k (.ref e) m ((e, exO 44 t (some d)) :: l)) : W c env (call (.ref 44) [.str s ts]) k m l := by
  obtain ⟨oC, hC, xc⟩ := xc44 c.w
  refine W.shed ?_
  refine' enterX ["self", "text"] o hf hke hC xc ?m1 ?m2 ?k6 ?k7 ?k9 (by decide) ?c1 ?c2 ?c3 ?c4 ?c5 (by rw [sizeLine_eq]; exact Nat.le_of_ble_eq_true rfl) ?_
  case m1 => k_is
  case m2 => k_is
  case k6 => k_is
  case k7 => k_is
  case k9 => exact fun _ => rfl
  case c1 => exact rfl
  case c2 => exact rfl
  case c3 => exact rfl
  case c4 => exact rfl
  case c5 => exact rfl
  intro c' o' L' x t lt
  repeat' (with_reducible first
   | k_dflt ((with_reducible show W _ _ (getMethod (Value.type _) _ _) _ _ _); refine G_tmeth o'.toOkh (by decide +kernel) (by decide +kernel) (by k_is) (by decide +kernel) ?_)
   | k_dflt ((with_reducible show W _ _ (call (Value.builtin _) _) _ _ _); refine X_init o'.toOkh hC xc (by repeat (first | with_reducible exact List.mem_cons_self | assumption | with_reducible apply List.mem_cons_of_mem)) (fun _ => ?_))
   | k_dflt ((with_reducible show W _ _ (setAttr _ _ _) _ _ _); refine X_attr o'.toOkh put_at (by k_is) hC xc (by k_is) (by k_is) (fun _ => ?_))
   | (show W _ _ (eval _ _) _ _ _; first | (show W _ _ (eval (Expr.Name _ _) _) _ _ _; k_dflt (refine E_local rfl ?_)) | (show W _ _ (eval (Expr.Name _ _) _) _ _ _; k_dflt (refine E_built (by first | assumption | exact Ok.toOkh (by assumption)) (by k_is) (by boot_fast) ?_ (by decide))) | (show W _ _ (eval (Expr.Call (Expr.Attribute _ _ _) _ [] _) _) _ _ _; k_dflt (refine K_meth ?_)))
   | (show W _ _ (spliced _) _ _ _; first | (show W _ _ (spliced (backTo _ (starEach (_ :: _) _))) _ _ _; k_dflt (refine A_cons ?_)) | refine A_nil ?_)
   | (show W _ _ (execs _ _) _ _ _; first | refine S_cons ?_ | refine S_nil ?_)
   | (show W _ _ (exec _ _) _ _ _; first | (show W _ _ (exec (Stmt.Assign [Expr.Attribute _ _ _] _ _) _) _ _ _; k_dflt (refine S_setAttr ?_)) | (show W _ _ (exec (Stmt.Expr _ _) _) _ _ _; k_dflt (refine S_expr ?_)))
   | (show W _ _ (callWith _ (Value.builtin _) _ (backTo _ (starEach (_ :: _) _)) []) _ _ _; k_dflt (refine K_built ?_))
   | refine seq_next ?_
   | refine ret_next ?_)
  exact ⟨rfl, _, fun p hp => (List.mem_cons.mp hp).elim (fun q => q ▸ put_at) fun q => put_off (put_off (.tail _ q) (Nat.ne_of_lt (lt p (List.mem_append_left _ q)))) (Nat.ne_of_lt (lt p (List.mem_append_left _ q))), z _ _ _ lt⟩

theorem S_bad {cn : PySem.Str} {cs : Scope} {L a : Addr} {ccd : Value} {s : PySem.Str} {u : Nat} {np p pos cpos : Pos} {zs : Led} {k : Flow → Mp → Led → Prop} (o : Ok Hd.KK Hd.QQ c 2) (rs : Rse c (envOf cn cs L a ccd) 44 zs) (hz : ∀ p ∈ zs, p ∈ l ++ c.z)
   (hk : cs.kind = .function) (hx : (envOf cn cs L a ccd).kindOf "BadTable" = some .globalImplicit) : W c (envOf cn cs L a ccd) (exec (.Raise (some (.Call (.Name "BadTable" np) [.Constant (.str s) u p] [] cpos)) none pos) (envOf cn cs L a ccd)) k m l := by
  obtain ⟨oC, hC, xc⟩ := xc44 c.w
  refine S_raise o rs hC xc (K_name (E_glob (cl := []) (v := .ref 44) o.toOkh (by k_is) (K_def o.toOkh (by k_is) (A_cons (E_str fun t => A_nil ?_))) hk hx rfl))
  show W c _ (call (.ref 44) [.str s t]) _ _ _
  exact bad_W o rfl hk fun e t d lt => ⟨e, t, some d, rfl, .head _, fun p hp => ⟨(List.mem_append.mp (hz p hp)).elim (fun q => List.mem_append_left _ (.tail _ q)) (List.mem_append_right _), Nat.ne_of_lt (lt p (hz p hp))⟩⟩
end
section
variable {c : Cx} {env : Env} {m : Mp} {l : Led} {k : Value → Mp → Led → Prop}
theorem n2 {x a b : Int} (h : (cmpB .Lt x a || (cmpB .Gt x b || false)) = false) : a ≤ x ∧ x ≤ b := by
  simp only [Bool.or_eq_false_iff] at h
  exact ⟨Int.not_lt.mp (of_decide_eq_false h.1), Int.not_lt.mp (of_decide_eq_false h.2.1)⟩
theorem pack_X {key move value depth bound a : Int} {tk tm tv td tb ta : Tok} {zs : Led} (o : Ok Hd.KK Hd.QQ c 3) (hf : env.frame = some env.locals) (hke : env.scope.kind = .function) (X : Thr c env 44 zs m) (hz : ∀ p ∈ zs, p ∈ l ++ c.z)
   (inv : ¬ (Rt key move value depth bound ∧ 0 ≤ a ∧ a ≤ 63)) : W c env (call (.ref 53) [.int key tk, .int move tm, .int value tv, .int depth td, .int bound tb, .int a ta]) k m l := by
  (refine' enterR ["key", "move", "value", "depth", "bound", "age"] (by assumption) (by first | assumption | exact rfl) (by first | assumption | exact rfl) ?k6 ?k7 ?k9 ?kN ?kB ?c2 ?c3 ?c4 ?c5 ?_; (case k6 => k_is); (case k7 => k_is); (case k9 => exact rfl); (case kN => decide); (case kB => exact rfl); (case c5 => exact rfl); (case c2 => exact rfl); (case c3 => exact rfl); (case c4 => exact rfl); intro c' o' sb L' rs)
  have hz' : ∀ p ∈ zs, p ∈ l ++ c'.z := sb.z ▸ hz
  have rs' := rs 44 zs X
  repeat' (with_reducible first
   | k_dflt ((with_reducible show W _ _ (exec (Stmt.Raise _ _ _) _) _ _ _); exact S_bad o' rs' hz' rfl rfl)
   | k_dflt ((with_reducible show W _ _ (execs (Stmt.Assign _ _ _ :: _) _) _ _ _); exfalso)
   | (((show W _ _ (isTrue _ _ _) _ _ _; k_dflt (refine' T_pt ?pi ?_))); (case pi => repeat' (with_reducible first | exact PI_int | (show PI _ _ _ _ (Expr.Name _ _) _; k_dflt (first | exact PI_loc rfl | exact PI_loc (by assumption) | exact PI_glob (by first | assumption | exact Ok.toOkh (by assumption)) (by k_is))) | apply PI_neg | apply PT_cmp | exact PT_or0 | apply PT_or | (show cmpI _ = true; k_dflt rfl))))
   | (show W _ _ (execs _ _) _ _ _; first | refine S_cons ?_ | refine S_nil ?_)
   | (show W _ _ (exec _ _) _ _ _; refine S_If ?_)
   | refine seq_next ?_
   | refine two_bool (fun _ => ?_) (fun _ => ?_))
  rename_i a1 a2 a3 a4 a5 a6
  rw [Bool.or_false, Bool.or_eq_false_iff] at a6
  exact inv ⟨⟨Int.not_lt.mp (of_decide_eq_false a1), (n2 a2).1, (n2 a2).2, (n2 a5).1, (n2 a5).2, (n2 a3).1, (n2 a3).2, (n2 a4).1, (n2 a4).2⟩, Int.not_lt.mp (of_decide_eq_false a6.1), Int.le_of_lt_add_one (Int.not_le.mp (of_decide_eq_false a6.2))⟩
end
section
variable {c : Cx} {env : Env} {m : Mp} {l : Led} {k : Value → Mp → Led → Prop} {x w : Nat} {a : Int} {css : List (List Rw)}
theorem save_X {key move value depth bound : Int} {tk tm tv td tb : Tok} {zs : Led} (o : Ok Hd.KK Hd.QQ c 4) (hf : env.frame = some env.locals) (hke : env.scope.kind = .function) (X : Thr c env 44 zs m) (hz : ∀ p ∈ zs, p ∈ l ++ c.z)
   (T : TF x w a css l) (inv : ¬ Rt key move value depth bound) : W c env (call (.ref 123) [.ref x, .int key tk, .int move tm, .int value tv, .int depth td, .int bound tb]) k m l := by
  obtain ⟨dx, q, tc, tw, ta, sa, n, vs, h1, h2, h3, I⟩ := T.ex
  (refine' enterR ["self", "key", "move", "value", "depth", "bound"] (by assumption) (by first | assumption | exact rfl) (by first | assumption | exact rfl) ?k6 ?k7 ?k9 ?kN ?kB ?c2 ?c3 ?c4 ?c5 ?_; (case k6 => k_is); (case k7 => k_is); (case k9 => exact rfl); (case kN => decide); (case kB => exact rfl); (case c5 => exact rfl); (case c2 => exact rfl); (case c3 => exact rfl); (case c4 => exact rfl); intro c' o' sb L' rs)
  have hz' : ∀ p ∈ zs, p ∈ l ++ c'.z := sb.z ▸ hz
  repeat' (with_reducible first
   | k_dflt ((with_reducible show W _ _ (call (Value.ref 53) _) _ _ _); exact pack_X o' rfl rfl ((rs 44 zs X).thr _) hz' (fun h => inv h.1))
   | (((show W _ _ (eval (Expr.Attribute _ _ _) _) _ _ _; k_dflt (refine' E_pv ?pi ?_))); (case pi => repeat' (with_reducible k_dflt ((with_reducible show PV _ _ _ _ (Expr.Attribute (Expr.Name _ _) (Str.ofString "age") _) _); exact A_age o' (by (repeat (first | with_reducible assumption | with_reducible exact List.mem_cons_self | with_reducible apply List.mem_cons_of_mem | (refine put_off ?_ ne)))) (by (repeat (first | with_reducible assumption | with_reducible exact put_at | with_reducible exact List.mem_cons_self | with_reducible apply List.mem_cons_of_mem))) (PV_loc (by first | rfl | assumption))))))
   | (show W _ _ (eval _ _) _ _ _; first | (show W _ _ (eval (Expr.Name _ _) _) _ _ _; k_dflt (refine E_local rfl ?_)) | (show W _ _ (eval (Expr.Name _ _) _) _ _ _; k_dflt (refine E_glob (by first | assumption | exact Ok.toOkh (by assumption)) (by k_is) ?_)) | refine K_name ?_)
   | (show W _ _ (spliced _) _ _ _; first | (show W _ _ (spliced (backTo _ (starEach (_ :: _) _))) _ _ _; k_dflt (refine A_cons ?_)) | refine A_nil ?_)
   | (show W _ _ (execs _ _) _ _ _; refine S_cons ?_)
   | (show W _ _ (exec _ _) _ _ _; (show W _ _ (exec (Stmt.Assign [Expr.Name _ _] _ _) _) _ _ _; k_dflt (refine S_assign ?_)))
   | (show W _ _ (callWith _ (Value.ref _) _ (backTo _ (starEach (_ :: _) _)) []) _ _ _; k_dflt (refine K_def (by first | assumption | exact Ok.toOkh (by assumption)) (by k_is) ?_)))
end
section
variable {c : Cx} {env : Env} {m : Mp} {l : Led} {k : Value → Mp → Led → Prop} {x w : Nat} {a : Int} {css : List (List Rw)}
theorem lsave_ok {lT lR : Led} {ra : Addr} {r : Rw} {t1 t2 t3 t4 t5 : Tok} (o : Ok Hd.KK Hd.QQ c 5) (hf : env.frame = some env.locals) (hke : env.scope.kind = .function) (T : TF x w r.a css lT) (sT : ∀ p ∈ lT, p ∈ l) (sR : ∀ p ∈ lR, p ∈ l) (dj : ∀ p ∈ lR, ∀ q ∈ lT, p.1 ≠ q.1)
   (hr : (ra, tupO [.int r.k t1, .int r.m t2, .int r.v t3, .int r.d t4, .int r.b t5]) ∈ lR) (V : Va r) (hb : (Builtin.Int.intBits r.k : Int) ≤ 2000000)
   (z : ∀ rs rs' lT', css[keyAt css.length r.k]? = some rs → Saved w rs r rs' → TF x w r.a (css.set (keyAt css.length r.k) rs') lT' → (∀ p ∈ lR, ∀ q ∈ lT', p.1 ≠ q.1) → k (.bool true) m (lT' ++ lR)) :
   W c env (call (.ref 210) [.ref x, .ref ra]) k m l := by
  obtain ⟨dx, q1, tc, tw, ta, sa, n, vs, h1, h2, h3, I⟩ := T.ex
  have h1' := sT _ h1
  have h2' := sT _ h2
  have hr' := sR _ hr
  (refine' enter ["table", "row"] (by assumption) (by first | assumption | exact rfl) (by first | assumption | exact rfl) ?k6 ?k7 ?k9 ?kN ?kB ?c2 ?c3 ?c4 ?c5 ?_; (case k6 => k_is); (case k7 => k_is); (case k9 => exact rfl); (case kN => decide); (case kB => exact rfl); (case c5 => exact rfl); (case c2 => exact rfl); (case c3 => exact rfl); (case c4 => exact rfl); intro c' o' L')
  refine S_cons (S_tryOk ?_)
  have o'' := o'.noE (E := fun _ _ => False)
  repeat' (with_reducible first
   | k_dflt ((with_reducible show W _ _ (getMethod _ _ _) _ _ _); refine G_meth (C := 147) o'' h1' h2' (by k_is) (by k_is) (by k_is) rfl ?_)
   | (show W _ _ (eval _ _) _ _ _; first | (show W _ _ (eval (Expr.Name _ _) _) _ _ _; k_dflt (refine E_local rfl ?_)) | (refine E_int ?_; intro _) | refine E_sub ?_ | (show W _ _ (eval (Expr.Call (Expr.Attribute _ _ _) _ [] _) _) _ _ _; k_dflt (refine K_meth ?_)))
   | (show W _ _ (spliced _) _ _ _; first | (show W _ _ (spliced (backTo _ (starEach (_ :: _) _))) _ _ _; k_dflt (refine A_cons ?_)) | refine A_nil ?_)
   | (show W _ _ (execs _ _) _ _ _; refine S_cons ?_)
   | (show W _ _ (exec _ _) _ _ _; (show W _ _ (exec (Stmt.Expr _ _) _) _ _ _; k_dflt (refine S_expr ?_)))
   | (show W _ _ (subscriptTail _ _ (Value.ref _) (Value.int _ _)) _ _ _; k_dflt (refine I_tup (by repeat (first | with_reducible exact List.mem_cons_self | assumption | with_reducible apply List.mem_cons_of_mem)) (by decide) (by decide) rfl ?_))
   | (show W _ _ (callWith _ (Value.ref _) _ (backTo _ (starEach (_ :: _) _)) []) _ _ _; k_dflt (refine K_def (by first | assumption | exact Ok.toOkh (by assumption)) (by k_is) ?_)))
  refine W.frame lT lR sT sR dj ?_
  refine save_W (r := r) ⟨⟨o''.B, o''.X, o''.T, o''.hd, o''.hu⟩, o''.hn⟩ rfl rfl T V hb fun rs0 rs1 l2 g1 g2 g3 g4 => ?_
  repeat' (with_reducible first
   | (show W _ _ (eval _ _) _ _ _; refine E_bool ?_)
   | (show W _ _ (execs _ _) _ _ _; first | refine S_cons ?_ | refine S_nil ?_)
   | (show W _ _ (exec _ _) _ _ _; refine S_ret ?_)
   | refine seq_next ?_
   | refine seq_ret ?_
   | refine ret_ret ?_)
  exact z _ _ _ g1 g2 g3 g4
theorem lsave_no {ra : Addr} {key move value depth bound : Int} {t1 t2 t3 t4 t5 : Tok} (o : Ok Hd.KK Hd.QQ c 5) (hO : c.outer = []) (XB : (Hd.KK c.w.params).In c.base) (TB : Top Hd.QQ [] c.mean c.mg c.mb c.base) (hf : env.frame = some env.locals) (hke : env.scope.kind = .function) (T : TF x w a css l)
   (hr : (ra, tupO [.int key t1, .int move t2, .int value t3, .int depth t4, .int bound t5]) ∈ l) (inv : ¬ Rt key move value depth bound) (z : k (.bool false) m l) :
   W c env (call (.ref 210) [.ref x, .ref ra]) k m l := by
  obtain ⟨dx, q1, tc, tw, ta, sa, n, vs, h1, h2, h3, I⟩ := id T.ex
  refine' enterT ["table", "row"] o hO hf hke ?k6 ?k7 ?k9 (by decide) ?c1 ?c2 ?c3 ?c4 ?c5 ?_
  case k6 => k_is
  case k7 => k_is
  case k9 => exact rfl
  case c1 => exact rfl
  case c2 => exact rfl
  case c3 => exact rfl
  case c4 => exact rfl
  case c5 => exact rfl
  intro c' o' sb hE deep hb hme hmg hmb hw L'
  refine T_try (C := 44) o' hE deep (by rw [hw, hb]; exact XB) (by rw [hme, hmg, hmb, hb]; exact TB) ?e1 ?e2 rfl rfl rfl ?y ?z
  case e1 => k_is
  case e2 => kernel_rfl
  case y =>
    intro E' X'
    have o'' := o'.noE (E := E')
    repeat' (with_reducible first
     | k_dflt ((with_reducible show W _ _ (getMethod _ _ _) _ _ _); refine G_meth (C := 147) o'' h1 h2 (by k_is) (by k_is) (by k_is) rfl ?_)
     | k_dflt ((with_reducible show W _ _ (call (Value.ref 123) _) _ _ _); exact save_X o'' rfl rfl X' (sb.z ▸ fun p hp => hp) T inv)
     | (show W _ _ (eval _ _) _ _ _; first | (show W _ _ (eval (Expr.Name _ _) _) _ _ _; k_dflt (refine E_local rfl ?_)) | (refine E_int ?_; intro _) | refine E_sub ?_ | (show W _ _ (eval (Expr.Call (Expr.Attribute _ _ _) _ [] _) _) _ _ _; k_dflt (refine K_meth ?_)))
     | (show W _ _ (spliced _) _ _ _; first | (show W _ _ (spliced (backTo _ (starEach (_ :: _) _))) _ _ _; k_dflt (refine A_cons ?_)) | refine A_nil ?_)
     | (show W _ _ (execs _ _) _ _ _; refine S_cons ?_)
     | (show W _ _ (exec _ _) _ _ _; (show W _ _ (exec (Stmt.Expr _ _) _) _ _ _; k_dflt (refine S_expr ?_)))
     | (show W _ _ (subscriptTail _ _ (Value.ref _) (Value.int _ _)) _ _ _; k_dflt (refine I_tup (by repeat (first | with_reducible exact List.mem_cons_self | assumption | with_reducible apply List.mem_cons_of_mem)) (by decide) (by decide) rfl ?_))
     | (show W _ _ (callWith _ (Value.ref _) _ (backTo _ (starEach (_ :: _) _)) []) _ _ _; k_dflt (refine K_def (by first | assumption | exact Ok.toOkh (by assumption)) (by k_is) ?_)))
  case z =>
    intro c₂ e oe ws o₂ hw₂ hn hd h2 hz
    repeat' (with_reducible first
     | (show W _ _ (eval _ _) _ _ _; refine E_bool ?_)
     | (show W _ _ (execs _ _) _ _ _; refine S_cons ?_)
     | (show W _ _ (exec _ _) _ _ _; refine S_ret ?_)
     | refine seq_ret ?_)
    exact ⟨_, rfl, fun p hp => .tail _ hp, z⟩
end
section
variable {c : Cx} {env : Env} {m : Mp} {l : Led} {k : Value → Mp → Led → Prop}
theorem packs_ok {ra : Addr} {r : Rw} {t1 t2 t3 t4 t5 t6 : Tok} (o : Ok Hd.KK Hd.QQ c 3) (hf : env.frame = some env.locals) (hke : env.scope.kind = .function)
   (hr : (ra, tupO [.int r.k t1, .int r.m t2, .int r.v t3, .int r.d t4, .int r.b t5]) ∈ l) (V : Va r) (hb : (Builtin.Int.intBits r.k : Int) ≤ 2000000)
   (z : ∀ l', (∀ p ∈ l, p ∈ l') → k (.bool true) m l') : W c env (call (.ref 229) [.ref ra, .int r.a t6]) k m l := by
  have ht : Rt r.k r.m r.v r.d r.b := ⟨V.k0, V.m0, V.m1, V.b0, V.b1, V.v0, V.v1, V.d0, V.d1⟩
  have e1 : cmpB .LtE 0 r.a = true := decide_eq_true V.a0
  have e2 : cmpB .LtE r.a 63 = true := decide_eq_true V.a1
  have e3 : (!(cmpB .LtE 0 r.a && cmpB .LtE r.a 63) || false) = false := by rw [e1, e2]; rfl
  (refine' enter ["row", "age"] (by assumption) (by first | assumption | exact rfl) (by first | assumption | exact rfl) ?k6 ?k7 ?k9 ?kN ?kB ?c2 ?c3 ?c4 ?c5 ?_; (case k6 => k_is); (case k7 => k_is); (case k9 => exact rfl); (case kN => decide); (case kB => exact rfl); (case c5 => exact rfl); (case c2 => exact rfl); (case c3 => exact rfl); (case c4 => exact rfl); intro c' o' L')
  have o'' := o'.noE (E := fun _ _ => False)
  refine S_cons ?_
  repeat' (with_reducible first
   | k_dflt ((with_reducible show W _ _ (execs (Stmt.Try _ _ _ _ _ :: _) _) _ _ _); refine S_cons (S_tryOk ?_))
   | k_dflt ((with_reducible show W _ _ (call (Value.ref 53) _) _ _ _); refine pack_W (o''.le (by decide)) rfl rfl V hb (fun _ => ?_))
   | k_dflt ((with_reducible show W _ _ (call (Value.ref 191) _) _ _ _); refine right_W (o'.le (by decide)).toOkh rfl rfl (.inl o'.hn) hr (fun p hp => ?_); obtain rfl : p = true := hp.mpr ht)
   | k_dflt ((with_reducible show W _ _ (call (Value.ref 60) _) _ _ _); refine unpack_W (o'.le (by decide)) rfl rfl V ?_; intro D s1 s2 s3 s4 s5 s6 fD)
   | ((first | (show W _ _ (isTrue _ _ _) _ _ _; k_dflt (refine' T_pt ?pi ?_)) | (show W _ _ (eval (Expr.Compare _ _ _ _) _) _ _ _; k_dflt (refine' E_pv ?pi ?_))); (case pi => repeat' (with_reducible first | exact PI_int | (show PI _ _ _ _ (Expr.Name _ _) _; k_dflt (first | exact PI_loc rfl | exact PI_loc (by assumption) | exact PI_glob (by first | assumption | exact Ok.toOkh (by assumption)) (by k_is))) | apply PV_cmp | apply PT_cmp2 | exact PT_or0 | apply PT_or | apply PT_not | (show cmpI _ = true; k_dflt rfl))))
   | (show W _ _ (eval _ _) _ _ _; first | (show W _ _ (eval (Expr.Name _ _) _) _ _ _; k_dflt (refine E_local rfl ?_)) | (show W _ _ (eval (Expr.Name _ _) _) _ _ _; k_dflt (refine E_glob (by first | assumption | exact Ok.toOkh (by assumption)) (by k_is) ?_)) | refine E_tuple ?_ | (show W _ _ (eval (Expr.Compare _ [_] [_] _) _) _ _ _; k_dflt (refine E_cmp ?_)) | refine K_name ?_)
   | (show W _ _ (spliced _) _ _ _; first | (show W _ _ (spliced (backTo _ (starEach (_ :: _) _))) _ _ _; k_dflt (refine A_cons ?_)) | refine A_nil ?_)
   | (show W _ _ (execs _ _) _ _ _; first | refine S_cons ?_ | refine S_nil ?_)
   | (show W _ _ (exec _ _) _ _ _; first | refine S_ret ?_ | refine S_If ?_ | (show W _ _ (exec (Stmt.Assign [Expr.Name _ _] _ _) _) _ _ _; k_dflt (refine S_assign ?_)) | (show W _ _ (exec (Stmt.Assign [Expr.Tuple _ _ _] _ _) _) _ _ _; k_dflt (refine S_assignTup ?_)))
   | (show W _ _ (isTrue _ _ _) _ _ _; first | refine T_or ?_ | refine T_not ?_ | k_dflt (refine T_plain ?_))
   | refine truthy_bool ?_
   | (show W _ _ (assign (Expr.Tuple _ _ _) _ (Value.ref _)) _ _ _; k_dflt (refine X_tup (by first | assumption | exact .inl (Ok.hn (by assumption))) (by repeat (first | with_reducible exact List.mem_cons_self | assumption | with_reducible apply List.mem_cons_of_mem)) rfl rfl ?_))
   | (show W _ _ (assignInOrder (List.map _ (assignEach (_ :: _) _)) _) _ _ _; k_dflt (refine X_cons ?_))
   | (show W _ _ (assignInOrder (List.map _ (assignEach [] _)) _) _ _ _; k_dflt (refine X_nil ?_))
   | (show W _ _ (newTuple _) _ _ _; k_dflt (refine N_tup ?_; intro _ _))
   | (show W _ _ (callWith _ (Value.ref _) _ (backTo _ (starEach (_ :: _) _)) []) _ _ _; k_dflt (refine K_def (by first | assumption | exact Ok.toOkh (by assumption)) (by k_is) ?_))
   | refine seq_next ?_
   | refine two_off (by assumption) ?_
   | refine two_true ?_
   | refine two_not ?_)
  have I : ∀ u1 u2 u3 u4 u5 u6, IntsAre [Value.int r.k u1, .int r.m u2, .int r.v u3, .int r.d u4, .int r.b u5, .int r.a u6] [r.k, r.m, r.v, r.d, r.b, r.a] := fun _ _ _ _ _ _ => .cons _ _ (.cons _ _ (.cons _ _ (.cons _ _ (.cons _ _ (.cons _ _ .nil)))))
  refine C_eqD o' (Rd.tup (.tail _ (.head _)) (I _ _ _ _ _ _)) (Rd.tup (.head _) (I _ _ _ _ _ _)) (shaped_tup _) (shaped_tup _) (mix_tup _ _) ?_
  rw [same_tup, decide_eq_true rfl]
  exact z _ fun p hp => .tail _ (.tail _ hp)
theorem packs_no {ra : Addr} {key move value depth bound a : Int} {t1 t2 t3 t4 t5 t6 : Tok} (o : Ok Hd.KK Hd.QQ c 4) (hO : c.outer = []) (XB : (Hd.KK c.w.params).In c.base) (TB : Top Hd.QQ [] c.mean c.mg c.mb c.base) (hf : env.frame = some env.locals) (hke : env.scope.kind = .function)
   (hr : (ra, tupO [.int key t1, .int move t2, .int value t3, .int depth t4, .int bound t5]) ∈ l) (inv : ¬ (Rt key move value depth bound ∧ 0 ≤ a ∧ a ≤ 63)) (z : k (.bool true) m l) :
   W c env (call (.ref 229) [.ref ra, .int a t6]) k m l := by
  refine' enterT ["row", "age"] o hO hf hke ?k6 ?k7 ?k9 (by decide) ?c1 ?c2 ?c3 ?c4 ?c5 ?_
  case k6 => k_is
  case k7 => k_is
  case k9 => exact rfl
  case c1 => exact rfl
  case c2 => exact rfl
  case c3 => exact rfl
  case c4 => exact rfl
  case c5 => exact rfl
  intro c' o' sb hE deep hb hme hmg hmb hw L'
  refine T_cons ?_
  repeat' (with_reducible first
   | (show W _ _ (eval _ _) _ _ _; (show W _ _ (eval (Expr.Name _ _) _) _ _ _; k_dflt (refine E_local rfl ?_)))
   | (show W _ _ (exec _ _) _ _ _; (show W _ _ (exec (Stmt.Assign [Expr.Tuple _ _ _] _ _) _) _ _ _; k_dflt (refine S_assignTup ?_)))
   | (show W _ _ (assign (Expr.Tuple _ _ _) _ (Value.ref _)) _ _ _; k_dflt (refine X_tup (by first | assumption | exact .inl (Ok.hn (by assumption))) (by repeat (first | with_reducible exact List.mem_cons_self | assumption | with_reducible apply List.mem_cons_of_mem)) rfl rfl ?_))
   | (show W _ _ (assignInOrder (List.map _ (assignEach (_ :: _) _)) _) _ _ _; k_dflt (refine X_cons ?_))
   | (show W _ _ (assignInOrder (List.map _ (assignEach [] _)) _) _ _ _; k_dflt (refine X_nil ?_))
   | refine seq_next ?_)
  refine T_try (C := 44) o' hE deep (by rw [hw, hb]; exact XB) (by rw [hme, hmg, hmb, hb]; exact TB) ?e1 ?e2 rfl rfl rfl ?y ?z
  case e1 => k_is
  case e2 => kernel_rfl
  case y =>
    intro E' X'
    have o'' := o'.noE (E := E')
    repeat' (with_reducible first
     | k_dflt ((with_reducible show W _ _ (call (Value.ref 53) _) _ _ _); exact pack_X o'' rfl rfl X' (sb.z ▸ fun p hp => hp) inv)
     | (show W _ _ (eval _ _) _ _ _; first | (show W _ _ (eval (Expr.Name _ _) _) _ _ _; k_dflt (refine E_local rfl ?_)) | (show W _ _ (eval (Expr.Name _ _) _) _ _ _; k_dflt (refine E_glob (by first | assumption | exact Ok.toOkh (by assumption)) (by k_is) ?_)) | refine K_name ?_)
     | (show W _ _ (spliced _) _ _ _; first | (show W _ _ (spliced (backTo _ (starEach (_ :: _) _))) _ _ _; k_dflt (refine A_cons ?_)) | refine A_nil ?_)
     | (show W _ _ (execs _ _) _ _ _; refine S_cons ?_)
     | (show W _ _ (exec _ _) _ _ _; (show W _ _ (exec (Stmt.Assign [Expr.Name _ _] _ _) _) _ _ _; k_dflt (refine S_assign ?_)))
     | (show W _ _ (callWith _ (Value.ref _) _ (backTo _ (starEach (_ :: _) _)) []) _ _ _; k_dflt (refine K_def (by first | assumption | exact Ok.toOkh (by assumption)) (by k_is) ?_)))
  case z =>
    intro c₂ e oe ws o₂ hw₂ hn hd h2 hz
    have hr' := List.mem_cons_of_mem (e, oe) (List.mem_append_left c.z hr)
    have e1 : ∀ p : Bool, p = true → (p = true ↔ Rt key move value depth bound) → (cmpB .LtE 0 a && cmpB .LtE a 63) = false := fun p h h' => by
      by_cases h0 : 0 ≤ a
      · rw [show cmpB .LtE a 63 = false from decide_eq_false fun h1 => inv ⟨h'.mp h, h0, h1⟩, Bool.and_false]
      · rw [show cmpB .LtE 0 a = false from decide_eq_false h0, Bool.false_and]
    repeat' (with_reducible first
     | k_dflt ((with_reducible show W _ _ (call (Value.ref 191) _) _ _ _); refine right_W (o₂.le (by decide)) rfl rfl (.inr ⟨e, oe, ws, hn, List.mem_append_left _ (.head _), hd, h2⟩) hr' (fun p hp => ?_))
     | ((first | (show W _ _ (eval (Expr.BoolOp _ _ _) _) _ _ _; k_dflt (refine' E_pv ?pi ?_)) | (show W _ _ (eval (Expr.UnaryOp UnaryOp.Not _ _) _) _ _ _; k_dflt (refine' E_pv ?pi ?_))); (case pi => repeat' (with_reducible first | exact PI_int | (show PI _ _ _ _ (Expr.Name _ _) _; k_dflt (first | exact PI_loc rfl | exact PI_loc (by assumption) | exact PI_glob (by first | assumption | exact Ok.toOkh (by assumption)) (by k_is))) | apply PV_cmp2 | apply PV_and | apply PV_bool1 | apply PV_not | (show cmpI _ = true; k_dflt rfl))))
     | (show W _ _ (eval _ _) _ _ _; first | (show W _ _ (eval (Expr.Name _ _) _) _ _ _; k_dflt (refine E_local rfl ?_)) | (show W _ _ (eval (Expr.Name _ _) _) _ _ _; k_dflt (refine E_glob (by first | assumption | exact Ok.toOkh (by assumption)) (by k_is) ?_)) | refine E_unary ?_ | refine E_and ?_ | refine K_name ?_)
     | (show W _ _ (spliced _) _ _ _; first | (show W _ _ (spliced (backTo _ (starEach (_ :: _) _))) _ _ _; k_dflt (refine A_cons ?_)) | refine A_nil ?_)
     | (show W _ _ (execs _ _) _ _ _; refine S_cons ?_)
     | (show W _ _ (exec _ _) _ _ _; refine S_ret ?_)
     | refine O_not ?_
     | refine truthy_bool ?_
     | (show W _ _ (callWith _ (Value.ref _) _ (backTo _ (starEach (_ :: _) _)) []) _ _ _; k_dflt (refine K_def (by first | assumption | exact Ok.toOkh (by assumption)) (by k_is) ?_))
     | refine seq_ret ?_
     | refine two_bool (fun _ => ?_) (fun _ => ?_))
    · rename_i h
      rw [e1 p h hp]
      exact ⟨_, rfl, fun q hq => .tail _ hq, z⟩
    · rename_i h
      subst h
      exact ⟨_, rfl, fun q hq => .tail _ hq, z⟩

theorem packs_W {ra : Addr} {key move value depth bound a : Int} {t1 t2 t3 t4 t5 t6 : Tok} (o : Ok Hd.KK Hd.QQ c 4) (hO : c.outer = []) (XB : (Hd.KK c.w.params).In c.base) (TB : Top Hd.QQ [] c.mean c.mg c.mb c.base) (hf : env.frame = some env.locals) (hke : env.scope.kind = .function)
   (hr : (ra, tupO [.int key t1, .int move t2, .int value t3, .int depth t4, .int bound t5]) ∈ l) (hb : (Builtin.Int.intBits key : Int) ≤ 2000000) (z : ∀ l', (∀ p ∈ l, p ∈ l') → k (.bool true) m l') :
   W c env (call (.ref 229) [.ref ra, .int a t6]) k m l := by
  by_cases q : Rt key move value depth bound ∧ 0 ≤ a ∧ a ≤ 63
  · obtain ⟨⟨k0, m0, m1, b0, b1, v0, v1, d0, d1⟩, a0, a1⟩ := q
    exact packs_ok (r := ⟨key, move, value, depth, bound, a⟩) (o.le (by decide)) hf hke hr ⟨k0, m0, m1, v0, v1, d0, d1, b0, b1, a0, a1⟩ hb z
  · exact packs_no o hO XB TB hf hke hr q (z l fun _ h => h)
end
section
variable {c : Cx} {env : Env} {m : Mp} {l : Led}
theorem M_max2 {k : Value → Mp → Led → Prop} {a b : Int} {t u : Tok} (hn : c.hn = none) (z : ∀ t, k (.int (if b > a then b else a) t) m l) : W c env (call (.builtin "max") [.int a t, .int b u]) k m l := fun h tk S =>
  max_two_N hn S.F S.N fun h' tk' F' N' => .mk ⟨F', N', S.D⟩ (z _)
theorem M_min2 {k : Value → Mp → Led → Prop} {a b : Int} {t u : Tok} (hn : c.hn = none) (z : ∀ t, k (.int (if b < a then b else a) t) m l) : W c env (call (.builtin "min") [.int a t, .int b u]) k m l := fun h tk S =>
  min_two_N hn S.F S.N fun h' tk' F' N' => .mk ⟨F', N', S.D⟩ (z _)
/-- a name that a cell holds is bound -/
theorem S_cell {k : Flow → Mp → Led → Prop} {x : PySem.Str} {pos' pos : Pos} {value : Expr} {b : Addr} (hc : env.cells.lookup x = some b)
    (y : W c env (eval value env) (fun v m l => ∃ ob v₀, (b, ob) ∈ l ∧ ob.data = .cell v₀ ∧ ∀ o', o'.data = .cell (some v) → k .next m (put b o' l)) m l)
    (hk : autoParam (env.scope.kind = .function) PySem.W.nameX_K._auto_1) (hl : autoParam (env.kindOf x = some .cell) PySem.W.nameX_K._auto_1)
    (hs : autoParam (swapsWith value (some (.Name x pos')) pos.line env = pure false) PySem.W.nameX_K._auto_1) : W c env (exec (.Assign [.Name x pos'] value pos) env) k m l := fun h tk S =>
  wpAny_Assign_Name (y.to S fun v s z => by
    obtain ⟨h, tk, m, l, rfl, S, ob, v₀, hm, hd, z⟩ := z
    refine wpAny_storeName_cell hk hl hc ⟨ob, S.get hm, hd⟩ fun h' hv hs' => ?_
    obtain ⟨o', ho', hd'⟩ := hv
    exact .mk (S.put' hm hs' ho') (z o' hd')) hs
end

/-- two names from a tuple that is written out: the stores are swapped -/
theorem S_swap2 {k : Flow → Mp → Led → Prop} {elts : List Expr} {kk : Nat} {tpos pos : Pos} {value : Expr} {x y : PySem.Str} (hn : c.hn = none)
    (h : W c env (eval value env) (fun v m l => ∃ t a b, v = .ref t ∧ (t, tupO [a, b]) ∈ l ∧ k .next (fun z => if z = x then some a else (fun z => if z = y then some b else m z) z) l) m l)
    (hw : swappedStores [.Tuple elts kk tpos] value env = pure (some [x, y])) (hs : swapsWithSole [.Tuple elts kk tpos] value pos.line env = pure false) (hk : env.scope.kind = .function) (h1 : env.kindOf x = some .local) (h2 : env.kindOf y = some .local) :
    W c env (exec (.Assign [.Tuple elts kk tpos] value pos) env) k m l := fun hp tk S => by
    have q : wpAny (model c.prog c.w) (c.A env) (eval value env) (fun v s₁ => wpAny (model c.prog c.w) (c.A env) (unpackItems v 2 none) (fun items s₂ =>
      wpAny (model c.prog c.w) (c.A env) (assignInOrder [bindName env y, bindName env x] items.reverse) (fun _ => Kq c env k .next) c.E s₂) c.E s₁) c.E (c.S hp tk) := by
      refine wpAny_mono (h hp tk S) (fun v s z => ?_) fun _ _ e => e
      obtain ⟨hp, tk, m, l, rfl, S, t, a, b, rfl, hm, z⟩ := z
      refine unpackItems_tuple (items := #[a, b]) hn (S.isTup hm) fun h' he => ?_
      have S' : St c env h' m l := ⟨S.F.extBut he (Nat.le_refl _), S.N.extBut he (Nat.le_refl _), S.D⟩
      show wpAny _ _ (assignInOrder [bindName env y, bindName env x] [b, a]) _ _ _
      have s1 := storeName_W (c := c) (env := env) (x := y) (v := b) (k := fun _ m' l' => m' = (fun z => if z = y then some b else m z) ∧ l' = l) (m := m) (l := l) ⟨rfl, rfl⟩ hk h2
      refine assignInOrder_cons (wpAny_bindName (wpAny_mono (s1 h' tk S') (fun _ s w => ?_) fun _ _ e => e))
      obtain ⟨h3, tk3, m3, l3, rfl, S3, rfl, rfl⟩ := w
      have s2 := storeName_W (c := c) (env := env) (x := x) (v := a) (k := fun _ m' l' => m' = (fun z => if z = x then some a else (fun z => if z = y then some b else m z) z) ∧ l' = l3) (m := fun z => if z = y then some b else m z) (l := l3) ⟨rfl, rfl⟩ hk h1
      refine assignInOrder_cons (wpAny_bindName (wpAny_mono (s2 h3 tk3 S3) (fun _ s w => ?_) fun _ _ e => e))
      obtain ⟨h4, tk4, m4, l4, rfl, S4, rfl, rfl⟩ := w
      exact wpAny_pure (show Kq c env k .next _ from ⟨h4, tk4, _, _, rfl, S4, z⟩)
    exact Assign_Tuple_swapped (names := [x, y]) q hs hw
theorem law_top {K : Params → Frag} {P : Program} {mean : ExcName → Option Value} {mg mb m : Mp} {prog : Program} {w : World} {h₀ h₁ : Heap} {tk : Nat} {g : Array GenState} {d : Drawn} {os : OsState} {env : Env} {l : Led} {t : Sem Flow} {Q : Flow → Shared → Prop} {E : Value → Shared → Prop}
    (X : (K w.params).In h₀) (T : Top P [] mean mg mb h₀) (B : Below callerA h₀ [] h₀) (F : Fr h₀ env.locals h₁ m) (N : News h₀ env.locals h₁ l)
    (x : ∀ c : Cx, Ok K P c 40 → c.outer = [] → (K c.w.params).In c.base → Top P [] c.mean c.mg c.mb c.base → c.h₀ = h₀ → c.z = [] → W c env t (fun f _ _ => f = .ret (.bool true)) m l)
    (good : ∀ s, (∀ b o, h₀.get? b = some o → s.heap.get? b = some o) → s.os = os → s.gens = g → Q (.ret (.bool true)) s) : wpAny (model prog w) (callerA.deeper env) t Q E ⟨h₁, g, d, tk, os⟩ :=
  wpAny_mono (x { prog := prog, w := w, mean := mean, mg := mg, mb := mb, A₀ := callerA, base := h₀, h₀ := h₀, outer := [], dp := (callerA.deeper env).depth, un := (callerA.deeper env).units, hn := none, gd := (callerA.deeper env).guards, g := g, d := d, os := os, E := fun _ _ => False, z := [] }
    ⟨⟨B, X, T, by show callerA.depth + 1 + 40 < recursionLimit; decide +kernel, by show callerA.units + 3 + 16 * 40 + 100 < cLine; decide +kernel⟩, rfl⟩ rfl X T rfl rfl h₁ tk ⟨F, by rw [List.append_nil]; exact N, fun _ h => nomatch h⟩)
    (fun f s z => by obtain ⟨_, _, _, _, rfl, S, rfl⟩ := z; exact good _ S.F.keep rfl rfl) fun _ _ z => z.elim

section
variable {K : Params → Frag} {P : Program} {c : Cx} {env : Env} {m : Mp} {n : Nat} {scope : Scope} {cl : List (PySem.Str × Addr)} {x : PySem.Str} {ct elt : Expr}
theorem L_T_listX {iter : Expr} {y : PySem.Str} {px py pos spos : Pos} {l : Led} {k : Flow → Mp → Led → Prop} (o : Ok K P c n) 
    (it : W c env (eval iter env) (fun xv m' l' => m' = m ∧ ∃ (a : Addr) (vs : List Value) (e : Nat) (J : Nat → List Value → Led → Prop), xv = .ref a ∧ vs.length ≤ 1000 ∧ J 0 [] l' ∧ (∀ i ys l, J i ys l → (a, lstO vs e) ∈ l) ∧
      (∀ c', Ok K P c' n → ∀ i v ys l₁ C m₂, vs[i]? = some v → J i ys l₁ → m₂ x = some v → Turn c c' C m₂ → W c' env (isTrue ct (compEnvC scope cl C env) (eval ct (compEnvC scope cl C env)))
        (two (W c' env (eval elt (compEnvC scope cl C env)) (fun y m' l' => m' = m ∧ J (i + 1) (ys ++ [y]) l')) (fun m' l' => m' = m ∧ J (i + 1) ys l')) m l₁) ∧
      ∀ ys l' D, J vs.length ys l' → (∀ p ∈ l', p.1 ≠ D) → k .next (fun z => if z = y then some (.ref D) else m z) ((D, lstO ys ys.length) :: l')) m l)
    (hclos : closureFor scope env = pure cl) (hcell : ∀ z ∈ scope.names, z.2 ≠ .cell) (hkind : scope.kind = .function) (hnames : ∀ z ∈ scope.names, z.2 = .local → scope.names.lookup z.1 = some .local) (hx : scope.names.lookup x = some .local)
    (hsw : swapsWith (.ListComp elt [⟨.Name x px, iter, [ct], 0⟩] scope pos) (some (.Name y py)) spos.line env = pure true) (hy : autoParam (env.kindOf y = some .local) PySem.W.nameX_K._auto_1) (hk : autoParam (env.scope.kind = .function) PySem.W.nameX_K._auto_1) (hs : autoParam (∀ x, foldedSetIterable iter env x = pure x) PyProof.Rows.LCg.ListComp_U._auto_1) :
    W c env (exec (.Assign [.Name y py] (.ListComp elt [⟨.Name x px, iter, [ct], 0⟩] scope pos) spos) env) k m l := fun h tk S₀ =>
  LCt.Assign_ListComp_T S₀.F rfl hsw hclos hcell hkind hnames hx hy (by rw [hk]; rfl) (it.to S₀ fun xv s₁ z => z.st fun h₁ tk₁ m₁ l₁ es S₁ z => by
    obtain ⟨rfl, a, vs, e, J, rfl, hl, w, hJm, turn, done⟩ := z
    subst es
    refine LCt.CompSrcT.ledger o.hn S₁.F S₁.N (List.mem_append_left _ (hJm _ _ _ w)) (by rw [sizeLine_eq, List.size_toArray]; omega) fun g => ?_
    rw [List.size_toArray]
    refine rest_T (c := c) (tk₀ := tk₁) o (J := J) (fun i ys l hJ => .inr ⟨_, List.mem_append_left _ (hJm _ _ _ hJ), rfl, _, rfl⟩) (fun c' o' i v ys l₁ C m₂ _ hv => turn c' o' i v ys l₁ C m₂ (by simpa using hv)) (fun ys l' w D' D h tk F N off => ?_) _ _ _ _ (Nat.zero_add _) w S₁.D
    have ne : ∀ p ∈ l' ++ c.z, p.1 ≠ D := (LCg_off1 off)
    exact .mk ⟨F, N, fun p hp q hq => (List.mem_cons.mp hq).elim (fun e => e ▸ ne p (List.mem_append_right _ hp)) fun hq => D' p hp q hq⟩ (done ys l' D w fun p hp => ne p (List.mem_append_left _ hp))) hs
end
/-- the table, the law's clusters and the rest, apart from each other -/
structure LH (tb cs w : Nat) (a : Int) (css cc : List (List Rw)) (lT lC lE l : Led) : Prop where
  T : TF tb w a css lT
  Q : CF cs cc lC
  sT : ∀ p ∈ lT, p ∈ l
  sC : ∀ p ∈ lC, p ∈ l
  sE : ∀ p ∈ lE, p ∈ l
  dCT : ∀ p ∈ lC, ∀ q ∈ lT, p.1 ≠ q.1
  dET : ∀ p ∈ lE, ∀ q ∈ lT, p.1 ≠ q.1
  dEC : ∀ p ∈ lE, ∀ q ∈ lC, p.1 ≠ q.1
section
variable {tb cs w : Nat} {a : Int} {css cc : List (List Rw)} {lT lC lE l l' : Led}
theorem LH.up (H : LH tb cs w a css cc lT lC lE l) (h : ∀ p ∈ l, p ∈ l') : LH tb cs w a css cc lT lC lE l' :=
  ⟨H.T, H.Q, fun p hp => h p (H.sT p hp), fun p hp => h p (H.sC p hp), fun p hp => h p (H.sE p hp), H.dCT, H.dET, H.dEC⟩
/-- something new beside them -/
theorem LH.more {D : Addr} {o : Obj} (H : LH tb cs w a css cc lT lC lE l) (h : (D, o) ∈ l') (u : ∀ p ∈ l, p ∈ l') (lt : ∀ p ∈ l, p.1 < D) : LH tb cs w a css cc lT lC ((D, o) :: lE) l' :=
  ⟨H.T, H.Q, fun p hp => u p (H.sT p hp), fun p hp => u p (H.sC p hp), fun p hp => (List.mem_cons.mp hp).elim (fun e => e ▸ h) fun e => u p (H.sE p e), H.dCT,
   fun p hp q hq => (List.mem_cons.mp hp).elim (fun e => by rw [e]; exact Nat.ne_of_gt (lt q (H.sT q hq))) fun e => H.dET p e q hq, fun p hp q hq => (List.mem_cons.mp hp).elim (fun e => by rw [e]; exact Nat.ne_of_gt (lt q (H.sC q hq))) fun e => H.dEC p e q hq⟩
theorem LH.less {lE' : Led} (H : LH tb cs w a css cc lT lC lE l) (h : ∀ p ∈ lE', p ∈ lE) : LH tb cs w a css cc lT lC lE' l :=
  ⟨H.T, H.Q, H.sT, H.sC, fun p hp => H.sE p (h p hp), H.dCT, fun p hp => H.dET p (h p hp), fun p hp => H.dEC p (h p hp)⟩
theorem LH.zT (H : LH tb cs w a css cc lT lC lE l) : ∀ p ∈ lC ++ lE, p ∈ l := fun p hp => (List.mem_append.mp hp).elim (H.sC p) (H.sE p)
theorem LH.dT (H : LH tb cs w a css cc lT lC lE l) : ∀ p ∈ lC ++ lE, ∀ q ∈ lT, p.1 ≠ q.1 := fun p hp => (List.mem_append.mp hp).elim (H.dCT p) (H.dET p)
/-- the table has changed -/
theorem LH.setT {a' : Int} {css' : List (List Rw)} {lT' : Led} (H : LH tb cs w a css cc lT lC lE l) (T' : TF tb w a' css' lT') (d : ∀ p ∈ lC ++ lE, ∀ q ∈ lT', p.1 ≠ q.1) : LH tb cs w a' css' cc lT' lC lE (lT' ++ (lC ++ lE)) :=
  ⟨T', H.Q, fun p hp => List.mem_append_left _ hp, fun p hp => List.mem_append_right _ (List.mem_append_left _ hp), fun p hp => List.mem_append_right _ (List.mem_append_right _ hp),
   fun p hp => d p (List.mem_append_left _ hp), fun p hp => d p (List.mem_append_right _ hp), H.dEC⟩
/-- an object of the rest has changed, of which the rest bears the address -/
theorem LH.putE {b : Addr} {ob o' : Obj} (H : LH tb cs w a css cc lT lC lE l) (hb : (b, ob) ∈ lE) : LH tb cs w a css cc lT lC (put b o' lE) (put b o' l) :=
  ⟨H.T, H.Q, fun p hp => put_off (H.sT p hp) (Ne.symm (H.dET _ hb p hp)), fun p hp => put_off (H.sC p hp) (Ne.symm (H.dEC _ hb p hp)), fun p hp => (put_mem hp).elim (fun e => e ▸ put_at) fun e => put_off (H.sE p e.1) e.2, H.dCT,
   fun p hp q hq => (put_mem hp).elim (fun e => by rw [e]; exact H.dET _ hb q hq) fun e => H.dET p e.1 q hq, fun p hp q hq => (put_mem hp).elim (fun e => by rw [e]; exact H.dEC _ hb q hq) fun e => H.dEC p e.1 q hq⟩
end

theorem Saved.key {w : Nat} {rs rs' : List Rw} {r : Rw} (h : Saved w rs r rs') {B : Int → Prop} (hr : B r.k) (hs : ∀ q ∈ rs, B q.k) : ∀ q ∈ rs', B q.k := by
  cases h with
  | hit h1 h2 h3 =>
    exact fun q hq => (List.mem_or_eq_of_mem_set hq).elim (hs q) fun e => by
      rw [e]
      unfold over
      split
      · exact hr
      · rename_i o _; exact hs o (List.mem_of_getElem? h1)
  | new h1 h2 => exact fun q hq => (List.mem_append.mp hq).elim (hs q) fun e => List.mem_singleton.mp e ▸ hr
  | out h1 h2 h3 => exact fun q hq => (List.mem_or_eq_of_mem_set hq).elim (hs q) fun e => e ▸ hr
/-- what holds between the law's steps -/
structure LK (b tb w C : Nat) (lX : Led) (m : Mp) (l : Led) : Prop where
  ex : ∃ cs a ta css lT lC co, m "clusters" = some (.ref cs) ∧ co.data = .cell (some (.int a ta)) ∧ css.length = C ∧ (∀ rs ∈ css, ∀ r ∈ rs, (Builtin.Int.intBits r.k : Int) ≤ 2000000) ∧ LH tb cs w a css css lT lC ((b, co) :: lX) l
def LM (sa tb kl w C : Nat) (tC tw : Tok) (m : Mp) : Prop := m "script" = some (.ref sa) ∧ m "count" = some (.int C tC) ∧ m "ways" = some (.int w tw) ∧ m "table" = some (.ref tb) ∧ m "keys" = some (.ref kl)
def LJ (b sa tb kl w C : Nat) (tC tw : Tok) (i : Nat) (m : Mp) (l : Led) : Prop := LM sa tb kl w C tC tw m ∧ ∃ kvs ks n, IntsAre kvs ks ∧ ks.length = i ∧ LK b tb w C [(kl, lstO kvs n)] m l
/-- where the walk is to halt -/
structure Stop (p : Prop) : Prop where
  go : p
theorem mod3 (n : Int) : ∃ C : Nat, 1 + n.fmod 3 = (C : Int) ∧ 0 < C ∧ C ≤ 3 := by
  have h1 := Int.emod_nonneg n (show (3 : Int) ≠ 0 by decide)
  have h2 := Int.emod_lt_of_pos n (show (0 : Int) < 3 by decide)
  rw [Int.fmod_eq_emod_of_nonneg _ (by decide)]
  exact ⟨(1 + n % 3).toNat, by omega, by omega, by omega⟩
theorem flat_small {w : Nat} (w1 : w ≤ 3) : ∀ {css : List (List Rw)}, Fit w css → css.flatten.length ≤ 3 * css.length
  | [], _ => Nat.le_refl _
  | rs :: css, F => by
    have h1 := (F rs (.head _)).1
    have h2 := flat_small w1 (css := css) fun q hq => F q (.tail _ hq)
    rw [List.flatten_cons, List.length_append, List.length_cons]
    omega
theorem top : PySem.Challenge.rw_nt0418_01.Holds := by
  refine Hd.same (Hd.lawly fun said => holds_open (q := Hd.QQ) (loose := []) (Xt := fun s => xlAt Hd.QQ [] s && recOk (RowW.records Hd.law.row.toRowW) s) (XP := XL Hd.QQ []) (Yf := Hook.obs Hd.hk) (Ya := Hook.val Hd.hk) (YP := Hook.says Hd.hk) (N := 3244) Hd.left (Hook.of Hd.hk) (Hook.keeps Hd.hk) (fun s e => xl_of s (Bool.and_eq_true_iff.mp e).1) XL.keeps (by rfl) (by rfl) (by rfl) (fun s e => recFacts_of (Bool.and_eq_true_iff.mp e).2) (by rfl) said (by decide +kernel) ⟨rfl, rfl, rfl, rfl, rfl, by decide +kernel⟩ ?hw ?hc)
  case hw => w_witness2
  clear said
  k_go0
  rename_i W0 s₀ s₁ mg mb G Y fa o₁ pm doc ho hg KX _ _ _ TT _ _ _ _ _ _ _ _ hcd is hs hlay0 hlay hr1 hl2 w5 w4 sa vs w1 hL ra wl r0 hI hr hn ht K0 hD h1 tk1 F co hco N0 X0
  refine law_top KX TT K0 F N0 ?law (fun s hkp hos hgs => ?good)
  case good =>
    exact ⟨.inl ⟨_, .bool true, [], rfl, fun cls => rfl, ReadsW.bool _, by (first | kernel_rfl | with_unfolding_all rfl), fun _ => ⟨List.nodup_nil, fun _ h => nomatch h⟩⟩, hkp, hos, hgs.trans hg⟩
  case law =>
    intro c o hO XB TB hh hz
    have hS : c.h₀.IsList sa vs.toArray := hh ▸ hL
    have hlen : is.length ≤ 63 := by
      have := hn
      simp at this
      omega
    have hbits : ∀ x ∈ is, Builtin.Int.intBits x ≤ 1048576 := fun x hx => PySem.intBits_le_of_item hx hlay
    have hco : co.data = .cell none := hco
    clear hD X0 hl2 hr1 hr wl r0 ra
    clear hcd ht hn
    dsimp only
    refine W.map (m' := mapOf ["script"] [.ref sa]) (by with_unfolding_all rfl) ?_
    clear F N0
    generalize s₁.heap.objs.size = L
    repeat' (with_reducible first
     | k_dflt ((with_reducible show W _ _ (call (Value.ref 177) _) _ _ _); refine at_W (i := 0) (o.le (by decide)) rfl rfl hS hI hlen hbits (.inl (by decide)) (fun sz tsz hsz => ?_))
     | (show W _ _ (eval _ _) _ _ _; first | (show W _ _ (eval (Expr.Name _ _) _) _ _ _; k_dflt (refine E_local rfl ?_)) | (show W _ _ (eval (Expr.Name _ _) _) _ _ _; k_dflt (refine E_glob (by first | assumption | exact Ok.toOkh (by assumption)) (by k_is) ?_)) | (refine E_int ?_; intro _) | refine K_name ?_)
     | (show W _ _ (spliced _) _ _ _; first | (show W _ _ (spliced (backTo _ (starEach (_ :: _) _))) _ _ _; k_dflt (refine A_cons ?_)) | refine A_nil ?_)
     | (show W _ _ (execs _ _) _ _ _; refine S_cons ?_)
     | (show W _ _ (exec _ _) _ _ _; (show W _ _ (exec (Stmt.Assign [Expr.Name _ _] _ _) _) _ _ _; k_dflt (refine S_assign ?_)))
     | (show W _ _ (callWith _ (Value.ref _) _ (backTo _ (starEach (_ :: _) _)) []) _ _ _; k_dflt (refine K_def (by first | assumption | exact Ok.toOkh (by assumption)) (by k_is) ?_))
     | refine seq_next ?_)
    refine S_swap2 (x := "count") (y := "ways") o.hn ?a1 ?a2 ?a3 ?a4 ?a5 ?a6
    case a2 => kernel_rfl
    case a3 => kernel_rfl
    case a4 => exact rfl
    case a5 => exact rfl
    case a6 => exact rfl
    obtain ⟨C, hC, C0, C1⟩ := mod3 sz
    obtain ⟨w, hw, w0, w1⟩ := mod3 (sz.fdiv 3)
    repeat' (with_reducible first
     | (((show W _ _ (eval (Expr.BinOp _ _ _ _) _) _ _ _; k_dflt (refine' E_pi ?pi fun _ => ?_))); (case pi => repeat' (with_reducible first | exact PI_int | (show PI _ _ _ _ (Expr.Name _ _) _; k_dflt (first | exact PI_loc rfl | exact PI_loc (by assumption) | exact PI_glob (by first | assumption | exact Ok.toOkh (by assumption)) (by k_is))) | apply PI_add | apply PI_mod | apply PI_div | (show (_ : Int) ≠ _; k_dflt (first | decide | assumption | omega)) | (show (_ : Nat) < _; k_dflt (first | decide | assumption | omega)))))
     | (show W _ _ (eval _ _) _ _ _; refine E_tuple ?_)
     | (show W _ _ (spliced _) _ _ _; first | (show W _ _ (spliced (backTo _ (starEach (_ :: _) _))) _ _ _; k_dflt (refine A_cons ?_)) | refine A_nil ?_)
     | (show W _ _ (newTuple _) _ _ _; k_dflt (refine N_tup ?_; intro _ _)))
    rename_i tC tw D0 f0
    rw [hC, hw]
    refine ⟨_, _, _, rfl, .head _, ?_⟩
    repeat' (with_reducible first
     | k_dflt ((with_reducible show W _ _ (call (Value.ref 147) _) _ _ _); refine W.frame [] [(L + 1, co)] (fun _ h => nomatch h) (fun p hp => .tail _ hp) (fun _ _ _ h => nomatch h) ?_; refine new_W (o.fr (by decide)) rfl rfl C0 C1 w0 w1 (fun tb l1 T dj => ?_))
     | (show W _ _ (eval _ _) _ _ _; first | (show W _ _ (eval (Expr.Name _ _) _) _ _ _; k_dflt (refine E_local rfl ?_)) | (show W _ _ (eval (Expr.Name _ _) _) _ _ _; k_dflt (refine E_glob (by first | assumption | exact Ok.toOkh (by assumption)) (by k_is) ?_)) | refine K_name ?_)
     | (show W _ _ (spliced _) _ _ _; first | (show W _ _ (spliced (backTo _ (starEach (_ :: _) _))) _ _ _; k_dflt (refine A_cons ?_)) | refine A_nil ?_)
     | (show W _ _ (execs _ _) _ _ _; refine S_cons ?_)
     | (show W _ _ (exec _ _) _ _ _; (show W _ _ (exec (Stmt.Assign [Expr.Name _ _] _ _) _) _ _ _; k_dflt (refine S_assign ?_)))
     | (show W _ _ (callWith _ (Value.ref _) _ (backTo _ (starEach (_ :: _) _)) []) _ _ _; k_dflt (refine K_def (by first | assumption | exact Ok.toOkh (by assumption)) (by k_is) ?_))
     | refine seq_next ?_)
    refine newC o C C1 ?it (fun cs lx l3 hC s1 s2 dj2 => ?_) (by with_unfolding_all rfl) (by decide) (by rfl) (by decide) (by rfl) (by rfl)
    case it =>
      repeat' (with_reducible first
       | (show W _ _ (eval _ _) _ _ _; first | (show W _ _ (eval (Expr.Name _ _) _) _ _ _; k_dflt (refine E_local rfl ?_)) | (show W _ _ (eval (Expr.Name _ _) _) _ _ _; k_dflt (refine E_built (by first | assumption | exact Ok.toOkh (by assumption)) (by k_is) (by boot_fast) ?_ (by decide))) | refine K_name ?_)
       | (show W _ _ (spliced _) _ _ _; first | (show W _ _ (spliced (backTo _ (starEach (_ :: _) _))) _ _ _; k_dflt (refine A_cons ?_)) | refine A_nil ?_)
       | (show W _ _ (callWith _ (Value.type _) _ (backTo _ (starEach (_ :: _) _)) []) _ _ _; k_dflt (refine K_type ?_))
       | (show W _ _ (call (Value.type _) [Value.int _ _]) _ _ _; refine M_range1 ?_; intro _ _ _ _))
      exact ⟨rfl, ⟨⟨_, _, _, _, rfl, .head _⟩, by omega, by omega, by omega, by omega⟩, fun p hp => .tail _ hp⟩
    with_reducible refine seq_next ?_
    with_reducible refine S_cons ?_
    refine S_cell (b := L + 1) rfl ?_
    repeat' (with_reducible (show W _ _ (eval _ _) _ _ _; (refine E_int ?_; intro _)))
    refine ⟨co, none, s2 _ (List.mem_append_right _ (.head _)), hco, fun co1 hco1 => ?_⟩
    repeat' (with_reducible first
     | (show W _ _ (eval _ _) _ _ _; refine E_list ?_)
     | (show W _ _ (spliced _) _ _ _; refine A_nil ?_)
     | (show W _ _ (execs _ _) _ _ _; refine S_cons ?_)
     | (show W _ _ (exec _ _) _ _ _; (show W _ _ (exec (Stmt.Assign [Expr.Name _ _] _ _) _) _ _ _; k_dflt (refine S_assign ?_)))
     | (show W _ _ (newList _) _ _ _; k_dflt (refine N_lst ?_; intro _ _))
     | refine seq_next ?_)
    rename_i kl fkl
    have lv : vs.length = is.length := hI.length
    refine S_range o _ 1 (if (if (25 : Int) < (vs.length : Int) then 25 else (vs.length : Int)) > 10 then (if (25 : Int) < (vs.length : Int) then 25 else (vs.length : Int)) else 10) (LJ (L + 1) sa tb kl w C tC tw) rfl (fun c' o' hq => ?y) (fun c' o' hq i ti m₁ l₁ hi hJ => ?turn) (fun m₁ l₁ hJ => ?done)
    case y =>
      obtain ⟨z', rfl⟩ := hq
      repeat' (with_reducible first
       | k_dflt ((with_reducible show W _ _ (call (Value.builtin "len") _) _ _ _); refine M_lenS hS (by omega) (fun _ => ?_))
       | k_dflt ((with_reducible show W _ _ (call (Value.builtin "min") _) _ _ _); refine M_min2 o'.hn (fun _ => ?_))
       | k_dflt ((with_reducible show W _ _ (call (Value.builtin "max") _) _ _ _); refine M_max2 o'.hn (fun _ => ?_))
       | (show W _ _ (eval _ _) _ _ _; first | (show W _ _ (eval (Expr.Name _ _) _) _ _ _; k_dflt (refine E_local rfl ?_)) | (show W _ _ (eval (Expr.Name _ _) _) _ _ _; k_dflt (refine E_built (by first | assumption | exact Ok.toOkh (by assumption)) (by k_is) (by boot_fast) ?_ (by decide))) | (refine E_int ?_; intro _) | refine K_name ?_)
       | (show W _ _ (spliced _) _ _ _; first | (show W _ _ (spliced (backTo _ (starEach (_ :: _) _))) _ _ _; k_dflt (refine A_cons ?_)) | refine A_nil ?_)
       | (show W _ _ (callWith _ (Value.builtin _) _ (backTo _ (starEach (_ :: _) _)) []) _ _ _; k_dflt (refine K_built ?_))
       | (show W _ _ (callWith _ (Value.type _) _ (backTo _ (starEach (_ :: _) _)) []) _ _ _; k_dflt (refine K_type ?_))
       | (show W _ _ (call (Value.type _) [Value.int _ _, Value.int _ _]) _ _ _; refine M_range2 ?_; intro _ _ _))
      rename_i Dr vr fr
      refine ⟨⟨⟨_, _, _, _, rfl, .head _⟩, by omega, by omega, by omega, by omega⟩, ⟨rfl, rfl, rfl, rfl, rfl⟩, [], [], 0, .nil, rfl, ⟨cs, 0, _, List.replicate C [], l1, lx, co1, rfl, hco1, List.length_replicate .., fun rs hrs => ?_, ?_⟩⟩
      · rw [List.eq_of_mem_replicate hrs]; exact fun _ h => nomatch h
      · have uT : ∀ p ∈ l1, p ∈ put (L + 1) co1 l3 := fun p hp => put_off (s2 p (List.mem_append_left _ hp)) (Ne.symm (dj _ (.head _) p hp))
        have uC : ∀ p ∈ lx, p ∈ put (L + 1) co1 l3 := fun p hp => put_off (s1 p hp) (Ne.symm (dj2 _ (List.mem_append_right _ (.head _)) p hp))
        refine ⟨T, hC, fun p hp => .tail _ (.tail _ (uT p hp)), fun p hp => .tail _ (.tail _ (uC p hp)), fun p hp => ?_, fun p hp q hq => Ne.symm (dj2 q (List.mem_append_left _ hq) p hp), fun p hp q hq => ?_, fun p hp q hq => ?_⟩
        · rcases List.mem_cons.mp hp with rfl | hp
          · exact .tail _ (.tail _ put_at)
          · exact List.mem_singleton.mp hp ▸ .tail _ (.head _)
        · rcases List.mem_cons.mp hp with rfl | hp
          · exact dj _ (.head _) q hq
          · rw [List.mem_singleton.mp hp]; exact Nat.ne_of_gt (fkl q (uT q hq))
        · rcases List.mem_cons.mp hp with rfl | hp
          · exact dj2 _ (List.mem_append_right _ (.head _)) q hq
          · rw [List.mem_singleton.mp hp]; exact Nat.ne_of_gt (fkl q (uC q hq))
    case turn =>
      obtain ⟨z', rfl⟩ := hq
      obtain ⟨⟨m1, m2, m3, m4, m5⟩, kvs, ks, n, hK, hks, HK⟩ := hJ
      have ei : (1 : Int) + (i : Int) = ((1 + i : Nat) : Int) := by omega
      have hi' : 1 + i < 10 ∨ 1 + i < is.length := by
        split at hi <;> split at hi <;> omega
      rw [ei]
      repeat' (with_reducible first
       | k_dflt ((with_reducible show W _ _ (call (Value.ref 177) _) _ _ _); refine at_W (o'.le (by decide)) rfl rfl hS hI hlen hbits hi' (fun x tx hx => ?_))
       | k_dflt ((with_reducible show W _ _ (call (Value.ref 184) _) _ _ _); refine fields_W (o'.le (by decide)) rfl rfl hx (fun D key move value depth bound t1 t2 t3 t4 t5 hkey fD => ?_))
       | k_dflt ((with_reducible show W _ _ (execs (Stmt.If _ _ _ _ :: _) _) _ _ _); refine Stop.go ?_)
       | (((show W _ _ (eval (Expr.BinOp _ _ _ _) _) _ _ _; k_dflt (refine' E_pi ?pi fun _ => ?_))); (case pi => repeat' (with_reducible first | exact PI_int | (show PI _ _ _ _ (Expr.Name _ _) _; k_dflt (first | exact PI_loc rfl | exact PI_loc (by assumption) | exact PI_glob (by first | assumption | exact Ok.toOkh (by assumption)) (by k_is))) | apply PI_mod | (show (_ : Int) ≠ _; k_dflt (first | decide | assumption | omega)))))
       | (show W _ _ (eval _ _) _ _ _; first | (show W _ _ (eval (Expr.Name _ _) _) _ _ _; k_dflt (refine E_local rfl ?_)) | (show W _ _ (eval (Expr.Name _ _) _) _ _ _; k_dflt (refine E_local (by assumption) ?_)) | (show W _ _ (eval (Expr.Name _ _) _) _ _ _; k_dflt (refine E_glob (by first | assumption | exact Ok.toOkh (by assumption)) (by k_is) ?_)) | refine K_name ?_)
       | (show W _ _ (spliced _) _ _ _; first | (show W _ _ (spliced (backTo _ (starEach (_ :: _) _))) _ _ _; k_dflt (refine A_cons ?_)) | refine A_nil ?_)
       | (show W _ _ (execs _ _) _ _ _; refine S_cons ?_)
       | (show W _ _ (exec _ _) _ _ _; (show W _ _ (exec (Stmt.Assign [Expr.Name _ _] _ _) _) _ _ _; k_dflt (refine S_assign ?_)))
       | (show W _ _ (callWith _ (Value.ref _) _ (backTo _ (starEach (_ :: _) _)) []) _ _ _; k_dflt (refine K_def (by first | assumption | exact Ok.toOkh (by assumption)) (by k_is) ?_))
       | refine seq_next ?_)
      refine ⟨?_⟩
      obtain ⟨cs, a, ta, css, lT, lC, co2, m6, hco2, hl2, hbk, H0⟩ := HK.ex
      have H := H0.more (.head _) (fun p hp => .tail (D, tupO [.int key t1, .int move t2, .int value t3, .int depth t4, .int bound t5]) hp) fD
      refine S_cons (W.mono (k := fun (f : Flow) m' l' => f = .next ∧ LM sa tb kl w C tC tw m' ∧ m' "row" = some (.ref D) ∧ (D, tupO [.int key t1, .int move t2, .int value t3, .int depth t4, .int bound t5]) ∈ l' ∧ LK (L + 1) tb w C [(kl, lstO kvs n)] m' l') ?cnd ?tll)
      case tll =>
        intro f m' l' h
        obtain ⟨rfl, ⟨q1, q2, q3, q4, q5⟩, q6, hrow, ⟨⟨cs, a, ta, css, lT, lC, co2, q8, hco2, hl2, hbk, H⟩⟩⟩ := h
        obtain ⟨rs, hrs⟩ : ∃ rs, css[keyAt css.length key]? = some rs := ⟨_, List.getElem?_eq_getElem (keyAt_lt (by rw [hl2]; exact C0) key)⟩
        obtain ⟨dx, qq, tc', tw', ta', sa', n', vs', h1', h2', h3', I'⟩ := H.T.ex
        have lim : ∀ rs ∈ css, rs.length ≤ 100 := fun rs h => Nat.le_trans (H.T.fit rs h).1 (by omega)
        have klen : kvs.length ≤ 1000 := by
          have := hK.length
          split at hi <;> split at hi <;> omega
        refine S_cut (fun l2 => ∀ p ∈ l', p ∈ l2) ?ifp fun l2 up2 => ?app
        case ifp =>
          refine S_If ?_
          cases hask : ask rs key with
          | none =>
            have sn : (!PySem.Spec.same PyData.none PyData.none) = false := by decide
            repeat' (with_reducible first
             | k_dflt ((with_reducible show W _ _ (getMethod _ _ _) _ _ _); refine G_meth (C := 147) o' (H.sT _ h1') (H.sT _ h2') (by k_is) (by k_is) (by k_is) rfl ?_)
             | k_dflt ((with_reducible show W _ _ (subscriptTail _ _ _ _) _ _ _); refine I_tup hrow (by decide) (by decide) rfl ?_)
             | k_dflt ((with_reducible show W _ _ (call (Value.ref 116) _) _ _ _); refine probe_W (o'.le (by decide)) rfl rfl (H.T.up H.sT) hrs (fun _ => ?_) (fun r _ e => absurd (hask.symm.trans e) nofun))
             | k_dflt ((with_reducible show W _ _ (call (Value.ref 203) _) _ _ _); refine ask_W (o'.le (by decide)) rfl rfl (H.Q.up H.sC) (by omega) (by omega) lim hrs (fun _ => ?_) (fun r e => absurd (hask.symm.trans e) nofun))
             | k_dflt ((with_reducible show W _ _ (compareOp _ _ _) _ _ _); refine C_neD o' Rd.none Rd.none (by decide) (by decide) (by decide) ?_)
             | (((show W _ _ (isTrue _ _ _) _ _ _; k_dflt (refine' T_pt ?pi ?_))); (case pi => repeat' (with_reducible first | apply PT_cmp | (show cmpI _ = true; k_dflt rfl))))
             | (show W _ _ (eval _ _) _ _ _; first | (show W _ _ (eval (Expr.Name _ _) _) _ _ _; k_dflt (refine E_local (by assumption) ?_)) | (show W _ _ (eval (Expr.Name _ _) _) _ _ _; k_dflt (refine E_glob (by first | assumption | exact Ok.toOkh (by assumption)) (by k_is) ?_)) | (refine E_int ?_; intro _) | refine E_sub ?_ | refine K_name ?_ | (show W _ _ (eval (Expr.Call (Expr.Attribute _ _ _) _ [] _) _) _ _ _; k_dflt (refine K_meth ?_)))
             | (show W _ _ (spliced _) _ _ _; first | (show W _ _ (spliced (backTo _ (starEach (_ :: _) _))) _ _ _; k_dflt (refine A_cons ?_)) | refine A_nil ?_)
             | (show W _ _ (execs _ _) _ _ _; refine S_nil ?_)
             | (show W _ _ (isTrue _ _ _) _ _ _; (show W _ _ (isTrue (Expr.Compare _ [_] [_] _) _ _) _ _ _; k_dflt (refine T_cmp ?_)))
             | refine truthy_bool ?_
             | (show W _ _ (callWith _ (Value.ref _) _ (backTo _ (starEach (_ :: _) _)) []) _ _ _; k_dflt (refine K_def (by first | assumption | exact Ok.toOkh (by assumption)) (by k_is) ?_))
             | refine two_off (by assumption) ?_)
            exact ⟨rfl, rfl, fun _ h => h⟩
          | some r =>
            have I4 : ∀ u1 u2 u3 u4, IntsAre [Value.int r.m u1, .int r.v u2, .int r.d u3, .int r.b u4] [r.m, r.v, r.d, r.b] := fun _ _ _ _ => .cons _ _ (.cons _ _ (.cons _ _ (.cons _ _ .nil)))
            have sm : (!PySem.Spec.same (.tuple ([r.m, r.v, r.d, r.b].map .int)) (.tuple ([r.m, r.v, r.d, r.b].map .int))) = false := by rw [same_tup, decide_eq_true rfl]; rfl
            repeat' (with_reducible first
             | k_dflt ((with_reducible show W _ _ (getMethod _ _ _) _ _ _); refine G_meth (C := 147) o' (H.sT _ h1') (H.sT _ h2') (by k_is) (by k_is) (by k_is) rfl ?_)
             | k_dflt ((with_reducible show W _ _ (subscriptTail _ _ _ _) _ _ _); refine I_tup (by first | exact hrow | exact List.mem_cons_of_mem _ hrow) (by decide) (by decide) rfl ?_)
             | k_dflt ((with_reducible show W _ _ (call (Value.ref 116) _) _ _ _); refine probe_W (o'.le (by decide)) rfl rfl (H.T.up H.sT) hrs (fun e => absurd (hask.symm.trans e) nofun) (fun r1 _ e D1 u1 u2 u3 u4 f1 => ?_); obtain rfl := Option.some.inj (hask.symm.trans e))
             | k_dflt ((with_reducible show W _ _ (call (Value.ref 203) _) _ _ _); refine ask_W (o'.le (by decide)) rfl rfl (H.Q.up fun p hp => .tail _ (H.sC p hp)) (by omega) (by omega) lim hrs (fun e => absurd (hask.symm.trans e) nofun) (fun r2 e D2 v1 v2 v3 v4 f2 => ?_); obtain rfl := Option.some.inj (hask.symm.trans e))
             | k_dflt ((with_reducible show W _ _ (compareOp _ _ _) _ _ _); refine C_neD o' (Rd.tup (.tail _ (.head _)) (I4 _ _ _ _)) (Rd.tup (.head _) (I4 _ _ _ _)) (shaped_tup _) (shaped_tup _) (mix_tup _ _) ?_)
             | (((show W _ _ (isTrue _ _ _) _ _ _; k_dflt (refine' T_pt ?pi ?_))); (case pi => repeat' (with_reducible first | apply PT_cmp | (show cmpI _ = true; k_dflt rfl))))
             | (show W _ _ (eval _ _) _ _ _; first | (show W _ _ (eval (Expr.Name _ _) _) _ _ _; k_dflt (refine E_local (by assumption) ?_)) | (show W _ _ (eval (Expr.Name _ _) _) _ _ _; k_dflt (refine E_glob (by first | assumption | exact Ok.toOkh (by assumption)) (by k_is) ?_)) | (refine E_int ?_; intro _) | refine E_sub ?_ | refine K_name ?_ | (show W _ _ (eval (Expr.Call (Expr.Attribute _ _ _) _ [] _) _) _ _ _; k_dflt (refine K_meth ?_)))
             | (show W _ _ (spliced _) _ _ _; first | (show W _ _ (spliced (backTo _ (starEach (_ :: _) _))) _ _ _; k_dflt (refine A_cons ?_)) | refine A_nil ?_)
             | (show W _ _ (execs _ _) _ _ _; refine S_nil ?_)
             | (show W _ _ (isTrue _ _ _) _ _ _; (show W _ _ (isTrue (Expr.Compare _ [_] [_] _) _ _) _ _ _; k_dflt (refine T_cmp ?_)))
             | refine truthy_bool ?_
             | (show W _ _ (callWith _ (Value.ref _) _ (backTo _ (starEach (_ :: _) _)) []) _ _ _; k_dflt (refine K_def (by first | assumption | exact Ok.toOkh (by assumption)) (by k_is) ?_))
             | refine two_off (by assumption) ?_)
            exact ⟨rfl, rfl, fun p hp => .tail _ (.tail _ hp)⟩
        case app =>
          have hkl := up2 _ (H.sE _ (.tail _ (.head _)))
          have nkl : kl ≠ L + 1 := Nat.ne_of_gt (fkl _ put_at)
          repeat' (with_reducible first
           | k_dflt ((with_reducible show W _ _ (getMethod _ _ _) _ _ _); refine G_append hkl ?_)
           | k_dflt ((with_reducible show W _ _ (subscriptTail _ _ _ _) _ _ _); refine I_tup (up2 _ hrow) (by decide) (by decide) rfl ?_)
           | k_dflt ((with_reducible show W _ _ (call (Value.builtin _) _) _ _ _); refine M_append hkl ?_ (by omega))
           | (show W _ _ (eval _ _) _ _ _; first | (show W _ _ (eval (Expr.Name _ _) _) _ _ _; k_dflt (refine E_local (by assumption) ?_)) | (refine E_int ?_; intro _) | refine E_sub ?_ | (show W _ _ (eval (Expr.Call (Expr.Attribute _ _ _) _ [] _) _) _ _ _; k_dflt (refine K_meth ?_)))
           | (show W _ _ (spliced _) _ _ _; first | (show W _ _ (spliced (backTo _ (starEach (_ :: _) _))) _ _ _; k_dflt (refine A_cons ?_)) | refine A_nil ?_)
           | (show W _ _ (execs _ _) _ _ _; first | refine S_cons ?_ | refine S_nil ?_)
           | (show W _ _ (exec _ _) _ _ _; (show W _ _ (exec (Stmt.Expr _ _) _) _ _ _; k_dflt (refine S_expr ?_)))
           | (show W _ _ (callWith _ (Value.builtin _) _ (backTo _ (starEach (_ :: _) _)) []) _ _ _; k_dflt (refine K_built ?_))
           | refine seq_next ?_
           | refine turn_next ?_)
          exact ⟨⟨q1, q2, q3, q4, q5⟩, kvs ++ [.int key t1], ks ++ [key], n + 1, hK.append (.cons _ _ .nil), by rw [List.length_append, hks]; rfl, ⟨cs, a, ta, css, lT, lC, co2, q8, hco2, hl2, hbk, ((H.up up2).putE (o' := lstO (kvs ++ [.int key t1]) (n + 1)) (.tail _ (.head _))).less fun p hp => (List.mem_cons.mp hp).elim (fun e => by rw [e]; exact put_off (.head _) (Ne.symm nkl)) fun e => by rw [List.mem_singleton.mp e]; exact put_at⟩⟩
      case cnd =>
        have hrow := H.sE _ (.head _)
        refine S_If (T_pt (p := cmpB .Lt (x.fmod 10) 6) ?pi (two_bool (fun g => ?b1) (fun g => ?b2)))
        case pi => repeat' (with_reducible first | exact PI_int | (show PI _ _ _ _ (Expr.Name _ _) _; k_dflt (first | exact PI_loc rfl | exact PI_loc (by assumption) | exact PI_glob (by first | assumption | exact Ok.toOkh (by assumption)) (by k_is))) | apply PT_cmp | (show cmpI _ = true; k_dflt rfl))
        have ne1 : (true != true) = false := rfl
        have ne2 : (false != false) = false := rfl
        case b1 =>
          by_cases rt : Rt key move value depth bound
          · obtain ⟨k0, r0, r1, b0, b1, v0, v1, d0, d1⟩ := id rt
            have V : Va ⟨key, move, value, depth, bound, a⟩ := ⟨k0, r0, r1, v0, v1, d0, d1, b0, b1, H.T.a0, H.T.a1⟩
            repeat' (with_reducible first
             | k_dflt ((with_reducible show W _ _ (call (Value.ref 210) _) _ _ _); refine lsave_ok (r := ⟨key, move, value, depth, bound, a⟩) (o'.le (by decide)) rfl rfl H.T H.sT H.zT H.dT (List.mem_append_right _ (.head _)) V hkey (fun rs rs' lT' g1 g2 T1 dd => ?_); (have H2 := H.setT T1 dd))
             | k_dflt ((with_reducible show W _ _ (call (Value.ref 191) _) _ _ _); refine right_W (o'.le (by decide)).toOkh rfl rfl (.inl o'.hn) (by first | with_reducible assumption | exact H2.sE _ (.head _) | exact up3 _ (H2.sE _ (.head _))) (fun p hp => ?_); obtain rfl : p = true := hp.mpr rt)
             | k_dflt ((with_reducible show W _ _ (compareOp CmpOp.NotEq (Value.bool _) (Value.bool _)) _ _ _); refine C_neB ?_)
             | k_dflt ((with_reducible show W _ _ (call (Value.ref 229) _) _ _ _); refine packs_W (o'.le (by decide)) hO XB TB rfl rfl (H2.sE _ (.head _)) hkey (fun l3 up3 => ?_))
             | k_dflt ((with_reducible show W _ _ (eval (Expr.Name (Str.ofString "age") _) _) _ _ _); refine E_cell rfl (List.mem_append_left _ (up3 _ (H2.sE _ (.tail _ (.head _))))) hco2 ?_)
             | k_dflt ((with_reducible show W _ _ (call (Value.ref 196) _) _ _ _); refine Stop.go ?_)
             | ((first | (show W _ _ (eval (Expr.BinOp _ _ _ _) _) _ _ _; k_dflt (refine' E_pi ?pi fun _ => ?_)) | (show W _ _ (isTrue _ _ _) _ _ _; k_dflt (refine' T_pt ?pi ?_))); (case pi => repeat' (with_reducible first | exact PI_int | (show PI _ _ _ _ (Expr.Name _ _) _; k_dflt (first | exact PI_loc rfl | exact PI_loc (by assumption) | exact PI_glob (by first | assumption | exact Ok.toOkh (by assumption)) (by k_is))) | apply PI_sub | apply PI_mod | apply PI_div | apply PT_cmp | exact PT_or0 | apply PT_or | apply PT_not | (show cmpI _ = true; k_dflt rfl) | (show (_ : Int) ≠ _; k_dflt (first | decide | assumption | omega)) | (show (_ : Nat) < _; k_dflt (first | decide | assumption | omega)))))
             | (show W _ _ (eval _ _) _ _ _; first | (show W _ _ (eval (Expr.Name _ _) _) _ _ _; k_dflt (refine E_local rfl ?_)) | (show W _ _ (eval (Expr.Name _ _) _) _ _ _; k_dflt (refine E_local (by assumption) ?_)) | (show W _ _ (eval (Expr.Name _ _) _) _ _ _; k_dflt (refine E_glob (by first | assumption | exact Ok.toOkh (by assumption)) (by k_is) ?_)) | refine K_name ?_)
             | (show W _ _ (spliced _) _ _ _; first | (show W _ _ (spliced (backTo _ (starEach (_ :: _) _))) _ _ _; k_dflt (refine A_cons ?_)) | refine A_nil ?_)
             | (show W _ _ (execs _ _) _ _ _; first | refine S_cons ?_ | refine S_nil ?_)
             | (show W _ _ (exec _ _) _ _ _; first | refine S_If ?_ | (show W _ _ (exec (Stmt.Expr _ _) _) _ _ _; k_dflt (refine S_expr ?_)))
             | (show W _ _ (isTrue _ _ _) _ _ _; first | (show W _ _ (isTrue (Expr.Compare _ [_] [_] _) _ _) _ _ _; k_dflt (refine T_cmp ?_)) | refine T_or ?_ | refine T_not ?_ | k_dflt (refine T_plain ?_))
             | refine truthy_bool ?_
             | (show W _ _ (callWith _ (Value.ref _) _ (backTo _ (starEach (_ :: _) _)) []) _ _ _; k_dflt (refine K_def (by first | assumption | exact Ok.toOkh (by assumption)) (by k_is) ?_))
             | refine seq_next ?_
             | refine two_off (by assumption) ?_
             | refine two_true ?_
             | refine two_false ?_
             | refine two_not ?_)
            refine ⟨?_⟩
            refine W.frame ((D, tupO [.int key t1, .int move t2, .int value t3, .int depth t4, .int bound t5]) :: lC) (lT' ++ [(L + 1, co2), (kl, lstO kvs n)]) (fun p hp => up3 p ((List.mem_cons.mp hp).elim (fun e => e ▸ H2.sE _ (.head _)) (H2.sC p))) (fun p hp => up3 p ((List.mem_append.mp hp).elim (H2.sT p) fun e => H2.sE p (.tail _ e)))
              (fun p hp q hq => (List.mem_append.mp hp).elim (fun e => (List.mem_cons.mp hq).elim (fun u => by rw [u]; exact Ne.symm (H2.dET _ (.head _) p e)) fun u => Ne.symm (H2.dCT q u p e)) fun e => (List.mem_cons.mp hq).elim (fun u => by rw [u]; exact Nat.ne_of_lt (fD p (H0.sE p e))) fun u => H2.dEC p (.tail _ e) q u) ?_
            refine keep_W (r := ⟨key, move, value, depth, bound, a⟩) (w := w) (o'.fr (by decide)) rfl rfl (H.Q.up fun p hp => .tail _ hp) H.T.fit (by rw [hl2]; exact C0) (by rw [hl2]; exact C1) w1 w0 V ⟨_, .head _, rfl⟩ fun rs2 rs2' l6 k1 k2 k3 k4 k5 => ?_
            obtain rfl : rs2 = rs := Option.some.inj (k1.symm.trans g1)
            obtain rfl := k2.uniq g2
            repeat' (with_reducible first
             | (show W _ _ (execs _ _) _ _ _; refine S_nil ?_)
             | refine seq_next ?_)
            exact ⟨rfl, ⟨m1, m2, m3, m4, m5⟩, rfl, List.mem_append_left _ k4, ⟨cs, a, ta, _, lT', l6, co2, m6, hco2, by rw [List.length_set]; exact hl2, fun q hq => (List.mem_or_eq_of_mem_set hq).elim (hbk q) fun e => e ▸ g2.key (B := fun z => (Builtin.Int.intBits z : Int) ≤ 2000000) hkey (hbk _ (List.mem_of_getElem? g1)),
              ⟨T1, k3, fun p hp => List.mem_append_right _ (List.mem_append_left _ hp), fun p hp => List.mem_append_left _ hp, fun p hp => List.mem_append_right _ (List.mem_append_right _ hp), fun p hp q hq => Ne.symm (k5 q (List.mem_append_left _ hq) p hp), fun p hp => H2.dET p (.tail _ hp), fun p hp => k5 p (List.mem_append_right _ hp)⟩⟩⟩
          · repeat' (with_reducible first
             | k_dflt ((with_reducible show W _ _ (call (Value.ref 210) _) _ _ _); refine lsave_no (o'.le (by decide)) hO XB TB rfl rfl (H.T.up H.sT) hrow rt ?_)
             | k_dflt ((with_reducible show W _ _ (call (Value.ref 191) _) _ _ _); refine right_W (o'.le (by decide)).toOkh rfl rfl (.inl o'.hn) (by first | with_reducible assumption | exact up3 _ hrow) (fun p hp => ?_); obtain rfl : p = false := (by cases p; rfl; exact absurd (hp.mp rfl) rt))
             | k_dflt ((with_reducible show W _ _ (compareOp CmpOp.NotEq (Value.bool _) (Value.bool _)) _ _ _); refine C_neB ?_)
             | k_dflt ((with_reducible show W _ _ (call (Value.ref 229) _) _ _ _); refine packs_W (o'.le (by decide)) hO XB TB rfl rfl hrow hkey (fun l3 up3 => ?_))
             | ((first | (show W _ _ (eval (Expr.BinOp _ _ _ _) _) _ _ _; k_dflt (refine' E_pi ?pi fun _ => ?_)) | (show W _ _ (isTrue _ _ _) _ _ _; k_dflt (refine' T_pt ?pi ?_))); (case pi => repeat' (with_reducible first | exact PI_int | (show PI _ _ _ _ (Expr.Name _ _) _; k_dflt (first | exact PI_loc rfl | exact PI_loc (by assumption) | exact PI_glob (by first | assumption | exact Ok.toOkh (by assumption)) (by k_is))) | apply PI_sub | apply PI_mod | apply PI_div | apply PT_cmp | exact PT_or0 | apply PT_or | apply PT_not | (show cmpI _ = true; k_dflt rfl) | (show (_ : Int) ≠ _; k_dflt (first | decide | assumption | omega)) | (show (_ : Nat) < _; k_dflt (first | decide | assumption | omega)))))
             | (show W _ _ (eval _ _) _ _ _; first | (show W _ _ (eval (Expr.Name _ _) _) _ _ _; k_dflt (refine E_local rfl ?_)) | (show W _ _ (eval (Expr.Name _ _) _) _ _ _; k_dflt (refine E_local (by assumption) ?_)) | (show W _ _ (eval (Expr.Name _ _) _) _ _ _; k_dflt (refine E_glob (by first | assumption | exact Ok.toOkh (by assumption)) (by k_is) ?_)) | refine K_name ?_)
             | (show W _ _ (spliced _) _ _ _; first | (show W _ _ (spliced (backTo _ (starEach (_ :: _) _))) _ _ _; k_dflt (refine A_cons ?_)) | refine A_nil ?_)
             | (show W _ _ (execs _ _) _ _ _; first | refine S_cons ?_ | refine S_nil ?_)
             | (show W _ _ (exec _ _) _ _ _; refine S_If ?_)
             | (show W _ _ (isTrue _ _ _) _ _ _; first | (show W _ _ (isTrue (Expr.Compare _ [_] [_] _) _ _) _ _ _; k_dflt (refine T_cmp ?_)) | refine T_or ?_ | refine T_not ?_ | k_dflt (refine T_plain ?_))
             | refine truthy_bool ?_
             | (show W _ _ (callWith _ (Value.ref _) _ (backTo _ (starEach (_ :: _) _)) []) _ _ _; k_dflt (refine K_def (by first | assumption | exact Ok.toOkh (by assumption)) (by k_is) ?_))
             | refine seq_next ?_
             | refine two_off (by assumption) ?_
             | refine two_true ?_
             | refine two_false ?_
             | refine two_not ?_)
            exact ⟨rfl, ⟨m1, m2, m3, m4, m5⟩, rfl, up3 _ hrow, ⟨cs, a, ta, _, lT, lC, co2, m6, hco2, hl2, hbk, H0.up fun p hp => up3 p (.tail _ hp)⟩⟩
        have nkl : kl ≠ L + 1 := Nat.ne_of_gt (fkl _ put_at)
        have nD : D ≠ L + 1 := Nat.ne_of_gt (fD _ (H0.sE _ (.head _)))
        case b2 =>
          refine S_cons (S_If (T_pt (p := cmpB .Eq (x.fmod 10) 7) ?pi2 (two_bool (fun g7 => ?b3) (fun g7 => ?b4))))
          case pi2 => repeat' (with_reducible first | exact PI_int | (show PI _ _ _ _ (Expr.Name _ _) _; k_dflt (first | exact PI_loc rfl | exact PI_loc (by assumption) | exact PI_glob (by first | assumption | exact Ok.toOkh (by assumption)) (by k_is))) | apply PT_cmp | (show cmpI _ = true; k_dflt rfl))
          case b3 =>
            have b0 := Int.emod_nonneg (x.fdiv 10) (show (100 : Int) ≠ 0 by decide)
            have b1 := Int.emod_lt_of_pos (x.fdiv 10) (show (0 : Int) < 100 by decide)
            have be : (x.fdiv 10).fmod 100 = (x.fdiv 10) % 100 := Int.fmod_eq_emod_of_nonneg _ (by decide)
            have fm : ∀ z : Int, z.fmod 64 = z % 64 := fun z => Int.fmod_eq_emod_of_nonneg _ (by decide)
            refine S_cons (S_range o' ((x.fdiv 10).fmod 100).toNat 0 ((x.fdiv 10).fmod 100) (fun i m' l' => LM sa tb kl w C tC tw m' ∧ m' "row" = some (.ref D) ∧ m' "x" = some (.int x tx) ∧ m' "clusters" = some (.ref cs) ∧ ∃ lT', LH tb cs w ((a + i) % 64) css css lT' lC [(D, tupO [.int key t1, .int move t2, .int value t3, .int depth t4, .int bound t5]), (L + 1, co2), (kl, lstO kvs n)] l') (by rw [Int.sub_zero]) (fun c3 o3 hq3 => ?y3) (fun c3 o3 hq3 i3 ti3 m3 l3 hi3 hJ3 => ?turn3) (fun m3 l3 hJ3 => ?done3))
            case y3 =>
              repeat' (with_reducible first
               | (((show W _ _ (eval (Expr.BinOp _ _ _ _) _) _ _ _; k_dflt (refine' E_pi ?pi fun _ => ?_))); (case pi => repeat' (with_reducible first | exact PI_int | (show PI _ _ _ _ (Expr.Name _ _) _; k_dflt (first | exact PI_loc rfl | exact PI_loc (by assumption) | exact PI_glob (by first | assumption | exact Ok.toOkh (by assumption)) (by k_is))) | apply PI_mod | apply PI_div | (show (_ : Int) ≠ _; k_dflt (first | decide | assumption | omega)) | (show (_ : Nat) < _; k_dflt (first | decide | assumption | omega)))))
               | (show W _ _ (eval _ _) _ _ _; first | (show W _ _ (eval (Expr.Name _ _) _) _ _ _; k_dflt (refine E_built (by first | assumption | exact Ok.toOkh (by assumption)) (by k_is) (by boot_fast) ?_ (by decide))) | refine K_name ?_)
               | (show W _ _ (spliced _) _ _ _; first | (show W _ _ (spliced (backTo _ (starEach (_ :: _) _))) _ _ _; k_dflt (refine A_cons ?_)) | refine A_nil ?_)
               | (show W _ _ (callWith _ (Value.type _) _ (backTo _ (starEach (_ :: _) _)) []) _ _ _; k_dflt (refine K_type ?_))
               | (show W _ _ (call (Value.type _) [Value.int _ _]) _ _ _; refine M_range1 ?_; intro _ _ _ _))
              refine ⟨⟨⟨_, _, _, _, rfl, .head _⟩, by decide, by decide, by omega, by omega⟩, ⟨m1, m2, m3, m4, m5⟩, rfl, rfl, m6, lT, ?_⟩
              have e0 : (a + ((0 : Nat) : Int)) % 64 = a := by
                have := H.T.a0
                have := H.T.a1
                omega
              rw [e0]
              exact H.up fun p hp => .tail _ hp
            case turn3 =>
              obtain ⟨⟨q1, q2, q3, q4, q5⟩, q6, q7, q8, lT3, H3⟩ := hJ3
              obtain ⟨dx, qq, tc', tw', ta', sa', n', vs', h1', h2', h3', I'⟩ := H3.T.ex
              repeat' (with_reducible first
               | k_dflt ((with_reducible show W _ _ (getMethod _ _ _) _ _ _); refine G_meth (C := 147) o3 (H3.sT _ h1') (H3.sT _ h2') (by k_is) (by k_is) (by k_is) rfl ?_)
               | k_dflt ((with_reducible show W _ _ (call (Value.ref 130) _) _ _ _); refine W.frame lT3 _ H3.sT H3.zT H3.dT ?_; refine search_W (o3.fr (by decide)) rfl rfl H3.T (fun lT4 T4 d4 => ?_))
               | (show W _ _ (eval _ _) _ _ _; first | (show W _ _ (eval (Expr.Name _ _) _) _ _ _; k_dflt (refine E_local (by assumption) ?_)) | (show W _ _ (eval (Expr.Call (Expr.Attribute _ _ _) _ [] _) _) _ _ _; k_dflt (refine K_meth ?_)))
               | (show W _ _ (execs _ _) _ _ _; first | refine S_cons ?_ | refine S_nil ?_)
               | (show W _ _ (exec _ _) _ _ _; (show W _ _ (exec (Stmt.Expr _ _) _) _ _ _; k_dflt (refine S_expr ?_)))
               | (show W _ _ (callWith _ (Value.ref _) _ (backTo _ (starEach [] _)) []) _ _ _; k_dflt (refine K_def0 (by first | assumption | exact Ok.toOkh (by assumption)) (by k_is) ?_))
               | refine seq_next ?_
               | refine turn_next ?_)
              refine ⟨⟨q1, q2, q3, q4, q5⟩, q6, q7, q8, lT4, ?_⟩
              have e4 : ((a + (i3 : Int)) % 64 + 1).fmod 64 = (a + ((i3 + 1 : Nat) : Int)) % 64 := by rw [fm]; omega
              rw [← e4]
              exact H3.setT T4 d4
            case done3 =>
              obtain ⟨⟨q1, q2, q3, q4, q5⟩, q6, q7, q8, lT3, H3⟩ := hJ3
              with_reducible refine seq_next ?_
              with_reducible refine S_cons ?_
              refine S_cell (b := L + 1) rfl ?_
              repeat' (with_reducible first
               | k_dflt ((with_reducible show W _ _ (eval (Expr.Name (Str.ofString "age") _) _) _ _ _); refine E_cell rfl (List.mem_append_left _ (H3.sE _ (.tail _ (.head _)))) hco2 ?_)
               | k_dflt ((with_reducible show W _ _ (eval (Expr.BinOp _ Operator.Mod _ _) _) _ _ _); with_reducible refine E_binop ?_)
               | k_dflt ((with_reducible show W _ _ (eval (Expr.BinOp (Expr.Name (Str.ofString "age") _) Operator.Add _ _) _) _ _ _); with_reducible refine E_binop ?_)
               | (((show W _ _ (eval (Expr.BinOp _ _ _ _) _) _ _ _; k_dflt (refine' E_pi ?pi fun _ => ?_))); (case pi => repeat' (with_reducible first | exact PI_int | (show PI _ _ _ _ (Expr.Name _ _) _; k_dflt (first | exact PI_loc rfl | exact PI_loc (by assumption) | exact PI_glob (by first | assumption | exact Ok.toOkh (by assumption)) (by k_is))) | apply PI_div | (show (_ : Int) ≠ _; k_dflt (first | decide | assumption | omega)) | (show (_ : Nat) < _; k_dflt (first | decide | assumption | omega)))))
               | (show W _ _ (eval _ _) _ _ _; (refine E_int ?_; intro _))
               | (show W _ _ (binaryOp _ _ _) _ _ _; first | (refine O_add ?_; intro _) | (show W _ _ (binaryOp Operator.Mod (Value.int _ _) (Value.int _ _)) _ _ _; k_dflt (refine O_mod (by first | decide | assumption | omega) ?_; intro _))))
              refine ⟨co2, _, H3.sE _ (.tail _ (.head _)), hco2, fun co3 hco3 => ?_⟩
              rw [show (a + ((((x.fdiv 10).fmod 100).toNat : Nat) : Int)) % 64 = (a + (x.fdiv 10).fmod 100).fmod 64 from by rw [fm, Int.toNat_of_nonneg (by omega)]] at H3
              repeat' (with_reducible first
               | (show W _ _ (execs _ _) _ _ _; refine S_nil ?_)
               | refine seq_next ?_)
              exact ⟨rfl, ⟨q1, q2, q3, q4, q5⟩, q6, put_off (H3.sE _ (.head _)) nD, ⟨cs, _, _, css, lT3, lC, co3, q8, hco3, hl2, hbk, (H3.putE (o' := co3) (.tail _ (.head _))).less fun p hp => (List.mem_cons.mp hp).elim (fun e => e ▸ put_at) fun e => by rw [List.mem_singleton.mp e]; exact put_off (.tail _ (.tail _ (.head _))) nkl⟩⟩
          case b4 =>
            refine S_cons (S_If (T_pt (p := cmpB .Eq (x.fmod 10) 9) ?pi3 (two_bool (fun g9 => ?b5) (fun g9 => ?b6))))
            case pi3 => repeat' (with_reducible first | exact PI_int | (show PI _ _ _ _ (Expr.Name _ _) _; k_dflt (first | exact PI_loc rfl | exact PI_loc (by assumption) | exact PI_glob (by first | assumption | exact Ok.toOkh (by assumption)) (by k_is))) | apply PT_cmp | (show cmpI _ = true; k_dflt rfl))
            case b5 =>
              obtain ⟨dx, qq, tc', tw', ta', sa', n', vs', h1', h2', h3', I'⟩ := H.T.ex
              repeat' (with_reducible first
               | k_dflt ((with_reducible show W _ _ (getMethod _ _ _) _ _ _); refine G_meth (C := 147) o' (H.sT _ h1') (H.sT _ h2') (by k_is) (by k_is) (by k_is) rfl ?_)
               | k_dflt ((with_reducible show W _ _ (call (Value.ref 137) _) _ _ _); refine W.frame lT _ H.sT H.zT H.dT ?_; refine clear_W (o'.fr (by decide)) rfl rfl H.T (fun lT4 T4 d4 => ?_))
               | (show W _ _ (eval _ _) _ _ _; first | (show W _ _ (eval (Expr.Name _ _) _) _ _ _; k_dflt (refine E_local (by assumption) ?_)) | (show W _ _ (eval (Expr.Call (Expr.Attribute _ _ _) _ [] _) _) _ _ _; k_dflt (refine K_meth ?_)))
               | (show W _ _ (execs _ _) _ _ _; refine S_cons ?_)
               | (show W _ _ (exec _ _) _ _ _; (show W _ _ (exec (Stmt.Expr _ _) _) _ _ _; k_dflt (refine S_expr ?_)))
               | (show W _ _ (callWith _ (Value.ref _) _ (backTo _ (starEach [] _)) []) _ _ _; k_dflt (refine K_def0 (by first | assumption | exact Ok.toOkh (by assumption)) (by k_is) ?_))
               | refine seq_next ?_)
              rw [hl2] at T4
              have H4 := H.setT T4 d4
              have hk4 := H4.sE _ (.tail _ (.tail _ (.head _)))
              have hb4 := H4.sE _ (.tail _ (.head _))
              refine newC o' C C1 ?it5 (fun cs5 lx5 l5 hC5 u1 u2 u3 => ?_) (by with_unfolding_all rfl) (by decide) (by rfl) (by decide) (by rfl) (by rfl)
              case it5 =>
                repeat' (with_reducible first
                 | (show W _ _ (eval _ _) _ _ _; first | (show W _ _ (eval (Expr.Name _ _) _) _ _ _; k_dflt (refine E_local (by assumption) ?_)) | (show W _ _ (eval (Expr.Name _ _) _) _ _ _; k_dflt (refine E_built (by first | assumption | exact Ok.toOkh (by assumption)) (by k_is) (by boot_fast) ?_ (by decide))) | refine K_name ?_)
                 | (show W _ _ (spliced _) _ _ _; first | (show W _ _ (spliced (backTo _ (starEach (_ :: _) _))) _ _ _; k_dflt (refine A_cons ?_)) | refine A_nil ?_)
                 | (show W _ _ (callWith _ (Value.type _) _ (backTo _ (starEach (_ :: _) _)) []) _ _ _; k_dflt (refine K_type ?_))
                 | (show W _ _ (call (Value.type _) [Value.int _ _]) _ _ _; refine M_range1 ?_; intro _ _ _ _))
                exact ⟨rfl, ⟨⟨_, _, _, _, rfl, .head _⟩, by omega, by omega, by omega, by omega⟩, fun p hp => .tail _ hp⟩
              with_reducible refine seq_next ?_
              with_reducible refine S_cons ?_
              refine S_cell (b := L + 1) rfl ?_
              repeat' (with_reducible (show W _ _ (eval _ _) _ _ _; (refine E_int ?_; intro _)))
              refine ⟨co2, _, u2 _ hb4, hco2, fun co3 hco3 => ?_⟩
              repeat' (with_reducible first
               | (show W _ _ (execs _ _) _ _ _; refine S_nil ?_)
               | refine seq_next ?_)
              refine ⟨rfl, ⟨m1, m2, m3, m4, m5⟩, rfl, put_off (u2 _ (H4.sE _ (.head _))) nD, ⟨cs5, 0, _, List.replicate C [], lT4, lx5, co3, rfl, hco3, List.length_replicate .., fun rs hrs => by rw [List.eq_of_mem_replicate hrs]; exact fun _ h => (nomatch h), ?_⟩⟩
              refine ⟨T4, hC5, fun p hp => put_off (u2 _ (H4.sT p hp)) (Ne.symm (H4.dET _ (.tail _ (.head _)) p hp)), fun p hp => put_off (u1 p hp) (Ne.symm (u3 _ hb4 p hp)), fun p hp => (List.mem_cons.mp hp).elim (fun e => e ▸ put_at) fun e => List.mem_singleton.mp e ▸ put_off (u2 _ hk4) nkl, fun p hp q hq => Ne.symm (u3 q (H4.sT q hq) p hp),
                fun p hp q hq => (List.mem_cons.mp hp).elim (fun e => by rw [e]; exact H4.dET _ (.tail _ (.head _)) q hq) fun e => by rw [List.mem_singleton.mp e]; exact H4.dET _ (.tail _ (.tail _ (.head _))) q hq,
                fun p hp q hq => (List.mem_cons.mp hp).elim (fun e => by rw [e]; exact u3 _ hb4 q hq) fun e => by rw [List.mem_singleton.mp e]; exact u3 _ hk4 q hq⟩
            case b6 =>
              refine S_cons (S_If (T_pt (p := cmpB .Eq (x.fmod 10) 8) ?pi4 (two_bool (fun g8 => ?b7) (fun g8 => ?b8))))
              case pi4 => repeat' (with_reducible first | exact PI_int | (show PI _ _ _ _ (Expr.Name _ _) _; k_dflt (first | exact PI_loc rfl | exact PI_loc (by assumption) | exact PI_glob (by first | assumption | exact Ok.toOkh (by assumption)) (by k_is))) | apply PT_cmp | (show cmpI _ = true; k_dflt rfl))
              case b8 =>
                repeat' (with_reducible first
                 | (show W _ _ (execs _ _) _ _ _; refine S_nil ?_)
                 | refine seq_next ?_)
                exact ⟨rfl, ⟨m1, m2, m3, m4, m5⟩, rfl, hrow, ⟨cs, a, ta, css, lT, lC, co2, m6, hco2, hl2, hbk, H0.up fun p hp => .tail _ hp⟩⟩
              case b7 =>
                have cw : C * w ≤ 9 := Nat.mul_le_mul C1 w1
                have flen : css.flatten.length ≤ 1000 := by have := flat_small w1 H.T.fit; omega
                obtain ⟨dx, qq, tc', tw', ta', sa', n', vs', h1', h2', h3', I'⟩ := H.T.ex
                refine S_cons (L_T_listX o' ?it7 (by with_unfolding_all rfl) (by decide) (by rfl) (by decide) (by rfl) (by rfl))
                repeat' (with_reducible first
                 | k_dflt ((with_reducible show W _ _ (call (Value.ref 217) _) _ _ _); refine all_W (o'.le (by decide)) rfl rfl (H.Q.up H.sC) flen (fun Da ds la na ua pa ma => ?_))
                 | (show W _ _ (eval _ _) _ _ _; first | (show W _ _ (eval (Expr.Name _ _) _) _ _ _; k_dflt (refine E_local (by assumption) ?_)) | (show W _ _ (eval (Expr.Name _ _) _) _ _ _; k_dflt (refine E_glob (by first | assumption | exact Ok.toOkh (by assumption)) (by k_is) ?_)) | refine K_name ?_)
                 | (show W _ _ (spliced _) _ _ _; first | (show W _ _ (spliced (backTo _ (starEach (_ :: _) _))) _ _ _; k_dflt (refine A_cons ?_)) | refine A_nil ?_)
                 | (show W _ _ (callWith _ (Value.ref _) _ (backTo _ (starEach (_ :: _) _)) []) _ _ _; k_dflt (refine K_def (by first | assumption | exact Ok.toOkh (by assumption)) (by k_is) ?_)))
                have dl := pa.length
                refine ⟨rfl, Da, ds.map .ref, na, (fun i ys l' => (∀ p ∈ la, p ∈ l') ∧ ys.length = ((css.flatten.take i).filter fun r => decide (r.a = a)).length), rfl, by rw [List.length_map, dl]; exact flen, ⟨fun _ h => h, rfl⟩, fun i ys l' hJ => hJ.1 _ ma, fun c7 o7 i7 v ys l7 Cc m7 hv hJ hx7 hT => ?_, fun ys l7 Df hJ off => ?_⟩
                · obtain ⟨oC, hC1, hC2⟩ := hT.cell
                  obtain ⟨d, hdi, rfl⟩ := map_ref hv
                  obtain ⟨r, hri, t1', t2', t3', t4', t5', t6', ht⟩ := paired_get' pa hdi
                  obtain ⟨j1, j2⟩ := hJ
                  have ht7 := j1 _ ht
                  have hb7 := j1 _ (ua _ (H.sE _ (.tail _ (.head _))))
                  have fs := filter_step (p := fun r : Rw => decide (r.a = a)) hri
                  repeat' (with_reducible first
                   | k_dflt ((with_reducible show W _ _ (eval (Expr.Name (Str.ofString "age") _) (compEnvC _ _ _ _)) _ _ _); refine V_cell rfl (List.mem_append_left _ hb7) hco2 ?_)
                   | k_dflt ((with_reducible show W _ _ (eval (Expr.Name _ _) (compEnvC _ _ _ _)) _ _ _); refine V_own (List.mem_append_right _ hC1) hC2 hx7 ?_)
                   | k_dflt ((with_reducible show W _ _ (subscriptTail _ _ _ _) _ _ _); refine I_tup ht7 (by decide) (by decide) rfl ?_)
                   | (show W _ _ (eval _ _) _ _ _; first | (refine E_int ?_; intro _) | refine E_sub ?_)
                   | (show W _ _ (isTrue _ _ _) _ _ _; (show W _ _ (isTrue (Expr.Compare _ [_] [_] _) _ _) _ _ _; k_dflt (refine T_cmp ?_)))
                   | (show W _ _ (compareOp _ _ _) _ _ _; refine C_eq ?_)
                   | refine truthy_bool ?_
                   | refine two_dec (fun _ => ?_) (fun _ => ?_))
                  · rename_i g7
                    exact ⟨rfl, j1, by rw [fs, List.length_append, List.length_append, j2, decide_eq_true g7]; rfl⟩
                  · rename_i g7
                    exact ⟨rfl, j1, by rw [fs, List.length_append, j2, decide_eq_false g7]; rfl⟩
                · obtain ⟨j1, j2⟩ := hJ
                  have hlq : ys.length = (css.flatten.filter fun r => decide (r.a = a)).length := by rw [j2, List.take_of_length_le (by rw [List.length_map, dl]; exact Nat.le_refl _)]
                  have H7 := H.up fun p hp => .tail (Df, lstO ys ys.length) (j1 p (ua p hp))
                  have flq : ys.length ≤ 1000 := by rw [hlq]; exact Nat.le_trans (List.length_filter_le ..) flen
                  have pos : 0 < C * w := Nat.mul_pos C0 w0
                  have ecw : (C : Int) * (w : Int) = ((C * w : Nat) : Int) := (Int.natCast_mul ..).symm
                  have nz : (C : Int) * (w : Int) ≠ 0 := by rw [ecw]; omega
                  have lg : ((C : Int) * (w : Int)).natAbs.log2 < 9000 := by
                    rw [ecw, Int.natAbs_natCast]
                    exact Nat.lt_of_le_of_lt (Nat.log2_le_self _) (by omega)
                  have mok2 : IntMulOk (C : Int) (w : Int) := .of_right (intBits_le (by omega))
                  have EQ : decide (Int.fdiv (((css.flatten.filter fun r => decide (r.a = a)).length : Int) * 1000) ((css.length : Int) * (w : Int)) ≠ Int.fdiv ((ys.length : Int) * 1000) ((C : Int) * (w : Int))) = false := decide_eq_false fun h => h (by rw [hlq, hl2])
                  repeat' (with_reducible first
                   | k_dflt ((with_reducible show W _ _ (getMethod _ _ _) _ _ _); refine G_meth (C := 147) o' (H7.sT _ h1') (H7.sT _ h2') (by k_is) (by k_is) (by k_is) rfl ?_)
                   | k_dflt ((with_reducible show W _ _ (call (Value.ref 144) _) _ _ _); refine full_W (o'.le (by decide)) rfl rfl (H7.T.up H7.sT) (fun tf => ?_))
                   | k_dflt ((with_reducible show W _ _ (call (Value.builtin "len") _) _ _ _); refine M_len (.head _) (by omega) ?_; intro _)
                   | k_dflt ((with_reducible show W _ _ (binaryOp Operator.FloorDiv _ _) _ _ _); refine O_div nz lg ?_; intro _)
                   | ((first | (show W _ _ (eval (Expr.BinOp _ _ _ _) _) _ _ _; k_dflt (refine' E_pi ?pi fun _ => ?_)) | (show W _ _ (isTrue _ _ _) _ _ _; k_dflt (refine' T_pt ?pi ?_))); (case pi => repeat' (with_reducible first | exact PI_int | (show PI _ _ _ _ (Expr.Name _ _) _; k_dflt (first | exact PI_loc rfl | exact PI_loc (by assumption) | exact PI_glob (by first | assumption | exact Ok.toOkh (by assumption)) (by k_is))) | apply PI_mul | apply PI_div | apply PT_cmp | (show cmpI _ = true; k_dflt rfl) | (show IntMulOk _ _; first | assumption | k_dflt (exact IntMulOk.of_left (by decide)) | k_dflt (exact IntMulOk.of_right (by decide))) | (show (_ : Int) ≠ _; k_dflt (first | decide | assumption | omega)) | (show (_ : Nat) < _; k_dflt (first | decide | assumption | omega)))))
                   | (show W _ _ (eval _ _) _ _ _; first | (show W _ _ (eval (Expr.Name _ _) _) _ _ _; k_dflt (refine E_local rfl ?_)) | (show W _ _ (eval (Expr.Name _ _) _) _ _ _; k_dflt (refine E_local (by assumption) ?_)) | (show W _ _ (eval (Expr.Name _ _) _) _ _ _; k_dflt (refine E_built (by first | assumption | exact Ok.toOkh (by assumption)) (by k_is) (by boot_fast) ?_ (by decide))) | (refine E_int ?_; intro _) | refine E_binop ?_ | refine K_name ?_ | (show W _ _ (eval (Expr.Call (Expr.Attribute _ _ _) _ [] _) _) _ _ _; k_dflt (refine K_meth ?_)))
                   | (show W _ _ (spliced _) _ _ _; first | (show W _ _ (spliced (backTo _ (starEach (_ :: _) _))) _ _ _; k_dflt (refine A_cons ?_)) | refine A_nil ?_)
                   | (show W _ _ (execs _ _) _ _ _; first | refine S_cons ?_ | refine S_nil ?_)
                   | (show W _ _ (exec _ _) _ _ _; refine S_If ?_)
                   | (show W _ _ (isTrue _ _ _) _ _ _; (show W _ _ (isTrue (Expr.Compare _ [_] [_] _) _ _) _ _ _; k_dflt (refine T_cmp ?_)))
                   | (show W _ _ (binaryOp _ _ _) _ _ _; (show W _ _ (binaryOp Operator.Mult (Value.int _ _) (Value.int _ _)) _ _ _; k_dflt (refine O_mul (by first | with_reducible assumption | exact IntMulOk.of_left (by decide) | exact IntMulOk.of_right (by decide)) ?_; intro _)))
                   | (show W _ _ (compareOp _ _ _) _ _ _; refine C_ne ?_)
                   | refine truthy_bool ?_
                   | (show W _ _ (callWith _ (Value.ref _) _ (backTo _ (starEach [] _)) []) _ _ _; k_dflt (refine K_def0 (by first | assumption | exact Ok.toOkh (by assumption)) (by k_is) ?_))
                   | (show W _ _ (callWith _ (Value.builtin _) _ (backTo _ (starEach (_ :: _) _)) []) _ _ _; k_dflt (refine K_built ?_))
                   | refine seq_next ?_
                   | refine two_off (by assumption) ?_)
                  exact ⟨rfl, ⟨m1, m2, m3, m4, m5⟩, rfl, H7.sE _ (.head _), ⟨cs, a, ta, css, lT, lC, co2, m6, hco2, hl2, hbk, H7.less fun p hp => .tail _ hp⟩⟩
    case done =>
      obtain ⟨⟨q1, q2, q3, q4, q5⟩, kvs, ks, n, hK, hks, ⟨⟨cs, a, ta, css, lT, lC, co2, q8, hco2, hl2, hbk, H⟩⟩⟩ := hJ
      have klen : kvs.length ≤ 1000 := by
        have := hK.length
        split at hks <;> split at hks <;> omega
      have hkl := H.sE _ (.tail _ (.head _))
      obtain ⟨dx, qq, tc', tw', ta', sa', n', vs', h1', h2', h3', I'⟩ := H.T.ex
      have lim : ∀ rs ∈ css, rs.length ≤ 100 := fun rs h => Nat.le_trans (H.T.fit rs h).1 (by omega)
      with_reducible refine seq_next ?_
      with_reducible refine S_cons ?_
      refine S_list o kl kvs n (fun i m' l' => LM sa tb kl w C tC tw m' ∧ m' "clusters" = some (.ref cs) ∧ ∀ p ∈ l₁, p ∈ l') (fun i m' l' hJ => hJ.2.2 _ hkl) (fun c'' o'' => ?_) (fun c'' o'' i v m3 l3 hv hJ => ?_) (fun m3 l3 hJ => ?_)
      · repeat' (with_reducible (show W _ _ (eval _ _) _ _ _; (show W _ _ (eval (Expr.Name _ _) _) _ _ _; k_dflt (refine E_local (by assumption) ?_))))
        exact ⟨rfl, ⟨q1, q2, q3, q4, q5⟩, q8, fun _ h => h⟩
      · obtain ⟨⟨r1, r2, r3, r4, r5⟩, r6, up⟩ := hJ
        obtain ⟨key, tk, rfl, hkey⟩ := hK.at i v hv
        have H := H.up up
        obtain ⟨rs, hrs⟩ : ∃ rs, css[keyAt css.length key]? = some rs := ⟨_, List.getElem?_eq_getElem (keyAt_lt (by rw [hl2]; exact C0) key)⟩
        refine S_cons (S_If ?_)
        cases hask : ask rs key with
        | none =>
          have sn : (!PySem.Spec.same PyData.none PyData.none) = false := by decide
          repeat' (with_reducible first
           | k_dflt ((with_reducible show W _ _ (getMethod _ _ _) _ _ _); refine G_meth (C := 147) o'' (H.sT _ h1') (H.sT _ h2') (by k_is) (by k_is) (by k_is) rfl ?_)
           | k_dflt ((with_reducible show W _ _ (call (Value.ref 116) _) _ _ _); refine probe_W (o''.le (by decide)) rfl rfl (H.T.up H.sT) hrs (fun _ => ?_) (fun r _ e => absurd (hask.symm.trans e) nofun))
           | k_dflt ((with_reducible show W _ _ (call (Value.ref 203) _) _ _ _); refine ask_W (o''.le (by decide)) rfl rfl (H.Q.up H.sC) (by omega) (by omega) lim hrs (fun _ => ?_) (fun r e => absurd (hask.symm.trans e) nofun))
           | k_dflt ((with_reducible show W _ _ (compareOp _ _ _) _ _ _); refine C_neD o'' Rd.none Rd.none (by decide) (by decide) (by decide) ?_)
           | (((show W _ _ (isTrue _ _ _) _ _ _; k_dflt (refine' T_pt ?pi ?_))); (case pi => repeat' (with_reducible first | apply PT_cmp | (show cmpI _ = true; k_dflt rfl))))
           | (show W _ _ (eval _ _) _ _ _; first | (show W _ _ (eval (Expr.Name _ _) _) _ _ _; k_dflt (refine E_local rfl ?_)) | (show W _ _ (eval (Expr.Name _ _) _) _ _ _; k_dflt (refine E_local (by assumption) ?_)) | (show W _ _ (eval (Expr.Name _ _) _) _ _ _; k_dflt (refine E_glob (by first | assumption | exact Ok.toOkh (by assumption)) (by k_is) ?_)) | refine K_name ?_ | (show W _ _ (eval (Expr.Call (Expr.Attribute _ _ _) _ [] _) _) _ _ _; k_dflt (refine K_meth ?_)))
           | (show W _ _ (spliced _) _ _ _; first | (show W _ _ (spliced (backTo _ (starEach (_ :: _) _))) _ _ _; k_dflt (refine A_cons ?_)) | refine A_nil ?_)
           | (show W _ _ (execs _ _) _ _ _; refine S_nil ?_)
           | (show W _ _ (isTrue _ _ _) _ _ _; (show W _ _ (isTrue (Expr.Compare _ [_] [_] _) _ _) _ _ _; k_dflt (refine T_cmp ?_)))
           | refine truthy_bool ?_
           | (show W _ _ (callWith _ (Value.ref _) _ (backTo _ (starEach (_ :: _) _)) []) _ _ _; k_dflt (refine K_def (by first | assumption | exact Ok.toOkh (by assumption)) (by k_is) ?_))
           | refine seq_next ?_
           | refine turn_next ?_
           | refine two_off (by assumption) ?_)
          exact ⟨⟨r1, r2, r3, r4, r5⟩, r6, up⟩
        | some r =>
          have I4 : ∀ u1 u2 u3 u4, IntsAre [Value.int r.m u1, .int r.v u2, .int r.d u3, .int r.b u4] [r.m, r.v, r.d, r.b] := fun _ _ _ _ => .cons _ _ (.cons _ _ (.cons _ _ (.cons _ _ .nil)))
          have sm : (!PySem.Spec.same (.tuple ([r.m, r.v, r.d, r.b].map .int)) (.tuple ([r.m, r.v, r.d, r.b].map .int))) = false := by rw [same_tup, decide_eq_true rfl]; rfl
          repeat' (with_reducible first
           | k_dflt ((with_reducible show W _ _ (getMethod _ _ _) _ _ _); refine G_meth (C := 147) o'' (H.sT _ h1') (H.sT _ h2') (by k_is) (by k_is) (by k_is) rfl ?_)
           | k_dflt ((with_reducible show W _ _ (call (Value.ref 116) _) _ _ _); refine probe_W (o''.le (by decide)) rfl rfl (H.T.up H.sT) hrs (fun e => absurd (hask.symm.trans e) nofun) (fun r1 _ e D1 u1 u2 u3 u4 f1 => ?_); obtain rfl := Option.some.inj (hask.symm.trans e))
           | k_dflt ((with_reducible show W _ _ (call (Value.ref 203) _) _ _ _); refine ask_W (o''.le (by decide)) rfl rfl (H.Q.up fun p hp => .tail _ (H.sC p hp)) (by omega) (by omega) lim hrs (fun e => absurd (hask.symm.trans e) nofun) (fun r2 e D2 v1 v2 v3 v4 f2 => ?_); obtain rfl := Option.some.inj (hask.symm.trans e))
           | k_dflt ((with_reducible show W _ _ (compareOp _ _ _) _ _ _); refine C_neD o'' (Rd.tup (.tail _ (.head _)) (I4 _ _ _ _)) (Rd.tup (.head _) (I4 _ _ _ _)) (shaped_tup _) (shaped_tup _) (mix_tup _ _) ?_)
           | (((show W _ _ (isTrue _ _ _) _ _ _; k_dflt (refine' T_pt ?pi ?_))); (case pi => repeat' (with_reducible first | apply PT_cmp | (show cmpI _ = true; k_dflt rfl))))
           | (show W _ _ (eval _ _) _ _ _; first | (show W _ _ (eval (Expr.Name _ _) _) _ _ _; k_dflt (refine E_local rfl ?_)) | (show W _ _ (eval (Expr.Name _ _) _) _ _ _; k_dflt (refine E_local (by assumption) ?_)) | (show W _ _ (eval (Expr.Name _ _) _) _ _ _; k_dflt (refine E_glob (by first | assumption | exact Ok.toOkh (by assumption)) (by k_is) ?_)) | refine K_name ?_ | (show W _ _ (eval (Expr.Call (Expr.Attribute _ _ _) _ [] _) _) _ _ _; k_dflt (refine K_meth ?_)))
           | (show W _ _ (spliced _) _ _ _; first | (show W _ _ (spliced (backTo _ (starEach (_ :: _) _))) _ _ _; k_dflt (refine A_cons ?_)) | refine A_nil ?_)
           | (show W _ _ (execs _ _) _ _ _; refine S_nil ?_)
           | (show W _ _ (isTrue _ _ _) _ _ _; (show W _ _ (isTrue (Expr.Compare _ [_] [_] _) _ _) _ _ _; k_dflt (refine T_cmp ?_)))
           | refine truthy_bool ?_
           | (show W _ _ (callWith _ (Value.ref _) _ (backTo _ (starEach (_ :: _) _)) []) _ _ _; k_dflt (refine K_def (by first | assumption | exact Ok.toOkh (by assumption)) (by k_is) ?_))
           | refine seq_next ?_
           | refine turn_next ?_
           | refine two_off (by assumption) ?_)
          exact ⟨⟨r1, r2, r3, r4, r5⟩, r6, fun p hp => .tail _ (.tail _ (up p hp))⟩
      · obtain ⟨⟨r1, r2, r3, r4, r5⟩, r6, up⟩ := hJ
        have H := H.up up
        have fl := flat_small w1 H.T.fit
        have sd : decide (css.flatten.map Rw.l = css.flatten.map Rw.l) = true := decide_eq_true rfl
        have bk : ∀ r ∈ css.flatten, (Builtin.Int.intBits r.k : Int) ≤ 2000000 := fun r hr => by
          obtain ⟨q, h1, h2⟩ := List.mem_flatten.mp hr
          exact hbk q h1 r h2
        repeat' (with_reducible first
         | k_dflt ((with_reducible show W _ _ (call (Value.ref 156) _) _ _ _); refine kept_W (o.le (by decide)) rfl rfl (H.T.up H.sT) (fun D1 ds1 l5 n5 u5 p5 h5 => ?_))
         | k_dflt ((with_reducible show W _ _ (call (Value.ref 217) _) _ _ _); refine all_W (o.le (by decide)) rfl rfl (H.Q.up fun p hp => u5 p (H.sC p hp)) (by omega) (fun D2 ds2 l6 n6 u6 p6 h6 => ?_))
         | k_dflt ((with_reducible show W _ _ (compareOp _ _ _) _ _ _); refine C_eqRows o (u6 _ h5) (rowsT_up u6 p5) h6 p6 ?_)
         | k_dflt ((with_reducible show W _ _ (eval (Expr.Name (Str.ofString "age") _) _) _ _ _); refine E_cell rfl (List.mem_append_left _ (u6 _ (u5 _ (H.sE _ (.head _))))) hco2 ?_)
         | k_dflt ((with_reducible show W _ _ (call (Value.ref 222) _) _ _ _); refine other_W (o.le (by decide)) rfl rfl (u6 _ h5) (rowsT_up u6 p5) (fit_flat H.T.fit) bk (by omega) C0 C1 w0 w1 (fun l8 => ?_))
         | ((first | (show W _ _ (eval (Expr.Compare _ _ _ _) _) _ _ _; k_dflt (refine' E_pv ?pi ?_)) | (show W _ _ (eval (Expr.BoolOp _ _ _) _) _ _ _; k_dflt (refine' E_pv ?pi ?_))); (case pi => repeat' (with_reducible first | apply PV_cmp | apply PV_and | apply PV_bool1 | (show cmpI _ = true; k_dflt rfl))))
         | (show W _ _ (eval _ _) _ _ _; first | (show W _ _ (eval (Expr.Name _ _) _) _ _ _; k_dflt (refine E_local rfl ?_)) | (show W _ _ (eval (Expr.Name _ _) _) _ _ _; k_dflt (refine E_local (by assumption) ?_)) | (show W _ _ (eval (Expr.Name _ _) _) _ _ _; k_dflt (refine E_glob (by first | assumption | exact Ok.toOkh (by assumption)) (by k_is) ?_)) | (show W _ _ (eval (Expr.Compare _ [_] [_] _) _) _ _ _; k_dflt (refine E_cmp ?_)) | refine E_bool1 ?_ | refine E_and ?_ | refine K_name ?_)
         | (show W _ _ (spliced _) _ _ _; first | (show W _ _ (spliced (backTo _ (starEach (_ :: _) _))) _ _ _; k_dflt (refine A_cons ?_)) | refine A_nil ?_)
         | (show W _ _ (execs _ _) _ _ _; refine S_cons ?_)
         | (show W _ _ (exec _ _) _ _ _; first | refine S_ret ?_ | (show W _ _ (exec (Stmt.Assign [Expr.Name _ _] _ _) _) _ _ _; k_dflt (refine S_assign ?_)))
         | refine truthy_bool ?_
         | (show W _ _ (callWith _ (Value.ref _) _ (backTo _ (starEach (_ :: _) _)) []) _ _ _; k_dflt (refine K_def (by first | assumption | exact Ok.toOkh (by assumption)) (by k_is) ?_))
         | refine seq_next ?_
         | refine seq_ret ?_
         | refine two_on (by assumption) ?_)
        rfl
end Mine
end
theorem PySem.Challenge.cw_nt0418_01_holds : PySem.Challenge.rw_nt0418_01.Holds :=
  Mine.top
