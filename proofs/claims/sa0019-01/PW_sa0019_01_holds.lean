import PyProof.Rows.All
import Wide.All
import OpenK.AllK
import Wide.FinOn
import PyProof.ExcClass3
import Open.Tops
import PySem.Challenge.RW_sa0019_01
open PySem PySem.W PyProof.Rows PySem.W.X
set_option Elab.async false
set_option maxRecDepth 100000
set_option maxHeartbeats 8000000
set_option linter.all false
namespace Mine
open_shared top for PySem.Challenge.pw_sa0019_01 leaving 0
noncomputable def kf (P : Params) : Frag := (nat_lit 2, top.o_5 P) :: (nat_lit 3, top.o_181 P) :: (nat_lit 15, top.o_8 P) :: (nat_lit 18, top.o_11 P) :: (nat_lit 23, top.o_16 P) :: (nat_lit 24, top.o_17 P) :: (nat_lit 26, top.o_19 P) :: (nat_lit 27, top.o_20 P) :: (nat_lit 29, top.o_22 P) :: (nat_lit 30, top.o_23 P) :: (nat_lit 31, top.o_24 P) :: (nat_lit 33, top.o_26 P) :: (nat_lit 34, top.o_27 P) :: (nat_lit 36, top.o_29 P) :: (nat_lit 37, top.o_30 P) :: (nat_lit 38, top.o_31 P) :: (nat_lit 39, top.o_32 P) :: (nat_lit 40, top.o_56 P) :: (nat_lit 41, top.o_34 P) :: (nat_lit 44, top.o_41 P) :: (nat_lit 51, top.o_48 P) :: (nat_lit 52, top.o_49 P) :: (nat_lit 53, top.o_50 P) :: (nat_lit 56, top.o_57 P) :: (nat_lit 63, top.o_64 P) :: (nat_lit 64, top.o_65 P) :: (nat_lit 65, top.o_66 P) :: (nat_lit 68, top.o_69 P) :: (nat_lit 70, top.o_71 P) :: (nat_lit 71, top.o_72 P) :: (nat_lit 73, top.o_74 P) :: (nat_lit 74, top.o_75 P) :: (nat_lit 75, top.o_76 P) :: (nat_lit 77, top.o_78 P) :: (nat_lit 78, top.o_79 P) :: (nat_lit 80, top.o_81 P) :: (nat_lit 81, top.o_82 P) :: (nat_lit 82, top.o_83 P) :: (nat_lit 85, top.o_86 P) :: (nat_lit 86, top.o_87 P) :: (nat_lit 87, top.o_88 P) :: (nat_lit 89, top.o_90 P) :: (nat_lit 90, top.o_91 P) :: (nat_lit 92, top.o_93 P) :: (nat_lit 93, top.o_94 P) :: (nat_lit 94, top.o_95 P) :: (nat_lit 96, top.o_97 P) :: (nat_lit 97, top.o_98 P) :: (nat_lit 99, top.o_100 P) :: (nat_lit 100, top.o_101 P) :: (nat_lit 101, top.o_105 P) :: (nat_lit 103, top.o_107 P) :: (nat_lit 104, top.o_108 P) :: (nat_lit 106, top.o_110 P) :: (nat_lit 107, top.o_111 P) :: (nat_lit 108, top.o_112 P) :: (nat_lit 110, top.o_114 P) :: (nat_lit 111, top.o_115 P) :: (nat_lit 113, top.o_117 P) :: (nat_lit 114, top.o_118 P) :: (nat_lit 115, top.o_119 P) :: (nat_lit 117, top.o_121 P) :: (nat_lit 118, top.o_122 P) :: (nat_lit 120, top.o_124 P) :: (nat_lit 121, top.o_125 P) :: (nat_lit 122, top.o_126 P) :: (nat_lit 125, top.o_129 P) :: (nat_lit 126, top.o_130 P) :: (nat_lit 127, top.o_131 P) :: (nat_lit 129, top.o_133 P) :: (nat_lit 130, top.o_134 P) :: (nat_lit 132, top.o_136 P) :: (nat_lit 133, top.o_137 P) :: (nat_lit 134, top.o_138 P) :: (nat_lit 136, top.o_140 P) :: (nat_lit 137, top.o_141 P) :: (nat_lit 139, top.o_143 P) :: (nat_lit 140, top.o_144 P) :: (nat_lit 141, top.o_145 P) :: (nat_lit 144, top.o_148 P) :: (nat_lit 145, top.o_149 P) :: (nat_lit 146, top.o_150 P) :: (nat_lit 148, top.o_152 P) :: (nat_lit 149, top.o_153 P) :: (nat_lit 151, top.o_155 P) :: (nat_lit 152, top.o_156 P) :: (nat_lit 153, top.o_157 P) :: (nat_lit 155, top.o_159 P) :: (nat_lit 156, top.o_160 P) :: (nat_lit 158, top.o_162 P) :: (nat_lit 159, top.o_163 P) :: (nat_lit 160, top.o_164 P) :: (nat_lit 161, top.o_165 P) :: (nat_lit 162, top.o_166 P) :: (nat_lit 164, top.o_168 P) :: (nat_lit 165, top.o_169 P) :: (nat_lit 167, top.o_171 P) :: (nat_lit 168, top.o_172 P) :: (nat_lit 169, top.o_173 P) :: (nat_lit 171, top.o_175 P) :: (nat_lit 172, top.o_176 P) :: (nat_lit 174, top.o_178 P) :: (nat_lit 175, top.o_179 P) :: (nat_lit 176, top.o_183 P) :: (nat_lit 178, top.o_185 P) :: (nat_lit 179, top.o_186 P) :: (nat_lit 181, top.o_188 P) :: (nat_lit 182, top.o_189 P) :: (nat_lit 183, top.o_190 P) :: (nat_lit 185, top.o_192 P) :: (nat_lit 186, top.o_193 P) :: (nat_lit 188, top.o_195 P) :: (nat_lit 189, top.o_196 P) :: (nat_lit 190, top.o_197 P) :: (nat_lit 192, top.o_199 P) :: (nat_lit 193, top.o_200 P) :: (nat_lit 195, top.o_202 P) :: (nat_lit 196, top.o_203 P) :: (nat_lit 197, top.o_204 P) :: (nat_lit 199, top.o_206 P) :: (nat_lit 200, top.o_207 P) :: (nat_lit 202, top.o_209 P) :: (nat_lit 203, top.o_210 P) :: (nat_lit 204, top.o_211 P) :: (nat_lit 206, top.o_213 P) :: (nat_lit 207, top.o_214 P) :: (nat_lit 209, top.o_216 P) :: (nat_lit 210, top.o_217 P) :: (nat_lit 211, top.o_218 P) :: (nat_lit 213, top.o_220 P) :: (nat_lit 214, top.o_221 P) :: (nat_lit 216, top.o_223 P) :: (nat_lit 217, top.o_224 P) :: (nat_lit 218, top.o_225 P) :: (nat_lit 220, top.o_227 P) :: (nat_lit 221, top.o_228 P) :: (nat_lit 223, top.o_230 P) :: (nat_lit 224, top.o_231 P) :: []
noncomputable def ka : List Addr := [2, 3, 15, 18, 23, 24, 26, 27, 29, 30, 31, 33, 34, 36, 37, 38, 39, 40, 41, 44, 51, 52, 53, 56, 63, 64, 65, 68, 70, 71, 73, 74, 75, 77, 78, 80, 81, 82, 85, 86, 87, 89, 90, 92, 93, 94, 96, 97, 99, 100, 101, 103, 104, 106, 107, 108, 110, 111, 113, 114, 115, 117, 118, 120, 121, 122, 125, 126, 127, 129, 130, 132, 133, 134, 136, 137, 139, 140, 141, 144, 145, 146, 148, 149, 151, 152, 153, 155, 156, 158, 159, 160, 161, 162, 164, 165, 167, 168, 169, 171, 172, 174, 175, 176, 178, 179, 181, 182, 183, 185, 186, 188, 189, 190, 192, 193, 195, 196, 197, 199, 200, 202, 203, 204, 206, 207, 209, 210, 211, 213, 214, 216, 217, 218, 220, 221, 223, 224]
noncomputable def kh (P : Params) : Frag := ka.map fun a => (a, ((top.tree_231 P).get a).getD default)
theorem kh_kf (P : Params) : kh P = kf P := by kernel_rfl
theorem ka_kh (P : Params) : ka = (kh P).map (·.1) := by kernel_rfl
local macro_rules | `(tactic| k_head) => `(tactic| o_head (kHook kh ka ka_kh))
open_top hd for PySem.Challenge.rw_sa0019_01
end Mine
namespace Mine
theorem filled (w : World) : (kf w.params) = kf w.params ∧ PySem.Challenge.rw_sa0019_01 = PySem.Challenge.rw_sa0019_01 := by
  k_fill
  exact ⟨rfl, rfl⟩
end Mine
namespace Mine
-- B1
theorem sub_mem {l l' : List (Addr × Obj)} {p : Addr × Obj} (hs : ∀ p ∈ l, p ∈ l') (h : p ∈ l) : p ∈ l' := hs p h
theorem sub_off {l l' : List (Addr × Obj)} {p : Addr × Obj} {a : Addr} (hs : ∀ p ∈ l, p.1 ≠ a → p ∈ l') (hne : p.1 ≠ a) (h : p ∈ l) : p ∈ l' := hs p h hne
noncomputable abbrev IsTupObj (o : Obj) : Prop := ∃ its n, o = ({ cls := .type "tuple", data := .seq its n } : Obj)
theorem sub_tup {l l' : List (Addr × Obj)} {p : Addr × Obj} (hs : ∀ p ∈ l, IsTupObj p.2 → p ∈ l') (ht : IsTupObj p.2) (h : p ∈ l) : p ∈ l' := hs p h ht
theorem ne_of_lt_all {l : List (Addr × Obj)} {D B : Addr} {o : Obj} (h : ∀ p ∈ l, p.1 < D) (hm : (B, o) ∈ l) : D ≠ B := fun e => Nat.lt_irrefl _ (e ▸ h _ hm)
theorem ne_at {a b : Nat} (h : @LT.lt Nat _ a b ∨ @LT.lt Nat _ b a) : a ≠ b := h.elim Nat.ne_of_lt Nat.ne_of_gt
inductive Tm where
  | k
  | var (n : Nat)
  | lam (t : Tm)
  | app (a b : Tm)

noncomputable def varStr (n : Nat) : PySem.Str := PySem.Str.ofString "var" ++ PySem.Str.ofString (toString (n : Int))

inductive TIn (news : List (Addr × Obj)) : Value → Tm → Prop
  | k {a : Addr} {tk : Tok} {n : Nat} : (a, ({ cls := .type "tuple", data := .seq #[.str (Str.ofString "k") tk] n } : Obj)) ∈ news → TIn news (.ref a) .k
  | var {a : Addr} {tk : Tok} {n i : Nat} : (a, ({ cls := .type "tuple", data := .seq #[.str (varStr i) tk] n } : Obj)) ∈ news → TIn news (.ref a) (.var i)
  | lam {a : Addr} {tk : Tok} {n : Nat} {v : Value} {t : Tm} : (a, ({ cls := .type "tuple", data := .seq #[.str (Str.ofString "lam") tk, v] n } : Obj)) ∈ news → TIn news v t → TIn news (.ref a) (.lam t)
  | app {a : Addr} {tk : Tok} {n : Nat} {v v' : Value} {t t' : Tm} : (a, ({ cls := .type "tuple", data := .seq #[.str (Str.ofString "app") tk, v, v'] n } : Obj)) ∈ news → TIn news v t → TIn news v' t' → TIn news (.ref a) (.app t t')
theorem TIn.mono {news news' : List (Addr × Obj)} (hs : ∀ p ∈ news, p ∈ news') {v : Value} {t : Tm} (h : TIn news v t) : TIn news' v t := by
  induction h with
  | k hm => exact .k (hs _ hm)
  | var hm => exact .var (hs _ hm)
  | lam hm _ ih => exact .lam (hs _ hm) ih
  | app hm _ _ ih ih' => exact .app (hs _ hm) ih ih'

theorem TIn.isRef {news : List (Addr × Obj)} {v : Value} {t : Tm} (h : TIn news v t) : ∃ a, v = .ref a := by cases h <;> exact ⟨_, rfl⟩
theorem TIn.invK {news : List (Addr × Obj)} {a : Addr} {G : Prop} (h : TIn news (.ref a) .k) (k : ∀ tk n, (a, ({ cls := .type "tuple", data := .seq #[.str (Str.ofString "k") tk] n } : Obj)) ∈ news → G) : G := by
  cases h with | k hm => exact k _ _ hm
theorem TIn.invV {news : List (Addr × Obj)} {a : Addr} {i : Nat} {G : Prop} (h : TIn news (.ref a) (.var i)) (k : ∀ tk n, (a, ({ cls := .type "tuple", data := .seq #[.str (varStr i) tk] n } : Obj)) ∈ news → G) : G := by
  cases h with | var hm => exact k _ _ hm
theorem TIn.invL {news : List (Addr × Obj)} {a : Addr} {t : Tm} {G : Prop} (h : TIn news (.ref a) (.lam t)) (k : ∀ tk n b, (a, ({ cls := .type "tuple", data := .seq #[.str (Str.ofString "lam") tk, .ref b] n } : Obj)) ∈ news → TIn news (.ref b) t → G) : G := by
  cases h with | lam hm h1 => obtain ⟨b, rfl⟩ := h1.isRef; exact k _ _ b hm h1
theorem TIn.invA {news : List (Addr × Obj)} {a : Addr} {t t' : Tm} {G : Prop} (h : TIn news (.ref a) (.app t t')) (k : ∀ tk n b c, (a, ({ cls := .type "tuple", data := .seq #[.str (Str.ofString "app") tk, .ref b, .ref c] n } : Obj)) ∈ news → TIn news (.ref b) t → TIn news (.ref c) t' → G) : G := by
  cases h with | app hm h1 h2 => obtain ⟨b, rfl⟩ := h1.isRef; obtain ⟨c, rfl⟩ := h2.isRef; exact k _ _ b c hm h1 h2

/-- what a call of one of the text's defs does, wherever it stands: `ret` of what it hands back and of the ledger behind it; `exc`: it may raise LimitFault -/
noncomputable def Fn (w : World) (mean : ExcName → Option Value) (mg mb : PySem.Str → Option Value) (f : Addr) (nd : Nat) (vs : List Value) (news : List (Addr × Obj)) (ret : Value → List (Addr × Obj) → Prop) (exc : Prop) : Prop :=
  ∀ (dp un : Nat) (gd : Option (List Code)) (cn : PySem.Str) (cs : Scope) (a : Addr) (ccd : Value) (cl : List (PySem.Str × Addr)) (outer : List Env) (A₀ : Around) (base h₀ : Heap) (L : Addr) (m : PySem.Str → Option Value) (hp : Heap) (gs : Array GenState) (dr : Drawn) (tks : Tok) (oss : OsState) (Q E : Value → Shared → Prop),
    Below A₀ base outer h₀ → Fr h₀ L hp m → (kf w.params).In h₀ → News h₀ L hp news → Top hd.view_39 (looseW hd.view_39 []) mean mg mb h₀ → cs.kind = .function → dp + nd < 900 → un + 8 * nd < 9000 →
    (∀ r news' h' tk', Fr h₀ L h' m → News h₀ L h' news' → ret r news' → Q r ⟨h', gs, dr, tk', oss⟩) →
    (exc → ∀ e g h' tk', Fr h₀ L g m → RaisedSN base g (envX cn cs L a ccd cl :: outer) e (.ref 65) news h' → g.UpToSlots h' → E (.ref e) ⟨h', gs, dr, tk', oss⟩) →
    wpAny (model PySem.Challenge.rw_sa0019_01.prog w) (ktrTop dp un gd cn cs L a ccd cl outer) (call (.ref f) vs) Q E ⟨hp, gs, dr, tks, oss⟩

section
variable {w : World} {mean : ExcName → Option Value} {mg mb : PySem.Str → Option Value} {f : Addr} {nd : Nat} {vs : List Value} {news : List (Addr × Obj)} {ret : Value → List (Addr × Obj) → Prop} {exc : Prop}
 {dp un : Nat} {gd : Option (List Code)} {cn : PySem.Str} {cs : Scope} {a : Addr} {ccd : Value} {cl : List (PySem.Str × Addr)} {outer : List Env} {A₀ : Around} {base h₀ : Heap} {L : Addr} {m : PySem.Str → Option Value} {s : Shared} {Q E : Value → Shared → Prop}
theorem Fn.use (C : Fn w mean mg mb f nd vs news ret exc) (B : Below A₀ base outer h₀) (F : Fr h₀ L s.heap m) (X : (kf w.params).In h₀) (N : News h₀ L s.heap news) (T : Top hd.view_39 (looseW hd.view_39 []) mean mg mb h₀) (hk : cs.kind = .function) (hd : dp + nd < 900) (hu : un + 8 * nd < 9000)
    (hret : ∀ r news' h' tk', Fr h₀ L h' m → News h₀ L h' news' → ret r news' → Q r { s with heap := h', toks := tk' })
    (hexc : exc → ∀ e g h' tk', Fr h₀ L g m → RaisedSN base g (envX cn cs L a ccd cl :: outer) e (.ref 65) news h' → g.UpToSlots h' → E (.ref e) { s with heap := h', toks := tk' }) :
    wpAny (model PySem.Challenge.rw_sa0019_01.prog w) (ktrTop dp un gd cn cs L a ccd cl outer) (call (.ref f) vs) Q E s := C dp un gd cn cs a ccd cl outer A₀ base h₀ L m s.heap s.gens s.drawn s.toks s.os Q E B F X N T hk hd hu hret hexc
end

theorem roomZ {dp nd N M : Nat} (h : dp + nd < N := by assumption) (hN : Nat.ble N M = true := by exact rfl) : dp < M := Nat.lt_of_lt_of_le (Nat.lt_of_le_of_lt (Nat.le_add_right dp nd) h) (Nat.le_of_ble_eq_true hN)
theorem roomC {dp nd c N M : Nat} (h : dp + nd < N := by assumption) (hc : Nat.ble c nd = true := by exact rfl) (hN : Nat.ble N M = true := by exact rfl) : dp + c < M := Nat.lt_of_lt_of_le (Nat.lt_of_le_of_lt (Nat.add_le_add_left (Nat.le_of_ble_eq_true hc) dp) h) (Nat.le_of_ble_eq_true hN)
theorem roomA {dp nd c k N M : Nat} (h : dp + nd < N := by assumption) (hc : Nat.ble (c + k) nd = true := by exact rfl) (hN : Nat.ble N M = true := by exact rfl) : dp + c + k < M := by
  rw [Nat.add_assoc]; exact roomC h hc hN
theorem roomB {dp n j c N M : Nat} (h : dp + (n + j) < N := by assumption) (hc : Nat.ble c j = true := by exact rfl) (hN : Nat.ble N M = true := by exact rfl) : dp + c + n < M := by
  rw [Nat.add_right_comm, Nat.add_assoc dp n c]; exact roomC h (Nat.ble_eq_true_of_le (Nat.add_le_add_left (Nat.le_of_ble_eq_true hc) n)) hN
theorem roomD {dp n j c k N M : Nat} (h : dp + (n + j) < N := by assumption) (hc : Nat.ble (c + k) j = true := by exact rfl) (hN : Nat.ble N M = true := by exact rfl) : dp + c + k < M := roomA h (Nat.ble_eq_true_of_le (Nat.le_trans (Nat.le_of_ble_eq_true hc) (Nat.le_add_left j n))) hN
theorem unitD {un n j c k N M : Nat} (h : un + 8 * (n + j) < N := by assumption) (hc : Nat.ble (c + 8 * k) (8 * j) = true := by exact rfl) (hN : Nat.ble N M = true := by exact rfl) : un + c + 8 * k < M := by
  rw [Nat.mul_add] at h; exact roomD h hc hN
theorem unitB {un n j c N M : Nat} (h : un + 8 * (n + j) < N := by assumption) (hc : Nat.ble c (8 * j) = true := by exact rfl) (hN : Nat.ble N M = true := by exact rfl) : un + c + 8 * n < M := by
  rw [Nat.mul_add] at h; exact roomB h hc hN
-- what a contract tells, taken apart ahead of the goal
theorem cpsT {α : Type} {P Q : α → Prop} {S G : Prop} (k : ∀ t, P t → Q t → S → G) : (∃ t, P t ∧ Q t) ∧ S → G := fun h => h.1.elim fun t e => k t e.1 e.2 h.2
theorem cpsI {c : Tok → Value} {S : Prop} {G : Value → Prop} (k : ∀ tk, S → G (c tk)) : ∀ r, (∃ tk, r = c tk ∧ S) → G r := fun _ h => h.elim fun tk e => e.1 ▸ k tk e.2
theorem cpsE {c : Value} {S : Prop} {G : Value → Prop} (k : S → G c) : ∀ r, r = c ∧ S → G r := fun _ h => h.1 ▸ k h.2
theorem cps2 {P1 P2 G : Prop} (k : P1 → P2 → G) : P1 ∧ P2 → G := fun h => k h.1 h.2
theorem cps4 {P1 P2 P3 P4 G : Prop} (k : P1 → P2 → P3 → P4 → G) : P1 ∧ P2 ∧ P3 ∧ P4 → G := fun h => k h.1 h.2.1 h.2.2.1 h.2.2.2
theorem cpsJ {c : Int → Tok → Value} {lo hi : Int → Prop} {U O T : Prop} {G : Value → Prop} (k : ∀ j t, lo j → hi j → U → O → T → G (c j t)) : ∀ r, (∃ j t, r = c j t ∧ lo j ∧ hi j) ∧ U ∧ O ∧ T → G r := fun _ h => h.1.elim fun j e => e.elim fun t e => e.1 ▸ k j t e.2.1 e.2.2 h.2.1 h.2.2.1 h.2.2.2
theorem cpsD {P1 P2 P3 : Tm → Prop} {U O T G : Prop} (k : ∀ t, P1 t → P2 t → P3 t → U → O → T → G) : (∃ t, P1 t ∧ P2 t ∧ P3 t) ∧ U ∧ O ∧ T → G := fun h => h.1.elim fun t e => k t e.1 e.2.1 e.2.2 h.2.1 h.2.2.1 h.2.2.2
-- an entry of the ledger, through what calls have added
local macro_rules | `(tactic| tb_rel) => `(tactic| first | assumption | exact List.Mem.head _ | (refine List.Mem.tail _ ?_; tb_rel) | (refine sub_mem ‹_› ?_; tb_rel) | (refine sub_tup ‹_› ?_ ?_; (first | assumption | exact ⟨_, _, rfl⟩); tb_rel) | (refine sub_off ‹_› ?_ ?_; (first | assumption | exact ne_at (by omega) | exact ne_of_lt_all ‹_› (by tb_rel)); tb_rel))
local macro_rules | `(tactic| k_mem) => `(tactic| tb_rel)
-- the walk's room, with letters
local macro_rules | `(tactic| k_room) => `(tactic| first | exact roomZ | exact roomC | exact roomA | exact roomB | exact roomD | exact unitB | exact unitD)
local macro_rules | `(tactic| ktr_room) => `(tactic| k_room)
local macro_rules | `(tactic| k_units) => `(tactic| k_room)
local macro_rules | `(tactic| ke_room) => `(tactic| k_room)
-- a call is walked, or met by its contract: no ways are joined
local macro_rules | `(tactic| walk_at "eval Call") => `(tactic| k_dflt (refine Call_ ?_))

section
-- B1m
noncomputable def belowN : Tm → Nat
  | .lam _ => 1
  | _ => 0

theorem below_ok (w : World) (mean : ExcName → Option Value) (mg mb : PySem.Str → Option Value) (news : List (Addr × Obj)) (v : Value) (t : Tm) (hR : TIn news v t) :
    Fn w mean mg mb 121 1 [v] news (fun r news' => ∃ tk, r = .int (belowN t : Nat) tk ∧ ∀ p ∈ news, p ∈ news') False := by
  unfold Fn
  intro dp un gd cn cs a ccd cl outer A₀ base h₀ L m hp9 gs9 dr9 tks9 os9 Q E B F X N T hk hd9 hu9 hret hexc
  clear hexc
  cases hR
  all_goals (
    refine wpAny_call ?_
    k_with_none
    k_dflt ktr_enter
    k_steps
    all_goals exact hret _ _ _ _ (by k_asm) (by k_asm) ⟨_, rfl, fun _ h => h⟩)

end
section
-- B2
-- the ledger grew
-- into a def of the text whose names are closed over (cells), from any caller

noncomputable def digitB (c : Nat) : Bool := 48 ≤ c && c ≤ 57
theorem digit_in (c : Nat) (h : digitB c = true) : (!(!(Builtin.Str.occurrences (Str.ofString "0123456789") ⟨#[c]⟩ 0 (Str.ofString "0123456789").length 1).isEmpty)) = false := by
  have key : ∀ d, d < 10 → (!(!(Builtin.Str.occurrences (Str.ofString "0123456789") ⟨#[48 + d]⟩ 0 (Str.ofString "0123456789").length 1).isEmpty)) = false := by decide +kernel
  simp only [digitB, Bool.and_eq_true, decide_eq_true_eq] at h
  have e : c = 48 + (c - 48) := (Nat.add_sub_cancel' h.1).symm
  rw [e]
  exact key _ (Nat.sub_lt_left_of_lt_add h.1 (Nat.lt_succ_of_le h.2))

noncomputable abbrev signScope : Scope := { kind := .function, names := [(Str.ofString ".0", .local), (Str.ofString "sign", .local), (Str.ofString "signs", .free)], isGenerator := false, isCoroutine := false }
section
variable {prog : Program} {w : World} {A : Around} {E : Value → Shared → Prop} {s : Shared} {h₀ : Heap} {L : Addr} {m : PySem.Str → Option Value} {news : List (Addr × Obj)}
theorem row_comp {q : PySem.Str} {sc : Scope} {a c : Addr} {cd : Value} {cl : List (PySem.Str × Addr)} {o : Obj} {x : PySem.Str} {t t2 : Tok} {p1 p2 p3 p4 p5 p6 pos : Pos} {Q : Value → Shared → Prop} (hh : A.handled = none) (F : Fr h₀ L s.heap m) (N : News h₀ L s.heap news)
    (hm : (c, o) ∈ news) (hd : o.data = .cell (some (.str (Str.ofString "0123456789") t2))) (hx : m (Str.ofString "text") = some (.str x t)) (hdig : x.cps.all digitB = true) (hsz : x.length ≤ 9)
    (hk : sc.kind = .function) (hte : (envX q sc L a cd cl).kindOf (Str.ofString "text") = some .local)
    (hsg : (compEnvC signScope [(Str.ofString "signs", c)] 0 (envX q sc L a cd cl)).kindOf (Str.ofString "signs") = some .cell)
    (hclos : closureFor signScope (envX q sc L a cd cl) = pure [(Str.ofString "signs", c)])
    (h : ∀ D n h' tk, Fr h₀ L h' m → News h₀ L h' ((D, listOf #[] n) :: news) → Q (.ref D) { s with heap := h', toks := tk }) :
    wpAny (model prog w) A (eval (.ListComp (.Name (Str.ofString "sign") p1) [⟨.Name (Str.ofString "sign") p2, .Name (Str.ofString "text") p3, [.Compare (.Name (Str.ofString "sign") p4) [.NotIn] [.Name (Str.ofString "signs") p5] p6], 0⟩] signScope pos) (envX q sc L a cd cl)) Q E s := by
  refine wpAny_ListComp_free (fun _ => false) (fun _ _ => True) hclos (by decide) rfl (by decide) (by decide) ?_
  refine nameX_L F hx ?_ hk hte (by decide)
  refine wpAny_pyIter_str fun oI St W hst => ?_
  have up : ∀ (h' : Heap), (∀ b o', b ∉ [s.heap.objs.size] → (s.heap.push oI).get? b = some o' → h'.get? b = some o') → ∀ b o', s.heap.get? b = some o' → h'.get? b = some o' :=
    fun h' hk b o' e => hk b o' (old_not_new e) (Heap.get?_push_of_some _ e)
  refine ⟨s.heap.objs.size, [s.heap.objs.size], [s.heap.objs.size], x.cps.size, SignAt x, St, rfl, W A hh, ?_, hst, ?_, ⟨?_, ?_⟩, ?_⟩
  · have : x.cps.size ≤ 9 := hsz
    rw [sizeLine_eq]; omega
  · intro b hb
    show b < (s.heap.push oI).objs.size
    rw [Heap.size_push, List.mem_singleton.mp hb]
    exact Nat.lt_succ_self _
  · intro C i v s₃ m₃ E' hC hP hn hmx hk₃ _
    obtain ⟨cp, u, hcp, rfl⟩ := hP
    refine wpAny_tests_one (wpAny_isTrue_Compare1 (ldVarK hn hmx ?_ rfl rfl))
    refine wpAny_Name (wpAny_loadName_cell rfl (c := c) (v := .str (Str.ofString "0123456789") t2) ?_ rfl ⟨o, up _ hk₃ _ _ (N.get hm), hd⟩ ?_) (by decide)
    · exact hsg
    · refine PyProof.Rows.notIn_str ?_
      rw [digit_in cp (Array.all_eq_true_iff_forall_mem.mp hdig cp (Array.mem_of_getElem? hcp))]
      exact wpAny_truthy_bool ⟨rfl, s₃.heap, s₃.toks, rfl, fun _ _ e => e⟩
  · intro C i v s₃ m₃ E' _ _ hp
    cases hp
  · intro D h' tk ys vs hD hl hpl hlen hP hF hk₃
    have hy : ys = #[] := by
      have : ys.toList = [] := by
        have : vs.filter (fun _ => false) = [] := by simp
        rw [this] at hF
        cases hq : ys.toList with
        | nil => rfl
        | cons _ _ => rw [hq] at hF; cases hF
      exact Array.toList_eq_nil_iff.mp this
    subst hy
    obtain ⟨n, hn⟩ := hpl
    have keep := up h' hk₃
    have F' := F.keeps keep
    refine h D n h' tk F' (News.more F' (N.grown keep) hn (fun _ _ q => by cases q) ?_)
    cases e : h₀.get? D with
    | none => rfl
    | some o' => rw [Heap.get?_push_of_some _ (F.keep _ _ e)] at hD; cases hD
end

theorem row_ok (w : World) (mean : ExcName → Option Value) (mg mb : PySem.Str → Option Value) (news : List (Addr × Obj)) (x : PySem.Str) (tk tk2 : Tok) (hdig : x.cps.all digitB = true) (hx : x.length ≤ 9) (hne : (x != Str.ofString "") = true) :
    Fn w mean mg mb 86 1 [.str x tk, .str (Str.ofString "0123456789") tk2] news (fun r news' => r = .bool true ∧ ∀ p ∈ news, p ∈ news') False := by
  unfold Fn
  intro dp un gd cn cs a ccd cl outer A₀ base h₀ L m hp9 gs9 dr9 tks9 os9 Q E B F X N T hk hd9 hu9 hret hexc
  clear hexc
  refine wpAny_call ?_
  k_with_none
  k_dflt (refine' code_defC ?k1 ?k2 ?k3 ?k4 ?k5 ?kA ?kF ?kK ?k6 ?k7 ?k8 ?k9 ?kB ?kD ?_ ?c2 ?c3 ?c4; (case kA => exact rfl); (case kF => exact rfl); (case kK => assumption); (case k1 => k_asm); (case k2 => k_asm); (case k3 => k_asm); (case k4 => k_asm); (case k5 => k_asm); (case k6 => k_is); (case k7 => k_is); (case k8 => k_room); (case k9 => exact BindsTo.of_eq rfl); (case kB => exact rfl); (case kD => decide +kernel); (case c2 => exact rfl); (case c3 => exact rfl); (case c4 => exact rfl); k_whole; intro g' L' h' tk' cells' FG' F' N' Y' B' X' T' l1; k_cells Y'; (try simp only [List.cons_append, List.nil_append] at N'); (try dsimp only); (try k_fold))
  (k_with "eval ListComp" => k_dflt (refine' row_comp ?h1 ?h2 ?h3 ?h4 ?h5 ?h6 ?h7 ?h8 ?h9 ?h10 ?h11 ?h12 ?h13; (case h1 => exact rfl); (case h2 => k_asm); (case h3 => k_asm); (case h4 => k_mem); (case h5 => assumption); (case h6 => exact rfl); (case h7 => assumption); (case h8 => assumption); (case h9 => exact rfl); (case h10 => exact rfl); (case h11 => exact rfl); (case h12 => exact rfl); intro D' n' h' tk' F' N'))
  k_steps
  exact hret _ _ _ _ (by k_asm) (by k_asm) ⟨rfl, by (intro p9 h9; tb_rel)⟩

end
section
-- B3
noncomputable def okIx (n : Nat) : Prop := n = 0 ∨ n = 1 ∨ n = 2 ∨ n = 3 ∨ n = 999999996 ∨ n = 999999997 ∨ n = 999999998 ∨ n = 999999999
noncomputable def idxT : Tm → Int
  | .var n => n
  | _ => -1
noncomputable def okTop : Tm → Prop
  | .var n => okIx n
  | _ => True
noncomputable def figs (n : Nat) : PySem.Str := PySem.Str.ofString (toString (n : Int))
/-- what the walk asks of the figures r behind 'var' -/
noncomputable def figB (n : Nat) (r : PySem.Str) : Bool := r.cps.all digitB && decide (r.length ≤ 9) && (r != Str.ofString "") && decide ((Txt.item r 0 == Str.ofString "0") = true → (r != Str.ofString "0") = false)
  && decide (Txt.slice (Str.ofString "var" ++ r) none (some ((3 : Nat) : Int)) = Str.ofString "var") && decide (Txt.slice (Str.ofString "var" ++ r) (some ((3 : Nat) : Int)) none = r) && decide (PySem.intText? r = some (n : Int)) && decide ((Str.ofString "var" ++ r == Str.ofString "k") = false)
theorem figB_ok {n : Nat} (h : okIx n) : figB n (figs n) = true := by
  rcases h with rfl | rfl | rfl | rfl | rfl | rfl | rfl | rfl <;> decide +kernel
structure Fig (n : Nat) (r : PySem.Str) : Prop where
  dig : r.cps.all digitB = true
  len : r.length ≤ 9
  ne : (r != Str.ofString "") = true
  zero : (Txt.item r 0 == Str.ofString "0") = true → (r != Str.ofString "0") = false
  lo : Txt.slice (Str.ofString "var" ++ r) none (some ((3 : Nat) : Int)) = Str.ofString "var"
  hi : Txt.slice (Str.ofString "var" ++ r) (some ((3 : Nat) : Int)) none = r
  val : PySem.intText? r = some (n : Int)
  nk : (Str.ofString "var" ++ r == Str.ofString "k") = false
theorem fig_is {n : Nat} (h : okIx n) : Fig n (figs n) := by
  have e := figB_ok h
  simp only [figB, Bool.and_eq_true, decide_eq_true_eq] at e
  obtain ⟨⟨⟨⟨⟨⟨⟨a, b⟩, c⟩, d⟩, e⟩, f⟩, g⟩, h⟩ := e
  exact ⟨a, b, c, d, e, f, g, h⟩
theorem behind_ok (w : World) (mean : ExcName → Option Value) (mg mb : PySem.Str → Option Value) (news : List (Addr × Obj)) (n : Nat) (r : PySem.Str) (K : Fig n r) (tk tk2 : Tok) :
    Fn w mean mg mb 93 3 [.str (Str.ofString "var" ++ r) tk, .str (Str.ofString "var") tk2] news (fun v news' => ∃ tk, v = .str r tk ∧ ∀ p ∈ news, p ∈ news') False := by
  unfold Fn
  intro dp un gd cn cs a ccd cl outer A₀ base h₀ L m hp9 gs9 dr9 tks9 os9 Q E B F X N T hk hd9 hu9 hret hexc
  clear hexc
  have hx := K.len
  have hne := K.ne
  refine wpAny_call ?_
  k_with_none
  k_dflt ktr_enter
  (k_with "call ref" => k_dflt ((refine' Fn.use (row_ok _ _ _ _ _ _ _ _ K.dig K.len K.ne) (by k_asm) (by k_asm) (by k_asm) (by k_asm) (by k_asm) (by first | exact rfl | assumption) (by k_room) (by k_room) ?_ ?_; all_goals (try exact False.elim)); intro r9 news9 h9 tk9 F' N'; revert r9; refine cpsE ?_; intro s9))
  (k_with "compareOp NotEq str str" => rw [K.lo])
  (k_with "storeName" => rw [K.hi])
  (k_with "truthy bool" => rw [K.zero (by assumption)])
  k_steps
  all_goals exact hret _ _ _ _ (by k_asm) (by k_asm) ⟨_, rfl, by (intro p9 h9; tb_rel)⟩
theorem number_ok (w : World) (mean : ExcName → Option Value) (mg mb : PySem.Str → Option Value) (news : List (Addr × Obj)) (n : Nat) (r : PySem.Str) (K : Fig n r) (tk : Tok) :
    Fn w mean mg mb 100 2 [.str r tk] news (fun v news' => ∃ tk, v = .int n tk ∧ ∀ p ∈ news, p ∈ news') False := by
  unfold Fn
  intro dp un gd cn cs a ccd cl outer A₀ base h₀ L m hp9 gs9 dr9 tks9 os9 Q E B F X N T hk hd9 hu9 hret hexc
  clear hexc
  have hx := K.len
  have hne := K.ne
  refine wpAny_call ?_
  k_with_none
  k_dflt ktr_enter
  have hv := K.val
  (k_with "call type:int" => k_dflt (refine KIN.call_text (n := (n : Int)) (by assumption) (by omega) ?_))
  k_steps
  exact hret _ _ _ _ (by k_asm) (by k_asm) ⟨_, rfl, by (intro p9 h9; tb_rel)⟩
theorem behind_k (w : World) (mean : ExcName → Option Value) (mg mb : PySem.Str → Option Value) (news : List (Addr × Obj)) (tk tk2 : Tok) :
    Fn w mean mg mb 93 3 [.str (Str.ofString "k") tk, .str (Str.ofString "var") tk2] news (fun v news' => ∃ tk, v = .str (Str.ofString "") tk ∧ ∀ p ∈ news, p ∈ news') False := by
  unfold Fn
  intro dp un gd cn cs a ccd cl outer A₀ base h₀ L m hp9 gs9 dr9 tks9 os9 Q E B F X N T hk hd9 hu9 hret hexc
  clear hexc
  refine wpAny_call ?_
  k_with_none
  k_dflt ktr_enter
  k_steps
  all_goals exact hret _ _ _ _ (by k_asm) (by k_asm) ⟨_, rfl, by (intro p9 h9; tb_rel)⟩
theorem index_var (w : World) (mean : ExcName → Option Value) (mg mb : PySem.Str → Option Value) (news : List (Addr × Obj)) (v : Value) (n : Nat) (hR : TIn news v (.var n)) (K : Fig n (figs n)) :
    Fn w mean mg mb 107 4 [v] news (fun r news' => ∃ tk, r = .int (idxT (.var n)) tk ∧ ∀ p ∈ news, p ∈ news') False := by
  obtain ⟨a0, rfl⟩ := hR.isRef
  refine hR.invV fun tk0 n0 hm => ?_
  unfold Fn
  intro dp un gd cn cs a ccd cl outer A₀ base h₀ L m hp9 gs9 dr9 tks9 os9 Q E B F X N T hk hd9 hu9 hret hexc
  clear hexc
  have hne := K.ne
  have hx := K.len
  refine wpAny_call ?_
  k_with_none
  k_dflt ktr_enter
  (k_with "call ref" => k_dflt ((refine' Fn.use (behind_ok _ _ _ _ _ n (figs n) K _ _) (by k_asm) (by k_asm) (by k_asm) (by k_asm) (by k_asm) (by first | exact rfl | assumption) (by k_room) (by k_room) ?_ ?_; all_goals (try exact False.elim)); intro r9 news9 h9 tk9 F' N'; revert r9; refine cpsI ?_; intro tk9 s9))
  (k_with "call ref" => k_dflt ((refine' Fn.use (number_ok _ _ _ _ _ n (figs n) K _) (by k_asm) (by k_asm) (by k_asm) (by k_asm) (by k_asm) (by first | exact rfl | assumption) (by k_room) (by k_room) ?_ ?_; all_goals (try exact False.elim)); intro r9 news9 h9 tk9 F' N'; revert r9; refine cpsI ?_; intro tk9 s9))
  have hn0 : (figs n == Str.ofString "") = false := by simpa [bne] using hne
  (k_with "truthy bool" => rw [hn0])
  k_steps
  exact hret _ _ _ _ (by k_asm) (by k_asm) ⟨_, rfl, by (intro p9 h9; tb_rel)⟩
theorem index_ok (w : World) (mean : ExcName → Option Value) (mg mb : PySem.Str → Option Value) (news : List (Addr × Obj)) (v : Value) (t : Tm) (hR : TIn news v t) (ho : okTop t) :
    Fn w mean mg mb 107 4 [v] news (fun r news' => ∃ tk, r = .int (idxT t) tk ∧ ∀ p ∈ news, p ∈ news') False := by
  obtain ⟨a0, rfl⟩ := hR.isRef
  cases t
  case var n => exact index_var w mean mg mb news _ n hR (fig_is ho)
  case k =>
    refine hR.invK fun tk0 n0 hm => ?_
    unfold Fn
    intro dp un gd cn cs a ccd cl outer A₀ base h₀ L m hp9 gs9 dr9 tks9 os9 Q E B F X N T hk hd9 hu9 hret hexc
    clear hexc
    refine wpAny_call ?_
    k_with_none
    k_dflt ktr_enter
    (k_with "call ref" => k_dflt ((refine' Fn.use (behind_k _ _ _ _ _ _ _) (by k_asm) (by k_asm) (by k_asm) (by k_asm) (by k_asm) (by first | exact rfl | assumption) (by k_room) (by k_room) ?_ ?_; all_goals (try exact False.elim)); intro r9 news9 h9 tk9 F' N'; revert r9; refine cpsI ?_; intro tk9 s9))
    k_steps
    exact hret _ _ _ _ (by k_asm) (by k_asm) ⟨_, rfl, by (intro p9 h9; tb_rel)⟩
  case lam b =>
    refine hR.invL fun tk0 n0 b0 hm _ => ?_
    unfold Fn
    intro dp un gd cn cs a ccd cl outer A₀ base h₀ L m hp9 gs9 dr9 tks9 os9 Q E B F X N T hk hd9 hu9 hret hexc
    clear hexc
    refine wpAny_call ?_
    k_with_none
    k_dflt ktr_enter
    k_steps
    exact hret _ _ _ _ (by k_asm) (by k_asm) ⟨_, rfl, by (intro p9 h9; tb_rel)⟩
  case app b c =>
    refine hR.invA fun tk0 n0 b0 c0 hm _ _ => ?_
    unfold Fn
    intro dp un gd cn cs a ccd cl outer A₀ base h₀ L m hp9 gs9 dr9 tks9 os9 Q E B F X N T hk hd9 hu9 hret hexc
    clear hexc
    refine wpAny_call ?_
    k_with_none
    k_dflt ktr_enter
    k_steps
    exact hret _ _ _ _ (by k_asm) (by k_asm) ⟨_, rfl, by (intro p9 h9; tb_rel)⟩

end
section
-- B4
theorem variable_ok (w : World) (mean : ExcName → Option Value) (mg mb : PySem.Str → Option Value) (news : List (Addr × Obj)) (i : Int) (tk : Tok) (h0 : ¬ i < 0) (h1 : ¬ 999999999 < i) :
    Fn w mean mg mb 114 2 [.int i tk] news (fun r news' => TIn news' r (.var i.toNat) ∧ ∀ p ∈ news, p ∈ news') False := by
  unfold Fn
  intro dp un gd cn cs a ccd cl outer A₀ base h₀ L m hp9 gs9 dr9 tks9 os9 Q E B F X N T hk hd9 hu9 hret hexc
  clear hexc
  obtain ⟨n, rfl⟩ : ∃ n : Nat, i = (n : Int) := ⟨i.toNat, by omega⟩
  refine wpAny_call ?_
  k_with_none
  k_dflt ktr_enter
  k_steps
  refine hret _ _ _ _ (by k_asm) (by k_asm) ⟨TIn.var (tk := ?_) (n := ?_) ?_, by (intro p9 h9; tb_rel)⟩
  rotate_left 2
  · exact List.mem_cons_self

end
section
-- E1
/-- a new exception of the class stands at e, all else as it stood -/
structure NewE (h h' : Heap) (e : Addr) (cls : Value) : Prop where
  keeps : ∀ b o, h.get? b = some o → h'.get? b = some o
  new : h.get? e = none
  there : ∃ ob t, h'.get? e = some ob ∧ ob.cls = cls ∧ ob.data = .fields #[.ref t, .none, .none, .none, .bool false, .none]

theorem frames_cons {env : Env} {outer : List Env} {L b : Addr} (hf : env.frame = some L) (hm : b ∈ (env :: outer).filterMap (·.frame)) : b = L ∨ b ∈ outer.filterMap (·.frame) := by
  obtain ⟨x, hx, hb⟩ := List.mem_filterMap.mp hm
  cases hx with
  | head => exact .inl (Option.some.inj (hf.symm.trans hb)).symm
  | tail _ hx => exact .inr (List.mem_filterMap.mpr ⟨x, hx, hb⟩)

/-- the exception has been noted by a comprehension, and goes on -/
noncomputable def HeldSN (base G : Heap) (l : List Env) (e : Addr) (cls : Value) (news : List (Addr × Obj)) (h : Heap) : Prop :=
  ∃ B a0 fl, base.StaysIn B ∧ (∀ b o, G.get? b = some o → b ∉ l.filterMap (·.frame) → B.get? b = some o) ∧ (∀ q ∈ news, B.get? q.1 = some q.2 ∧ G.get? q.1 = none ∧ base.get? q.1 = none) ∧ B.StaysIn h ∧ B.get? e = none ∧ h.FunFrames B l ∧ h.TracedAtW B e cls a0 fl

theorem raised_sub {base G : Heap} {l : List Env} {e : Addr} {cls : Value} {news news' : List (Addr × Obj)} {h : Heap} (hs : ∀ p ∈ news', p ∈ news) (R : RaisedSN base G l e cls news h) : RaisedSN base G l e cls news' h := by
  obtain ⟨B, a0, h1, h2, h3, h4⟩ := R
  exact ⟨B, a0, h1, h2, fun q hq => h3 q (hs q hq), h4⟩

section
variable {M : Model} {A : Around} {E : Value → Shared → Prop} {s' : Shared} {base g g₂ h : Heap} {env : Env} {outer : List Env} {L e : Addr} {m : PySem.Str → Option Value} {Q : Unit → Shared → Prop} {news : List (Addr × Obj)} {cls : Value}
theorem leave_newE (K : Below A base outer g) (hx : NewE h s'.heap e cls) (F : Fr g L h m) (N : News g L h news) (hf : env.frame = some L) (hk : env.scope.kind = .function)
    (hQ : ∀ h', RaisedSN base g outer e cls news h' → g.UpToSlots h' → Q () { s' with heap := h' }) : wpAny M (A.deeper env) («leaving» env (.ref e)) Q E s' := by
  have K' := pushX K F hf hk
  obtain ⟨ob, t, he, hcls, hd⟩ := hx.there
  have notFrame : ∀ b, (∃ o, h.get? b = some o ∧ base.get? b ≠ none) → b ∉ (env :: outer).filterMap (·.frame) := fun b ⟨o, _, hb⟩ hm => hb (K'.frames.mem hm).1
  have st : base.StaysIn (hideAll h ((env :: outer).filterMap (·.frame))) := fun b o q =>
    hideAll_get _ (K'.stays b o q) (notFrame b ⟨o, K'.stays b o q, by rw [q]; simp⟩)
  have gL : g.get? L = none := kts_self F
  have sg : ∀ b o, g.get? b = some o → b ∉ outer.filterMap (·.frame) → (hideAll h ((env :: outer).filterMap (·.frame))).get? b = some o := fun b o q nm => hideAll_get _ (F.keep b o q) fun hm => by
    rcases frames_cons hf hm with z | z
    · rw [z, gL] at q; cases q
    · exact nm z
  have hl : ∀ q ∈ news, (hideAll h ((env :: outer).filterMap (·.frame))).get? q.1 = some q.2 ∧ g.get? q.1 = none ∧ base.get? q.1 = none := fun q hq => by
    refine ⟨hideAll_get _ (N q hq).1 fun hm => ?_, (N q hq).2.2, fresh_of_stays K.stays (N q hq).2.2⟩
    rcases frames_cons hf hm with z | z
    · exact (N q hq).2.1 z
    · obtain ⟨o, ho, _⟩ := (K.frames.mem z).2
      rw [(N q hq).2.2] at ho; cases ho
  have hin : ∀ env' ∈ (env :: outer), ∀ b, env'.frame = some b → b ∈ (env :: outer).filterMap (·.frame) := fun env' he b hb => List.mem_filterMap.mpr ⟨env', he, hb⟩
  have hen : (hideAll h ((env :: outer).filterMap (·.frame))).get? e = none := by
    cases q : (hideAll h ((env :: outer).filterMap (·.frame))).get? e with
    | none => rfl
    | some o => have := of_hideAll _ q; rw [hx.new] at this; cases this
  refine wpAny_leaving_firstW (a0 := .ref t) K'.stack ((funFrames_hide K'.frames hin).of_keeps fun b o hb _ => ⟨o, hx.keeps b o hb, rfl⟩) hf he (fun b o hb => hx.keeps b o (of_hideAll _ hb)) hen hd rfl rfl fun h' hL => ?_
  obtain ⟨k1, ⟨_, _, k2⟩, k3, k4⟩ := hL
  exact hQ h' ⟨_, .ref t, st, sg, hl, k1, hen, k2, by rw [← hcls]; exact k3⟩ (((Heap.UpToSlots.of_keeps F.keep).trans (Heap.UpToSlots.of_keeps hx.keeps)).trans k4)

theorem leave_onE (F : Fr g L g₂ m) (hstack : (A.deeper env).frames = some (env :: outer)) (R : RaisedSN base g₂ (env :: outer) e cls news s'.heap) (hsm : g₂.UpToSlots s'.heap) (hf : env.frame = some L)
    (hQ : ∀ h', RaisedSN base g outer e cls news h' → g.UpToSlots h' → Q () { s' with heap := h' }) : wpAny M (A.deeper env) («leaving» env (.ref e)) Q E s' := by
  obtain ⟨B, a0, hB, hBG, hl, hfl⟩ := R
  refine wpAny_leaves_onW hstack hf hfl fun h' x1 x2 => hQ h' ⟨B, a0, hB, fun b o q nm => hBG b o (F.keep b o q) fun hm => ?_, fun q hq => ⟨(hl q hq).1, kts_none F.keep (hl q hq).2.1, (hl q hq).2.2⟩, x1⟩ ((Heap.UpToSlots.of_keeps F.keep).trans (hsm.trans x2))
  rcases frames_cons hf hm with z | z
  · rw [z, kts_self F] at q; cases q
  · exact nm z

theorem leave_heldE (F : Fr g L g₂ m) (hfr : A.frames = some (env :: outer)) (R : HeldSN base g₂ (env :: outer) e cls news s'.heap) (hsm : g₂.UpToSlots s'.heap) (hf : env.frame = some L)
    (hQ : ∀ h', RaisedSN base g outer e cls news h' → g.UpToSlots h' → Q () { s' with heap := h' }) : wpAny M A («leaving» env (.ref e)) Q E s' := by
  obtain ⟨B, a0, fl, hB, hBG, hl, b1, b2, b3, ht⟩ := R
  have fin : ∀ h', B.StaysIn h' → h'.FunFrames B (env :: outer) → h'.TracedW B e cls a0 → s'.heap.UpToSlots h' → Q () { s' with heap := h' } := fun h' k1 k2 k3 k4 => by
    refine hQ h' ⟨B, a0, hB, fun b o q nm => hBG b o (F.keep b o q) fun hm => ?_, fun q hq => ⟨(hl q hq).1, kts_none F.keep (hl q hq).2.1, (hl q hq).2.2⟩, k1, b2, k2.2.2, k3⟩ ((Heap.UpToSlots.of_keeps F.keep).trans (hsm.trans k4))
    rcases frames_cons hf hm with z | z
    · rw [z, kts_self F] at q; cases q
    · exact nm z
  unfold «leaving»
  by_cases hfl : (fl == rawInt L) = true
  · have hfl' : fl = rawInt L := by simpa using hfl
    subst hfl'
    refine wpAny_bind (wpAny_noteFrame_againW hf ht ?_)
    exact wpAny_setFlight_noneW b1 b3 ht fun h' k1 k2 k3 k4 => fin h' k1 k2 k3 fun b o hb hn => ⟨o.slots, k4 b o hb hn⟩
  · obtain ⟨oe, vs, T, oT, ts, he, ⟨hcls, h0⟩, hd, h1, hnT, hTe, hT, hdT, h3⟩ := ht
    subst hcls
    unfold noteFrame
    simp only [hf]
    refine wpAny_bind (wpAny_bind (wpAny_field he hd h1 ?_))
    rw [if_pos (show (Value.ref T != Value.none) = true from by simp)]
    refine wpAny_bind (wpAny_field hT hdT h3 ?_)
    rw [if_neg hfl]
    refine wpAny_bind (wpAny_setField hT hdT (Array.getElem?_eq_some_iff.mp h3).1 ?_)
    have other : ∀ b, b ≠ T → (s'.heap.update T (Obj.mapFields (·.setIfInBounds 3 Value.none))).get? b = s'.heap.get? b := fun b hb => Heap.get?_update_other _ _ (Ne.symm hb)
    have noRecord : ∀ b o, s'.heap.get? b = some o → (∀ vs, o.data ≠ .fields vs) → b ≠ T := fun b o hb hnf q => by
      rw [q, hT] at hb; injection hb with hb; subst hb; exact hnf ts hdT
    refine wpAny_newEntryW hfr (b3.of_keeps fun b o hb hnf => ⟨o, (other b (noRecord b o hb hnf)).trans hb, rfl⟩) hf ((other e (Ne.symm hTe)).trans he)
      (fun b o hbo => (other b fun q => by rw [q, hnT] at hbo; cases hbo).trans (b1 b o hbo)) b2 hd (Array.getElem?_eq_some_iff.mp h1).1 h0
      fun h' ⟨x1, x2, x3, x4⟩ => fin h' x1 x2 x3 fun b o hb hnf => x4 b o ((other b (noRecord b o hb hnf)).trans hb) hnf

theorem noteFrame_frame {env' : Env} (x : Value) (h : env'.frame = env.frame) : noteFrame x env' = noteFrame x env := by
  unfold noteFrame PySem.frameOf
  rw [h]

theorem note_comp {cenv : Env} (hc : cenv.frame = env.frame) (hfr : A.frames = some (env :: outer)) (hf : env.frame = some L) (R : RaisedSN base g₂ (env :: outer) e cls news s'.heap) (hsm : g₂.UpToSlots s'.heap)
    (hQ : ∀ h', HeldSN base g₂ (env :: outer) e cls news h' → g₂.UpToSlots h' → Q () { s' with heap := h' }) : wpAny M A (noteFrame (.ref e) cenv) Q E s' := by
  rw [noteFrame_frame _ hc]
  obtain ⟨B, a0, hB, hBG, hl, hfl⟩ := R
  exact wpAny_looks_onW hfr hf hfl fun h' x1 x2 => hQ h' ⟨B, a0, _, hB, hBG, hl, x1⟩ (hsm.trans x2)

theorem held_but {l : List Env} {C : Addr} {oC : Obj} {h h' : Heap} {news' : List (Addr × Obj)} (R : HeldSN base g₂ l e cls news h) (hC : (C, oC) ∈ news) (hs : Heap.SameBut C h h') (hsub : ∀ p ∈ news', p ∈ news) (hoff : ∀ p ∈ news', p.1 ≠ C)
    : HeldSN base g₂ l e cls news' h' := by
  obtain ⟨B, a0, fl, hB, hBG, hl, h1, h2, h3, oe, vs, T, oT, ts, t1, t2, t3, t4, t5, t6, t7, t8, t9⟩ := R
  obtain ⟨c1, c2, c3⟩ := hl _ hC
  have eC : e ≠ C := fun q => by
    have c1' : B.get? C = some oC := c1
    rw [← q, h2] at c1'; cases c1'
  have tC : T ≠ C := fun q => by
    have c1' : B.get? C = some oC := c1
    rw [← q, t5] at c1'; cases c1'
  refine ⟨hideAll B [C], a0, fl, fun b o q => hideAll_get _ (hB b o q) fun hm => ?_, fun b o q nm => hideAll_get _ (hBG b o q nm) fun hm => ?_, fun q hq => ⟨hideAll_get _ (hl q (hsub q hq)).1 fun hm => hoff q hq (List.mem_singleton.mp hm), (hl q (hsub q hq)).2⟩, fun b o q => ?_, ?_, ?_, oe, vs, T, oT, ts, ?_, t2, t3, t4, ?_, t6, ?_, t8, t9⟩
  · rw [List.mem_singleton.mp hm] at q
    have c3' : base.get? C = none := c3
    rw [c3'] at q; cases q
  · rw [List.mem_singleton.mp hm] at q
    have c2' : g₂.get? C = none := c2
    rw [c2'] at q; cases q
  · have hbC : b ≠ C := fun z => by rw [z, hideAll_none [C] (List.mem_singleton.mpr rfl)] at q; cases q
    exact (hs.2 b hbC).trans (h1 b o (of_hideAll _ q))
  · cases q : (hideAll B [C]).get? e with
    | none => rfl
    | some o => have := of_hideAll _ q; rw [h2] at this; cases this
  · have : ∀ {l : List Env}, h.FunFrames B l → h'.FunFrames (hideAll B [C]) l := by
      intro l
      induction l with
      | nil => intro _; trivial
      | cons x r ih =>
        rintro ⟨hk, ⟨L', o, hf', hn, ho, hd'⟩, hr⟩
        refine ⟨hk, ⟨L', o, hf', ?_, ?_, hd'⟩, ih hr⟩
        · cases q : (hideAll B [C]).get? L' with
          | none => rfl
          | some o => have := of_hideAll _ q; rw [hn] at this; cases this
        · have : L' ≠ C := fun z => by
            have c1' : B.get? C = some oC := c1
            rw [← z, hn] at c1'; cases c1'
          exact (hs.2 L' this).trans ho
    exact this h3
  · exact (hs.2 e eC).trans t1
  · cases q : (hideAll B [C]).get? T with
    | none => rfl
    | some o => have := of_hideAll _ q; rw [t5] at this; cases this
  · exact (hs.2 T tC).trans t7

theorem held_passOn {cenv : Env} {what : String} {E' : Value → Shared → Prop} {R : Value → Shared → Prop} {l : List Env} (H : HeldSN base g₂ l e cls news s'.heap) (hsm : g₂.UpToSlots s'.heap)
    (hE : ∀ h', HeldSN base g₂ l e cls news h' → g₂.UpToSlots h' → E' (.ref e) { s' with heap := h' }) : wpAny M A (PySem.passOn what (.ref e) cenv : Sem Value) R E' s' := by
  obtain ⟨B, a0, fl, hB, hBG, hl, h1, h2, h3, oe, vs, T, oT, ts, t1, t2, t3, t4, t5, t6, t7, t8, t9⟩ := H
  have hsz3 : 3 < ts.size := (Array.getElem?_eq_some_iff.mp t9).1
  unfold PySem.passOn
  refine wpAny_bind (wpAny_field t1 t3 t4 ?_)
  rw [if_neg (show ¬ ((Value.ref T == Value.none) = true) from by simp)]
  refine wpAny_bind ?_
  unfold setFlight
  refine wpAny_bind (wpAny_field t1 t3 t4 ?_)
  rw [if_pos (show (Value.ref T != Value.none) = true from by simp)]
  refine wpAny_setField t7 t8 hsz3 (wpAny_throw ?_)
  have other : ∀ b, b ≠ T → (s'.heap.update T (Obj.mapFields (·.setIfInBounds 3 (cenv.frame.elim Value.none fun f => rawInt f)))).get? b = s'.heap.get? b :=
    fun b hb => Heap.get?_update_other _ _ (Ne.symm hb)
  refine hE _ ⟨B, a0, cenv.frame.elim Value.none fun f => rawInt f, hB, hBG, hl, fun b o q => (other b fun z => by rw [z, t5] at q; cases q).trans (h1 b o q), h2, h3.of_keeps fun b o hb hnf => ⟨o, (other b fun z => ?_).trans hb, rfl⟩, oe, vs, T, _, _, (other e (Ne.symm t6)).trans t1, t2, t3, t4, t5, t6, Heap.get?_update_self _ t7 (Obj.isFreed_of_fields (Obj.data_mapFields t8 _)), Obj.data_mapFields t8 _, by simp [hsz3]⟩ ?_
  · rw [z, t7] at hb; injection hb with hb; subst hb; exact hnf ts t8
  · refine hsm.trans fun b o hb hnf => ⟨o.slots, (other b fun z => ?_).trans hb⟩
    rw [z, t7] at hb; injection hb with hb; subst hb; exact hnf ts t8
end
theorem slots_but {g h h' : Heap} {C : Addr} (U : g.UpToSlots h) (hs : Heap.SameBut C h h') (hC : g.get? C = none) : g.UpToSlots h' := fun b o e hn => by
  obtain ⟨sl, q⟩ := U b o e hn
  exact ⟨sl, (hs.2 b fun z => by rw [z, hC] at e; cases e).trans q⟩

end
section
-- C3
noncomputable abbrev limTail : List Value := [.ref 40, .type "Exception", .type "BaseException", .type "object"]
section
variable {w : World} {A : Around} {E : Value → Shared → Prop} {h : Heap} {g : Array GenState} {d : Drawn} {t : Nat} {os : OsState} {rest : List Value} {x : Value}
theorem lf_clsE {G : Prop} (X : (kf w.params).In h) (k : ∀ nm q bs hdct sn sub ab col dd k0 k1 k2 k3 k5, h.get? 65 = some (excClassObj nm q 65 64 bs limTail hdct sn sub ab col dd k0 k1 k2 k3 k5 "Exception.__new__") → G) : G :=
  k _ _ _ _ _ _ _ _ _ _ _ _ _ _ (X 65 _ rfl)
theorem lf_check_new (X : (kf w.params).In h) {M : Model} {Q : Unit → Shared → Prop} (hq : Q () ⟨h, g, d, t, os⟩) : wpAny M A (checkBuiltinCall "Exception.__new__" ⟨.ref 65 :: rest, []⟩) Q E ⟨h, g, d, t, os⟩ := by
  refine lf_clsE X fun nm q bs hdct sn sub ab col dd k0 k1 k2 k3 k5 hC => ?_
  have F := PySem.F.excBase_Exception
  have hcont : (Value.ref 65 :: limTail).contains (.type "Exception") = true := by decide +kernel
  have hstar := F.noStar
  simp only [checkBuiltinCall, F.newKind, F.newSplit, F.newRow]
  repeat (first | refine wpAny_loadPart_at hC ?_ | (refine wpAny_isSubtype_exc hC ?_; rw [hcont]) | refine wpAny_staticBase_exc hC ?_ | refine wpAny_madeBy_exc hC ?_ | simp only [bne_self_eq_false, Bool.false_eq_true, if_false] | wp_step)
  exact hq
theorem lf_new (X : (kf w.params).In h) {R : Result → Shared → Prop}
    (hq : R (.ok (.ret (.ref (h.objs.size + 1)))) ⟨(h.push { cls := .type "tuple", data := .seq #[x] }).push { cls := .ref 65, data := .fields #[.ref h.objs.size, .none, .none, .none, .bool false, .none] }, g, d, t, os⟩) :
    codeAny (model PySem.Challenge.rw_sa0019_01.prog w) A (.builtin "Exception.__new__" ⟨[.ref 65, x], []⟩) R ⟨h, g, d, t, os⟩ := by
  refine lf_clsE X fun nm q bs hdct sn sub ab col dd k0 k1 k2 k3 k5 hC => ?_
  have F := PySem.F.excBase_Exception
  have hends := F.ends
  have hcB : (Value.ref 65 :: limTail).contains (.type "Exception") = true := by decide +kernel
  have hcA : (Value.ref 65 :: limTail).contains (.type "AttributeError") = false := by decide +kernel
  have hcN : (Value.ref 65 :: limTail).contains (.type "NameError") = false := by decide +kernel
  refine codeAny_builtinAt F.entry ?_
  unfold Builtin.«BaseException.__new__»
  refine PySem.wpAt_bind ?_
  show PySem.wpAt _ _ _ (stack >>= _) _ _ _
  refine PySem.wpAt_bind (PySem.wpAt_stack fun p below => PySem.wpAt_of_wpAny ?_)
  wp_walk
  refine PySem.wpAt_of_wpAny ?_
  rw [F.owner]
  repeat (first | with_reducible refine wpAny_madeHere_exc F.canon hC ?_ | with_reducible refine wpAny_loadPart_at hC ?_ | (with_reducible refine wpAny_isSubtype_exc hC ?_; first | rw [hcB] | rw [hcA] | rw [hcN]) | wp_step)
  show R _ _
  rw [Heap.size_push]
  exact hq
end
theorem wpAny_wider {α : Type} {M : Model} {A A' : Around} {t : Sem α} {Q : α → Shared → Prop} {E : Value → Shared → Prop} {s : Shared} (h : wpAny M A' t Q E s) (hh : A'.handled = A.handled) (hd : A.depth ≤ A'.depth) (hf : A'.frames = none) (hg : A'.guards = none) (hu : A.units ≤ A'.units) : wpAny M A t Q E s :=
  fun Γ p hΓ => h Γ p ⟨hΓ.1.trans hh.symm, Nat.le_trans hΓ.2.1 hd, fun l e => by (rw [hf] at e; cases e), fun l e => by (rw [hg] at e; cases e), Nat.le_trans hΓ.2.2.2.2 hu⟩
noncomputable abbrev lfObj (t0 : Addr) : Obj := { cls := .ref 65, dict := none, data := .fields #[.ref t0, .none, .none, .none, .bool false, .none], slots := #[] }
noncomputable abbrev lfWrap (e : Addr) : Obj := { cls := .type "method-wrapper", dict := none, data := .fields #[.builtin "Exception.__init__", .ref e], slots := #[] }
local macro_rules | `(tactic| x_close) => `(tactic| (rename (∀ (q : Addr) (h' : Heap), Mem _ h' [] _ → _) => hh; exact hh _ _ (by assumption)))
open PySem.W.XRun in
theorem lf_get0 (w : World) (s : Shared) (KX : (kf w.params).In s.heap) {e t0 : Addr} (he : s.heap.get? e = some (lfObj t0)) (E : Value → Shared → Prop) (Q : Value → Shared → Prop)
   (hQ : ∀ q h', Mem s.heap h' [] [(q, lfWrap e)] → Q (.ref q) { s with heap := h' }) :
    wpAny (model PySem.Challenge.rw_sa0019_01.prog w) { handled := none, depth := 950, frames := none, guards := none, units := 9500 } (call (.builtin "wrapper_descriptor.__get__") [.builtin "Exception.__init__", .ref e, .ref 65]) Q E s := by
  k_fill
  dsimp only [lfObj] at he
  x_run
theorem mem_keeps {h₀ h : Heap} {news : List (Addr × Obj)} (D : Mem h₀ h [] news) : ∀ b o, h₀.get? b = some o → h.get? b = some o := fun b o e => D.keep b o e (by simp [away])
theorem lf_init (w : World) : findIn (kf w.params) (.ref 65) "__init__" = some (some (.ref 30)) := by
  k_is
theorem lf_fn (w : World) : typeIn (kf w.params) (.ref 30) = some (.type "function") := by
  k_is
section
variable {w : World} {A : Around} {h : Heap} {g : Array GenState} {d : Drawn} {t : Nat} {os : OsState} {x : Value}
theorem lf_typecall (X : (kf w.params).In h) {R : Result → Shared → Prop}
    (hq : codeAny (model PySem.Challenge.rw_sa0019_01.prog w) (A.under (.builtin "type.__call__" ⟨[.ref 65, x], []⟩)) (.call (.ref 30) ⟨[.ref (h.objs.size + 1), x], []⟩) (InitBack (h.objs.size + 1) R)
      ⟨(h.push { cls := .type "tuple", data := .seq #[x] }).push (lfObj h.objs.size), g, d, t, os⟩) :
    codeAny (model PySem.Challenge.rw_sa0019_01.prog w) A (.call (.ref 65) ⟨[x], []⟩) R ⟨h, g, d, t, os⟩ := by
  refine lf_clsE X fun nm q bs hdct sn sub ab col dd k0 k1 k2 k3 k5 hC => ?_
  have f1 := tc_lookup
  have f2 := tc_bind (.ref 65)
  have hT : (⟨h, g, d, t, os⟩ : Shared).TypeIs (.ref 65) "type" := ⟨_, hC, rfl⟩
  refine codeAny_of_tree ?_
  show wpAny _ _ (callAny (.ref 65) _) _ _ _
  repeat (any_goals (first | assumption | with_reducible refine wpAny_loadPart_at hC ?_ | wp_step))
  refine ⟨rfl, ?_⟩
  refine codeAny_call_builtin_at (Code.quiet_builtin _ (by decide +kernel)) entry_typeCall (wpAny_check_type_call_sub hC ?_)
  repeat (first | with_reducible refine wpAny_loadPart_at hC ?_ | with_reducible refine wpAny_madeBy_exc hC ?_ | wp_step)
  refine codeAny_call_builtin_code (Code.quiet_builtin _ PySem.F.excBase_Exception.quiet) (lf_check_new X ?_)
  refine lf_new X ?_
  show wpAny _ _ _ _ _ _
  have k : ∀ b o, h.get? b = some o → ((h.push { cls := .type "tuple", data := .seq #[x] }).push (lfObj h.objs.size)).get? b = some o := fun b o e => Heap.get?_push_of_some _ (Heap.get?_push_of_some _ e)
  have hx : ((h.push { cls := .type "tuple", data := .seq #[x] }).push (lfObj h.objs.size)).get? (h.objs.size + 1) = some (lfObj h.objs.size) := by heap_get
  have hC₁ := k _ _ hC
  have hcC : (Value.ref 65 :: limTail).contains (.ref 65) = true := by simp
  have X₁ : (kf w.params).In ((h.push { cls := .type "tuple", data := .seq #[x] }).push (lfObj h.objs.size)) := X.keeps k
  have t1 : Looks (model PySem.Challenge.rw_sa0019_01.prog w) ((h.push { cls := .type "tuple", data := .seq #[x] }).push (lfObj h.objs.size)) (typeOf (.ref (h.objs.size + 1))) (.ref 65) := (Looks.ld hx).andThen .now
  have i1 := looks_findIn (M := model PySem.Challenge.rw_sa0019_01.prog w) X₁ (lf_init w)
  have b1 := bind_fn (M := model PySem.Challenge.rw_sa0019_01.prog w) X₁ (.ref (h.objs.size + 1)) (lf_fn w)
  unfold isInstance callSpecial? specialOf
  repeat (first | (with_reducible refine wpAny_isSubtype_exc hC₁ ?_; rw [hcC]) | with_reducible refine wpAny_call ?_ | lk)
  refine codeAny_mono hq fun r s' z => ?_
  rcases r with e | (v | _ | _ | _) <;> first | exact z | exact z.elim | skip
  obtain ⟨rfl, z⟩ := z
  exact wpAny_pure (wpAny_pure z)
end

end
section
-- C4
theorem lf_along (K : Frag) : alongIn K "__init__" [.type "Exception", .type "BaseException", .type "object"] = some (some (.builtin "Exception.__init__")) := by
  have e : fastBuiltinOwn "Exception" "__init__" = some (.builtin "Exception.__init__") := by decide +kernel
  simp only [alongIn, ownIn, e]
theorem looks_mro_of {K : Frag} {M : Model} {h : Heap} {C : Addr} {cd : ClassData} (X : K.In h) (hc : clsIn K C = some cd) : Looks M h (mroOf (.ref C)) cd.mro := (looks_clsIn X hc).andThen .now
theorem lf_cls65 (w : World) : ∃ cd, clsIn (kf w.params) 65 = some cd ∧ cd.mro = [.ref 65, .ref 40, .type "Exception", .type "BaseException", .type "object"] := by
  exact ⟨_, rfl, rfl⟩
theorem lf_opaque (w : World) : nsIn (kf w.params) cStatics "thirdparty.any" = some none := by
  k_is
section
variable {prog : Program} {w : World} {A : Around} {E : Value → Shared → Prop} {h : Heap} {g : Array GenState} {d : Drawn} {t : Nat} {os : OsState} {x : Value}
theorem lf_wget : typeLookup (.type "wrapper_descriptor") "__get__" = pure (some (.builtin "wrapper_descriptor.__get__")) := by rw [typeLookup_type, builtinLookup_eq_fast]; kernel_rfl
theorem lf_super_ga {K : Frag} {so e D C : Addr} {tk : Tok} {l₀ l : List Value} {Q : Fin → Shared → Prop} (X : K.In h)
    (hso : h.get? so = some { cls := .type "super", dict := none, data := .fields #[.ref D, .ref e, .ref C], slots := #[] }) (hno : Looks (model prog w) h (opaqueClassAbove (.ref C)) none)
    (hC : Looks (model prog w) h (mroOf (.ref C)) l₀) (hl : (l₀.dropWhile (· != .ref D)).drop 1 = l) (hf : alongIn K "__init__" l = some (some (.builtin "Exception.__init__"))) (hne : e ≠ C)
    (hq : wpAny (model prog w) A (call (.builtin "wrapper_descriptor.__get__") [.builtin "Exception.__init__", .ref e, .ref C]) (fun v s' => Q (.done (.ret v)) s') E ⟨h, g, d, t, os⟩) :
    wpAny (model prog w) A (Builtin.«super.__getattribute__» ⟨[.ref so, .str "__init__" tk], []⟩) Q E ⟨h, g, d, t, os⟩ := by
  have hne' : (Value.ref e == Value.ref C) = false := by simp [hne]
  have hdt : ({ cls := .type "super", dict := none, data := .fields #[.ref D, .ref e, .ref C], slots := #[] } : Obj).data = .fields #[.ref D, .ref e, .ref C] := rfl
  have f0 : (#[.ref D, .ref e, .ref C] : Array Value)[0]? = some (.ref D) := rfl
  have f1 : (#[.ref D, .ref e, .ref C] : Array Value)[1]? = some (.ref e) := rfl
  have f2 : (#[.ref D, .ref e, .ref C] : Array Value)[2]? = some (.ref C) := rfl
  have hn : (("__init__" : PySem.Str) == ("__class__" : PySem.Str)) = false := by decide +kernel
  unfold Builtin.«super.__getattribute__»
  repeat (first
    | (with_reducible refine wpAny_field hso hdt f0 ?_) | (with_reducible refine wpAny_field hso hdt f1 ?_) | (with_reducible refine wpAny_field hso hdt f2 ?_)
    | (with_reducible refine ks_wpAny_notOpaque hno ?_)
    | (with_reducible refine Looks.at hC ?_; rw [hl])
    | (refine ks_forIn_along X (fun _ _ => rfl) rfl ?_ hf)
    | (simp only [hn, hne', Bool.or_false, Bool.false_eq_true, if_false])
    | wp_step
    | dsimp only)
  have hkd : builtinKind "Exception.__init__" = some .slot := by decide +kernel
  rw [hkd]
  refine wpAny_of_eq lf_wget ?_
  refine wpAny_bind (wpAny_holding (wpAny_mono hq (fun v s' z => ?_) fun _ _ z => z))
  exact wpAny_pure (wpAny_pure z)
theorem lf_getMethod {K : Frag} {so e D C : Addr} {l₀ l : List Value} {pl : Sem Bool} {Q : Value × List Value → Shared → Prop} (X : K.In h)
    (hso : h.get? so = some { cls := .type "super", dict := none, data := .fields #[.ref D, .ref e, .ref C], slots := #[] }) (hno : Looks (model prog w) h (opaqueClassAbove (.ref C)) none)
    (hC : Looks (model prog w) h (mroOf (.ref C)) l₀) (hl : (l₀.dropWhile (· != .ref D)).drop 1 = l) (hf : alongIn K "__init__" l = some (some (.builtin "Exception.__init__"))) (hne : e ≠ C)
    (hq : wpAny (model prog w) A.in1 (call (.builtin "wrapper_descriptor.__get__") [.builtin "Exception.__init__", .ref e, .ref C]) (fun v s' => ∃ q, v = .ref q ∧ Q (.ref q, []) s') (fun _ _ => False) ⟨h, g, d, t + 1, os⟩) :
    wpAny (model prog w) A (getMethod (.ref so) "__init__" pl) Q E ⟨h, g, d, t, os⟩ := by
  have hlk := PySem.F.ks_slot_super_ga.lookup
  have hcan := PySem.F.ks_canon_super_ga
  have hT : ∀ t', (⟨h, g, d, t', os⟩ : Shared).TypeIs (.ref so) "super" := fun _ => ⟨_, hso, rfl⟩
  unfold getMethod
  refine wpAny_bind (wpAny_specialOf (hT _) hlk ?_)
  show wpAny _ _ (if (Manifest.canonical "super.__getattribute__" != "object.__getattribute__") = true then _ else _) _ _ _
  rw [if_pos hcan]
  unfold getAttr getAttrBy
  refine wpAny_bind (wpAny_bind (wpAny_mkText (wpAny_holding (wpAny_bind (wpAny_typeOf (hT _) (wpAny_bind (wpAny_of_eq hlk ?_)))))))
  show wpAny _ _ (getAttrByItsOwn (.ref so) (.str "__init__" t) (.type "super") (.builtin "super.__getattribute__") true false) _ _ _
  unfold getAttrByItsOwn hookBefore callGetattribute boundAndCalled
  refine wpAny_bind (wpAny_of_eq (show (if onTheHeap (.type "super") then typeLookup (.type "super") "__getattr__" else pure none) = pure none from rfl) ?_)
  refine wpAny_bind (wpAny_attempt (wpAny_holding ?_))
  show wpAny _ _ (bindSpecial (.builtin "super.__getattribute__") (.ref so) >>= _) _ _ _
  refine wpAny_bind (wpAny_of_eq (PySem.F.ks_slot_super_ga.bind _) ?_)
  refine wpAny_mono (Q := fun v s' => ∃ q, v = .ref q ∧ Q (.ref q, []) s') (E := fun _ _ => False)
    (wpAny_call_entry PySem.F.ks_slot_super_ga (hT _) PySem.F.ks_entry_super_ga (lf_super_ga X hso hno hC hl hf hne (wpAny_mono hq (fun v s' z => ⟨_, rfl, z⟩) fun _ _ z => z.elim)) (PySem.F.ks_gaArgs_super _ _)) (fun v s' hv => ?_) fun _ _ z => z.elim
  obtain ⟨q, rfl, hv⟩ := hv
  exact wpAny_pure (wpAny_pure hv)
end

end
section
-- C5
section
variable {w : World} {A : Around} {E : Value → Shared → Prop} {h : Heap} {g : Array GenState} {d : Drawn} {t : Nat} {os : OsState} {x : Value}
theorem lf_call_wrap {q e t0 : Addr} {R : Result → Shared → Prop} (X : (kf w.params).In h) (hb : h.get? q = some (lfWrap e)) (he : h.get? e = some (lfObj t0))
    (hq : ∀ h', h'.get? e = some (lfObj h.objs.size) → (∀ b o, b ≠ e → h.get? b = some o → h'.get? b = some o) → R (.ok (.ret .none)) ⟨h', g, d, t, os⟩) :
    codeAny (model PySem.Challenge.rw_sa0019_01.prog w) A (.call (.ref q) ⟨[x], []⟩) R ⟨h, g, d, t, os⟩ := by
  refine lf_clsE X fun nm q bs hdct sn sub ab col dd k0 k1 k2 k3 k5 hC => ?_
  have F := PySem.F.excBase_Exception
  have hcB : (Value.ref 65 :: limTail).contains (.type "Exception") = true := by decide +kernel
  have hshort := F.noStar
  refine codeAny_of_tree ?_
  show wpAny _ A.in1 (callAny (.ref _) _) _ _ _
  unfold callAny
  refine wpAny_bind (wpAny_load hb ?_)
  show wpAny _ _ (checkBoundCall "Exception.__init__" ⟨[.ref e, x], []⟩ >>= fun _ => again (.builtin "Exception.__init__" ⟨[.ref e, x], []⟩)) _ _ _
  have hcls : (lfObj t0).cls = .ref 65 := rfl
  have ck : ∀ {M : Model} {B : Around} {E' : Value → Shared → Prop} {Q' : Unit → Shared → Prop}, Q' () ⟨h, g, d, t, os⟩ → wpAny M B (checkBoundCall "Exception.__init__" ⟨[.ref e, x], []⟩) Q' E' ⟨h, g, d, t, os⟩ := by
    intro M B E' Q' hq'
    simp only [checkBoundCall, F.initKind, F.initSplit, F.initRow]
    rw [if_pos (by decide)]
    repeat (first | (with_reducible refine wpAny_loadPart_at he ?_; rw [hcls]) | with_reducible refine wpAny_loadPart_at hC ?_ | (with_reducible refine wpAny_isSubtype_exc hC ?_; rw [hcB]) | wp_step)
    exact hq'
  refine wpAny_bind (ck (wpAny_pure ⟨?_, codeAny_builtin F.initEntry ?_⟩))
  · exact plainId_quiet F.init.plain _
  rw [Around.under_plainId F.init.plain _]
  wp_walk
  have hp := Heap.get?_push_of_some ({ cls := .type "tuple", data := .seq #[x] } : Obj) he
  refine hq _ (by rw [Heap.get?_update_self _ hp rfl]; rfl) fun b o hb ho => ?_
  rw [Heap.get?_update_other _ _ (Ne.symm hb)]
  exact Heap.get?_push_of_some _ ho
end

end
section
-- C6
theorem lf_refuse (self : Value) : refuseLoop self "__setattr__" [.ref 65, .ref 40, .type "Exception", .type "BaseException", .type "object"] = pure () := by
  rw [refuseLoop_ref, refuseLoop_ref]
  kernel_rfl
section
variable {prog : Program} {w : World} {A : Around} {E : Value → Shared → Prop} {K : Frag} {C x : Addr} {s : Shared} {R : Result → Shared → Prop}
theorem lf_osa {vs : Array Value} {osl : Array (Option Value)} {name : Str} {tk : Tok} {v : Value} {cd : ClassData} (X : K.In s.heap) (I : InstAt s.heap x { cls := .ref C, dict := none, data := .fields vs, slots := osl } C none) (hc : clsIn K C = some cd) (hne : cd.mro.isEmpty = false) (hcont : cd.mro.contains (.type "object") = true)
    (href : refuseLoop (.ref x) "__setattr__" cd.mro = pure ()) (ht : findIn K (.ref C) name = some none) (hdct : cd.hasDict = true)
    (h : ∀ h' d, (∀ b o, b ≠ x → s.heap.get? b = some o → h'.get? b = some o) → h'.get? x = some { cls := .ref C, dict := some d, data := .fields vs, slots := osl } → R (.ok (.ret .none)) { s with heap := h', toks := s.toks + 1 }) :
    codeAny (model prog w) A (.call (.builtin "object.__setattr__") ⟨[.ref x, .str name tk, v], []⟩) R s := by
  have SF := PySem.F.store_object
  have sub : Looks (model prog w) s.heap (isInstance (.ref x) (.type "object")) true := I.type.andThen (looks_mroIn X (by unfold mroIn; rw [hc, Option.bind_some, if_neg (by rw [hne]; decide), hcont]))
  refine codeAny_call_builtin SF.slot.plain SF.entry (@check_slot (model prog w) _ _ s "object.__setattr__" "object" "__setattr__" (.ref x) [.str name tk, v] [] _ SF.kind SF.split sub (SF.args (.ref x) (.str name tk) v) ?_)
  have hm : Looks (model prog w) s.heap (mroOf (.ref C)) cd.mro := (looks_clsIn X hc).andThen .now
  rw [osa_eq, refuse_eq]
  refine wpAny_bind (wpAny_bind (I.type.here (wpAny_bind (hm.here ?_))))
  rw [href]
  refine wpAny_pure (wpAny_bind (I.type.here (wpAny_bind ((looks_findIn X ht).here (wpAny_bind (wpAny_pure ?_))))))
  obtain ⟨hx, hcl, hn, -⟩ := I
  refine wpAny_bind (wpAny_pure (wpAny_bind (wpAny_bind (wpAny_loadPart hx (wpAny_bind ((looks_clsIn X hc).here ?_))))))
  rw [hdct]
  rw [if_neg (by decide)]
  dsimp only
  rw [if_neg (by simp [typeHasDict])]
  refine wpAny_bind (wpAny_alloc ?_)
  have hx1 := Heap.get?_push_of_some ({ cls := .type "dict", data := .dict #[] } : Obj) hx
  have hd1 : (s.heap.push ({ cls := .type "dict", data := .dict #[] } : Obj)).get? s.heap.objs.size = some ({ cls := .type "dict", data := .dict #[] } : Obj) := Heap.get?_push_at rfl rfl
  refine wpAny_bind (wpAny_update hx1 ?_)
  have hdx : s.heap.objs.size ≠ x := Nat.ne_of_gt (Heap.lt_size hx)
  have D : ((s.heap.push ({ cls := .type "dict", data := .dict #[] } : Obj)).update x fun o => { cls := o.cls, dict := some s.heap.objs.size, data := o.data, slots := o.slots }).get? s.heap.objs.size = some ({ cls := .type "dict", data := .dict #[] } : Obj) := by
    rw [Heap.get?_update_other _ _ (Ne.symm hdx)]
    exact hd1
  refine wpAny_pure (a := some s.heap.objs.size) (wpAny_bind (wpAny_pure (wpAny_bind ?_)))
  unfold nsSet
  refine wpAny_bind (wpAny_bind (wpAny_askSetting (wpAny_pure (wpAny_bind (wpAny_mkText (wpAny_bind (wpAny_loadPart D ?_)))))))
  dsimp only
  have c : (!(#[] : Array DictEntry).any (·.key.isStr name) && (#[] : Array DictEntry).any (·.refKey)) = false := by simp
  rw [aRefKeyMayBeTheName_at, c]
  refine wpAny_updatePart D ?_
  have D' := Heap.get?_update_self (f := Obj.putName name (if name.cps.isEmpty = true then 0 else reduceHash ((model prog w).w.params.strHash name.cps)) (Value.str name s.toks) v) D rfl
  refine wpAny_bind (wpAny_lookBehind D' (by first | exact rfl | exact pastItsLine_dict (by simp [sizeLine_eq])) ?_)
  refine wpAny_pure (h _ s.heap.objs.size (fun b o hb ho => ?_) ?_)
  · rw [Heap.get?_update_other _ _ (Nat.ne_of_gt (Heap.lt_size ho)), Heap.get?_update_other _ _ (Ne.symm hb)]
    exact Heap.get?_push_of_some _ ho
  · rw [Heap.get?_update_other _ _ hdx, Heap.get?_update_self _ hx1 rfl]
end

end
section
-- C7
section
variable {prog : Program} {w : World} {A : Around} {E : Value → Shared → Prop} {s : Shared}
theorem lf_callWith {pos : Pos} {u e : Addr} {first : List Value} {args : List (Bool × Sem Value)} {Q : Value → Shared → Prop} (hplain : args.any (·.1) = false)
    (h : wpAny (model prog w) A (evalArgs (.ref u) true args []) (fun x s₁ => s₁.heap.get? u = some (lfWrap e) ∧ wpAny (model prog w) A (call (.ref u) (first ++ x.pos) x.kw) Q E s₁) E s) : wpAny (model prog w) A (callWith pos (.ref u) first args []) Q E s := by
  unfold callWith
  refine wpAny_bind (wpAny_holding (wpAny_mono h (fun x s₁ h₁ => wpAny_bind (wpAny_standAt ?_)) fun _ _ x => x))
  obtain ⟨ho, hcall⟩ := h₁
  simp only [hplain, List.any_nil, Bool.or_false]
  refine wpAny_bind (m := keeperOf (.ref u)) ?_
  unfold keeperOf
  refine wpAny_bind (wpAny_load ho ?_)
  simp only [lfWrap, show (Value.type "method-wrapper" != Value.type "method") = true by decide, show (Value.type "method-wrapper" == Value.type "builtin_function_or_method" || Value.type "method-wrapper" == Value.type "method-wrapper") = true by decide, if_true]
  refine wpAny_pure ?_
  exact wpAny_bind (wpAny_mono hcall (fun r s₂ hr => wpAny_bind (wpAny_holding (wpAny_point (wpAny_pure hr)))) fun _ _ x => x)
theorem lf_callWith1 {pos : Pos} {u e0 : Addr} {first : List Value} {env : Env} {e : Expr} {Q : Value → Shared → Prop}
    (h : wpAny (model prog w) A (spliced (backTo pos (starEach [e] env))) (fun vs s₁ => s₁.heap.get? u = some (lfWrap e0) ∧ wpAny (model prog w) A (call (.ref u) (first ++ vs)) Q E s₁) E s)
    (he : starEach [e] env = (false, eval e env) :: starEach [] env := by rfl) :
    wpAny (model prog w) A (callWith pos (.ref u) first (backTo pos (starEach [e] env)) []) Q E s := by
  rw [he] at h ⊢
  exact lf_callWith (e := e0) (by rfl) (PySem.Calls.evalArgs_plain h)
end
section
variable {prog : Program} {w : World} {A : Around} {s : Shared} {K : Frag} {p : Program} {loose : List Str} {mean : ExcName → Option Value} {mg mb : Str → Option Value}
  {R : Result → Shared → Prop} {name qual : Str} {params : Arguments} {body : List Stmt} {scope : Scope} {dV kV doc pm cdv ct oc : Value} {an od : Option Addr} {osl : Array (Option Value)} {f cc : Addr} {args : Args} {binds : List (Str × Value)}
theorem lf_code (X : K.In s.heap) (T : Top p loose mean mg mb s.heap)
    (ho : K.lookup f = some ⟨oc, od, .func (ksFn name qual params body scope dV kV doc pm an cdv ct cc), osl⟩) (hcd : codeIn K cdv qual = true) (hroom : A.depth < recursionLimit)
    (hbind : BindsTo s (ksFn name qual params body scope dV kV doc pm an cdv ct cc) args binds) (hloc : ∀ y ∈ binds, scope.names.lookup y.1 = some .local)
    (h : ∀ h₁, Fr s.heap s.heap.objs.size h₁ (fun y => binds.reverse.lookup y) →
      _root_.PySem.wpAt (model prog w) (A.deeper (ksEnv qual scope s.heap.objs.size f cdv cc)) (.func body (ksEnv qual scope s.heap.objs.size f cdv cc)) (execs body (ksEnv qual scope s.heap.objs.size f cdv cc))
        (fun fl s' => R (.ok (.ret (match fl with | .ret v => v | _ => .none))) s')
        (fun e s' => wpAny (model prog w) (A.deeper (ksEnv qual scope s.heap.objs.size f cdv cc)) («leaving» (ksEnv qual scope s.heap.objs.size f cdv cc) e) (fun _ s'' => R (.error e) s'') (fun e' s'' => R (.error e') s'') s')
        { s with heap := h₁, toks := s.toks + binds.length })
    (hcell : ∀ x ∈ scope.names, x.2 ≠ .cell := by decide) (hco : scope.isCoroutine = false := by rfl) (hgen : scope.isGenerator = false := by rfl) (hk : scope.kind = .function := by rfl) : codeAny (model prog w) A (.call (.ref f) args) R s :=
  ks_codeAny_call_defAt (fd := ksFn name qual params body scope dV kV doc pm an cdv ct cc) (body := body) (binds := binds) hroom (X _ _ ho) rfl T.nolimit (codeRec_of X hcd) rfl hbind hcell hloc (fun h₁ hns hk₁ => h h₁ ⟨hns, hk₁, Nat.le_refl _⟩) hco hgen hk
end
theorem lf_sa (w : World) : findIn (kf w.params) (.ref 65) "__setattr__" = some (some (.builtin "object.__setattr__")) := by
  k_is
theorem lf_what (w : World) : findIn (kf w.params) (.ref 65) "what" = some none := by
  k_is
theorem lf_dict65 (w : World) (cd : ClassData) (h : clsIn (kf w.params) 65 = some cd) : cd.hasDict = true := by
  cases h
  rfl
section
variable {w : World} {A : Around} {h : Heap} {g : Array GenState} {d : Drawn} {t : Nat} {os : OsState} {mean : ExcName → Option Value} {mg mb : PySem.Str → Option Value}
theorem lf_initcall {e t0 : Addr} {x : PySem.Str} {tk : Tok} {R : Result → Shared → Prop} (X : (kf w.params).In h) (T : Top hd.view_39 (looseW hd.view_39 []) mean mg mb h) (he : h.get? e = some (lfObj t0)) (hne : e ≠ 65) (hK : (kf w.params).lookup e = none) (hroom : A.depth < 900) (hh : A.handled = none) (hun : A.units < 9000)
    (hq : ∀ h' tk', (∀ b o, b ≠ e → h.get? b = some o → h'.get? b = some o) → (∃ d t1, h'.get? e = some { cls := .ref 65, dict := some d, data := .fields #[.ref t1, .none, .none, .none, .bool false, .none], slots := #[] }) → R (.ok (.ret .none)) ⟨h', g, d, tk', os⟩) :
    codeAny (model PySem.Challenge.rw_sa0019_01.prog w) A (.call (.ref 30) ⟨[.ref e, .str x tk], []⟩) R ⟨h, g, d, t, os⟩ := by
  refine' lf_code X T ?k2 ?k3 ?k1 ?k4 ?k5 ?_ ?c0 ?c1 ?c2 ?c3
  (case k2 => k_is)
  (case k3 => k_is)
  (case k1 => (simp only [recursionLimit]; omega))
  (case k4 => exact BindsTo.of_eq rfl)
  (case k5 => exact locs rfl)
  (case c0 => decide)
  (case c1 => exact rfl)
  (case c2 => exact rfl)
  (case c3 => exact rfl)
  k_with_none
  intro h₁ F₁
  have hk := F₁.keep
  have N₁ : News h h.objs.size h₁ [] := fun p hp => nomatch hp
  have I₁ : InstAt h₁ e (lfObj t0) 65 none := ⟨hk _ _ he, rfl, rfl, trivial⟩
  refine ks_wpAt_execs_cons ?_
  refine ks_wpAt_Expr_any ?_
  refine ks_wpAt_MethodCall ?_
  refine ks_node (m := _) F₁ X N₁ T (by k_is) (by rfl) (by rfl) I₁ (by k_is) (by rfl) (by first | rfl | decide +kernel) (by k_is) (by k_is) (by k_is) (by k_is) (by decide) (by rfl) (by rfl) (by rfl) (by rfl) (by decide +kernel) (by first | boot_by_name | rfl | kernel_rfl) ?_
  intro so h₂ F₂ N₂ l₂
  have hso := (N₂ _ (List.Mem.head _)).1
  have X₂ : (kf w.params).In h₂ := X.keeps F₂.keep
  have he₂ := F₂.keep _ _ he
  obtain ⟨cd, hcd, hmro⟩ := lf_cls65 w
  have hl : (cd.mro.dropWhile (· != .ref 40)).drop 1 = [.type "Exception", .type "BaseException", .type "object"] := by rw [hmro]; decide +kernel
  refine lf_getMethod X₂ hso (looks_opaque X₂ (lf_opaque w)) (looks_mro_of X₂ hcd) hl (lf_along _) hne ?_
  refine wpAny_wider (lf_get0 w _ X₂ he₂ _ _ fun q h₃ M₃ => ⟨q, rfl, ?_⟩) ?a ?b rfl rfl ?c
  (case a => exact hh.symm)
  (case b => (simp only [depth_in1, depth_deeper]; omega))
  (case c => (simp only [units_in1, units_deeper]; omega))
  have k₃ := mem_keeps M₃
  have hq₃ := (M₃.nw _ (List.Mem.head _)).1
  have F₃ : Fr h h.objs.size h₃ _ := ⟨let ⟨o, es, ep, e', r⟩ := F₂.ns; ⟨o, es, ep, k₃ _ _ e', r⟩, fun b o ho => k₃ _ _ (F₂.keep b o ho), F₂.above⟩
  have N₃ : News h h.objs.size h₃ [] := fun p hp => nomatch hp
  have he₃ := k₃ _ _ he₂
  refine lf_callWith1 (e0 := e) ?_
  k_steps
  have X₃ : (kf w.params).In h₃ := X.keeps F₃.keep
  refine wpAny_call (lf_call_wrap X₃ hq₃ he₃ fun h₄ e₄ k₄ => ?_)
  have hLe : h.objs.size ≠ e := Nat.ne_of_gt (Heap.lt_size he)
  have X₄ : (kf w.params).In h₄ := fun b o ho => k₄ b o (fun eb => by rw [eb, hK] at ho; cases ho) (X₃ b o ho)
  have F₄ : Fr (hideAll h [e]) h.objs.size h₄ _ := ⟨let ⟨o, es, ep, e', r⟩ := F₃.ns; ⟨o, es, ep, k₄ _ _ hLe e', r⟩, fun b o ho => k₄ _ _ (fun eb => by rw [eb, hideAll_none _ (List.mem_singleton.mpr rfl)] at ho; cases ho) (F₃.keep _ _ (of_hideAll _ ho)), Nat.le_of_eq (hideAll_size _ _)⟩
  have N₄ : News (hideAll h [e]) h.objs.size h₄ [] := fun p hp => nomatch hp
  have I₄ : InstAt h₄ e (lfObj h₃.objs.size) 65 none := ⟨e₄, rfl, rfl, trivial⟩
  have k₄' : ∀ b o, b ≠ e → h.get? b = some o → h₄.get? b = some o := fun b o hb ho => k₄ b o hb (F₃.keep b o ho)
  clear F₁ F₂ F₃ N₁ N₂ N₃
  have hcd' : cd.hasDict = true := lf_dict65 w cd hcd
  (k_with "setAttr ref" => k_dflt (refine set_plain X₄ I₄ (lf_sa w) (lf_osa X₄ I₄ hcd (by rw [hmro]; rfl) (by rw [hmro]; decide) (by rw [hmro]; exact lf_refuse _) (lf_what w) hcd' fun h₅ d₅ k₅ e₅ => ?_)))
  k_steps
  exact hq h₅ _ (fun b o hb ho => k₅ b o hb (k₄' b o hb ho)) ⟨d₅, _, e₅⟩
end

end
section
-- C8
section
variable {w : World} {A : Around} {E : Value → Shared → Prop} {h : Heap} {g : Array GenState} {d : Drawn} {t : Nat} {os : OsState} {mean : ExcName → Option Value} {mg mb : PySem.Str → Option Value}
theorem lf_call {x : PySem.Str} {tk : Tok} {Q : Value → Shared → Prop} (X : (kf w.params).In h) (T : Top hd.view_39 (looseW hd.view_39 []) mean mg mb h) (hroom : A.depth < 899) (hh : A.handled = none) (hun : A.units < 8999)
    (hq : ∀ h' tk' e dx t1, NewE h h' e (.ref 65) → h'.get? e = some { cls := .ref 65, dict := some dx, data := .fields #[.ref t1, .none, .none, .none, .bool false, .none], slots := #[] } → Q (.ref e) ⟨h', g, d, tk', os⟩) :
    wpAny (model PySem.Challenge.rw_sa0019_01.prog w) A (call (.ref 65) [.str x tk]) Q E ⟨h, g, d, t, os⟩ := by
  refine wpAny_call (lf_typecall X ?_)
  have k : ∀ b o, h.get? b = some o → ((h.push { cls := .type "tuple", data := .seq #[.str x tk] }).push (lfObj h.objs.size)).get? b = some o := fun b o e => Heap.get?_push_of_some _ (Heap.get?_push_of_some _ e)
  have hx : ((h.push { cls := .type "tuple", data := .seq #[.str x tk] }).push (lfObj h.objs.size)).get? (h.objs.size + 1) = some (lfObj h.objs.size) := by heap_get
  have hn : h.get? (h.objs.size + 1) = none := Heap.get?_none_of_le (Nat.le_succ _)
  have X₁ : (kf w.params).In ((h.push { cls := .type "tuple", data := .seq #[.str x tk] }).push (lfObj h.objs.size)) := X.keeps k
  have hK : (kf w.params).lookup (h.objs.size + 1) = none := by
    cases q : (kf w.params).lookup (h.objs.size + 1) with
    | none => rfl
    | some o => rw [X _ _ q] at hn; cases hn
  have ne : ∀ b o, h.get? b = some o → b ≠ h.objs.size + 1 := fun b o e q => by rw [q, hn] at e; cases e
  refine lf_clsE X fun nm q bs hdct sn sub ab col dd k0 k1 k2 k3 k5 hC => ?_
  refine lf_initcall X₁ (T.keeps k) hx (fun q => ne _ _ hC q.symm) hK ?_ ?_ ?_ fun h' tk' k' e' => ?_
  · (simp only [depth_under_kw]; omega)
  · exact hh
  · (simp only [units_under_make]; omega)
  · obtain ⟨dx, t1, e'⟩ := e'
    exact ⟨rfl, hq h' tk' _ dx t1 ⟨fun b o e => k' b o (ne b o e) (k b o e), hn, _, t1, e', rfl, rfl⟩ e'⟩
theorem lf_raiseStmt {env : Env} {s : Shared} {x : Sem Value} {Q : Flow → Shared → Prop} {M : Model} (hh : A.handled = none)
    (hq : wpAny M A x (fun v s₁ => ∃ e dx t sl, v = .ref e ∧ (kf w.params).In s₁.heap ∧ s₁.heap.get? e = some { cls := .ref 65, dict := dx, data := .fields #[.ref t, .none, .none, .none, .bool false, .none], slots := sl } ∧ E (.ref e) s₁) E s) :
    wpAny M A (raiseStmt env (some x) none) Q E s := by
  have hcB : (Value.ref 65 :: limTail).contains (.type "BaseException") = true := by decide +kernel
  unfold raiseStmt
  refine wpAny_bind (wpAny_mono hq (fun v s₁ h₁ => ?_) fun _ _ x => x)
  obtain ⟨e, dx, t, sl, rfl, X, he, hE⟩ := h₁
  refine lf_clsE X fun nm q bs hdct sn sub ab col dd k0 k1 k2 k3 k5 hC => ?_
  obtain ⟨hp, g, d, tk, os⟩ := s₁
  repeat (first | with_reducible refine wpAny_loadPart_at he ?_ | with_reducible refine wpAny_loadPart_at hC ?_ | (with_reducible refine wpAny_isSubtype_exc hC ?_; rw [hcB]) | wp_step)
  exact wpAny_raiseNew_none hh hE
theorem lf_Raise {env : Env} {s : Shared} {Q : Flow → Shared → Prop} {x : PySem.Str} {np cpos pos : Pos} {e₀ : Expr} (hh : A.handled = none) (hroom : A.depth < 899) (hun : A.units < 8999)
    (hq : wpAny (model PySem.Challenge.rw_sa0019_01.prog w) A (eval (.Name x np) env) (fun f s₁ => f = .ref 65 ∧ wpAny (model PySem.Challenge.rw_sa0019_01.prog w) A (spliced (backTo cpos (starEach [e₀] env)))
      (fun vs s₂ => ∃ y tk, vs = [.str y tk] ∧ (kf w.params).In s₂.heap ∧ Top hd.view_39 (looseW hd.view_39 []) mean mg mb s₂.heap ∧ ∀ h' tk' e, NewE s₂.heap h' e (.ref 65) → E (.ref e) { s₂ with heap := h', toks := tk' }) E s₁) E s)
    (he : starEach [e₀] env = (false, eval e₀ env) :: starEach [] env := by rfl) :
    wpAny (model PySem.Challenge.rw_sa0019_01.prog w) A (exec (.Raise (some (.Call (.Name x np) [e₀] [] cpos)) none pos) env) Q E s := by
  rw [arm_exec_Raise]
  first
    | refine wpAny_bind (wpAny_standAt (lf_raiseStmt (w := w) hh (wpAny_bind (wpAny_mono (wpAny_Call_ofName (wpAny_mono hq (fun f s₁ h₁ => ?_) fun _ _ x => x)) (fun v s₃ h₃ => wpAny_bind (wpAny_standAt (wpAny_pure h₃))) fun _ _ x => x))))
    | (simp only [evalOpt, Option.map]; refine wpAny_bind (wpAny_standAt (lf_raiseStmt (w := w) hh (wpAny_bind (wpAny_mono (wpAny_Call_ofName (wpAny_mono hq (fun f s₁ h₁ => ?_) fun _ _ x => x)) (fun v s₃ h₃ => wpAny_bind (wpAny_standAt (wpAny_pure h₃))) fun _ _ x => x)))))
    | (refine wpAny_bind (wpAny_standAt (lf_raiseStmt (w := w) hh ?_)); refine wpAny_bind (wpAny_mono (wpAny_Call_ofName (wpAny_mono hq (fun f s₁ h₁ => ?_) fun _ _ x => x)) (fun v s₃ h₃ => wpAny_bind (wpAny_standAt (wpAny_pure h₃))) fun _ _ x => x))
  obtain ⟨rfl, h₁⟩ := h₁
  rw [he] at h₁ ⊢
  unfold callWith
  refine wpAny_bind (wpAny_holding (PySem.Calls.evalArgs_plain (wpAny_mono h₁ (fun vs s₂ h₂ => wpAny_bind (wpAny_standAt ?_)) fun _ _ x => x)))
  obtain ⟨y, tk, rfl, X, T, h₂⟩ := h₂
  refine lf_clsE X fun nm q bs hdct sn sub ab col dd k0 k1 k2 k3 k5 hC => ?_
  obtain ⟨hp, g, d, tk', os⟩ := s₂
  dsimp only
  refine wpAny_bind (wpAny_keeperOf_exc hC ?_)
  refine wpAny_bind (lf_call X T hroom hh hun fun h' tk' e dx t1 ne hob => wpAny_bind (wpAny_holding (wpAny_point (wpAny_pure ?_))))
  exact ⟨e, _, t1, _, rfl, X.keeps ne.keeps, hob, h₂ h' tk' e ne⟩
end

end
section
-- C9
theorem variable_no (w : World) (mean : ExcName → Option Value) (mg mb : PySem.Str → Option Value) (news : List (Addr × Obj)) (i : Int) (tk : Tok) (h0 : ¬ i < 0) (h1 : 999999999 < i) :
    Fn w mean mg mb 114 4 [.int i tk] news (fun r news' => False) True := by
  unfold Fn
  intro dp un gd cn cs a ccd cl outer A₀ base h₀ L m hp9 gs9 dr9 tks9 os9 Q E B F X N T hk hd9 hu9 hret hexc
  clear hret
  refine wpAny_call ?_
  k_with_none
  k_dflt ktr_enter
  (k_with "exec Raise some none" => k_dflt (refine' lf_Raise (w := w) (mean := mean) (mg := mg) (mb := mb) ?a ?b ?c ?_ ?d; (case a => first | exact rfl | assumption); (case b => (first | k_room | ((have hcL9 := cLine_is); (simp only [depth_under_make, depth_under_kw, depth_in1, depth_deeper, depth_caller, recursionLimit, units_in1, units_deeper, Around.mark_units, units_caller, cLine]); (try dsimp only [ktrTop]); omega))); (case c => (first | k_room | ((have hcL9 := cLine_is); (simp only [depth_under_make, depth_under_kw, depth_in1, depth_deeper, depth_caller, recursionLimit, units_in1, units_deeper, Around.mark_units, units_caller, cLine]); (try dsimp only [ktrTop]); omega))); (case d => exact rfl)))
  k_steps
  all_goals (rename Top _ _ _ _ _ _ => T9; rename Fr h₀ L _ m => FG9; rename Fr _ _ _ _ => F9; rename Below _ _ _ _ => B9; rename News _ _ _ _ => N9)
  · exact T9.keeps F9.keep
  · rename NewE _ _ _ _ => ne9
    exact leave_newE B9 ne9 F9 N9 rfl rfl fun h'' R U => hexc trivial _ _ _ _ FG9 R U

end
section
-- E2
inductive TIns (news : List (Addr × Obj)) : List Value → List Tm → Prop
  | nil : TIns news [] []
  | cons {v : Value} {t : Tm} {vs : List Value} {ts : List Tm} : TIn news v t → TIns news vs ts → TIns news (v :: vs) (t :: ts)
theorem TIns.mono {news news' : List (Addr × Obj)} (hs : ∀ p ∈ news, p ∈ news') {vs : List Value} {ts : List Tm} (h : TIns news vs ts) : TIns news' vs ts := by
  induction h with
  | nil => exact .nil
  | cons a _ ih => exact .cons (a.mono hs) ih
theorem TIns.snoc {news : List (Addr × Obj)} {vs : List Value} {ts : List Tm} {v : Value} {t : Tm} (h : TIns news vs ts) (a : TIn news v t) : TIns news (vs ++ [v]) (ts ++ [t]) := by
  induction h with
  | nil => exact .cons a .nil
  | cons b _ ih => exact .cons b ih
theorem TIns.at {news : List (Addr × Obj)} {vs : List Value} {ts : List Tm} (h : TIns news vs ts) : ∀ (i : Nat) (v : Value), vs[i]? = some v → ∃ t, ts[i]? = some t ∧ TIn news v t := by
  induction h with
  | nil => intro i v e; simp at e
  | cons a _ ih =>
    intro i v e
    cases i with
    | zero => cases Option.some.inj (by simpa using e); exact ⟨_, rfl, a⟩
    | succ i => exact ih i v (by simpa using e)
theorem TIns.len {news : List (Addr × Obj)} {vs : List Value} {ts : List Tm} (h : TIns news vs ts) : vs.length = ts.length := by
  induction h with
  | nil => rfl
  | cons _ _ ih => simp [ih]
/-- only tuples bear a term -/
theorem TIn.sub {news news' : List (Addr × Obj)} (hs : ∀ p ∈ news, (∃ its n, p.2 = ({ cls := .type "tuple", data := .seq its n } : Obj)) → p ∈ news') {v : Value} {t : Tm} (h : TIn news v t) : TIn news' v t := by
  induction h with
  | k hm => exact .k (hs _ hm ⟨_, _, rfl⟩)
  | var hm => exact .var (hs _ hm ⟨_, _, rfl⟩)
  | lam hm _ ih => exact .lam (hs _ hm ⟨_, _, rfl⟩) ih
  | app hm _ _ ih ih' => exact .app (hs _ hm ⟨_, _, rfl⟩) ih ih'
theorem TIns.sub {news news' : List (Addr × Obj)} (hs : ∀ p ∈ news, (∃ its n, p.2 = ({ cls := .type "tuple", data := .seq its n } : Obj)) → p ∈ news') {vs : List Value} {ts : List Tm} (h : TIns news vs ts) : TIns news' vs ts := by
  induction h with
  | nil => exact .nil
  | cons a _ ih => exact .cons (a.sub hs) ih
inductive Maps (f : Tm → Option Tm) : List Tm → List Tm → Prop
  | nil : Maps f [] []
  | cons {t t' : Tm} {ts ts' : List Tm} : f t = some t' → Maps f ts ts' → Maps f (t :: ts) (t' :: ts')
theorem Maps.snoc {f : Tm → Option Tm} {ts ts' : List Tm} {t t' : Tm} (h : Maps f ts ts') (a : f t = some t') : Maps f (ts ++ [t]) (ts' ++ [t']) := by
  induction h with
  | nil => exact .cons a .nil
  | cons b _ ih => exact .cons b ih

section
variable {prog : Program} {w : World} {A : Around} {E : Value → Shared → Prop} {s : Shared} {h₀ : Heap} {L : Addr} {m : PySem.Str → Option Value} {news : List (Addr × Obj)}
/-- t[1:] of a tuple of the ledger -/
theorem slice_tup1 {value slice : Expr} {t : Addr} {v : Value} {r : List Value} {n : Nat} {u : Tok} {Q : Value → Shared → Prop}
    (F : Fr h₀ L s.heap m) (N : News h₀ L s.heap news) (ht : (t, ({ cls := .type "tuple", data := .seq (v :: r).toArray n } : Obj)) ∈ news) (hz : (v :: r).length ≤ 100)
    (h : ∀ D h', Fr h₀ L h' m → News h₀ L h' ((D, { cls := .type "tuple", data := .seq r.toArray }) :: news) → Q (.ref D) { s with heap := h' })
    (hs : subscripted slice false (.ref t) (.ref s.heap.objs.size) = operate [.ref s.heap.objs.size, .ref t] (getItem (.ref t) (.ref s.heap.objs.size)))
    (hg : ∀ r, letTemporaryGo value (.ref t) r = pure ()) :
    wpAny (model prog w) A (subscriptTail value slice (.ref t) (.ref s.heap.objs.size)) Q E { s with heap := s.heap.push { cls := .type "slice", data := .fields #[.int 1 u, .none, .none] } } := by
  refine slice_tuple_from (a := 1) F N (N.isTup ht) (Nat.le_refl _) (by simp) (fun h' F' N' => h _ h' F' N') hs hg ?_
  rw [sizeLine_eq, List.size_toArray]
  omega
/-- two tuples of the ledger, neither empty, put together -/
theorem tup_add {t b : Addr} {v v' : Value} {vs ws : List Value} {n k : Nat} {Q : Value → Shared → Prop} (F : Fr h₀ L s.heap m) (N : News h₀ L s.heap news) (ht : (t, ({ cls := .type "tuple", data := .seq (v :: vs).toArray n } : Obj)) ∈ news) (hb : (b, ({ cls := .type "tuple", data := .seq (v' :: ws).toArray k } : Obj)) ∈ news)
    (hz : (v :: vs).length + (v' :: ws).length ≤ 100) (h : ∀ D h', Fr h₀ L h' m → News h₀ L h' ((D, { cls := .type "tuple", data := .seq (v :: vs ++ v' :: ws).toArray }) :: news) → Q (.ref D) { s with heap := h' }) :
    wpAny (model prog w) A (binaryOp .Add (.ref t) (.ref b)) Q E s :=
  add_tuples F N (N.isTup ht) (N.isTup hb) (fun e => by cases e) (fun _ e => by cases e) (fun _ _ h' F' N' => h _ h' F' N') (by rw [sizeLine_eq]; omega)
/-- .. the right one empty -/
theorem tup_add0 {t b : Addr} {v : Value} {vs : List Value} {n k : Nat} {Q : Value → Shared → Prop} (F : Fr h₀ L s.heap m) (N : News h₀ L s.heap news) (ht : (t, ({ cls := .type "tuple", data := .seq (v :: vs).toArray n } : Obj)) ∈ news) (hb : (b, ({ cls := .type "tuple", data := .seq ([] : List Value).toArray k } : Obj)) ∈ news)
    (hz : (v :: vs).length ≤ 100) (h : Q (.ref t) s) : wpAny (model prog w) A (binaryOp .Add (.ref t) (.ref b)) Q E s :=
  add_tuples F N (N.isTup ht) (N.isTup hb) (fun e => by cases e) (fun _ _ => h) (fun _ e => absurd rfl e) (by rw [sizeLine_eq]; simp only [List.length_nil]; omega)
/-- two tuples of the ledger, the left not empty, put together -/
theorem tup_addG {t b : Addr} {v : Value} {vs ws : List Value} {n k : Nat} {Q : Value → Shared → Prop} (F : Fr h₀ L s.heap m) (N : News h₀ L s.heap news) (ht : (t, ({ cls := .type "tuple", data := .seq (v :: vs).toArray n } : Obj)) ∈ news) (hb : (b, ({ cls := .type "tuple", data := .seq ws.toArray k } : Obj)) ∈ news)
    (hz : (v :: vs).length + ws.length ≤ 100) (h : ∀ D n' h' news', Fr h₀ L h' m → News h₀ L h' news' → (∀ p ∈ news, p ∈ news') → (D, ({ cls := .type "tuple", data := .seq (v :: vs ++ ws).toArray n' } : Obj)) ∈ news' → Q (.ref D) { s with heap := h' }) :
    wpAny (model prog w) A (binaryOp .Add (.ref t) (.ref b)) Q E s := by
  cases ws with
  | nil => exact tup_add0 F N ht hb (by simpa using hz) (h t n s.heap news F N (fun _ h => h) (by rw [List.append_nil]; exact ht))
  | cons v' ws => exact tup_add F N ht hb hz fun D h' F' N' => h D _ h' _ F' N' (fun _ h => List.Mem.tail _ h) (List.Mem.head _)
theorem r_first {value slice : Expr} {t : Addr} {x : Value} {vs : List Value} {n : Nat} {u : Tok} {Q : Value → Shared → Prop} (N : News h₀ L s.heap news) (ht : (t, ({ cls := .type "tuple", data := .seq (x :: vs).toArray n } : Obj)) ∈ news) (hQ : Q x s)
    (hs : subscripted slice false (.ref t) (.int 0 u) = operate [.ref t, .int 0 u] (getItem (.ref t) (.int 0 u))) (hg : ∀ r, letTemporaryGo value (.ref t) r = pure ()) :
    wpAny (model prog w) A (subscriptTail value slice (.ref t) (.int 0 u)) Q E s :=
  item_tuple (N.isTup ht) (by decide) (by decide) (j := 0) (by simp [seqIndex?]) (by simp) hQ hs hg
end
section
variable {prog : Program} {w : World} {A : Around} {E : Value → Shared → Prop} {s : Shared} {base h₀ : Heap} {L : Addr} {m : PySem.Str → Option Value} {env : Env} {outer : List Env}
open LCg
/-- a kid's call has come back -/
noncomputable def KidDone (h₀ : Heap) (L : Addr) (m : PySem.Str → Option Value) (s₁ : Shared) (news₁ : List (Addr × Obj)) (f : Tm → Option Tm) (t : Tm) (y : Value) (s₂ : Shared) : Prop :=
  ∃ h' tk' news₂ t', s₂ = { s₁ with heap := h', toks := tk' } ∧ Fr h₀ L h' m ∧ News h₀ L h' news₂ ∧ (∀ p ∈ news₁, p ∈ news₂) ∧ f t = some t' ∧ TIn news₂ y t'
/-- a kid's call has raised -/
noncomputable def KidRaised (base h₀ : Heap) (L : Addr) (m : PySem.Str → Option Value) (env : Env) (outer : List Env) (cls : Value) (s₁ : Shared) (news₁ : List (Addr × Obj)) (f : Tm → Option Tm) (t : Tm) (e : Value) (s₂ : Shared) : Prop :=
  ∃ ea g h' tk', e = .ref ea ∧ s₂ = { s₁ with heap := h', toks := tk' } ∧ f t = none ∧ Fr h₀ L g m ∧ RaisedSN base g (env :: outer) ea cls news₁ h' ∧ g.UpToSlots h'
theorem KidDone.of {h₀ : Heap} {L : Addr} {m : PySem.Str → Option Value} {s₁ : Shared} {news₁ news₂ : List (Addr × Obj)} {f : Tm → Option Tm} {t t' : Tm} {y : Value} {h' : Heap} {tk' : Nat} (F : Fr h₀ L h' m) (N : News h₀ L h' news₂) (hs : ∀ p ∈ news₁, p ∈ news₂) (e : f t = some t') (T : TIn news₂ y t') :
    KidDone h₀ L m s₁ news₁ f t y { s₁ with heap := h', toks := tk' } := ⟨h', tk', news₂, t', rfl, F, N, hs, e, T⟩
theorem KidRaised.of {base h₀ : Heap} {L : Addr} {m : PySem.Str → Option Value} {env : Env} {outer : List Env} {cls : Value} {s₁ : Shared} {news₁ news₂ : List (Addr × Obj)} {f : Tm → Option Tm} {t : Tm} {ea : Addr} {g h' : Heap} {tk' : Nat} (e : f t = none) (F : Fr h₀ L g m) (R : RaisedSN base g (env :: outer) ea cls news₂ h') (U : g.UpToSlots h') (hs : ∀ p ∈ news₁, p ∈ news₂) :
    KidRaised base h₀ L m env outer cls s₁ news₁ f t (.ref ea) { s₁ with heap := h', toks := tk' } := ⟨ea, g, h', tk', rfl, rfl, e, F, raised_sub hs R, U⟩
/-- the kids' tuple is at hand -/
noncomputable def KidsAt (prog : Program) (w : World) (A : Around) (E : Value → Shared → Prop) (base h₀ : Heap) (L : Addr) (m : PySem.Str → Option Value) (env : Env) (outer : List Env) (elt : Expr) (x : PySem.Str) (scope : Scope) (cl : List (PySem.Str × Addr)) (Q : Value → Shared → Prop) (f : Tm → Option Tm) (kids : List Tm) (cls : Value) (v : Value) (s₁ : Shared) : Prop :=
  ∃ ax n its news₀, v = .ref ax ∧ Fr h₀ L s₁.heap m ∧ News h₀ L s₁.heap news₀ ∧ (ax, ({ cls := .type "tuple", data := .seq its n } : Obj)) ∈ news₀ ∧ its.size ≤ sizeLine ∧ TIns news₀ its.toList kids ∧
    (∀ t ∈ kids, ∀ v C oC m₂ news₁ h tk, TIn news₀ v t → NsObj oC m₂ → m₂ x = some v → Fr h₀ L h m → News h₀ L h news₁ → (C, oC) ∈ news₁ → (∀ p ∈ news₀, p ∈ news₁) →
      wpAny (model prog w) A (eval elt (compEnvC scope cl C env)) (KidDone h₀ L m s₁ news₁ f t) (KidRaised base h₀ L m env outer cls s₁ news₁ f t) { s₁ with heap := h, toks := tk }) ∧
    (∀ D h tk ys ts' news', Fr h₀ L h m → News h₀ L h ((D, lst ys) :: news') → (∀ p ∈ news₀, p ∈ news') → TIns news' ys ts' → Maps f kids ts' → Q (.ref D) { s₁ with heap := h, toks := tk }) ∧
    (∀ ea g h' tk', (∃ t ∈ kids, f t = none) → Fr h₀ L g m → HeldSN base g (env :: outer) ea cls news₀ h' → g.UpToSlots h' → E (.ref ea) { s₁ with heap := h', toks := tk' })

theorem KidsAt.intro {elt : Expr} {x : PySem.Str} {scope : Scope} {cl : List (PySem.Str × Addr)} {Q : Value → Shared → Prop} {f : Tm → Option Tm} {kids : List Tm} {cls : Value} {s₁ : Shared} {ax : Addr} {n : Nat} {its : Array Value} {news₀ : List (Addr × Obj)}
    (F : Fr h₀ L s₁.heap m) (N : News h₀ L s₁.heap news₀) (hm : (ax, ({ cls := .type "tuple", data := .seq its n } : Obj)) ∈ news₀) (hz : its.size ≤ sizeLine) (T : TIns news₀ its.toList kids)
    (elts : ∀ t ∈ kids, ∀ v C oC m₂ news₁ h tk, TIn news₀ v t → NsObj oC m₂ → m₂ x = some v → Fr h₀ L h m → News h₀ L h news₁ → (C, oC) ∈ news₁ → (∀ p ∈ news₀, p ∈ news₁) →
      wpAny (model prog w) A (eval elt (compEnvC scope cl C env)) (KidDone h₀ L m s₁ news₁ f t) (KidRaised base h₀ L m env outer cls s₁ news₁ f t) { s₁ with heap := h, toks := tk })
    (ret : ∀ D h tk ys ts' news', Fr h₀ L h m → News h₀ L h ((D, lst ys) :: news') → (∀ p ∈ news₀, p ∈ news') → TIns news' ys ts' → Maps f kids ts' → Q (.ref D) { s₁ with heap := h, toks := tk })
    (exc : ∀ ea g h' tk', (∃ t ∈ kids, f t = none) → Fr h₀ L g m → HeldSN base g (env :: outer) ea cls news₀ h' → g.UpToSlots h' → E (.ref ea) { s₁ with heap := h', toks := tk' }) :
    KidsAt prog w A E base h₀ L m env outer elt x scope cl Q f kids cls (.ref ax) s₁ := ⟨ax, n, its, news₀, rfl, F, N, hm, hz, T, elts, ret, exc⟩

theorem KidDone.elim {s₁ : Shared} {news₁ : List (Addr × Obj)} {f : Tm → Option Tm} {t : Tm} {y : Value} {G : Shared → Prop}
    (k : ∀ h' tk' news₂ t', Fr h₀ L h' m → News h₀ L h' news₂ → (∀ p ∈ news₁, p ∈ news₂) → f t = some t' → TIn news₂ y t' → G { s₁ with heap := h', toks := tk' }) : ∀ (s₂ : Shared), KidDone h₀ L m s₁ news₁ f t y s₂ → G s₂ := by
  intro s₂ H
  obtain ⟨h', tk', news₂, t', rfl, F, N, hs, e, T⟩ := H
  exact k h' tk' news₂ t' F N hs e T
theorem KidRaised.elim {cls : Value} {s₁ : Shared} {news₁ : List (Addr × Obj)} {f : Tm → Option Tm} {t : Tm} {G : Value → Shared → Prop}
    (k : ∀ ea g h' tk', f t = none → Fr h₀ L g m → RaisedSN base g (env :: outer) ea cls news₁ h' → g.UpToSlots h' → G (.ref ea) { s₁ with heap := h', toks := tk' }) : ∀ (e : Value) (s₂ : Shared), KidRaised base h₀ L m env outer cls s₁ news₁ f t e s₂ → G e s₂ := by
  intro e s₂ H
  obtain ⟨ea, g, h', tk', rfl, rfl, hft, Fg, R, U⟩ := H
  exact k ea g h' tk' hft Fg R U
/-- between two turns -/
noncomputable def KInv (s₁ : Shared) (h₀ : Heap) (L : Addr) (m : PySem.Str → Option Value) (I ax : Addr) (its : Array Value) (news₀ : List (Addr × Obj)) (f : Tm → Option Tm) (kids : List Tm) (k : Nat) (s' : Shared) : Prop :=
  ∃ h' tk i ys ts' m' news', s' = { s₁ with heap := h', toks := tk } ∧ i ≤ its.size ∧ k = its.size + 1 - i ∧ ys.length = i ∧ (h'.IsTupleIter I ax i ∧ h'.IsTuple ax its) ∧ Fr h₀ L h' m ∧ h'.Ns (I + 2) m' ∧
    News h₀ L h' ((I + 1, lst ys) :: news') ∧ (∀ p ∈ news₀, p ∈ news') ∧ (∀ p ∈ news', p.1 ≠ I ∧ p.1 ≠ I + 1 ∧ p.1 ≠ I + 2) ∧ TIns news' ys ts' ∧ Maps f (kids.take i) ts'
theorem KInv.elim {s₁ : Shared} {I ax : Addr} {its : Array Value} {news₀ : List (Addr × Obj)} {f : Tm → Option Tm} {kids : List Tm} {G : Nat → Shared → Prop}
    (c : ∀ h' tk i ys ts' m' news', i ≤ its.size → ys.length = i → (h'.IsTupleIter I ax i ∧ h'.IsTuple ax its) → Fr h₀ L h' m → h'.Ns (I + 2) m' →
      News h₀ L h' ((I + 1, lst ys) :: news') → (∀ p ∈ news₀, p ∈ news') → (∀ p ∈ news', p.1 ≠ I ∧ p.1 ≠ I + 1 ∧ p.1 ≠ I + 2) → TIns news' ys ts' → Maps f (kids.take i) ts' → G (its.size + 1 - i) { s₁ with heap := h', toks := tk }) : ∀ (k : Nat) (s' : Shared), KInv s₁ h₀ L m I ax its news₀ f kids k s' → G k s' := by
  intro k s' H
  obtain ⟨h', tk, i, ys, ts', m', news', rfl, hi, rfl, hyl, hst', F', hn', N', sub', off', T', M'⟩ := H
  exact c h' tk i ys ts' m' news' hi hyl hst' F' hn' N' sub' off' T' M'
theorem ex2 {α : Sort _} {P Q : α → Prop} {G : Prop} (h : ∃ x, P x ∧ Q x) (k : ∀ x, P x → Q x → G) : G := h.elim fun x e => k x e.1 e.2

theorem KidsAt.elim {elt : Expr} {x : PySem.Str} {scope : Scope} {cl : List (PySem.Str × Addr)} {Q : Value → Shared → Prop} {f : Tm → Option Tm} {kids : List Tm} {cls : Value} {s₁ : Shared} {G : Value → Prop}
    (k : ∀ ax n its news₀, Fr h₀ L s₁.heap m → News h₀ L s₁.heap news₀ → (ax, ({ cls := .type "tuple", data := .seq its n } : Obj)) ∈ news₀ → its.size ≤ sizeLine → TIns news₀ its.toList kids →
    (∀ t ∈ kids, ∀ v C oC m₂ news₁ h tk, TIn news₀ v t → NsObj oC m₂ → m₂ x = some v → Fr h₀ L h m → News h₀ L h news₁ → (C, oC) ∈ news₁ → (∀ p ∈ news₀, p ∈ news₁) →
      wpAny (model prog w) A (eval elt (compEnvC scope cl C env)) (KidDone h₀ L m s₁ news₁ f t) (KidRaised base h₀ L m env outer cls s₁ news₁ f t) { s₁ with heap := h, toks := tk }) →
    (∀ D h tk ys ts' news', Fr h₀ L h m → News h₀ L h ((D, lst ys) :: news') → (∀ p ∈ news₀, p ∈ news') → TIns news' ys ts' → Maps f kids ts' → Q (.ref D) { s₁ with heap := h, toks := tk }) →
    (∀ ea g h' tk', (∃ t ∈ kids, f t = none) → Fr h₀ L g m → HeldSN base g (env :: outer) ea cls news₀ h' → g.UpToSlots h' → E (.ref ea) { s₁ with heap := h', toks := tk' }) → G (.ref ax)) : ∀ (v : Value), KidsAt prog w A E base h₀ L m env outer elt x scope cl Q f kids cls v s₁ → G v := by
  intro v H
  obtain ⟨ax, n, its, news₀, rfl, F, N, hmem, hsz, hT, helt, hret, hexc⟩ := H
  exact k ax n its news₀ F N hmem hsz hT helt hret hexc
theorem comp_terms {elt iter : Expr} {x : PySem.Str} {px : Pos} {scope : Scope} {cl : List (PySem.Str × Addr)} {pos : Pos} {Q : Value → Shared → Prop} {f : Tm → Option Tm} {kids : List Tm} {cls : Value}
    (_F₀ : Fr h₀ L s.heap m) (hfr : A.frames = some (env :: outer)) (hf : env.frame = some L) (hh : A.handled = none)
    (hclos : closureFor scope env = pure cl) (hcell : ∀ y ∈ scope.names, y.2 ≠ .cell) (hkind : scope.kind = .function)
    (hnames : ∀ y ∈ scope.names, y.2 = .local → scope.names.lookup y.1 = some .local) (hx : scope.names.lookup x = some .local)
    (h : wpAny (model prog w) A (eval iter env) (KidsAt prog w A E base h₀ L m env outer elt x scope cl Q f kids cls) E s)
    (hs : ∀ x, foldedSetIterable iter env x = pure x := by intro _; rfl) :
    wpAny (model prog w) A (eval (.ListComp elt [⟨.Name x px, iter, [], 0⟩] scope pos) env) Q E s := by
  rw [eval_ListComp]
  refine wpAny_comprehension_free (use := none) rfl hs hclos hkind hnames (wpAny_mono h (fun xv s₁ h₁ => ?_) fun _ _ e => e)
  revert xv
  refine KidsAt.elim fun ax n its news₀ F N hmem hsz hT helt hret hexc => ?_
  have hl : s₁.heap.IsTuple ax its := ⟨_, N.get hmem, rfl, n, rfl⟩
  have hax : ax < s₁.heap.objs.size := Heap.lt_size (N.get hmem)
  refine wpAny_pyIter_tuple hl ?_
  generalize hH1 : s₁.heap.push { cls := .type "tuple_iterator", dict := none, data := .fields #[.ref ax, .int 0 0] } = H1
  refine wpAny_newObj_type (wpAny_newFunctionEnv hcell (by intro y hy; simp at hy) (fun h₁ hns₁ hsb₁ => ?_) hkind)
  dsimp only at hns₁ hsb₁ ⊢
  generalize hI : s₁.heap.objs.size = I at hax ⊢
  have sI : H1.objs.size = I + 1 := by rw [← hH1, Heap.size_push, hI]
  generalize hH2 : H1.push { cls := .type "list", dict := none, data := .seq ([] : List Value).toArray } = H2 at hns₁ hsb₁ ⊢
  have sD : H2.objs.size = I + 2 := by rw [← hH2, Heap.size_push, sI]
  rw [sI]
  rw [sD] at hns₁ hsb₁ ⊢
  have fresh₀ : ∀ a, I ≤ a → h₀.get? a = none := fun a ha => Heap.get?_none_of_le (Nat.le_trans (Nat.le_of_lt (Nat.lt_of_le_of_lt F.above F.ns.lt)) (hI ▸ ha))
  have hLI : L < I := hI ▸ F.ns.lt
  have low : ∀ b o, s₁.heap.get? b = some o → b < I := fun b o e => hI ▸ Heap.lt_size e
  have old : ∀ b o, s₁.heap.get? b = some o → h₁.get? b = some o := fun b o e => by
    have := low b o e
    exact hsb₁.extBut b o (by (dsimp only [Addr] at *; omega)) (Heap.get?_push_of_some _ (hH2 ▸ Heap.get?_push_of_some _ (hH1 ▸ Heap.get?_push_of_some _ e)))
  have hacc : h₁.get? (I + 1) = some (lst []) := hsb₁.extBut _ _ (by (dsimp only [Addr] at *; omega)) (Heap.get?_push_of_some _ (hH2 ▸ Heap.get?_push_at sI.symm rfl))
  have hit : h₁.get? I = some { cls := .type "tuple_iterator", dict := none, data := .fields #[.ref ax, .int 0 0] } :=
    hsb₁.extBut _ _ (by (dsimp only [Addr] at *; omega)) (Heap.get?_push_of_some _ (hH2 ▸ Heap.get?_push_of_some _ (hH1 ▸ Heap.get?_push_at hI.symm rfl)))
  have W := Walks.tuple (prog := prog) (w := w) hh I ax (Nat.ne_of_lt hax) its
  have nlow : ∀ p ∈ news₀, p.1 < I := fun p hp => low _ _ (N p hp).1
  have loop : ∀ s₃ : Shared, s₃ = { s₁ with heap := h₁, toks := s₁.toks + ([] : List (PySem.Str × Value)).length } →
      codeAny (model prog w) A (.compLoop (.ListComp elt [⟨.Name x px, iter, [], 0⟩] scope pos) 0 (.ref I) (.ref (I + 1)) (compEnvC scope cl (I + 2) env))
        (compPost (model prog w) A E none Q (.ref (I + 1)) (I + 2)) s₃ := by
    rintro s₃ rfl
    refine codeAny_compLoop_tests
      (KInv s₁ h₀ L m I ax its news₀ f kids) ?_ (its.size + 1)
      ⟨h₁, _, 0, [], [], _, news₀, rfl, Nat.zero_le _, rfl, rfl, ⟨⟨_, hit, rfl, rfl⟩, _, old _ _ (N.get hmem), rfl, n, rfl⟩, F.keeps old, hns₁, fun p hp => ?_, fun _ hp => hp, fun p hp => ?_, .nil, by rw [List.take_zero]; exact .nil⟩
    · refine KInv.elim fun h' tk i ys ts' m' news' hi hyl hst' F' hn' N' sub' off' T' M' => ?_
      by_cases hlt : i < its.size
      · refine W.item i _ _ _ hlt hst' fun v h₂ tk₂ hPv hst₂ hk₂ => ?_
        have hk₂ : ∀ b o, b ≠ I → h'.get? b = some o → h₂.get? b = some o := fun b o hb => hk₂ b o (by simpa using hb)
        refine ex2 (hT.at i v (by rw [Array.getElem?_toList]; exact hPv)) fun t hkt hvt => ?_
        have hns₂ : h₂.Ns (I + 2) m' := hn'.at' fun o e => hk₂ _ o (by (dsimp only [Addr] at *; omega)) e
        refine wpAny_assign_Name (wpAny_storeName_local (lookup_relabel_local hx) hns₂ (fun h₃ hn₃ hs₃ => ?_) (by simp [compEnvC, relabel, hkind]))
        refine wpAny_tests_nil ?_
        simp only [if_true]
        have hs₃ : Heap.SameBut (I + 2) h₂ h₃ := hs₃
        have k₃ : ∀ b o, b ≠ I → b ≠ I + 2 → h'.get? b = some o → h₃.get? b = some o := fun b o h1 h2 e => hs₃.extBut _ _ h2 (hk₂ b o h1 e)
        have hst₃ : h₃.IsTupleIter I ax (i + 1) ∧ h₃.IsTuple ax its := W.frame _ _ _ hst₂ fun b hb o e => by
          refine hs₃.extBut b o (fun q => ?_) e
          rcases List.mem_cons.mp hb with z | hb
          · (dsimp only [Addr] at *; omega)
          · have := List.mem_singleton.mp hb; (dsimp only [Addr] at *; omega)
        have keepL : ∀ b o, h₀.get? b = some o → b < I := fun b o e => by
          rcases Nat.lt_or_ge b I with z | z
          · exact z
          · rw [fresh₀ b z] at e; cases e
        have F₃ : Fr h₀ L h₃ m := ⟨F'.ns.at' fun o e => k₃ _ o (by (dsimp only [Addr] at *; omega)) (by (dsimp only [Addr] at *; omega)) e, fun b o e => by
          have := keepL b o e
          exact k₃ b o (by (dsimp only [Addr] at *; omega)) (by (dsimp only [Addr] at *; omega)) (F'.keep b o e), F'.above⟩
        refine ex2 (id hst₃.1) fun oI heI _ => ?_
        refine ex2 (ns_obj hn₃) fun oC heC hoC => ?_
        have N₃ : News h₀ L h₃ ((I, oI) :: (I + 2, oC) :: (I + 1, lst ys) :: news') := fun p hp => by
          rcases List.mem_cons.mp hp with rfl | hp
          · exact ⟨heI, by show I ≠ L; (dsimp only [Addr] at *; omega), fresh₀ _ (Nat.le_refl _)⟩
          · rcases List.mem_cons.mp hp with rfl | hp
            · exact ⟨heC, by show I + 2 ≠ L; (dsimp only [Addr] at *; omega), fresh₀ _ (by show I ≤ I + 2; (dsimp only [Addr] at *; omega))⟩
            · have z := N' p hp
              refine ⟨k₃ _ _ ?_ ?_ z.1, z.2⟩
              · rcases List.mem_cons.mp hp with rfl | hp
                · show I + 1 ≠ I; (dsimp only [Addr] at *; omega)
                · exact (off' p hp).1
              · rcases List.mem_cons.mp hp with rfl | hp
                · show I + 1 ≠ I + 2; (dsimp only [Addr] at *; omega)
                · exact (off' p hp).2.2
        refine wpAny_mono (helt t (List.mem_of_getElem? hkt) v (I + 2) oC _ _ h₃ _ hvt hoC (by simp) F₃ N₃ (.tail _ (.head _)) (fun p hp => .tail _ (.tail _ (.tail _ (sub' p hp))))) (fun y s₄ h₄ => ?_) fun e s₄ h₄ => ?_
        · revert s₄
          refine KidDone.elim fun h₄ tk₄ news₂ t' F₄ N₄ sub₄ hft hTy => ?_
          have zI := (N₄ _ (sub₄ _ (.head _))).1
          have zC := (N₄ _ (sub₄ _ (.tail _ (.head _)))).1
          have zD := (N₄ _ (sub₄ _ (.tail _ (.tail _ (.head _))))).1
          have zax := (N₄ _ (sub₄ _ (.tail _ (.tail _ (.tail _ (sub' _ hmem)))))).1
          refine append_at (hsz := by show ys.toArray.size ≤ sizeLine; rw [List.size_toArray, hyl]; exact Nat.le_trans hi hsz) zD fun h₅ hs₅ hD₅ => ?_
          refine ex2 hst₃.1 fun oI' q1 q2 => ?_
          have eI : oI' = oI := Option.some.inj (q1.symm.trans heI)
          refine ⟨its.size + 1 - (i + 1), by omega, h₅, tk₄, i + 1, ys ++ [y], ts' ++ [t'], _, news₂.filter (fun p => decide (p.1 ≠ I ∧ p.1 ≠ I + 1 ∧ p.1 ≠ I + 2)), rfl, hlt, rfl, by rw [List.length_append, List.length_singleton, hyl], ⟨⟨oI, hs₅.extBut _ _ (by (dsimp only [Addr] at *; omega)) zI, eI ▸ q2⟩, _, hs₅.extBut _ _ (by (dsimp only [Addr] at *; omega)) zax, rfl, n, rfl⟩,
            F₄.change hs₅ (by (dsimp only [Addr] at *; omega)) (fresh₀ _ (by (dsimp only [Addr] at *; omega))), (hoC.ns zC).sameBut hs₅ (by (dsimp only [Addr] at *; omega)), fun p hp => ?_, fun p hp => ?_, fun p hp => ?_, (T'.sub fun p hp ht => ?_).snoc (hTy.sub fun p hp ht => ?_), ?_⟩
          · rcases List.mem_cons.mp hp with rfl | hp
            · exact ⟨hD₅.trans (congrArg some (lst_snoc ys y)), by show I + 1 ≠ L; (dsimp only [Addr] at *; omega), fresh₀ _ (by show I ≤ I + 1; (dsimp only [Addr] at *; omega))⟩
            · have hp' := List.mem_filter.mp hp
              have := of_decide_eq_true hp'.2
              exact ⟨hs₅.extBut _ _ this.2.1 (N₄ p hp'.1).1, (N₄ p hp'.1).2⟩
          · have := nlow p hp
            exact List.mem_filter.mpr ⟨sub₄ _ (.tail _ (.tail _ (.tail _ (sub' _ hp)))), decide_eq_true ⟨by (dsimp only [Addr] at *; omega), by (dsimp only [Addr] at *; omega), by (dsimp only [Addr] at *; omega)⟩⟩
          · exact of_decide_eq_true (List.mem_filter.mp hp).2
          · exact List.mem_filter.mpr ⟨sub₄ _ (.tail _ (.tail _ (.tail _ hp))), decide_eq_true ⟨(off' p hp).1, (off' p hp).2.1, (off' p hp).2.2⟩⟩
          · refine List.mem_filter.mpr ⟨hp, decide_eq_true ⟨fun z => ?_, fun z => ?_, fun z => ?_⟩⟩
            · have := (N₄ p hp).1; rw [z, zI] at this; injection this with this
              obtain ⟨_, _, e'⟩ := ht
              have q3 := q2.1
              have this' : oI = p.2 := this
              rw [eI, this', e'] at q3
              exact absurd (Value.type.inj q3) (by decide)
            · have := (N₄ p hp).1; rw [z, zD] at this; injection this with this
              obtain ⟨_, _, e'⟩ := ht
              have q3 := congrArg Obj.cls (this.trans e')
              exact absurd (Value.type.inj q3) (by decide)
            · have := (N₄ p hp).1; rw [z, zC] at this; injection this with this
              obtain ⟨es, ep, hd, _⟩ := hoC
              obtain ⟨_, _, e'⟩ := ht
              have this' : oC = p.2 := this
              rw [this', e'] at hd
              cases hd
          · rw [List.take_add_one, hkt]
            exact M'.snoc hft
        · revert e s₄
          refine KidRaised.elim fun ea g h₄ tk₄ hft Fg R U => ?_
          refine note_comp (env := env) rfl hfr hf R U fun h₅ H₅ U₅ => ?_
          have heC5 : h₅.get? (I + 2) = some oC := by
            obtain ⟨B, a0, fl, b1, b2, b3, b4⟩ := H₅
            exact b4.1 _ _ (b3 _ (.tail _ (.head _))).1
          refine ⟨_, hoC.ns heC5, fun h₆ hs₆ cenv hce => ?_⟩
          have gC : g.get? (I + 2) = none := by
            obtain ⟨B, a0, fl, b1, b2, b3, b4⟩ := H₅
            exact (b3 _ (.tail _ (.head _))).2.1
          have H₆ : HeldSN base g (env :: outer) ea cls news₀ h₆ := held_but H₅ (.tail _ (.head _)) hs₆ (fun p hp => .tail _ (.tail _ (.tail _ (sub' p hp)))) (fun p hp => by have := nlow p hp; (dsimp only [Addr] at *; omega))
          exact held_passOn H₆ (slots_but U₅ hs₆ gC) fun h₇ H₇ U₇ => hexc ea g h₇ _ ⟨t, List.mem_of_getElem? hkt, hft⟩ Fg H₇ U₇
      · obtain rfl : i = its.size := Nat.le_antisymm hi (Nat.not_lt.mp hlt)
        refine W.done _ _ _ hst' fun h₂ tk₂ hk₂ => ?_
        have hk₂ : ∀ b o, b ≠ I → h'.get? b = some o → h₂.get? b = some o := fun b o hb => hk₂ b o (by simpa using hb)
        refine ⟨m', hn'.at' fun o e => hk₂ _ o (by (dsimp only [Addr] at *; omega)) e, fun h'' hs'' => ?_⟩
        have hs'' : Heap.SameBut (I + 2) h₂ h'' := hs''
        have k₃ : ∀ b o, b ≠ I → b ≠ I + 2 → h'.get? b = some o → h''.get? b = some o := fun b o h1 h2 e => hs''.extBut _ _ h2 (hk₂ b o h1 e)
        have keepL : ∀ b o, h₀.get? b = some o → b < I := fun b o e => by
          rcases Nat.lt_or_ge b I with z | z
          · exact z
          · rw [fresh₀ b z] at e; cases e
        have hkl : kids.take its.size = kids := by
          have := hT.len
          rw [Array.length_toList] at this
          rw [this, List.take_length]
        refine hret (I + 1) h'' tk₂ ys ts' news' ⟨F'.ns.at' fun o e => k₃ _ o (by (dsimp only [Addr] at *; omega)) (by (dsimp only [Addr] at *; omega)) e, fun b o e => by
          have := keepL b o e
          exact k₃ b o (by (dsimp only [Addr] at *; omega)) (by (dsimp only [Addr] at *; omega)) (F'.keep b o e), F'.above⟩ (fun p hp => ⟨k₃ _ _ ?_ ?_ (N' p hp).1, (N' p hp).2⟩) sub' T' (hkl ▸ M')
        · rcases List.mem_cons.mp hp with rfl | hp
          · show I + 1 ≠ I; (dsimp only [Addr] at *; omega)
          · exact (off' p hp).1
        · rcases List.mem_cons.mp hp with rfl | hp
          · show I + 1 ≠ I + 2; (dsimp only [Addr] at *; omega)
          · exact (off' p hp).2.2
    · rcases List.mem_cons.mp hp with rfl | hp
      · exact ⟨hacc, by show I + 1 ≠ L; (dsimp only [Addr] at *; omega), fresh₀ _ (by show I ≤ I + 1; (dsimp only [Addr] at *; omega))⟩
      · exact ⟨old _ _ (N p hp).1, (N p hp).2⟩
    · have := nlow p hp
      exact ⟨by (dsimp only [Addr] at *; omega), by (dsimp only [Addr] at *; omega), by (dsimp only [Addr] at *; omega)⟩
  exact codeAny_compStart_list (loop _ rfl) (W.self 0 _ _ _ ⟨⟨_, hit, rfl, rfl⟩, _, old _ _ (N.get hmem), rfl, n, rfl⟩ (loop _ rfl))
end

-- any term, by its name and its kids
noncomputable def nameT : Tm → PySem.Str
  | .k => Str.ofString "k"
  | .var i => varStr i
  | .lam _ => Str.ofString "lam"
  | .app _ _ => Str.ofString "app"
noncomputable def kidsT : Tm → List Tm
  | .lam t => [t]
  | .app a b => [a, b]
  | _ => []
noncomputable def setKids : Tm → List Tm → Tm
  | .lam _, [x] => .lam x
  | .app _ _, [x, y] => .app x y
  | t, _ => t
theorem kidsT_le (t : Tm) : (kidsT t).length ≤ 2 := by cases t <;> simp [kidsT]
theorem TIn.view {P : Value → Prop} {news : List (Addr × Obj)} {t : Tm}
    (k : ∀ a tk n vs, (a, ({ cls := .type "tuple", data := .seq (Value.str (nameT t) tk :: vs).toArray n } : Obj)) ∈ news → TIns news vs (kidsT t) → vs.length ≤ 2 → TIn news (.ref a) t → P (.ref a)) : ∀ (v : Value), TIn news v t → P v := by
  intro v h
  cases h with
  | k hm => exact k _ _ _ [] hm .nil (by decide) (.k hm)
  | var hm => exact k _ _ _ [] hm .nil (by decide) (.var hm)
  | lam hm h1 => exact k _ _ _ [_] hm (.cons h1 .nil) (by simp) (.lam hm h1)
  | app hm h1 h2 => exact k _ _ _ [_, _] hm (.cons h1 (.cons h2 .nil)) (by simp) (.app hm h1 h2)
theorem TIn.build {news : List (Addr × Obj)} {t : Tm} {D : Addr} {tk : Tok} {n : Nat} {ys : List Value} {ts : List Tm} (hm : (D, ({ cls := .type "tuple", data := .seq (Value.str (nameT t) tk :: ys).toArray n } : Obj)) ∈ news) (T : TIns news ys ts) (hl : ts.length = (kidsT t).length) : TIn news (.ref D) (setKids t ts) := by
  cases t with
  | k => cases T with | nil => exact .k hm | cons => simp [kidsT] at hl
  | var i => cases T with | nil => exact .var hm | cons => simp [kidsT] at hl
  | lam b => cases T with | nil => simp [kidsT] at hl | cons h T => cases T with | nil => exact .lam hm h | cons => simp [kidsT] at hl
  | app a b => cases T with
    | nil => simp [kidsT] at hl
    | cons h T => cases T with
      | nil => simp [kidsT] at hl
      | cons h' T => cases T with | nil => exact .app hm h h' | cons => simp [kidsT] at hl
theorem Maps.len {f : Tm → Option Tm} {ts ts' : List Tm} (h : Maps f ts ts') : ts'.length = ts.length := by
  induction h with
  | nil => rfl
  | cons _ _ ih => simp [ih]

end
section
-- M1
/-- `moved_within(t, by, 0, around)` -/
noncomputable def moved (by_ : Nat) (around : Nat) : Tm → Option Tm
  | .k => some .k
  | .var n => if around ≤ n then (if 999999999 < n + by_ then none else some (.var (n + by_))) else some (.var n)
  | .lam t => (moved by_ (around + 1) t).map .lam
  | .app a b => match moved by_ around a with
    | none => none
    | some a' => (moved by_ around b).map (.app a')
theorem mv_low {by_ around i : Nat} (h : ¬ around ≤ i) : moved by_ around (.var i) = some (.var i) := by simp only [moved, if_neg h]
theorem mv_up {by_ around i : Nat} (h : around ≤ i) (h' : ¬ 999999999 < i + by_) : moved by_ around (.var i) = some (.var (i + by_)) := by simp only [moved, if_pos h, if_neg h']
theorem mv_out {by_ around i : Nat} (h : around ≤ i) (h' : 999999999 < i + by_) : moved by_ around (.var i) = none := by simp only [moved, if_pos h, if_pos h']
noncomputable def MovedFn (w : World) (mean : ExcName → Option Value) (mg mb : PySem.Str → Option Value) (by_ around : Nat) (t : Tm) (n : Nat) : Prop :=
  ∀ (news : List (Addr × Obj)) (v : Value) (tk1 tk2 tk3 : Tok), TIn news v t → Fn w mean mg mb 126 n [v, .int by_ tk1, .int 0 tk2, .int around tk3] news (fun r news' => (∃ t', moved by_ around t = some t' ∧ TIn news' r t') ∧ ∀ p ∈ news, p ∈ news') (moved by_ around t = none)

theorem moved_kids {by_ around : Nat} {t : Tm} {ts : List Tm} (h : idxT t < (around : Int)) (M : Maps (moved by_ (around + belowN t)) (kidsT t) ts) : moved by_ around t = some (setKids t ts) := by
  cases t with
  | k => rfl
  | var i => exact mv_low (by simp only [idxT] at h; omega)
  | lam b => cases M with | cons e M => cases M with | nil => simp only [belowN] at e; simp only [moved, e]; rfl
  | app a b => cases M with | cons e M => cases M with | cons e' M => cases M with | nil => simp only [belowN, Nat.add_zero] at e e'; simp only [moved, e, e']; rfl
theorem moved_none {by_ around : Nat} {t x : Tm} (h : x ∈ kidsT t) (e : moved by_ (around + belowN t) x = none) : moved by_ around t = none := by
  cases t with
  | k => cases h
  | var i => cases h
  | lam b => cases List.mem_singleton.mp h; simp only [belowN] at e; simp only [moved, e]; rfl
  | app a b =>
    simp only [belowN, Nat.add_zero] at e
    rcases List.mem_cons.mp h with rfl | h
    · simp only [moved, e]
    · cases List.mem_singleton.mp h
      simp only [moved, e]
      split <;> rfl
theorem variable_all (w : World) (mean : ExcName → Option Value) (mg mb : PySem.Str → Option Value) (news : List (Addr × Obj)) (i : Int) (tk : Tok) (h0 : ¬ i < 0) :
    Fn w mean mg mb 114 4 [.int i tk] news (fun r news' => (¬ 999999999 < i ∧ TIn news' r (.var i.toNat)) ∧ ∀ p ∈ news, p ∈ news') (999999999 < i) := by
  by_cases h1 : 999999999 < i
  · have C := variable_no w mean mg mb news i tk h0 h1
    unfold Fn at C ⊢
    intro dp un gd cn cs a ccd cl outer A₀ base h₀ L m hp9 gs9 dr9 tks9 os9 Q E B F X N T hk hd9 hu9 hret hexc
    exact C dp un gd cn cs a ccd cl outer A₀ base h₀ L m hp9 gs9 dr9 tks9 os9 Q E B F X N T hk hd9 hu9 (fun _ _ _ _ _ _ x => x.elim) (fun _ => hexc h1)
  · have C := variable_ok w mean mg mb news i tk h0 h1
    unfold Fn at C ⊢
    intro dp un gd cn cs a ccd cl outer A₀ base h₀ L m hp9 gs9 dr9 tks9 os9 Q E B F X N T hk hd9 hu9 hret hexc
    exact C dp un gd cn cs a ccd cl outer A₀ base h₀ L m hp9 gs9 dr9 tks9 os9 Q E B F X N T hk (by omega) (by omega) (fun r news' h' tk' F' N' x => hret r news' h' tk' F' N' ⟨⟨h1, x.1⟩, x.2⟩) (fun x => x.elim)
theorem moved_same (w : World) (mean : ExcName → Option Value) (mg mb : PySem.Str → Option Value) (by_ : Nat) (around : Nat) (t : Tm) (ho : okTop t) (hlt : idxT t < (around : Int)) (n : Nat) (IH : ∀ x ∈ kidsT t, MovedFn w mean mg mb by_ (around + belowN t) x n) : MovedFn w mean mg mb by_ around t (n + 8) := by
  intro news v tk1 tk2 tk3 hR
  revert v
  refine TIn.view fun a0 tk0 n0 vs hm hT hl2 hR => ?_
  unfold Fn
  intro dp un gd cn cs a ccd cl outer A₀ base h₀ L m hp9 gs9 dr9 tks9 os9 Q E B F X N T hk hd9 hu9 hret hexc
  refine wpAny_call ?_
  k_with_none
  (k_with "eval Name" => ((with_reducible show wpAny _ _ (eval (Expr.Name _ _) (compEnvC _ _ _ _)) _ _ _); k_dflt (refine' lcf_cell (by k_asm) rfl (by k_mem) (by k_asm) ?_ rfl rfl; k_whole)))
  k_dflt (refine' code_defC ?k1 ?k2 ?k3 ?k4 ?k5 ?kA ?kF ?kK ?k6 ?k7 ?k8 ?k9 ?kB ?kD ?_ ?c2 ?c3 ?c4; (case kA => exact rfl); (case kF => exact rfl); (case kK => assumption); (case k1 => k_asm); (case k2 => k_asm); (case k3 => k_asm); (case k4 => k_asm); (case k5 => k_asm); (case k6 => k_is); (case k7 => k_is); (case k8 => k_room); (case k9 => exact BindsTo.of_eq rfl); (case kB => exact rfl); (case kD => decide +kernel); (case c2 => exact rfl); (case c3 => exact rfl); (case c4 => exact rfl); k_whole; intro g' L' h' tk' cells' FG' F' N' Y' B' X' T' l1; k_cells Y'; (try simp only [List.cons_append, List.nil_append] at N'); (try dsimp only); (try k_fold))
  (k_with "call ref" => k_dflt ((refine' Fn.use (index_ok _ _ _ _ _ _ t _ ho) (by k_asm) (by k_asm) (by k_asm) (by k_asm) (by k_asm) (by first | exact rfl | assumption) (by k_room) (by k_room) ?_ ?_; all_goals (try exact False.elim)); (first | assumption | (refine TIn.mono ?_ ‹_›; intro p9 h9; tb_rel)); intro r9 news9 h9 tk9 F' N'; revert r9; refine cpsI ?_; intro tk9 s9))
  (k_with "call ref" => k_dflt ((refine' Fn.use (below_ok _ _ _ _ _ _ t _) (by k_asm) (by k_asm) (by k_asm) (by k_asm) (by k_asm) (by first | exact rfl | assumption) (by k_room) (by k_room) ?_ ?_; all_goals (try exact False.elim)); (first | assumption | (refine TIn.mono ?_ ‹_›; intro p9 h9; tb_rel)); intro r9 news9 h9 tk9 F' N'; revert r9; refine cpsI ?_; intro tk9 s9))
  (k_with "eval ListComp" => k_dflt (refine' comp_terms (kids := kidsT t) (f := moved by_ (around + belowN t)) (cls := .ref 65) (base := base) ?hF0 ?hfr ?hf ?hh ?hclos ?hcell ?hkind ?hnames ?hx ?_ ?hs; (case hF0 => k_asm); (case hfr => exact rfl); (case hf => exact rfl); (case hh => exact rfl); (case hclos => with_unfolding_all rfl); (case hcell => decide); (case hkind => exact rfl); (case hnames => decide); (case hx => exact rfl); (case hs => intro _; exact rfl)))
  (k_with "subscriptTail Name Slice ref ref" => k_dflt (refine slice_tup1 (by k_asm) (by k_asm) (by tb_rel) (by (simp only [List.length_cons, List.length_nil]; omega)) ?_ (by with_unfolding_all rfl) (by (intro _; with_unfolding_all rfl)); intro D' h' F' N'; (try dsimp only)))
  (k_with "subscriptTail Name Constant ref int" => k_dflt (refine' r_first ?N5 ?a5 ?_ ?c5 ?d5; (case N5 => k_asm); (case a5 => tb_rel); (case c5 => with_unfolding_all rfl); (case d5 => intro _; with_unfolding_all rfl)))
  (k_with "binaryOp Add ref ref" => k_dflt (refine' tup_addG ?F6 ?N6 ?T6 ?b6 ?z6 ?_; (case F6 => k_asm); (case N6 => k_asm); (case T6 => tb_rel); (case b6 => tb_rel); (case z6 => (simp only [List.length_cons, List.length_nil]; omega)); intro D9 n9 hD9 newsD F' N' sD mD))
  k_steps
  refine' KidsAt.intro ?F7 ?N7 ?m7 ?z7 ?T7 ?_ ?_ ?x7
  case F7 => k_asm
  case N7 => k_asm
  case m7 => exact List.Mem.head _
  case z7 => (rw [sizeLine_eq, List.size_toArray]; omega)
  case T7 => exact TIns.mono (by (intro p9 h9; tb_rel)) hT
  case x7 =>
    rintro ea' g' h' tk' ⟨t', ht', hn'⟩ Fg' H' U'
    (try k_unfold)
    (try dsimp only)
    refine leave_heldE Fg' rfl H' U' rfl fun h'' R'' U'' => ?_
    dsimp only
    exact hexc (moved_none ht' hn') _ _ _ _ (by assumption) (raised_sub (by (intro p9 h9; tb_rel)) R'') U''
  · intro t' ht' v' C' oC' m₂' news₁' h' tk' T' hC' hx' F' N' mC' s'
    (k_with "call ref" => k_dflt ((refine' Fn.use (IH t' ht' _ _ _ _ _ _) (by k_asm) (by k_asm) (by k_asm) (by k_asm) (by k_asm) (by first | exact rfl | assumption) (by k_room) (by k_room) ?_ ?_); (first | assumption | (refine TIn.mono ?_ ‹_›; intro p9 h9; tb_rel)); rotate_left; (intro e9 ea9 g9 h9 tk9 F9 R9 U9; exact KidRaised.of e9 F9 R9 U9 (by (intro p9 h9; tb_rel))); intro r9 news9 h9 tk9 F' N'; refine cpsT ?_; intro t9 e9 T9 s9))
    k_steps
    exact KidDone.of (by k_asm) (by k_asm) (by (intro p9 h9; tb_rel)) e9 T9
  · intro D' h' tk' ys' ts' news' F' N' s' T' M'
    have hl3 := T'.len
    have hl4 := M'.len
    have hl5 := kidsT_le t
    k_steps
    refine hret _ _ _ _ (by k_asm) (by k_asm) ⟨⟨_, moved_kids hlt M', ?_⟩, by (intro p9 h9; tb_rel)⟩
    exact TIn.build mD (TIns.mono (by (intro p9 h9; tb_rel)) T') hl4
theorem moved_var (w : World) (mean : ExcName → Option Value) (mg mb : PySem.Str → Option Value) (by_ : Nat) (around : Nat) (i : Nat) (ho : okIx i) (hge : around ≤ i) (n : Nat) : MovedFn w mean mg mb by_ around (.var i) (n + 8) := by
  intro news v tk1 tk2 tk3 hR
  revert v
  refine TIn.view fun a0 tk0 n0 vs hm hT hl2 hR => ?_
  unfold Fn
  intro dp un gd cn cs a ccd cl outer A₀ base h₀ L m hp9 gs9 dr9 tks9 os9 Q E B F X N T hk hd9 hu9 hret hexc
  refine wpAny_call ?_
  k_with_none
  k_dflt (refine' code_defC ?k1 ?k2 ?k3 ?k4 ?k5 ?kA ?kF ?kK ?k6 ?k7 ?k8 ?k9 ?kB ?kD ?_ ?c2 ?c3 ?c4; (case kA => exact rfl); (case kF => exact rfl); (case kK => assumption); (case k1 => k_asm); (case k2 => k_asm); (case k3 => k_asm); (case k4 => k_asm); (case k5 => k_asm); (case k6 => k_is); (case k7 => k_is); (case k8 => k_room); (case k9 => exact BindsTo.of_eq rfl); (case kB => exact rfl); (case kD => decide +kernel); (case c2 => exact rfl); (case c3 => exact rfl); (case c4 => exact rfl); k_whole; intro g' L' h' tk' cells' FG' F' N' Y' B' X' T' l1; k_cells Y'; (try simp only [List.cons_append, List.nil_append] at N'); (try dsimp only); (try k_fold))
  (k_with "call ref" => k_dflt ((refine' Fn.use (index_ok _ _ _ _ _ _ (.var i) _ ho) (by k_asm) (by k_asm) (by k_asm) (by k_asm) (by k_asm) (by first | exact rfl | assumption) (by k_room) (by k_room) ?_ ?_; all_goals (try exact False.elim)); (first | assumption | (refine TIn.mono ?_ ‹_›; intro p9 h9; tb_rel)); intro r9 news9 h9 tk9 F' N'; revert r9; refine cpsI ?_; intro tk9 s9; dsimp only [idxT]))
  (k_with "call ref" => k_dflt ((refine' Fn.use (variable_all _ _ _ _ _ ((i : Int) + (by_ : Int)) _ (by omega)) (by k_asm) (by k_asm) (by k_asm) (by k_asm) (by k_asm) (by first | exact rfl | assumption) (by k_room) (by k_room) ?_ ?_); rotate_left; (intro e9 ea9 g9 h9 tk9 Fg' R' U'; (try k_unfold); (try dsimp only); refine leave_onE Fg' rfl R' U' rfl fun h'' R'' U'' => ?_; dsimp only; exact hexc (mv_out hge (by omega)) _ _ _ _ (by assumption) (raised_sub (by (intro p9 h9; tb_rel)) R'') U''); intro r9 news9 h9 tk9 F' N' R9; obtain ⟨⟨l9, T9⟩, s9⟩ := R9))
  k_steps
  rw [show ((i : Int) + (by_ : Int)).toNat = i + by_ by omega] at T9
  exact hret _ _ _ _ (by k_asm) (by k_asm) ⟨⟨_, mv_up hge (by omega), T9⟩, by (intro p9 h9; tb_rel)⟩

end
section
-- M2
theorem Fn.wider {w : World} {mean : ExcName → Option Value} {mg mb : PySem.Str → Option Value} {f : Addr} {nd nd' : Nat} {vs : List Value} {news : List (Addr × Obj)} {ret : Value → List (Addr × Obj) → Prop} {exc : Prop} (h : Fn w mean mg mb f nd vs news ret exc) (hl : nd ≤ nd') : Fn w mean mg mb f nd' vs news ret exc := by
  unfold Fn at h ⊢
  intro dp un gd cn cs a ccd cl outer A₀ base h₀ L m hp9 gs9 dr9 tks9 os9 Q E B F X N T hk hd9 hu9 hret hexc
  exact h dp un gd cn cs a ccd cl outer A₀ base h₀ L m hp9 gs9 dr9 tks9 os9 Q E B F X N T hk (by omega) (by omega) hret hexc
noncomputable def Tm.hgt : Tm → Nat
  | .k => 0
  | .var _ => 0
  | .lam t => t.hgt + 1
  | .app a b => max a.hgt b.hgt + 1
noncomputable def Tm.ok : Tm → Prop
  | .k => True
  | .var n => okIx n
  | .lam t => t.ok
  | .app a b => a.ok ∧ b.ok
theorem MovedFn.wider {w : World} {mean : ExcName → Option Value} {mg mb : PySem.Str → Option Value} {by_ around : Nat} {t : Tm} {n n' : Nat} (h : MovedFn w mean mg mb by_ around t n) (hl : n ≤ n') : MovedFn w mean mg mb by_ around t n' :=
  fun news v tk1 tk2 tk3 hR => (h news v tk1 tk2 tk3 hR).wider hl
theorem moved_ok (w : World) (mean : ExcName → Option Value) (mg mb : PySem.Str → Option Value) (by_ : Nat) : ∀ (t : Tm), t.ok → ∀ (around : Nat), MovedFn w mean mg mb by_ around t (8 * t.hgt + 8) := by
  intro t
  induction t with
  | k => intro _ around; exact moved_same w mean mg mb by_ around .k trivial (by simp only [idxT]; omega) 0 (fun x h => nomatch h)
  | var i =>
    intro ho around
    by_cases h1 : around ≤ i
    · exact moved_var w mean mg mb by_ around i ho h1 0
    · exact moved_same w mean mg mb by_ around (.var i) ho (by simp only [idxT]; omega) 0 (fun x h => nomatch h)
  | lam t ih =>
    intro ho around
    exact (moved_same w mean mg mb by_ around (.lam t) trivial (by simp only [idxT]; omega) (8 * t.hgt + 8) (fun x h => by cases List.mem_singleton.mp h; exact ih ho (around + 1))).wider (by show 8 * t.hgt + 8 + 8 ≤ 8 * (t.hgt + 1) + 8; omega)
  | app a b iha ihb =>
    intro ho around
    refine (moved_same w mean mg mb by_ around (.app a b) trivial (by simp only [idxT]; omega) (8 * max a.hgt b.hgt + 8) (fun x h => ?_)).wider (by show 8 * max a.hgt b.hgt + 8 + 8 ≤ 8 * (max a.hgt b.hgt + 1) + 8; omega)
    rcases List.mem_cons.mp h with rfl | h
    · exact (iha ho.1 around).wider (by omega)
    · cases List.mem_singleton.mp h
      exact (ihb ho.2 around).wider (by omega)

/-- shifted(t, by, 0) -/
noncomputable def ShiftFn (w : World) (mean : ExcName → Option Value) (mg mb : PySem.Str → Option Value) (by_ : Nat) (t : Tm) (n : Nat) : Prop :=
  ∀ (news : List (Addr × Obj)) (v : Value) (tk1 tk2 : Tok), TIn news v t → Fn w mean mg mb 133 n [v, .int by_ tk1, .int 0 tk2] news (fun r news' => (∃ t', moved by_ 0 t = some t' ∧ TIn news' r t') ∧ ∀ p ∈ news, p ∈ news') (moved by_ 0 t = none)
theorem shifted_ok (w : World) (mean : ExcName → Option Value) (mg mb : PySem.Str → Option Value) (by_ : Nat) (t : Tm) (n : Nat) (IH : MovedFn w mean mg mb by_ 0 t n) : ShiftFn w mean mg mb by_ t (n + 4) := by
  intro news v tk1 tk2 hR
  revert v
  refine TIn.view fun av tk0 n0 vs hm hT hl2 hR => ?_
  unfold Fn
  intro dp un gd cn cs a ccd cl outer A₀ base h₀ L m hp9 gs9 dr9 tks9 os9 Q E B F X N T hk hd9 hu9 hret hexc
  refine wpAny_call ?_
  k_with_none
  k_dflt ktr_enter
  (k_with "call ref" => k_dflt ((refine' Fn.use (IH _ _ _ _ _ _) (by k_asm) (by k_asm) (by k_asm) (by k_asm) (by k_asm) (by first | exact rfl | assumption) (by k_room) (by k_room) ?_ ?_); (first | assumption | (refine TIn.mono ?_ ‹_›; intro p9 h9; tb_rel)); rotate_left; (intro e9 ea9 g9 h9 tk9 Fg' R' U'; (try k_unfold); (try dsimp only); refine leave_onE Fg' rfl R' U' rfl fun h'' R'' U'' => ?_; dsimp only; exact hexc e9 _ _ _ _ (by assumption) (raised_sub (by (intro p9 h9; tb_rel)) R'') U''); intro r9 news9 h9 tk9 F' N'; refine cpsT ?_; intro t9 e9 T9 s9))
  k_steps
  exact hret _ _ _ _ (by k_asm) (by k_asm) ⟨⟨_, e9, T9⟩, by (intro p9 h9; tb_rel)⟩

end
section
-- M3
/-- `put_within(t, k, u, around)` -/
noncomputable def put (k : Nat) (u : Tm) (around : Nat) : Tm → Option Tm
  | .k => some .k
  | .var n => if n = k + around then (if 0 < around then moved around 0 u else some u) else if k + around < n then some (.var (n - 1)) else some (.var n)
  | .lam t => (put k u (around + 1) t).map .lam
  | .app a b => match put k u around a with
    | none => none
    | some a' => (put k u around b).map (.app a')
noncomputable def PutFn (w : World) (mean : ExcName → Option Value) (mg mb : PySem.Str → Option Value) (k : Nat) (u : Tm) (around : Nat) (t : Tm) (n : Nat) : Prop :=
  ∀ (news : List (Addr × Obj)) (v vu : Value) (tk1 tk2 : Tok), TIn news v t → TIn news vu u → Fn w mean mg mb 145 n [v, .int k tk1, vu, .int around tk2] news (fun r news' => (∃ t', put k u around t = some t' ∧ TIn news' r t') ∧ ∀ p ∈ news, p ∈ news') (put k u around t = none)
theorem PutFn.wider {w : World} {mean : ExcName → Option Value} {mg mb : PySem.Str → Option Value} {k : Nat} {u : Tm} {around : Nat} {t : Tm} {n n' : Nat} (h : PutFn w mean mg mb k u around t n) (hl : n ≤ n') : PutFn w mean mg mb k u around t n' :=
  fun news v vu tk1 tk2 hR hRu => (h news v vu tk1 tk2 hR hRu).wider hl

theorem put_kids {k around : Nat} {u t : Tm} {ts : List Tm} (h : idxT t < 0) (M : Maps (put k u (around + belowN t)) (kidsT t) ts) : put k u around t = some (setKids t ts) := by
  cases t with
  | k => rfl
  | var i => simp only [idxT] at h; omega
  | lam b => cases M with | cons e M => cases M with | nil => simp only [belowN] at e; simp only [put, e]; rfl
  | app a b => cases M with | cons e M => cases M with | cons e' M => cases M with | nil => simp only [belowN, Nat.add_zero] at e e'; simp only [put, e, e']; rfl
theorem put_none {k around : Nat} {u t x : Tm} (h : x ∈ kidsT t) (e : put k u (around + belowN t) x = none) : put k u around t = none := by
  cases t with
  | k => cases h
  | var i => cases h
  | lam b => cases List.mem_singleton.mp h; simp only [belowN] at e; simp only [put, e]; rfl
  | app a b =>
    simp only [belowN, Nat.add_zero] at e
    rcases List.mem_cons.mp h with rfl | h
    · simp only [put, e]
    · cases List.mem_singleton.mp h
      simp only [put, e]
      split <;> rfl
theorem put_same (w : World) (mean : ExcName → Option Value) (mg mb : PySem.Str → Option Value) (k : Nat) (u : Tm) (around : Nat) (t : Tm) (ho : okTop t) (hlt : idxT t < 0) (n : Nat) (IH : ∀ x ∈ kidsT t, PutFn w mean mg mb k u (around + belowN t) x n) : PutFn w mean mg mb k u around t (n + 8) := by
  intro news v vu tk1 tk2 hR hRu
  obtain ⟨au, rfl⟩ := hRu.isRef
  revert v
  refine TIn.view fun a0 tk0 n0 vs hm hT hl2 hR => ?_
  unfold Fn
  intro dp un gd cn cs a ccd cl outer A₀ base h₀ L m hp9 gs9 dr9 tks9 os9 Q E B F X N T hk hd9 hu9 hret hexc
  refine wpAny_call ?_
  k_with_none
  (k_with "eval Name" => ((with_reducible show wpAny _ _ (eval (Expr.Name _ _) (compEnvC _ _ _ _)) _ _ _); k_dflt (refine' lcf_cell (by k_asm) rfl (by k_mem) (by k_asm) ?_ rfl rfl; k_whole)))
  k_dflt (refine' code_defC ?k1 ?k2 ?k3 ?k4 ?k5 ?kA ?kF ?kK ?k6 ?k7 ?k8 ?k9 ?kB ?kD ?_ ?c2 ?c3 ?c4; (case kA => exact rfl); (case kF => exact rfl); (case kK => assumption); (case k1 => k_asm); (case k2 => k_asm); (case k3 => k_asm); (case k4 => k_asm); (case k5 => k_asm); (case k6 => k_is); (case k7 => k_is); (case k8 => k_room); (case k9 => exact BindsTo.of_eq rfl); (case kB => exact rfl); (case kD => decide +kernel); (case c2 => exact rfl); (case c3 => exact rfl); (case c4 => exact rfl); k_whole; intro g' L' h' tk' cells' FG' F' N' Y' B' X' T' l1; k_cells Y'; (try simp only [List.cons_append, List.nil_append] at N'); (try dsimp only); (try k_fold))
  (k_with "call ref" => k_dflt ((refine' Fn.use (index_ok _ _ _ _ _ _ t _ ho) (by k_asm) (by k_asm) (by k_asm) (by k_asm) (by k_asm) (by first | exact rfl | assumption) (by k_room) (by k_room) ?_ ?_; all_goals (try exact False.elim)); (first | assumption | (refine TIn.mono ?_ ‹_›; intro p9 h9; tb_rel)); intro r9 news9 h9 tk9 F' N'; revert r9; refine cpsI ?_; intro tk9 s9))
  (k_with "call ref" => k_dflt ((refine' Fn.use (below_ok _ _ _ _ _ _ t _) (by k_asm) (by k_asm) (by k_asm) (by k_asm) (by k_asm) (by first | exact rfl | assumption) (by k_room) (by k_room) ?_ ?_; all_goals (try exact False.elim)); (first | assumption | (refine TIn.mono ?_ ‹_›; intro p9 h9; tb_rel)); intro r9 news9 h9 tk9 F' N'; revert r9; refine cpsI ?_; intro tk9 s9))
  (k_with "eval ListComp" => k_dflt (refine' comp_terms (kids := kidsT t) (f := put k u (around + belowN t)) (cls := .ref 65) (base := base) ?hF0 ?hfr ?hf ?hh ?hclos ?hcell ?hkind ?hnames ?hx ?_ ?hs; (case hF0 => k_asm); (case hfr => exact rfl); (case hf => exact rfl); (case hh => exact rfl); (case hclos => with_unfolding_all rfl); (case hcell => decide); (case hkind => exact rfl); (case hnames => decide); (case hx => exact rfl); (case hs => intro _; exact rfl)))
  (k_with "subscriptTail Name Slice ref ref" => k_dflt (refine slice_tup1 (by k_asm) (by k_asm) (by tb_rel) (by (simp only [List.length_cons, List.length_nil]; omega)) ?_ (by with_unfolding_all rfl) (by (intro _; with_unfolding_all rfl)); intro D' h' F' N'; (try dsimp only)))
  (k_with "subscriptTail Name Constant ref int" => k_dflt (refine' r_first ?N5 ?a5 ?_ ?c5 ?d5; (case N5 => k_asm); (case a5 => tb_rel); (case c5 => with_unfolding_all rfl); (case d5 => intro _; with_unfolding_all rfl)))
  (k_with "binaryOp Add ref ref" => k_dflt (refine' tup_addG ?F6 ?N6 ?T6 ?b6 ?z6 ?_; (case F6 => k_asm); (case N6 => k_asm); (case T6 => tb_rel); (case b6 => tb_rel); (case z6 => (simp only [List.length_cons, List.length_nil]; omega)); intro D9 n9 hD9 newsD F' N' sD mD))
  k_steps
  refine' KidsAt.intro ?F7 ?N7 ?m7 ?z7 ?T7 ?_ ?_ ?x7
  case F7 => k_asm
  case N7 => k_asm
  case m7 => exact List.Mem.head _
  case z7 => (rw [sizeLine_eq, List.size_toArray]; omega)
  case T7 => exact TIns.mono (by (intro p9 h9; tb_rel)) hT
  case x7 =>
    rintro ea' g' h' tk' ⟨t', ht', hn'⟩ Fg' H' U'
    (try k_unfold)
    (try dsimp only)
    refine leave_heldE Fg' rfl H' U' rfl fun h'' R'' U'' => ?_
    dsimp only
    exact hexc (put_none ht' hn') _ _ _ _ (by assumption) (raised_sub (by (intro p9 h9; tb_rel)) R'') U''
  · intro t' ht' v' C' oC' m₂' news₁' h' tk' T' hC' hx' F' N' mC' s'
    (k_with "call ref" => k_dflt ((refine' Fn.use (IH t' ht' _ _ _ _ _ _ _) (by k_asm) (by k_asm) (by k_asm) (by k_asm) (by k_asm) (by first | exact rfl | assumption) (by k_room) (by k_room) ?_ ?_); (first | assumption | (refine TIn.mono ?_ ‹_›; intro p9 h9; tb_rel)); (first | assumption | (refine TIn.mono ?_ ‹_›; intro p9 h9; tb_rel)); rotate_left; (intro e9 ea9 g9 h9 tk9 F9 R9 U9; exact KidRaised.of e9 F9 R9 U9 (by (intro p9 h9; tb_rel))); intro r9 news9 h9 tk9 F' N'; refine cpsT ?_; intro t9 e9 T9 s9))
    k_steps
    exact KidDone.of (by k_asm) (by k_asm) (by (intro p9 h9; tb_rel)) e9 T9
  · intro D' h' tk' ys' ts' news' F' N' s' T' M'
    have hl3 := T'.len
    have hl4 := M'.len
    have hl5 := kidsT_le t
    k_steps
    refine hret _ _ _ _ (by k_asm) (by k_asm) ⟨⟨_, put_kids hlt M', ?_⟩, by (intro p9 h9; tb_rel)⟩
    exact TIn.build mD (TIns.mono (by (intro p9 h9; tb_rel)) T') hl4
theorem pv_in {k i around : Nat} {u : Tm} (hi : i = k + around) (ha : 0 < around) : put k u around (.var i) = moved around 0 u := by simp only [put, if_pos hi, if_pos ha]
theorem pv_in0 {k i around : Nat} {u : Tm} (hi : i = k + around) (ha : ¬ 0 < around) : put k u around (.var i) = some u := by simp only [put, if_pos hi, if_neg ha]
theorem pv_up {k i around : Nat} {u : Tm} (hi : ¬ i = k + around) (hl : k + around < i) : put k u around (.var i) = some (.var (i - 1)) := by simp only [put, if_neg hi, if_pos hl]
theorem pv_low {k i around : Nat} {u : Tm} (hi : ¬ i = k + around) (hl : ¬ k + around < i) : put k u around (.var i) = some (.var i) := by simp only [put, if_neg hi, if_neg hl]
theorem okIx_le {i : Nat} (h : okIx i) : i ≤ 999999999 := by unfold okIx at h; omega

theorem put_in_place (w : World) (mean : ExcName → Option Value) (mg mb : PySem.Str → Option Value) (k : Nat) (u : Tm) (around : Nat) (i : Nat) (ho : okIx i) (hi : i = k + around) (ha : 0 < around) (n : Nat) (SH : ShiftFn w mean mg mb around u n) : PutFn w mean mg mb k u around (.var i) (n + 8) := by
  have hq : ((i : Int) == (k : Int) + (around : Int)) = true := beq_iff_eq.mpr (by omega)
  intro news v vu tk1 tk2 hR hRu
  obtain ⟨au, rfl⟩ := hRu.isRef
  revert v
  refine TIn.view fun a0 tk0 n0 vs hm hT hl2 hR => ?_
  unfold Fn
  intro dp un gd cn cs a ccd cl outer A₀ base h₀ L m hp9 gs9 dr9 tks9 os9 Q E B F X N T hk hd9 hu9 hret hexc
  refine wpAny_call ?_
  k_with_none
  k_dflt (refine' code_defC ?k1 ?k2 ?k3 ?k4 ?k5 ?kA ?kF ?kK ?k6 ?k7 ?k8 ?k9 ?kB ?kD ?_ ?c2 ?c3 ?c4; (case kA => exact rfl); (case kF => exact rfl); (case kK => assumption); (case k1 => k_asm); (case k2 => k_asm); (case k3 => k_asm); (case k4 => k_asm); (case k5 => k_asm); (case k6 => k_is); (case k7 => k_is); (case k8 => k_room); (case k9 => exact BindsTo.of_eq rfl); (case kB => exact rfl); (case kD => decide +kernel); (case c2 => exact rfl); (case c3 => exact rfl); (case c4 => exact rfl); k_whole; intro g' L' h' tk' cells' FG' F' N' Y' B' X' T' l1; k_cells Y'; (try simp only [List.cons_append, List.nil_append] at N'); (try dsimp only); (try k_fold))
  (k_with "call ref" => k_dflt ((refine' Fn.use (index_ok _ _ _ _ _ _ (.var i) _ ho) (by k_asm) (by k_asm) (by k_asm) (by k_asm) (by k_asm) (by first | exact rfl | assumption) (by k_room) (by k_room) ?_ ?_; all_goals (try exact False.elim)); (first | assumption | (refine TIn.mono ?_ ‹_›; intro p9 h9; tb_rel)); intro r9 news9 h9 tk9 F' N'; revert r9; refine cpsI ?_; intro tk9 s9; dsimp only [idxT]))
  (k_with "call ref" => k_dflt ((refine' Fn.use (SH _ _ _ _ _) (by k_asm) (by k_asm) (by k_asm) (by k_asm) (by k_asm) (by first | exact rfl | assumption) (by k_room) (by k_room) ?_ ?_); (first | assumption | (refine TIn.mono ?_ ‹_›; intro p9 h9; tb_rel)); rotate_left; (intro e9 ea9 g9 h9 tk9 Fg' R' U'; (try k_unfold); (try dsimp only); refine leave_onE Fg' rfl R' U' rfl fun h'' R'' U'' => ?_; dsimp only; exact hexc (pv_in hi ha ▸ e9) _ _ _ _ (by assumption) (raised_sub (by (intro p9 h9; tb_rel)) R'') U''); intro r9 news9 h9 tk9 F' N'; refine cpsT ?_; intro t9 e9 T9 s9))
  k_steps
  exact hret _ _ _ _ (by k_asm) (by k_asm) ⟨⟨_, (pv_in hi ha).trans e9, T9⟩, by (intro p9 h9; tb_rel)⟩

theorem put_in_place0 (w : World) (mean : ExcName → Option Value) (mg mb : PySem.Str → Option Value) (k : Nat) (u : Tm) (around : Nat) (i : Nat) (ho : okIx i) (hi : i = k + around) (ha : ¬ 0 < around) (n : Nat) : PutFn w mean mg mb k u around (.var i) (n + 8) := by
  have hq : ((i : Int) == (k : Int) + (around : Int)) = true := beq_iff_eq.mpr (by omega)
  intro news v vu tk1 tk2 hR hRu
  obtain ⟨au, rfl⟩ := hRu.isRef
  revert v
  refine TIn.view fun a0 tk0 n0 vs hm hT hl2 hR => ?_
  unfold Fn
  intro dp un gd cn cs a ccd cl outer A₀ base h₀ L m hp9 gs9 dr9 tks9 os9 Q E B F X N T hk hd9 hu9 hret hexc
  refine wpAny_call ?_
  k_with_none
  k_dflt (refine' code_defC ?k1 ?k2 ?k3 ?k4 ?k5 ?kA ?kF ?kK ?k6 ?k7 ?k8 ?k9 ?kB ?kD ?_ ?c2 ?c3 ?c4; (case kA => exact rfl); (case kF => exact rfl); (case kK => assumption); (case k1 => k_asm); (case k2 => k_asm); (case k3 => k_asm); (case k4 => k_asm); (case k5 => k_asm); (case k6 => k_is); (case k7 => k_is); (case k8 => k_room); (case k9 => exact BindsTo.of_eq rfl); (case kB => exact rfl); (case kD => decide +kernel); (case c2 => exact rfl); (case c3 => exact rfl); (case c4 => exact rfl); k_whole; intro g' L' h' tk' cells' FG' F' N' Y' B' X' T' l1; k_cells Y'; (try simp only [List.cons_append, List.nil_append] at N'); (try dsimp only); (try k_fold))
  (k_with "call ref" => k_dflt ((refine' Fn.use (index_ok _ _ _ _ _ _ (.var i) _ ho) (by k_asm) (by k_asm) (by k_asm) (by k_asm) (by k_asm) (by first | exact rfl | assumption) (by k_room) (by k_room) ?_ ?_; all_goals (try exact False.elim)); (first | assumption | (refine TIn.mono ?_ ‹_›; intro p9 h9; tb_rel)); intro r9 news9 h9 tk9 F' N'; revert r9; refine cpsI ?_; intro tk9 s9; dsimp only [idxT]))
  k_steps
  exact hret _ _ _ _ (by k_asm) (by k_asm) ⟨⟨_, pv_in0 hi ha, by (first | assumption | (refine TIn.mono ?_ ‹_›; intro p9 h9; tb_rel))⟩, by (intro p9 h9; tb_rel)⟩

theorem put_above (w : World) (mean : ExcName → Option Value) (mg mb : PySem.Str → Option Value) (k : Nat) (u : Tm) (around : Nat) (i : Nat) (ho : okIx i) (hi : ¬ i = k + around) (hl : k + around < i) (n : Nat) : PutFn w mean mg mb k u around (.var i) (n + 8) := by
  have hle := okIx_le ho
  have hq : ((i : Int) == (k : Int) + (around : Int)) = false := beq_eq_false_iff_ne.mpr (by omega)
  intro news v vu tk1 tk2 hR hRu
  obtain ⟨au, rfl⟩ := hRu.isRef
  revert v
  refine TIn.view fun a0 tk0 n0 vs hm hT hl2 hR => ?_
  unfold Fn
  intro dp un gd cn cs a ccd cl outer A₀ base h₀ L m hp9 gs9 dr9 tks9 os9 Q E B F X N T hk hd9 hu9 hret hexc
  refine wpAny_call ?_
  k_with_none
  k_dflt (refine' code_defC ?k1 ?k2 ?k3 ?k4 ?k5 ?kA ?kF ?kK ?k6 ?k7 ?k8 ?k9 ?kB ?kD ?_ ?c2 ?c3 ?c4; (case kA => exact rfl); (case kF => exact rfl); (case kK => assumption); (case k1 => k_asm); (case k2 => k_asm); (case k3 => k_asm); (case k4 => k_asm); (case k5 => k_asm); (case k6 => k_is); (case k7 => k_is); (case k8 => k_room); (case k9 => exact BindsTo.of_eq rfl); (case kB => exact rfl); (case kD => decide +kernel); (case c2 => exact rfl); (case c3 => exact rfl); (case c4 => exact rfl); k_whole; intro g' L' h' tk' cells' FG' F' N' Y' B' X' T' l1; k_cells Y'; (try simp only [List.cons_append, List.nil_append] at N'); (try dsimp only); (try k_fold))
  (k_with "call ref" => k_dflt ((refine' Fn.use (index_ok _ _ _ _ _ _ (.var i) _ ho) (by k_asm) (by k_asm) (by k_asm) (by k_asm) (by k_asm) (by first | exact rfl | assumption) (by k_room) (by k_room) ?_ ?_; all_goals (try exact False.elim)); (first | assumption | (refine TIn.mono ?_ ‹_›; intro p9 h9; tb_rel)); intro r9 news9 h9 tk9 F' N'; revert r9; refine cpsI ?_; intro tk9 s9; dsimp only [idxT]))
  (k_with "call ref" => k_dflt ((refine' Fn.use (variable_ok _ _ _ _ _ ((i : Int) - 1) _ (by omega) (by omega)) (by k_asm) (by k_asm) (by k_asm) (by k_asm) (by k_asm) (by first | exact rfl | assumption) (by k_room) (by k_room) ?_ ?_; all_goals (try exact False.elim)); intro r9 news9 h9 tk9 F' N'; refine cps2 ?_; intro T9 s9; rw [show ((i : Int) - 1).toNat = i - 1 by omega] at T9))
  k_steps
  exact hret _ _ _ _ (by k_asm) (by k_asm) ⟨⟨_, pv_up hi hl, T9⟩, by (intro p9 h9; tb_rel)⟩

theorem put_under (w : World) (mean : ExcName → Option Value) (mg mb : PySem.Str → Option Value) (k : Nat) (u : Tm) (around : Nat) (i : Nat) (ho : okIx i) (hi : ¬ i = k + around) (hl : ¬ k + around < i) (n : Nat) : PutFn w mean mg mb k u around (.var i) (n + 8) := by
  have hq : ((i : Int) == (k : Int) + (around : Int)) = false := beq_eq_false_iff_ne.mpr (by omega)
  intro news v vu tk1 tk2 hR hRu
  obtain ⟨au, rfl⟩ := hRu.isRef
  revert v
  refine TIn.view fun a0 tk0 n0 vs hm hT hl2 hR => ?_
  unfold Fn
  intro dp un gd cn cs a ccd cl outer A₀ base h₀ L m hp9 gs9 dr9 tks9 os9 Q E B F X N T hk hd9 hu9 hret hexc
  refine wpAny_call ?_
  k_with_none
  k_dflt (refine' code_defC ?k1 ?k2 ?k3 ?k4 ?k5 ?kA ?kF ?kK ?k6 ?k7 ?k8 ?k9 ?kB ?kD ?_ ?c2 ?c3 ?c4; (case kA => exact rfl); (case kF => exact rfl); (case kK => assumption); (case k1 => k_asm); (case k2 => k_asm); (case k3 => k_asm); (case k4 => k_asm); (case k5 => k_asm); (case k6 => k_is); (case k7 => k_is); (case k8 => k_room); (case k9 => exact BindsTo.of_eq rfl); (case kB => exact rfl); (case kD => decide +kernel); (case c2 => exact rfl); (case c3 => exact rfl); (case c4 => exact rfl); k_whole; intro g' L' h' tk' cells' FG' F' N' Y' B' X' T' l1; k_cells Y'; (try simp only [List.cons_append, List.nil_append] at N'); (try dsimp only); (try k_fold))
  (k_with "call ref" => k_dflt ((refine' Fn.use (index_ok _ _ _ _ _ _ (.var i) _ ho) (by k_asm) (by k_asm) (by k_asm) (by k_asm) (by k_asm) (by first | exact rfl | assumption) (by k_room) (by k_room) ?_ ?_; all_goals (try exact False.elim)); (first | assumption | (refine TIn.mono ?_ ‹_›; intro p9 h9; tb_rel)); intro r9 news9 h9 tk9 F' N'; revert r9; refine cpsI ?_; intro tk9 s9; dsimp only [idxT]))
  k_steps
  exact hret _ _ _ _ (by k_asm) (by k_asm) ⟨⟨_, pv_low hi hl, by (first | assumption | (refine TIn.mono ?_ ‹_›; intro p9 h9; tb_rel))⟩, by (intro p9 h9; tb_rel)⟩

theorem put_ok (w : World) (mean : ExcName → Option Value) (mg mb : PySem.Str → Option Value) (k : Nat) (u : Tm) (hu : u.ok) : ∀ (t : Tm), t.ok → ∀ (around : Nat), PutFn w mean mg mb k u around t (8 * t.hgt + 8 * u.hgt + 20) := by
  intro t
  induction t with
  | k => intro _ around; exact (put_same w mean mg mb k u around .k trivial (by simp only [idxT]; omega) 0 (fun x h => nomatch h)).wider (by omega)
  | var i =>
    intro ho around
    by_cases h1 : i = k + around
    · by_cases h2 : 0 < around
      · exact (put_in_place w mean mg mb k u around i ho h1 h2 (8 * u.hgt + 12) (shifted_ok w mean mg mb around u _ (moved_ok w mean mg mb around u hu 0))).wider (by omega)
      · exact (put_in_place0 w mean mg mb k u around i ho h1 h2 0).wider (by omega)
    · by_cases h2 : k + around < i
      · exact (put_above w mean mg mb k u around i ho h1 h2 0).wider (by omega)
      · exact (put_under w mean mg mb k u around i ho h1 h2 0).wider (by omega)
  | lam t ih =>
    intro ho around
    exact (put_same w mean mg mb k u around (.lam t) trivial (by simp only [idxT]; omega) (8 * t.hgt + 8 * u.hgt + 20) (fun x h => by cases List.mem_singleton.mp h; exact ih ho (around + 1))).wider (by show 8 * t.hgt + 8 * u.hgt + 20 + 8 ≤ 8 * (t.hgt + 1) + 8 * u.hgt + 20; omega)
  | app a b iha ihb =>
    intro ho around
    refine (put_same w mean mg mb k u around (.app a b) trivial (by simp only [idxT]; omega) (8 * max a.hgt b.hgt + 8 * u.hgt + 20) (fun x h => ?_)).wider (by show 8 * max a.hgt b.hgt + 8 * u.hgt + 20 + 8 ≤ 8 * (max a.hgt b.hgt + 1) + 8 * u.hgt + 20; omega)
    rcases List.mem_cons.mp h with rfl | h
    · exact (iha ho.1 around).wider (by omega)
    · cases List.mem_singleton.mp h
      exact (ihb ho.2 around).wider (by omega)

end
section
-- M4
/-- put_in(t, k, u) -/
noncomputable def PutInFn (w : World) (mean : ExcName → Option Value) (mg mb : PySem.Str → Option Value) (k : Nat) (u t : Tm) (n : Nat) : Prop :=
  ∀ (news : List (Addr × Obj)) (v vu : Value) (tk1 : Tok), TIn news v t → TIn news vu u → Fn w mean mg mb 140 n [v, .int k tk1, vu] news (fun r news' => (∃ t', put k u 0 t = some t' ∧ TIn news' r t') ∧ ∀ p ∈ news, p ∈ news') (put k u 0 t = none)
theorem put_in_ok0 (w : World) (mean : ExcName → Option Value) (mg mb : PySem.Str → Option Value) (k : Nat) (u t : Tm) (n : Nat) (IH : PutFn w mean mg mb k u 0 t n) : PutInFn w mean mg mb k u t (n + 4) := by
  intro news v vu tk1 hR hRu
  obtain ⟨au, rfl⟩ := hRu.isRef
  obtain ⟨av, rfl⟩ := hR.isRef
  unfold Fn
  intro dp un gd cn cs a ccd cl outer A₀ base h₀ L m hp9 gs9 dr9 tks9 os9 Q E B F X N T hk hd9 hu9 hret hexc
  refine wpAny_call ?_
  k_with_none
  k_dflt ktr_enter
  (k_with "call ref" => k_dflt ((refine' Fn.use (IH _ _ _ _ _ _ _) (by k_asm) (by k_asm) (by k_asm) (by k_asm) (by k_asm) (by first | exact rfl | assumption) (by k_room) (by k_room) ?_ ?_); (first | assumption | (refine TIn.mono ?_ ‹_›; intro p9 h9; tb_rel)); (first | assumption | (refine TIn.mono ?_ ‹_›; intro p9 h9; tb_rel)); rotate_left; (intro e9 ea9 g9 h9 tk9 Fg' R' U'; (try k_unfold); (try dsimp only); refine leave_onE Fg' rfl R' U' rfl fun h'' R'' U'' => ?_; dsimp only; exact hexc e9 _ _ _ _ (by assumption) (raised_sub (by (intro p9 h9; tb_rel)) R'') U''); intro r9 news9 h9 tk9 F' N'; refine cpsT ?_; intro t9 e9 T9 s9))
  k_steps
  exact hret _ _ _ _ (by k_asm) (by k_asm) ⟨⟨_, e9, T9⟩, by (intro p9 h9; tb_rel)⟩
theorem put_in_ok (w : World) (mean : ExcName → Option Value) (mg mb : PySem.Str → Option Value) (k : Nat) (u t : Tm) (hu : u.ok) (ht : t.ok) : PutInFn w mean mg mb k u t (8 * t.hgt + 8 * u.hgt + 24) := put_in_ok0 w mean mg mb k u t _ (put_ok w mean mg mb k u hu t ht 0)

end
section
-- M5
section
variable {prog : Program} {w : World} {A : Around} {E : Value → Shared → Prop} {s : Shared} {h₀ : Heap} {env : Env} {m : PySem.Str → Option Value} {news : List (Addr × Obj)}
/-- the end of the one turn of a loop over a tuple of one -/
noncomputable def OneEnd (h₀ : Heap) (L : Addr) (s₁ : Shared) (I : Addr) (oI : Obj) (news₀ : List (Addr × Obj)) (Q : Flow → Shared → Prop) (f : Flow) (s₂ : Shared) : Prop :=
  f = .next ∧ ∃ h' tk' m' news', s₂ = { s₁ with heap := h', toks := tk' } ∧ Fr h₀ L h' m' ∧ News h₀ L h' news' ∧ (∀ p ∈ (I, oI) :: news₀, p ∈ news') ∧
    ∀ h'' tk'', Fr h₀ L h'' m' → News h₀ L h'' news₀ → Q .next { s₁ with heap := h'', toks := tk'' }
theorem OneEnd.of {h₀ : Heap} {L : Addr} {s₁ : Shared} {I : Addr} {oI : Obj} {news₀ news' : List (Addr × Obj)} {Q : Flow → Shared → Prop} {h' : Heap} {tk' : Nat} {m' : PySem.Str → Option Value} (F : Fr h₀ L h' m') (N : News h₀ L h' news') (hs : ∀ p ∈ (I, oI) :: news₀, p ∈ news')
    (hQ : ∀ h'' tk'', Fr h₀ L h'' m' → News h₀ L h'' news₀ → Q .next { s₁ with heap := h'', toks := tk'' }) : OneEnd h₀ L s₁ I oI news₀ Q .next { s₁ with heap := h', toks := tk' } := ⟨rfl, h', tk', m', news', rfl, F, N, hs, hQ⟩
noncomputable def OneAt (prog : Program) (w : World) (A : Around) (E : Value → Shared → Prop) (h₀ : Heap) (env : Env) (x : PySem.Str) (body : List Stmt) (Q : Flow → Shared → Prop) (v : Value) (s₁ : Shared) : Prop :=
  ∃ ax n y m news₀, v = .ref ax ∧ Fr h₀ env.locals s₁.heap m ∧ News h₀ env.locals s₁.heap news₀ ∧ (ax, ({ cls := .type "tuple", data := .seq #[y] n } : Obj)) ∈ news₀ ∧
    ∀ I oI h tk, Fr h₀ env.locals h (fun z => if z = x then some y else m z) → News h₀ env.locals h ((I, oI) :: news₀) →
      wpAny (model prog w) A (execs body env) (OneEnd h₀ env.locals s₁ I oI news₀ Q) E { s₁ with heap := h, toks := tk }
theorem OneAt.intro {x : PySem.Str} {body : List Stmt} {Q : Flow → Shared → Prop} {s₁ : Shared} {ax : Addr} {n : Nat} {y : Value} {news₀ : List (Addr × Obj)} (F : Fr h₀ env.locals s₁.heap m) (N : News h₀ env.locals s₁.heap news₀) (hm : (ax, ({ cls := .type "tuple", data := .seq #[y] n } : Obj)) ∈ news₀)
    (turn : ∀ I oI h tk, Fr h₀ env.locals h (fun z => if z = x then some y else m z) → News h₀ env.locals h ((I, oI) :: news₀) →
      wpAny (model prog w) A (execs body env) (OneEnd h₀ env.locals s₁ I oI news₀ Q) E { s₁ with heap := h, toks := tk }) : OneAt prog w A E h₀ env x body Q (.ref ax) s₁ := ⟨ax, n, y, m, news₀, rfl, F, N, hm, turn⟩
theorem OneAt.elim {x : PySem.Str} {body : List Stmt} {Q : Flow → Shared → Prop} {s₁ : Shared} {G : Value → Prop}
    (k : ∀ ax n y m news₀, Fr h₀ env.locals s₁.heap m → News h₀ env.locals s₁.heap news₀ → (ax, ({ cls := .type "tuple", data := .seq #[y] n } : Obj)) ∈ news₀ →
    (∀ I oI h tk, Fr h₀ env.locals h (fun z => if z = x then some y else m z) → News h₀ env.locals h ((I, oI) :: news₀) →
      wpAny (model prog w) A (execs body env) (OneEnd h₀ env.locals s₁ I oI news₀ Q) E { s₁ with heap := h, toks := tk }) → G (.ref ax)) : ∀ (v : Value), OneAt prog w A E h₀ env x body Q v s₁ → G v := by
  intro v H
  obtain ⟨ax, n, y, m₁, news₀, rfl, F, N, hm, turn⟩ := H
  exact k ax n y m₁ news₀ F N hm turn
theorem OneEnd.elim {L : Addr} {s₁ : Shared} {I : Addr} {oI : Obj} {news₀ : List (Addr × Obj)} {Q : Flow → Shared → Prop} {G : Flow → Shared → Prop}
    (k : ∀ h' tk' m' news', Fr h₀ L h' m' → News h₀ L h' news' → (∀ p ∈ (I, oI) :: news₀, p ∈ news') → (∀ h'' tk'', Fr h₀ L h'' m' → News h₀ L h'' news₀ → Q .next { s₁ with heap := h'', toks := tk'' }) → G .next { s₁ with heap := h', toks := tk' }) : ∀ (f : Flow) (s₂ : Shared), OneEnd h₀ L s₁ I oI news₀ Q f s₂ → G f s₂ := by
  intro f s₂ H
  obtain ⟨rfl, h₄, tk₄, m₄, news₄, rfl, F₄, N₄, sub₄, hQ⟩ := H
  exact k h₄ tk₄ m₄ news₄ F₄ N₄ sub₄ hQ
noncomputable def OneInv (h₀ : Heap) (L : Addr) (s₁ : Shared) (m₁ : PySem.Str → Option Value) (I ax : Addr) (y : Value) (news₀ : List (Addr × Obj)) (Q : Flow → Shared → Prop) (k : Nat) (s' : Shared) : Prop :=
  (k = 2 ∧ ∃ h' tk, s' = { s₁ with heap := h', toks := tk } ∧ Fr h₀ L h' m₁ ∧ News h₀ L h' news₀ ∧ (h'.IsTupleIter I ax 0 ∧ h'.IsTuple ax #[y])) ∨
    (k = 1 ∧ ∃ h' tk m', s' = { s₁ with heap := h', toks := tk } ∧ Fr h₀ L h' m' ∧ News h₀ L h' news₀ ∧ (h'.IsTupleIter I ax 1 ∧ h'.IsTuple ax #[y]) ∧ ∀ h'' tk'', Fr h₀ L h'' m' → News h₀ L h'' news₀ → Q .next { s₁ with heap := h'', toks := tk'' })
theorem OneInv.elim {L : Addr} {s₁ : Shared} {m₁ : PySem.Str → Option Value} {I ax : Addr} {y : Value} {news₀ : List (Addr × Obj)} {Q : Flow → Shared → Prop} {G : Nat → Shared → Prop}
    (c1 : ∀ h' tk, Fr h₀ L h' m₁ → News h₀ L h' news₀ → (h'.IsTupleIter I ax 0 ∧ h'.IsTuple ax #[y]) → G 2 { s₁ with heap := h', toks := tk })
    (c2 : ∀ h' tk m', Fr h₀ L h' m' → News h₀ L h' news₀ → (h'.IsTupleIter I ax 1 ∧ h'.IsTuple ax #[y]) → (∀ h'' tk'', Fr h₀ L h'' m' → News h₀ L h'' news₀ → Q .next { s₁ with heap := h'', toks := tk'' }) → G 1 { s₁ with heap := h', toks := tk }) : ∀ (k : Nat) (s' : Shared), OneInv h₀ L s₁ m₁ I ax y news₀ Q k s' → G k s' := by
  intro k s' H
  rcases H with ⟨rfl, h', tk, rfl, F', N', st⟩ | ⟨rfl, h', tk, m', rfl, F', N', st, hQ⟩
  · exact c1 h' tk F' N' st
  · exact c2 h' tk m' F' N' st hQ
theorem for_one {x : PySem.Str} {px pos : Pos} {iter : Expr} {body : List Stmt} {Q : Flow → Shared → Prop} (_F : Fr h₀ env.locals s.heap m) (hh : A.handled = none) (hk : env.scope.kind = .function) (hx : env.kindOf x = some .local)
    (h : wpAny (model prog w) A (eval iter env) (OneAt prog w A E h₀ env x body Q) E s)
    (hs : ∀ x, foldedSetIterable iter env x = pure x) (hE : PassesOwn (model prog w) A env E) :
    wpAny (model prog w) A (exec (.For (.Name x px) iter body [] pos) env) Q E s := by
  refine wpAny_For (wpAny_mono h (fun xv s₁ h₁ => ?_) fun _ _ e => e) hs
  revert xv
  refine OneAt.elim fun ax n y m₁ news₀ F N hm turn => ?_
  have hl : s₁.heap.IsTuple ax #[y] := ⟨_, N.get hm, rfl, n, rfl⟩
  have hax : ax < s₁.heap.objs.size := Heap.lt_size (N.get hm)
  refine wpAny_pyIter_tuple hl ?_
  have W := Walks.tuple (prog := prog) (w := w) hh s₁.heap.objs.size ax (Nat.ne_of_lt hax) #[y]
  have F1 := F.push { cls := .type "tuple_iterator", dict := none, data := .fields #[.ref ax, .int 0 0] }
  have N1 : News h₀ env.locals (s₁.heap.push { cls := .type "tuple_iterator", dict := none, data := .fields #[.ref ax, .int 0 0] }) news₀ := N.grown fun _ _ e => Heap.get?_push_of_some _ e
  have hI0 : h₀.get? s₁.heap.objs.size = none := next_is_new F
  have hLI : env.locals ≠ s₁.heap.objs.size := Nat.ne_of_lt F.ns.lt
  have nlow : ∀ p ∈ news₀, p.1 ≠ s₁.heap.objs.size := fun p hp => Nat.ne_of_lt (Heap.lt_size (N p hp).1)
  have hget := Heap.get?_push_size s₁.heap (o := { cls := .type "tuple_iterator", dict := none, data := .fields #[.ref ax, .int 0 0] }) rfl
  generalize s₁.heap.objs.size = I at *
  have st0 : (s₁.heap.push { cls := .type "tuple_iterator", dict := none, data := .fields #[.ref ax, .int 0 0] }).IsTupleIter I ax 0 ∧ (s₁.heap.push { cls := .type "tuple_iterator", dict := none, data := .fields #[.ref ax, .int 0 0] }).IsTuple ax #[y] :=
    ⟨⟨_, hget, rfl, rfl⟩, _, Heap.get?_push_of_some _ (N.get hm), rfl, n, rfl⟩
  have hne : ax ≠ I := nlow _ hm
  refine codeAny_forLoop (OneInv h₀ env.locals s₁ m₁ I ax y news₀ Q) ?_ 2
    (.inl ⟨rfl, _, _, rfl, F1, N1, st0⟩)
  refine OneInv.elim (fun h' tk F' N' st => ?_) (fun h' tk m' F' N' st hQ => ?_)
  · refine W.item 0 _ _ _ (by simp) st fun v h₂ tk₂ hPv hst₂ hk₂ => ?_
    have hk₂ : ∀ b o, b ≠ I → h'.get? b = some o → h₂.get? b = some o := fun b o hb => hk₂ b o (by simpa using hb)
    obtain rfl : y = v := by simpa using hPv
    have F₂ : Fr h₀ env.locals h₂ m₁ := ⟨F'.ns.at' fun o e => hk₂ _ o hLI e, fun b o e => hk₂ b o (fun q => by rw [q, hI0] at e; cases e) (F'.keep b o e), F'.above⟩
    have N₂ : News h₀ env.locals h₂ news₀ := fun p hp => ⟨hk₂ _ _ (nlow p hp) (N' p hp).1, (N' p hp).2⟩
    refine wpAny_assign_Name (wpAny_storeName_local hx F₂.ns (fun h₃ hn₃ hs₃ => ?_) (by rw [hk]; rfl))
    have F₃ := F₂.set hn₃ hs₃
    have N₃ := N₂.set hs₃
    have hst₃ : h₃.IsTupleIter I ax 1 ∧ h₃.IsTuple ax #[y] := W.frame _ _ _ hst₂ fun b hb o e => by
      refine hs₃.extBut b o (fun q => ?_) e
      rcases List.mem_cons.mp hb with z | hb
      · exact hLI (q.symm.trans z)
      · exact (N _ hm).2.1 ((List.mem_singleton.mp hb).symm.trans q)
    refine ex2 (id hst₃.1) fun oI heI hcd => ?_
    have NI : News h₀ env.locals h₃ ((I, oI) :: news₀) := fun p hp => by
      rcases List.mem_cons.mp hp with rfl | hp
      · exact ⟨heI, Ne.symm hLI, hI0⟩
      · exact N₃ p hp
    refine wpAny_mono (turn I oI h₃ _ F₃ NI) (fun f s₄ h₄ => ?_) (fun e s₄ h₄ => hE _ _ h₄)
    revert f s₄
    refine OneEnd.elim fun h₄ tk₄ m₄ news₄ F₄ N₄ sub₄ hQ => ?_
    exact ⟨1, by omega, .inr ⟨rfl, h₄, tk₄, m₄, rfl, F₄, fun p hp => N₄ p (sub₄ p (.tail _ hp)), ⟨⟨oI, (N₄ _ (sub₄ _ (.head _))).1, hcd⟩, _, (N₄ _ (sub₄ _ (.tail _ hm))).1, rfl, n, rfl⟩, hQ⟩⟩
  · refine W.done _ _ _ st fun h₂ tk₂ hk₂ => ?_
    have hk₂ : ∀ b o, b ≠ I → h'.get? b = some o → h₂.get? b = some o := fun b o hb => hk₂ b o (by simpa using hb)
    refine wpAny_execs_nil ?_
    exact hQ _ _ ⟨F'.ns.at' fun o e => hk₂ _ o hLI e, fun b o e => hk₂ b o (fun q => by rw [q, hI0] at e; cases e) (F'.keep b o e), F'.above⟩ fun p hp => ⟨hk₂ _ _ (nlow p hp) (N' p hp).1, (N' p hp).2⟩
end

end
section
-- M6
theorem pick_to (l : List Value) : ∀ b, b ≤ l.length → (List.range b).filterMap (fun k => l[k]?) = l.take b := by
  intro b
  induction b with
  | zero => intro _; simp
  | succ n ih =>
    intro hb
    rw [List.range_succ, List.filterMap_append, ih (by omega), List.take_add_one]
    have : n < l.length := by omega
    simp [List.getElem?_eq_getElem this]
section
variable {prog : Program} {w : World} {A : Around} {E : Value → Shared → Prop} {s : Shared}
theorem sliceApplied_to {sl : Addr} {b n : Nat} {u : Tok} {Q : Int × Int × Nat → Shared → Prop} (hs : s.heap.IsSliceOf sl .none (.int b u) .none) (hb : b ≤ n) (h : Q (0, 1, b) s) :
    wpAny (model prog w) A (Builtin.Slice.sliceApplied (.ref sl) (pure (n : Int))) Q E s := by
  obtain ⟨os, hos, hcs, hds⟩ := id hs
  have ea : Builtin.Slice.sliceAdjust none (some (b : Int)) 1 (n : Int) = (0, (b : Int)) := by
    unfold Builtin.Slice.sliceAdjust
    have h1 : ¬ ((1 : Int) < 0) := by omega
    have h2 : ¬ ((b : Int) < 0) := by omega
    simp only [h1, h2, if_false]
    congr 1
    omega
  have ep : Builtin.Slice.slicePlaces 0 (b : Int) 1 = b := by
    unfold Builtin.Slice.slicePlaces
    have h1 : (1 : Int) > 0 := by omega
    simp only [h1, if_true, Int.ediv_one]
    split <;> omega
  unfold Builtin.Slice.sliceApplied Builtin.Slice.sliceFields
  refine wpAny_bind (wpAny_bind (wpAny_field hos hds (x := .none) rfl (wpAny_bind (wpAny_field hos hds (x := .int b u) rfl (wpAny_bind (wpAny_field hos hds (x := .none) rfl (wpAny_pure ?_)))))))
  refine wpAny_bind (slicePart_none ?_)
  show wpAny _ _ (if ((1 : Int) == 0) = true then _ else _) _ _ s
  rw [if_neg (by decide)]
  refine wpAny_bind (slicePart_none (wpAny_bind (slicePart_int (wpAny_bind (wpAny_pure ?_)))))
  show wpAny _ _ (match Builtin.Slice.sliceAdjust none (some (b : Int)) 1 (n : Int) with | (lo, hi) => pure (lo, (1 : Int), Builtin.Slice.slicePlaces lo hi 1)) _ _ s
  rw [ea]
  show wpAny _ _ (pure ((0 : Int), (1 : Int), Builtin.Slice.slicePlaces 0 (b : Int) 1)) _ _ s
  rw [ep]
  exact wpAny_pure h
theorem getItem_tuple_to {t sl : Addr} {items : Array Value} {b : Nat} {u : Tok} {Q : Value → Shared → Prop} (ht : IsTup s.heap t items) (hs : s.heap.IsSliceOf sl .none (.int b u) .none) (hb : b ≤ items.size) (hz : items.size ≤ 100)
    (h1 : b = items.size → Q (.ref t) s)
    (h2 : b ≠ items.size → Q (.ref s.heap.objs.size) { s with heap := s.heap.push { cls := .type "tuple", data := .seq (items.toList.take b).toArray } }) : wpAny (model prog w) A (getItem (.ref t) (.ref sl)) Q E s := by
  obtain ⟨os, hos, hcs, hds⟩ := id hs
  have hTs : s.TypeIs (.ref sl) "slice" := ⟨os, hos, hcs⟩
  unfold getItem
  with_reducible refine wpAny_holding ?_
  refine wpAny_bind (wpAny_sequenceKey ht.typeIs (by decide) ?_)
  refine wpAny_bind (wpAny_callSpecial?_slot (name := Str.ofString "__getitem__") ht.typeIs slot_tuple_getitem
    (wpAny_call_entry slot_tuple_getitem ht.typeIs entry_tuple_getitem ?_ (args_tuple_getitem _ _)))
  show wpAny _ _ (Builtin.Tuple.tupleItemsOf (.ref t) >>= _) _ _ s
  refine wpAny_bind (tupleItemsOf_ ht ?_)
  refine wpAny_bind (wpAny_typeOf hTs ?_)
  rw [if_pos (by decide)]
  refine wpAny_bind (sliceApplied_to hs hb ?_)
  show wpAny _ _ (if ((0 : Int) == 0 && (1 : Int) == 1 && b == items.size) = true then _ else _) _ _ s
  by_cases e : b = items.size
  · rw [if_pos (by simp [e])]
    refine wpAny_bind (m := Builtin.Tuple.tupleIsExact (.ref t)) ?_
    unfold Builtin.Tuple.tupleIsExact
    refine wpAny_bind (wpAny_typeOf ht.typeIs (wpAny_pure ?_))
    rw [if_pos (by decide)]
    exact wpAny_bind (wpAny_rule (wpAny_pure ⟨_, rfl, wpAny_pure (h1 e)⟩))
  · rw [if_neg (by simp [e])]
    have hp : ((List.range b).filterMap fun (k : Nat) => items[((0 : Int) + (k : Int) * 1).toNat]?).toArray = (items.toList.take b).toArray := by
      congr 1
      have e1 : (fun (k : Nat) => items[((0 : Int) + (k : Int) * 1).toNat]?) = fun k => items.toList[k]? := by
        funext k
        have : ((0 : Int) + (k : Int) * 1).toNat = k := by omega
        rw [this, Array.getElem?_toList]
      rw [e1]
      have hb' : b ≤ items.toList.length := by rw [Array.length_toList]; exact hb
      exact pick_to items.toList b hb'
    rw [hp]
    refine wpAny_bind (m := Builtin.Tuple.tupleExact _) (wpAny_newObj_type (wpAny_pure ⟨_, rfl, wpAny_pure (h2 e)⟩) ?_)
    show (items.toList.take b).toArray.size ≤ sizeLine
    rw [List.size_toArray, List.length_take, sizeLine_eq, Array.length_toList]
    omega
end
section
variable {prog : Program} {w : World} {A : Around} {E : Value → Shared → Prop} {s : Shared} {h₀ : Heap} {L : Addr} {m : PySem.Str → Option Value} {news : List (Addr × Obj)}
/-- t[:b] of a tuple of the ledger, the whole of it -/
theorem slice_tup_all {value slice : Expr} {t : Addr} {l : List Value} {n b : Nat} {u : Tok} {Q : Value → Shared → Prop}
    (F : Fr h₀ L s.heap m) (N : News h₀ L s.heap news) (ht : (t, ({ cls := .type "tuple", data := .seq l.toArray n } : Obj)) ∈ news) (hz : l.length ≤ 100) (hb : b = l.length)
    (h : ∀ h', Fr h₀ L h' m → News h₀ L h' news → Q (.ref t) { s with heap := h' })
    (hs : subscripted slice false (.ref t) (.ref s.heap.objs.size) = operate [.ref s.heap.objs.size, .ref t] (getItem (.ref t) (.ref s.heap.objs.size)))
    (hg : ∀ r, letTemporaryGo value (.ref t) r = pure ()) :
    wpAny (model prog w) A (subscriptTail value slice (.ref t) (.ref s.heap.objs.size)) Q E { s with heap := s.heap.push { cls := .type "slice", data := .fields #[.none, .int b u, .none] } } := by
  have ht' : IsTup (s.heap.push { cls := .type "slice", data := .fields #[.none, .int b u, .none] }) t l.toArray := (N.isTup ht).keeps fun _ _ e => Heap.get?_push_of_some _ e
  refine subscriptTail_ops (s := { s with heap := s.heap.push { cls := .type "slice", data := .fields #[.none, .int b u, .none] } }) ht'.typeIs slot_tuple_getitem.lookup
    (getItem_tuple_to (b := b) ht' (Heap.IsSliceOf.new ..) (by simp [hb]) (by simpa using hz) (fun _ => h _ (F.push _) (N.grown fun _ _ e => Heap.get?_push_of_some _ e)) (fun e => absurd (by simpa using hb) e)) hs hg
/-- t[:b] of a tuple of the ledger, less than the whole -/
theorem slice_tup_to {value slice : Expr} {t : Addr} {l : List Value} {n b : Nat} {u : Tok} {Q : Value → Shared → Prop}
    (F : Fr h₀ L s.heap m) (N : News h₀ L s.heap news) (ht : (t, ({ cls := .type "tuple", data := .seq l.toArray n } : Obj)) ∈ news) (hz : l.length ≤ 100) (hb : b < l.length)
    (h : ∀ D h', Fr h₀ L h' m → News h₀ L h' ((D, { cls := .type "tuple", data := .seq (l.take b).toArray }) :: news) → Q (.ref D) { s with heap := h' })
    (hs : subscripted slice false (.ref t) (.ref s.heap.objs.size) = operate [.ref s.heap.objs.size, .ref t] (getItem (.ref t) (.ref s.heap.objs.size)))
    (hg : ∀ r, letTemporaryGo value (.ref t) r = pure ()) :
    wpAny (model prog w) A (subscriptTail value slice (.ref t) (.ref s.heap.objs.size)) Q E { s with heap := s.heap.push { cls := .type "slice", data := .fields #[.none, .int b u, .none] } } := by
  have ht' : IsTup (s.heap.push { cls := .type "slice", data := .fields #[.none, .int b u, .none] }) t l.toArray := (N.isTup ht).keeps fun _ _ e => Heap.get?_push_of_some _ e
  refine subscriptTail_ops (s := { s with heap := s.heap.push { cls := .type "slice", data := .fields #[.none, .int b u, .none] } }) ht'.typeIs slot_tuple_getitem.lookup
    (getItem_tuple_to (b := b) ht' (Heap.IsSliceOf.new ..) (by simp; omega) (by simpa using hz) (fun e => absurd e (by simp; omega)) (fun _ => ?_)) hs hg
  have N1 := News.push (F.push { cls := .type "slice", data := .fields #[.none, .int b u, .none] }) (N.grown fun _ _ e => Heap.get?_push_of_some _ e) { cls := .type "tuple", data := .seq (l.take b).toArray }
  exact h _ _ ((F.push _).push _) N1
/-- t[a:] of a tuple of the ledger, a not 0 -/
theorem slice_tup_from {value slice : Expr} {t : Addr} {l : List Value} {n a : Nat} {u : Tok} {Q : Value → Shared → Prop}
    (F : Fr h₀ L s.heap m) (N : News h₀ L s.heap news) (ht : (t, ({ cls := .type "tuple", data := .seq l.toArray n } : Obj)) ∈ news) (hz : l.length ≤ 100) (h1 : 1 ≤ a) (ha : a ≤ l.length)
    (h : ∀ D h', Fr h₀ L h' m → News h₀ L h' ((D, { cls := .type "tuple", data := .seq (l.drop a).toArray }) :: news) → Q (.ref D) { s with heap := h' })
    (hs : subscripted slice false (.ref t) (.ref s.heap.objs.size) = operate [.ref s.heap.objs.size, .ref t] (getItem (.ref t) (.ref s.heap.objs.size)))
    (hg : ∀ r, letTemporaryGo value (.ref t) r = pure ()) :
    wpAny (model prog w) A (subscriptTail value slice (.ref t) (.ref s.heap.objs.size)) Q E { s with heap := s.heap.push { cls := .type "slice", data := .fields #[.int a u, .none, .none] } } := by
  refine slice_tuple_from (a := a) F N (N.isTup ht) h1 (by simpa using ha) (fun h' F' N' => h _ h' F' N') hs hg ?_
  rw [sizeLine_eq, List.size_toArray]
  omega
end

end
section
-- M7
theorem part_at_ok (w : World) (mean : ExcName → Option Value) (mg mb : PySem.Str → Option Value) (news : List (Addr × Obj)) (a p : Addr) (x y z : Value) (nA nP : Nat) (tkP : Tok) (h1 : (a, ({ cls := .type "tuple", data := .seq #[x, y, z] nA } : Obj)) ∈ news) (h2 : (p, ({ cls := .type "tuple", data := .seq #[.int 1 tkP] nP } : Obj)) ∈ news) :
    Fn w mean mg mb 74 4 [.ref a, .ref p] news (fun r news' => r = z ∧ ∀ p ∈ news, p ∈ news') False := by
  unfold Fn
  intro dp un gd cn cs aa ccd cl outer A₀ base h₀ L m hp9 gs9 dr9 tks9 os9 Q E B F X N T hk hd9 hu9 hret hexc
  refine wpAny_call ?_
  k_with_none
  k_dflt ktr_enter
  (k_with "exec For Name Name cons nil" => k_dflt (refine for_one (by k_asm) (by exact rfl) (by exact rfl) (by exact rfl) ?_ (by (intro _; exact rfl)) (by passes_own)))
  (k_with "OneAt" => k_dflt (refine OneAt.intro (by k_asm) (by k_asm) (by tb_rel) ?_; intro I' oI' h' tk' F' N'; (try k_fold)))
  (k_with "OneEnd" => k_dflt (refine OneEnd.of (by k_asm) (by k_asm) (by (intro p9 h9; tb_rel)) ?_; intro h' tk' F' N'; (try dsimp only)))
  k_steps
  exact hret _ _ _ _ (by k_asm) (by k_asm) ⟨rfl, by (intro p9 h9; tb_rel)⟩
theorem is_redex_ok (w : World) (mean : ExcName → Option Value) (mg mb : PySem.Str → Option Value) (news : List (Addr × Obj)) (a b : Addr) (y z : Value) (nA nP : Nat) (tkP tkP' : Tok) (h1 : (a, ({ cls := .type "tuple", data := .seq #[.str (Str.ofString "app") tkP, .ref b, z] nA } : Obj)) ∈ news) (h2 : (b, ({ cls := .type "tuple", data := .seq #[.str (Str.ofString "lam") tkP', y] nP } : Obj)) ∈ news) :
    Fn w mean mg mb 152 4 [.ref a] news (fun r news' => r = .bool true ∧ ∀ p ∈ news, p ∈ news') False := by
  unfold Fn
  intro dp un gd cn cs aa ccd cl outer A₀ base h₀ L m hp9 gs9 dr9 tks9 os9 Q E B F X N T hk hd9 hu9 hret hexc
  refine wpAny_call ?_
  k_with_none
  k_dflt ktr_enter
  k_steps
  exact hret _ _ _ _ (by k_asm) (by k_asm) ⟨rfl, by (intro p9 h9; tb_rel)⟩
theorem replaced_ok (w : World) (mean : ExcName → Option Value) (mg mb : PySem.Str → Option Value) (news : List (Addr × Obj)) (a p : Addr) (x y z u : Value) (nA nP : Nat) (tkP : Tok) (h1 : (a, ({ cls := .type "tuple", data := .seq #[x, y, z] nA } : Obj)) ∈ news) (h2 : (p, ({ cls := .type "tuple", data := .seq #[.int 1 tkP] nP } : Obj)) ∈ news) :
    Fn w mean mg mb 81 8 [.ref a, .ref p, u] news (fun r news' => (∃ b nA, r = .ref b ∧ (b, ({ cls := .type "tuple", data := .seq #[x, y, u] nA } : Obj)) ∈ news') ∧ ∀ p ∈ news, p ∈ news') False := by
  unfold Fn
  intro dp un gd cn cs aa ccd cl outer A₀ base h₀ L m hp9 gs9 dr9 tks9 os9 Q E B F X N T hk hd9 hu9 hret hexc
  refine wpAny_call ?_
  k_with_none
  k_dflt ktr_enter
  (k_with "call ref" => k_dflt ((refine' Fn.use (part_at_ok _ _ _ _ _ a p x y z nA nP tkP _ _) (by k_asm) (by k_asm) (by k_asm) (by k_asm) (by k_asm) (by first | exact rfl | assumption) (by k_room) (by k_room) ?_ ?_; all_goals (try exact False.elim)); tb_rel; tb_rel; intro r9 news9 h9 tk9 F' N'; revert r9; refine cpsE ?_; intro s9))
  (k_with "subscriptTail Name Slice ref ref" => k_dflt (first
    | (refine slice_tup_all (b := 1) (by k_asm) (by k_asm) (by tb_rel) (by (simp only [List.length_cons, List.length_nil]; omega)) (by exact rfl) ?_ (by with_unfolding_all rfl) (by (intro _; with_unfolding_all rfl)); intro h' F' N'; (try dsimp only))
    | (refine slice_tup_to (b := 2) (by k_asm) (by k_asm) (by tb_rel) (by (simp only [List.length_cons, List.length_nil]; omega)) (by (simp only [List.length_cons, List.length_nil]; omega)) ?_ (by with_unfolding_all rfl) (by (intro _; with_unfolding_all rfl)); intro D' h' F' N'; (try simp only [List.take_succ_cons, List.take_zero] at N'); (try dsimp only))
    | (refine slice_tup_from (a := 1) (by k_asm) (by k_asm) (by tb_rel) (by (simp only [List.length_cons, List.length_nil]; omega)) (by decide) (by (simp only [List.length_cons, List.length_nil]; omega)) ?_ (by with_unfolding_all rfl) (by (intro _; with_unfolding_all rfl)); intro D' h' F' N'; (try simp only [List.drop_succ_cons, List.drop_zero] at N'); (try dsimp only))
    | (refine slice_tup_from (a := 3) (by k_asm) (by k_asm) (by tb_rel) (by (simp only [List.length_cons, List.length_nil]; omega)) (by decide) (by (simp only [List.length_cons, List.length_nil]; omega)) ?_ (by with_unfolding_all rfl) (by (intro _; with_unfolding_all rfl)); intro D' h' F' N'; (try simp only [List.drop_succ_cons, List.drop_zero] at N'); (try dsimp only))))
  (k_with "binaryOp Add ref ref" => k_dflt (first
    | (refine tup_add (by k_asm) (by k_asm) (by tb_rel) (by tb_rel) (by (simp only [List.length_cons, List.length_nil]; omega)) ?_; intro D' h' F' N'; (try simp only [List.cons_append, List.nil_append] at N'); (try dsimp only))
    | (refine tup_add0 (by k_asm) (by k_asm) (by tb_rel) (by tb_rel) (by (simp only [List.length_cons, List.length_nil]; omega)) ?_; (try dsimp only))))
  k_steps
  refine hret _ _ _ _ (by k_asm) (by k_asm) ⟨⟨_, 0, rfl, ?_⟩, by (intro p9 h9; tb_rel)⟩
  exact List.Mem.tail _ (List.Mem.head _)

/-- beta(('app', ('k',), ('app', ('lam', t), u)), (1,)) -/
theorem beta_ok (w : World) (mean : ExcName → Option Value) (mg mb : PySem.Str → Option Value) (news : List (Addr × Obj)) (a p : Addr) (t u : Tm) (nP : Nat) (tkP : Tok) (hR : TIn news (.ref a) (.app .k (.app (.lam t) u))) (h2 : (p, ({ cls := .type "tuple", data := .seq #[.int 1 tkP] nP } : Obj)) ∈ news)
    (nA : Nat) (PI : PutInFn w mean mg mb 0 u t nA) :
    Fn w mean mg mb 159 (nA + 12) [.ref a, .ref p] news (fun r news' => (∃ t', put 0 u 0 t = some t' ∧ TIn news' r (.app .k t')) ∧ ∀ p ∈ news, p ∈ news') (put 0 u 0 t = none) := by
  refine hR.invA fun tka na ak ar hm1 hk hr => ?_
  refine hr.invA fun tkr nr al au hm2 hl hu => ?_
  refine hl.invL fun tkl nl av hm3 ht => ?_
  unfold Fn
  intro dp un gd cn cs aa ccd cl outer A₀ base h₀ L m hp9 gs9 dr9 tks9 os9 Q E B F X N T hk9 hd9 hu9 hret hexc
  refine wpAny_call ?_
  k_with_none
  k_dflt ktr_enter
  (k_with "call ref" => k_dflt ((refine' Fn.use (part_at_ok _ _ _ _ _ a p (.str (Str.ofString "app") tka) (.ref ak) (.ref ar) na nP tkP _ _) (by k_asm) (by k_asm) (by k_asm) (by k_asm) (by k_asm) (by first | exact rfl | assumption) (by k_room) (by k_room) ?_ ?_; all_goals (try exact False.elim)); tb_rel; tb_rel; intro r9 news9 h9 tk9 F' N'; revert r9; refine cpsE ?_; intro s9))
  (k_with "call ref" => k_dflt ((refine' Fn.use (is_redex_ok _ _ _ _ _ ar al (.ref av) (.ref au) nr nl tkr tkl _ _) (by k_asm) (by k_asm) (by k_asm) (by k_asm) (by k_asm) (by first | exact rfl | assumption) (by k_room) (by k_room) ?_ ?_; all_goals (try exact False.elim)); tb_rel; tb_rel; intro r9 news9 h9 tk9 F' N'; revert r9; refine cpsE ?_; intro s9))
  (k_with "call ref" => k_dflt ((refine' Fn.use (replaced_ok _ _ _ _ _ a p (.str (Str.ofString "app") tka) (.ref ak) (.ref ar) _ na nP tkP _ _) (by k_asm) (by k_asm) (by k_asm) (by k_asm) (by k_asm) (by first | exact rfl | assumption) (by k_room) (by k_room) ?_ ?_; all_goals (try exact False.elim)); tb_rel; tb_rel; intro r9 news9 h9 tk9 F' N' R9; obtain ⟨⟨br9, nr9, rfl, mr9⟩, s9⟩ := R9))
  (k_with "call ref" => k_dflt ((refine' Fn.use (PI _ _ _ _ _ _) (by k_asm) (by k_asm) (by k_asm) (by k_asm) (by k_asm) (by first | exact rfl | assumption) (by k_room) (by k_room) ?_ ?_); (first | assumption | (refine TIn.mono ?_ ‹_›; intro p9 h9; tb_rel)); (first | assumption | (refine TIn.mono ?_ ‹_›; intro p9 h9; tb_rel)); rotate_left; (intro e9 ea9 g9 h9 tk9 Fg' R' U'; (try k_unfold); (try dsimp only); refine leave_onE Fg' rfl R' U' rfl fun h'' R'' U'' => ?_; dsimp only; exact hexc e9 _ _ _ _ (by assumption) (raised_sub (by (intro p9 h9; tb_rel)) R'') U''); intro r9 news9 h9 tk9 F' N'; refine cpsT ?_; intro t9 e9 T9 s9))
  k_steps
  refine hret _ _ _ _ (by k_asm) (by k_asm) ⟨⟨_, e9, ?_⟩, by (intro p9 h9; tb_rel)⟩
  exact TIn.app mr9 (by (first | assumption | (refine TIn.mono ?_ ‹_›; intro p9 h9; tb_rel))) (by (first | assumption | (refine TIn.mono ?_ ‹_›; intro p9 h9; tb_rel)))

end
section
-- M8
/-- as Fn, of a call that the law itself makes (a raise below is caught there) -/
noncomputable def FnT (w : World) (mean : ExcName → Option Value) (mg mb : PySem.Str → Option Value) (f : Addr) (nd : Nat) (vs : List Value) (news : List (Addr × Obj)) (ret : Value → List (Addr × Obj) → Prop) : Prop :=
  ∀ (dp un : Nat) (gd : Option (List Code)) (cn : PySem.Str) (cs : Scope) (a : Addr) (ccd : Value) (A₀ : Around) (h₀ : Heap) (L : Addr) (m : PySem.Str → Option Value) (hp : Heap) (gs : Array GenState) (dr : Drawn) (tks : Tok) (oss : OsState) (Q E : Value → Shared → Prop),
    Below A₀ h₀ [] h₀ → Fr h₀ L hp m → (kf w.params).In h₀ → News h₀ L hp news → Top hd.view_39 (looseW hd.view_39 []) mean mg mb h₀ → cs.kind = .function → dp + nd < 900 → un + 8 * nd < 9000 →
    (∀ r news' h' tk', Fr h₀ L h' m → News h₀ L h' news' → ret r news' → Q r ⟨h', gs, dr, tk', oss⟩) →
    wpAny (model PySem.Challenge.rw_sa0019_01.prog w) (ktrTop dp un gd cn cs L a ccd [] []) (call (.ref f) vs) Q E ⟨hp, gs, dr, tks, oss⟩
/-- what _law_put_told and _law_step_told hand back: a term, or None -/
noncomputable def Told (news : List (Addr × Obj)) (r : Value) : Option Tm → Prop
  | some t => TIn news r t
  | none => r = .none
theorem put_told_ok (w : World) (mean : ExcName → Option Value) (mg mb : PySem.Str → Option Value) (k : Nat) (u t : Tm) (n : Nat) (PI : PutInFn w mean mg mb k u t n) (news : List (Addr × Obj)) (v vu : Value) (tkP : Tok) (hR : TIn news v t) (hRu : TIn news vu u) :
    FnT w mean mg mb 210 (n + 8) [v, .int k tkP, vu] news (fun r news' => Told news' r (put k u 0 t) ∧ ∀ p ∈ news, p ∈ news') := by
  obtain ⟨av, rfl⟩ := hR.isRef
  obtain ⟨au, rfl⟩ := hRu.isRef
  unfold FnT
  intro dp un gd cn cs aa ccd A₀ h₀ L m hp9 gs9 dr9 tks9 os9 Q E B F X N T hk9 hd9 hu9 hret
  refine wpAny_call ?_
  k_with_none
  k_dflt (refine' code_defS0 ?k1 ?k2 ?k3 ?k4 ?k5 ?kA ?k6 ?k7 ?k8 ?k9 ?kB ?_ ?cK ?c2 ?c3 ?c4 ?c5; (case kA => exact rfl); (case k2 => k_asm); (case k1 => k_asm); (case k3 => k_asm); (case k4 => k_asm); (case k5 => k_asm); (case k6 => k_is); (case k7 => k_is); (case k8 => k_room); (case k9 => exact BindsTo.of_eq rfl); (case kB => exact locs rfl); (case cK => first | exact rfl | assumption); (case c2 => exact rfl); (case c3 => exact rfl); (case c4 => exact rfl); (case c5 => decide); k_whole; intro g' L' h' FG' F' N' B' X' T' D'; (try dsimp only); (try k_fold))
  (k_with "call ref" => k_dflt ((refine' Fn.use (PI _ _ _ _ _ _) (by k_asm) (by k_asm) (by k_asm) (by k_asm) (by k_asm) (by first | exact rfl | assumption) (by (first | k_room | ((have hcL9 := cLine_is); (simp only [depth_under_make, depth_under_kw, depth_in1, depth_deeper, depth_caller, recursionLimit, units_in1, units_deeper, Around.mark_units, units_caller, cLine]); (try dsimp only [ktrTop]); omega))) (by (first | k_room | ((have hcL9 := cLine_is); (simp only [depth_under_make, depth_under_kw, depth_in1, depth_deeper, depth_caller, recursionLimit, units_in1, units_deeper, Around.mark_units, units_caller, cLine]); (try dsimp only [ktrTop]); omega))) ?_ ?_); (first | assumption | (refine TIn.mono ?_ ‹_›; intro p9 h9; tb_rel)); (first | assumption | (refine TIn.mono ?_ ‹_›; intro p9 h9; tb_rel)); rotate_left; (intro e9 ea9 g9 h9 tk9 Fg' R' U'; (try dsimp only)); rotate_left; intro r9 news9 h9 tk9 F' N'; refine cpsT ?_; intro t9 e9 T9 s9))
  k_steps
  · exact hret _ _ _ _ (by k_asm) (by k_asm) ⟨by rw [e9]; exact T9, by (intro p9 h9; tb_rel)⟩
  · exact hret _ _ _ _ (by k_asm) (by k_asm) ⟨by rw [e9]; exact rfl, by (intro p9 h9; tb_rel)⟩

theorem step_told_ok (w : World) (mean : ExcName → Option Value) (mg mb : PySem.Str → Option Value) (news : List (Addr × Obj)) (a p : Addr) (t u : Tm) (nP : Nat) (tkP : Tok) (hR : TIn news (.ref a) (.app .k (.app (.lam t) u))) (h2 : (p, ({ cls := .type "tuple", data := .seq #[.int 1 tkP] nP } : Obj)) ∈ news)
    (n : Nat) (PI : PutInFn w mean mg mb 0 u t n) :
    FnT w mean mg mb 217 (n + 20) [.ref a, .ref p] news (fun r news' => Told news' r ((put 0 u 0 t).map (.app .k)) ∧ ∀ p ∈ news, p ∈ news') := by
  unfold FnT
  intro dp un gd cn cs aa ccd A₀ h₀ L m hp9 gs9 dr9 tks9 os9 Q E B F X N T hk9 hd9 hu9 hret
  refine wpAny_call ?_
  k_with_none
  k_dflt (refine' code_defS0 ?k1 ?k2 ?k3 ?k4 ?k5 ?kA ?k6 ?k7 ?k8 ?k9 ?kB ?_ ?cK ?c2 ?c3 ?c4 ?c5; (case kA => exact rfl); (case k2 => k_asm); (case k1 => k_asm); (case k3 => k_asm); (case k4 => k_asm); (case k5 => k_asm); (case k6 => k_is); (case k7 => k_is); (case k8 => k_room); (case k9 => exact BindsTo.of_eq rfl); (case kB => exact locs rfl); (case cK => first | exact rfl | assumption); (case c2 => exact rfl); (case c3 => exact rfl); (case c4 => exact rfl); (case c5 => decide); k_whole; intro g' L' h' FG' F' N' B' X' T' D'; (try dsimp only); (try k_fold))
  (k_with "call ref" => k_dflt ((refine' Fn.use (beta_ok _ _ _ _ _ _ _ _ _ nP tkP _ _ _ PI) (by k_asm) (by k_asm) (by k_asm) (by k_asm) (by k_asm) (by first | exact rfl | assumption) (by (first | k_room | ((have hcL9 := cLine_is); (simp only [depth_under_make, depth_under_kw, depth_in1, depth_deeper, depth_caller, recursionLimit, units_in1, units_deeper, Around.mark_units, units_caller, cLine]); (try dsimp only [ktrTop]); omega))) (by (first | k_room | ((have hcL9 := cLine_is); (simp only [depth_under_make, depth_under_kw, depth_in1, depth_deeper, depth_caller, recursionLimit, units_in1, units_deeper, Around.mark_units, units_caller, cLine]); (try dsimp only [ktrTop]); omega))) ?_ ?_); (first | assumption | (refine TIn.mono ?_ ‹_›; intro p9 h9; tb_rel)); tb_rel; rotate_left; (intro e9 ea9 g9 h9 tk9 Fg' R' U'; (try dsimp only)); rotate_left; intro r9 news9 h9 tk9 F' N'; refine cpsT ?_; intro t9 e9 T9 s9))
  k_steps
  · exact hret _ _ _ _ (by k_asm) (by k_asm) ⟨by rw [e9]; exact T9, by (intro p9 h9; tb_rel)⟩
  · exact hret _ _ _ _ (by k_asm) (by k_asm) ⟨by rw [e9]; exact rfl, by (intro p9 h9; tb_rel)⟩

end
section
-- L1
/-- a term by names -/
inductive Nt where
  | k
  | of (i : Nat)
  | out (i : Nat)
  | lam (n : Nat) (b : Nt)
  | app (l r : Nt)
inductive NIn (news : List (Addr × Obj)) : Value → Nt → Prop
  | k {a : Addr} {tk : Tok} {n : Nat} : (a, ({ cls := .type "tuple", data := .seq #[.str (Str.ofString "k") tk] n } : Obj)) ∈ news → NIn news (.ref a) .k
  | of {a : Addr} {tk tk' : Tok} {n i : Nat} : (a, ({ cls := .type "tuple", data := .seq #[.str (Str.ofString "of") tk, .int i tk'] n } : Obj)) ∈ news → NIn news (.ref a) (.of i)
  | out {a : Addr} {tk tk' : Tok} {n i : Nat} : (a, ({ cls := .type "tuple", data := .seq #[.str (Str.ofString "out") tk, .int i tk'] n } : Obj)) ∈ news → NIn news (.ref a) (.out i)
  | lam {a : Addr} {tk tk' : Tok} {n i : Nat} {v : Value} {t : Nt} : (a, ({ cls := .type "tuple", data := .seq #[.str (Str.ofString "lam") tk, .int i tk', v] n } : Obj)) ∈ news → NIn news v t → NIn news (.ref a) (.lam i t)
  | app {a : Addr} {tk : Tok} {n : Nat} {v v' : Value} {t t' : Nt} : (a, ({ cls := .type "tuple", data := .seq #[.str (Str.ofString "app") tk, v, v'] n } : Obj)) ∈ news → NIn news v t → NIn news v' t' → NIn news (.ref a) (.app t t')
theorem NIn.sub {news news' : List (Addr × Obj)} (hs : ∀ p ∈ news, (∃ its n, p.2 = ({ cls := .type "tuple", data := .seq its n } : Obj)) → p ∈ news') {v : Value} {t : Nt} (h : NIn news v t) : NIn news' v t := by
  induction h with
  | k hm => exact .k (hs _ hm ⟨_, _, rfl⟩)
  | of hm => exact .of (hs _ hm ⟨_, _, rfl⟩)
  | out hm => exact .out (hs _ hm ⟨_, _, rfl⟩)
  | lam hm _ ih => exact .lam (hs _ hm ⟨_, _, rfl⟩) ih
  | app hm _ _ ih ih' => exact .app (hs _ hm ⟨_, _, rfl⟩) ih ih'
theorem NIn.mono {news news' : List (Addr × Obj)} (hs : ∀ p ∈ news, p ∈ news') {v : Value} {t : Nt} (h : NIn news v t) : NIn news' v t := h.sub fun p hp _ => hs p hp
theorem NIn.isRef {news : List (Addr × Obj)} {v : Value} {t : Nt} (h : NIn news v t) : ∃ a, v = .ref a := by cases h <;> exact ⟨_, rfl⟩
theorem NIn.outZ {news : List (Addr × Obj)} {a : Addr} {tk tk' : Tok} {n j : Nat} {z : Int} (h : (a, ({ cls := .type "tuple", data := .seq #[.str (Str.ofString "out") tk, .int z tk'] n } : Obj)) ∈ news) (e : z = (j : Int)) : NIn news (.ref a) (.out j) := by subst e; exact .out h
theorem NIn.ofZ {news : List (Addr × Obj)} {a : Addr} {tk tk' : Tok} {n j : Nat} {z : Int} (h : (a, ({ cls := .type "tuple", data := .seq #[.str (Str.ofString "of") tk, .int z tk'] n } : Obj)) ∈ news) (e : z = (j : Int)) : NIn news (.ref a) (.of j) := by subst e; exact .of h
noncomputable def Nt.hgt : Nt → Nat
  | .lam _ t => t.hgt + 1
  | .app a b => max a.hgt b.hgt + 1
  | _ => 0
/-- `_law_filled(tree, k, other)` -/
noncomputable def fill (k : Nat) (o : Nt) : Nt → Nt
  | .k => .k
  | .of i => .of i
  | .out i => if i = k then o else .out (if k < i then i - 1 else i)
  | .lam n t => .lam n (fill k o t)
  | .app a b => .app (fill k o a) (fill k o b)
noncomputable def FillFn (w : World) (mean : ExcName → Option Value) (mg mb : PySem.Str → Option Value) (k : Nat) (o : Nt) (t : Nt) (n : Nat) : Prop :=
  ∀ (news : List (Addr × Obj)) (v vo : Value) (tkP : Tok), NIn news v t → NIn news vo o → Fn w mean mg mb 189 n [v, .int k tkP, vo] news (fun r news' => NIn news' r (fill k o t) ∧ ∀ p ∈ news, p ∈ news') False
theorem FillFn.wider {w : World} {mean : ExcName → Option Value} {mg mb : PySem.Str → Option Value} {k : Nat} {o t : Nt} {n n' : Nat} (h : FillFn w mean mg mb k o t n) (hl : n ≤ n') : FillFn w mean mg mb k o t n' :=
  fun news v vo tkP hR hO => (h news v vo tkP hR hO).wider hl
section
variable (w : World) (mean : ExcName → Option Value) (mg mb : PySem.Str → Option Value) (k : Nat) (o : Nt)
theorem fill_k : FillFn w mean mg mb k o .k 4 := by
  intro news v vo tkP hR hO
  unfold Fn
  intro dp un gd cn cs aa ccd cl outer A₀ base h₀ L m hp9 gs9 dr9 tks9 os9 Q E B F X N T hk9 hd9 hu9 hret hexc
  have hR0 := hR
  cases hR
  refine wpAny_call ?_
  k_with_none
  k_dflt ktr_enter
  k_steps
  exact hret _ _ _ _ (by k_asm) (by k_asm) ⟨by exact hR0, by (intro p9 h9; tb_rel)⟩
theorem fill_of (i : Nat) : FillFn w mean mg mb k o (.of i) 4 := by
  intro news v vo tkP hR hO
  unfold Fn
  intro dp un gd cn cs aa ccd cl outer A₀ base h₀ L m hp9 gs9 dr9 tks9 os9 Q E B F X N T hk9 hd9 hu9 hret hexc
  have hR0 := hR
  cases hR
  refine wpAny_call ?_
  k_with_none
  k_dflt ktr_enter
  k_steps
  exact hret _ _ _ _ (by k_asm) (by k_asm) ⟨by exact hR0, by (intro p9 h9; tb_rel)⟩
theorem fill_here (i : Nat) (hi : i = k) : FillFn w mean mg mb k o (.out i) 4 := by
  intro news v vo tkP hR hO
  have hq : ((i : Int) == (k : Int)) = true := beq_iff_eq.mpr (by omega)
  unfold Fn
  intro dp un gd cn cs aa ccd cl outer A₀ base h₀ L m hp9 gs9 dr9 tks9 os9 Q E B F X N T hk9 hd9 hu9 hret hexc
  have hR0 := hR
  cases hR
  refine wpAny_call ?_
  k_with_none
  k_dflt ktr_enter
  k_steps
  exact hret _ _ _ _ (by k_asm) (by k_asm) ⟨by simp only [fill, if_pos hi]; exact hO, by (intro p9 h9; tb_rel)⟩
theorem fill_out (i : Nat) (hi : ¬ i = k) : FillFn w mean mg mb k o (.out i) 4 := by
  intro news v vo tkP hR hO
  have hq : ((i : Int) == (k : Int)) = false := beq_eq_false_iff_ne.mpr (by omega)
  unfold Fn
  intro dp un gd cn cs aa ccd cl outer A₀ base h₀ L m hp9 gs9 dr9 tks9 os9 Q E B F X N T hk9 hd9 hu9 hret hexc
  have hR0 := hR
  cases hR
  refine wpAny_call ?_
  k_with_none
  k_dflt ktr_enter
  k_steps
  exact hret _ _ _ _ (by k_asm) (by k_asm) ⟨by simp only [fill, if_neg hi]; exact NIn.outZ (List.Mem.head _) (by by_cases hl : k < i <;> simp [hl] <;> omega), by (intro p9 h9; tb_rel)⟩
theorem fill_lam (i : Nat) (t : Nt) (n : Nat) (IH : FillFn w mean mg mb k o t n) : FillFn w mean mg mb k o (.lam i t) (n + 4) := by
  intro news v vo tkP hR hO
  obtain ⟨ao, rfl⟩ := hO.isRef
  unfold Fn
  intro dp un gd cn cs aa ccd cl outer A₀ base h₀ L m hp9 gs9 dr9 tks9 os9 Q E B F X N T hk9 hd9 hu9 hret hexc
  have hR0 := hR
  cases hR
  refine wpAny_call ?_
  k_with_none
  k_dflt ktr_enter
  (k_with "call ref" => k_dflt ((refine' Fn.use (IH _ _ _ _ _ _) (by k_asm) (by k_asm) (by k_asm) (by k_asm) (by k_asm) (by first | exact rfl | assumption) (by k_room) (by k_room) ?_ ?_; all_goals (try exact False.elim)); (first | assumption | (refine TIn.mono ?_ (by assumption); (intro p9 h9; tb_rel)) | (refine NIn.mono ?_ (by assumption); (intro p9 h9; tb_rel))); (first | assumption | (refine TIn.mono ?_ (by assumption); (intro p9 h9; tb_rel)) | (refine NIn.mono ?_ (by assumption); (intro p9 h9; tb_rel))); intro r9 news9 h9 tk9 F' N'; refine cps2 ?_; intro R9 s9))
  k_steps
  exact hret _ _ _ _ (by k_asm) (by k_asm) ⟨NIn.lam (List.Mem.head _) (by (first | assumption | (refine TIn.mono ?_ (by assumption); (intro p9 h9; tb_rel)) | (refine NIn.mono ?_ (by assumption); (intro p9 h9; tb_rel)))), by (intro p9 h9; tb_rel)⟩
theorem fill_app (t t2 : Nt) (n : Nat) (IH1 : FillFn w mean mg mb k o t n) (IH2 : FillFn w mean mg mb k o t2 n) : FillFn w mean mg mb k o (.app t t2) (n + 4) := by
  intro news v vo tkP hR hO
  obtain ⟨ao, rfl⟩ := hO.isRef
  unfold Fn
  intro dp un gd cn cs aa ccd cl outer A₀ base h₀ L m hp9 gs9 dr9 tks9 os9 Q E B F X N T hk9 hd9 hu9 hret hexc
  have hR0 := hR
  cases hR
  refine wpAny_call ?_
  k_with_none
  k_dflt ktr_enter
  (k_with "call ref" => k_dflt ((refine' Fn.use (IH1 _ _ _ _ _ _) (by k_asm) (by k_asm) (by k_asm) (by k_asm) (by k_asm) (by first | exact rfl | assumption) (by k_room) (by k_room) ?_ ?_; all_goals (try exact False.elim)); (first | assumption | (refine TIn.mono ?_ (by assumption); (intro p9 h9; tb_rel)) | (refine NIn.mono ?_ (by assumption); (intro p9 h9; tb_rel))); (first | assumption | (refine TIn.mono ?_ (by assumption); (intro p9 h9; tb_rel)) | (refine NIn.mono ?_ (by assumption); (intro p9 h9; tb_rel))); intro r9 news9 h9 tk9 F' N'; refine cps2 ?_; intro R9 s9))
  (k_with "call ref" => k_dflt ((refine' Fn.use (IH2 _ _ _ _ _ _) (by k_asm) (by k_asm) (by k_asm) (by k_asm) (by k_asm) (by first | exact rfl | assumption) (by k_room) (by k_room) ?_ ?_; all_goals (try exact False.elim)); (first | assumption | (refine TIn.mono ?_ (by assumption); (intro p9 h9; tb_rel)) | (refine NIn.mono ?_ (by assumption); (intro p9 h9; tb_rel))); (first | assumption | (refine TIn.mono ?_ (by assumption); (intro p9 h9; tb_rel)) | (refine NIn.mono ?_ (by assumption); (intro p9 h9; tb_rel))); intro r8 news8 h8 tk8 F' N'; refine cps2 ?_; intro R8 s8))
  k_steps
  exact hret _ _ _ _ (by k_asm) (by k_asm) ⟨NIn.app (List.Mem.head _) (by (first | assumption | (refine TIn.mono ?_ (by assumption); (intro p9 h9; tb_rel)) | (refine NIn.mono ?_ (by assumption); (intro p9 h9; tb_rel)))) (by (first | assumption | (refine TIn.mono ?_ (by assumption); (intro p9 h9; tb_rel)) | (refine NIn.mono ?_ (by assumption); (intro p9 h9; tb_rel)))), by (intro p9 h9; tb_rel)⟩
theorem fill_ok : ∀ (t : Nt), FillFn w mean mg mb k o t (4 * t.hgt + 4) := by
  intro t
  induction t with
  | k => exact fill_k w mean mg mb k o
  | of i => exact fill_of w mean mg mb k o i
  | out i =>
    by_cases hi : i = k
    · exact fill_here w mean mg mb k o i hi
    · exact fill_out w mean mg mb k o i hi
  | lam i t ih => exact (fill_lam w mean mg mb k o i t _ ih).wider (by show 4 * t.hgt + 4 + 4 ≤ 4 * (t.hgt + 1) + 4; omega)
  | app a b iha ihb => exact (fill_app w mean mg mb k o a b (4 * max a.hgt b.hgt + 4) (iha.wider (by omega)) (ihb.wider (by omega))).wider (by show 4 * max a.hgt b.hgt + 4 + 4 ≤ 4 * (max a.hgt b.hgt + 1) + 4; omega)
end

end
section
-- L2
noncomputable abbrev zs (ns : List Nat) : List Int := List.map (fun k : Nat => Int.ofNat k) ns
/-- a list of small numbers in the ledger -/
noncomputable def ListIn (news : List (Addr × Obj)) (A : Addr) (ns : List Nat) : Prop := ∃ vs n, (A, ({ cls := .type "list", data := .seq vs.toArray n } : Obj)) ∈ news ∧ IntsAre vs (zs ns)
theorem ListIn.mono {news news' : List (Addr × Obj)} {A : Addr} {ns : List Nat} (hs : ∀ p ∈ news, p ∈ news') (h : ListIn news A ns) : ListIn news' A ns := by
  obtain ⟨vs, n, hm, hi⟩ := h
  exact ⟨vs, n, hs _ hm, hi⟩
theorem ListIn.off {news news' : List (Addr × Obj)} {A B : Addr} {ns : List Nat} (hs : ∀ p ∈ news, p.1 ≠ B → p ∈ news') (h : ListIn news A ns) (hne : A ≠ B) : ListIn news' A ns := by
  obtain ⟨vs, n, hm, hi⟩ := h
  exact ⟨vs, n, hs _ hm hne, hi⟩
section
variable {prog : Program} {w : World} {A : Around} {E : Value → Shared → Prop} {s : Shared} {h₀ : Heap} {L : Addr} {m : PySem.Str → Option Value} {news : List (Addr × Obj)}
theorem r_len {B : Addr} {ns : List Nat} {Q : Value → Shared → Prop} (N : News h₀ L s.heap news) (h : ListIn news B ns) (hz : ns.length ≤ 1000) (hQ : ∀ t t', Q (.int (ns.length : Nat) t) { s with toks := t' }) :
    wpAny (model prog w) A (call (.builtin "len") [.ref B]) Q E s := by
  obtain ⟨vs, n, hm, hi⟩ := h
  have hl := hi.length
  rw [List.length_map] at hl
  refine len_list (N.isList hm) (by rw [List.size_toArray, hl]; omega) ?_
  rw [List.size_toArray, hl]
  exact hQ _ _
theorem r_item {value slice : Expr} {B : Addr} {ns : List Nat} {i : Nat} {u : Tok} {Q : Value → Shared → Prop} (N : News h₀ L s.heap news) (h : ListIn news B ns) (hz : ns.length ≤ 1000) (hi : i < ns.length) (hQ : ∀ t, Q (.int (ns[i] : Nat) t) s)
    (hs : subscripted slice false (.ref B) (.int i u) = operate [.ref B, .int i u] (getItem (.ref B) (.int i u))) (hg : ∀ r, letTemporaryGo value (.ref B) r = pure ()) :
    wpAny (model prog w) A (subscriptTail value slice (.ref B) (.int i u)) Q E s := by
  obtain ⟨vs, n, hm, hv⟩ := h
  obtain ⟨t, ht⟩ := hv.get i (ns[i] : Nat) (by simp [hi])
  exact item_list (N.isList hm) (by omega) (by omega) (by simpa using ht) (hQ t) hs hg
theorem r_last {value slice : Expr} {B : Addr} {ns : List Nat} {k : Nat} {u : Tok} {Q : Value → Shared → Prop} (N : News h₀ L s.heap news) (h : ListIn news B (ns ++ [k])) (hz : ns.length ≤ 1000) (hQ : ∀ t, Q (.int (k : Nat) t) s)
    (hs : subscripted slice false (.ref B) (.int (-1) u) = operate [.ref B, .int (-1) u] (getItem (.ref B) (.int (-1) u))) (hg : ∀ r, letTemporaryGo value (.ref B) r = pure ()) :
    wpAny (model prog w) A (subscriptTail value slice (.ref B) (.int (-1) u)) Q E s := by
  obtain ⟨vs, n, hm, hv⟩ := h
  have hl := hv.length
  simp only [List.length_map, List.length_append, List.length_singleton] at hl
  obtain ⟨t, ht⟩ := hv.get ns.length (k : Nat) (by simp)
  refine subscriptTail_builtin (N.isList hm).typeIs slot_list_getitem.lookup (wpAny_getItem_list_neg (N.isList hm) (by decide) (by rw [List.size_toArray, hl]; omega) (by decide) ?_ (hQ t)) hs hg
  rw [List.size_toArray, hl]
  have : (((-1 : Int) + ((ns.length + 1 : Nat) : Int))).toNat = ns.length := by omega
  rw [this]
  simpa using ht
theorem r_cat {B C : Addr} {ns : List Nat} {k : Nat} {t : Tok} {n : Nat} {Q : Value → Shared → Prop} (F : Fr h₀ L s.heap m) (N : News h₀ L s.heap news) (hC : (C, ({ cls := .type "list", data := .seq #[.int k t] n } : Obj)) ∈ news) (h : ListIn news B ns) (hz : ns.length ≤ 1000)
    (hQ : ∀ D h' news', Fr h₀ L h' m → News h₀ L h' news' → ListIn news' D (k :: ns) → (∀ p ∈ news, p ∈ news') → (∀ p ∈ news, p.1 ≠ D) → Q (.ref D) { s with heap := h' }) :
    wpAny (model prog w) A (binaryOp .Add (.ref C) (.ref B)) Q E s := by
  obtain ⟨vs, n', hm, hv⟩ := h
  have hl := hv.length
  rw [List.length_map] at hl
  refine add_lists (vs := [.int k t]) (ws := vs) F N (N.isList hC) (N.isList hm) (fun h' F' N' => ?_) (by rw [sizeLine_eq, hl, List.length_singleton]; omega)
  exact hQ _ _ _ F' N' ⟨_, _, .head _, .cons _ _ hv⟩ (fun p hp => .tail _ hp) fun p hp => Nat.ne_of_lt (Heap.lt_size (N p hp).1)
theorem r_append {B : Addr} {ns : List Nat} {k : Nat} {t : Tok} {Q : Value → Shared → Prop} (F : Fr h₀ L s.heap m) (N : News h₀ L s.heap news) (h : ListIn news B ns) (hz : ns.length ≤ 1000)
    (hQ : ∀ h' news', Fr h₀ L h' m → News h₀ L h' news' → ListIn news' B (ns ++ [k]) → (∀ p ∈ news, p.1 ≠ B → p ∈ news') → (∀ p ∈ news, IsTupObj p.2 → p ∈ news') → Q .none { s with heap := h' }) :
    wpAny (model prog w) A (call (.builtin "list.append") [.ref B, .int k t]) Q E s := by
  obtain ⟨vs, n', hm, hv⟩ := h
  have hl := hv.length
  rw [List.length_map] at hl
  refine append_at (hsz := by rw [List.size_toArray, hl, sizeLine_eq]; omega) (N.get hm) fun h' hs hD => ?_
  have off : ∀ p ∈ news, p.1 ≠ B → p ∈ (B, ({ cls := .type "list", data := .seq (vs.toArray.push (.int k t)) (n' + 1) } : Obj)) :: news.filter (fun p => decide (p.1 ≠ B)) := fun p hp hne => .tail _ (List.mem_filter.mpr ⟨hp, decide_eq_true hne⟩)
  refine hQ h' _ (F.update N hm hs) (fun p hp => ?_) ⟨vs ++ [.int k t], n' + 1, ?_, ?_⟩ off fun p hp ht => off p hp fun e => ?_
  · rcases List.mem_cons.mp hp with rfl | hp
    · exact ⟨hD, (N _ hm).2⟩
    · have hp' := List.mem_filter.mp hp
      exact ⟨(hs.2 _ (of_decide_eq_true hp'.2)).trans (N p hp'.1).1, (N p hp'.1).2⟩
  · rw [List.push_toArray]
    exact .head _
  · have : zs (ns ++ [k]) = zs ns ++ [(k : Int)] := by simp [zs]
    rw [this]
    exact hv.append (.cons _ _ .nil)
  · have h1 := (N p hp).1
    rw [e, (N _ hm).1] at h1
    obtain ⟨_, _, e'⟩ := ht
    have := congrArg Obj.cls ((Option.some.inj h1).trans e')
    exact absurd (Value.type.inj this) (by decide)
theorem zs_idx (ns : List Nat) (k : Nat) (hk : k ∈ ns) : (zs ns).idxOf (k : Int) = ns.idxOf k := by
  induction ns with
  | nil => cases hk
  | cons a r ih =>
    simp only [zs, List.map_cons, List.idxOf_cons]
    by_cases h : a = k
    · simp [h]
    · have h1 : (a == k) = false := by simp [h]
      have h2 : (Int.ofNat a == ((k : Nat) : Int)) = false := beq_eq_false_iff_ne.mpr fun e => h (Int.ofNat.inj e)
      rw [h1, h2]
      simp only [cond_false]
      rcases List.mem_cons.mp hk with e | hk
      · exact absurd e.symm h
      · rw [← ih hk]
theorem r_index {B : Addr} {ns : List Nat} {k : Nat} {t : Tok} {Q : Value → Shared → Prop} (N : News h₀ L s.heap news) (h : ListIn news B ns) (hz : ns.length ≤ 1000) (hk : k ∈ ns) (hQ : ∀ t t', Q (.int (ns.idxOf k : Nat) t) { s with toks := t' }) :
    wpAny (model prog w) A (call (.builtin "list.index") [.ref B, .int k t]) Q E s := by
  obtain ⟨vs, n', hm, hi⟩ := h
  have ho := N.get hm
  have hlen := hi.length
  have hk' : (k : Int) ∈ zs ns := List.mem_map.mpr ⟨k, hk, rfl⟩
  have hj : (zs ns).idxOf (k : Int) < (zs ns).length := List.idxOf_lt_length_iff.mpr hk'
  have hl2 : (zs ns).length = ns.length := List.length_map ..
  refine call_meets PySem.F.slot_list_index ⟨_, ho, rfl⟩ PySem.F.entry_list_index (PySem.F.args_list_index_2 _ _)
    (PySem.SeqAt.list_indexAt B vs.toArray n' none #[] (.int k t) (isInt k) ((zs ns).idxOf (k : Int)) (by rw [List.size_toArray, hlen]; exact hj) (by omega) ?_ ?_) ⟨ho, fun y hy => (eq_isInt k t hi y (by simpa using hy)).at _ _, ?_⟩
  · show isInt k vs[(zs ns).idxOf (k : Int)] = true
    rw [isInt_at k hi _ (by omega) hj]
    simpa using List.getElem_idxOf hj
  · intro j hjs hlt
    show isInt k vs[j] = false
    rw [isInt_at k hi j (by simpa using hjs) (by rw [List.size_toArray] at hjs; omega)]
    exact ne_of_lt_idxOf hlt _
  · show Q (.int ((zs ns).idxOf (k : Int) : Nat) _) _
    rw [zs_idx ns k hk]
    exact hQ _ _
end

end
section
-- L3
section
variable {prog : Program} {w : World} {A : Around} {E : Value → Shared → Prop} {s : Shared} {h₀ : Heap} {L : Addr} {news : List (Addr × Obj)}
theorem r_eqk_no {a b : Addr} {x y : PySem.Str} {tk tk' : Tok} {rest : List Value} {n n' : Nat} {Q : Value → Shared → Prop} (N : News h₀ L s.heap news) (h1 : (a, ({ cls := .type "tuple", data := .seq (Value.str x tk :: rest).toArray n } : Obj)) ∈ news) (h2 : (b, ({ cls := .type "tuple", data := .seq #[.str y tk'] n' } : Obj)) ∈ news) (hu : A.units < cLine) (hne : (x == y) = false) (hQ : Q (.bool false) s) :
    wpAny (model prog w) A (compareOp .Eq (.ref a) (.ref b)) Q E s := by
  refine SeqAt.eq_tupleAt (e := fun _ => false) (N.isTup h1) (N.isTup h2) hu (fun j hj1 hj2 => ?_) ?_
  · have h0 : j = 0 := by
      have : j < 1 := hj2
      omega
    subst h0
    have := SeqAt.EqAt.str_str (A := A.in1) (s := s) x tk y tk'
    rw [hne] at this
    exact this
  · have : min ((Value.str x tk :: rest).toArray.size) (#[Value.str y tk'].size) = 1 := by simp
    rw [this]
    simpa using hQ
theorem r_eqk_yes {a b : Addr} {x : PySem.Str} {tk tk' : Tok} {n n' : Nat} {Q : Value → Shared → Prop} (N : News h₀ L s.heap news) (h1 : (a, ({ cls := .type "tuple", data := .seq #[.str x tk] n } : Obj)) ∈ news) (h2 : (b, ({ cls := .type "tuple", data := .seq #[.str x tk'] n' } : Obj)) ∈ news) (hu : A.units < cLine) (hQ : Q (.bool true) s) :
    wpAny (model prog w) A (compareOp .Eq (.ref a) (.ref b)) Q E s := by
  refine SeqAt.eq_tupleAt (e := fun _ => true) (N.isTup h1) (N.isTup h2) hu (fun j hj1 hj2 => ?_) ?_
  · have h0 : j = 0 := by
      have : j < 1 := hj2
      omega
    subst h0
    have := SeqAt.EqAt.str_str (A := A.in1) (s := s) x tk x tk'
    rw [beq_self_eq_true] at this
    exact this
  · simpa using hQ
end
/-- `_law_called(t, around, lot)`: the term by names, and the lot's new length -/
noncomputable def called : Tm → List Nat → Nat → Nt × Nat
  | .k, _, lot => (.k, lot)
  | .var i, around, lot => (if h : i < around.length then .of around[i] else .out (i - around.length), lot)
  | .lam t, around, lot => ((.lam lot (called t (lot :: around) (lot + 1)).1), (called t (lot :: around) (lot + 1)).2)
  | .app a b, around, lot => (.app (called a around lot).1 (called b around (called a around lot).2).1, (called b around (called a around lot).2).2)
noncomputable def LotIn (news : List (Addr × Obj)) (B : Addr) (lot : Nat) : Prop := ∃ ns, ListIn news B ns ∧ ns.length = lot
noncomputable def CalledFn (w : World) (mean : ExcName → Option Value) (mg mb : PySem.Str → Option Value) (t : Tm) (around : List Nat) (lot : Nat) (n : Nat) : Prop :=
  ∀ (news : List (Addr × Obj)) (v : Value) (ar lt : Addr), TIn news v t → ListIn news ar around → LotIn news lt lot → ar ≠ lt →
    Fn w mean mg mb 182 n [v, .ref ar, .ref lt] news (fun r news' => NIn news' r (called t around lot).1 ∧ LotIn news' lt (called t around lot).2 ∧ (∀ p ∈ news, p.1 ≠ lt → p ∈ news') ∧ (∀ p ∈ news, IsTupObj p.2 → p ∈ news')) False
theorem ListIn.apart {news : List (Addr × Obj)} {B D : Addr} {ns : List Nat} (h : ListIn news B ns) (hd : ∀ p ∈ news, p.1 ≠ D) : D ≠ B := by
  obtain ⟨vs, n, hm, _⟩ := h
  exact fun e => hd _ hm e.symm
theorem LotIn.mono {news news' : List (Addr × Obj)} {B : Addr} {k : Nat} (hs : ∀ p ∈ news, p ∈ news') (h : LotIn news B k) : LotIn news' B k := by
  obtain ⟨ns, hl, he⟩ := h
  exact ⟨ns, hl.mono hs, he⟩
theorem called_lam (w : World) (mean : ExcName → Option Value) (mg mb : PySem.Str → Option Value) (t : Tm) (around : List Nat) (lot : Nat) (n : Nat) (hz1 : around.length ≤ 900) (hz2 : lot ≤ 900) (IH : CalledFn w mean mg mb t (lot :: around) (lot + 1) n) : CalledFn w mean mg mb (.lam t) around lot (n + 8) := by
  intro news v ar lt hR hA hL hne
  obtain ⟨nsL, hLL, rfl⟩ := hL
  obtain ⟨vsL, nL, hmL, hiL⟩ := id hLL
  unfold Fn
  intro dp un gd cn cs aa ccd cl outer A₀ base h₀ L m hp9 gs9 dr9 tks9 os9 Q E B F X N T hk9 hd9 hu9 hret hexc
  have hR0 := hR
  cases hR
  refine wpAny_call ?_
  k_with_none
  k_dflt ktr_enter
  (k_with "compareOp Eq ref ref" => k_dflt (refine' r_eqk_no ?N6 ?a6 ?b6 ?u6 ?d6 ?_; (case N6 => k_asm); (case a6 => tb_rel); (case b6 => tb_rel); (case u6 => k_units); (case d6 => decide +kernel); (try dsimp only)))
  (k_with "call builtin:len" => k_dflt (refine' r_len ?N7 ?l7 ?z7 ?_; (case N7 => k_asm); (case l7 => (refine ListIn.mono ?_ hLL; intro p9 h9; tb_rel)); (case z7 => omega); intro tk9 tk8))
  (k_with "call builtin:list.append" => k_dflt (refine' r_append ?F8 ?N8 ?l8 ?z8 ?_; (case F8 => k_asm); (case N8 => k_asm); (case l8 => (refine ListIn.mono ?_ hLL; intro p9 h9; tb_rel)); (case z8 => omega); intro hA9 newsA F' N' lA9 oA9 tA9; try dsimp only))
  (k_with "subscriptTail Name UnaryOp ref int" => k_dflt (refine' r_last ?N5 ?l5 ?z5 ?_ ?c5 ?d5; (case N5 => k_asm); (case l5 => exact lA9); (case z5 => omega); (case c5 => with_unfolding_all rfl); (case d5 => intro _; with_unfolding_all rfl); intro tk7; try dsimp only))
  (k_with "binaryOp Add ref ref" => k_dflt (refine' r_cat (ns := around) ?F4 ?N4 ?C4 ?l4 ?z4 ?_; (case F4 => k_asm); (case N4 => k_asm); (case C4 => exact List.Mem.head _); (case l4 => (refine ListIn.mono (fun p9 h9 => List.Mem.tail _ h9) (ListIn.off oA9 (ListIn.mono (fun p9 h9 => by tb_rel) hA) hne))); (case z4 => omega); intro D9 hD9 newsD F' N' lD9 sD9 aD9; try dsimp only))
  (k_with "call ref" => k_dflt ((refine' Fn.use (IH _ _ _ _ _ _ _ _) (by k_asm) (by k_asm) (by k_asm) (by k_asm) (by k_asm) (by first | exact rfl | assumption) (by k_room) (by k_room) ?_ ?_; all_goals (try exact False.elim)); (first | assumption | (refine TIn.sub ?_ ‹_›; intro p9 h9 t9; tb_rel) | (refine NIn.sub ?_ ‹_›; intro p9 h9 t9; tb_rel) | (refine ListIn.mono ?_ ‹_›; intro p9 h9; tb_rel)); (case _ => exact lD9); (case _ => exact ⟨_, ListIn.mono (fun p9 h9 => sD9 _ (List.Mem.tail _ h9)) lA9, by simp⟩); (case _ => exact ListIn.apart (ListIn.mono (fun p9 h9 => List.Mem.tail _ h9) lA9) aD9); intro r9 news9 h9 tk9 F' N'; refine cps4 ?_; intro R9 L9 o9 t9))
  k_steps
  exact hret _ _ _ _ (by k_asm) (by k_asm) ⟨NIn.lam (List.Mem.head _) (by (first | assumption | (refine TIn.sub ?_ ‹_›; intro p9 h9 t9; tb_rel) | (refine NIn.sub ?_ ‹_›; intro p9 h9 t9; tb_rel) | (refine ListIn.mono ?_ ‹_›; intro p9 h9; tb_rel))), LotIn.mono (fun p9 h9 => by tb_rel) L9, fun p9 h9 n9 => by tb_rel, fun p9 h9 n9 => by tb_rel⟩
theorem called_k (w : World) (mean : ExcName → Option Value) (mg mb : PySem.Str → Option Value) (around : List Nat) (lot : Nat) : CalledFn w mean mg mb .k around lot 8 := by
  intro news v ar lt hR hA hL hne
  unfold Fn
  intro dp un gd cn cs aa ccd cl outer A₀ base h₀ L m hp9 gs9 dr9 tks9 os9 Q E B F X N T hk9 hd9 hu9 hret hexc
  have hR0 := hR
  cases hR
  refine wpAny_call ?_
  k_with_none
  k_dflt ktr_enter
  (k_with "compareOp Eq ref ref" => k_dflt (refine' r_eqk_yes ?N6 ?a6 ?b6 ?u6 ?_; (case N6 => k_asm); (case a6 => tb_rel); (case b6 => tb_rel); (case u6 => k_units); (try dsimp only)))
  k_steps
  exact hret _ _ _ _ (by k_asm) (by k_asm) ⟨NIn.mono (fun p9 h9 => by tb_rel) (NIn.k (by tb_rel)), LotIn.mono (fun p9 h9 => by tb_rel) hL, fun p9 h9 n9 => by tb_rel, fun p9 h9 n9 => by tb_rel⟩
theorem called_app (w : World) (mean : ExcName → Option Value) (mg mb : PySem.Str → Option Value) (a b : Tm) (around : List Nat) (lot : Nat) (n : Nat) (IH1 : CalledFn w mean mg mb a around lot n) (IH2 : CalledFn w mean mg mb b around (called a around lot).2 n) : CalledFn w mean mg mb (.app a b) around lot (n + 8) := by
  intro news v ar lt hR hA hL hne
  unfold Fn
  intro dp un gd cn cs aa ccd cl outer A₀ base h₀ L m hp9 gs9 dr9 tks9 os9 Q E B F X N T hk9 hd9 hu9 hret hexc
  have hR0 := hR
  cases hR
  refine wpAny_call ?_
  k_with_none
  k_dflt ktr_enter
  (k_with "compareOp Eq ref ref" => k_dflt (refine' r_eqk_no ?N6 ?a6 ?b6 ?u6 ?d6 ?_; (case N6 => k_asm); (case a6 => tb_rel); (case b6 => tb_rel); (case u6 => k_units); (case d6 => decide +kernel); (try dsimp only)))
  (k_with "call ref" => k_dflt ((refine' Fn.use (IH1 _ _ _ _ _ _ _ _) (by k_asm) (by k_asm) (by k_asm) (by k_asm) (by k_asm) (by first | exact rfl | assumption) (by k_room) (by k_room) ?_ ?_; all_goals (try exact False.elim)); (first | assumption | (refine TIn.sub ?_ ‹_›; intro p9 h9 t9; tb_rel) | (refine NIn.sub ?_ ‹_›; intro p9 h9 t9; tb_rel) | (refine ListIn.mono ?_ ‹_›; intro p9 h9; tb_rel)); (case _ => (exact ListIn.mono (fun p9 h9 => by tb_rel) hA)); (case _ => exact LotIn.mono (fun p9 h9 => by tb_rel) hL); (case _ => exact hne); intro r9 news9 h9 tk9 F' N'; refine cps4 ?_; intro R9 L9 o9 t9))
  (k_with "call ref" => k_dflt ((refine' Fn.use (IH2 _ _ _ _ _ _ _ _) (by k_asm) (by k_asm) (by k_asm) (by k_asm) (by k_asm) (by first | exact rfl | assumption) (by k_room) (by k_room) ?_ ?_; all_goals (try exact False.elim)); (first | assumption | (refine TIn.sub ?_ ‹_›; intro p9 h9 t9; tb_rel) | (refine NIn.sub ?_ ‹_›; intro p9 h9 t9; tb_rel) | (refine ListIn.mono ?_ ‹_›; intro p9 h9; tb_rel)); (case _ => (exact ListIn.off (B := lt) (fun p9 h9 n9 => by tb_rel) hA hne)); (case _ => exact LotIn.mono (fun p9 h9 => by tb_rel) L9); (case _ => exact hne); intro r8 news8 h8 tk8 F' N'; refine cps4 ?_; intro R8 L8 o8 t8))
  k_steps
  exact hret _ _ _ _ (by k_asm) (by k_asm) ⟨NIn.app (List.Mem.head _) (by (first | assumption | (refine TIn.sub ?_ ‹_›; intro p9 h9 t9; tb_rel) | (refine NIn.sub ?_ ‹_›; intro p9 h9 t9; tb_rel) | (refine ListIn.mono ?_ ‹_›; intro p9 h9; tb_rel))) (by (first | assumption | (refine TIn.sub ?_ ‹_›; intro p9 h9 t9; tb_rel) | (refine NIn.sub ?_ ‹_›; intro p9 h9 t9; tb_rel) | (refine ListIn.mono ?_ ‹_›; intro p9 h9; tb_rel))), LotIn.mono (fun p9 h9 => by tb_rel) L8, fun p9 h9 n9 => by tb_rel, fun p9 h9 n9 => by tb_rel⟩
theorem called_var (w : World) (mean : ExcName → Option Value) (mg mb : PySem.Str → Option Value) (n : Nat) (K : Fig n (figs n)) (around : List Nat) (lot : Nat) (hz : around.length ≤ 900) : CalledFn w mean mg mb (.var n) around lot 8 := by
  intro news v ar lt hR hA hL hne
  obtain ⟨vsA, nA, hmA, hiA⟩ := id hA
  unfold Fn
  intro dp un gd cn cs aa ccd cl outer A₀ base h₀ L m hp9 gs9 dr9 tks9 os9 Q E B F X N T hk9 hd9 hu9 hret hexc
  cases hR with
  | @var a0 tk0 n0 _ hm =>
  replace hm : (a0, ({ cls := .type "tuple", data := .seq #[.str (Str.ofString "var" ++ figs n) tk0] n0 } : Obj)) ∈ news := hm
  generalize figs n = r at hm K
  have hx := K.len
  refine wpAny_call ?_
  k_with_none
  k_dflt ktr_enter
  (k_with "compareOp Eq ref ref" => k_dflt (refine' r_eqk_no ?N6 ?a6 ?b6 ?u6 K.nk ?_; (case N6 => k_asm); (case a6 => tb_rel); (case b6 => tb_rel); (case u6 => k_units); (try dsimp only)))
  (k_with "call type:int" => (rw [show Txt.slice (Str.ofString "var" ++ r) (some (3 : Int)) none = r from K.hi]; k_dflt (refine KIN.call_text (n := (n : Int)) K.val (Nat.le_trans K.len (by decide)) ?_)))
  (k_with "call builtin:len" => k_dflt (refine' r_len ?N7 ?l7 ?z7 ?_; (case N7 => k_asm); (case l7 => (refine ListIn.mono ?_ hA; intro p9 h9; tb_rel)); (case z7 => omega); intro tk9 tk8))
  (k_with "subscriptTail Name Name ref int" => k_dflt (refine' r_item (i := n) (ns := around) ?N5 ?l5 ?z5 ?i5 ?_ ?c5 ?d5; (case N5 => k_asm); (case l5 => (refine ListIn.mono ?_ hA; intro p9 h9; tb_rel)); (case z5 => omega); (case i5 => omega); (case c5 => with_unfolding_all rfl); (case d5 => intro _; with_unfolding_all rfl); intro tk7; try dsimp only))
  k_steps
  all_goals first
    | exact hret _ _ _ _ (by k_asm) (by k_asm) ⟨by
        have h1 : n < around.length := by omega
        simp only [called, dif_pos h1]
        exact NIn.of (List.Mem.head _), LotIn.mono (fun p9 h9 => by tb_rel) hL, fun p9 h9 n9 => by tb_rel, fun p9 h9 n9 => by tb_rel⟩
    | exact hret _ _ _ _ (by k_asm) (by k_asm) ⟨by
        have h1 : ¬ n < around.length := by omega
        simp only [called, dif_neg h1]
        exact NIn.outZ (List.Mem.head _) (by omega), LotIn.mono (fun p9 h9 => by tb_rel) hL, fun p9 h9 n9 => by tb_rel, fun p9 h9 n9 => by tb_rel⟩

end
section
-- L4
noncomputable def lams : Tm → Nat
  | .lam t => lams t + 1
  | .app a b => lams a + lams b
  | _ => 0
theorem called_lot (t : Tm) : ∀ (around : List Nat) (lot : Nat), (called t around lot).2 = lot + lams t := by
  induction t with
  | k => intro _ _; rfl
  | var i => intro _ _; rfl
  | lam t ih => intro around lot; show (called t (lot :: around) (lot + 1)).2 = _; rw [ih]; simp only [lams]; omega
  | app a b iha ihb => intro around lot; show (called b around (called a around lot).2).2 = _; rw [ihb, iha]; simp only [lams]; omega
theorem CalledFn.wider {w : World} {mean : ExcName → Option Value} {mg mb : PySem.Str → Option Value} {t : Tm} {around : List Nat} {lot n n' : Nat} (h : CalledFn w mean mg mb t around lot n) (hl : n ≤ n') : CalledFn w mean mg mb t around lot n' :=
  fun news v ar lt hR hA hL hne => (h news v ar lt hR hA hL hne).wider hl
theorem called_ok (w : World) (mean : ExcName → Option Value) (mg mb : PySem.Str → Option Value) (t : Tm) : ∀ (around : List Nat) (lot : Nat), t.ok → around.length + t.hgt ≤ 900 → lot + lams t ≤ 900 → CalledFn w mean mg mb t around lot (8 * t.hgt + 8) := by
  induction t with
  | k => intro around lot _ _ _; exact called_k w mean mg mb around lot
  | var i =>
    intro around lot ho h1 h2
    have h3 : around.length ≤ 900 := by omega
    have ho' : okIx i := ho
    exact called_var w mean mg mb i (fig_is ho') around lot h3
  | lam t ih =>
    intro around lot ho h1 h2
    simp only [Tm.hgt, lams] at h1 h2
    exact (called_lam w mean mg mb t around lot _ (by omega) (by omega) (ih _ _ ho (by simp only [List.length_cons]; omega) (by omega))).wider (by show 8 * t.hgt + 8 + 8 ≤ 8 * (t.hgt + 1) + 8; omega)
  | app a b iha ihb =>
    intro around lot ho h1 h2
    simp only [Tm.hgt, lams] at h1 h2
    exact (called_app w mean mg mb a b around lot (8 * max a.hgt b.hgt + 8) ((iha _ _ ho.1 (by omega) (by omega)).wider (by omega)) ((ihb _ _ ho.2 (by omega) (by rw [called_lot]; omega)).wider (by omega))).wider (by show 8 * max a.hgt b.hgt + 8 + 8 ≤ 8 * (max a.hgt b.hgt + 1) + 8; omega)
/-- `_law_counted(tree, around, seen)` -/
noncomputable def count : Nt → List Nat → Tm
  | .k, _ => .k
  | .of i, around => .var (around.idxOf i)
  | .out j, around => .var (j + around.length)
  | .lam n b, around => .lam (count b (n :: around))
  | .app a b, around => .app (count a around) (count b around)
noncomputable def Nt.closed : Nt → List Nat → Prop
  | .of i, around => i ∈ around
  | .lam n b, around => b.closed (n :: around)
  | .app a b, around => a.closed around ∧ b.closed around
  | _, _ => True
noncomputable def Tm.idx : Tm → List Nat
  | .k => []
  | .var n => [n]
  | .lam t => t.idx
  | .app a b => a.idx ++ b.idx
noncomputable def CountFn (w : World) (mean : ExcName → Option Value) (mg mb : PySem.Str → Option Value) (t : Nt) (around : List Nat) (seen : List Nat) (n : Nat) : Prop :=
  ∀ (news : List (Addr × Obj)) (v : Value) (ar sn : Addr), NIn news v t → ListIn news ar around → ListIn news sn seen → ar ≠ sn →
    Fn w mean mg mb 196 n [v, .ref ar, .ref sn] news (fun r news' => TIn news' r (count t around) ∧ ListIn news' sn (seen ++ (count t around).idx) ∧ (∀ p ∈ news, p.1 ≠ sn → p ∈ news') ∧ (∀ p ∈ news, IsTupObj p.2 → p ∈ news')) False
theorem CountFn.wider {w : World} {mean : ExcName → Option Value} {mg mb : PySem.Str → Option Value} {t : Nt} {around seen : List Nat} {n n' : Nat} (h : CountFn w mean mg mb t around seen n) (hl : n ≤ n') : CountFn w mean mg mb t around seen n' :=
  fun news v ar lt hR hA hL hne => (h news v ar lt hR hA hL hne).wider hl
section
variable {prog : Program} {w : World} {A : Around} {E : Value → Shared → Prop} {s : Shared} {h₀ : Heap} {L : Addr} {m : PySem.Str → Option Value} {news : List (Addr × Obj)}
theorem r_appendZ {B : Addr} {ns : List Nat} {k : Nat} {z : Int} {t : Tok} {Q : Value → Shared → Prop} (F : Fr h₀ L s.heap m) (N : News h₀ L s.heap news) (h : ListIn news B ns) (hz : ns.length ≤ 1000) (he : z = (k : Nat))
    (hQ : ∀ h' news', Fr h₀ L h' m → News h₀ L h' news' → ListIn news' B (ns ++ [k]) → (∀ p ∈ news, p.1 ≠ B → p ∈ news') → (∀ p ∈ news, IsTupObj p.2 → p ∈ news') → Q .none { s with heap := h' }) :
    wpAny (model prog w) A (call (.builtin "list.append") [.ref B, .int z t]) Q E s := by
  subst he
  exact r_append F N h hz hQ
end
theorem count_of (w : World) (mean : ExcName → Option Value) (mg mb : PySem.Str → Option Value) (i : Nat) (around seen : List Nat) (hz1 : around.length ≤ 900) (hz2 : seen.length ≤ 900) (hi : i ∈ around) : CountFn w mean mg mb (.of i) around seen 8 := by
  intro news v ar sn hR hA hL hne
  obtain ⟨vsL, nL, hmL, hiL⟩ := id hL
  obtain ⟨vsA, nA, hmA, hiA⟩ := id hA
  unfold Fn
  intro dp un gd cn cs aa ccd cl outer A₀ base h₀ L m hp9 gs9 dr9 tks9 os9 Q E B F X N T hk9 hd9 hu9 hret hexc
  have hR0 := hR
  cases hR
  refine wpAny_call ?_
  k_with_none
  k_dflt ktr_enter
  (k_with "call builtin:len" => k_dflt (refine' r_len ?N7 ?l7 ?z7 ?_; (case N7 => k_asm); (case l7 => (refine ListIn.mono ?_ hA; intro p9 h9; tb_rel)); (case z7 => omega); intro tk9 tk8))
  (k_with "call builtin:list.index" => k_dflt (refine' r_index ?N3 ?l3 ?z3 ?i3 ?_; (case N3 => k_asm); (case l3 => (refine ListIn.mono ?_ hA; intro p9 h9; tb_rel)); (case z3 => omega); (case i3 => assumption); intro tk9 tk8; try dsimp only))
  (k_with "call builtin:list.append" => k_dflt (refine' r_append ?F8 ?N8 ?l8 ?z8 ?_; (case F8 => k_asm); (case N8 => k_asm); (case l8 => (refine ListIn.mono ?_ hL; intro p9 h9; tb_rel)); (case z8 => omega); intro hA9 newsA F' N' lA9 oA9 tA9; try dsimp only))
  (k_with "subscriptTail Name UnaryOp ref int" => k_dflt (refine' r_last ?N5 ?l5 ?z5 ?_ ?c5 ?d5; (case N5 => k_asm); (case l5 => exact lA9); (case z5 => omega); (case c5 => with_unfolding_all rfl); (case d5 => intro _; with_unfolding_all rfl); intro tk7; try dsimp only))
  have hI : around.idxOf i < around.length := List.idxOf_lt_length_iff.mpr hi
  (k_with "call type:str" => k_dflt (refine P.str_of_int (shown (N := 18446744073709551616) (by omega) (by omega) (by decide +kernel)) ?_))
  k_steps
  exact hret _ _ _ _ (by k_asm) (by k_asm) ⟨TIn.var (List.Mem.head _), ListIn.mono (fun p9 h9 => by tb_rel) lA9, fun p9 h9 n9 => by tb_rel, fun p9 h9 n9 => by tb_rel⟩
theorem count_out (w : World) (mean : ExcName → Option Value) (mg mb : PySem.Str → Option Value) (j : Nat) (around seen : List Nat) (hz1 : around.length ≤ 900) (hz2 : seen.length ≤ 900) (hj : j ≤ 10000000000) : CountFn w mean mg mb (.out j) around seen 8 := by
  intro news v ar sn hR hA hL hne
  obtain ⟨vsL, nL, hmL, hiL⟩ := id hL
  obtain ⟨vsA, nA, hmA, hiA⟩ := id hA
  unfold Fn
  intro dp un gd cn cs aa ccd cl outer A₀ base h₀ L m hp9 gs9 dr9 tks9 os9 Q E B F X N T hk9 hd9 hu9 hret hexc
  have hR0 := hR
  cases hR
  refine wpAny_call ?_
  k_with_none
  k_dflt ktr_enter
  (k_with "call builtin:len" => k_dflt (refine' r_len ?N7 ?l7 ?z7 ?_; (case N7 => k_asm); (case l7 => (refine ListIn.mono ?_ hA; intro p9 h9; tb_rel)); (case z7 => omega); intro tk9 tk8))
  (k_with "call builtin:list.append" => k_dflt (refine' r_appendZ (k := j + around.length) ?F8 ?N8 ?l8 ?z8 ?e8 ?_; (case F8 => k_asm); (case N8 => k_asm); (case l8 => (refine ListIn.mono ?_ hL; intro p9 h9; tb_rel)); (case z8 => omega); (case e8 => omega); intro hA9 newsA F' N' lA9 oA9 tA9; try dsimp only))
  (k_with "subscriptTail Name UnaryOp ref int" => k_dflt (refine' r_last ?N5 ?l5 ?z5 ?_ ?c5 ?d5; (case N5 => k_asm); (case l5 => exact lA9); (case z5 => omega); (case c5 => with_unfolding_all rfl); (case d5 => intro _; with_unfolding_all rfl); intro tk7; try dsimp only))
  (k_with "call type:str" => k_dflt (refine P.str_of_int (shown (N := 18446744073709551616) (by omega) (by omega) (by decide +kernel)) ?_))
  k_steps
  exact hret _ _ _ _ (by k_asm) (by k_asm) ⟨TIn.var (List.Mem.head _), ListIn.mono (fun p9 h9 => by tb_rel) lA9, fun p9 h9 n9 => by tb_rel, fun p9 h9 n9 => by tb_rel⟩
theorem count_k (w : World) (mean : ExcName → Option Value) (mg mb : PySem.Str → Option Value) (around seen : List Nat) : CountFn w mean mg mb .k around seen 8 := by
  intro news v ar sn hR hA hL hne
  unfold Fn
  intro dp un gd cn cs aa ccd cl outer A₀ base h₀ L m hp9 gs9 dr9 tks9 os9 Q E B F X N T hk9 hd9 hu9 hret hexc
  have hT : TIn news v .k := by
    cases hR with
    | k hm => exact .k hm
  cases hR
  refine wpAny_call ?_
  k_with_none
  k_dflt ktr_enter
  k_steps
  exact hret _ _ _ _ (by k_asm) (by k_asm) ⟨TIn.mono (fun p9 h9 => by tb_rel) hT, by simp only [count, Tm.idx, List.append_nil]; exact ListIn.mono (fun p9 h9 => by tb_rel) hL, fun p9 h9 n9 => by tb_rel, fun p9 h9 n9 => by tb_rel⟩
theorem count_lam (w : World) (mean : ExcName → Option Value) (mg mb : PySem.Str → Option Value) (i : Nat) (t : Nt) (around seen : List Nat) (n : Nat) (hz1 : around.length ≤ 900) (IH : CountFn w mean mg mb t (i :: around) seen n) : CountFn w mean mg mb (.lam i t) around seen (n + 8) := by
  intro news v ar sn hR hA hL hne
  unfold Fn
  intro dp un gd cn cs aa ccd cl outer A₀ base h₀ L m hp9 gs9 dr9 tks9 os9 Q E B F X N T hk9 hd9 hu9 hret hexc
  have hR0 := hR
  cases hR
  refine wpAny_call ?_
  k_with_none
  k_dflt ktr_enter
  (k_with "binaryOp Add ref ref" => k_dflt (refine' r_cat (k := i) (ns := around) ?F4 ?N4 ?C4 ?l4 ?z4 ?_; (case F4 => k_asm); (case N4 => k_asm); (case C4 => exact List.Mem.head _); (case l4 => (refine ListIn.mono (fun p9 h9 => by tb_rel) hA)); (case z4 => omega); intro D9 hD9 newsD F' N' lD9 sD9 aD9; try dsimp only))
  (k_with "call ref" => k_dflt ((refine' Fn.use (IH _ _ _ _ _ _ _ _) (by k_asm) (by k_asm) (by k_asm) (by k_asm) (by k_asm) (by first | exact rfl | assumption) (by k_room) (by k_room) ?_ ?_; all_goals (try exact False.elim)); (first | assumption | (refine TIn.sub ?_ ‹_›; intro p9 h9 t9; tb_rel) | (refine NIn.sub ?_ ‹_›; intro p9 h9 t9; tb_rel) | (refine ListIn.mono ?_ ‹_›; intro p9 h9; tb_rel)); (case _ => exact lD9); (case _ => exact ListIn.mono (fun p9 h9 => by tb_rel) hL); (case _ => exact ListIn.apart (ListIn.mono (fun p9 h9 => by tb_rel) hL) aD9); intro r9 news9 h9 tk9 F' N'; refine cps4 ?_; intro R9 L9 o9 t9))
  k_steps
  exact hret _ _ _ _ (by k_asm) (by k_asm) ⟨TIn.lam (List.Mem.head _) (by (first | assumption | (refine TIn.sub ?_ ‹_›; intro p9 h9 t9; tb_rel) | (refine NIn.sub ?_ ‹_›; intro p9 h9 t9; tb_rel) | (refine ListIn.mono ?_ ‹_›; intro p9 h9; tb_rel))), ListIn.mono (fun p9 h9 => by tb_rel) L9, fun p9 h9 n9 => by tb_rel, fun p9 h9 n9 => by tb_rel⟩
theorem count_app (w : World) (mean : ExcName → Option Value) (mg mb : PySem.Str → Option Value) (a b : Nt) (around seen : List Nat) (n : Nat) (IH1 : CountFn w mean mg mb a around seen n) (IH2 : CountFn w mean mg mb b around (seen ++ (count a around).idx) n) : CountFn w mean mg mb (.app a b) around seen (n + 8) := by
  intro news v ar sn hR hA hL hne
  unfold Fn
  intro dp un gd cn cs aa ccd cl outer A₀ base h₀ L m hp9 gs9 dr9 tks9 os9 Q E B F X N T hk9 hd9 hu9 hret hexc
  have hR0 := hR
  cases hR
  refine wpAny_call ?_
  k_with_none
  k_dflt ktr_enter
  (k_with "call ref" => k_dflt ((refine' Fn.use (IH1 _ _ _ _ _ _ _ _) (by k_asm) (by k_asm) (by k_asm) (by k_asm) (by k_asm) (by first | exact rfl | assumption) (by k_room) (by k_room) ?_ ?_; all_goals (try exact False.elim)); (first | assumption | (refine TIn.sub ?_ ‹_›; intro p9 h9 t9; tb_rel) | (refine NIn.sub ?_ ‹_›; intro p9 h9 t9; tb_rel) | (refine ListIn.mono ?_ ‹_›; intro p9 h9; tb_rel)); (case _ => (exact ListIn.mono (fun p9 h9 => by tb_rel) hA)); (case _ => exact ListIn.mono (fun p9 h9 => by tb_rel) hL); (case _ => exact hne); intro r9 news9 h9 tk9 F' N'; refine cps4 ?_; intro R9 L9 o9 t9))
  (k_with "call ref" => k_dflt ((refine' Fn.use (IH2 _ _ _ _ _ _ _ _) (by k_asm) (by k_asm) (by k_asm) (by k_asm) (by k_asm) (by first | exact rfl | assumption) (by k_room) (by k_room) ?_ ?_; all_goals (try exact False.elim)); (first | assumption | (refine TIn.sub ?_ ‹_›; intro p9 h9 t9; tb_rel) | (refine NIn.sub ?_ ‹_›; intro p9 h9 t9; tb_rel) | (refine ListIn.mono ?_ ‹_›; intro p9 h9; tb_rel)); (case _ => (exact ListIn.off (B := sn) (fun p9 h9 n9 => by tb_rel) hA hne)); (case _ => exact ListIn.mono (fun p9 h9 => by tb_rel) L9); (case _ => exact hne); intro r8 news8 h8 tk8 F' N'; refine cps4 ?_; intro R8 L8 o8 t8))
  k_steps
  exact hret _ _ _ _ (by k_asm) (by k_asm) ⟨TIn.app (List.Mem.head _) (by (first | assumption | (refine TIn.sub ?_ ‹_›; intro p9 h9 t9; tb_rel) | (refine NIn.sub ?_ ‹_›; intro p9 h9 t9; tb_rel) | (refine ListIn.mono ?_ ‹_›; intro p9 h9; tb_rel))) (by (first | assumption | (refine TIn.sub ?_ ‹_›; intro p9 h9 t9; tb_rel) | (refine NIn.sub ?_ ‹_›; intro p9 h9 t9; tb_rel) | (refine ListIn.mono ?_ ‹_›; intro p9 h9; tb_rel))), by
    simp only [count, Tm.idx]
    rw [← List.append_assoc]
    exact ListIn.mono (fun p9 h9 => by tb_rel) L8, fun p9 h9 n9 => by tb_rel, fun p9 h9 n9 => by tb_rel⟩
/-- the places outside are small -/
noncomputable def Nt.small : Nt → Prop
  | .out j => j ≤ 10000000000
  | .lam _ b => b.small
  | .app a b => a.small ∧ b.small
  | _ => True
theorem count_ok (w : World) (mean : ExcName → Option Value) (mg mb : PySem.Str → Option Value) (t : Nt) : ∀ (around seen : List Nat), t.small → t.closed around → around.length + t.hgt ≤ 900 → seen.length + (count t around).idx.length ≤ 900 → CountFn w mean mg mb t around seen (8 * t.hgt + 8) := by
  induction t with
  | k => intro around seen _ _ _ _; exact count_k w mean mg mb around seen
  | of i =>
    intro around seen _ hc h1 h2
    exact count_of w mean mg mb i around seen (by omega) (by omega) hc
  | out j =>
    intro around seen hs _ h1 h2
    exact count_out w mean mg mb j around seen (by omega) (by omega) hs
  | lam i t ih =>
    intro around seen hs hc h1 h2
    simp only [Nt.hgt] at h1
    exact (count_lam w mean mg mb i t around seen _ (by omega) (ih _ _ hs hc (by simp only [List.length_cons]; omega) h2)).wider (by show 8 * t.hgt + 8 + 8 ≤ 8 * (t.hgt + 1) + 8; omega)
  | app a b iha ihb =>
    intro around seen hs hc h1 h2
    simp only [Nt.hgt] at h1
    simp only [count, Tm.idx, List.length_append] at h2
    exact (count_app w mean mg mb a b around seen (8 * max a.hgt b.hgt + 8) ((iha _ _ hs.1 hc.1 (by omega) (by omega)).wider (by omega)) ((ihb _ _ hs.2 hc.2 (by omega) (by simp only [List.length_append]; omega)).wider (by omega))).wider (by show 8 * max a.hgt b.hgt + 8 + 8 ≤ 8 * (max a.hgt b.hgt + 1) + 8; omega)

end
section
-- L5
/-- a list of ints in the ledger -/
noncomputable def IntsIn (news : List (Addr × Obj)) (A : Addr) (ns : List Int) : Prop := ∃ vs n, (A, ({ cls := .type "list", data := .seq vs.toArray n } : Obj)) ∈ news ∧ IntsAre vs ns
theorem IntsIn.mono {news news' : List (Addr × Obj)} {A : Addr} {ns : List Int} (hs : ∀ p ∈ news, p ∈ news') (h : IntsIn news A ns) : IntsIn news' A ns := by
  obtain ⟨vs, n, hm, hi⟩ := h
  exact ⟨vs, n, hs _ hm, hi⟩
theorem IntsIn.off {news news' : List (Addr × Obj)} {A B : Addr} {ns : List Int} (hs : ∀ p ∈ news, p.1 ≠ B → p ∈ news') (h : IntsIn news A ns) (hne : A ≠ B) : IntsIn news' A ns := by
  obtain ⟨vs, n, hm, hi⟩ := h
  exact ⟨vs, n, hs _ hm hne, hi⟩
/-- the law's urn: its numbers, and how far it has come -/
noncomputable def UrnIn (news : List (Addr × Obj)) (u : Addr) (b : Nat) : Prop := ∃ (c : Addr) (spot : Nat) (tk : Tok) (n : Nat) (ns : List Int), (u, ({ cls := .type "list", data := .seq #[.ref c, .int spot tk] n } : Obj)) ∈ news ∧ IntsIn news c ns ∧ ns.length ≤ 63 ∧ spot ≤ b ∧ c ≠ u
theorem UrnIn.mono {news news' : List (Addr × Obj)} {u : Addr} {b b' : Nat} (hs : ∀ p ∈ news, p ∈ news') (h : UrnIn news u b) (hb : b ≤ b') : UrnIn news' u b' := by
  obtain ⟨c, spot, tk, n, ns, hm, hi, hl, hs', hne⟩ := h
  exact ⟨c, spot, tk, n, ns, hs _ hm, hi.mono hs, hl, by omega, hne⟩
section
variable {prog : Program} {w : World} {A : Around} {E : Value → Shared → Prop} {s : Shared} {h₀ : Heap} {L : Addr} {m : PySem.Str → Option Value} {news : List (Addr × Obj)}
theorem z_len {B : Addr} {ns : List Int} {Q : Value → Shared → Prop} (N : News h₀ L s.heap news) (h : IntsIn news B ns) (hz : ns.length ≤ 1000) (hQ : ∀ t t', Q (.int (ns.length : Nat) t) { s with toks := t' }) :
    wpAny (model prog w) A (call (.builtin "len") [.ref B]) Q E s := by
  obtain ⟨vs, n, hm, hi⟩ := h
  have hl := hi.length
  refine len_list (N.isList hm) (by rw [List.size_toArray, hl]; omega) ?_
  rw [List.size_toArray, hl]
  exact hQ _ _
theorem z_item {value slice : Expr} {B : Addr} {ns : List Int} {i : Nat} {u : Tok} {Q : Value → Shared → Prop} (N : News h₀ L s.heap news) (h : IntsIn news B ns) (hz : ns.length ≤ 1000) (hi : i < ns.length) (hQ : ∀ t, Q (.int ns[i] t) s)
    (hs : subscripted slice false (.ref B) (.int i u) = operate [.ref B, .int i u] (getItem (.ref B) (.int i u))) (hg : ∀ r, letTemporaryGo value (.ref B) r = pure ()) :
    wpAny (model prog w) A (subscriptTail value slice (.ref B) (.int i u)) Q E s := by
  obtain ⟨vs, n, hm, hv⟩ := h
  obtain ⟨t, ht⟩ := hv.get i ns[i] (by simp [hi])
  exact item_list (N.isList hm) (by omega) (by omega) (by simpa using ht) (hQ t) hs hg
theorem r_set1 {B c : Addr} {o1 v : Value} {n : Nat} {t : Tok} {Q : Unit → Shared → Prop} (F : Fr h₀ L s.heap m) (N : News h₀ L s.heap news) (hm : (B, ({ cls := .type "list", data := .seq #[.ref c, o1] n } : Obj)) ∈ news)
    (hQ : ∀ h' news', Fr h₀ L h' m → News h₀ L h' news' → (B, ({ cls := .type "list", data := .seq #[.ref c, v] n } : Obj)) ∈ news' → (∀ p ∈ news, p.1 ≠ B → p ∈ news') → (∀ p ∈ news, IsTupObj p.2 → p ∈ news') → Q () { s with heap := h' }) :
    wpAny (model prog w) A (setItem (.ref B) (.int 1 t) v) Q E s := by
  have hs : Heap.SameBut B s.heap (s.heap.update B (Obj.mapSeq (·.setIfInBounds 1 v))) := Heap.SameBut.update ..
  have hD : (s.heap.update B (Obj.mapSeq (·.setIfInBounds 1 v))).get? B = some ({ cls := .type "list", data := .seq #[.ref c, v] n } : Obj) := by
    have q := PySem.IsL.update (N.get hm) (fun a => a.setIfInBounds 1 v)
    exact q
  refine ki_setAt (N.get hm) (by decide) (by decide) (by show (1:Int) < 2; decide) ?_
  have off : ∀ p ∈ news, p.1 ≠ B → p ∈ (B, ({ cls := .type "list", data := .seq #[.ref c, v] n } : Obj)) :: news.filter (fun p => decide (p.1 ≠ B)) := fun p hp hne => .tail _ (List.mem_filter.mpr ⟨hp, decide_eq_true hne⟩)
  refine hQ _ _ (F.update N hm hs) (fun p hp => ?_) (.head _) off fun p hp ht => off p hp fun e => ?_
  · rcases List.mem_cons.mp hp with rfl | hp
    · exact ⟨hD, (N _ hm).2⟩
    · have hp' := List.mem_filter.mp hp
      exact ⟨(hs.2 _ (of_decide_eq_true hp'.2)).trans (N p hp'.1).1, (N p hp'.1).2⟩
  · have h1 := (N p hp).1
    rw [e, (N _ hm).1] at h1
    obtain ⟨_, _, e'⟩ := ht
    have := congrArg Obj.cls ((Option.some.inj h1).trans e')
    exact absurd (Value.type.inj this) (by decide)
end
noncomputable def TookFn (w : World) (mean : ExcName → Option Value) (mg mb : PySem.Str → Option Value) (many : Int) (b : Nat) : Prop :=
  ∀ (news : List (Addr × Obj)) (u : Addr) (tkP : Tok), UrnIn news u b →
    Fn w mean mg mb 168 4 [.ref u, .int many tkP] news (fun r news' => (∃ j t, r = .int j t ∧ 0 ≤ j ∧ j < many) ∧ UrnIn news' u (b + 1) ∧ (∀ p ∈ news, p.1 ≠ u → p ∈ news') ∧ (∀ p ∈ news, IsTupObj p.2 → p ∈ news')) False
theorem took_ok (w : World) (mean : ExcName → Option Value) (mg mb : PySem.Str → Option Value) (many : Int) (b : Nat) (hmany : 0 < many) (hb : b ≤ 900) : TookFn w mean mg mb many b := by
  intro news u tkP hU
  obtain ⟨c, spot, tkU, nU, ns, hm, hI, hl, hsp, hne⟩ := hU
  obtain ⟨vsI, nI, hmI, hiI⟩ := id hI
  unfold Fn
  intro dp un gd cn cs aa ccd cl outer A₀ base h₀ L m hp9 gs9 dr9 tks9 os9 Q E B F X N T hk9 hd9 hu9 hret hexc
  refine wpAny_call ?_
  k_with_none
  k_dflt ktr_enter
  (k_with "setItem ref int" => k_dflt (refine' r_set1 ?F8 ?N8 ?l8 ?_; (case F8 => k_asm); (case N8 => k_asm); (case l8 => exact hm); intro hA9 newsA F' N' lA9 oA9 tA9; try dsimp only))
  (k_with "call builtin:len" => k_dflt (refine' z_len (ns := ns) ?N7 ?l7 ?z7 ?_; (case N7 => k_asm); (case l7 => exact IntsIn.off oA9 hI hne); (case z7 => omega); intro tk9 tk8))
  (k_with "subscriptTail Name Name ref int" => k_dflt (refine' z_item (i := spot) (ns := ns) ?N5 ?l5 ?z5 ?i5 ?_ ?c5 ?d5; (case N5 => k_asm); (case l5 => exact IntsIn.off oA9 hI hne); (case z5 => omega); (case i5 => omega); (case c5 => with_unfolding_all rfl); (case d5 => intro _; with_unfolding_all rfl); intro tk7; try dsimp only))
  k_steps
  all_goals exact hret _ _ _ _ (by k_asm) (by k_asm) ⟨⟨_, _, rfl, fmod_lo _ hmany, fmod_hi _ hmany⟩, ⟨c, spot + 1, _, nU, ns, lA9, IntsIn.off oA9 hI hne, hl, by omega, hne⟩, fun p9 h9 n9 => by tb_rel, fun p9 h9 n9 => by tb_rel⟩
section
variable {prog : Program} {w : World} {A : Around} {E : Value → Shared → Prop} {s : Shared} {h₀ : Heap} {L : Addr} {m : PySem.Str → Option Value} {news : List (Addr × Obj)}
theorem r_ix {value slice : Expr} {a : Addr} {t0 t1 t2 t3 t4 t5 t6 t7 : Tok} {j : Int} {u : Tok} {Q : Value → Shared → Prop} (ht : IsTup s.heap a #[.int 0 t0, .int 1 t1, .int 2 t2, .int 999999999 t3, .int 999999998 t4, .int 999999997 t5, .int 3 t6, .int 999999996 t7]) (h0 : 0 ≤ j) (h8 : j < 8)
    (hQ : ∀ i t, okIx i → Q (.int (i : Nat) t) s)
    (hs : subscripted slice false (.ref a) (.int j u) = operate [.ref a, .int j u] (getItem (.ref a) (.int j u))) (hg : ∀ r, letTemporaryGo value (.ref a) r = pure ()) :
    wpAny (model prog w) A (subscriptTail value slice (.ref a) (.int j u)) Q E s := by
  have hj : j = 0 ∨ j = 1 ∨ j = 2 ∨ j = 3 ∨ j = 4 ∨ j = 5 ∨ j = 6 ∨ j = 7 := by
    have key : ∀ n : Nat, n < 8 → ((n : Int) = 0 ∨ (n : Int) = 1 ∨ (n : Int) = 2 ∨ (n : Int) = 3 ∨ (n : Int) = 4 ∨ (n : Int) = 5 ∨ (n : Int) = 6 ∨ (n : Int) = 7) := by decide
    obtain ⟨n, rfl⟩ := Int.eq_ofNat_of_zero_le h0
    exact key n (Int.ofNat_lt.mp h8)
  rcases hj with rfl | rfl | rfl | rfl | rfl | rfl | rfl | rfl
  · exact item_tuple ht (by decide) (by decide) rfl rfl (hQ 0 _ (by unfold okIx; decide)) hs hg
  · exact item_tuple ht (by decide) (by decide) rfl rfl (hQ 1 _ (by unfold okIx; decide)) hs hg
  · exact item_tuple ht (by decide) (by decide) rfl rfl (hQ 2 _ (by unfold okIx; decide)) hs hg
  · exact item_tuple ht (by decide) (by decide) rfl rfl (hQ 999999999 _ (by unfold okIx; decide)) hs hg
  · exact item_tuple ht (by decide) (by decide) rfl rfl (hQ 999999998 _ (by unfold okIx; decide)) hs hg
  · exact item_tuple ht (by decide) (by decide) rfl rfl (hQ 999999997 _ (by unfold okIx; decide)) hs hg
  · exact item_tuple ht (by decide) (by decide) rfl rfl (hQ 3 _ (by unfold okIx; decide)) hs hg
  · exact item_tuple ht (by decide) (by decide) rfl rfl (hQ 999999996 _ (by unfold okIx; decide)) hs hg
theorem IsTup.of_lookup {t : Addr} {items : Array Value} {n : Nat} {K : Frag} (F : Fr h₀ L s.heap m) (X₀ : K.In h₀) (ho : K.lookup t = some ({ cls := .type "tuple", data := .seq items n } : Obj)) : IsTup s.heap t items := kun_topT F X₀ ho
end
noncomputable def dr : Nat → Nat
  | 0 => 2
  | f + 1 => 2 + 2 * dr f
noncomputable def DrawnFn (w : World) (mean : ExcName → Option Value) (mg mb : PySem.Str → Option Value) (f : Nat) (b n : Nat) : Prop :=
  ∀ (news : List (Addr × Obj)) (u : Addr) (z : Int) (tkP : Tok), UrnIn news u b → z = (f : Int) →
    Fn w mean mg mb 175 n [.ref u, .int z tkP] news (fun r news' => (∃ t, t.ok ∧ t.hgt ≤ f ∧ TIn news' r t) ∧ UrnIn news' u (b + dr f) ∧ (∀ p ∈ news, p.1 ≠ u → p ∈ news') ∧ (∀ p ∈ news, IsTupObj p.2 → p ∈ news')) False
theorem drawn_0 (w : World) (mean : ExcName → Option Value) (mg mb : PySem.Str → Option Value) (b : Nat) (hb : b ≤ 800) : DrawnFn w mean mg mb 0 b 12 := by
  intro news u z tkP hU hz
  unfold Fn
  intro dp un gd cn cs aa ccd cl outer A₀ base h₀ L m hp9 gs9 dr9 tks9 os9 Q E B F X N T hk9 hd9 hu9 hret hexc
  refine wpAny_call ?_
  k_with_none
  k_dflt ktr_enter
  (k_with "call ref" => k_dflt ((refine' Fn.use (took_ok w mean mg mb _ b (by decide) (by omega) _ _ _ hU) (by k_asm) (by k_asm) (by k_asm) (by k_asm) (by k_asm) (by first | exact rfl | assumption) (by k_room) (by k_room) ?_ ?_; all_goals (try exact False.elim)); intro r9 news9 h9 tk9 F' N'; revert r9; refine cpsJ ?_; intro j9 u9 lo9 hi9 U9 o9 t9))
  (k_with "call ref" => k_dflt ((refine' Fn.use (took_ok w mean mg mb _ (b + 1) (by decide) (by omega) _ _ _ U9) (by k_asm) (by k_asm) (by k_asm) (by k_asm) (by k_asm) (by first | exact rfl | assumption) (by k_room) (by k_room) ?_ ?_; all_goals (try exact False.elim)); intro r8 news8 h8 tk8 F' N'; revert r8; refine cpsJ ?_; intro j8 u8 lo8 hi8 U8 o8 t8))
  (k_with "subscriptTail Name Call ref int" => k_dflt (refine' r_ix (IsTup.of_lookup ?F3 ?X3 ?o3) lo8 hi8 ?_ ?c3 ?d3; (case F3 => k_asm); (case X3 => k_asm); (case o3 => k_is); (case c3 => with_unfolding_all rfl); (case d3 => intro _; with_unfolding_all rfl); intro i7 t7 ok7; have le7 := okIx_le ok7; try dsimp only))
  (k_with "call type:str" => k_dflt (refine P.str_of_int (shown (N := 18446744073709551616) (by omega) (by omega) (by decide +kernel)) ?_))
  k_steps
  all_goals first
    | exact hret _ _ _ _ (by k_asm) (by k_asm) ⟨⟨.k, trivial, Nat.zero_le _, TIn.k (List.Mem.head _)⟩, U9.mono (fun p9 h9 => by tb_rel) (by simp only [dr]; omega), fun p9 h9 n9 => by tb_rel, fun p9 h9 n9 => by tb_rel⟩
    | exact hret _ _ _ _ (by k_asm) (by k_asm) ⟨⟨.var i7, ok7, Nat.zero_le _, TIn.var (List.Mem.head _)⟩, U8.mono (fun p9 h9 => by tb_rel) (by simp only [dr]; omega), fun p9 h9 n9 => by tb_rel, fun p9 h9 n9 => by tb_rel⟩
theorem drawn_s (w : World) (mean : ExcName → Option Value) (mg mb : PySem.Str → Option Value) (f b n : Nat) (hb : b + dr (f + 1) ≤ 800) (IH : ∀ b', b' + dr f ≤ 800 → DrawnFn w mean mg mb f b' n) : DrawnFn w mean mg mb (f + 1) b (n + 12) := by
  simp only [dr] at hb
  intro news u z tkP hU hz
  have hz1 : z = (f : Int) + 1 := by omega
  unfold Fn
  intro dp un gd cn cs aa ccd cl outer A₀ base h₀ L m hp9 gs9 dr9 tks9 os9 Q E B F X N T hk9 hd9 hu9 hret hexc
  refine wpAny_call ?_
  k_with_none
  k_dflt ktr_enter
  (k_with "call ref" => k_dflt ((refine' Fn.use (took_ok w mean mg mb _ b (by decide) (by omega) _ _ _ hU) (by k_asm) (by k_asm) (by k_asm) (by k_asm) (by k_asm) (by first | exact rfl | assumption) (by k_room) (by k_room) ?_ ?_; all_goals (try exact False.elim)); intro r9 news9 h9 tk9 F' N'; revert r9; refine cpsJ ?_; intro j9 u9 lo9 hi9 U9 o9 t9))
  (k_with "call ref" => k_dflt ((refine' Fn.use (took_ok w mean mg mb _ (b + 1) (by decide) (by omega) _ _ _ U9) (by k_asm) (by k_asm) (by k_asm) (by k_asm) (by k_asm) (by first | exact rfl | assumption) (by k_room) (by k_room) ?_ ?_; all_goals (try exact False.elim)); intro r8 news8 h8 tk8 F' N'; revert r8; refine cpsJ ?_; intro j8 u8 lo8 hi8 U8 o8 t8))
  (k_with "subscriptTail Name Call ref int" => k_dflt (refine' r_ix (IsTup.of_lookup ?F3 ?X3 ?o3) lo8 hi8 ?_ ?c3 ?d3; (case F3 => k_asm); (case X3 => k_asm); (case o3 => k_is); (case c3 => with_unfolding_all rfl); (case d3 => intro _; with_unfolding_all rfl); intro i7 t7 ok7; have le7 := okIx_le ok7; try dsimp only))
  (k_with "call type:str" => k_dflt (refine P.str_of_int (shown (N := 18446744073709551616) (by omega) (by omega) (by decide +kernel)) ?_))
  (k_with "call ref" => k_dflt ((refine' Fn.use (IH (b + 1) (by omega) _ _ _ _ U9 (by omega)) (by k_asm) (by k_asm) (by k_asm) (by k_asm) (by k_asm) (by first | exact rfl | assumption) (by k_room) (by k_room) ?_ ?_; all_goals (try exact False.elim)); intro r7 news7 h7 tk7 F' N'; refine cpsD ?_; intro tA okA hA RA U7 o7 t7))
  (k_with "call ref" => k_dflt ((refine' Fn.use (IH (b + 1 + dr f) (by omega) _ _ _ _ U7 (by omega)) (by k_asm) (by k_asm) (by k_asm) (by k_asm) (by k_asm) (by first | exact rfl | assumption) (by k_room) (by k_room) ?_ ?_; all_goals (try exact False.elim)); intro r6 news6 h6 tk6 F' N'; refine cpsD ?_; intro tB okB hB RB U6 o6 t6))
  k_steps
  all_goals first
    | exact hret _ _ _ _ (by k_asm) (by k_asm) ⟨⟨.k, trivial, Nat.zero_le _, TIn.k (List.Mem.head _)⟩, U9.mono (fun p9 h9 => by tb_rel) (by simp only [dr]; omega), fun p9 h9 n9 => by tb_rel, fun p9 h9 n9 => by tb_rel⟩
    | exact hret _ _ _ _ (by k_asm) (by k_asm) ⟨⟨.var i7, ok7, Nat.zero_le _, TIn.var (List.Mem.head _)⟩, U8.mono (fun p9 h9 => by tb_rel) (by simp only [dr]; omega), fun p9 h9 n9 => by tb_rel, fun p9 h9 n9 => by tb_rel⟩
    | exact hret _ _ _ _ (by k_asm) (by k_asm) ⟨⟨.app tA tB, ⟨okA, okB⟩, (by simp only [Tm.hgt]; omega), TIn.app (List.Mem.head _) (by (first | assumption | (refine TIn.sub ?_ ‹_›; intro p9 h9 t9; tb_rel) | (refine NIn.sub ?_ ‹_›; intro p9 h9 t9; tb_rel) | (refine ListIn.mono ?_ ‹_›; intro p9 h9; tb_rel))) (by (first | assumption | (refine TIn.sub ?_ ‹_›; intro p9 h9 t9; tb_rel) | (refine NIn.sub ?_ ‹_›; intro p9 h9 t9; tb_rel) | (refine ListIn.mono ?_ ‹_›; intro p9 h9; tb_rel)))⟩, U6.mono (fun p9 h9 => by tb_rel) (by simp only [dr]; omega), fun p9 h9 n9 => by tb_rel, fun p9 h9 n9 => by tb_rel⟩
    | exact hret _ _ _ _ (by k_asm) (by k_asm) ⟨⟨.lam tA, okA, (by simp only [Tm.hgt]; omega), TIn.lam (List.Mem.head _) (by (first | assumption | (refine TIn.sub ?_ ‹_›; intro p9 h9 t9; tb_rel) | (refine NIn.sub ?_ ‹_›; intro p9 h9 t9; tb_rel) | (refine ListIn.mono ?_ ‹_›; intro p9 h9; tb_rel)))⟩, U7.mono (fun p9 h9 => by tb_rel) (by simp only [dr]; omega), fun p9 h9 n9 => by tb_rel, fun p9 h9 n9 => by tb_rel⟩
theorem DrawnFn.wider {w : World} {mean : ExcName → Option Value} {mg mb : PySem.Str → Option Value} {f b n n' : Nat} (h : DrawnFn w mean mg mb f b n) (hl : n ≤ n') : DrawnFn w mean mg mb f b n' :=
  fun news u z tkP hU hz => (h news u z tkP hU hz).wider hl
theorem drawn_ok (w : World) (mean : ExcName → Option Value) (mg mb : PySem.Str → Option Value) : ∀ (f b : Nat), b + dr f ≤ 800 → DrawnFn w mean mg mb f b (12 * f + 12)
  | 0, b, h => drawn_0 w mean mg mb b (by simp only [dr] at h; omega)
  | f + 1, b, h => (drawn_s w mean mg mb f b _ h (fun b' h' => drawn_ok w mean mg mb f b' h')).wider (by omega)

end
section
-- L6
theorem called_small (t : Tm) : ∀ (around : List Nat) (lot : Nat), t.ok → (called t around lot).1.small := by
  induction t with
  | k => intro _ _ _; trivial
  | var i =>
    intro around lot ho
    have h1 : i ≤ 999999999 := okIx_le ho
    simp only [called]
    by_cases h : i < around.length
    · rw [dif_pos h]; trivial
    · rw [dif_neg h]; simp only [Nt.small]; omega
  | lam t ih => intro around lot ho; exact ih _ _ ho
  | app a b iha ihb => intro around lot ho; exact ⟨iha _ _ ho.1, ihb _ _ ho.2⟩
theorem called_closed (t : Tm) : ∀ (around : List Nat) (lot : Nat), (called t around lot).1.closed around := by
  induction t with
  | k => intro _ _; trivial
  | var i =>
    intro around lot
    simp only [called]
    by_cases h : i < around.length
    · rw [dif_pos h]; exact List.getElem_mem h
    · rw [dif_neg h]; trivial
  | lam t ih => intro around lot; exact ih _ _
  | app a b iha ihb => intro around lot; exact ⟨iha _ _, ihb _ _⟩
theorem called_hgt (t : Tm) : ∀ (around : List Nat) (lot : Nat), (called t around lot).1.hgt = t.hgt := by
  induction t with
  | k => intro _ _; rfl
  | var i =>
    intro around lot
    simp only [called]
    by_cases h : i < around.length
    · rw [dif_pos h]; rfl
    · rw [dif_neg h]; rfl
  | lam t ih => intro around lot; show (called t _ _).1.hgt + 1 = t.hgt + 1; rw [ih]
  | app a b iha ihb => intro around lot; show max (called a _ _).1.hgt (called b _ _).1.hgt + 1 = max a.hgt b.hgt + 1; rw [iha, ihb]
theorem Nt.closed.wider {t : Nt} : ∀ {around around' : List Nat}, (∀ i ∈ around, i ∈ around') → t.closed around → t.closed around' := by
  induction t with
  | k => intro _ _ _ _; trivial
  | of i => intro _ _ h hc; exact h _ hc
  | out j => intro _ _ _ _; trivial
  | lam n b ih =>
    intro _ _ h hc
    exact ih (fun i hi => by
      rcases List.mem_cons.mp hi with rfl | hi
      · exact .head _
      · exact .tail _ (h _ hi)) hc
  | app a b iha ihb => intro _ _ h hc; exact ⟨iha h hc.1, ihb h hc.2⟩
theorem fill_closed (k : Nat) (o t : Nt) (hO : o.closed []) : ∀ (around : List Nat), t.closed around → (fill k o t).closed around := by
  induction t with
  | k => intro _ _; trivial
  | of i => intro _ hc; exact hc
  | out j =>
    intro around _
    simp only [fill]
    by_cases h : j = k
    · rw [if_pos h]; exact hO.wider (fun _ h => absurd h List.not_mem_nil)
    · rw [if_neg h]; trivial
  | lam n b ih => intro _ hc; exact ih _ hc
  | app a b iha ihb => intro _ hc; exact ⟨iha _ hc.1, ihb _ hc.2⟩
theorem fill_small (k : Nat) (o t : Nt) (hO : o.small) (hT : t.small) : (fill k o t).small := by
  induction t with
  | k => trivial
  | of i => trivial
  | out j =>
    simp only [fill]
    by_cases h : j = k
    · rw [if_pos h]; exact hO
    · rw [if_neg h]
      simp only [Nt.small] at hT ⊢
      by_cases h' : k < j
      · rw [if_pos h']; omega
      · rw [if_neg h']; omega
  | lam n b ih => exact ih hT
  | app a b iha ihb => exact ⟨iha hT.1, ihb hT.2⟩
theorem fill_hgt (k : Nat) (o t : Nt) : (fill k o t).hgt ≤ t.hgt + o.hgt := by
  induction t with
  | k => exact Nat.zero_le _
  | of i => exact Nat.zero_le _
  | out j =>
    simp only [fill]
    by_cases h : j = k
    · rw [if_pos h]; omega
    · rw [if_neg h]; exact Nat.zero_le _
  | lam n b ih => simp only [fill, Nt.hgt]; omega
  | app a b iha ihb => simp only [fill, Nt.hgt]; omega
theorem idx_len (t : Nt) : ∀ (around : List Nat), (count t around).idx.length ≤ 2 ^ t.hgt := by
  induction t with
  | k => intro _; exact Nat.zero_le _
  | of i => intro _; exact Nat.le_refl _
  | out j => intro _; exact Nat.le_refl _
  | lam n b ih =>
    intro around
    have := ih (n :: around)
    have e : 2 ^ b.hgt ≤ 2 ^ (b.hgt + 1) := Nat.pow_le_pow_right (by decide) (by omega)
    exact Nat.le_trans this e
  | app a b iha ihb =>
    intro around
    have h1 := iha around
    have h2 := ihb around
    have e1 : 2 ^ a.hgt ≤ 2 ^ (max a.hgt b.hgt) := Nat.pow_le_pow_right (by decide) (by omega)
    have e2 : 2 ^ b.hgt ≤ 2 ^ (max a.hgt b.hgt) := Nat.pow_le_pow_right (by decide) (by omega)
    have e3 : (2 : Nat) ^ (max a.hgt b.hgt + 1) = 2 * 2 ^ (max a.hgt b.hgt) := by rw [Nat.pow_succ]; omega
    simp only [count, Tm.idx, List.length_append, Nt.hgt]
    omega
theorem lams_le (t : Tm) : lams t ≤ 2 ^ t.hgt := by
  induction t with
  | k => exact Nat.zero_le _
  | var i => exact Nat.zero_le _
  | lam t ih =>
    have e3 : (2 : Nat) ^ (t.hgt + 1) = 2 * 2 ^ t.hgt := by rw [Nat.pow_succ]; omega
    have : 0 < 2 ^ t.hgt := Nat.two_pow_pos _
    simp only [lams, Tm.hgt]
    omega
  | app a b iha ihb =>
    have e1 : 2 ^ a.hgt ≤ 2 ^ (max a.hgt b.hgt) := Nat.pow_le_pow_right (by decide) (by omega)
    have e2 : 2 ^ b.hgt ≤ 2 ^ (max a.hgt b.hgt) := Nat.pow_le_pow_right (by decide) (by omega)
    have e3 : (2 : Nat) ^ (max a.hgt b.hgt + 1) = 2 * 2 ^ (max a.hgt b.hgt) := by rw [Nat.pow_succ]; omega
    simp only [lams, Tm.hgt]
    omega
/-- the term that the law comes to, before it looks at the indexes -/
noncomputable def dueT (t : Tm) (k : Nat) (u : Tm) : Tm := count (fill k (called u [] (called t [] 0).2).1 (called t [] 0).1) []
/-- `_law_due(t, k, u)` -/
noncomputable def due (t : Tm) (k : Nat) (u : Tm) : Option Tm := if ∀ i ∈ (dueT t k u).idx, i < 1000000000 then some (dueT t k u) else none
theorem lt_of_all {l : List (Addr × Obj)} {D : Addr} {p : Addr × Obj} (h : ∀ p ∈ l, p.1 < D) (hm : p ∈ l) : @LT.lt Nat _ p.1 D := h p hm
theorem LotIn.apart {news : List (Addr × Obj)} {B D : Addr} {k : Nat} (h : LotIn news B k) (hd : ∀ p ∈ news, p.1 < D) : D ≠ B := by
  obtain ⟨ns, ⟨vs, n, hm, _⟩, _⟩ := h
  exact ne_of_lt_all hd hm
section
variable {prog : Program} {w : World} {A : Around} {E : Value → Shared → Prop} {s : Shared} {h₀ : Heap} {L : Addr} {m : PySem.Str → Option Value} {news : List (Addr × Obj)}
theorem r_max {B : Addr} {ns : List Nat} {Q : Value → Shared → Prop} (F : Fr h₀ L s.heap m) (N : News h₀ L s.heap news) (h : ListIn news B ns) (hne : 0 < ns.length) (hh : A.handled = none)
    (hQ : ∀ h' (M : Int) (t : Tok) tk, Fr h₀ L h' m → News h₀ L h' news → (M < 1000000000 ↔ ∀ i ∈ ns, i < 1000000000) → Q (.int M t) { s with heap := h', toks := tk }) : wpAny (model prog w) A (call (.builtin "max") [.ref B]) Q E s := by
  obtain ⟨vs, n, hm, hi⟩ := h
  refine max_list_N hh F N (N.isList hm) hi (by simpa using hne) fun h' M t tk F' N' hM hle => hQ h' M t tk F' N' ⟨fun hlt i hi' => ?_, fun hall => ?_⟩
  · have := hle (i : Int) (List.mem_map.mpr ⟨i, hi', rfl⟩)
    omega
  · obtain ⟨i, hi', rfl⟩ := List.mem_map.mp hM
    have := hall i hi'
    show Int.ofNat i < 1000000000
    have e : Int.ofNat i = (i : Int) := rfl
    omega
end
noncomputable def DueFn (w : World) (mean : ExcName → Option Value) (mg mb : PySem.Str → Option Value) (t : Tm) (k : Nat) (u : Tm) (n : Nat) : Prop :=
  ∀ (news : List (Addr × Obj)) (v : Value) (tkP : Tok) (vu : Value), TIn news v t → TIn news vu u →
    Fn w mean mg mb 203 n [v, .int k tkP, vu] news (fun r news' => Told news' r (due t k u) ∧ (∀ p ∈ news, p ∈ news')) False
theorem due_ok (w : World) (mean : ExcName → Option Value) (mg mb : PySem.Str → Option Value) (t : Tm) (k : Nat) (u : Tm) (ht : t.ok) (hu : u.ok) (hT : t.hgt ≤ 3) (hU : u.hgt ≤ 3) : DueFn w mean mg mb t k u 80 := by
  have lT : lams t ≤ 8 := Nat.le_trans (lams_le t) (Nat.pow_le_pow_right (by decide) hT)
  have lU : lams u ≤ 8 := Nat.le_trans (lams_le u) (Nat.pow_le_pow_right (by decide) hU)
  have eT : (called t [] 0).2 = lams t := by rw [called_lot]; omega
  have C1 := (called_ok w mean mg mb t [] 0 ht (by simp only [List.length_nil]; omega) (by omega)).wider (n' := 40) (by omega)
  have C2 := (called_ok w mean mg mb u [] (called t [] 0).2 hu (by simp only [List.length_nil]; omega) (by omega)).wider (n' := 40) (by omega)
  have C3 := (fill_ok w mean mg mb k (called u [] (called t [] 0).2).1 (called t [] 0).1).wider (n' := 40) (by rw [called_hgt]; omega)
  have hh : (fill k (called u [] (called t [] 0).2).1 (called t [] 0).1).hgt ≤ 6 := Nat.le_trans (fill_hgt _ _ _) (by rw [called_hgt, called_hgt]; omega)
  have C4 := (count_ok w mean mg mb (fill k (called u [] (called t [] 0).2).1 (called t [] 0).1) [] [0] (fill_small _ _ _ (called_small _ _ _ hu) (called_small _ _ _ ht)) (fill_closed _ _ _ (called_closed _ _ _) _ (called_closed _ _ _)) (by simp only [List.length_nil]; omega)
    (by have := Nat.le_trans (idx_len (fill k (called u [] (called t [] 0).2).1 (called t [] 0).1) []) (Nat.pow_le_pow_right (by decide) hh)
        simp only [List.length_singleton]
        omega)).wider (n' := 60) (by omega)
  intro news v tkP vu hR hRu
  unfold Fn
  intro dp un gd cn cs aa ccd cl outer A₀ base h₀ L m hp9 gs9 dr9 tks9 os9 Q E B F X N T hk9 hd9 hu9 hret hexc
  obtain ⟨av, rfl⟩ := hR.isRef
  obtain ⟨au, rfl⟩ := hRu.isRef
  refine wpAny_call ?_
  k_with_none
  k_dflt ktr_enter
  (k_with "call ref" => k_dflt ((refine' Fn.use (C1 _ _ _ _ _ _ _ _) (by k_asm) (by k_asm) (by k_asm) (by k_asm) (by k_asm) (by first | exact rfl | assumption) (by k_room) (by k_room) ?_ ?_; all_goals (try exact False.elim)); (first | assumption | (refine TIn.sub ?_ ‹_›; intro p9 h9 t9; tb_rel) | (refine NIn.sub ?_ ‹_›; intro p9 h9 t9; tb_rel) | (refine ListIn.mono ?_ ‹_›; intro p9 h9; tb_rel)); (case _ => exact ⟨[], 0, List.Mem.head _, .nil⟩); (case _ => exact ⟨[], ⟨[], 0, by tb_rel, .nil⟩, rfl⟩); (case _ => exact Nat.ne_of_gt (by omega)); intro r9 news9 h9 tk9 F' N'; refine cps4 ?_; intro R9 L9 o9 t9))
  (k_with "call ref" => k_dflt ((refine' Fn.use (C2 _ _ _ _ _ _ _ _) (by k_asm) (by k_asm) (by k_asm) (by k_asm) (by k_asm) (by first | exact rfl | assumption) (by k_room) (by k_room) ?_ ?_; all_goals (try exact False.elim)); (first | assumption | (refine TIn.sub ?_ ‹_›; intro p9 h9 t9; tb_rel) | (refine NIn.sub ?_ ‹_›; intro p9 h9 t9; tb_rel) | (refine ListIn.mono ?_ ‹_›; intro p9 h9; tb_rel)); (case _ => exact ⟨[], 0, List.Mem.head _, .nil⟩); (case _ => exact LotIn.mono (fun p9 h9 => by tb_rel) L9); (case _ => exact LotIn.apart L9 (by assumption)); intro r8 news8 h8 tk8 F' N'; refine cps4 ?_; intro R8 L8 o8 t8))
  (k_with "call ref" => k_dflt ((refine' Fn.use (C3 _ _ _ _ _ _) (by k_asm) (by k_asm) (by k_asm) (by k_asm) (by k_asm) (by first | exact rfl | assumption) (by k_room) (by k_room) ?_ ?_; all_goals (try exact False.elim)); (first | assumption | (refine TIn.sub ?_ ‹_›; intro p9 h9 t9; tb_rel) | (refine NIn.sub ?_ ‹_›; intro p9 h9 t9; tb_rel) | (refine ListIn.mono ?_ ‹_›; intro p9 h9; tb_rel)); (first | assumption | (refine TIn.sub ?_ ‹_›; intro p9 h9 t9; tb_rel) | (refine NIn.sub ?_ ‹_›; intro p9 h9 t9; tb_rel) | (refine ListIn.mono ?_ ‹_›; intro p9 h9; tb_rel)); intro r7 news7 h7 tk7 F' N'; refine cps2 ?_; intro R7 s7))
  (k_with "call ref" => k_dflt ((refine' Fn.use (C4 _ _ _ _ _ _ _ _) (by k_asm) (by k_asm) (by k_asm) (by k_asm) (by k_asm) (by first | exact rfl | assumption) (by k_room) (by k_room) ?_ ?_; all_goals (try exact False.elim)); (first | assumption | (refine TIn.sub ?_ ‹_›; intro p9 h9 t9; tb_rel) | (refine NIn.sub ?_ ‹_›; intro p9 h9 t9; tb_rel) | (refine ListIn.mono ?_ ‹_›; intro p9 h9; tb_rel)); (case _ => exact ⟨[], 0, List.Mem.head _, .nil⟩); (case _ => exact ⟨[_], 0, by tb_rel, .cons _ _ .nil⟩); (case _ => exact ne_of_lt_all (by assumption) (by tb_rel)); intro r6 news6 h6 tk6 F' N'; refine cps4 ?_; intro R6 L6 o6 t6))
  (k_with "call builtin:max" => k_dflt (refine' r_max ?F5 ?N5 ?l5 ?n5 ?h5 ?_; (case F5 => k_asm); (case N5 => k_asm); (case l5 => exact L6); (case n5 => simp); (case h5 => with_unfolding_all rfl); intro h5 M5 t5 tk5 F' N' iff5))
  k_steps
  all_goals have e10 : (10 : Int) ^ Int.toNat 9 = 1000000000 := by decide
  all_goals first
    | exact hret _ _ _ _ (by k_asm) (by k_asm) ⟨by
        have hy : ∀ i ∈ (dueT t k u).idx, i < 1000000000 := fun i hi => iff5.mp (by omega) i (List.mem_append_right _ hi)
        simp only [due, if_pos hy]
        exact R6, fun p9 h9 => by
        have q9 := lt_of_all (l := news) (by assumption) h9
        exact o6 _ (.tail _ (s7 _ (o8 _ (.tail _ (o9 _ (.tail _ (.tail _ (.tail _ (.tail _ h9)))) (Nat.ne_of_lt (by omega)))) (Nat.ne_of_lt (by omega))))) (Nat.ne_of_lt (by omega))⟩
    | exact hret _ _ _ _ (by k_asm) (by k_asm) ⟨by
        have hy : ¬ ∀ i ∈ (dueT t k u).idx, i < 1000000000 := fun hall => by
          have := iff5.mpr fun i hi => by
            rcases List.mem_append.mp hi with hi | hi
            · have := List.mem_singleton.mp hi
              omega
            · exact hall i hi
          omega
        simp only [due, if_neg hy]
        exact rfl, fun p9 h9 => by
        have q9 := lt_of_all (l := news) (by assumption) h9
        exact o6 _ (.tail _ (s7 _ (o8 _ (.tail _ (o9 _ (.tail _ (.tail _ (.tail _ (.tail _ h9)))) (Nat.ne_of_lt (by omega)))) (Nat.ne_of_lt (by omega))))) (Nat.ne_of_lt (by omega))⟩

end
section
-- L7
/-- the free places (from `c` on) moved by `b`, without a limit -/
noncomputable def sh (c b : Nat) : Tm → Tm
  | .k => .k
  | .var n => .var (if c ≤ n then n + b else n)
  | .lam t => .lam (sh (c + 1) b t)
  | .app x y => .app (sh c b x) (sh c b y)
/-- `put` without a limit -/
noncomputable def pt (k : Nat) (u : Tm) (d : Nat) : Tm → Tm
  | .k => .k
  | .var n => if n = k + d then sh 0 d u else if k + d < n then .var (n - 1) else .var n
  | .lam t => .lam (pt k u (d + 1) t)
  | .app x y => .app (pt k u d x) (pt k u d y)
noncomputable abbrev Tm.fits (t : Tm) : Prop := ∀ i ∈ t.idx, i < 1000000000
theorem sh_zero (t : Tm) : ∀ c, sh c 0 t = t := by
  induction t with
  | k => intro _; rfl
  | var n => intro c; simp [sh]
  | lam t ih => intro c; simp only [sh, ih]
  | app x y ihx ihy => intro c; simp only [sh, ihx, ihy]
theorem ok_fits {t : Tm} (h : t.ok) : t.fits := by
  induction t with
  | k => intro i hi; cases hi
  | var n =>
    intro i hi
    have := List.mem_singleton.mp hi
    have := okIx_le h
    omega
  | lam t ih => exact ih h
  | app x y ihx ihy =>
    intro i hi
    rcases List.mem_append.mp hi with hi | hi
    · exact ihx h.1 i hi
    · exact ihy h.2 i hi
theorem fits_app {x y : Tm} : (Tm.app x y).fits ↔ x.fits ∧ y.fits := by
  constructor
  · intro h
    exact ⟨fun i hi => h i (List.mem_append_left _ hi), fun i hi => h i (List.mem_append_right _ hi)⟩
  · intro h i hi
    rcases List.mem_append.mp hi with hi | hi
    · exact h.1 i hi
    · exact h.2 i hi
noncomputable def lim (t : Tm) : Option Tm := if t.fits then some t else none
theorem lim_yes {t : Tm} (h : t.fits) : lim t = some t := if_pos h
theorem lim_no {t : Tm} (h : ¬ t.fits) : lim t = none := if_neg h
theorem fits_var {n : Nat} (h : n < 1000000000) : (Tm.var n).fits := fun i hi => by
  have := List.mem_singleton.mp hi
  omega
theorem lim_lam (t : Tm) : lim (.lam t) = (lim t).map .lam := by
  by_cases h : t.fits
  · rw [lim_yes h, lim_yes (t := .lam t) h]; rfl
  · rw [lim_no h, lim_no (t := .lam t) h]; rfl
theorem lim_app (x y : Tm) : lim (.app x y) = match lim x with
    | none => none
    | some x' => (lim y).map (.app x') := by
  by_cases h1 : x.fits
  · by_cases h2 : y.fits
    · rw [lim_yes h1, lim_yes h2, lim_yes (fits_app.mpr (And.intro h1 h2))]; rfl
    · rw [lim_yes h1, lim_no h2, lim_no (fun h => h2 (fits_app.mp h).2)]; rfl
  · rw [lim_no h1, lim_no (fun h => h1 (fits_app.mp h).1)]
theorem moved_is (b : Nat) (t : Tm) (h : t.ok) : ∀ c, moved b c t = lim (sh c b t) := by
  induction t with
  | k => intro c; exact (lim_yes (t := .k) (fun i hi => absurd hi List.not_mem_nil)).symm
  | var n =>
    intro c
    have hn := okIx_le h
    simp only [moved, sh]
    by_cases hc : c ≤ n
    · rw [if_pos hc, if_pos hc]
      by_cases hl : 999999999 < n + b
      · rw [if_pos hl, lim_no (fun h => by have := h (n + b) (List.mem_singleton.mpr rfl); omega)]
      · rw [if_neg hl, lim_yes (fits_var (by omega))]
    · rw [if_neg hc, if_neg hc, lim_yes (fits_var (by omega))]
  | lam t ih =>
    intro c
    simp only [moved, sh, ih h, lim_lam]
  | app x y ihx ihy =>
    intro c
    simp only [moved, sh, ihx h.1, ihy h.2, lim_app]
    all_goals cases lim (sh c b x) <;> rfl
theorem put_is (k : Nat) (u : Tm) (hu : u.ok) (t : Tm) (h : t.ok) : ∀ d, put k u d t = lim (pt k u d t) := by
  induction t with
  | k => intro c; exact (lim_yes (t := .k) (fun i hi => absurd hi List.not_mem_nil)).symm
  | var n =>
    intro d
    have hn := okIx_le h
    simp only [put, pt]
    by_cases hk : n = k + d
    · rw [if_pos hk, if_pos hk]
      by_cases hd : 0 < d
      · rw [if_pos hd]; exact moved_is d u hu 0
      · have h0 : d = 0 := by omega
        rw [if_neg hd, h0, sh_zero, lim_yes (ok_fits hu)]
    · rw [if_neg hk, if_neg hk]
      by_cases hl : k + d < n
      · rw [if_pos hl, if_pos hl, lim_yes (fits_var (by omega))]
      · rw [if_neg hl, if_neg hl, lim_yes (fits_var (by omega))]
  | lam t ih =>
    intro d
    simp only [put, pt, ih h, lim_lam]
  | app x y ihx ihy =>
    intro d
    simp only [put, pt, ihx h.1, ihy h.2, lim_app]
    all_goals cases lim (pt k u d x) <;> rfl
theorem idx_at {ar : List Nat} (hn : ar.Nodup) (ex : List Nat) (n : Nat) (h : n < ar.length) : (ar ++ ex).idxOf ar[n] = n := by
  rw [List.idxOf_append, if_pos (List.getElem_mem h)]
  exact hn.idxOf_getElem n h
theorem count_called (t : Tm) : ∀ (ar ex : List Nat) (lot : Nat), ar.Nodup → (∀ x ∈ ar, x < lot) → count (called t ar lot).1 (ar ++ ex) = sh ar.length ex.length t := by
  induction t with
  | k => intro _ _ _ _ _; rfl
  | var n =>
    intro ar ex lot hn hl
    simp only [called, sh]
    by_cases h : n < ar.length
    · rw [dif_pos h, if_neg (by omega)]
      simp only [count]
      rw [idx_at hn ex n h]
    · rw [dif_neg h, if_pos (by omega)]
      simp only [count, List.length_append]
      congr 1
      omega
  | lam t ih =>
    intro ar ex lot hn hl
    have := ih (lot :: ar) ex (lot + 1) (List.nodup_cons.mpr ⟨fun h => Nat.lt_irrefl _ (hl _ h), hn⟩) (fun x hx => by
      rcases List.mem_cons.mp hx with rfl | hx
      · omega
      · have := hl x hx; omega)
    show Tm.lam (count (called t (lot :: ar) (lot + 1)).1 (lot :: (ar ++ ex))) = Tm.lam (sh (ar.length + 1) ex.length t)
    rw [show lot :: (ar ++ ex) = (lot :: ar) ++ ex from rfl, this]
    rfl
  | app x y ihx ihy =>
    intro ar ex lot hn hl
    show Tm.app (count (called x ar lot).1 (ar ++ ex)) (count (called y ar (called x ar lot).2).1 (ar ++ ex)) = _
    rw [ihx ar ex lot hn hl, ihy ar ex _ hn (fun z hz => by rw [called_lot]; have := hl z hz; omega)]
    rfl
theorem count_fill (k : Nat) (u : Tm) (l0 : Nat) (t : Tm) : ∀ (ar : List Nat) (lot : Nat), ar.Nodup → (∀ x ∈ ar, x < lot) → count (fill k (called u [] l0).1 (called t ar lot).1) ar = pt k u ar.length t := by
  induction t with
  | k => intro _ _ _ _; rfl
  | var n =>
    intro ar lot hn hl
    simp only [called, pt]
    by_cases h : n < ar.length
    · rw [dif_pos h, if_neg (by omega), if_neg (by omega)]
      simp only [fill, count]
      have := idx_at hn [] n h
      rw [List.append_nil] at this
      rw [this]
    · rw [dif_neg h]
      simp only [fill]
      by_cases hk : n - ar.length = k
      · rw [if_pos hk, if_pos (by omega)]
        exact count_called u [] ar l0 List.nodup_nil (fun _ h => absurd h List.not_mem_nil)
      · have e1 : ¬ n = k + ar.length := by omega
        rw [if_neg hk, if_neg e1]
        by_cases hg : k < n - ar.length
        · have e2 : k + ar.length < n := by omega
          rw [if_pos hg, if_pos e2]
          simp only [count]
          congr 1
          omega
        · have e2 : ¬ k + ar.length < n := by omega
          rw [if_neg hg, if_neg e2]
          simp only [count]
          congr 1
          omega
  | lam t ih =>
    intro ar lot hn hl
    have := ih (lot :: ar) (lot + 1) (List.nodup_cons.mpr ⟨fun h => Nat.lt_irrefl _ (hl _ h), hn⟩) (fun x hx => by
      rcases List.mem_cons.mp hx with rfl | hx
      · omega
      · have := hl x hx; omega)
    show Tm.lam (count (fill k (called u [] l0).1 (called t (lot :: ar) (lot + 1)).1) (lot :: ar)) = Tm.lam (pt k u (ar.length + 1) t)
    rw [this]
    rfl
  | app x y ihx ihy =>
    intro ar lot hn hl
    show Tm.app (count (fill k _ (called x ar lot).1) ar) (count (fill k _ (called y ar (called x ar lot).2).1) ar) = _
    rw [ihx ar lot hn hl, ihy ar _ hn (fun z hz => by rw [called_lot]; have := hl z hz; omega)]
    rfl
/-- THE PLAIN LAW: what the law comes to by names is what put_in tells -/
theorem due_put (t : Tm) (k : Nat) (u : Tm) (ht : t.ok) (hu : u.ok) : due t k u = put k u 0 t := by
  have e : dueT t k u = pt k u 0 t := count_fill k u _ t [] 0 List.nodup_nil (fun _ h => absurd h List.not_mem_nil)
  rw [put_is k u hu t ht 0]
  show lim (dueT t k u) = _
  rw [e]

end
section
-- L8
theorem FnT.use {w : World} {mean : ExcName → Option Value} {mg mb : PySem.Str → Option Value} {f : Addr} {nd : Nat} {vs : List Value} {news : List (Addr × Obj)} {ret : Value → List (Addr × Obj) → Prop} {dp un : Nat} {gd : Option (List Code)} {cn : PySem.Str} {cs : Scope} {a : Addr} {ccd : Value} {A₀ : Around} {h₀ : Heap} {L : Addr} {m : PySem.Str → Option Value} {s : Shared} {Q E : Value → Shared → Prop}
    (C : FnT w mean mg mb f nd vs news ret) (B : Below A₀ h₀ [] h₀) (F : Fr h₀ L s.heap m) (X : (kf w.params).In h₀) (N : News h₀ L s.heap news) (T : Top hd.view_39 (looseW hd.view_39 []) mean mg mb h₀) (hk : cs.kind = .function) (hd : dp + nd < 900) (hu : un + 8 * nd < 9000)
    (hret : ∀ r news' h' tk', Fr h₀ L h' m → News h₀ L h' news' → ret r news' → Q r { s with heap := h', toks := tk' }) :
    wpAny (model PySem.Challenge.rw_sa0019_01.prog w) (ktrTop dp un gd cn cs L a ccd [] []) (call (.ref f) vs) Q E s := C dp un gd cn cs a ccd A₀ h₀ L m s.heap s.gens s.drawn s.toks s.os Q E B F X N T hk hd hu hret
theorem urn_new {news : List (Addr × Obj)} {u c : Addr} {tk : Tok} {n m : Nat} {ws : List Value} {ns : List Int} (h1 : (u, ({ cls := .type "list", data := .seq #[.ref c, .int 0 tk] n } : Obj)) ∈ news) (h2 : (c, ({ cls := .type "list", data := .seq ws.toArray m } : Obj)) ∈ news) (hi : IntsAre ws ns) (hl : ns.length ≤ 63) (hne : c ≠ u) : UrnIn news u 0 :=
  ⟨c, 0, tk, n, ns, h1, ⟨ws, m, h2, hi⟩, hl, Nat.le_refl _, hne⟩
noncomputable def okK (k : Nat) : Prop := k = 0 ∨ k = 1 ∨ k = 2 ∨ k = 999999997
theorem told_cases {news : List (Addr × Obj)} {r : Value} {X : Option Tm} (h : Told news r X) : (X = none ∧ r = .none) ∨ (∃ x a, X = some x ∧ r = .ref a ∧ TIn news (.ref a) x) := by
  cases X with
  | none => exact .inl ⟨rfl, h⟩
  | some x =>
    have h' : TIn news r x := h
    obtain ⟨a, rfl⟩ := h'.isRef
    exact .inr ⟨x, a, rfl, rfl, h'⟩
section
variable {prog : Program} {w : World} {A : Around} {E : Value → Shared → Prop} {s : Shared} {h₀ : Heap} {L : Addr} {m : PySem.Str → Option Value} {news : List (Addr × Obj)}
theorem r_k {value slice : Expr} {a : Addr} {t0 t1 t2 t3 : Tok} {n : Nat} {j : Int} {u : Tok} {Q : Value → Shared → Prop} (N : News h₀ L s.heap news) (hm : (a, ({ cls := .type "tuple", data := .seq #[.int 0 t0, .int 1 t1, .int 2 t2, .int 999999997 t3] n } : Obj)) ∈ news) (h0 : 0 ≤ j) (h4 : j < 4)
    (hQ : ∀ k t, okK k → Q (.int (k : Nat) t) s)
    (hs : subscripted slice false (.ref a) (.int j u) = operate [.ref a, .int j u] (getItem (.ref a) (.int j u))) (hg : ∀ r, letTemporaryGo value (.ref a) r = pure ()) :
    wpAny (model prog w) A (subscriptTail value slice (.ref a) (.int j u)) Q E s := by
  have ht := N.isTup hm
  have hj : j = 0 ∨ j = 1 ∨ j = 2 ∨ j = 3 := by omega
  rcases hj with rfl | rfl | rfl | rfl
  · exact item_tuple ht (by decide) (by decide) rfl rfl (hQ 0 _ (.inl rfl)) hs hg
  · exact item_tuple ht (by decide) (by decide) rfl rfl (hQ 1 _ (.inr (.inl rfl))) hs hg
  · exact item_tuple ht (by decide) (by decide) rfl rfl (hQ 2 _ (.inr (.inr (.inl rfl)))) hs hg
  · exact item_tuple ht (by decide) (by decide) rfl rfl (hQ 999999997 _ (.inr (.inr (.inr rfl)))) hs hg
theorem eq_at2 {a b : Addr} {x x' y y' : Value} {n n' : Nat} (N : News h₀ L s.heap news) (h1 : (a, ({ cls := .type "tuple", data := .seq #[x, y] n } : Obj)) ∈ news) (h2 : (b, ({ cls := .type "tuple", data := .seq #[x', y'] n' } : Obj)) ∈ news) (hu : A.units < cLine) (e1 : SeqAt.EqAt A.in1 s x x' true) (e2 : SeqAt.EqAt A.in1 s y y' true) : SeqAt.RcAt A s (.ref a) (.ref b) true ∧ SeqAt.RcNeAt A s (.ref a) (.ref b) false := by
  have he : ∀ j (h1 : j < #[x, y].size) (h2 : j < #[x', y'].size), SeqAt.EqAt A.in1 s #[x, y][j] #[x', y'][j] true := fun j hj1 hj2 => by
    have hj : j = 0 ∨ j = 1 := by
      have : j < 2 := hj1
      omega
    rcases hj with rfl | rfl
    · exact e1
    · exact e2
  have q1 := SeqAt.RcAt.tuples (e := fun _ => true) (N.isTup h1) (N.isTup h2) hu he
  have q2 := SeqAt.RcNeAt.tuples (e := fun _ => true) (N.isTup h1) (N.isTup h2) hu he
  simp at q1 q2
  exact ⟨q1, q2⟩
theorem eq_at1 {a b : Addr} {x x' : Value} {n n' : Nat} (N : News h₀ L s.heap news) (h1 : (a, ({ cls := .type "tuple", data := .seq #[x] n } : Obj)) ∈ news) (h2 : (b, ({ cls := .type "tuple", data := .seq #[x'] n' } : Obj)) ∈ news) (hu : A.units < cLine) (e1 : SeqAt.EqAt A.in1 s x x' true) : SeqAt.RcAt A s (.ref a) (.ref b) true ∧ SeqAt.RcNeAt A s (.ref a) (.ref b) false := by
  have he : ∀ j (h1 : j < #[x].size) (h2 : j < #[x'].size), SeqAt.EqAt A.in1 s #[x][j] #[x'][j] true := fun j hj1 hj2 => by
    have hj : j = 0 := by
      have : j < 1 := hj1
      omega
    subst hj
    exact e1
  have q1 := SeqAt.RcAt.tuples (e := fun _ => true) (N.isTup h1) (N.isTup h2) hu he
  have q2 := SeqAt.RcNeAt.tuples (e := fun _ => true) (N.isTup h1) (N.isTup h2) hu he
  simp at q1 q2
  exact ⟨q1, q2⟩
theorem eq_at3 {a b : Addr} {x x' y y' z z' : Value} {n n' : Nat} (N : News h₀ L s.heap news) (h1 : (a, ({ cls := .type "tuple", data := .seq #[x, y, z] n } : Obj)) ∈ news) (h2 : (b, ({ cls := .type "tuple", data := .seq #[x', y', z'] n' } : Obj)) ∈ news) (hu : A.units < cLine) (e1 : SeqAt.EqAt A.in1 s x x' true) (e2 : SeqAt.EqAt A.in1 s y y' true) (e3 : SeqAt.EqAt A.in1 s z z' true) : SeqAt.RcAt A s (.ref a) (.ref b) true ∧ SeqAt.RcNeAt A s (.ref a) (.ref b) false := by
  have he : ∀ j (h1 : j < #[x, y, z].size) (h2 : j < #[x', y', z'].size), SeqAt.EqAt A.in1 s #[x, y, z][j] #[x', y', z'][j] true := fun j hj1 hj2 => by
    have hj : j = 0 ∨ j = 1 ∨ j = 2 := by
      have : j < 3 := hj1
      omega
    rcases hj with rfl | rfl | rfl
    · exact e1
    · exact e2
    · exact e3
  have q1 := SeqAt.RcAt.tuples (e := fun _ => true) (N.isTup h1) (N.isTup h2) hu he
  have q2 := SeqAt.RcNeAt.tuples (e := fun _ => true) (N.isTup h1) (N.isTup h2) hu he
  simp at q1 q2
  exact ⟨q1, q2⟩
theorem eq_str_same (x : PySem.Str) (t u : Tok) : SeqAt.EqAt A s (.str x t) (.str x u) true := by
  have := SeqAt.EqAt.str_str (A := A) (s := s) x t x u
  rw [beq_self_eq_true] at this
  exact this
theorem eq_of_rc {a b : Addr} (h : SeqAt.RcAt A s (.ref a) (.ref b) true) : SeqAt.EqAt A s (.ref a) (.ref b) true := by
  by_cases e : a = b
  · subst e; exact SeqAt.EqAt.same _
  · exact SeqAt.EqAt.of_refs e h
theorem eq_terms (t : Tm) : ∀ (A : Around) (a b : Addr), News h₀ L s.heap news → A.units + 8 * t.hgt < cLine → TIn news (.ref a) t → TIn news (.ref b) t → SeqAt.RcAt A s (.ref a) (.ref b) true ∧ SeqAt.RcNeAt A s (.ref a) (.ref b) false := by
  induction t with
  | k =>
    intro A a b N hu h1 h2
    exact h1.invK fun _ _ m1 => h2.invK fun _ _ m2 => eq_at1 N m1 m2 (Nat.lt_of_le_of_lt (Nat.le_add_right _ _) hu) (eq_str_same _ _ _)
  | var i =>
    intro A a b N hu h1 h2
    exact h1.invV fun _ _ m1 => h2.invV fun _ _ m2 => eq_at1 N m1 m2 (Nat.lt_of_le_of_lt (Nat.le_add_right _ _) hu) (eq_str_same _ _ _)
  | lam t ih =>
    intro A a b N hu h1 h2
    have hu0 : A.units < cLine := Nat.lt_of_le_of_lt (Nat.le_add_right _ _) hu
    have hu1 : A.in1.units + 8 * t.hgt < cLine := by (rw [units_in1]; simp only [Tm.hgt] at hu; omega)
    exact h1.invL fun _ _ c m1 k1 => h2.invL fun _ _ d m2 k2 => eq_at2 N m1 m2 hu0 (eq_str_same _ _ _) (eq_of_rc (ih A.in1 c d N hu1 k1 k2).1)
  | app x y ihx ihy =>
    intro A a b N hu h1 h2
    have hu0 : A.units < cLine := Nat.lt_of_le_of_lt (Nat.le_add_right _ _) hu
    have hu1 : A.in1.units + 8 * x.hgt < cLine := by (rw [units_in1]; simp only [Tm.hgt] at hu; omega)
    have hu2 : A.in1.units + 8 * y.hgt < cLine := by (rw [units_in1]; simp only [Tm.hgt] at hu; omega)
    exact h1.invA fun _ _ c c' m1 k1 l1 => h2.invA fun _ _ d d' m2 k2 l2 => eq_at3 N m1 m2 hu0 (eq_str_same _ _ _) (eq_of_rc (ihx A.in1 c d N hu1 k1 k2).1) (eq_of_rc (ihy A.in1 c' d' N hu2 l1 l2).1)
theorem r_ne_told {r r' : Value} {X : Option Tm} {Q : Value → Shared → Prop} (N : News h₀ L s.heap news) (h1 : Told news r X) (h2 : Told news r' X) (hX : ∀ x, X = some x → x.hgt ≤ 100) (hu : A.units + 800 < cLine) (hQ : Q (.bool false) s) : wpAny (model prog w) A (compareOp .NotEq r r') Q E s := by
  rcases told_cases h1 with ⟨e, rfl⟩ | ⟨x, a, e, rfl, T⟩
  · rcases told_cases h2 with ⟨e', rfl⟩ | ⟨x, a, e', rfl, T⟩
    · exact SeqAt.RcNeAt.none_none prog w E Q hQ
    · rw [e] at e'; cases e'
  · rcases told_cases h2 with ⟨e', rfl⟩ | ⟨x', a', e', rfl, T'⟩
    · rw [e] at e'; cases e'
    · rw [e] at e'
      cases e'
      have := hX x e
      exact (eq_terms x A a a' N (by omega) T T').2 prog w E Q hQ
theorem r_eq_told {r r' : Value} {X : Option Tm} {Q : Value → Shared → Prop} (N : News h₀ L s.heap news) (h1 : Told news r X) (h2 : Told news r' X) (hX : ∀ x, X = some x → x.hgt ≤ 100) (hu : A.units + 800 < cLine) (hQ : Q (.bool true) s) : wpAny (model prog w) A (compareOp .Eq r r') Q E s := by
  rcases told_cases h1 with ⟨e, rfl⟩ | ⟨x, a, e, rfl, T⟩
  · rcases told_cases h2 with ⟨e', rfl⟩ | ⟨x, a, e', rfl, T⟩
    · exact SeqAt.RcAt.none_none prog w E Q hQ
    · rw [e] at e'; cases e'
  · rcases told_cases h2 with ⟨e', rfl⟩ | ⟨x', a', e', rfl, T'⟩
    · rw [e] at e'; cases e'
    · rw [e] at e'
      cases e'
      have := hX x e
      exact (eq_terms x A a a' N (by omega) T T').1 prog w E Q hQ
end
/-- how high what is put can be -/
theorem sh_hgt (t : Tm) : ∀ c b, (sh c b t).hgt = t.hgt := by
  induction t with
  | k => intro _ _; rfl
  | var n => intro _ _; rfl
  | lam t ih => intro c b; simp only [sh, Tm.hgt, ih]
  | app x y ihx ihy => intro c b; simp only [sh, Tm.hgt, ihx, ihy]
theorem pt_hgt (k : Nat) (u t : Tm) : ∀ d, (pt k u d t).hgt ≤ t.hgt + u.hgt := by
  induction t with
  | k => intro _; exact Nat.zero_le _
  | var n =>
    intro d
    simp only [pt]
    split
    · rw [sh_hgt]; omega
    · split <;> exact Nat.zero_le _
  | lam t ih => intro d; have := ih (d + 1); simp only [pt, Tm.hgt]; omega
  | app x y ihx ihy => intro d; have h1 := ihx d; have h2 := ihy d; simp only [pt, Tm.hgt]; omega
theorem put_hgt {k : Nat} {u t x : Tm} (hu : u.ok) (ht : t.ok) (h : put k u 0 t = some x) : x.hgt ≤ t.hgt + u.hgt := by
  rw [put_is k u hu t ht 0] at h
  by_cases hf : (pt k u 0 t).fits
  · rw [lim_yes hf] at h
    cases h
    exact pt_hgt k u t 0
  · rw [lim_no hf] at h; cases h

end
section
-- L9
/-- the law's k, as the walk writes it -/
theorem kz (n : Nat) : ([0, 1, 2, 999999997] : List Int).getD n 0 = ((([0, 1, 2, 999999997] : List Int).getD n 0).toNat : Nat) := by
  match n with
  | 0 => rfl
  | 1 => rfl
  | 2 => rfl
  | 3 => rfl
  | n + 4 => rfl
theorem put_told_z (w : World) (mean : ExcName → Option Value) (mg mb : PySem.Str → Option Value) (k : Nat) (z : Int) (hz : z = (k : Nat)) (u t : Tm) (n : Nat) (PI : PutInFn w mean mg mb k u t n) (news : List (Addr × Obj)) (v vu : Value) (tkP : Tok) (hR : TIn news v t) (hRu : TIn news vu u) :
    FnT w mean mg mb 210 (n + 8) [v, .int z tkP, vu] news (fun r news' => Told news' r (put k u 0 t) ∧ ∀ p ∈ news, p ∈ news') := by
  subst hz
  exact put_told_ok w mean mg mb k u t n PI news v vu tkP hR hRu
theorem due_z (w : World) (mean : ExcName → Option Value) (mg mb : PySem.Str → Option Value) (t : Tm) (k : Nat) (z : Int) (hz : z = (k : Nat)) (u : Tm) (ht : t.ok) (hu : u.ok) (hT : t.hgt ≤ 3) (hU : u.hgt ≤ 3) (news : List (Addr × Obj)) (v : Value) (tkP : Tok) (vu : Value) (hR : TIn news v t) (hRu : TIn news vu u) :
    Fn w mean mg mb 203 80 [v, .int z tkP, vu] news (fun r news' => Told news' r (due t k u) ∧ (∀ p ∈ news, p ∈ news')) False := by
  subst hz
  exact due_ok w mean mg mb t k u ht hu hT hU news v tkP vu hR hRu
theorem Told.mono {news news' : List (Addr × Obj)} {r : Value} {X : Option Tm} (hs : ∀ p ∈ news, p ∈ news') (h : Told news r X) : Told news' r X := by
  cases X with
  | none => exact h
  | some x => exact TIn.mono hs h
theorem step_told_z (w : World) (mean : ExcName → Option Value) (mg mb : PySem.Str → Option Value) (news : List (Addr × Obj)) (a p : Addr) (t u : Tm) (hR : TIn news (.ref a) (.app .k (.app (.lam t) u))) (h2 : ∃ tkP nP, (p, ({ cls := .type "tuple", data := .seq #[.int 1 tkP] nP } : Obj)) ∈ news) (n : Nat) (PI : PutInFn w mean mg mb 0 u t n) :
    FnT w mean mg mb 217 (n + 20) [.ref a, .ref p] news (fun r news' => Told news' r ((put 0 u 0 t).map (.app .k)) ∧ ∀ p ∈ news, p ∈ news') := by
  obtain ⟨tkP, nP, h2⟩ := h2
  exact step_told_ok w mean mg mb news a p t u nP tkP hR h2 n PI
/-- a display that forks, met once: either way a list of at most 63 ints -/
theorem join_ints {M : Model} {A : Around} {E : Value → Shared → Prop} {s : Shared} {t : Sem Value} {Q : Value → Shared → Prop} {h₀ : Heap} {L : Addr} {mm : PySem.Str → Option Value} {news : List (Addr × Obj)} (F : Fr h₀ L s.heap mm) (N : News h₀ L s.heap news)
    (h1 : ∀ Q' : Value → Shared → Prop, (∀ c ws ns n h' tk' news', Fr h₀ L h' mm → News h₀ L h' news' → (c, ({ cls := .type "list", data := .seq (List.toArray ws) n } : Obj)) ∈ news' → (∀ p ∈ news, p ∈ news') → IntsAre ws ns → ns.length ≤ 63 → Q' (.ref c) { s with heap := h', toks := tk' }) → wpAny M A t Q' E s)
    (h2 : ∀ c ws ns n h' tk' news', Fr h₀ L h' mm → News h₀ L h' news' → (c, ({ cls := .type "list", data := .seq (List.toArray ws) n } : Obj)) ∈ news' → (∀ p ∈ news, p ∈ news') → IntsAre ws ns → ns.length ≤ 63 → @LT.lt Nat _ c h'.objs.size → Q (.ref c) { s with heap := h', toks := tk' }) :
    wpAny M A t Q E s := h1 Q fun c ws ns n h' tk' news' F' N' hm hs hi hl => h2 c ws ns n h' tk' news' F' N' hm hs hi hl (Heap.lt_size (N' _ hm).1)
theorem law_holds : PySem.Challenge.rw_sa0019_01.Holds := hd (by
  k_with_none
  k_fill
  intro w s₀ s₁ mg mb G Y fa o pm cd doc dV kV ho hd hcd hD hmg hg args vals as hpre hlay hrd hwl hlo
  have KX : (kf w.params).In s₁.heap := by
    rw [← kh_kf]
    exact kIn_of Y
  clear Y
  k_behind G ho hd hcd hD hmg hpre hlay hrd hwl hlo cd
  all_goals try k_fold
  (k_with "call type:list" => k_dflt (refine' list_copyKT (by k_asm) (by k_asm) (IsTup.of_lookup (by k_asm) (by k_asm) (by k_is)) ?_ (by decide); intro D' c' h' F' N' l1))
  (k_with "eval IfExp" => k_dflt ((with_reducible show wpAny _ _ (eval (Expr.IfExp _ (Expr.Call _ _ _ _) _ _) _) _ _ _); refine' join_ints ?FJ ?NJ ?h1J ?_; (case FJ => k_asm); (case NJ => k_asm); (case h1J => (intro Q9 hQ9; (with_reducible refine IfExp_ ?_); k_steps; all_goals first
    | exact hQ9 _ _ _ _ _ _ _ (by k_asm) (by k_asm) (List.Mem.head _) (fun p9 h9 => by tb_rel) (by assumption) (by simp only [List.length_take]; omega)
    | exact hQ9 _ _ [0, 5, 3, 5, 1, 0, 1, 2, 1, 0, 1, 3] _ _ _ _ (by k_asm) (by k_asm) (List.Mem.head _) (fun p9 h9 => by tb_rel) (by repeat (first | exact IntsAre.nil | refine IntsAre.cons _ _ ?_)) (by decide))); intro cJ wsJ nsJ nJ hJ tkJ newsJ F' N' hmJ hsJ hiJ hlJ ltJ))
  (k_with "call ref" => k_dflt ((refine' Fn.use (took_ok _ _ _ _ 4 0 (by decide) (by decide) _ _ _ _) (by k_asm) (by k_asm) (by k_asm) (by k_asm) (by k_asm) (by first | exact rfl | assumption) (by (first | k_room | ((have hcL9 := cLine_is); (simp only [depth_under_make, depth_under_kw, depth_in1, depth_deeper, depth_caller, recursionLimit, units_in1, units_deeper, Around.mark_units, units_caller, cLine]); (try dsimp only [ktrTop]); omega))) (by (first | k_room | ((have hcL9 := cLine_is); (simp only [depth_under_make, depth_under_kw, depth_in1, depth_deeper, depth_caller, recursionLimit, units_in1, units_deeper, Around.mark_units, units_caller, cLine]); (try dsimp only [ktrTop]); omega))) ?_ ?_; all_goals (try exact False.elim)); (case _ => exact urn_new (List.Mem.tail _ (List.Mem.head _)) (List.Mem.tail _ (List.Mem.tail _ hmJ)) hiJ hlJ (ne_of_lt_all (by assumption) hmJ).symm); intro r9 news9 h9 tk9 F' N'; revert r9; refine cpsJ ?_; intro j9 u9 lo9 hi9 U9 o9 t9))
  (k_with "call ref" => k_dflt ((refine' Fn.use (drawn_ok _ _ _ _ 3 (0 + 1) (by decide) _ _ _ _ U9 rfl) (by k_asm) (by k_asm) (by k_asm) (by k_asm) (by k_asm) (by first | exact rfl | assumption) (by (first | k_room | ((have hcL9 := cLine_is); (simp only [depth_under_make, depth_under_kw, depth_in1, depth_deeper, depth_caller, recursionLimit, units_in1, units_deeper, Around.mark_units, units_caller, cLine]); (try dsimp only [ktrTop]); omega))) (by (first | k_room | ((have hcL9 := cLine_is); (simp only [depth_under_make, depth_under_kw, depth_in1, depth_deeper, depth_caller, recursionLimit, units_in1, units_deeper, Around.mark_units, units_caller, cLine]); (try dsimp only [ktrTop]); omega))) ?_ ?_; all_goals (try exact False.elim)); intro r8 news8 h8 tk8 F' N'; refine cpsD ?_; intro tA okA hA RA U8 o8 t8))
  (k_with "call ref" => k_dflt ((refine' Fn.use (drawn_ok _ _ _ _ 2 (0 + 1 + dr 3) (by decide) _ _ _ _ U8 rfl) (by k_asm) (by k_asm) (by k_asm) (by k_asm) (by k_asm) (by first | exact rfl | assumption) (by (first | k_room | ((have hcL9 := cLine_is); (simp only [depth_under_make, depth_under_kw, depth_in1, depth_deeper, depth_caller, recursionLimit, units_in1, units_deeper, Around.mark_units, units_caller, cLine]); (try dsimp only [ktrTop]); omega))) (by (first | k_room | ((have hcL9 := cLine_is); (simp only [depth_under_make, depth_under_kw, depth_in1, depth_deeper, depth_caller, recursionLimit, units_in1, units_deeper, Around.mark_units, units_caller, cLine]); (try dsimp only [ktrTop]); omega))) ?_ ?_; all_goals (try exact False.elim)); intro r7 news7 h7 tk7 F' N'; refine cpsD ?_; intro tB okB hB RB U7 o7 t7))
  (k_with "call ref" => k_dflt ((refine' FnT.use (put_told_z _ _ _ _ _ _ (kz _) tB tA _ (put_in_ok _ _ _ _ _ tB tA okB okA) _ _ _ _ _ _) (by k_asm) (by k_asm) (by k_asm) (by k_asm) (by k_asm) (by first | exact rfl | assumption) (by (first | k_room | ((have hcL9 := cLine_is); (simp only [depth_under_make, depth_under_kw, depth_in1, depth_deeper, depth_caller, recursionLimit, units_in1, units_deeper, Around.mark_units, units_caller, cLine]); (try dsimp only [ktrTop]); omega))) (by (first | k_room | ((have hcL9 := cLine_is); (simp only [depth_under_make, depth_under_kw, depth_in1, depth_deeper, depth_caller, recursionLimit, units_in1, units_deeper, Around.mark_units, units_caller, cLine]); (try dsimp only [ktrTop]); omega))) ?_); (first | assumption | (refine TIn.sub ?_ ‹_›; intro p9 h9 t9; tb_rel) | (refine NIn.sub ?_ ‹_›; intro p9 h9 t9; tb_rel) | (refine ListIn.mono ?_ ‹_›; intro p9 h9; tb_rel)); (first | assumption | (refine TIn.sub ?_ ‹_›; intro p9 h9 t9; tb_rel) | (refine NIn.sub ?_ ‹_›; intro p9 h9 t9; tb_rel) | (refine ListIn.mono ?_ ‹_›; intro p9 h9; tb_rel)); intro r6 news6 h6 tk6 F' N'; refine cps2 ?_; intro R6 s6))
  (k_with "call ref" => k_dflt ((refine' Fn.use (due_z _ _ _ _ tA _ _ (kz _) tB okA okB (by omega) (by omega) _ _ _ _ _ _) (by k_asm) (by k_asm) (by k_asm) (by k_asm) (by k_asm) (by first | exact rfl | assumption) (by (first | k_room | ((have hcL9 := cLine_is); (simp only [depth_under_make, depth_under_kw, depth_in1, depth_deeper, depth_caller, recursionLimit, units_in1, units_deeper, Around.mark_units, units_caller, cLine]); (try dsimp only [ktrTop]); omega))) (by (first | k_room | ((have hcL9 := cLine_is); (simp only [depth_under_make, depth_under_kw, depth_in1, depth_deeper, depth_caller, recursionLimit, units_in1, units_deeper, Around.mark_units, units_caller, cLine]); (try dsimp only [ktrTop]); omega))) ?_ ?_; all_goals (try exact False.elim)); (first | assumption | (refine TIn.sub ?_ ‹_›; intro p9 h9 t9; tb_rel) | (refine NIn.sub ?_ ‹_›; intro p9 h9 t9; tb_rel) | (refine ListIn.mono ?_ ‹_›; intro p9 h9; tb_rel)); (first | assumption | (refine TIn.sub ?_ ‹_›; intro p9 h9 t9; tb_rel) | (refine NIn.sub ?_ ‹_›; intro p9 h9 t9; tb_rel) | (refine ListIn.mono ?_ ‹_›; intro p9 h9; tb_rel)); intro r5 news5 h5 tk5 F' N'; refine cps2 ?_; intro R5 s5; rw [due_put tA _ tB okA okB] at R5))
  (k_with "compareOp NotEq" => k_dflt (refine r_ne_told (by k_asm) (Told.mono s5 R6) R5 (fun x e => Nat.le_trans (put_hgt okB okA e) (by omega)) (by (first | k_room | ((have hcL9 := cLine_is); (simp only [depth_under_make, depth_under_kw, depth_in1, depth_deeper, depth_caller, recursionLimit, units_in1, units_deeper, Around.mark_units, units_caller, cLine]); (try dsimp only [ktrTop]); omega))) ?_))
  (k_with "call ref" => k_dflt ((refine' Fn.use (due_z _ _ _ _ tA 0 0 rfl tB okA okB (by omega) (by omega) _ _ _ _ _ _) (by k_asm) (by k_asm) (by k_asm) (by k_asm) (by k_asm) (by first | exact rfl | assumption) (by (first | k_room | ((have hcL9 := cLine_is); (simp only [depth_under_make, depth_under_kw, depth_in1, depth_deeper, depth_caller, recursionLimit, units_in1, units_deeper, Around.mark_units, units_caller, cLine]); (try dsimp only [ktrTop]); omega))) (by (first | k_room | ((have hcL9 := cLine_is); (simp only [depth_under_make, depth_under_kw, depth_in1, depth_deeper, depth_caller, recursionLimit, units_in1, units_deeper, Around.mark_units, units_caller, cLine]); (try dsimp only [ktrTop]); omega))) ?_ ?_; all_goals (try exact False.elim)); (first | assumption | (refine TIn.sub ?_ ‹_›; intro p9 h9 t9; tb_rel) | (refine NIn.sub ?_ ‹_›; intro p9 h9 t9; tb_rel) | (refine ListIn.mono ?_ ‹_›; intro p9 h9; tb_rel)); (first | assumption | (refine TIn.sub ?_ ‹_›; intro p9 h9 t9; tb_rel) | (refine NIn.sub ?_ ‹_›; intro p9 h9 t9; tb_rel) | (refine ListIn.mono ?_ ‹_›; intro p9 h9; tb_rel)); intro r4 news4 h4 tk4 F' N'; refine cps2 ?_; intro R4 s4; rw [due_put tA 0 tB okA okB] at R4; rcases told_cases R4 with ⟨e4, rfl⟩ | ⟨x4, a4, e4, rfl, T4⟩))
  (k_with "call ref" => k_dflt ((refine' FnT.use (step_told_z _ _ _ _ _ _ _ tA tB _ _ _ (put_in_ok _ _ _ _ 0 tB tA okB okA)) (by k_asm) (by k_asm) (by k_asm) (by k_asm) (by k_asm) (by first | exact rfl | assumption) (by (first | k_room | ((have hcL9 := cLine_is); (simp only [depth_under_make, depth_under_kw, depth_in1, depth_deeper, depth_caller, recursionLimit, units_in1, units_deeper, Around.mark_units, units_caller, cLine]); (try dsimp only [ktrTop]); omega))) (by (first | k_room | ((have hcL9 := cLine_is); (simp only [depth_under_make, depth_under_kw, depth_in1, depth_deeper, depth_caller, recursionLimit, units_in1, units_deeper, Around.mark_units, units_caller, cLine]); (try dsimp only [ktrTop]); omega))) ?_); (case _ => exact TIn.app (by tb_rel) (TIn.k (by tb_rel)) (TIn.app (by tb_rel) (TIn.lam (by tb_rel) (by (first | assumption | (refine TIn.sub ?_ ‹_›; intro p9 h9 t9; tb_rel) | (refine NIn.sub ?_ ‹_›; intro p9 h9 t9; tb_rel) | (refine ListIn.mono ?_ ‹_›; intro p9 h9; tb_rel)))) (by (first | assumption | (refine TIn.sub ?_ ‹_›; intro p9 h9 t9; tb_rel) | (refine NIn.sub ?_ ‹_›; intro p9 h9 t9; tb_rel) | (refine ListIn.mono ?_ ‹_›; intro p9 h9; tb_rel))))); (case _ => exact ⟨_, _, List.Mem.head _⟩); intro r3 news3 h3 tk3 F' N'; refine cps2 ?_; intro R3 s3; rw [e4] at R3))
  (k_with "compareOp Eq" => k_dflt (first
    | (refine r_eq_told (X := none) (by k_asm) R3 rfl (fun x e => by cases e) (by (first | k_room | ((have hcL9 := cLine_is); (simp only [depth_under_make, depth_under_kw, depth_in1, depth_deeper, depth_caller, recursionLimit, units_in1, units_deeper, Around.mark_units, units_caller, cLine]); (try dsimp only [ktrTop]); omega))) ?_)
    | (refine r_eq_told (X := some (.app .k x4)) (by k_asm) R3 (TIn.app (by tb_rel) (TIn.k (by tb_rel)) (by (first | assumption | (refine TIn.sub ?_ ‹_›; intro p9 h9 t9; tb_rel) | (refine NIn.sub ?_ ‹_›; intro p9 h9 t9; tb_rel) | (refine ListIn.mono ?_ ‹_›; intro p9 h9; tb_rel)))) (fun x e => by
        cases e
        have := put_hgt okB okA e4
        simp only [Tm.hgt]
        omega) (by (first | k_room | ((have hcL9 := cLine_is); (simp only [depth_under_make, depth_under_kw, depth_in1, depth_deeper, depth_caller, recursionLimit, units_in1, units_deeper, Around.mark_units, units_caller, cLine]); (try dsimp only [ktrTop]); omega))) ?_)))
  k_steps)

end
end Mine
theorem PySem.Challenge.cw_sa0019_01_holds : PySem.Challenge.rw_sa0019_01.Holds :=
  Mine.law_holds
