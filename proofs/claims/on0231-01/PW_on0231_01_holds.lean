import PyProof.Rows.All
import Wide.All
import OpenK.AllK
import Wide.FinOn
import PySem.Challenge.RW_on0231_01
open PySem PySem.W PyProof.Rows PySem.Calls PySem.Spec
set_option Elab.async false
namespace Mine
theorem pre {G A B C : Prop} (hl : A) (hw : B) (hc : C) (k : G) : G := (fun _ _ _ => k) hl hw hc
set_option maxRecDepth 100000 in
set_option maxHeartbeats 8000000 in
/-- proves nothing of use: it has the library's own head lay the view (lay.view_1) and the heap's written part (lay.heap_1) -/
theorem lay (no : False) : PySem.Challenge.rw_on0231_01.Holds := by
  w_on
  refine holds_law no.elim fun said => ?_
  apply pre
  case k => k_head
  case hl => exact no.elim
  case hw => exact no.elim
  case hc => exact no.elim
def places : List Addr := [2, 3, 15, 22, 24, 25, 27, 28, 29, 30, 31, 32, 35, 42, 43, 44, 47, 54, 55, 56, 59, 60, 61, 63, 64, 66, 67, 68, 69, 71, 72, 74, 75, 76, 78, 79, 81, 82, 83, 85, 86, 88, 89, 90, 92, 93, 95, 96, 97, 99, 100, 102, 103, 104, 106, 107, 109, 110, 111, 113, 114, 116, 117, 118, 120, 121, 123, 124, 125, 127, 128, 130, 131, 132, 134, 135, 137, 138, 139, 140, 142, 143, 145, 146, 147, 149, 150, 152, 153, 154, 156, 157, 159, 160, 161, 163, 164, 166, 167, 168, 170, 171, 173, 174, 175, 177, 178, 180, 181, 182, 184, 185, 187, 188, 189, 191, 192, 194, 195, 196, 198, 199, 201, 202, 203, 205, 206, 208, 209, 210, 212, 213, 215, 216, 217, 219, 220, 222, 223, 224, 226, 227, 229, 230, 231, 233, 234, 236, 237, 238, 240, 241, 243, 244, 245, 247, 248, 250, 251, 252, 254, 255, 257, 258, 259, 261, 262, 264, 265]
theorem places_are (P : Params) : places = (lay.heap_1 P).map (·.1) := by kernel_rfl
set_option maxRecDepth 100000 in
theorem saidWell : PySem.Challenge.rw_on0231_01.wellSaid = true := by
  try rw [Fast.te9446332074065402090]
  kernel_rfl
set_option maxRecDepth 100000 in
/-- the text's top, run once by the kernel, in the library's quick twins -/
theorem left : LeftO PySem.Challenge.rw_on0231_01.row.toRowW.prog lay.view_1 [Str.ofString "fraction"] (fun s => xlAt lay.view_1 [] s && recOk PySem.Challenge.rw_on0231_01.row.toRowW.records s) (Hook.obs (kHook lay.heap_1 places places_are)) (Hook.val (kHook lay.heap_1 places places_are)) 3422 := by
  intro w
  delta openEnds topFrom fencedOpening
  try rw [Fast.te14082659384304107361, Fast.te14364793385576792824, Fast.te14289696077712309145, Fast.te1435165496053646825, Fast.te10274390034422433532, Fast.te4187177175401517315]
  kernel_rfl
set_option maxRecDepth 100000 in
set_option maxHeartbeats 8000000 in
def hd := fun walk => holds_law saidWell fun said => holds_open (YP := Hook.says (kHook lay.heap_1 places places_are)) left (Hook.of _) (Hook.keeps _) (fun s e => xl_of s (Bool.and_eq_true_iff.mp e).1) XL.keeps (by rfl) (by rfl) (by rfl) (fun s e => recFacts_of (Bool.and_eq_true_iff.mp e).2) (by rfl) said (by decide +kernel) ⟨rfl, rfl, rfl, rfl, rfl, by decide +kernel⟩ (by w_witness2) walk

/-- a call of the def at `f` by any frame of the text's, with the ledger `news`; what comes back obeys `ret` -/
def Pass (w : World) (mean : ExcName → Option Value) (mg mb : Str → Option Value) (f : Addr) (need : Nat) (vs : List Value) (news : List (Addr × Obj)) (pre : Heap → Prop)
    (ret : Heap → Value → List (Addr × Obj) → Prop) : Prop :=
  ∀ (dp un : Nat) (gd : Option (List Code)) (cn : Str) (cs : Scope) (a : Addr) (ccd : Value) (cl : List (Str × Addr)) (outer : List Env) (A₀ : Around) (base h₀ : Heap) (L : Addr) (m : Str → Option Value) (s : Shared) (Q E : Value → Shared → Prop),
    Below A₀ base outer h₀ → Fr h₀ L s.heap m → (lay.heap_1 w.params).In h₀ → News h₀ L s.heap news → Top lay.view_1 (looseW lay.view_1 [Str.ofString "fraction"]) mean mg mb h₀ → cs.kind = .function → pre h₀ →
    dp + need < recursionLimit → un + 8 * need < cLine →
    (∀ r news' h' tk', Fr h₀ L h' m → News h₀ L h' news' → ret h₀ r news' → Q r { s with heap := h', toks := tk' }) →
    wpAny (model PySem.Challenge.rw_on0231_01.row.prog w) (ktrTop dp un gd cn cs L a ccd cl outer) (call (.ref f) vs) Q E s

theorem Pass.use {w : World} {mean : ExcName → Option Value} {mg mb : Str → Option Value} {f : Addr} {need : Nat} {vs : List Value} {news : List (Addr × Obj)} {pre : Heap → Prop}
    {ret : Heap → Value → List (Addr × Obj) → Prop} {dp un : Nat} {gd : Option (List Code)} {cn : Str} {cs : Scope} {a : Addr} {ccd : Value} {cl : List (Str × Addr)} {outer : List Env} {A₀ : Around} {base h₀ : Heap} {L : Addr} {m : Str → Option Value} {s : Shared} {Q E : Value → Shared → Prop}
    (B : Below A₀ base outer h₀) (F : Fr h₀ L s.heap m) (X : (lay.heap_1 w.params).In h₀) (N : News h₀ L s.heap news) (T : Top lay.view_1 (looseW lay.view_1 [Str.ofString "fraction"]) mean mg mb h₀) (hk : cs.kind = .function)
    (C : Pass w mean mg mb f need vs news pre ret) (hp : pre h₀)
    (hd : dp + need < recursionLimit) (hu : un + 8 * need < cLine)
    (h : ∀ r news' h' tk', Fr h₀ L h' m → News h₀ L h' news' → ret h₀ r news' → Q r { s with heap := h', toks := tk' }) :
    wpAny (model PySem.Challenge.rw_on0231_01.row.prog w) (ktrTop dp un gd cn cs L a ccd cl outer) (call (.ref f) vs) Q E s :=
  C _ _ _ _ _ _ _ _ _ _ _ _ _ _ _ _ _ B F X N T hk hp hd hu h
theorem words01 : True := by
  k_with_none
  trivial
/-! what comes back -/
abbrev tup2 (x : Int) (t : Tok) (y : Int) (u : Tok) : Obj := { cls := .type "tuple", data := .seq #[.int x t, .int y u] }
def RI (news : List (Addr × Obj)) (v : Int) (_ : Heap) (r : Value) (news' : List (Addr × Obj)) : Prop := news' = news ∧ ∃ t, r = .int v t
def RB (news : List (Addr × Obj)) (b : Bool) (_ : Heap) (r : Value) (news' : List (Addr × Obj)) : Prop := news' = news ∧ r = .bool b
def RN (news : List (Addr × Obj)) (_ : Heap) (r : Value) (news' : List (Addr × Obj)) : Prop := news' = news ∧ r = .none
def R2 (news : List (Addr × Obj)) (x y : Int) (_ : Heap) (r : Value) (news' : List (Addr × Obj)) : Prop :=
  ∃ a t u, r = .ref a ∧ news' = (a, tup2 x t y u) :: news ∧ ∀ p ∈ news, p.1 < a

structure Here (w : World) (mean : ExcName → Option Value) (mg mb : Str → Option Value) (A₀ : Around) (base : Heap) (outer : List Env) (h₀ : Heap) (L : Addr) (m : Str → Option Value) (news : List (Addr × Obj)) (s : Shared) (cs : Scope) : Prop where
  B : Below A₀ base outer h₀
  F : Fr h₀ L s.heap m
  X : (lay.heap_1 w.params).In h₀
  N : News h₀ L s.heap news
  T : Top lay.view_1 (looseW lay.view_1 [Str.ofString "fraction"]) mean mg mb h₀
  hk : cs.kind = .function
theorem room_0 {dp b : Nat} (h : dp + b < recursionLimit) : dp < recursionLimit := Nat.lt_of_le_of_lt (Nat.le_add_right ..) h
theorem room_in {D U dp un a b : Nat} (h1 : dp + b < recursionLimit) (h2 : un + 8 * b < cLine) (hD : D = dp + 1) (hU : U = un + 3) (hab : Nat.ble (a + 1) b = true) : D + a < recursionLimit ∧ U + 8 * a < cLine := by
  have := Nat.le_of_ble_eq_true hab
  constructor <;> omega
theorem forget_tk {M : Model} {A : Around} {α : Type} {t : Sem α} {Q : α → Shared → Prop} {E : Value → Shared → Prop} {h : Heap} {g : Array GenState} {d : Drawn} {X : Nat} {os : OsState} (H : ∀ tk, wpAny M A t Q E ⟨h, g, d, tk, os⟩) : wpAny M A t Q E ⟨h, g, d, X + 1, os⟩ := H _
theorem forget {M : Model} {A : Around} {α : Type} {t : Sem α} {Q : α → Shared → Prop} {E : Value → Shared → Prop} {S : Shared} {h₀ h : Heap} {L : Addr} {m : Str → Option Value} (_ : Fr h₀ L h m) (g : Array GenState) (d : Drawn) (os : OsState)
    (e1 : S.heap = h) (e2 : S.gens = g) (e3 : S.drawn = d) (e4 : S.os = os) (H : ∀ tk, wpAny M A t Q E ⟨h, g, d, tk, os⟩) : wpAny M A t Q E S := by
  subst e1 e2 e3 e4
  exact H S.toks
section
variable {w : World} {mean : ExcName → Option Value} {mg mb : Str → Option Value} {f : Addr} {need : Nat} {vs : List Value} {news : List (Addr × Obj)} {pre : Heap → Prop}
    {dp un : Nat} {gd : Option (List Code)} {cn : Str} {cs : Scope} {a : Addr} {ccd : Value} {cl : List (Str × Addr)} {outer : List Env} {A₀ : Around} {base h₀ : Heap} {L : Addr} {m : Str → Option Value} {s : Shared} {Q E : Value → Shared → Prop}

theorem Pass.useI {v : Int} 
    (H : Here w mean mg mb A₀ base outer h₀ L m news s cs) (hp : pre h₀) (C : Pass w mean mg mb f need vs news pre (RI news v)) (hr : dp + need < recursionLimit ∧ un + 8 * need < cLine)
    (h : ∀ t h' tk', Fr h₀ L h' m → News h₀ L h' news → Q (.int v t) { s with heap := h', toks := tk' }) :
    wpAny (model PySem.Challenge.rw_on0231_01.row.prog w) (ktrTop dp un gd cn cs L a ccd cl outer) (call (.ref f) vs) Q E s :=
  C.use H.B H.F H.X H.N H.T H.hk hp hr.1 hr.2 fun r news' h' tk' F' N' hR => by
    obtain ⟨rfl, t, rfl⟩ := hR
    exact h t h' tk' F' N'
theorem Pass.useB {v : Bool} 
    (H : Here w mean mg mb A₀ base outer h₀ L m news s cs) (hp : pre h₀) (C : Pass w mean mg mb f need vs news pre (RB news v)) (hr : dp + need < recursionLimit ∧ un + 8 * need < cLine)
    (h : ∀ h' tk', Fr h₀ L h' m → News h₀ L h' news → Q (.bool v) { s with heap := h', toks := tk' }) :
    wpAny (model PySem.Challenge.rw_on0231_01.row.prog w) (ktrTop dp un gd cn cs L a ccd cl outer) (call (.ref f) vs) Q E s :=
  C.use H.B H.F H.X H.N H.T H.hk hp hr.1 hr.2 fun r news' h' tk' F' N' hR => by
    obtain ⟨rfl, rfl⟩ := hR
    exact h h' tk' F' N'
theorem Pass.use2 {x y : Int} 
    (H : Here w mean mg mb A₀ base outer h₀ L m news s cs) (hp : pre h₀) (C : Pass w mean mg mb f need vs news pre (R2 news x y)) (hr : dp + need < recursionLimit ∧ un + 8 * need < cLine)
    (h : ∀ D t u h' tk', Fr h₀ L h' m → News h₀ L h' ((D, tup2 x t y u) :: news) → (∀ p ∈ news, p.1 < D) → Q (.ref D) { s with heap := h', toks := tk' }) :
    wpAny (model PySem.Challenge.rw_on0231_01.row.prog w) (ktrTop dp un gd cn cs L a ccd cl outer) (call (.ref f) vs) Q E s :=
  C.use H.B H.F H.X H.N H.T H.hk hp hr.1 hr.2 fun r news' h' tk' F' N' hR => by
    obtain ⟨D, t, u, rfl, rfl, hl⟩ := hR
    exact h D t u h' tk' F' N' hl

/-! how a way ends -/
theorem retI {v x : Int} {t : Tok} {h' : Heap} {tk' : Nat} {news'' : List (Addr × Obj)} (hret : ∀ r news' h' tk', Fr h₀ L h' m → News h₀ L h' news' → RI news v h₀ r news' → Q r { s with heap := h', toks := tk' })
    (F : Fr h₀ L h' m) (N : News h₀ L h' news'') (hs : ∀ p ∈ news, p ∈ news'') (e : x = v) : Q (.int x t) { s with heap := h', toks := tk' } :=
  hret _ _ _ _ F (cb_drop N hs) ⟨rfl, t, by rw [e]⟩
theorem retB {v x : Bool} {h' : Heap} {tk' : Nat} {news'' : List (Addr × Obj)} (hret : ∀ r news' h' tk', Fr h₀ L h' m → News h₀ L h' news' → RB news v h₀ r news' → Q r { s with heap := h', toks := tk' })
    (F : Fr h₀ L h' m) (N : News h₀ L h' news'') (hs : ∀ p ∈ news, p ∈ news'') (e : x = v) : Q (.bool x) { s with heap := h', toks := tk' } :=
  hret _ _ _ _ F (cb_drop N hs) ⟨rfl, by rw [e]⟩
theorem ret2 {x y x' y' : Int} {t u : Tok} {a : Addr} {h' : Heap} {tk' : Nat} {news'' : List (Addr × Obj)} (hret : ∀ r news' h' tk', Fr h₀ L h' m → News h₀ L h' news' → R2 news x y h₀ r news' → Q r { s with heap := h', toks := tk' })
    (F : Fr h₀ L h' m) (N : News h₀ L h' news'') (hm : (a, tup2 x' t y' u) ∈ news'') (hs : ∀ p ∈ news, p ∈ news'') (hl : ∀ p ∈ news, p.1 < a) (e1 : x' = x) (e2 : y' = y) : Q (.ref a) { s with heap := h', toks := tk' } := by
  subst e1 e2
  refine hret _ ((a, tup2 x' t y' u) :: news) _ _ F (cb_drop N fun p hp => ?_) ⟨a, t, u, rfl, rfl, hl⟩
  rcases List.mem_cons.mp hp with rfl | hp
  · exact hm
  · exact hs p hp
end

local macro_rules | `(tactic| walk_at $s:str) => `(tactic| k_extra $s)
local macro_rules | `(tactic| ktr_room) => `(tactic| exact room_0 (by with_reducible assumption))
local macro_rules | `(tactic| ktr_enter) => `(tactic| (refine' code_def ?k1 ?k2 ?k3 ?k4 ?k5 ?kA ?kF ?kK ?k6 ?k7 ?k8 ?k9 ?kB ?_ ?c2 ?c3 ?c4 ?c5; (case kA => exact rfl); (case kF => exact rfl); (case kK => first | exact rfl | assumption); (case k1 => k_asm); (case k2 => k_asm); (case k3 => k_asm); (case k4 => k_asm); (case k5 => k_asm); (case k6 => k_is); (case k7 => k_is); (case k8 => ktr_room); (case k9 => first | exact BindsTo.of_eq rfl | exact binds_K (by k_in) rfl (by k_is) rfl rfl rfl); (case c5 => decide); (case kB => exact locs rfl); (case c2 => exact rfl); (case c3 => exact rfl); (case c4 => exact rfl); k_whole; intro g' L' h' FG' F' N' B' X' T'; (try dsimp only); (try k_fold)))
theorem reg101 : True := by
  k_with "q" => (first | with_reducible assumption | omega)
  k_with "p0" => (exact trivial)
  k_with "p1" => (walk_at "tup")
  k_with "p2" => (exact ⟨by walk_at "tup", by walk_at "tup"⟩)
  k_with "u" => (exact ⟨by k_asm, by k_asm, by k_asm, by k_asm, by k_asm, by first | exact rfl | assumption⟩)
  k_with "r" => (first | exact room_in (by with_reducible assumption) (by with_reducible assumption) rfl rfl rfl | exact ⟨by ktr_room, by ktr_units⟩)
  k_with "e" => (((try k_sweep); (try dsimp only); (try k_fold)))
  k_with "e2" => ((intro D9 t9 u9 h' tk9 F' N' l1; (try k_lt l1); k_extra "e"))
  k_with "eI" => ((intro t9 h' tk9 F' N'; k_extra "e"))
  k_with "eB" => ((intro h' tk9 F' N'; k_extra "e"))
  k_with "eN" => ((intro h' tk9 F' N'; k_extra "e"))
  k_with "eO" => ((intro D9 h' tk9 F' N' T9 T9b; k_extra "e"))
  k_with "forget" => ((k_here; (with_reducible show wpAny _ _ _ _ _ (Shared.mk _ _ _ (_ + 1) _)); (first | k_dflt (refine forget (by with_reducible assumption) (by with_reducible assumption) (by with_reducible assumption) (by with_reducible assumption) (by rfl) (by rfl) (by rfl) (by rfl) ?_) | with_reducible refine forget_tk ?_); intro tk9))
  k_with "execs cons" => (k_extra "forget")
  k_with "execs nil" => (k_extra "forget")
  trivial
theorem words02 : True := by
  k_with_none
  k_with "q" => (first | with_reducible assumption | omega)
  k_with "p0" => (exact trivial)
  k_with "p1" => (walk_at "tup")
  k_with "p2" => (exact ⟨by walk_at "tup", by walk_at "tup"⟩)
  k_with "u" => (exact ⟨by k_asm, by k_asm, by k_asm, by k_asm, by k_asm, by first | exact rfl | assumption⟩)
  k_with "r" => (first | exact room_in (by with_reducible assumption) (by with_reducible assumption) rfl rfl rfl | exact ⟨by ktr_room, by ktr_units⟩)
  k_with "e" => (((try k_sweep); (try dsimp only); (try k_fold)))
  k_with "e2" => ((intro D9 t9 u9 h' tk9 F' N' l1; (try k_lt l1); k_extra "e"))
  k_with "eI" => ((intro t9 h' tk9 F' N'; k_extra "e"))
  k_with "eB" => ((intro h' tk9 F' N'; k_extra "e"))
  k_with "eN" => ((intro h' tk9 F' N'; k_extra "e"))
  k_with "eO" => ((intro D9 h' tk9 F' N' T9 T9b; k_extra "e"))
  k_with "forget" => ((k_here; (with_reducible show wpAny _ _ _ _ _ (Shared.mk _ _ _ (_ + 1) _)); (first | k_dflt (refine forget (by with_reducible assumption) (by with_reducible assumption) (by with_reducible assumption) (by with_reducible assumption) (by rfl) (by rfl) (by rfl) (by rfl) ?_) | with_reducible refine forget_tk ?_); intro tk9))
  k_with "execs cons" => (k_extra "forget")
  k_with "execs nil" => (k_extra "forget")
  trivial
/-! gcd -/
def CdP (x y f s : Int) : Prop := 0 ≤ f ∧ 0 ≤ s ∧ Int.gcd f s = Int.gcd x y
theorem gcd_fmod (f : Int) {s : Int} (h : 0 ≤ s) : Int.gcd s (f % s) = Int.gcd f s := by
  have e := Int.emod_def f s
  rw [e, Int.gcd_comm f s]
  have : f - s * (f / s) = f + s * (-(f / s)) := by rw [Int.mul_neg]; omega
  rw [this, Int.gcd_add_mul_left_right]
theorem cd_start {x y : Int} (hy : 0 ≤ y) : CdP x y (if x < 0 then -x else x) y := by
  refine ⟨by split <;> omega, hy, ?_⟩
  split
  · rw [Int.neg_gcd]
  · rfl
theorem cd_turn {x y f s : Int} (h : CdP x y f s) (hs : 0 < s) : CdP x y s (f.fmod s) := by
  obtain ⟨h1, h2, h3⟩ := h
  have e : f.fmod s = f % s := Int.fmod_eq_emod_of_nonneg _ h2
  refine ⟨h2, by rw [e]; exact Int.emod_nonneg _ (by omega), ?_⟩
  rw [← h3, e, gcd_fmod f h2]
theorem cd_less {x y f s : Int} (h : CdP x y f s) (hs : 0 < s) : (f.fmod s).toNat < s.toNat := by
  have e : f.fmod s = f % s := Int.fmod_eq_emod_of_nonneg _ h.2.1
  have := Int.emod_lt_of_pos f hs
  have := Int.emod_nonneg f (b := s) (by omega)
  omega
theorem cd_end {x y f s : Int} (h : CdP x y f s) (hs : ¬ 0 < s) : f = Int.gcd x y := by
  obtain ⟨h1, h2, h3⟩ := h
  have : s = 0 := by omega
  subst this
  rw [← h3, Int.gcd_zero_right]
  omega
set_option maxRecDepth 100000 in
set_option maxHeartbeats 8000000 in
theorem cd_pass {w mean mg mb news} {x y : Int} {tx ty : Tok} (hy : 0 ≤ y) :
    Pass w mean mg mb 67 1 [.int x tx, .int y ty] news (fun _ => True) (RI news (Int.gcd x y)) := by
  unfold Pass
  k_fill
  intro dp un gd cn cs a ccd cl outer A₀ base h₀ L m s Q E B F X N T hk hpre hdd hu hret
  obtain ⟨hp, gs, dr, tk, os⟩ := s
  dsimp only at F N
  k_with "exec While Compare cons nil" => (k_while (fun _ f s => CdP x y f s) (fun _ _ s => s.toNat) "first" "second")
  k_with "state" => (first | exact cd_start (by assumption) | (exact cd_turn (by assumption) (by assumption)))
  k_with "measure" => (exact cd_less (by assumption) (by assumption))
  refine wpAny_call ?_
  k_dflt ktr_enter
  k_steps
  exact retI hret (by k_asm) (by k_asm) (by kcj_all) (cd_end (by assumption) (by assumption))
def nm (t b : Int) : Int × Int := (t / Int.gcd t b, b / Int.gcd t b)
theorem nm_gcd {t b : Int} (hb : 0 < b) : 0 < (Int.gcd t b : Int) := by
  have := Int.gcd_pos_of_ne_zero_right t (b := b) (by omega)
  omega
theorem fd {a g : Int} (h : 0 < g) : a.fdiv g = a / g := Int.fdiv_eq_ediv_of_nonneg _ (by omega)
theorem reg201 : True := by
  k_with "call ref" => ((k_here; (with_reducible show wpAny _ _ (call (Value.ref 67) _) _ _ _); k_dflt (refine Pass.useI (by k_extra "u") (by k_extra "p0") (cd_pass (by k_extra "q")) (by k_extra "r") ?_; k_whole); k_extra "eI"))
  trivial
theorem small_log {b : Int} (h1 : -1000000000000000000000000000000 < b) (h2 : b < 1000000000000000000000000000000) : b.natAbs.log2 < 9000 := by
  by_cases h0 : b.natAbs = 0
  · rw [h0]; decide
  · refine (Nat.log2_lt h0).mpr (Nat.lt_of_lt_of_le (m := 2 ^ 200) (by omega) (Nat.pow_le_pow_right (by decide) (by decide)))
local macro_rules | `(tactic| walk_at "binaryOp FloorDiv int int") => `(tactic| (k_here; (with_reducible refine floordiv_int ?kbe ?_ (Or.inl (PyProof.noPylong_of_log2 (small_log ?kb1 ?kb2)))); (case kbe => omega); (case kb1 => omega); (case kb2 => omega)))
set_option maxRecDepth 100000 in
set_option maxHeartbeats 8000000 in
theorem fr_pass {w mean mg mb news} {x y : Int} {tx ty : Tok} (hy : 0 < y) (hb : y < 1000000000000000000000000000000) :
    Pass w mean mg mb 75 2 [.int x tx, .int y ty] news (fun _ => True) (R2 news (nm x y).1 (nm x y).2) := by
  have hg := nm_gcd (t := x) hy
  have hg2 : (Int.gcd x y : Int) < 1000000000000000000000000000000 := Int.lt_of_le_of_lt (Int.le_of_dvd hy (Int.gcd_dvd_right ..)) hb
  unfold Pass
  k_fill
  intro dp un gd cn cs a ccd cl outer A₀ base h₀ L m s Q E B F X N T hk hpre hdd hu hret
  obtain ⟨hp, gs, dr, tk, os⟩ := s
  dsimp only at F N
  refine wpAny_call ?_
  k_dflt ktr_enter
  k_steps
  · exfalso; omega
  · exact ret2 hret (by k_asm) (by k_asm) (by k_mem) (by kcj_all) (by first | assumption | exact ktn_ltOf (And.right (by assumption)) | exact ktn_ltOf (And.right (And.right (by assumption))) | exact ktn_ltOf (And.right (And.right (And.right (by assumption)))) | exact ktn_ltOf (by assumption)) (fd hg) (fd hg)
theorem words03 : True := by
  k_with_none
  k_with "q" => (first | with_reducible assumption | omega)
  k_with "p0" => (exact trivial)
  k_with "p1" => (walk_at "tup")
  k_with "p2" => (exact ⟨by walk_at "tup", by walk_at "tup"⟩)
  k_with "u" => (exact ⟨by k_asm, by k_asm, by k_asm, by k_asm, by k_asm, by first | exact rfl | assumption⟩)
  k_with "r" => (first | exact room_in (by with_reducible assumption) (by with_reducible assumption) rfl rfl rfl | exact ⟨by ktr_room, by ktr_units⟩)
  k_with "e" => (((try k_sweep); (try dsimp only); (try k_fold)))
  k_with "e2" => ((intro D9 t9 u9 h' tk9 F' N' l1; (try k_lt l1); k_extra "e"))
  k_with "eI" => ((intro t9 h' tk9 F' N'; k_extra "e"))
  k_with "eB" => ((intro h' tk9 F' N'; k_extra "e"))
  k_with "eN" => ((intro h' tk9 F' N'; k_extra "e"))
  k_with "eO" => ((intro D9 h' tk9 F' N' T9 T9b; k_extra "e"))
  k_with "forget" => ((k_here; (with_reducible show wpAny _ _ _ _ _ (Shared.mk _ _ _ (_ + 1) _)); (first | k_dflt (refine forget (by with_reducible assumption) (by with_reducible assumption) (by with_reducible assumption) (by with_reducible assumption) (by rfl) (by rfl) (by rfl) (by rfl) ?_) | with_reducible refine forget_tk ?_); intro tk9))
  k_with "execs cons" => (k_extra "forget")
  k_with "execs nil" => (k_extra "forget")
  k_with "call ref" => ((k_here; (with_reducible show wpAny _ _ (call (Value.ref 67) _) _ _ _); k_dflt (refine Pass.useI (by k_extra "u") (by k_extra "p0") (cd_pass (by k_extra "q")) (by k_extra "r") ?_; k_whole); k_extra "eI"))
  trivial
/-! a tuple of two ints, of the caller's or of those below it -/
def TupIn (h₀ : Heap) (news : List (Addr × Obj)) (a : Addr) (x y : Int) : Prop :=
  (∃ t u, IsTup h₀ a #[.int x t, .int y u]) ∨ ∃ t u, (a, tup2 x t y u) ∈ news
theorem TupIn.at {h₀ h : Heap} {L a : Addr} {m : Str → Option Value} {news : List (Addr × Obj)} {x y : Int} (T : TupIn h₀ news a x y) (F : Fr h₀ L h m) (N : News h₀ L h news) : ∃ t u, IsTup h a #[.int x t, .int y u] := by
  rcases T with ⟨t, u, T⟩ | ⟨t, u, T⟩
  · exact ⟨t, u, F.tup T⟩
  · exact ⟨t, u, _, (N _ T).1, rfl, _, rfl⟩
theorem TupIn.cons {h₀ : Heap} {news : List (Addr × Obj)} {p : Addr × Obj} {a : Addr} {x y : Int} (T : TupIn h₀ news a x y) : TupIn h₀ (p :: news) a x y :=
  T.imp id fun ⟨t, u, h⟩ => ⟨t, u, .tail _ h⟩
theorem TupIn.head {h₀ : Heap} {news : List (Addr × Obj)} {a : Addr} {x y : Int} {t u : Tok} : TupIn h₀ ((a, tup2 x t y u) :: news) a x y := .inr ⟨t, u, .head _⟩
theorem TupIn.into {h₀ g : Heap} {L : Addr} {m : Str → Option Value} {news : List (Addr × Obj)} {a : Addr} {x y : Int} (T : TupIn h₀ news a x y) (F : Fr h₀ L g m) : TupIn g news a x y :=
  T.imp (fun ⟨t, u, h⟩ => ⟨t, u, F.tup h⟩) id
theorem TupIn.sub {h₀ : Heap} {news news' : List (Addr × Obj)} {a : Addr} {x y : Int} (T : TupIn h₀ news a x y) (h : ∀ p ∈ news, p ∈ news') : TupIn h₀ news' a x y :=
  T.imp id fun ⟨t, u, i⟩ => ⟨t, u, h _ i⟩
section
variable {prog : Program} {w : World} {A : Around} {E : Value → Shared → Prop} {s : Shared} {h₀ : Heap} {L a : Addr} {m : Str → Option Value} {news : List (Addr × Obj)} {x y : Int} {value slice : PySem.Expr} {Q : Value → Shared → Prop}
def pick2 (k x y : Int) : Option Int := if k = 0 then some x else if k = 1 then some y else none
theorem tin {k : Int} {kt : Tok} {v : Int} (F : Fr h₀ L s.heap m) (N : News h₀ L s.heap news) (T : TupIn h₀ news a x y) (hv : pick2 k x y = some v) (h : ∀ t, Q (.int v t) s)
    (hs : subscripted slice false (.ref a) (.int k kt) = operate [.ref a, .int k kt] (getItem (.ref a) (.int k kt)) := by with_unfolding_all rfl) :
    wpAny (model prog w) A (subscriptTail value slice (.ref a) (.int k kt)) Q E s := by
  obtain ⟨t, u, T⟩ := T.at F N
  unfold pick2 at hv
  split at hv
  · rename_i e
    subst e
    obtain rfl := Option.some.inj hv
    exact item_tupleT T (by decide) (by decide) rfl rfl (h t) hs
  · split at hv
    · rename_i e
      subst e
      obtain rfl := Option.some.inj hv
      exact item_tupleT T (by decide) (by decide) rfl rfl (h u) hs
    · cases hv
end
local macro_rules | `(tactic| walk_at "tup") => `(tactic| ((with_reducible show TupIn _ _ _ _ _); first | with_reducible assumption | exact TupIn.head | (refine' TupIn.cons ?tt; (case tt => walk_at "tup")) | fail "tup: none"))
theorem reg301 : True := by
  k_with "subscriptTail Name Constant ref int" => ((k_here; k_dflt (refine tin (by k_asm) (by k_asm) (by walk_at "tup") (by rfl) ?_; k_whole); intro t9))
  k_with "call ref" => ((k_here; (with_reducible show wpAny _ _ (call (Value.ref 75) _) _ _ _); k_dflt (refine Pass.use2 (by k_extra "u") (by k_extra "p0") (fr_pass (by k_extra "q") (by k_extra "q")) (by k_extra "r") ?_; k_whole); k_extra "e2"))
  trivial
/-! expressions of ints, evaluated at one step -/
structure EvC where
  prog : Program
  w : World
  A : Around
  cn : Str
  cs : Scope
  L : Addr
  a : Addr
  ccd : Value
  cl : List (Str × Addr)
  h₀ : Heap
  m : Str → Option Value
  news : List (Addr × Obj)
def EvI (c : EvC) (e : PySem.Expr) (v : Int) : Prop :=
  ∀ (s : Shared) (Q E : Value → Shared → Prop), Fr c.h₀ c.L s.heap c.m → News c.h₀ c.L s.heap c.news → (∀ t tk, Q (.int v t) { s with toks := tk }) → wpAny (model c.prog c.w) c.A (eval e (envX c.cn c.cs c.L c.a c.ccd c.cl)) Q E s
section
variable {c : EvC} {l r : PySem.Expr} {p p' p'' : Pos} {a b : Int} {x : Str} {t : Tok}
theorem EvI.name (hv : c.m x = some (.int a t)) (hk : c.cs.kind = .function) (hx : (envX c.cn c.cs c.L c.a c.ccd c.cl).kindOf x = some .local) (hd : (x == ("__debug__" : Str)) = false) : EvI c (.Name x p) a :=
  fun _ _ _ F _ h => nameX_L F hv (h t _) hk hx hd
theorem EvI.lit {k : Nat} : EvI c (.Constant (.int a) k p) a := fun _ _ _ _ _ h => wpAny_Constant_int (h _ _)
theorem EvI.mul (h1 : EvI c l a) (h2 : EvI c r b) (ok : IntMulOk a b) : EvI c (.BinOp l .Mult r p) (a * b) :=
  fun s _ _ F N h => wpAny_BinOp (h1 s _ _ F N fun _ _ => h2 _ _ _ F N fun _ _ => mul_int (h _ _) ok)
theorem EvI.add (h1 : EvI c l a) (h2 : EvI c r b) : EvI c (.BinOp l .Add r p) (a + b) :=
  fun s _ _ F N h => wpAny_BinOp (h1 s _ _ F N fun _ _ => h2 _ _ _ F N fun _ _ => add_int (h _ _))
theorem EvI.sub (h1 : EvI c l a) (h2 : EvI c r b) : EvI c (.BinOp l .Sub r p) (a - b) :=
  fun s _ _ F N h => wpAny_BinOp (h1 s _ _ F N fun _ _ => h2 _ _ _ F N fun _ _ => sub_int (h _ _))
theorem EvI.item {k : Int} {kn : Nat} {d : Addr} {u v : Int} (hv : c.m x = some (.ref d)) (hk : c.cs.kind = .function) (hx : (envX c.cn c.cs c.L c.a c.ccd c.cl).kindOf x = some .local) (hd : (x == ("__debug__" : Str)) = false) (T : TupIn c.h₀ c.news d u v) (hp : pick2 k u v = some a) :
    EvI c (.Subscript (.Name x p) (.Constant (.int k) kn p') p'') a :=
  fun s _ _ F N h => Subscript_ (nameX_L F hv (wpAny_Constant_int (tin F N T hp fun t => h t _)) hk hx hd)
end
theorem evi_use {prog : Program} {w : World} {A : Around} {cn : Str} {cs : Scope} {L a : Addr} {ccd : Value} {cl : List (Str × Addr)} {h₀ : Heap} {m : Str → Option Value} {news : List (Addr × Obj)} {e : PySem.Expr} {v : Int} {s : Shared} {Q E : Value → Shared → Prop}
    (F : Fr h₀ L s.heap m) (N : News h₀ L s.heap news) (h1 : EvI ⟨prog, w, A, cn, cs, L, a, ccd, cl, h₀, m, news⟩ e v) (h : ∀ t tk, Q (.int v t) { s with toks := tk }) : wpAny (model prog w) A (eval e (envX cn cs L a ccd cl)) Q E s := h1 s Q E F N h
theorem reg302 : True := by
  k_with "evi" => ((first | with_reducible exact EvI.lit | ((with_reducible show EvI _ (PySem.Expr.Subscript _ _ _) _); k_dflt (exact EvI.item (by exact rfl) (by exact rfl) (by exact rfl) (by exact rfl) (by walk_at "tup") (by exact rfl))) | ((with_reducible show EvI _ (PySem.Expr.Name _ _) _); k_dflt (exact EvI.name (by exact rfl) (by exact rfl) (by exact rfl) (by exact rfl))) | ((with_reducible show EvI _ (PySem.Expr.BinOp _ Operator.Mult _ _) _); with_reducible exact EvI.mul (by k_extra "evi") (by k_extra "evi") (by k_dflt mul_fits)) | ((with_reducible show EvI _ (PySem.Expr.BinOp _ Operator.Add _ _) _); with_reducible exact EvI.add (by k_extra "evi") (by k_extra "evi")) | ((with_reducible show EvI _ (PySem.Expr.BinOp _ Operator.Sub _ _) _); with_reducible exact EvI.sub (by k_extra "evi") (by k_extra "evi"))))
  k_with "eval BinOp" => ((k_here; k_dflt (refine evi_use (by k_asm) (by k_asm) (by k_extra "evi") ?_; k_whole); intro t9 tk9; (try dsimp only)))
  trivial
theorem mul_lt {a b : Int} (ha : 0 ≤ a) (hb : 0 ≤ b) (h1 : a < 1000000000000000) (h2 : b < 1000000000000000) : a * b < 1000000000000000000000000000000 := by
  have h3 : a * b ≤ 1000000000000000 * b := Int.mul_le_mul_of_nonneg_right (by omega) hb
  omega
set_option maxRecDepth 100000 in
set_option maxHeartbeats 8000000 in
theorem plus_pass {w mean mg mb news} {a b : Addr} {a0 a1 b0 b1 : Int} (ha : 0 < a1) (hb : 0 < b1) (ha0 : -1000000000000000 < a0 ∧ a0 < 1000000000000000) (hb0 : -1000000000000000 < b0 ∧ b0 < 1000000000000000) (ha1 : a1 < 1000000000000000) (hb1 : b1 < 1000000000000000) :
    Pass w mean mg mb 82 3 [.ref a, .ref b] news (fun h₀ => TupIn h₀ news a a0 a1 ∧ TupIn h₀ news b b0 b1) (R2 news (nm (a0 * b1 + b0 * a1) (a1 * b1)).1 (nm (a0 * b1 + b0 * a1) (a1 * b1)).2) := by
  have hp : 0 < a1 * b1 := Int.mul_pos ha hb
  have hq : a1 * b1 < 1000000000000000000000000000000 := mul_lt (by omega) (by omega) ha1 hb1
  unfold Pass
  k_fill
  intro dp un gd cn cs a ccd cl outer A₀ base h₀ L m s Q E B F X N T hk hpre hdd hu hret
  obtain ⟨hp, gs, dr, tk, os⟩ := s
  dsimp only at F N
  obtain ⟨hp1, hp2⟩ := hpre
  refine wpAny_call ?_
  k_dflt ktr_enter
  rename Fr h₀ L _ m => FG
  replace hp1 := hp1.into FG
  replace hp2 := hp2.into FG
  k_steps
  exact ret2 hret (by k_asm) (by k_asm) (by k_mem) (by kcj_all) (by first | assumption | exact ktn_ltOf (And.right (by assumption)) | exact ktn_ltOf (And.right (And.right (by assumption))) | exact ktn_ltOf (And.right (And.right (And.right (by assumption)))) | exact ktn_ltOf (by assumption)) rfl rfl
theorem words04 : True := by
  k_with_none
  k_with "q" => (first | with_reducible assumption | omega)
  k_with "p0" => (exact trivial)
  k_with "p1" => (walk_at "tup")
  k_with "p2" => (exact ⟨by walk_at "tup", by walk_at "tup"⟩)
  k_with "u" => (exact ⟨by k_asm, by k_asm, by k_asm, by k_asm, by k_asm, by first | exact rfl | assumption⟩)
  k_with "r" => (first | exact room_in (by with_reducible assumption) (by with_reducible assumption) rfl rfl rfl | exact ⟨by ktr_room, by ktr_units⟩)
  k_with "e" => (((try k_sweep); (try dsimp only); (try k_fold)))
  k_with "e2" => ((intro D9 t9 u9 h' tk9 F' N' l1; (try k_lt l1); k_extra "e"))
  k_with "eI" => ((intro t9 h' tk9 F' N'; k_extra "e"))
  k_with "eB" => ((intro h' tk9 F' N'; k_extra "e"))
  k_with "eN" => ((intro h' tk9 F' N'; k_extra "e"))
  k_with "eO" => ((intro D9 h' tk9 F' N' T9 T9b; k_extra "e"))
  k_with "forget" => ((k_here; (with_reducible show wpAny _ _ _ _ _ (Shared.mk _ _ _ (_ + 1) _)); (first | k_dflt (refine forget (by with_reducible assumption) (by with_reducible assumption) (by with_reducible assumption) (by with_reducible assumption) (by rfl) (by rfl) (by rfl) (by rfl) ?_) | with_reducible refine forget_tk ?_); intro tk9))
  k_with "execs cons" => (k_extra "forget")
  k_with "execs nil" => (k_extra "forget")
  k_with "call ref" => ((k_here; (with_reducible show wpAny _ _ (call (Value.ref 67) _) _ _ _); k_dflt (refine Pass.useI (by k_extra "u") (by k_extra "p0") (cd_pass (by k_extra "q")) (by k_extra "r") ?_; k_whole); k_extra "eI"))
  k_with "subscriptTail Name Constant ref int" => ((k_here; k_dflt (refine tin (by k_asm) (by k_asm) (by walk_at "tup") (by rfl) ?_; k_whole); intro t9))
  k_with "call ref" => ((k_here; (with_reducible show wpAny _ _ (call (Value.ref 75) _) _ _ _); k_dflt (refine Pass.use2 (by k_extra "u") (by k_extra "p0") (fr_pass (by k_extra "q") (by k_extra "q")) (by k_extra "r") ?_; k_whole); k_extra "e2"))
  k_with "evi" => ((first | with_reducible exact EvI.lit | ((with_reducible show EvI _ (PySem.Expr.Subscript _ _ _) _); k_dflt (exact EvI.item (by exact rfl) (by exact rfl) (by exact rfl) (by exact rfl) (by walk_at "tup") (by exact rfl))) | ((with_reducible show EvI _ (PySem.Expr.Name _ _) _); k_dflt (exact EvI.name (by exact rfl) (by exact rfl) (by exact rfl) (by exact rfl))) | ((with_reducible show EvI _ (PySem.Expr.BinOp _ Operator.Mult _ _) _); with_reducible exact EvI.mul (by k_extra "evi") (by k_extra "evi") (by k_dflt mul_fits)) | ((with_reducible show EvI _ (PySem.Expr.BinOp _ Operator.Add _ _) _); with_reducible exact EvI.add (by k_extra "evi") (by k_extra "evi")) | ((with_reducible show EvI _ (PySem.Expr.BinOp _ Operator.Sub _ _) _); with_reducible exact EvI.sub (by k_extra "evi") (by k_extra "evi"))))
  k_with "eval BinOp" => ((k_here; k_dflt (refine evi_use (by k_asm) (by k_asm) (by k_extra "evi") ?_; k_whole); intro t9 tk9; (try dsimp only)))
  trivial
set_option maxRecDepth 100000 in
set_option maxHeartbeats 8000000 in
theorem minus_pass {w mean mg mb news} {a b : Addr} {a0 a1 b0 b1 : Int} (ha : 0 < a1) (hb : 0 < b1) (ha0 : -1000000000000000 < a0 ∧ a0 < 1000000000000000) (hb0 : -1000000000000000 < b0 ∧ b0 < 1000000000000000) (ha1 : a1 < 1000000000000000) (hb1 : b1 < 1000000000000000) :
    Pass w mean mg mb 89 3 [.ref a, .ref b] news (fun h₀ => TupIn h₀ news a a0 a1 ∧ TupIn h₀ news b b0 b1) (R2 news (nm (a0 * b1 - b0 * a1) (a1 * b1)).1 (nm (a0 * b1 - b0 * a1) (a1 * b1)).2) := by
  have hp : 0 < a1 * b1 := Int.mul_pos ha hb
  have hq : a1 * b1 < 1000000000000000000000000000000 := mul_lt (by omega) (by omega) ha1 hb1
  unfold Pass
  k_fill
  intro dp un gd cn cs a' ccd cl outer A₀ base h₀ L m s Q E B F X N T hk hpre hdd hu hret
  obtain ⟨hp, gs, dr, tk, os⟩ := s
  dsimp only at F N
  obtain ⟨hp1, hp2⟩ := hpre
  refine wpAny_call ?_
  k_dflt ktr_enter
  rename Fr h₀ L _ m => FG
  replace hp1 := hp1.into FG
  replace hp2 := hp2.into FG
  k_steps
  exact ret2 hret (by k_asm) (by k_asm) (by k_mem) (by kcj_all) (by first | assumption | exact ktn_ltOf (And.right (by assumption)) | exact ktn_ltOf (And.right (And.right (by assumption))) | exact ktn_ltOf (And.right (And.right (And.right (by assumption)))) | exact ktn_ltOf (by assumption)) rfl rfl
set_option maxRecDepth 100000 in
set_option maxHeartbeats 8000000 in
theorem times_pass {w mean mg mb news} {a b : Addr} {a0 a1 b0 b1 : Int} (ha : 0 < a1) (hb : 0 < b1) (ha0 : -1000000000000000 < a0 ∧ a0 < 1000000000000000) (hb0 : -1000000000000000 < b0 ∧ b0 < 1000000000000000) (ha1 : a1 < 1000000000000000) (hb1 : b1 < 1000000000000000) :
    Pass w mean mg mb 96 3 [.ref a, .ref b] news (fun h₀ => TupIn h₀ news a a0 a1 ∧ TupIn h₀ news b b0 b1) (R2 news (nm (a0 * b0) (a1 * b1)).1 (nm (a0 * b0) (a1 * b1)).2) := by
  have hp : 0 < a1 * b1 := Int.mul_pos ha hb
  have hq : a1 * b1 < 1000000000000000000000000000000 := mul_lt (by omega) (by omega) ha1 hb1
  unfold Pass
  k_fill
  intro dp un gd cn cs a' ccd cl outer A₀ base h₀ L m s Q E B F X N T hk hpre hdd hu hret
  obtain ⟨hp, gs, dr, tk, os⟩ := s
  dsimp only at F N
  obtain ⟨hp1, hp2⟩ := hpre
  refine wpAny_call ?_
  k_dflt ktr_enter
  rename Fr h₀ L _ m => FG
  replace hp1 := hp1.into FG
  replace hp2 := hp2.into FG
  k_steps
  exact ret2 hret (by k_asm) (by k_asm) (by k_mem) (by kcj_all) (by first | assumption | exact ktn_ltOf (And.right (by assumption)) | exact ktn_ltOf (And.right (And.right (by assumption))) | exact ktn_ltOf (And.right (And.right (And.right (by assumption)))) | exact ktn_ltOf (by assumption)) rfl rfl
set_option maxRecDepth 100000 in
set_option maxHeartbeats 8000000 in
theorem divided_pass {w mean mg mb news} {a b : Addr} {a0 a1 b0 b1 : Int} (ha : 0 < a1) (hb : 0 < b1) (ha0 : -1000000000000000 < a0 ∧ a0 < 1000000000000000) (hbp : 0 < b0) (hb0 : -1000000000000000 < b0 ∧ b0 < 1000000000000000) (ha1 : a1 < 1000000000000000) (hb1 : b1 < 1000000000000000) :
    Pass w mean mg mb 103 3 [.ref a, .ref b] news (fun h₀ => TupIn h₀ news a a0 a1 ∧ TupIn h₀ news b b0 b1) (R2 news (nm (a0 * b1) (a1 * b0)).1 (nm (a0 * b1) (a1 * b0)).2) := by
  have hp : 0 < a1 * b0 := Int.mul_pos ha hbp
  have hq : a1 * b0 < 1000000000000000000000000000000 := mul_lt (by omega) (by omega) ha1 hb0.2
  unfold Pass
  k_fill
  intro dp un gd cn cs a' ccd cl outer A₀ base h₀ L m s Q E B F X N T hk hpre hdd hu hret
  obtain ⟨hp, gs, dr, tk, os⟩ := s
  dsimp only at F N
  obtain ⟨hp1, hp2⟩ := hpre
  refine wpAny_call ?_
  k_dflt ktr_enter
  rename Fr h₀ L _ m => FG
  replace hp1 := hp1.into FG
  replace hp2 := hp2.into FG
  k_steps
  · exfalso; omega
  exact ret2 hret (by k_asm) (by k_asm) (by k_mem) (by kcj_all) (by first | assumption | exact ktn_ltOf (And.right (by assumption)) | exact ktn_ltOf (And.right (And.right (by assumption))) | exact ktn_ltOf (And.right (And.right (And.right (by assumption)))) | exact ktn_ltOf (by assumption)) rfl rfl
def sg (x : Int) : Int := if 0 < x then 1 else if x < 0 then -1 else 0
set_option maxRecDepth 100000 in
set_option maxHeartbeats 8000000 in
theorem sign_pass {w mean mg mb news} {a : Addr} {a0 a1 : Int} :
    Pass w mean mg mb 110 1 [.ref a] news (fun h₀ => TupIn h₀ news a a0 a1) (RI news (sg a0)) := by
  unfold Pass
  k_fill
  intro dp un gd cn cs a' ccd cl outer A₀ base h₀ L m s Q E B F X N T hk hpre hdd hu hret
  obtain ⟨hp, gs, dr, tk, os⟩ := s
  dsimp only at F N
  have hp1 := hpre
  refine wpAny_call ?_
  k_dflt ktr_enter
  rename Fr h₀ L _ m => FG
  replace hp1 := hp1.into FG
  k_steps
  all_goals (refine retI hret (by k_asm) (by k_asm) (by kcj_all) ?_; simp only [sg]; (repeat' split) <;> omega)
theorem reg401 : True := by
  k_with "call ref" => ((k_here; (with_reducible show wpAny _ _ (call (Value.ref 110) _) _ _ _); k_dflt (refine Pass.useI (by k_extra "u") (by k_extra "p1") (sign_pass) (by k_extra "r") ?_; k_whole); k_extra "eI"))
  trivial
set_option maxRecDepth 100000 in
set_option maxHeartbeats 8000000 in
theorem compare_pass {w mean mg mb news} {a b : Addr} {a0 a1 b0 b1 : Int} (ha : 0 < a1) (hb : 0 < b1) (ha0 : -1000000000000000 < a0 ∧ a0 < 1000000000000000) (hb0 : -1000000000000000 < b0 ∧ b0 < 1000000000000000) (ha1 : a1 < 1000000000000000) (hb1 : b1 < 1000000000000000) :
    Pass w mean mg mb 117 2 [.ref a, .ref b] news (fun h₀ => TupIn h₀ news a a0 a1 ∧ TupIn h₀ news b b0 b1) (RI news (sg (a0 * b1 - b0 * a1))) := by
  unfold Pass
  k_fill
  intro dp un gd cn cs a' ccd cl outer A₀ base h₀ L m s Q E B F X N T hk hpre hdd hu hret
  obtain ⟨hp, gs, dr, tk, os⟩ := s
  dsimp only at F N
  obtain ⟨hp1, hp2⟩ := hpre
  refine wpAny_call ?_
  k_dflt ktr_enter
  rename Fr h₀ L _ m => FG
  replace hp1 := hp1.into FG
  replace hp2 := hp2.into FG
  k_steps
  all_goals exact retI hret (by k_asm) (by k_asm) (by kcj_all) (rfl)
set_option maxRecDepth 100000 in
set_option maxHeartbeats 8000000 in
theorem floor_pass {w mean mg mb news} {a : Addr} {a0 a1 : Int} (ha : 0 < a1) (ha0 : -1000000000000000 < a0 ∧ a0 < 1000000000000000) (ha1 : a1 < 1000000000000000) :
    Pass w mean mg mb 124 1 [.ref a] news (fun h₀ => TupIn h₀ news a a0 a1) (RI news (a0 / a1)) := by
  unfold Pass
  k_fill
  intro dp un gd cn cs a' ccd cl outer A₀ base h₀ L m s Q E B F X N T hk hpre hdd hu hret
  obtain ⟨hp, gs, dr, tk, os⟩ := s
  dsimp only at F N
  have hp1 := hpre
  refine wpAny_call ?_
  k_dflt ktr_enter
  rename Fr h₀ L _ m => FG
  replace hp1 := hp1.into FG
  k_steps
  all_goals exact retI hret (by k_asm) (by k_asm) (by kcj_all) (fd ha)
set_option maxRecDepth 100000 in
set_option maxHeartbeats 8000000 in
theorem rounded_pass {w mean mg mb news} {a : Addr} {a0 a1 : Int} (ha : 0 < a1) (ha0 : -1000000000000000 < a0 ∧ a0 < 1000000000000000) (ha1 : a1 < 1000000000000000) :
    Pass w mean mg mb 131 1 [.ref a] news (fun h₀ => TupIn h₀ news a a0 a1) (RI news ((2 * a0 + a1) / (2 * a1))) := by
  unfold Pass
  k_fill
  intro dp un gd cn cs a' ccd cl outer A₀ base h₀ L m s Q E B F X N T hk hpre hdd hu hret
  obtain ⟨hp, gs, dr, tk, os⟩ := s
  dsimp only at F N
  have hp1 := hpre
  refine wpAny_call ?_
  k_dflt ktr_enter
  rename Fr h₀ L _ m => FG
  replace hp1 := hp1.into FG
  k_steps
  all_goals exact retI hret (by k_asm) (by k_asm) (by kcj_all) (fd (by omega))
theorem reg402 : True := by
  k_with "call ref" => ((k_here; (with_reducible show wpAny _ _ (call (Value.ref 89) _) _ _ _); k_dflt (refine Pass.use2 (by k_extra "u") (by k_extra "p2") (minus_pass (by k_extra "q") (by k_extra "q") (by k_extra "q") (by k_extra "q") (by k_extra "q") (by k_extra "q")) (by k_extra "r") ?_; k_whole); k_extra "e2"))
  k_with "call ref" => ((k_here; (with_reducible show wpAny _ _ (call (Value.ref 117) _) _ _ _); k_dflt (refine Pass.useI (by k_extra "u") (by k_extra "p2") (compare_pass (by k_extra "q") (by k_extra "q") (by k_extra "q") (by k_extra "q") (by k_extra "q") (by k_extra "q")) (by k_extra "r") ?_; k_whole); k_extra "eI"))
  k_with "call ref" => ((k_here; (with_reducible show wpAny _ _ (call (Value.ref 124) _) _ _ _); k_dflt (refine Pass.useI (by k_extra "u") (by k_extra "p1") (floor_pass (by k_extra "q") (by k_extra "q") (by k_extra "q")) (by k_extra "r") ?_; k_whole); k_extra "eI"))
  trivial
theorem words05 : True := by
  k_with_none
  k_with "q" => (first | with_reducible assumption | omega)
  k_with "p0" => (exact trivial)
  k_with "p1" => (walk_at "tup")
  k_with "p2" => (exact ⟨by walk_at "tup", by walk_at "tup"⟩)
  k_with "u" => (exact ⟨by k_asm, by k_asm, by k_asm, by k_asm, by k_asm, by first | exact rfl | assumption⟩)
  k_with "r" => (first | exact room_in (by with_reducible assumption) (by with_reducible assumption) rfl rfl rfl | exact ⟨by ktr_room, by ktr_units⟩)
  k_with "e" => (((try k_sweep); (try dsimp only); (try k_fold)))
  k_with "e2" => ((intro D9 t9 u9 h' tk9 F' N' l1; (try k_lt l1); k_extra "e"))
  k_with "eI" => ((intro t9 h' tk9 F' N'; k_extra "e"))
  k_with "eB" => ((intro h' tk9 F' N'; k_extra "e"))
  k_with "eN" => ((intro h' tk9 F' N'; k_extra "e"))
  k_with "eO" => ((intro D9 h' tk9 F' N' T9 T9b; k_extra "e"))
  k_with "forget" => ((k_here; (with_reducible show wpAny _ _ _ _ _ (Shared.mk _ _ _ (_ + 1) _)); (first | k_dflt (refine forget (by with_reducible assumption) (by with_reducible assumption) (by with_reducible assumption) (by with_reducible assumption) (by rfl) (by rfl) (by rfl) (by rfl) ?_) | with_reducible refine forget_tk ?_); intro tk9))
  k_with "execs cons" => (k_extra "forget")
  k_with "execs nil" => (k_extra "forget")
  k_with "call ref" => ((k_here; (with_reducible show wpAny _ _ (call (Value.ref 67) _) _ _ _); k_dflt (refine Pass.useI (by k_extra "u") (by k_extra "p0") (cd_pass (by k_extra "q")) (by k_extra "r") ?_; k_whole); k_extra "eI"))
  k_with "subscriptTail Name Constant ref int" => ((k_here; k_dflt (refine tin (by k_asm) (by k_asm) (by walk_at "tup") (by rfl) ?_; k_whole); intro t9))
  k_with "call ref" => ((k_here; (with_reducible show wpAny _ _ (call (Value.ref 75) _) _ _ _); k_dflt (refine Pass.use2 (by k_extra "u") (by k_extra "p0") (fr_pass (by k_extra "q") (by k_extra "q")) (by k_extra "r") ?_; k_whole); k_extra "e2"))
  k_with "evi" => ((first | with_reducible exact EvI.lit | ((with_reducible show EvI _ (PySem.Expr.Subscript _ _ _) _); k_dflt (exact EvI.item (by exact rfl) (by exact rfl) (by exact rfl) (by exact rfl) (by walk_at "tup") (by exact rfl))) | ((with_reducible show EvI _ (PySem.Expr.Name _ _) _); k_dflt (exact EvI.name (by exact rfl) (by exact rfl) (by exact rfl) (by exact rfl))) | ((with_reducible show EvI _ (PySem.Expr.BinOp _ Operator.Mult _ _) _); with_reducible exact EvI.mul (by k_extra "evi") (by k_extra "evi") (by k_dflt mul_fits)) | ((with_reducible show EvI _ (PySem.Expr.BinOp _ Operator.Add _ _) _); with_reducible exact EvI.add (by k_extra "evi") (by k_extra "evi")) | ((with_reducible show EvI _ (PySem.Expr.BinOp _ Operator.Sub _ _) _); with_reducible exact EvI.sub (by k_extra "evi") (by k_extra "evi"))))
  k_with "eval BinOp" => ((k_here; k_dflt (refine evi_use (by k_asm) (by k_asm) (by k_extra "evi") ?_; k_whole); intro t9 tk9; (try dsimp only)))
  k_with "call ref" => ((k_here; (with_reducible show wpAny _ _ (call (Value.ref 110) _) _ _ _); k_dflt (refine Pass.useI (by k_extra "u") (by k_extra "p1") (sign_pass) (by k_extra "r") ?_; k_whole); k_extra "eI"))
  k_with "call ref" => ((k_here; (with_reducible show wpAny _ _ (call (Value.ref 89) _) _ _ _); k_dflt (refine Pass.use2 (by k_extra "u") (by k_extra "p2") (minus_pass (by k_extra "q") (by k_extra "q") (by k_extra "q") (by k_extra "q") (by k_extra "q") (by k_extra "q")) (by k_extra "r") ?_; k_whole); k_extra "e2"))
  k_with "call ref" => ((k_here; (with_reducible show wpAny _ _ (call (Value.ref 117) _) _ _ _); k_dflt (refine Pass.useI (by k_extra "u") (by k_extra "p2") (compare_pass (by k_extra "q") (by k_extra "q") (by k_extra "q") (by k_extra "q") (by k_extra "q") (by k_extra "q")) (by k_extra "r") ?_; k_whole); k_extra "eI"))
  k_with "call ref" => ((k_here; (with_reducible show wpAny _ _ (call (Value.ref 124) _) _ _ _); k_dflt (refine Pass.useI (by k_extra "u") (by k_extra "p1") (floor_pass (by k_extra "q") (by k_extra "q") (by k_extra "q")) (by k_extra "r") ?_; k_whole); k_extra "eI"))
  trivial

theorem zero_in {w : World} {h₀ : Heap} {news : List (Addr × Obj)} (X : (lay.heap_1 w.params).In h₀) : TupIn h₀ news 59 0 1 := .inl ⟨252, 253, _, X 59 _ rfl, rfl, _, rfl⟩
theorem one_in {w : World} {h₀ : Heap} {news : List (Addr × Obj)} (X : (lay.heap_1 w.params).In h₀) : TupIn h₀ news 60 1 1 := .inl ⟨255, 256, _, X 60 _ rfl, rfl, _, rfl⟩
theorem kinds_at {w : World} {h : Heap} (X : (lay.heap_1 w.params).In h) : IsTup h 139 #[.str (Str.ofString "pad") 350, .str (Str.ofString "repeat") 351, .str (Str.ofString "reflect") 352] := ⟨_, X 139 _ rfl, rfl, _, rfl⟩
def inKinds (x : Str) : Bool := [Str.ofString "pad", Str.ofString "repeat", Str.ofString "reflect"].any (· == x)
section
variable {prog : Program} {w : World} {A : Around} {E : Value → Shared → Prop} {s : Shared} {h₀ : Heap} {L : Addr} {m : Str → Option Value} {x : Str} {u : Tok} {Q : Value → Shared → Prop}
theorem kind_any (F : Fr h₀ L s.heap m) (X : (lay.heap_1 w.params).In h₀) (h : Q (.bool (!inKinds x)) s) : wpAny (model prog w) A (compareOp .NotIn (.str x u) (.ref 139)) Q E s :=
  notin_tuple_strs (kinds_at (X.keeps F.keep)) (.cons _ _ (.cons _ _ (.cons _ _ .nil))) h
theorem kind_in (F : Fr h₀ L s.heap m) (X : (lay.heap_1 w.params).In h₀) (e : inKinds x = true) (h : Q (.bool false) s) : wpAny (model prog w) A (compareOp .NotIn (.str x u) (.ref 139)) Q E s :=
  kind_any F X (by rw [e]; exact h)
theorem kind_out (F : Fr h₀ L s.heap m) (X : (lay.heap_1 w.params).In h₀) (e : inKinds x = false) (h : Q (.bool true) s) : wpAny (model prog w) A (compareOp .NotIn (.str x u) (.ref 139)) Q E s :=
  kind_any F X (by rw [e]; exact h)
end
theorem reg501 : True := by
  k_with "tup" => (first | ((with_reducible show TupIn _ _ 59 _ _); exact zero_in (by k_asm)) | ((with_reducible show TupIn _ _ 60 _ _); exact one_in (by k_asm)))
  k_with "compareOp NotIn str ref" => ((k_here; k_dflt (first | refine kind_in (by k_asm) (by k_asm) (by decide +kernel) ?_ | refine kind_out (by k_asm) (by k_asm) (by decide +kernel) ?_)))
  trivial
def RO (w : World) (a₀ : Addr) (x₀ y₀ : Int) (news : List (Addr × Obj)) (x y : Int) (_ : Heap) (r : Value) (news' : List (Addr × Obj)) : Prop :=
  ∃ a, r = .ref a ∧ news' = news ∧ ∀ h, (lay.heap_1 w.params).In h → TupIn h news a₀ x₀ y₀ → TupIn h news a x y
section
variable {w : World} {mean : ExcName → Option Value} {mg mb : Str → Option Value} {f : Addr} {need : Nat} {vs : List Value} {news : List (Addr × Obj)} {pre : Heap → Prop}
    {dp un : Nat} {gd : Option (List Code)} {cn : Str} {cs : Scope} {a : Addr} {ccd : Value} {cl : List (Str × Addr)} {outer : List Env} {A₀ : Around} {base h₀ : Heap} {L : Addr} {m : Str → Option Value} {s : Shared} {Q E : Value → Shared → Prop}
theorem Pass.useO {x y x₀ y₀ : Int} {a₀ : Addr} 
    (H : Here w mean mg mb A₀ base outer h₀ L m news s cs) (hp : TupIn h₀ news a₀ x₀ y₀) (C : Pass w mean mg mb f need vs news (fun h => TupIn h news a₀ x₀ y₀) (RO w a₀ x₀ y₀ news x y)) (hr : dp + need < recursionLimit ∧ un + 8 * need < cLine)
    (h : ∀ D h' tk', Fr h₀ L h' m → News h₀ L h' news → (∀ h, (lay.heap_1 w.params).In h → TupIn h news a₀ x₀ y₀ → TupIn h news D x y) → TupIn h₀ news D x y → Q (.ref D) { s with heap := h', toks := tk' }) :
    wpAny (model PySem.Challenge.rw_on0231_01.row.prog w) (ktrTop dp un gd cn cs L a ccd cl outer) (call (.ref f) vs) Q E s :=
  C.use H.B H.F H.X H.N H.T H.hk hp hr.1 hr.2 fun r news' h' tk' F' N' hR => by
    obtain ⟨D, rfl, rfl, T⟩ := hR
    exact h D h' tk' F' N' T (T _ H.X hp)
theorem Pass.useN 
    (H : Here w mean mg mb A₀ base outer h₀ L m news s cs) (hp : pre h₀) (C : Pass w mean mg mb f need vs news pre (RN news)) (hr : dp + need < recursionLimit ∧ un + 8 * need < cLine)
    (h : ∀ h' tk', Fr h₀ L h' m → News h₀ L h' news → Q .none { s with heap := h', toks := tk' }) :
    wpAny (model PySem.Challenge.rw_on0231_01.row.prog w) (ktrTop dp un gd cn cs L a ccd cl outer) (call (.ref f) vs) Q E s :=
  C.use H.B H.F H.X H.N H.T H.hk hp hr.1 hr.2 fun r news' h' tk' F' N' hR => by
    obtain ⟨rfl, rfl⟩ := hR
    exact h h' tk' F' N'
theorem retN {h' : Heap} {tk' : Nat} {news'' : List (Addr × Obj)} (hret : ∀ r news' h' tk', Fr h₀ L h' m → News h₀ L h' news' → RN news h₀ r news' → Q r { s with heap := h', toks := tk' })
    (F : Fr h₀ L h' m) (N : News h₀ L h' news'') (hs : ∀ p ∈ news, p ∈ news'') : Q .none { s with heap := h', toks := tk' } :=
  hret _ _ _ _ F (cb_drop N hs) ⟨rfl, rfl⟩
theorem retO {x y x' y' x₀ y₀ : Int} {a a₀ : Addr} {h' : Heap} {tk' : Nat} {news'' : List (Addr × Obj)} (hret : ∀ r news' h' tk', Fr h₀ L h' m → News h₀ L h' news' → RO w a₀ x₀ y₀ news x y h₀ r news' → Q r { s with heap := h', toks := tk' })
    (F : Fr h₀ L h' m) (N : News h₀ L h' news'') (hs : ∀ p ∈ news, p ∈ news'') (T : ∀ h, (lay.heap_1 w.params).In h → TupIn h news a₀ x₀ y₀ → TupIn h news a x' y') (e1 : x' = x) (e2 : y' = y) : Q (.ref a) { s with heap := h', toks := tk' } :=
  hret _ _ _ _ F (cb_drop N hs) ⟨a, rfl, rfl, by rw [← e1, ← e2]; exact T⟩
end
def padF (x y : Int) : Int × Int := if x < 0 then (0, 1) else if y < x then (1, 1) else (x, y)
theorem pad_zero {x y : Int} (h : sg (x * 1 - 0 * y) < 0) : padF x y = (0, 1) := by
  have : x < 0 := by unfold sg at h; split at h <;> (try split at h) <;> omega
  rw [padF, if_pos this]
theorem pad_one {x y : Int} (h : ¬ sg (x * 1 - 0 * y) < 0) (h2 : 0 < sg (x * 1 - 1 * y)) : padF x y = (1, 1) := by
  have h3 : ¬ x < 0 := by unfold sg at h; split at h <;> (try split at h) <;> omega
  have h4 : y < x := by unfold sg at h2; split at h2 <;> (try split at h2) <;> omega
  rw [padF, if_neg h3, if_pos h4]
theorem pad_mid {x y : Int} (h : ¬ sg (x * 1 - 0 * y) < 0) (h2 : ¬ 0 < sg (x * 1 - 1 * y)) : padF x y = (x, y) := by
  have h3 : ¬ x < 0 := by unfold sg at h; split at h <;> (try split at h) <;> omega
  have h4 : ¬ y < x := by unfold sg at h2; split at h2 <;> (try split at h2) <;> omega
  rw [padF, if_neg h3, if_neg h4]
theorem nm_one (x : Int) : nm x 1 = (x, 1) := by simp [nm]
set_option maxRecDepth 100000 in
set_option maxHeartbeats 8000000 in
theorem fr1_pass {w mean mg mb news} {x : Int} {tx : Tok} : Pass w mean mg mb 75 2 [.int x tx] news (fun _ => True) (R2 news x 1) := by
  have hg : (Int.gcd x 1 : Int) = 1 := by simp
  unfold Pass
  k_fill
  intro dp un gd cn cs a ccd cl outer A₀ base h₀ L m s Q E B F X N T hk hpre hdd hu hret
  obtain ⟨hp, gs, dr, tk, os⟩ := s
  dsimp only at F N
  refine wpAny_call ?_
  k_dflt ktr_enter
  k_steps
  · exact ret2 hret (by k_asm) (by k_asm) (by k_mem) (by kcj_all) (by first | assumption | exact ktn_ltOf (And.right (by assumption)) | exact ktn_ltOf (And.right (And.right (by assumption))) | exact ktn_ltOf (And.right (And.right (And.right (by assumption)))) | exact ktn_ltOf (by assumption)) (by rw [hg]; exact Int.fdiv_one _) (by rw [hg]; rfl)
theorem reg502 : True := by
  k_with "call ref" => ((k_here; (with_reducible show wpAny _ _ (call (Value.ref 75) _) _ _ _); k_dflt (refine Pass.use2 (by k_extra "u") (by k_extra "p0") (fr1_pass) (by k_extra "r") ?_; k_whole); k_extra "e2"))
  trivial
set_option maxRecDepth 100000 in
set_option maxHeartbeats 8000000 in
theorem padded_pass {w mean mg mb news} {a : Addr} {a0 a1 : Int} (ha : 0 < a1) (ha0 : -1000000000000000 < a0 ∧ a0 < 1000000000000000) (ha1 : a1 < 1000000000000000) :
    Pass w mean mg mb 167 4 [.ref a] news (fun h₀ => TupIn h₀ news a a0 a1) (RO w a a0 a1 news (padF a0 a1).1 (padF a0 a1).2) := by
  unfold Pass
  k_fill
  intro dp un gd cn cs a' ccd cl outer A₀ base h₀ L m s Q E B F X N T hk hpre hdd hu hret
  obtain ⟨hp, gs, dr, tk, os⟩ := s
  dsimp only at F N
  have hp1 := hpre
  refine wpAny_call ?_
  k_dflt ktr_enter
  rename Fr h₀ L _ m => FG
  replace hp1 := hp1.into FG
  k_steps
  · exact retO hret (by k_asm) (by k_asm) (by kcj_all) (fun _ X _ => zero_in X) (by rw [pad_zero (by assumption)]) (by rw [pad_zero (by assumption)])
  · exact retO hret (by k_asm) (by k_asm) (by kcj_all) (fun _ X _ => one_in X) (by rw [pad_one (by assumption) (by assumption)]) (by rw [pad_one (by assumption) (by assumption)])
  · exact retO hret (by k_asm) (by k_asm) (by kcj_all) (fun _ _ h => h) (by rw [pad_mid (by assumption) (by assumption)]) (by rw [pad_mid (by assumption) (by assumption)])
set_option maxRecDepth 100000 in
set_option maxHeartbeats 8000000 in
theorem check_pad {w mean mg mb news} {t : Tok} :
    Pass w mean mg mb 146 1 [.str (Str.ofString "pad") t] news (fun _ => True) (RN news) := by
  unfold Pass
  k_fill
  intro dp un gd cn cs a' ccd cl outer A₀ base h₀ L m s Q E B F X N T hk hpre hdd hu hret
  obtain ⟨hp, gs, dr, tk, os⟩ := s
  dsimp only at F N
  refine wpAny_call ?_
  k_dflt ktr_enter
  k_steps
  all_goals exact retN hret (by k_asm) (by k_asm) (by kcj_all)
set_option maxRecDepth 100000 in
set_option maxHeartbeats 8000000 in
theorem check_repeat {w mean mg mb news} {t : Tok} :
    Pass w mean mg mb 146 1 [.str (Str.ofString "repeat") t] news (fun _ => True) (RN news) := by
  unfold Pass
  k_fill
  intro dp un gd cn cs a' ccd cl outer A₀ base h₀ L m s Q E B F X N T hk hpre hdd hu hret
  obtain ⟨hp, gs, dr, tk, os⟩ := s
  dsimp only at F N
  refine wpAny_call ?_
  k_dflt ktr_enter
  k_steps
  all_goals exact retN hret (by k_asm) (by k_asm) (by kcj_all)
set_option maxRecDepth 100000 in
set_option maxHeartbeats 8000000 in
theorem check_reflect {w mean mg mb news} {t : Tok} :
    Pass w mean mg mb 146 1 [.str (Str.ofString "reflect") t] news (fun _ => True) (RN news) := by
  unfold Pass
  k_fill
  intro dp un gd cn cs a' ccd cl outer A₀ base h₀ L m s Q E B F X N T hk hpre hdd hu hret
  obtain ⟨hp, gs, dr, tk, os⟩ := s
  dsimp only at F N
  refine wpAny_call ?_
  k_dflt ktr_enter
  k_steps
  all_goals exact retN hret (by k_asm) (by k_asm) (by kcj_all)
theorem words06 : True := by
  k_with_none
  k_with "q" => (first | with_reducible assumption | omega)
  k_with "p0" => (exact trivial)
  k_with "p1" => (walk_at "tup")
  k_with "p2" => (exact ⟨by walk_at "tup", by walk_at "tup"⟩)
  k_with "u" => (exact ⟨by k_asm, by k_asm, by k_asm, by k_asm, by k_asm, by first | exact rfl | assumption⟩)
  k_with "r" => (first | exact room_in (by with_reducible assumption) (by with_reducible assumption) rfl rfl rfl | exact ⟨by ktr_room, by ktr_units⟩)
  k_with "e" => (((try k_sweep); (try dsimp only); (try k_fold)))
  k_with "e2" => ((intro D9 t9 u9 h' tk9 F' N' l1; (try k_lt l1); k_extra "e"))
  k_with "eI" => ((intro t9 h' tk9 F' N'; k_extra "e"))
  k_with "eB" => ((intro h' tk9 F' N'; k_extra "e"))
  k_with "eN" => ((intro h' tk9 F' N'; k_extra "e"))
  k_with "eO" => ((intro D9 h' tk9 F' N' T9 T9b; k_extra "e"))
  k_with "forget" => ((k_here; (with_reducible show wpAny _ _ _ _ _ (Shared.mk _ _ _ (_ + 1) _)); (first | k_dflt (refine forget (by with_reducible assumption) (by with_reducible assumption) (by with_reducible assumption) (by with_reducible assumption) (by rfl) (by rfl) (by rfl) (by rfl) ?_) | with_reducible refine forget_tk ?_); intro tk9))
  k_with "execs cons" => (k_extra "forget")
  k_with "execs nil" => (k_extra "forget")
  k_with "call ref" => ((k_here; (with_reducible show wpAny _ _ (call (Value.ref 67) _) _ _ _); k_dflt (refine Pass.useI (by k_extra "u") (by k_extra "p0") (cd_pass (by k_extra "q")) (by k_extra "r") ?_; k_whole); k_extra "eI"))
  k_with "subscriptTail Name Constant ref int" => ((k_here; k_dflt (refine tin (by k_asm) (by k_asm) (by walk_at "tup") (by rfl) ?_; k_whole); intro t9))
  k_with "call ref" => ((k_here; (with_reducible show wpAny _ _ (call (Value.ref 75) _) _ _ _); k_dflt (refine Pass.use2 (by k_extra "u") (by k_extra "p0") (fr_pass (by k_extra "q") (by k_extra "q")) (by k_extra "r") ?_; k_whole); k_extra "e2"))
  k_with "evi" => ((first | with_reducible exact EvI.lit | ((with_reducible show EvI _ (PySem.Expr.Subscript _ _ _) _); k_dflt (exact EvI.item (by exact rfl) (by exact rfl) (by exact rfl) (by exact rfl) (by walk_at "tup") (by exact rfl))) | ((with_reducible show EvI _ (PySem.Expr.Name _ _) _); k_dflt (exact EvI.name (by exact rfl) (by exact rfl) (by exact rfl) (by exact rfl))) | ((with_reducible show EvI _ (PySem.Expr.BinOp _ Operator.Mult _ _) _); with_reducible exact EvI.mul (by k_extra "evi") (by k_extra "evi") (by k_dflt mul_fits)) | ((with_reducible show EvI _ (PySem.Expr.BinOp _ Operator.Add _ _) _); with_reducible exact EvI.add (by k_extra "evi") (by k_extra "evi")) | ((with_reducible show EvI _ (PySem.Expr.BinOp _ Operator.Sub _ _) _); with_reducible exact EvI.sub (by k_extra "evi") (by k_extra "evi"))))
  k_with "eval BinOp" => ((k_here; k_dflt (refine evi_use (by k_asm) (by k_asm) (by k_extra "evi") ?_; k_whole); intro t9 tk9; (try dsimp only)))
  k_with "call ref" => ((k_here; (with_reducible show wpAny _ _ (call (Value.ref 110) _) _ _ _); k_dflt (refine Pass.useI (by k_extra "u") (by k_extra "p1") (sign_pass) (by k_extra "r") ?_; k_whole); k_extra "eI"))
  k_with "call ref" => ((k_here; (with_reducible show wpAny _ _ (call (Value.ref 89) _) _ _ _); k_dflt (refine Pass.use2 (by k_extra "u") (by k_extra "p2") (minus_pass (by k_extra "q") (by k_extra "q") (by k_extra "q") (by k_extra "q") (by k_extra "q") (by k_extra "q")) (by k_extra "r") ?_; k_whole); k_extra "e2"))
  k_with "call ref" => ((k_here; (with_reducible show wpAny _ _ (call (Value.ref 117) _) _ _ _); k_dflt (refine Pass.useI (by k_extra "u") (by k_extra "p2") (compare_pass (by k_extra "q") (by k_extra "q") (by k_extra "q") (by k_extra "q") (by k_extra "q") (by k_extra "q")) (by k_extra "r") ?_; k_whole); k_extra "eI"))
  k_with "call ref" => ((k_here; (with_reducible show wpAny _ _ (call (Value.ref 124) _) _ _ _); k_dflt (refine Pass.useI (by k_extra "u") (by k_extra "p1") (floor_pass (by k_extra "q") (by k_extra "q") (by k_extra "q")) (by k_extra "r") ?_; k_whole); k_extra "eI"))
  k_with "tup" => (first | ((with_reducible show TupIn _ _ 59 _ _); exact zero_in (by k_asm)) | ((with_reducible show TupIn _ _ 60 _ _); exact one_in (by k_asm)))
  k_with "compareOp NotIn str ref" => ((k_here; k_dflt (first | refine kind_in (by k_asm) (by k_asm) (by decide +kernel) ?_ | refine kind_out (by k_asm) (by k_asm) (by decide +kernel) ?_)))
  k_with "call ref" => ((k_here; (with_reducible show wpAny _ _ (call (Value.ref 75) _) _ _ _); k_dflt (refine Pass.use2 (by k_extra "u") (by k_extra "p0") (fr1_pass) (by k_extra "r") ?_; k_whole); k_extra "e2"))
  trivial
theorem reg601 : True := by
  k_with "call ref" => ((k_here; (with_reducible show wpAny _ _ (call (Value.ref 167) _) _ _ _); k_dflt (refine Pass.useO (by k_extra "u") (by k_extra "p1") (padded_pass (by k_extra "q") (by k_extra "q") (by k_extra "q")) (by k_extra "r") ?_; k_whole); k_extra "eO"))
  k_with "call ref" => ((k_here; (with_reducible show wpAny _ _ (call (Value.ref 146) _) _ _ _); k_dflt (refine Pass.useN (by k_extra "u") (by k_extra "p0") (check_pad) (by k_extra "r") ?_; k_whole); k_extra "eN"))
  k_with "call ref" => ((k_here; (with_reducible show wpAny _ _ (call (Value.ref 146) _) _ _ _); k_dflt (refine Pass.useN (by k_extra "u") (by k_extra "p0") (check_repeat) (by k_extra "r") ?_; k_whole); k_extra "eN"))
  k_with "call ref" => ((k_here; (with_reducible show wpAny _ _ (call (Value.ref 146) _) _ _ _); k_dflt (refine Pass.useN (by k_extra "u") (by k_extra "p0") (check_reflect) (by k_extra "r") ?_; k_whole); k_extra "eN"))
  trivial

theorem ediv_in {x y : Int} (hy : 0 < y) (h : -1000000000000000 < x ∧ x < 1000000000000000) : -1000000000000000 < x / y ∧ x / y < 1000000000000000 := by
  by_cases hx : 0 ≤ x
  · have h1 := Int.ediv_nonneg hx (Int.le_of_lt hy)
    have h2 := Int.ediv_le_self y hx
    omega
  · have h1 : x ≤ x / y := Int.le_ediv_of_mul_le hy (by have := Int.mul_nonneg (a := -x) (b := y - 1) (by omega) (by omega); rw [Int.mul_sub, Int.neg_mul, Int.mul_one] at this; omega)
    have h2 : x / y < 0 := Int.ediv_neg_of_neg_of_pos (by omega) hy
    omega
theorem nm2_pos {t b : Int} (hb : 0 < b) : 0 < (nm t b).2 := Int.ediv_pos_of_pos_of_dvd hb (Int.le_of_lt (nm_gcd hb)) (Int.gcd_dvd_right ..)
theorem nm2_le {t b : Int} (hb : 0 < b) : (nm t b).2 ≤ b := Int.ediv_le_self _ (by omega)
theorem nm2_lt {t b c : Int} (hb : 0 < b) (h : b < c) : (nm t b).2 < c := Int.lt_of_le_of_lt (nm2_le hb) h
theorem nm1_in {t b : Int} (hb : 0 < b) (h : -1000000000000000 < t ∧ t < 1000000000000000) : -1000000000000000 < (nm t b).1 ∧ (nm t b).1 < 1000000000000000 := ediv_in (nm_gcd hb) h
theorem part_eq (x y : Int) : nm (x * 1 - x / y * y) (y * 1) = nm (x % y) y := by
  rw [Int.mul_one, Int.mul_one, Int.emod_def, Int.mul_comm y]
def reflF (x y : Int) : Int × Int := if (x / y) % 2 = 0 then nm (x % y) y else nm (1 * (nm (x % y) y).2 - (nm (x % y) y).1 * 1) (1 * (nm (x % y) y).2)
theorem refl_even {x y : Int} (h : (x / y).fmod 2 = 0) : reflF x y = nm (x % y) y := by
  rw [Int.fmod_eq_emod_of_nonneg _ (by decide)] at h
  rw [reflF, if_pos h]
theorem refl_odd {x y : Int} (h : (x / y).fmod 2 ≠ 0) : reflF x y = nm (1 * (nm (x % y) y).2 - (nm (x % y) y).1 * 1) (1 * (nm (x % y) y).2) := by
  rw [Int.fmod_eq_emod_of_nonneg _ (by decide)] at h
  rw [reflF, if_neg h]
set_option maxRecDepth 100000 in
set_option maxHeartbeats 8000000 in
theorem part_pass {w mean mg mb news} {a : Addr} {a0 a1 : Int} (ha : 0 < a1) (ha0 : -1000000000000000 < a0 ∧ a0 < 1000000000000000) (ha1 : a1 < 1000000000000000) :
    Pass w mean mg mb 153 4 [.ref a] news (fun h₀ => TupIn h₀ news a a0 a1) (R2 news (nm (a0 % a1) a1).1 (nm (a0 % a1) a1).2) := by
  have hfl := ediv_in ha ha0
  unfold Pass
  k_fill
  intro dp un gd cn cs a' ccd cl outer A₀ base h₀ L m s Q E B F X N T hk hpre hdd hu hret
  obtain ⟨hp, gs, dr, tk, os⟩ := s
  dsimp only at F N
  have hp1 := hpre
  refine wpAny_call ?_
  k_dflt ktr_enter
  rename Fr h₀ L _ m => FG
  replace hp1 := hp1.into FG
  k_steps
  exact ret2 hret (by k_asm) (by k_asm) (by k_mem) (by kcj_all) (by first | assumption | exact ktn_ltOf (And.right (by assumption)) | exact ktn_ltOf (And.right (And.right (by assumption))) | exact ktn_ltOf (And.right (And.right (And.right (by assumption)))) | exact ktn_ltOf (by assumption)) (by rw [part_eq]) (by rw [part_eq])
theorem reg602 : True := by
  k_with "call ref" => ((k_here; (with_reducible show wpAny _ _ (call (Value.ref 153) _) _ _ _); k_dflt (refine Pass.use2 (by k_extra "u") (by k_extra "p1") (part_pass (by k_extra "q") (by k_extra "q") (by k_extra "q")) (by k_extra "r") ?_; k_whole); k_extra "e2"))
  trivial
set_option maxRecDepth 100000 in
set_option maxHeartbeats 8000000 in
theorem refl_pass {w mean mg mb news} {a : Addr} {a0 a1 : Int} (ha : 0 < a1) (ha0 : -1000000000000000 < a0 ∧ a0 < 1000000000000000) (ha1 : a1 < 1000000000000000) :
    Pass w mean mg mb 160 5 [.ref a] news (fun h₀ => TupIn h₀ news a a0 a1) (R2 news (reflF a0 a1).1 (reflF a0 a1).2) := by
  have hfl := ediv_in ha ha0
  have hm1 := Int.emod_nonneg a0 (b := a1) (by omega)
  have hm2 := Int.emod_lt_of_pos a0 ha
  have hn1 := nm1_in (t := a0 % a1) ha (by omega)
  have hn2 := nm2_pos (t := a0 % a1) ha
  have hn3 := nm2_lt (t := a0 % a1) ha ha1
  unfold Pass
  k_fill
  intro dp un gd cn cs a' ccd cl outer A₀ base h₀ L m s Q E B F X N T hk hpre hdd hu hret
  obtain ⟨hp, gs, dr, tk, os⟩ := s
  dsimp only at F N
  have hp1 := hpre
  refine wpAny_call ?_
  k_dflt ktr_enter
  rename Fr h₀ L _ m => FG
  replace hp1 := hp1.into FG
  k_steps
  · exact ret2 hret (by k_asm) (by k_asm) (by k_mem) (by kcj_all) (by first | assumption | exact ktn_ltOf (And.right (by assumption)) | exact ktn_ltOf (And.right (And.right (by assumption))) | exact ktn_ltOf (And.right (And.right (And.right (by assumption)))) | exact ktn_ltOf (by assumption)) (by rw [refl_even (by assumption)]) (by rw [refl_even (by assumption)])
  · exact ret2 hret (by k_asm) (by k_asm) (by k_mem) (by kcj_all) (by first | assumption | exact ktn_ltOf (And.right (by assumption)) | exact ktn_ltOf (And.right (And.right (by assumption))) | exact ktn_ltOf (And.right (And.right (And.right (by assumption)))) | exact ktn_ltOf (by assumption)) (by rw [refl_odd (by assumption)]) (by rw [refl_odd (by assumption)])
set_option maxRecDepth 100000 in
set_option maxHeartbeats 8000000 in
theorem spread_pad {w mean mg mb news} {t : Tok} {a : Addr} {a0 a1 : Int} (ha : 0 < a1) (ha0 : -1000000000000000 < a0 ∧ a0 < 1000000000000000) (ha1 : a1 < 1000000000000000) :
    Pass w mean mg mb 174 7 [.ref a, .str (Str.ofString "pad") t] news (fun h₀ => TupIn h₀ news a a0 a1) (RO w a a0 a1 news (padF a0 a1).1 (padF a0 a1).2) := by
  unfold Pass
  k_fill
  intro dp un gd cn cs a' ccd cl outer A₀ base h₀ L m s Q E B F X N T hk hpre hdd hu hret
  obtain ⟨hp, gs, dr, tk, os⟩ := s
  dsimp only at F N
  have hp1 := hpre
  refine wpAny_call ?_
  k_dflt ktr_enter
  rename Fr h₀ L _ m => FG
  replace hp1 := hp1.into FG
  k_steps
  exact retO hret (by k_asm) (by k_asm) (by kcj_all) (by assumption) rfl rfl
theorem reg603 : True := by
  k_with "call ref" => ((k_here; (with_reducible show wpAny _ _ (call (Value.ref 160) _) _ _ _); k_dflt (refine Pass.use2 (by k_extra "u") (by k_extra "p1") (refl_pass (by k_extra "q") (by k_extra "q") (by k_extra "q")) (by k_extra "r") ?_; k_whole); k_extra "e2"))
  trivial
set_option maxRecDepth 100000 in
set_option maxHeartbeats 8000000 in
theorem spread_repeat {w mean mg mb news} {t : Tok} {a : Addr} {a0 a1 : Int} (ha : 0 < a1) (ha0 : -1000000000000000 < a0 ∧ a0 < 1000000000000000) (ha1 : a1 < 1000000000000000) :
    Pass w mean mg mb 174 7 [.ref a, .str (Str.ofString "repeat") t] news (fun h₀ => TupIn h₀ news a a0 a1) (R2 news (nm (a0 % a1) a1).1 (nm (a0 % a1) a1).2) := by
  unfold Pass
  k_fill
  intro dp un gd cn cs a' ccd cl outer A₀ base h₀ L m s Q E B F X N T hk hpre hdd hu hret
  obtain ⟨hp, gs, dr, tk, os⟩ := s
  dsimp only at F N
  have hp1 := hpre
  refine wpAny_call ?_
  k_dflt ktr_enter
  rename Fr h₀ L _ m => FG
  replace hp1 := hp1.into FG
  k_steps
  exact ret2 hret (by k_asm) (by k_asm) (by k_mem) (by kcj_all) (by first | assumption | exact ktn_ltOf (And.right (by assumption)) | exact ktn_ltOf (And.right (And.right (by assumption))) | exact ktn_ltOf (And.right (And.right (And.right (by assumption)))) | exact ktn_ltOf (by assumption)) rfl rfl
set_option maxRecDepth 100000 in
set_option maxHeartbeats 8000000 in
theorem spread_reflect {w mean mg mb news} {t : Tok} {a : Addr} {a0 a1 : Int} (ha : 0 < a1) (ha0 : -1000000000000000 < a0 ∧ a0 < 1000000000000000) (ha1 : a1 < 1000000000000000) :
    Pass w mean mg mb 174 7 [.ref a, .str (Str.ofString "reflect") t] news (fun h₀ => TupIn h₀ news a a0 a1) (R2 news (reflF a0 a1).1 (reflF a0 a1).2) := by
  unfold Pass
  k_fill
  intro dp un gd cn cs a' ccd cl outer A₀ base h₀ L m s Q E B F X N T hk hpre hdd hu hret
  obtain ⟨hp, gs, dr, tk, os⟩ := s
  dsimp only at F N
  have hp1 := hpre
  refine wpAny_call ?_
  k_dflt ktr_enter
  rename Fr h₀ L _ m => FG
  replace hp1 := hp1.into FG
  k_steps
  exact ret2 hret (by k_asm) (by k_asm) (by k_mem) (by kcj_all) (by first | assumption | exact ktn_ltOf (And.right (by assumption)) | exact ktn_ltOf (And.right (And.right (by assumption))) | exact ktn_ltOf (And.right (And.right (And.right (by assumption)))) | exact ktn_ltOf (by assumption)) rfl rfl
theorem words07 : True := by
  k_with_none
  k_with "q" => (first | with_reducible assumption | omega)
  k_with "p0" => (exact trivial)
  k_with "p1" => (walk_at "tup")
  k_with "p2" => (exact ⟨by walk_at "tup", by walk_at "tup"⟩)
  k_with "u" => (exact ⟨by k_asm, by k_asm, by k_asm, by k_asm, by k_asm, by first | exact rfl | assumption⟩)
  k_with "r" => (first | exact room_in (by with_reducible assumption) (by with_reducible assumption) rfl rfl rfl | exact ⟨by ktr_room, by ktr_units⟩)
  k_with "e" => (((try k_sweep); (try dsimp only); (try k_fold)))
  k_with "e2" => ((intro D9 t9 u9 h' tk9 F' N' l1; (try k_lt l1); k_extra "e"))
  k_with "eI" => ((intro t9 h' tk9 F' N'; k_extra "e"))
  k_with "eB" => ((intro h' tk9 F' N'; k_extra "e"))
  k_with "eN" => ((intro h' tk9 F' N'; k_extra "e"))
  k_with "eO" => ((intro D9 h' tk9 F' N' T9 T9b; k_extra "e"))
  k_with "forget" => ((k_here; (with_reducible show wpAny _ _ _ _ _ (Shared.mk _ _ _ (_ + 1) _)); (first | k_dflt (refine forget (by with_reducible assumption) (by with_reducible assumption) (by with_reducible assumption) (by with_reducible assumption) (by rfl) (by rfl) (by rfl) (by rfl) ?_) | with_reducible refine forget_tk ?_); intro tk9))
  k_with "execs cons" => (k_extra "forget")
  k_with "execs nil" => (k_extra "forget")
  k_with "call ref" => ((k_here; (with_reducible show wpAny _ _ (call (Value.ref 67) _) _ _ _); k_dflt (refine Pass.useI (by k_extra "u") (by k_extra "p0") (cd_pass (by k_extra "q")) (by k_extra "r") ?_; k_whole); k_extra "eI"))
  k_with "subscriptTail Name Constant ref int" => ((k_here; k_dflt (refine tin (by k_asm) (by k_asm) (by walk_at "tup") (by rfl) ?_; k_whole); intro t9))
  k_with "call ref" => ((k_here; (with_reducible show wpAny _ _ (call (Value.ref 75) _) _ _ _); k_dflt (refine Pass.use2 (by k_extra "u") (by k_extra "p0") (fr_pass (by k_extra "q") (by k_extra "q")) (by k_extra "r") ?_; k_whole); k_extra "e2"))
  k_with "evi" => ((first | with_reducible exact EvI.lit | ((with_reducible show EvI _ (PySem.Expr.Subscript _ _ _) _); k_dflt (exact EvI.item (by exact rfl) (by exact rfl) (by exact rfl) (by exact rfl) (by walk_at "tup") (by exact rfl))) | ((with_reducible show EvI _ (PySem.Expr.Name _ _) _); k_dflt (exact EvI.name (by exact rfl) (by exact rfl) (by exact rfl) (by exact rfl))) | ((with_reducible show EvI _ (PySem.Expr.BinOp _ Operator.Mult _ _) _); with_reducible exact EvI.mul (by k_extra "evi") (by k_extra "evi") (by k_dflt mul_fits)) | ((with_reducible show EvI _ (PySem.Expr.BinOp _ Operator.Add _ _) _); with_reducible exact EvI.add (by k_extra "evi") (by k_extra "evi")) | ((with_reducible show EvI _ (PySem.Expr.BinOp _ Operator.Sub _ _) _); with_reducible exact EvI.sub (by k_extra "evi") (by k_extra "evi"))))
  k_with "eval BinOp" => ((k_here; k_dflt (refine evi_use (by k_asm) (by k_asm) (by k_extra "evi") ?_; k_whole); intro t9 tk9; (try dsimp only)))
  k_with "call ref" => ((k_here; (with_reducible show wpAny _ _ (call (Value.ref 110) _) _ _ _); k_dflt (refine Pass.useI (by k_extra "u") (by k_extra "p1") (sign_pass) (by k_extra "r") ?_; k_whole); k_extra "eI"))
  k_with "call ref" => ((k_here; (with_reducible show wpAny _ _ (call (Value.ref 89) _) _ _ _); k_dflt (refine Pass.use2 (by k_extra "u") (by k_extra "p2") (minus_pass (by k_extra "q") (by k_extra "q") (by k_extra "q") (by k_extra "q") (by k_extra "q") (by k_extra "q")) (by k_extra "r") ?_; k_whole); k_extra "e2"))
  k_with "call ref" => ((k_here; (with_reducible show wpAny _ _ (call (Value.ref 117) _) _ _ _); k_dflt (refine Pass.useI (by k_extra "u") (by k_extra "p2") (compare_pass (by k_extra "q") (by k_extra "q") (by k_extra "q") (by k_extra "q") (by k_extra "q") (by k_extra "q")) (by k_extra "r") ?_; k_whole); k_extra "eI"))
  k_with "call ref" => ((k_here; (with_reducible show wpAny _ _ (call (Value.ref 124) _) _ _ _); k_dflt (refine Pass.useI (by k_extra "u") (by k_extra "p1") (floor_pass (by k_extra "q") (by k_extra "q") (by k_extra "q")) (by k_extra "r") ?_; k_whole); k_extra "eI"))
  k_with "tup" => (first | ((with_reducible show TupIn _ _ 59 _ _); exact zero_in (by k_asm)) | ((with_reducible show TupIn _ _ 60 _ _); exact one_in (by k_asm)))
  k_with "compareOp NotIn str ref" => ((k_here; k_dflt (first | refine kind_in (by k_asm) (by k_asm) (by decide +kernel) ?_ | refine kind_out (by k_asm) (by k_asm) (by decide +kernel) ?_)))
  k_with "call ref" => ((k_here; (with_reducible show wpAny _ _ (call (Value.ref 75) _) _ _ _); k_dflt (refine Pass.use2 (by k_extra "u") (by k_extra "p0") (fr1_pass) (by k_extra "r") ?_; k_whole); k_extra "e2"))
  k_with "call ref" => ((k_here; (with_reducible show wpAny _ _ (call (Value.ref 167) _) _ _ _); k_dflt (refine Pass.useO (by k_extra "u") (by k_extra "p1") (padded_pass (by k_extra "q") (by k_extra "q") (by k_extra "q")) (by k_extra "r") ?_; k_whole); k_extra "eO"))
  k_with "call ref" => ((k_here; (with_reducible show wpAny _ _ (call (Value.ref 146) _) _ _ _); k_dflt (refine Pass.useN (by k_extra "u") (by k_extra "p0") (check_pad) (by k_extra "r") ?_; k_whole); k_extra "eN"))
  k_with "call ref" => ((k_here; (with_reducible show wpAny _ _ (call (Value.ref 146) _) _ _ _); k_dflt (refine Pass.useN (by k_extra "u") (by k_extra "p0") (check_repeat) (by k_extra "r") ?_; k_whole); k_extra "eN"))
  k_with "call ref" => ((k_here; (with_reducible show wpAny _ _ (call (Value.ref 146) _) _ _ _); k_dflt (refine Pass.useN (by k_extra "u") (by k_extra "p0") (check_reflect) (by k_extra "r") ?_; k_whole); k_extra "eN"))
  k_with "call ref" => ((k_here; (with_reducible show wpAny _ _ (call (Value.ref 153) _) _ _ _); k_dflt (refine Pass.use2 (by k_extra "u") (by k_extra "p1") (part_pass (by k_extra "q") (by k_extra "q") (by k_extra "q")) (by k_extra "r") ?_; k_whole); k_extra "e2"))
  k_with "call ref" => ((k_here; (with_reducible show wpAny _ _ (call (Value.ref 160) _) _ _ _); k_dflt (refine Pass.use2 (by k_extra "u") (by k_extra "p1") (refl_pass (by k_extra "q") (by k_extra "q") (by k_extra "q")) (by k_extra "r") ?_; k_whole); k_extra "e2"))
  trivial

def rtN : Nat → Nat → Nat
  | 0, _ => 0
  | k + 1, n => if (2 * rtN k (n / 4) + 1) * (2 * rtN k (n / 4) + 1) ≤ n then 2 * rtN k (n / 4) + 1 else 2 * rtN k (n / 4)
theorem rtN_spec : ∀ k n, n < 4 ^ k → rtN k n * rtN k n ≤ n ∧ n < (rtN k n + 1) * (rtN k n + 1)
  | 0, n, h => by
    have : n = 0 := by simpa using h
    subst this
    simp [rtN]
  | k + 1, n, h => by
    have ih := rtN_spec k (n / 4) (by rw [Nat.pow_succ] at h; omega)
    rw [rtN]
    generalize rtN k (n / 4) = a at ih
    have e1 : (2 * a) * (2 * a) = 4 * (a * a) := by rw [Nat.mul_mul_mul_comm]
    have e2 : (2 * a + 1 + 1) * (2 * a + 1 + 1) = 4 * ((a + 1) * (a + 1)) := by
      have : 2 * a + 1 + 1 = 2 * (a + 1) := by omega
      rw [this, Nat.mul_mul_mul_comm]
    split
    · exact ⟨by assumption, by rw [e2]; omega⟩
    · exact ⟨by rw [e1]; omega, by omega⟩
theorem rt_ex (n : Int) : ∃ r : Int, 0 ≤ n → n < 1000000000000 → 0 ≤ r ∧ r * r ≤ n ∧ n < (r + 1) * (r + 1) := by
  refine ⟨(rtN 20 n.toNat : Nat), fun h0 h => ?_⟩
  have := rtN_spec 20 n.toNat (by have : (4 : Nat) ^ 20 = 1099511627776 := by decide
                                  omega)
  generalize rtN 20 n.toNat = z at this
  refine ⟨by omega, ?_, ?_⟩
  · have e : ((z * z : Nat) : Int) ≤ n := by omega
    rwa [Int.natCast_mul] at e
  · have e : n < (((z + 1) * (z + 1) : Nat) : Int) := by omega
    rwa [Int.natCast_mul, Int.natCast_add] at e
noncomputable def rt (n : Int) : Int := Classical.choose (rt_ex n)
theorem rt_spec {n : Int} (h0 : 0 ≤ n) (h : n < 1000000000000) : 0 ≤ rt n ∧ rt n * rt n ≤ n ∧ n < (rt n + 1) * (rt n + 1) := Classical.choose_spec (rt_ex n) h0 h
theorem sq_lt {a b : Int} (ha : 0 ≤ a) (h : a * a < b * b) (hb : 0 ≤ b) : a < b := by
  by_cases hh : b ≤ a
  · have := Int.mul_le_mul hh hh hb ha
    omega
  · omega
theorem rt_one {n f : Int} (h0 : 0 ≤ n) (h : n < 1000000000000) (hf : 0 ≤ f) (h1 : f * f ≤ n) (h2 : n < (f + 1) * (f + 1)) : f = rt n := by
  obtain ⟨r0, r1, r2⟩ := rt_spec h0 h
  have a := sq_lt hf (show f * f < (rt n + 1) * (rt n + 1) by omega) (by omega)
  have b := sq_lt r0 (show rt n * rt n < (f + 1) * (f + 1) by omega) (by omega)
  omega
theorem sq_ge (x y : Int) : 4 * (x * y) ≤ (x + y) * (x + y) := by
  have h : 0 ≤ (x - y) * (x - y) := by
    rcases Int.le_total 0 (x - y) with h | h
    · exact Int.mul_nonneg h h
    · exact Int.mul_nonneg_of_nonpos_of_nonpos h h
  have e1 : (x - y) * (x - y) = x * x - y * x - (x * y - y * y) := by rw [Int.sub_mul, Int.mul_sub, Int.mul_sub, Int.mul_comm x y]
  have e2 : (x + y) * (x + y) = x * x + y * x + (x * y + y * y) := by rw [Int.add_mul, Int.mul_add, Int.mul_add, Int.mul_comm x y]
  have e3 : y * x = x * y := Int.mul_comm ..
  omega
theorem nw_step {n f : Int} (hn : 0 ≤ n) (hf : 0 < f) : n < ((f + n / f) / 2 + 1) * ((f + n / f) / 2 + 1) := by
  have hq : n < f * (n / f + 1) := by
    have h1 := Int.emod_lt_of_pos n hf
    have h2 := Int.emod_def n f
    rw [Int.mul_add, Int.mul_one]
    omega
  have hq0 := Int.ediv_nonneg hn (Int.le_of_lt hf)
  generalize n / f = q at hq hq0
  have h3 := sq_ge f (q + 1)
  have h5 : f + (q + 1) ≤ 2 * ((f + q) / 2 + 1) := by omega
  generalize (f + q) / 2 + 1 = l at h5
  have h6 := Int.mul_le_mul h5 h5 (by omega) (by omega)
  have e : 2 * l * (2 * l) = 4 * (l * l) := by rw [Int.mul_assoc, Int.mul_left_comm l 2 l]; omega
  omega
def UpP (n f : Int) : Prop := 1 ≤ f ∧ f ≤ 2 * n
theorem up_turn {n f : Int} (h : UpP n f) (h2 : f * f ≤ n) : UpP n (f * 2) := by
  have := Int.mul_le_mul_of_nonneg_right h.1 (show 0 ≤ f by have := h.1; omega)
  exact ⟨by have := h.1; omega, by omega⟩
theorem up_less {n f : Int} (h : UpP n f) (h2 : f * f ≤ n) : (2 * n + 1 - f * 2).toNat < (2 * n + 1 - f).toNat := by
  have := (up_turn h h2).2
  have := h.1
  omega
def DnP (n f l : Int) : Prop := 1 ≤ f ∧ f ≤ 2000000000000 ∧ n < (f + 1) * (f + 1) ∧ l = (f + n.fdiv f).fdiv 2
theorem dn_of {n f : Int} : (f + n / f) / 2 = (f + n.fdiv f).fdiv 2 ∨ f ≤ 0 := by
  by_cases h : 0 < f
  · left; rw [Int.fdiv_eq_ediv_of_nonneg _ (by omega), Int.fdiv_eq_ediv_of_nonneg _ (by omega)]
  · right; omega
theorem dn_start {n f : Int} (hn : n < 1000000000000) (h : UpP n f) (h2 : ¬ f * f ≤ n) : DnP n f ((f + n.fdiv f).fdiv 2) := by
  refine ⟨h.1, by have := h.2; omega, ?_, rfl⟩
  have h1 := h.1
  rw [Int.mul_add, Int.add_mul]
  omega
theorem dn_pos {n f l : Int} (hn : 0 < n) (h : DnP n f l) (h2 : l < f) : 1 ≤ l := by
  obtain ⟨h1, _, _, h4⟩ := h
  have e := (dn_of (n := n) (f := f)).resolve_right (by omega)
  rw [← e] at h4
  by_cases hf : f = 1
  · subst hf
    rw [Int.ediv_one] at h4
    omega
  · have := Int.ediv_nonneg (Int.le_of_lt hn) (show 0 ≤ f by omega)
    omega
theorem dn_turn {n f l : Int} (hn : 0 < n) (h : DnP n f l) (h2 : l < f) : DnP n l ((l + n.fdiv l).fdiv 2) := by
  have hp := dn_pos hn h h2
  obtain ⟨h1, h3, _, h4⟩ := h
  refine ⟨hp, by omega, ?_, rfl⟩
  have e := (dn_of (n := n) (f := f)).resolve_right (by omega)
  rw [h4, ← e]
  exact nw_step (Int.le_of_lt hn) (by omega)
theorem dn_less {n f l : Int} (hn : 0 < n) (h : DnP n f l) (h2 : l < f) : l.toNat < f.toNat := by
  have := dn_pos hn h h2
  omega
theorem dn_end {n f l : Int} (hn : 0 < n) (hn2 : n < 1000000000000) (h : DnP n f l) (h2 : ¬ l < f) : f = rt n := by
  obtain ⟨h1, _, h3, h4⟩ := h
  have e := (dn_of (n := n) (f := f)).resolve_right (by omega)
  rw [← e] at h4
  have h5 : f ≤ n / f := by omega
  have h6 := Int.mul_le_mul_of_nonneg_right h5 (show 0 ≤ f by omega)
  have h7 := Int.ediv_mul_le n (show f ≠ 0 by omega)
  exact rt_one (by omega) hn2 (by omega) (by omega) h3
theorem up_b {n f : Int} (h : UpP n f) (hn : n < 1000000000000) : 1 ≤ f ∧ f < 2000000000000 := ⟨h.1, by have := h.2; omega⟩
theorem up_both {n f : Int} (h : UpP n f) (hn : n < 1000000000000) (h2 : f * f ≤ n) : UpP n (f * 2) ∧ 1 ≤ f * 2 ∧ f * 2 < 2000000000000 :=
  have h3 := up_turn h h2
  ⟨h3, up_b h3 hn⟩
theorem dn_one {n f : Int} (hn : 0 < n) (hf : 1 ≤ f) : 1 ≤ (f + n.fdiv f).fdiv 2 := by
  have e := (dn_of (n := n) (f := f)).resolve_right (by omega)
  rw [← e]
  by_cases h : f = 1
  · subst h
    rw [Int.ediv_one]
    omega
  · have := Int.ediv_nonneg (Int.le_of_lt hn) (show 0 ≤ f by omega)
    omega
theorem dn_both0 {n f : Int} (h0 : 0 < n) (hn : n < 1000000000000) (h : UpP n f) (h2 : ¬ f * f ≤ n) : DnP n f ((f + n.fdiv f).fdiv 2) ∧ 1 ≤ f ∧ f < 2000000000000 ∧ 1 ≤ (f + n.fdiv f).fdiv 2 :=
  ⟨dn_start hn h h2, h.1, (up_b h hn).2, dn_one h0 h.1⟩
theorem dn_both {n f l : Int} (hn : 0 < n) (h : DnP n f l) (h2 : l < f) : DnP n l ((l + n.fdiv l).fdiv 2) ∧ 1 ≤ l ∧ l < 2000000000000 ∧ 1 ≤ (l + n.fdiv l).fdiv 2 :=
  ⟨dn_turn hn h h2, dn_pos hn h h2, by have := h.2.1; omega, dn_one hn (dn_pos hn h h2)⟩
theorem rt_zero : rt 0 = 0 := (rt_one (by decide) (by decide) (by decide) (by decide) (by decide)).symm
set_option maxRecDepth 100000 in
set_option maxHeartbeats 8000000 in
theorem root_pass {w mean mg mb news} {n : Int} {tn : Tok} (hn : 0 ≤ n) (hn2 : n < 1000000000000) :
    Pass w mean mg mb 138 1 [.int n tn] news (fun _ => True) (RI news (rt n)) := by
  unfold Pass
  k_fill
  intro dp un gd cn cs a' ccd cl outer A₀ base h₀ L m s Q E B F X N T hk hpre hdd hu hret
  obtain ⟨hp, gs, dr, tk, os⟩ := s
  dsimp only at F N
  k_with "exec While Compare cons nil" => (k_while (fun _ f => UpP n f ∧ 1 ≤ f ∧ f < 2000000000000) (fun _ f => (2 * n + 1 - f).toNat) "found")
  k_with "exec While Compare cons nil" => (k_while (fun _ f l => DnP n f l ∧ 1 ≤ f ∧ f < 2000000000000 ∧ 1 ≤ l) (fun _ f l => f.toNat) "found" "lower")
  k_with "state" => ((first | exact ⟨⟨by omega, by omega⟩, by omega, by omega⟩ | exact up_both (by assumption) (by assumption) (by assumption) | exact dn_both0 (by omega) (by assumption) (by assumption) (by assumption) | exact dn_both (by omega) (by assumption) (by assumption) ))
  k_with "measure" => ((first | exact up_less (by assumption) (by assumption) | exact dn_less (by omega) (by assumption) (by assumption)))
  refine wpAny_call ?_
  k_dflt ktr_enter
  k_steps
  · exact retI hret (by k_asm) (by k_asm) (by kcj_all) (by rename n = 0 => e; rw [e, rt_zero])
  · exact retI hret (by k_asm) (by k_asm) (by kcj_all) (dn_end (by omega) hn2 (by assumption) (by assumption))
theorem words08 : True := by
  k_with_none
  k_with "q" => (first | with_reducible assumption | omega)
  k_with "p0" => (exact trivial)
  k_with "p1" => (walk_at "tup")
  k_with "p2" => (exact ⟨by walk_at "tup", by walk_at "tup"⟩)
  k_with "u" => (exact ⟨by k_asm, by k_asm, by k_asm, by k_asm, by k_asm, by first | exact rfl | assumption⟩)
  k_with "r" => (first | exact room_in (by with_reducible assumption) (by with_reducible assumption) rfl rfl rfl | exact ⟨by ktr_room, by ktr_units⟩)
  k_with "e" => (((try k_sweep); (try dsimp only); (try k_fold)))
  k_with "e2" => ((intro D9 t9 u9 h' tk9 F' N' l1; (try k_lt l1); k_extra "e"))
  k_with "eI" => ((intro t9 h' tk9 F' N'; k_extra "e"))
  k_with "eB" => ((intro h' tk9 F' N'; k_extra "e"))
  k_with "eN" => ((intro h' tk9 F' N'; k_extra "e"))
  k_with "eO" => ((intro D9 h' tk9 F' N' T9 T9b; k_extra "e"))
  k_with "forget" => ((k_here; (with_reducible show wpAny _ _ _ _ _ (Shared.mk _ _ _ (_ + 1) _)); (first | k_dflt (refine forget (by with_reducible assumption) (by with_reducible assumption) (by with_reducible assumption) (by with_reducible assumption) (by rfl) (by rfl) (by rfl) (by rfl) ?_) | with_reducible refine forget_tk ?_); intro tk9))
  k_with "execs cons" => (k_extra "forget")
  k_with "execs nil" => (k_extra "forget")
  k_with "call ref" => ((k_here; (with_reducible show wpAny _ _ (call (Value.ref 67) _) _ _ _); k_dflt (refine Pass.useI (by k_extra "u") (by k_extra "p0") (cd_pass (by k_extra "q")) (by k_extra "r") ?_; k_whole); k_extra "eI"))
  k_with "subscriptTail Name Constant ref int" => ((k_here; k_dflt (refine tin (by k_asm) (by k_asm) (by walk_at "tup") (by rfl) ?_; k_whole); intro t9))
  k_with "call ref" => ((k_here; (with_reducible show wpAny _ _ (call (Value.ref 75) _) _ _ _); k_dflt (refine Pass.use2 (by k_extra "u") (by k_extra "p0") (fr_pass (by k_extra "q") (by k_extra "q")) (by k_extra "r") ?_; k_whole); k_extra "e2"))
  k_with "evi" => ((first | with_reducible exact EvI.lit | ((with_reducible show EvI _ (PySem.Expr.Subscript _ _ _) _); k_dflt (exact EvI.item (by exact rfl) (by exact rfl) (by exact rfl) (by exact rfl) (by walk_at "tup") (by exact rfl))) | ((with_reducible show EvI _ (PySem.Expr.Name _ _) _); k_dflt (exact EvI.name (by exact rfl) (by exact rfl) (by exact rfl) (by exact rfl))) | ((with_reducible show EvI _ (PySem.Expr.BinOp _ Operator.Mult _ _) _); with_reducible exact EvI.mul (by k_extra "evi") (by k_extra "evi") (by k_dflt mul_fits)) | ((with_reducible show EvI _ (PySem.Expr.BinOp _ Operator.Add _ _) _); with_reducible exact EvI.add (by k_extra "evi") (by k_extra "evi")) | ((with_reducible show EvI _ (PySem.Expr.BinOp _ Operator.Sub _ _) _); with_reducible exact EvI.sub (by k_extra "evi") (by k_extra "evi"))))
  k_with "eval BinOp" => ((k_here; k_dflt (refine evi_use (by k_asm) (by k_asm) (by k_extra "evi") ?_; k_whole); intro t9 tk9; (try dsimp only)))
  k_with "call ref" => ((k_here; (with_reducible show wpAny _ _ (call (Value.ref 110) _) _ _ _); k_dflt (refine Pass.useI (by k_extra "u") (by k_extra "p1") (sign_pass) (by k_extra "r") ?_; k_whole); k_extra "eI"))
  k_with "call ref" => ((k_here; (with_reducible show wpAny _ _ (call (Value.ref 89) _) _ _ _); k_dflt (refine Pass.use2 (by k_extra "u") (by k_extra "p2") (minus_pass (by k_extra "q") (by k_extra "q") (by k_extra "q") (by k_extra "q") (by k_extra "q") (by k_extra "q")) (by k_extra "r") ?_; k_whole); k_extra "e2"))
  k_with "call ref" => ((k_here; (with_reducible show wpAny _ _ (call (Value.ref 117) _) _ _ _); k_dflt (refine Pass.useI (by k_extra "u") (by k_extra "p2") (compare_pass (by k_extra "q") (by k_extra "q") (by k_extra "q") (by k_extra "q") (by k_extra "q") (by k_extra "q")) (by k_extra "r") ?_; k_whole); k_extra "eI"))
  k_with "call ref" => ((k_here; (with_reducible show wpAny _ _ (call (Value.ref 124) _) _ _ _); k_dflt (refine Pass.useI (by k_extra "u") (by k_extra "p1") (floor_pass (by k_extra "q") (by k_extra "q") (by k_extra "q")) (by k_extra "r") ?_; k_whole); k_extra "eI"))
  k_with "tup" => (first | ((with_reducible show TupIn _ _ 59 _ _); exact zero_in (by k_asm)) | ((with_reducible show TupIn _ _ 60 _ _); exact one_in (by k_asm)))
  k_with "compareOp NotIn str ref" => ((k_here; k_dflt (first | refine kind_in (by k_asm) (by k_asm) (by decide +kernel) ?_ | refine kind_out (by k_asm) (by k_asm) (by decide +kernel) ?_)))
  k_with "call ref" => ((k_here; (with_reducible show wpAny _ _ (call (Value.ref 75) _) _ _ _); k_dflt (refine Pass.use2 (by k_extra "u") (by k_extra "p0") (fr1_pass) (by k_extra "r") ?_; k_whole); k_extra "e2"))
  k_with "call ref" => ((k_here; (with_reducible show wpAny _ _ (call (Value.ref 167) _) _ _ _); k_dflt (refine Pass.useO (by k_extra "u") (by k_extra "p1") (padded_pass (by k_extra "q") (by k_extra "q") (by k_extra "q")) (by k_extra "r") ?_; k_whole); k_extra "eO"))
  k_with "call ref" => ((k_here; (with_reducible show wpAny _ _ (call (Value.ref 146) _) _ _ _); k_dflt (refine Pass.useN (by k_extra "u") (by k_extra "p0") (check_pad) (by k_extra "r") ?_; k_whole); k_extra "eN"))
  k_with "call ref" => ((k_here; (with_reducible show wpAny _ _ (call (Value.ref 146) _) _ _ _); k_dflt (refine Pass.useN (by k_extra "u") (by k_extra "p0") (check_repeat) (by k_extra "r") ?_; k_whole); k_extra "eN"))
  k_with "call ref" => ((k_here; (with_reducible show wpAny _ _ (call (Value.ref 146) _) _ _ _); k_dflt (refine Pass.useN (by k_extra "u") (by k_extra "p0") (check_reflect) (by k_extra "r") ?_; k_whole); k_extra "eN"))
  k_with "call ref" => ((k_here; (with_reducible show wpAny _ _ (call (Value.ref 153) _) _ _ _); k_dflt (refine Pass.use2 (by k_extra "u") (by k_extra "p1") (part_pass (by k_extra "q") (by k_extra "q") (by k_extra "q")) (by k_extra "r") ?_; k_whole); k_extra "e2"))
  k_with "call ref" => ((k_here; (with_reducible show wpAny _ _ (call (Value.ref 160) _) _ _ _); k_dflt (refine Pass.use2 (by k_extra "u") (by k_extra "p1") (refl_pass (by k_extra "q") (by k_extra "q") (by k_extra "q")) (by k_extra "r") ?_; k_whole); k_extra "e2"))
  trivial
theorem reg801 : True := by
  k_with "call ref" => ((k_here; (with_reducible show wpAny _ _ (call (Value.ref 138) _) _ _ _); k_dflt (refine Pass.useI (by k_extra "u") (by k_extra "p0") (root_pass (by k_extra "q") (by k_extra "q")) (by k_extra "r") ?_; k_whole); k_extra "eI"))
  trivial
theorem mul_in {a b : Int} (ha : -10000000 < a ∧ a < 10000000) (hb : -10000000 < b ∧ b < 10000000) : -100000000000000 < a * b ∧ a * b < 100000000000000 := by
  have h : (a * b).natAbs < 10000000 * 10000000 := by
    rw [Int.natAbs_mul]
    exact Nat.mul_lt_mul'' (by omega) (by omega)
  omega
theorem nm1_le {t b : Int} (hb : 0 < b) (h : 0 ≤ t) : 0 ≤ (nm t b).1 ∧ (nm t b).1 ≤ t := ⟨Int.ediv_nonneg h (Int.le_of_lt (nm_gcd hb)), Int.ediv_le_self _ h⟩
theorem nm1_abs {t b c : Int} (hb : 0 < b) (h : -c < t ∧ t < c) : -c < (nm t b).1 ∧ (nm t b).1 < c := by
  have hg := nm_gcd (t := t) hb
  show -c < t / _ ∧ t / _ < c
  generalize (Int.gcd t b : Int) = y at hg
  by_cases hx : 0 ≤ t
  · have h1 := Int.ediv_nonneg hx (Int.le_of_lt hg)
    have h2 := Int.ediv_le_self y hx
    omega
  · have h1 : t ≤ t / y := Int.le_ediv_of_mul_le hg (by have := Int.mul_nonneg (a := -t) (b := y - 1) (by omega) (by omega); rw [Int.mul_sub, Int.neg_mul, Int.mul_one] at this; omega)
    have h2 : t / y < 0 := Int.ediv_neg_of_neg_of_pos (by omega) hg
    omega
theorem nm1_pos {t b : Int} (hb : 0 < b) (h : 0 < t) : 0 < (nm t b).1 := Int.ediv_pos_of_pos_of_dvd h (Int.le_of_lt (nm_gcd hb)) (Int.gcd_dvd_left ..)
theorem nm_11 (x : Int) : nm x (1 * 1) = (x, 1) := nm_one x
theorem nm_1n {n : Int} (h : 0 < n) : nm 1 n = (1, n) := by simp [nm]
/-! contracts with their values told ahead -/
def Fb (u v : Int) : Prop := 0 < v ∧ (-1000000000000000 < u ∧ u < 1000000000000000) ∧ v < 1000000000000000
def Box (u v T B : Int) : Prop := (0 ≤ u ∧ u ≤ T) ∧ 0 < v ∧ v ≤ B
theorem Box.fb {u v T B : Int} (h : Box u v T B) (hT : T < 1000000000000000) (hB : B < 1000000000000000) : Fb u v := ⟨h.2.1, ⟨Int.lt_of_lt_of_le (by decide) h.1.1, Int.lt_of_le_of_lt h.1.2 hT⟩, Int.lt_of_le_of_lt h.2.2 hB⟩
theorem Fb.one {u : Int} (h : -1000000000000000 < u ∧ u < 1000000000000000) : Fb u 1 := ⟨by decide, h, by decide⟩
theorem box_e {t b u v T B : Int} (e : nm t b = (u, v)) (h0 : 0 ≤ t) (h1 : t ≤ T) (h2 : 0 < b) (h3 : b ≤ B) : Box u v T B := by
  have a1 := nm1_le (t := t) h2 h0
  have a2 := nm2_pos (t := t) h2
  have a3 := nm2_le (t := t) h2
  rw [e] at a1 a2 a3
  exact ⟨⟨a1.1, Int.le_trans a1.2 h1⟩, a2, Int.le_trans a3 h3⟩
theorem fb_e {t b u v : Int} (e : nm t b = (u, v)) (h1 : -100000000000000 < t ∧ t < 100000000000000) (h2 : 0 < b) (h3 : b < 1000000000000000) : Fb u v := by
  have a1 := nm1_abs (t := t) h2 h1
  have a2 := nm2_pos (t := t) h2
  have a3 := nm2_le (t := t) h2
  rw [e] at a1 a2 a3
  exact ⟨a2, ⟨Int.lt_trans (by decide) a1.1, Int.lt_trans a1.2 (by decide)⟩, Int.lt_of_le_of_lt a3 h3⟩
theorem Pass.same2 {w mean mg mb f need vs news pre} {c : Int × Int} {u v : Int} (h : Pass w mean mg mb f need vs news pre (R2 news c.1 c.2)) (e : c = (u, v)) : Pass w mean mg mb f need vs news pre (R2 news u v) := by rw [e] at h; exact h
section
variable {w : World} {mean : ExcName → Option Value} {mg mb : Str → Option Value} {news : List (Addr × Obj)} {a b : Addr} {a0 a1 b0 b1 u v : Int}
theorem times_e (ha : Fb a0 a1) (hb : Fb b0 b1) (e : nm (a0 * b0) (a1 * b1) = (u, v)) : Pass w mean mg mb 96 3 [.ref a, .ref b] news (fun h₀ => TupIn h₀ news a a0 a1 ∧ TupIn h₀ news b b0 b1) (R2 news u v) := (times_pass ha.1 hb.1 ha.2.1 hb.2.1 ha.2.2 hb.2.2).same2 e
theorem plus_e (ha : Fb a0 a1) (hb : Fb b0 b1) (e : nm (a0 * b1 + b0 * a1) (a1 * b1) = (u, v)) : Pass w mean mg mb 82 3 [.ref a, .ref b] news (fun h₀ => TupIn h₀ news a a0 a1 ∧ TupIn h₀ news b b0 b1) (R2 news u v) := (plus_pass ha.1 hb.1 ha.2.1 hb.2.1 ha.2.2 hb.2.2).same2 e
theorem divided_e (ha : Fb a0 a1) (hb : Fb b0 b1) (hp : 0 < b0) (e : nm (a0 * b1) (a1 * b0) = (u, v)) : Pass w mean mg mb 103 3 [.ref a, .ref b] news (fun h₀ => TupIn h₀ news a a0 a1 ∧ TupIn h₀ news b b0 b1) (R2 news u v) := (divided_pass ha.1 hb.1 ha.2.1 hp hb.2.1 ha.2.2 hb.2.2).same2 e
theorem compare_f (ha : Fb a0 a1) (hb : Fb b0 b1) : Pass w mean mg mb 117 2 [.ref a, .ref b] news (fun h₀ => TupIn h₀ news a a0 a1 ∧ TupIn h₀ news b b0 b1) (RI news (sg (a0 * b1 - b0 * a1))) := compare_pass ha.1 hb.1 ha.2.1 hb.2.1 ha.2.2 hb.2.2
theorem rounded_f (ha : Fb a0 a1) : Pass w mean mg mb 131 1 [.ref a] news (fun h₀ => TupIn h₀ news a a0 a1) (RI news ((2 * a0 + a1) / (2 * a1))) := rounded_pass ha.1 ha.2.1 ha.2.2
theorem fr_e {x y : Int} {tx ty : Tok} (hy : 0 < y) (hb : y < 1000000000000000000000000000000) (e : nm x y = (u, v)) : Pass w mean mg mb 75 2 [.int x tx, .int y ty] news (fun _ => True) (R2 news u v) := (fr_pass hy hb).same2 e
end
theorem reg802 : True := by
  k_with "call ref" => ((k_here; (with_reducible show wpAny _ _ (call (Value.ref 96) _) _ _ _); k_dflt (refine Pass.use2 (by k_extra "u") (by k_extra "p2") (times_e (by k_extra "q") (by k_extra "q") (by k_extra "q")) (by k_extra "r") ?_; k_whole); k_extra "e2"))
  k_with "call ref" => ((k_here; (with_reducible show wpAny _ _ (call (Value.ref 82) _) _ _ _); k_dflt (refine Pass.use2 (by k_extra "u") (by k_extra "p2") (plus_e (by k_extra "q") (by k_extra "q") (by k_extra "q")) (by k_extra "r") ?_; k_whole); k_extra "e2"))
  k_with "call ref" => ((k_here; (with_reducible show wpAny _ _ (call (Value.ref 117) _) _ _ _); k_dflt (refine Pass.useI (by k_extra "u") (by k_extra "p2") (compare_f (by k_extra "q") (by k_extra "q")) (by k_extra "r") ?_; k_whole); k_extra "eI"))
  k_with "call ref" => ((k_here; (with_reducible show wpAny _ _ (call (Value.ref 131) _) _ _ _); k_dflt (refine Pass.useI (by k_extra "u") (by k_extra "p1") (rounded_f (by k_extra "q")) (by k_extra "r") ?_; k_whole); k_extra "eI"))
  trivial
def betF (P Q : Int) : Int := (2 * P + Q) / (2 * Q)
set_option maxRecDepth 100000 in
set_option maxHeartbeats 8000000 in
theorem between_e {w mean mg mb news} {one other s0 s1 u1 v1 u2 v2 : Int} {a : Addr} {t1 t2 : Tok} (f1 : Fb (other - one) 1) (f2 : Fb s0 s1) (e1 : nm ((other - one) * s0) (1 * s1) = (u1, v1)) (f3 : Fb one 1) (f4 : Fb u1 v1) (e2 : nm (one * v1 + u1 * 1) (1 * v1) = (u2, v2)) (f5 : Fb u2 v2) (h1 : 0 ≤ one ∧ one ≤ 255) (h2 : 0 ≤ other ∧ other ≤ 255) :
    Pass w mean mg mb 181 4 [.int one t1, .int other t2, .ref a] news (fun h₀ => TupIn h₀ news a s0 s1) (RI news (betF u2 v2)) := by
  unfold Pass
  k_fill
  intro dp un gd cn cs a' ccd cl outer A₀ base h₀ L m s Q E B F X N T hk hpre hdd hu hret
  obtain ⟨hp, gs, dr, tk, os⟩ := s
  dsimp only at F N
  have hp1 := hpre
  refine wpAny_call ?_
  k_dflt ktr_enter
  rename Fr h₀ L _ m => FG
  replace hp1 := hp1.into FG
  k_steps
  all_goals exact retI hret (by k_asm) (by k_asm) (by kcj_all) (rfl)
theorem words09 : True := by
  k_with_none
  k_with "q" => (first | with_reducible assumption | omega)
  k_with "p0" => (exact trivial)
  k_with "p1" => (walk_at "tup")
  k_with "p2" => (exact ⟨by walk_at "tup", by walk_at "tup"⟩)
  k_with "u" => (exact ⟨by k_asm, by k_asm, by k_asm, by k_asm, by k_asm, by first | exact rfl | assumption⟩)
  k_with "r" => (first | exact room_in (by with_reducible assumption) (by with_reducible assumption) rfl rfl rfl | exact ⟨by ktr_room, by ktr_units⟩)
  k_with "e" => (((try k_sweep); (try dsimp only); (try k_fold)))
  k_with "e2" => ((intro D9 t9 u9 h' tk9 F' N' l1; (try k_lt l1); k_extra "e"))
  k_with "eI" => ((intro t9 h' tk9 F' N'; k_extra "e"))
  k_with "eB" => ((intro h' tk9 F' N'; k_extra "e"))
  k_with "eN" => ((intro h' tk9 F' N'; k_extra "e"))
  k_with "eO" => ((intro D9 h' tk9 F' N' T9 T9b; k_extra "e"))
  k_with "forget" => ((k_here; (with_reducible show wpAny _ _ _ _ _ (Shared.mk _ _ _ (_ + 1) _)); (first | k_dflt (refine forget (by with_reducible assumption) (by with_reducible assumption) (by with_reducible assumption) (by with_reducible assumption) (by rfl) (by rfl) (by rfl) (by rfl) ?_) | with_reducible refine forget_tk ?_); intro tk9))
  k_with "execs cons" => (k_extra "forget")
  k_with "execs nil" => (k_extra "forget")
  k_with "call ref" => ((k_here; (with_reducible show wpAny _ _ (call (Value.ref 67) _) _ _ _); k_dflt (refine Pass.useI (by k_extra "u") (by k_extra "p0") (cd_pass (by k_extra "q")) (by k_extra "r") ?_; k_whole); k_extra "eI"))
  k_with "subscriptTail Name Constant ref int" => ((k_here; k_dflt (refine tin (by k_asm) (by k_asm) (by walk_at "tup") (by rfl) ?_; k_whole); intro t9))
  k_with "call ref" => ((k_here; (with_reducible show wpAny _ _ (call (Value.ref 75) _) _ _ _); k_dflt (refine Pass.use2 (by k_extra "u") (by k_extra "p0") (fr_pass (by k_extra "q") (by k_extra "q")) (by k_extra "r") ?_; k_whole); k_extra "e2"))
  k_with "evi" => ((first | with_reducible exact EvI.lit | ((with_reducible show EvI _ (PySem.Expr.Subscript _ _ _) _); k_dflt (exact EvI.item (by exact rfl) (by exact rfl) (by exact rfl) (by exact rfl) (by walk_at "tup") (by exact rfl))) | ((with_reducible show EvI _ (PySem.Expr.Name _ _) _); k_dflt (exact EvI.name (by exact rfl) (by exact rfl) (by exact rfl) (by exact rfl))) | ((with_reducible show EvI _ (PySem.Expr.BinOp _ Operator.Mult _ _) _); with_reducible exact EvI.mul (by k_extra "evi") (by k_extra "evi") (by k_dflt mul_fits)) | ((with_reducible show EvI _ (PySem.Expr.BinOp _ Operator.Add _ _) _); with_reducible exact EvI.add (by k_extra "evi") (by k_extra "evi")) | ((with_reducible show EvI _ (PySem.Expr.BinOp _ Operator.Sub _ _) _); with_reducible exact EvI.sub (by k_extra "evi") (by k_extra "evi"))))
  k_with "eval BinOp" => ((k_here; k_dflt (refine evi_use (by k_asm) (by k_asm) (by k_extra "evi") ?_; k_whole); intro t9 tk9; (try dsimp only)))
  k_with "call ref" => ((k_here; (with_reducible show wpAny _ _ (call (Value.ref 110) _) _ _ _); k_dflt (refine Pass.useI (by k_extra "u") (by k_extra "p1") (sign_pass) (by k_extra "r") ?_; k_whole); k_extra "eI"))
  k_with "call ref" => ((k_here; (with_reducible show wpAny _ _ (call (Value.ref 89) _) _ _ _); k_dflt (refine Pass.use2 (by k_extra "u") (by k_extra "p2") (minus_pass (by k_extra "q") (by k_extra "q") (by k_extra "q") (by k_extra "q") (by k_extra "q") (by k_extra "q")) (by k_extra "r") ?_; k_whole); k_extra "e2"))
  k_with "call ref" => ((k_here; (with_reducible show wpAny _ _ (call (Value.ref 117) _) _ _ _); k_dflt (refine Pass.useI (by k_extra "u") (by k_extra "p2") (compare_pass (by k_extra "q") (by k_extra "q") (by k_extra "q") (by k_extra "q") (by k_extra "q") (by k_extra "q")) (by k_extra "r") ?_; k_whole); k_extra "eI"))
  k_with "call ref" => ((k_here; (with_reducible show wpAny _ _ (call (Value.ref 124) _) _ _ _); k_dflt (refine Pass.useI (by k_extra "u") (by k_extra "p1") (floor_pass (by k_extra "q") (by k_extra "q") (by k_extra "q")) (by k_extra "r") ?_; k_whole); k_extra "eI"))
  k_with "tup" => (first | ((with_reducible show TupIn _ _ 59 _ _); exact zero_in (by k_asm)) | ((with_reducible show TupIn _ _ 60 _ _); exact one_in (by k_asm)))
  k_with "compareOp NotIn str ref" => ((k_here; k_dflt (first | refine kind_in (by k_asm) (by k_asm) (by decide +kernel) ?_ | refine kind_out (by k_asm) (by k_asm) (by decide +kernel) ?_)))
  k_with "call ref" => ((k_here; (with_reducible show wpAny _ _ (call (Value.ref 75) _) _ _ _); k_dflt (refine Pass.use2 (by k_extra "u") (by k_extra "p0") (fr1_pass) (by k_extra "r") ?_; k_whole); k_extra "e2"))
  k_with "call ref" => ((k_here; (with_reducible show wpAny _ _ (call (Value.ref 167) _) _ _ _); k_dflt (refine Pass.useO (by k_extra "u") (by k_extra "p1") (padded_pass (by k_extra "q") (by k_extra "q") (by k_extra "q")) (by k_extra "r") ?_; k_whole); k_extra "eO"))
  k_with "call ref" => ((k_here; (with_reducible show wpAny _ _ (call (Value.ref 146) _) _ _ _); k_dflt (refine Pass.useN (by k_extra "u") (by k_extra "p0") (check_pad) (by k_extra "r") ?_; k_whole); k_extra "eN"))
  k_with "call ref" => ((k_here; (with_reducible show wpAny _ _ (call (Value.ref 146) _) _ _ _); k_dflt (refine Pass.useN (by k_extra "u") (by k_extra "p0") (check_repeat) (by k_extra "r") ?_; k_whole); k_extra "eN"))
  k_with "call ref" => ((k_here; (with_reducible show wpAny _ _ (call (Value.ref 146) _) _ _ _); k_dflt (refine Pass.useN (by k_extra "u") (by k_extra "p0") (check_reflect) (by k_extra "r") ?_; k_whole); k_extra "eN"))
  k_with "call ref" => ((k_here; (with_reducible show wpAny _ _ (call (Value.ref 153) _) _ _ _); k_dflt (refine Pass.use2 (by k_extra "u") (by k_extra "p1") (part_pass (by k_extra "q") (by k_extra "q") (by k_extra "q")) (by k_extra "r") ?_; k_whole); k_extra "e2"))
  k_with "call ref" => ((k_here; (with_reducible show wpAny _ _ (call (Value.ref 160) _) _ _ _); k_dflt (refine Pass.use2 (by k_extra "u") (by k_extra "p1") (refl_pass (by k_extra "q") (by k_extra "q") (by k_extra "q")) (by k_extra "r") ?_; k_whole); k_extra "e2"))
  trivial
/-! the draws -/
abbrev lst2 (x : Int) (t : Tok) (y : Int) (u : Tok) (n : Nat) : Obj := listOf #[.int x t, .int y u] n
def RTk (src : Addr) (rest : List (Addr × Obj)) (top : Int) (n : Nat) (_ : Heap) (r : Value) (news' : List (Addr × Obj)) : Prop :=
  ∃ v vt x' t' y' u', r = .int v vt ∧ 0 ≤ v ∧ v < top ∧ 0 ≤ x' ∧ 0 ≤ y' ∧ y' < 2147483647 ∧ news' = (src, lst2 x' t' y' u' n) :: rest
theorem updF_rot {src : Addr} {o : Obj} {news : List (Addr × Obj)} {g : Obj → List (Addr × Obj)} (U : UpdF src o news g) : ∃ rest, (∀ p ∈ rest, p.1 ≠ src) ∧ (∀ p ∈ (src, o) :: rest, p ∈ news) ∧ ∀ o', ∀ p ∈ g o', p ∈ (src, o') :: rest := by
  obtain ⟨pre, post, rfl, hg, a, b⟩ := U.split
  refine ⟨pre ++ post, fun p hp => (List.mem_append.mp hp).elim (a p) (b p), fun p hp => ?_, fun o' p hp => ?_⟩
  · rcases List.mem_cons.mp hp with rfl | hp
    · exact List.mem_append.mpr (.inr (.head _))
    · exact (List.mem_append.mp hp).elim (fun h => List.mem_append.mpr (.inl h)) fun h => List.mem_append.mpr (.inr (.tail _ h))
  · rw [hg] at hp
    rcases List.mem_append.mp hp with h | h
    · exact .tail _ (List.mem_append.mpr (.inl h))
    · rcases List.mem_cons.mp h with rfl | h
      · exact .head _
      · exact .tail _ (List.mem_append.mpr (.inr h))
section
variable {w : World} {mean : ExcName → Option Value} {mg mb : Str → Option Value} {f : Addr} {need : Nat} {vs : List Value} {news : List (Addr × Obj)} {g : Obj → List (Addr × Obj)} {pre : Heap → Prop} {src : Addr} {x y top : Int} {tx ty : Tok} {n : Nat} {rest : List (Addr × Obj)}
    {dp un : Nat} {gd : Option (List Code)} {cn : Str} {cs : Scope} {a : Addr} {ccd : Value} {cl : List (Str × Addr)} {outer : List Env} {A₀ : Around} {base h₀ : Heap} {L : Addr} {m : Str → Option Value} {s : Shared} {Q E : Value → Shared → Prop}
theorem retT {v : Int} {vt : Tok} {x' y' : Int} {t' u' : Tok} {h' : Heap} {tk' : Nat} {news'' : List (Addr × Obj)} (hret : ∀ r news' h' tk', Fr h₀ L h' m → News h₀ L h' news' → RTk src rest top n h₀ r news' → Q r { s with heap := h', toks := tk' })
    (F : Fr h₀ L h' m) (N : News h₀ L h' news'') (hs : ∀ p ∈ (src, lst2 x' t' y' u' n) :: rest, p ∈ news'') (h0 : 0 ≤ v) (h1 : v < top) (h2 : 0 ≤ x') (h3 : 0 ≤ y') (h4 : y' < 2147483647) : Q (.int v vt) { s with heap := h', toks := tk' } :=
  hret _ _ _ _ F (cb_drop N hs) ⟨v, vt, x', t', y', u', rfl, h0, h1, h2, h3, h4, rfl⟩
end
theorem fmod_in {a b : Int} (h : 0 < b) : 0 ≤ a.fmod b ∧ a.fmod b < b := by
  rw [Int.fmod_eq_emod_of_nonneg _ (Int.le_of_lt h)]
  exact ⟨Int.emod_nonneg a (by omega), Int.emod_lt_of_pos a h⟩
section
variable {prog : Program} {w : World} {A : Around} {E : Value → Shared → Prop} {s : Shared} {h₀ : Heap} {L a : Addr} {m : Str → Option Value} {news : List (Addr × Obj)} {x y : Int} {t u : Tok} {n : Nat} {value slice : PySem.Expr} {Q : Value → Shared → Prop}
theorem lin {k : Int} {kt : Tok} {v : Int} (N : News h₀ L s.heap news) (hm : (a, lst2 x t y u n) ∈ news) (hv : pick2 k x y = some v) (h : ∀ t, Q (.int v t) s)
    (hs : subscripted slice false (.ref a) (.int k kt) = operate [.ref a, .int k kt] (getItem (.ref a) (.int k kt)) := by with_unfolding_all rfl) :
    wpAny (model prog w) A (subscriptTail value slice (.ref a) (.int k kt)) Q E s := by
  have hl : s.heap.IsList a #[.int x t, .int y u] := News.isList N hm
  unfold pick2 at hv
  split at hv
  · rename_i e
    subst e
    obtain rfl := Option.some.inj hv
    exact tail_any hl.typeIs slot_list_getitem.lookup (wpAny_getItem_list hl (by decide) (by decide) rfl (h t)) hs
  · split at hv
    · rename_i e
      subst e
      obtain rfl := Option.some.inj hv
      exact tail_any hl.typeIs slot_list_getitem.lookup (wpAny_getItem_list hl (by decide) (by decide) rfl (h u)) hs
    · cases hv
end
local macro_rules | `(tactic| k_upd) => `(tactic| exact Upd.head (by assumption))
theorem reg901 : True := by
  k_with "subscriptTail Name Constant ref int" => ((k_here; k_dflt (refine lin (by k_asm) (List.Mem.head _) (by rfl) ?_; k_whole); intro t9))
  trivial
set_option maxRecDepth 100000 in
set_option maxHeartbeats 8000000 in
theorem take_pass {w mean mg mb rest} {src : Addr} {x y top : Int} {t u tt : Tok} {n : Nat} (hx : 0 ≤ x) (hy : 0 ≤ y) (hy2 : y < 2147483647) (ht : 0 < top) (ht2 : top < 1000000) (hr : ∀ p ∈ rest, p.1 ≠ src) :
    Pass w mean mg mb 216 1 [.ref src, .int top tt] ((src, lst2 x t y u n) :: rest) (fun _ => True) (RTk src rest top n) := by
  have e1 := fmod_in (a := y * 39373 + 7) (b := 2147483647) (by decide)
  unfold Pass
  k_fill
  intro dp un gd cn cs a' ccd cl outer A₀ base h₀ L m s Q E B F X N T hk hpre hdd hu hret
  obtain ⟨hp, gs, dr, tk, os⟩ := s
  dsimp only at F N
  refine wpAny_call ?_
  k_dflt ktr_enter
  k_steps
  · refine' retT hret ?F ?N ?S (fmod_in ht).1 (fmod_in ht).2 ?h hy hy2
    case F => k_asm
    case N => k_asm
    case S => kcj_all
    case h => rw [fd ht]; exact Int.ediv_nonneg hx (Int.le_of_lt ht)
  · refine' retT hret ?F ?N ?S (fmod_in ht).1 (fmod_in ht).2 hx e1.1 e1.2
    case F => k_asm
    case N => k_asm
    case S => kcj_all
section
variable {w : World} {mean : ExcName → Option Value} {mg mb : Str → Option Value} {news : List (Addr × Obj)} {g : Obj → List (Addr × Obj)} {src : Addr} {x y top : Int} {tx ty tt : Tok} {n : Nat}
    {dp un : Nat} {gd : Option (List Code)} {cn : Str} {cs : Scope} {a : Addr} {ccd : Value} {cl : List (Str × Addr)} {outer : List Env} {A₀ : Around} {base h₀ : Heap} {L : Addr} {m : Str → Option Value} {s : Shared} {Q E : Value → Shared → Prop}
theorem use_take (H : Here w mean mg mb A₀ base outer h₀ L m news s cs)
    (U : UpdF src (lst2 x tx y ty n) news g) (hx : 0 ≤ x) (hy : 0 ≤ y) (hy2 : y < 2147483647) (ht : 0 < top) (ht2 : top < 1000000) (hr : dp + 1 < recursionLimit ∧ un + 8 * 1 < cLine)
    (h : ∀ v vt x' t' y' u' h' tk', 0 ≤ v → v < top → 0 ≤ x' → 0 ≤ y' → y' < 2147483647 → Fr h₀ L h' m → News h₀ L h' (g (lst2 x' t' y' u' n)) → Q (.int v vt) { s with heap := h', toks := tk' }) :
    wpAny (model PySem.Challenge.rw_on0231_01.row.prog w) (ktrTop dp un gd cn cs L a ccd cl outer) (call (.ref 216) [.ref src, .int top tt]) Q E s := by
  obtain ⟨rest, h1, h2, h3⟩ := updF_rot U
  refine Pass.use H.B H.F H.X (cb_drop H.N h2) H.T H.hk (take_pass hx hy hy2 ht ht2 h1) trivial hr.1 hr.2 fun r news' h' tk' F' N' hR => ?_
  obtain ⟨v, vt, x', t', y', u', rfl, k0, k1, k2, k3, k4, rfl⟩ := hR
  exact h v vt x' t' y' u' h' tk' k0 k1 k2 k3 k4 F' (cb_drop N' (h3 _))
end
theorem reg902 : True := by
  k_with "eT" => ((intro v9 vt9 x9 t9 y9 u9 h' tk9 b1 b2 b3 b4 b5 F' N'; (try dsimp only at N'); k_extra "e"))
  k_with "call ref" => ((k_here; (with_reducible show wpAny _ _ (call (Value.ref 216) _) _ _ _); k_dflt (refine use_take (by k_extra "u") (by k_updF) (by k_extra "q") (by k_extra "q") (by k_extra "q") (by k_extra "q") (by k_extra "q") (by k_extra "r") ?_; k_whole); k_extra "eT"))
  trivial
theorem words10 : True := by
  k_with_none
  k_with "q" => (first | with_reducible assumption | omega)
  k_with "p0" => (exact trivial)
  k_with "p1" => (walk_at "tup")
  k_with "p2" => (exact ⟨by walk_at "tup", by walk_at "tup"⟩)
  k_with "u" => (exact ⟨by k_asm, by k_asm, by k_asm, by k_asm, by k_asm, by first | exact rfl | assumption⟩)
  k_with "r" => (first | exact room_in (by with_reducible assumption) (by with_reducible assumption) rfl rfl rfl | exact ⟨by ktr_room, by ktr_units⟩)
  k_with "e" => (((try k_sweep); (try dsimp only); (try k_fold)))
  k_with "e2" => ((intro D9 t9 u9 h' tk9 F' N' l1; (try k_lt l1); k_extra "e"))
  k_with "eI" => ((intro t9 h' tk9 F' N'; k_extra "e"))
  k_with "eB" => ((intro h' tk9 F' N'; k_extra "e"))
  k_with "eN" => ((intro h' tk9 F' N'; k_extra "e"))
  k_with "eO" => ((intro D9 h' tk9 F' N' T9 T9b; k_extra "e"))
  k_with "forget" => ((k_here; (with_reducible show wpAny _ _ _ _ _ (Shared.mk _ _ _ (_ + 1) _)); (first | k_dflt (refine forget (by with_reducible assumption) (by with_reducible assumption) (by with_reducible assumption) (by with_reducible assumption) (by rfl) (by rfl) (by rfl) (by rfl) ?_) | with_reducible refine forget_tk ?_); intro tk9))
  k_with "execs cons" => (k_extra "forget")
  k_with "execs nil" => (k_extra "forget")
  k_with "call ref" => ((k_here; (with_reducible show wpAny _ _ (call (Value.ref 67) _) _ _ _); k_dflt (refine Pass.useI (by k_extra "u") (by k_extra "p0") (cd_pass (by k_extra "q")) (by k_extra "r") ?_; k_whole); k_extra "eI"))
  k_with "subscriptTail Name Constant ref int" => ((k_here; k_dflt (refine tin (by k_asm) (by k_asm) (by walk_at "tup") (by rfl) ?_; k_whole); intro t9))
  k_with "call ref" => ((k_here; (with_reducible show wpAny _ _ (call (Value.ref 75) _) _ _ _); k_dflt (refine Pass.use2 (by k_extra "u") (by k_extra "p0") (fr_pass (by k_extra "q") (by k_extra "q")) (by k_extra "r") ?_; k_whole); k_extra "e2"))
  k_with "evi" => ((first | with_reducible exact EvI.lit | ((with_reducible show EvI _ (PySem.Expr.Subscript _ _ _) _); k_dflt (exact EvI.item (by exact rfl) (by exact rfl) (by exact rfl) (by exact rfl) (by walk_at "tup") (by exact rfl))) | ((with_reducible show EvI _ (PySem.Expr.Name _ _) _); k_dflt (exact EvI.name (by exact rfl) (by exact rfl) (by exact rfl) (by exact rfl))) | ((with_reducible show EvI _ (PySem.Expr.BinOp _ Operator.Mult _ _) _); with_reducible exact EvI.mul (by k_extra "evi") (by k_extra "evi") (by k_dflt mul_fits)) | ((with_reducible show EvI _ (PySem.Expr.BinOp _ Operator.Add _ _) _); with_reducible exact EvI.add (by k_extra "evi") (by k_extra "evi")) | ((with_reducible show EvI _ (PySem.Expr.BinOp _ Operator.Sub _ _) _); with_reducible exact EvI.sub (by k_extra "evi") (by k_extra "evi"))))
  k_with "eval BinOp" => ((k_here; k_dflt (refine evi_use (by k_asm) (by k_asm) (by k_extra "evi") ?_; k_whole); intro t9 tk9; (try dsimp only)))
  k_with "call ref" => ((k_here; (with_reducible show wpAny _ _ (call (Value.ref 110) _) _ _ _); k_dflt (refine Pass.useI (by k_extra "u") (by k_extra "p1") (sign_pass) (by k_extra "r") ?_; k_whole); k_extra "eI"))
  k_with "call ref" => ((k_here; (with_reducible show wpAny _ _ (call (Value.ref 89) _) _ _ _); k_dflt (refine Pass.use2 (by k_extra "u") (by k_extra "p2") (minus_pass (by k_extra "q") (by k_extra "q") (by k_extra "q") (by k_extra "q") (by k_extra "q") (by k_extra "q")) (by k_extra "r") ?_; k_whole); k_extra "e2"))
  k_with "call ref" => ((k_here; (with_reducible show wpAny _ _ (call (Value.ref 117) _) _ _ _); k_dflt (refine Pass.useI (by k_extra "u") (by k_extra "p2") (compare_pass (by k_extra "q") (by k_extra "q") (by k_extra "q") (by k_extra "q") (by k_extra "q") (by k_extra "q")) (by k_extra "r") ?_; k_whole); k_extra "eI"))
  k_with "call ref" => ((k_here; (with_reducible show wpAny _ _ (call (Value.ref 124) _) _ _ _); k_dflt (refine Pass.useI (by k_extra "u") (by k_extra "p1") (floor_pass (by k_extra "q") (by k_extra "q") (by k_extra "q")) (by k_extra "r") ?_; k_whole); k_extra "eI"))
  k_with "tup" => (first | ((with_reducible show TupIn _ _ 59 _ _); exact zero_in (by k_asm)) | ((with_reducible show TupIn _ _ 60 _ _); exact one_in (by k_asm)))
  k_with "compareOp NotIn str ref" => ((k_here; k_dflt (first | refine kind_in (by k_asm) (by k_asm) (by decide +kernel) ?_ | refine kind_out (by k_asm) (by k_asm) (by decide +kernel) ?_)))
  k_with "call ref" => ((k_here; (with_reducible show wpAny _ _ (call (Value.ref 75) _) _ _ _); k_dflt (refine Pass.use2 (by k_extra "u") (by k_extra "p0") (fr1_pass) (by k_extra "r") ?_; k_whole); k_extra "e2"))
  k_with "call ref" => ((k_here; (with_reducible show wpAny _ _ (call (Value.ref 167) _) _ _ _); k_dflt (refine Pass.useO (by k_extra "u") (by k_extra "p1") (padded_pass (by k_extra "q") (by k_extra "q") (by k_extra "q")) (by k_extra "r") ?_; k_whole); k_extra "eO"))
  k_with "call ref" => ((k_here; (with_reducible show wpAny _ _ (call (Value.ref 146) _) _ _ _); k_dflt (refine Pass.useN (by k_extra "u") (by k_extra "p0") (check_pad) (by k_extra "r") ?_; k_whole); k_extra "eN"))
  k_with "call ref" => ((k_here; (with_reducible show wpAny _ _ (call (Value.ref 146) _) _ _ _); k_dflt (refine Pass.useN (by k_extra "u") (by k_extra "p0") (check_repeat) (by k_extra "r") ?_; k_whole); k_extra "eN"))
  k_with "call ref" => ((k_here; (with_reducible show wpAny _ _ (call (Value.ref 146) _) _ _ _); k_dflt (refine Pass.useN (by k_extra "u") (by k_extra "p0") (check_reflect) (by k_extra "r") ?_; k_whole); k_extra "eN"))
  k_with "call ref" => ((k_here; (with_reducible show wpAny _ _ (call (Value.ref 153) _) _ _ _); k_dflt (refine Pass.use2 (by k_extra "u") (by k_extra "p1") (part_pass (by k_extra "q") (by k_extra "q") (by k_extra "q")) (by k_extra "r") ?_; k_whole); k_extra "e2"))
  k_with "call ref" => ((k_here; (with_reducible show wpAny _ _ (call (Value.ref 160) _) _ _ _); k_dflt (refine Pass.use2 (by k_extra "u") (by k_extra "p1") (refl_pass (by k_extra "q") (by k_extra "q") (by k_extra "q")) (by k_extra "r") ?_; k_whole); k_extra "e2"))
  k_with "call ref" => ((k_here; (with_reducible show wpAny _ _ (call (Value.ref 138) _) _ _ _); k_dflt (refine Pass.useI (by k_extra "u") (by k_extra "p0") (root_pass (by k_extra "q") (by k_extra "q")) (by k_extra "r") ?_; k_whole); k_extra "eI"))
  k_with "call ref" => ((k_here; (with_reducible show wpAny _ _ (call (Value.ref 96) _) _ _ _); k_dflt (refine Pass.use2 (by k_extra "u") (by k_extra "p2") (times_e (by k_extra "q") (by k_extra "q") (by k_extra "q")) (by k_extra "r") ?_; k_whole); k_extra "e2"))
  k_with "call ref" => ((k_here; (with_reducible show wpAny _ _ (call (Value.ref 82) _) _ _ _); k_dflt (refine Pass.use2 (by k_extra "u") (by k_extra "p2") (plus_e (by k_extra "q") (by k_extra "q") (by k_extra "q")) (by k_extra "r") ?_; k_whole); k_extra "e2"))
  k_with "call ref" => ((k_here; (with_reducible show wpAny _ _ (call (Value.ref 117) _) _ _ _); k_dflt (refine Pass.useI (by k_extra "u") (by k_extra "p2") (compare_f (by k_extra "q") (by k_extra "q")) (by k_extra "r") ?_; k_whole); k_extra "eI"))
  k_with "call ref" => ((k_here; (with_reducible show wpAny _ _ (call (Value.ref 131) _) _ _ _); k_dflt (refine Pass.useI (by k_extra "u") (by k_extra "p1") (rounded_f (by k_extra "q")) (by k_extra "r") ?_; k_whole); k_extra "eI"))
  trivial
/-! a tuple of two objects -/
abbrev tupR (p q : Addr) : Obj := { cls := .type "tuple", data := .seq #[.ref p, .ref q] }
def TupR (h₀ : Heap) (news : List (Addr × Obj)) (a p q : Addr) : Prop := IsTup h₀ a #[.ref p, .ref q] ∨ (a, tupR p q) ∈ news
theorem TupR.at {h₀ h : Heap} {L a p q : Addr} {m : Str → Option Value} {news : List (Addr × Obj)} (T : TupR h₀ news a p q) (F : Fr h₀ L h m) (N : News h₀ L h news) : IsTup h a #[.ref p, .ref q] := by
  rcases T with T | T
  · exact F.tup T
  · exact ⟨_, (N _ T).1, rfl, _, rfl⟩
theorem TupR.cons {h₀ : Heap} {news : List (Addr × Obj)} {o : Addr × Obj} {a p q : Addr} (T : TupR h₀ news a p q) : TupR h₀ (o :: news) a p q := T.imp id fun h => .tail _ h
theorem TupR.head {h₀ : Heap} {news : List (Addr × Obj)} {a p q : Addr} : TupR h₀ ((a, tupR p q) :: news) a p q := .inr (.head _)
theorem TupR.into {h₀ g : Heap} {L a p q : Addr} {m : Str → Option Value} {news : List (Addr × Obj)} (T : TupR h₀ news a p q) (F : Fr h₀ L g m) : TupR g news a p q := T.imp (fun h => F.tup h) id
section
variable {prog : Program} {w : World} {A : Around} {E : Value → Shared → Prop} {s : Shared} {h₀ : Heap} {L a p q : Addr} {m : Str → Option Value} {news : List (Addr × Obj)} {value slice : PySem.Expr} {Q : Value → Shared → Prop}
def pickR (k : Int) (p q : Addr) : Option Addr := if k = 0 then some p else if k = 1 then some q else none
theorem trin {k : Int} {kt : Tok} {v : Addr} (F : Fr h₀ L s.heap m) (N : News h₀ L s.heap news) (T : TupR h₀ news a p q) (hv : pickR k p q = some v) (h : Q (.ref v) s)
    (hs : subscripted slice false (.ref a) (.int k kt) = operate [.ref a, .int k kt] (getItem (.ref a) (.int k kt)) := by with_unfolding_all rfl) :
    wpAny (model prog w) A (subscriptTail value slice (.ref a) (.int k kt)) Q E s := by
  have T := T.at F N
  unfold pickR at hv
  split at hv
  · rename_i e
    subst e
    obtain rfl := Option.some.inj hv
    exact item_tupleT T (by decide) (by decide) rfl rfl h hs
  · split at hv
    · rename_i e
      subst e
      obtain rfl := Option.some.inj hv
      exact item_tupleT T (by decide) (by decide) rfl rfl h hs
    · cases hv
end
local macro_rules | `(tactic| walk_at "tupR") => `(tactic| ((with_reducible show TupR _ _ _ _ _); first | with_reducible assumption | with_reducible exact TupR.head | (with_reducible refine' TupR.cons ?tt; (case tt => walk_at "tupR"))))
theorem reg1001 : True := by
  k_with "p3" => (exact ⟨by walk_at "tupR", by walk_at "tup", by walk_at "tup"⟩)
  k_with "subscriptTail Name Constant ref int" => ((k_here; k_dflt (refine trin (by k_asm) (by k_asm) (by walk_at "tupR") (by rfl) ?_; k_whole)))
  trivial
theorem Pass.sameR {w mean mg mb f need vs news pre} {x y x' y' : Int} (h : Pass w mean mg mb f need vs news pre (R2 news x y)) (e1 : x = x') (e2 : y = y') : Pass w mean mg mb f need vs news pre (R2 news x' y') := by subst e1 e2; exact h
theorem times1_e {w mean mg mb news} {a b : Addr} {a0 b0 u : Int} (ha : Fb a0 1) (hb : Fb b0 1) (e : a0 * b0 = u) :
    Pass w mean mg mb 96 3 [.ref a, .ref b] news (fun h₀ => TupIn h₀ news a a0 1 ∧ TupIn h₀ news b b0 1) (R2 news u 1) := times_e ha hb (by rw [nm_11, e])
theorem plus1_e {w mean mg mb news} {a b : Addr} {a0 b0 u : Int} (ha : Fb a0 1) (hb : Fb b0 1) (e : a0 + b0 = u) :
    Pass w mean mg mb 82 3 [.ref a, .ref b] news (fun h₀ => TupIn h₀ news a a0 1 ∧ TupIn h₀ news b b0 1) (R2 news u 1) := plus_e ha hb (by rw [nm_11, ← e]; simp)
theorem reg1002 : True := by
  k_with "call ref" => ((k_here; (with_reducible show wpAny _ _ (call (Value.ref 96) _) _ _ _); k_dflt (refine Pass.use2 (by k_extra "u") (by k_extra "p2") (times1_e (by k_extra "q") (by k_extra "q") (by k_extra "q")) (by k_extra "r") ?_; k_whole); k_extra "e2"))
  k_with "call ref" => ((k_here; (with_reducible show wpAny _ _ (call (Value.ref 82) _) _ _ _); k_dflt (refine Pass.use2 (by k_extra "u") (by k_extra "p2") (plus1_e (by k_extra "q") (by k_extra "q") (by k_extra "q")) (by k_extra "r") ?_; k_whole); k_extra "e2"))
  trivial
set_option maxRecDepth 100000 in
set_option maxHeartbeats 8000000 in
theorem product_e {w mean mg mb news} {a p q : Addr} {x y xx yy S : Int} (fx : Fb x 1) (fy : Fb y 1) (ex : x * x = xx) (ey : y * y = yy) (gx : Fb xx 1) (gy : Fb yy 1) (eS : xx + yy = S) :
    Pass w mean mg mb 188 4 [.ref a, .ref a] news (fun h₀ => TupR h₀ news a p q ∧ TupIn h₀ news p x 1 ∧ TupIn h₀ news q y 1) (R2 news S 1) := by
  unfold Pass
  k_fill
  intro dp un gd cn cs a' ccd cl outer A₀ base h₀ L m s Q E B F X N T hk hpre hdd hu hret
  obtain ⟨hp, gs, dr, tk, os⟩ := s
  dsimp only at F N
  obtain ⟨hp1, hp2, hp3⟩ := hpre
  refine wpAny_call ?_
  k_dflt ktr_enter
  rename Fr h₀ L _ m => FG
  replace hp1 := hp1.into FG
  replace hp2 := hp2.into FG
  replace hp3 := hp3.into FG
  k_steps
  exact ret2 hret (by k_asm) (by k_asm) (by k_mem) (by kcj_all) (by first | assumption | exact ktn_ltOf (And.right (by assumption)) | exact ktn_ltOf (And.right (And.right (by assumption))) | exact ktn_ltOf (And.right (And.right (And.right (by assumption)))) | exact ktn_ltOf (by assumption)) rfl rfl
theorem words11 : True := by
  k_with_none
  k_with "q" => (first | with_reducible assumption | omega)
  k_with "p0" => (exact trivial)
  k_with "p1" => (walk_at "tup")
  k_with "p2" => (exact ⟨by walk_at "tup", by walk_at "tup"⟩)
  k_with "u" => (exact ⟨by k_asm, by k_asm, by k_asm, by k_asm, by k_asm, by first | exact rfl | assumption⟩)
  k_with "r" => (first | exact room_in (by with_reducible assumption) (by with_reducible assumption) rfl rfl rfl | exact ⟨by ktr_room, by ktr_units⟩)
  k_with "e" => (((try k_sweep); (try dsimp only); (try k_fold)))
  k_with "e2" => ((intro D9 t9 u9 h' tk9 F' N' l1; (try k_lt l1); k_extra "e"))
  k_with "eI" => ((intro t9 h' tk9 F' N'; k_extra "e"))
  k_with "eB" => ((intro h' tk9 F' N'; k_extra "e"))
  k_with "eN" => ((intro h' tk9 F' N'; k_extra "e"))
  k_with "eO" => ((intro D9 h' tk9 F' N' T9 T9b; k_extra "e"))
  k_with "forget" => ((k_here; (with_reducible show wpAny _ _ _ _ _ (Shared.mk _ _ _ (_ + 1) _)); (first | k_dflt (refine forget (by with_reducible assumption) (by with_reducible assumption) (by with_reducible assumption) (by with_reducible assumption) (by rfl) (by rfl) (by rfl) (by rfl) ?_) | with_reducible refine forget_tk ?_); intro tk9))
  k_with "execs cons" => (k_extra "forget")
  k_with "execs nil" => (k_extra "forget")
  k_with "call ref" => ((k_here; (with_reducible show wpAny _ _ (call (Value.ref 67) _) _ _ _); k_dflt (refine Pass.useI (by k_extra "u") (by k_extra "p0") (cd_pass (by k_extra "q")) (by k_extra "r") ?_; k_whole); k_extra "eI"))
  k_with "subscriptTail Name Constant ref int" => ((k_here; k_dflt (refine tin (by k_asm) (by k_asm) (by walk_at "tup") (by rfl) ?_; k_whole); intro t9))
  k_with "call ref" => ((k_here; (with_reducible show wpAny _ _ (call (Value.ref 75) _) _ _ _); k_dflt (refine Pass.use2 (by k_extra "u") (by k_extra "p0") (fr_pass (by k_extra "q") (by k_extra "q")) (by k_extra "r") ?_; k_whole); k_extra "e2"))
  k_with "evi" => ((first | with_reducible exact EvI.lit | ((with_reducible show EvI _ (PySem.Expr.Subscript _ _ _) _); k_dflt (exact EvI.item (by exact rfl) (by exact rfl) (by exact rfl) (by exact rfl) (by walk_at "tup") (by exact rfl))) | ((with_reducible show EvI _ (PySem.Expr.Name _ _) _); k_dflt (exact EvI.name (by exact rfl) (by exact rfl) (by exact rfl) (by exact rfl))) | ((with_reducible show EvI _ (PySem.Expr.BinOp _ Operator.Mult _ _) _); with_reducible exact EvI.mul (by k_extra "evi") (by k_extra "evi") (by k_dflt mul_fits)) | ((with_reducible show EvI _ (PySem.Expr.BinOp _ Operator.Add _ _) _); with_reducible exact EvI.add (by k_extra "evi") (by k_extra "evi")) | ((with_reducible show EvI _ (PySem.Expr.BinOp _ Operator.Sub _ _) _); with_reducible exact EvI.sub (by k_extra "evi") (by k_extra "evi"))))
  k_with "eval BinOp" => ((k_here; k_dflt (refine evi_use (by k_asm) (by k_asm) (by k_extra "evi") ?_; k_whole); intro t9 tk9; (try dsimp only)))
  k_with "call ref" => ((k_here; (with_reducible show wpAny _ _ (call (Value.ref 110) _) _ _ _); k_dflt (refine Pass.useI (by k_extra "u") (by k_extra "p1") (sign_pass) (by k_extra "r") ?_; k_whole); k_extra "eI"))
  k_with "call ref" => ((k_here; (with_reducible show wpAny _ _ (call (Value.ref 89) _) _ _ _); k_dflt (refine Pass.use2 (by k_extra "u") (by k_extra "p2") (minus_pass (by k_extra "q") (by k_extra "q") (by k_extra "q") (by k_extra "q") (by k_extra "q") (by k_extra "q")) (by k_extra "r") ?_; k_whole); k_extra "e2"))
  k_with "call ref" => ((k_here; (with_reducible show wpAny _ _ (call (Value.ref 117) _) _ _ _); k_dflt (refine Pass.useI (by k_extra "u") (by k_extra "p2") (compare_pass (by k_extra "q") (by k_extra "q") (by k_extra "q") (by k_extra "q") (by k_extra "q") (by k_extra "q")) (by k_extra "r") ?_; k_whole); k_extra "eI"))
  k_with "call ref" => ((k_here; (with_reducible show wpAny _ _ (call (Value.ref 124) _) _ _ _); k_dflt (refine Pass.useI (by k_extra "u") (by k_extra "p1") (floor_pass (by k_extra "q") (by k_extra "q") (by k_extra "q")) (by k_extra "r") ?_; k_whole); k_extra "eI"))
  k_with "tup" => (first | ((with_reducible show TupIn _ _ 59 _ _); exact zero_in (by k_asm)) | ((with_reducible show TupIn _ _ 60 _ _); exact one_in (by k_asm)))
  k_with "compareOp NotIn str ref" => ((k_here; k_dflt (first | refine kind_in (by k_asm) (by k_asm) (by decide +kernel) ?_ | refine kind_out (by k_asm) (by k_asm) (by decide +kernel) ?_)))
  k_with "call ref" => ((k_here; (with_reducible show wpAny _ _ (call (Value.ref 75) _) _ _ _); k_dflt (refine Pass.use2 (by k_extra "u") (by k_extra "p0") (fr1_pass) (by k_extra "r") ?_; k_whole); k_extra "e2"))
  k_with "call ref" => ((k_here; (with_reducible show wpAny _ _ (call (Value.ref 167) _) _ _ _); k_dflt (refine Pass.useO (by k_extra "u") (by k_extra "p1") (padded_pass (by k_extra "q") (by k_extra "q") (by k_extra "q")) (by k_extra "r") ?_; k_whole); k_extra "eO"))
  k_with "call ref" => ((k_here; (with_reducible show wpAny _ _ (call (Value.ref 146) _) _ _ _); k_dflt (refine Pass.useN (by k_extra "u") (by k_extra "p0") (check_pad) (by k_extra "r") ?_; k_whole); k_extra "eN"))
  k_with "call ref" => ((k_here; (with_reducible show wpAny _ _ (call (Value.ref 146) _) _ _ _); k_dflt (refine Pass.useN (by k_extra "u") (by k_extra "p0") (check_repeat) (by k_extra "r") ?_; k_whole); k_extra "eN"))
  k_with "call ref" => ((k_here; (with_reducible show wpAny _ _ (call (Value.ref 146) _) _ _ _); k_dflt (refine Pass.useN (by k_extra "u") (by k_extra "p0") (check_reflect) (by k_extra "r") ?_; k_whole); k_extra "eN"))
  k_with "call ref" => ((k_here; (with_reducible show wpAny _ _ (call (Value.ref 153) _) _ _ _); k_dflt (refine Pass.use2 (by k_extra "u") (by k_extra "p1") (part_pass (by k_extra "q") (by k_extra "q") (by k_extra "q")) (by k_extra "r") ?_; k_whole); k_extra "e2"))
  k_with "call ref" => ((k_here; (with_reducible show wpAny _ _ (call (Value.ref 160) _) _ _ _); k_dflt (refine Pass.use2 (by k_extra "u") (by k_extra "p1") (refl_pass (by k_extra "q") (by k_extra "q") (by k_extra "q")) (by k_extra "r") ?_; k_whole); k_extra "e2"))
  k_with "call ref" => ((k_here; (with_reducible show wpAny _ _ (call (Value.ref 138) _) _ _ _); k_dflt (refine Pass.useI (by k_extra "u") (by k_extra "p0") (root_pass (by k_extra "q") (by k_extra "q")) (by k_extra "r") ?_; k_whole); k_extra "eI"))
  k_with "call ref" => ((k_here; (with_reducible show wpAny _ _ (call (Value.ref 96) _) _ _ _); k_dflt (refine Pass.use2 (by k_extra "u") (by k_extra "p2") (times_e (by k_extra "q") (by k_extra "q") (by k_extra "q")) (by k_extra "r") ?_; k_whole); k_extra "e2"))
  k_with "call ref" => ((k_here; (with_reducible show wpAny _ _ (call (Value.ref 82) _) _ _ _); k_dflt (refine Pass.use2 (by k_extra "u") (by k_extra "p2") (plus_e (by k_extra "q") (by k_extra "q") (by k_extra "q")) (by k_extra "r") ?_; k_whole); k_extra "e2"))
  k_with "call ref" => ((k_here; (with_reducible show wpAny _ _ (call (Value.ref 117) _) _ _ _); k_dflt (refine Pass.useI (by k_extra "u") (by k_extra "p2") (compare_f (by k_extra "q") (by k_extra "q")) (by k_extra "r") ?_; k_whole); k_extra "eI"))
  k_with "call ref" => ((k_here; (with_reducible show wpAny _ _ (call (Value.ref 131) _) _ _ _); k_dflt (refine Pass.useI (by k_extra "u") (by k_extra "p1") (rounded_f (by k_extra "q")) (by k_extra "r") ?_; k_whole); k_extra "eI"))
  trivial
set_option maxRecDepth 100000 in
set_option maxHeartbeats 8000000 in
theorem rootof_pass {w mean mg mb news} {a : Addr} {a0 a1 n : Int} {tn : Tok} (h0 : 0 ≤ a0 * a1 * n * n ∧ a0 * a1 * n * n < 1000000000000) (ha1 : 0 < a1) (ha2 : a1 < 10000) (hn : 0 < n) (hn2 : n < 10000) (ha0 : 0 ≤ a0) (ha3 : a0 < 10000000) (h5 : 0 ≤ a0 * a1) (h6 : a0 * a1 * n < 1000000000000000) :
    Pass w mean mg mb 195 3 [.ref a, .int n tn] news (fun h₀ => TupIn h₀ news a a0 a1) (R2 news (nm (rt (a0 * a1 * n * n)) (a1 * n)).1 (nm (rt (a0 * a1 * n * n)) (a1 * n)).2) := by
  have e1 := mul_in (a := a1) (b := n) (by omega) (by omega)
  have e2 := Int.mul_pos ha1 hn
  unfold Pass
  k_fill
  intro dp un gd cn cs a' ccd cl outer A₀ base h₀ L m s Q E B F X N T hk hpre hdd hu hret
  obtain ⟨hp, gs, dr, tk, os⟩ := s
  dsimp only at F N
  have hp1 := hpre
  refine wpAny_call ?_
  k_dflt ktr_enter
  rename Fr h₀ L _ m => FG
  replace hp1 := hp1.into FG
  k_steps
  exact ret2 hret (by k_asm) (by k_asm) (by k_mem) (by kcj_all) (by first | assumption | exact ktn_ltOf (And.right (by assumption)) | exact ktn_ltOf (And.right (And.right (by assumption))) | exact ktn_ltOf (And.right (And.right (And.right (by assumption)))) | exact ktn_ltOf (by assumption)) rfl rfl
theorem words12 : True := by
  k_with_none
  k_with "q" => (first | with_reducible assumption | omega)
  k_with "p0" => (exact trivial)
  k_with "p1" => (walk_at "tup")
  k_with "p2" => (exact ⟨by walk_at "tup", by walk_at "tup"⟩)
  k_with "u" => (exact ⟨by k_asm, by k_asm, by k_asm, by k_asm, by k_asm, by first | exact rfl | assumption⟩)
  k_with "r" => (first | exact room_in (by with_reducible assumption) (by with_reducible assumption) rfl rfl rfl | exact ⟨by ktr_room, by ktr_units⟩)
  k_with "e" => (((try k_sweep); (try dsimp only); (try k_fold)))
  k_with "e2" => ((intro D9 t9 u9 h' tk9 F' N' l1; (try k_lt l1); k_extra "e"))
  k_with "eI" => ((intro t9 h' tk9 F' N'; k_extra "e"))
  k_with "eB" => ((intro h' tk9 F' N'; k_extra "e"))
  k_with "eN" => ((intro h' tk9 F' N'; k_extra "e"))
  k_with "eO" => ((intro D9 h' tk9 F' N' T9 T9b; k_extra "e"))
  k_with "forget" => ((k_here; (with_reducible show wpAny _ _ _ _ _ (Shared.mk _ _ _ (_ + 1) _)); (first | k_dflt (refine forget (by with_reducible assumption) (by with_reducible assumption) (by with_reducible assumption) (by with_reducible assumption) (by rfl) (by rfl) (by rfl) (by rfl) ?_) | with_reducible refine forget_tk ?_); intro tk9))
  k_with "execs cons" => (k_extra "forget")
  k_with "execs nil" => (k_extra "forget")
  k_with "call ref" => ((k_here; (with_reducible show wpAny _ _ (call (Value.ref 67) _) _ _ _); k_dflt (refine Pass.useI (by k_extra "u") (by k_extra "p0") (cd_pass (by k_extra "q")) (by k_extra "r") ?_; k_whole); k_extra "eI"))
  k_with "subscriptTail Name Constant ref int" => ((k_here; k_dflt (refine tin (by k_asm) (by k_asm) (by walk_at "tup") (by rfl) ?_; k_whole); intro t9))
  k_with "call ref" => ((k_here; (with_reducible show wpAny _ _ (call (Value.ref 75) _) _ _ _); k_dflt (refine Pass.use2 (by k_extra "u") (by k_extra "p0") (fr_pass (by k_extra "q") (by k_extra "q")) (by k_extra "r") ?_; k_whole); k_extra "e2"))
  k_with "evi" => ((first | with_reducible exact EvI.lit | ((with_reducible show EvI _ (PySem.Expr.Subscript _ _ _) _); k_dflt (exact EvI.item (by exact rfl) (by exact rfl) (by exact rfl) (by exact rfl) (by walk_at "tup") (by exact rfl))) | ((with_reducible show EvI _ (PySem.Expr.Name _ _) _); k_dflt (exact EvI.name (by exact rfl) (by exact rfl) (by exact rfl) (by exact rfl))) | ((with_reducible show EvI _ (PySem.Expr.BinOp _ Operator.Mult _ _) _); with_reducible exact EvI.mul (by k_extra "evi") (by k_extra "evi") (by k_dflt mul_fits)) | ((with_reducible show EvI _ (PySem.Expr.BinOp _ Operator.Add _ _) _); with_reducible exact EvI.add (by k_extra "evi") (by k_extra "evi")) | ((with_reducible show EvI _ (PySem.Expr.BinOp _ Operator.Sub _ _) _); with_reducible exact EvI.sub (by k_extra "evi") (by k_extra "evi"))))
  k_with "eval BinOp" => ((k_here; k_dflt (refine evi_use (by k_asm) (by k_asm) (by k_extra "evi") ?_; k_whole); intro t9 tk9; (try dsimp only)))
  k_with "call ref" => ((k_here; (with_reducible show wpAny _ _ (call (Value.ref 110) _) _ _ _); k_dflt (refine Pass.useI (by k_extra "u") (by k_extra "p1") (sign_pass) (by k_extra "r") ?_; k_whole); k_extra "eI"))
  k_with "call ref" => ((k_here; (with_reducible show wpAny _ _ (call (Value.ref 89) _) _ _ _); k_dflt (refine Pass.use2 (by k_extra "u") (by k_extra "p2") (minus_pass (by k_extra "q") (by k_extra "q") (by k_extra "q") (by k_extra "q") (by k_extra "q") (by k_extra "q")) (by k_extra "r") ?_; k_whole); k_extra "e2"))
  k_with "call ref" => ((k_here; (with_reducible show wpAny _ _ (call (Value.ref 117) _) _ _ _); k_dflt (refine Pass.useI (by k_extra "u") (by k_extra "p2") (compare_pass (by k_extra "q") (by k_extra "q") (by k_extra "q") (by k_extra "q") (by k_extra "q") (by k_extra "q")) (by k_extra "r") ?_; k_whole); k_extra "eI"))
  k_with "call ref" => ((k_here; (with_reducible show wpAny _ _ (call (Value.ref 124) _) _ _ _); k_dflt (refine Pass.useI (by k_extra "u") (by k_extra "p1") (floor_pass (by k_extra "q") (by k_extra "q") (by k_extra "q")) (by k_extra "r") ?_; k_whole); k_extra "eI"))
  k_with "tup" => (first | ((with_reducible show TupIn _ _ 59 _ _); exact zero_in (by k_asm)) | ((with_reducible show TupIn _ _ 60 _ _); exact one_in (by k_asm)))
  k_with "compareOp NotIn str ref" => ((k_here; k_dflt (first | refine kind_in (by k_asm) (by k_asm) (by decide +kernel) ?_ | refine kind_out (by k_asm) (by k_asm) (by decide +kernel) ?_)))
  k_with "call ref" => ((k_here; (with_reducible show wpAny _ _ (call (Value.ref 75) _) _ _ _); k_dflt (refine Pass.use2 (by k_extra "u") (by k_extra "p0") (fr1_pass) (by k_extra "r") ?_; k_whole); k_extra "e2"))
  k_with "call ref" => ((k_here; (with_reducible show wpAny _ _ (call (Value.ref 167) _) _ _ _); k_dflt (refine Pass.useO (by k_extra "u") (by k_extra "p1") (padded_pass (by k_extra "q") (by k_extra "q") (by k_extra "q")) (by k_extra "r") ?_; k_whole); k_extra "eO"))
  k_with "call ref" => ((k_here; (with_reducible show wpAny _ _ (call (Value.ref 146) _) _ _ _); k_dflt (refine Pass.useN (by k_extra "u") (by k_extra "p0") (check_pad) (by k_extra "r") ?_; k_whole); k_extra "eN"))
  k_with "call ref" => ((k_here; (with_reducible show wpAny _ _ (call (Value.ref 146) _) _ _ _); k_dflt (refine Pass.useN (by k_extra "u") (by k_extra "p0") (check_repeat) (by k_extra "r") ?_; k_whole); k_extra "eN"))
  k_with "call ref" => ((k_here; (with_reducible show wpAny _ _ (call (Value.ref 146) _) _ _ _); k_dflt (refine Pass.useN (by k_extra "u") (by k_extra "p0") (check_reflect) (by k_extra "r") ?_; k_whole); k_extra "eN"))
  k_with "call ref" => ((k_here; (with_reducible show wpAny _ _ (call (Value.ref 153) _) _ _ _); k_dflt (refine Pass.use2 (by k_extra "u") (by k_extra "p1") (part_pass (by k_extra "q") (by k_extra "q") (by k_extra "q")) (by k_extra "r") ?_; k_whole); k_extra "e2"))
  k_with "call ref" => ((k_here; (with_reducible show wpAny _ _ (call (Value.ref 160) _) _ _ _); k_dflt (refine Pass.use2 (by k_extra "u") (by k_extra "p1") (refl_pass (by k_extra "q") (by k_extra "q") (by k_extra "q")) (by k_extra "r") ?_; k_whole); k_extra "e2"))
  k_with "subscriptTail Name Constant ref int" => ((k_here; k_dflt (refine lin (by k_asm) (List.Mem.head _) (by rfl) ?_; k_whole); intro t9))
  k_with "eT" => ((intro v9 vt9 x9 t9 y9 u9 h' tk9 b1 b2 b3 b4 b5 F' N'; (try dsimp only at N'); k_extra "e"))
  k_with "call ref" => ((k_here; (with_reducible show wpAny _ _ (call (Value.ref 216) _) _ _ _); k_dflt (refine use_take (by k_extra "u") (by k_updF) (by k_extra "q") (by k_extra "q") (by k_extra "q") (by k_extra "q") (by k_extra "q") (by k_extra "r") ?_; k_whole); k_extra "eT"))
  trivial
/-! one of a list -/
def ROne (src : Addr) (rest : List (Addr × Obj)) (items : List Value) (n : Nat) (_ : Heap) (r : Value) (news' : List (Addr × Obj)) : Prop :=
  ∃ (i : Nat) (x' : Int) (t' : Tok) (y' : Int) (u' : Tok), items[i]? = some r ∧ 0 ≤ x' ∧ 0 ≤ y' ∧ y' < 2147483647 ∧ news' = (src, lst2 x' t' y' u' n) :: rest
section
variable {prog : Program} {w : World} {A : Around} {E : Value → Shared → Prop} {s : Shared} {h₀ : Heap} {L a : Addr} {m : Str → Option Value} {news : List (Addr × Obj)} {items : List Value} {n : Nat} {value slice : PySem.Expr} {Q : Value → Shared → Prop}
theorem item_any {k : Int} {kt : Tok} (N : News h₀ L s.heap news) (hm : (a, listOf items.toArray n) ∈ news) (h0 : 0 ≤ k) (h1 : k < (items.length : Int)) (h2 : k < 1000000) (h : ∀ x (i : Nat), items[i]? = some x → Q x s)
    (hs : subscripted slice false (.ref a) (.int k kt) = operate [.ref a, .int k kt] (getItem (.ref a) (.int k kt)) := by with_unfolding_all rfl) :
    wpAny (model prog w) A (subscriptTail value slice (.ref a) (.int k kt)) Q E s := by
  have hl : s.heap.IsList a items.toArray := News.isList N hm
  have hlt : k.toNat < items.length := by omega
  have hx : items.toArray[k.toNat]? = some items[k.toNat] := by simp [hlt]
  exact tail_any hl.typeIs slot_list_getitem.lookup (wpAny_getItem_list hl h0 (by omega) hx (h _ k.toNat (by simp [hlt]))) hs
theorem len_in (N : News h₀ L s.heap news) (hm : (a, listOf items.toArray n) ∈ news) (h1 : items.length < 1000) (h : Q (.int (items.length : Int) (s.toks + 1)) { s with toks := s.toks + 1 + 1 }) :
    wpAny (model prog w) A (call (.builtin "len") [.ref a]) Q E s :=
  PyProof.Rows.len_list (News.isList N hm) (by rw [List.size_toArray]; omega) (by rw [List.size_toArray]; exact h)
end
local macro_rules | `(tactic| k_updF) => `(tactic| exact UpdF.head (by with_reducible assumption))
section
theorem reg1202 : True := by
  k_with "call builtin:len" => ((k_here; k_dflt (refine len_in (by k_asm) (List.mem_cons_of_mem _ (by with_reducible assumption)) (by with_reducible assumption) ?_)))
  k_with "subscriptTail Name Call" => ((k_here; k_dflt (refine item_any (by k_asm) (List.mem_cons_of_mem _ (by with_reducible assumption)) (by omega) (by omega) (by omega) ?_; k_whole); intro x8 i8 e8))
  trivial
set_option maxRecDepth 100000 in
set_option maxHeartbeats 8000000 in
theorem one_pass {w mean mg mb rest} {src th : Addr} {x y : Int} {t u : Tok} {n k : Nat} {items : List Value} (hx : 0 ≤ x) (hy : 0 ≤ y) (hy2 : y < 2147483647) (hi : 0 < items.length) (hi2 : items.length < 1000) (hr : ∀ p ∈ rest, p.1 ≠ src) (hth : (th, listOf items.toArray k) ∈ rest) :
    Pass w mean mg mb 223 2 [.ref src, .ref th] ((src, lst2 x t y u n) :: rest) (fun _ => True) (ROne src rest items n) := by
  unfold Pass
  k_fill
  intro dp un gd cn cs a' ccd cl outer A₀ base h₀ L m s Q E B F X N T hk hpre hdd hu hret
  obtain ⟨hp, gs, dr, tk, os⟩ := s
  dsimp only at F N
  refine wpAny_call ?_
  k_dflt ktr_enter
  k_steps
  exact hret _ _ _ _ (by k_asm) (by k_asm) ⟨_, _, _, _, _, by assumption, by assumption, by assumption, by assumption, rfl⟩
end
theorem words13 : True := by
  k_with_none
  k_with "q" => (first | with_reducible assumption | omega)
  k_with "p0" => (exact trivial)
  k_with "p1" => (walk_at "tup")
  k_with "p2" => (exact ⟨by walk_at "tup", by walk_at "tup"⟩)
  k_with "u" => (exact ⟨by k_asm, by k_asm, by k_asm, by k_asm, by k_asm, by first | exact rfl | assumption⟩)
  k_with "r" => (first | exact room_in (by with_reducible assumption) (by with_reducible assumption) rfl rfl rfl | exact ⟨by ktr_room, by ktr_units⟩)
  k_with "e" => (((try k_sweep); (try dsimp only); (try k_fold)))
  k_with "e2" => ((intro D9 t9 u9 h' tk9 F' N' l1; (try k_lt l1); k_extra "e"))
  k_with "eI" => ((intro t9 h' tk9 F' N'; k_extra "e"))
  k_with "eB" => ((intro h' tk9 F' N'; k_extra "e"))
  k_with "eN" => ((intro h' tk9 F' N'; k_extra "e"))
  k_with "eO" => ((intro D9 h' tk9 F' N' T9 T9b; k_extra "e"))
  k_with "forget" => ((k_here; (with_reducible show wpAny _ _ _ _ _ (Shared.mk _ _ _ (_ + 1) _)); (first | k_dflt (refine forget (by with_reducible assumption) (by with_reducible assumption) (by with_reducible assumption) (by with_reducible assumption) (by rfl) (by rfl) (by rfl) (by rfl) ?_) | with_reducible refine forget_tk ?_); intro tk9))
  k_with "execs cons" => (k_extra "forget")
  k_with "execs nil" => (k_extra "forget")
  k_with "call ref" => ((k_here; (with_reducible show wpAny _ _ (call (Value.ref 67) _) _ _ _); k_dflt (refine Pass.useI (by k_extra "u") (by k_extra "p0") (cd_pass (by k_extra "q")) (by k_extra "r") ?_; k_whole); k_extra "eI"))
  k_with "subscriptTail Name Constant ref int" => ((k_here; k_dflt (refine tin (by k_asm) (by k_asm) (by walk_at "tup") (by rfl) ?_; k_whole); intro t9))
  k_with "call ref" => ((k_here; (with_reducible show wpAny _ _ (call (Value.ref 75) _) _ _ _); k_dflt (refine Pass.use2 (by k_extra "u") (by k_extra "p0") (fr_pass (by k_extra "q") (by k_extra "q")) (by k_extra "r") ?_; k_whole); k_extra "e2"))
  k_with "evi" => ((first | with_reducible exact EvI.lit | ((with_reducible show EvI _ (PySem.Expr.Subscript _ _ _) _); k_dflt (exact EvI.item (by exact rfl) (by exact rfl) (by exact rfl) (by exact rfl) (by walk_at "tup") (by exact rfl))) | ((with_reducible show EvI _ (PySem.Expr.Name _ _) _); k_dflt (exact EvI.name (by exact rfl) (by exact rfl) (by exact rfl) (by exact rfl))) | ((with_reducible show EvI _ (PySem.Expr.BinOp _ Operator.Mult _ _) _); with_reducible exact EvI.mul (by k_extra "evi") (by k_extra "evi") (by k_dflt mul_fits)) | ((with_reducible show EvI _ (PySem.Expr.BinOp _ Operator.Add _ _) _); with_reducible exact EvI.add (by k_extra "evi") (by k_extra "evi")) | ((with_reducible show EvI _ (PySem.Expr.BinOp _ Operator.Sub _ _) _); with_reducible exact EvI.sub (by k_extra "evi") (by k_extra "evi"))))
  k_with "eval BinOp" => ((k_here; k_dflt (refine evi_use (by k_asm) (by k_asm) (by k_extra "evi") ?_; k_whole); intro t9 tk9; (try dsimp only)))
  k_with "call ref" => ((k_here; (with_reducible show wpAny _ _ (call (Value.ref 110) _) _ _ _); k_dflt (refine Pass.useI (by k_extra "u") (by k_extra "p1") (sign_pass) (by k_extra "r") ?_; k_whole); k_extra "eI"))
  k_with "call ref" => ((k_here; (with_reducible show wpAny _ _ (call (Value.ref 89) _) _ _ _); k_dflt (refine Pass.use2 (by k_extra "u") (by k_extra "p2") (minus_pass (by k_extra "q") (by k_extra "q") (by k_extra "q") (by k_extra "q") (by k_extra "q") (by k_extra "q")) (by k_extra "r") ?_; k_whole); k_extra "e2"))
  k_with "call ref" => ((k_here; (with_reducible show wpAny _ _ (call (Value.ref 117) _) _ _ _); k_dflt (refine Pass.useI (by k_extra "u") (by k_extra "p2") (compare_pass (by k_extra "q") (by k_extra "q") (by k_extra "q") (by k_extra "q") (by k_extra "q") (by k_extra "q")) (by k_extra "r") ?_; k_whole); k_extra "eI"))
  k_with "call ref" => ((k_here; (with_reducible show wpAny _ _ (call (Value.ref 124) _) _ _ _); k_dflt (refine Pass.useI (by k_extra "u") (by k_extra "p1") (floor_pass (by k_extra "q") (by k_extra "q") (by k_extra "q")) (by k_extra "r") ?_; k_whole); k_extra "eI"))
  k_with "tup" => (first | ((with_reducible show TupIn _ _ 59 _ _); exact zero_in (by k_asm)) | ((with_reducible show TupIn _ _ 60 _ _); exact one_in (by k_asm)))
  k_with "compareOp NotIn str ref" => ((k_here; k_dflt (first | refine kind_in (by k_asm) (by k_asm) (by decide +kernel) ?_ | refine kind_out (by k_asm) (by k_asm) (by decide +kernel) ?_)))
  k_with "call ref" => ((k_here; (with_reducible show wpAny _ _ (call (Value.ref 75) _) _ _ _); k_dflt (refine Pass.use2 (by k_extra "u") (by k_extra "p0") (fr1_pass) (by k_extra "r") ?_; k_whole); k_extra "e2"))
  k_with "call ref" => ((k_here; (with_reducible show wpAny _ _ (call (Value.ref 167) _) _ _ _); k_dflt (refine Pass.useO (by k_extra "u") (by k_extra "p1") (padded_pass (by k_extra "q") (by k_extra "q") (by k_extra "q")) (by k_extra "r") ?_; k_whole); k_extra "eO"))
  k_with "call ref" => ((k_here; (with_reducible show wpAny _ _ (call (Value.ref 146) _) _ _ _); k_dflt (refine Pass.useN (by k_extra "u") (by k_extra "p0") (check_pad) (by k_extra "r") ?_; k_whole); k_extra "eN"))
  k_with "call ref" => ((k_here; (with_reducible show wpAny _ _ (call (Value.ref 146) _) _ _ _); k_dflt (refine Pass.useN (by k_extra "u") (by k_extra "p0") (check_repeat) (by k_extra "r") ?_; k_whole); k_extra "eN"))
  k_with "call ref" => ((k_here; (with_reducible show wpAny _ _ (call (Value.ref 146) _) _ _ _); k_dflt (refine Pass.useN (by k_extra "u") (by k_extra "p0") (check_reflect) (by k_extra "r") ?_; k_whole); k_extra "eN"))
  k_with "call ref" => ((k_here; (with_reducible show wpAny _ _ (call (Value.ref 153) _) _ _ _); k_dflt (refine Pass.use2 (by k_extra "u") (by k_extra "p1") (part_pass (by k_extra "q") (by k_extra "q") (by k_extra "q")) (by k_extra "r") ?_; k_whole); k_extra "e2"))
  k_with "call ref" => ((k_here; (with_reducible show wpAny _ _ (call (Value.ref 160) _) _ _ _); k_dflt (refine Pass.use2 (by k_extra "u") (by k_extra "p1") (refl_pass (by k_extra "q") (by k_extra "q") (by k_extra "q")) (by k_extra "r") ?_; k_whole); k_extra "e2"))
  k_with "call ref" => ((k_here; (with_reducible show wpAny _ _ (call (Value.ref 138) _) _ _ _); k_dflt (refine Pass.useI (by k_extra "u") (by k_extra "p0") (root_pass (by k_extra "q") (by k_extra "q")) (by k_extra "r") ?_; k_whole); k_extra "eI"))
  k_with "call ref" => ((k_here; (with_reducible show wpAny _ _ (call (Value.ref 96) _) _ _ _); k_dflt (refine Pass.use2 (by k_extra "u") (by k_extra "p2") (times_e (by k_extra "q") (by k_extra "q") (by k_extra "q")) (by k_extra "r") ?_; k_whole); k_extra "e2"))
  k_with "call ref" => ((k_here; (with_reducible show wpAny _ _ (call (Value.ref 82) _) _ _ _); k_dflt (refine Pass.use2 (by k_extra "u") (by k_extra "p2") (plus_e (by k_extra "q") (by k_extra "q") (by k_extra "q")) (by k_extra "r") ?_; k_whole); k_extra "e2"))
  k_with "call ref" => ((k_here; (with_reducible show wpAny _ _ (call (Value.ref 117) _) _ _ _); k_dflt (refine Pass.useI (by k_extra "u") (by k_extra "p2") (compare_f (by k_extra "q") (by k_extra "q")) (by k_extra "r") ?_; k_whole); k_extra "eI"))
  k_with "call ref" => ((k_here; (with_reducible show wpAny _ _ (call (Value.ref 131) _) _ _ _); k_dflt (refine Pass.useI (by k_extra "u") (by k_extra "p1") (rounded_f (by k_extra "q")) (by k_extra "r") ?_; k_whole); k_extra "eI"))
  trivial
/-! the kinds of spread -/
def IsKind (v : Value) : Prop := (∃ u, v = .str (Str.ofString "pad") u) ∨ (∃ u, v = .str (Str.ofString "repeat") u) ∨ ∃ u, v = .str (Str.ofString "reflect") u
theorem isKind1 {u : Tok} : IsKind (.str (Str.ofString "pad") u) := .inl ⟨_, rfl⟩
theorem isKind2 {u : Tok} : IsKind (.str (Str.ofString "repeat") u) := .inr (.inl ⟨_, rfl⟩)
theorem isKind3 {u : Tok} : IsKind (.str (Str.ofString "reflect") u) := .inr (.inr ⟨_, rfl⟩)
/-! two tuples of two ints, compared -/
theorem TupIn.reads {h₀ h : Heap} {L a : Addr} {m : Str → Option Value} {news : List (Addr × Obj)} {x y : Int} (T : TupIn h₀ news a x y) (F : Fr h₀ L h m) (N : News h₀ L h news) : Reads h (.ref a) (.tuple [.int x, .int y]) [] := by
  obtain ⟨t, u, o, ho, hc, n, hd⟩ := T.at F N
  exact reads_tuple_at ho hc hd (.cons (as := []) (bs := []) (.int x t) (.cons (as := []) (bs := []) (.int y u) .nil))
section
variable {prog : Program} {w : World} {A : Around} {E : Value → Shared → Prop} {s : Shared} {h₀ : Heap} {L a b : Addr} {m : Str → Option Value} {news : List (Addr × Obj)} {x y x' y' : Int} {Q : Value → Shared → Prop}
theorem eq_tup (F : Fr h₀ L s.heap m) (N : News h₀ L s.heap news) (Ta : TupIn h₀ news a x y) (Tb : TupIn h₀ news b x' y') (hu : A.units + 64 < cLine) (e : x = x' ∧ y = y') (h : Q (.bool true) s) :
    wpAny (model prog w) A (compareOp .Eq (.ref a) (.ref b)) Q E s := by
  obtain ⟨rfl, rfl⟩ := e
  refine eq_dataH (Ta.reads F N) (Tb.reads F N) rfl rfl hu ?_
  have e : PyData.eqv (.tuple [.int x, .int y]) (.tuple [.int x, .int y]) = true := by simp [PyData.eqv, PyData.eqvAll]
  rw [e]; exact h
end
theorem room_eq {U un b : Nat} (h2 : un + 8 * b < cLine) (hU : U = un + 3) (hab : Nat.ble 67 (8 * b) = true) : U + 64 < cLine := by
  have := Nat.le_of_ble_eq_true hab
  omega
theorem reg1301 : True := by
  k_with "ru" => (first | exact room_eq (by with_reducible assumption) rfl rfl | ktr_units)
  k_with "compareOp Eq ref ref" => ((k_here; k_dflt (refine eq_tup (by k_asm) (by k_asm) (by walk_at "tup") (by walk_at "tup") (by k_extra "ru") (by first | with_reducible assumption | exact ⟨rfl, rfl⟩) ?_)))
  trivial
set_option maxRecDepth 100000 in
set_option maxHeartbeats 8000000 in
theorem like_pass {w mean mg mb news} {a : Addr} {p q x y : Int} {tx ty : Tok} (hy : 0 < y) (hb : y < 1000000000000000000000000000000) (e : p = (nm x y).1 ∧ q = (nm x y).2) :
    Pass w mean mg mb 237 12 [.ref a, .int x tx, .int y ty] news (fun h₀ => TupIn h₀ news a p q) (RB news true) := by
  unfold Pass
  k_fill
  intro dp un gd cn cs a' ccd cl outer A₀ base h₀ L m s Q E B F X N T hk hpre hdd hu hret
  obtain ⟨hp, gs, dr, tk, os⟩ := s
  dsimp only at F N
  have hp1 := hpre
  refine wpAny_call ?_
  k_dflt ktr_enter
  rename Fr h₀ L _ m => FG
  replace hp1 := hp1.into FG
  k_steps
  exact retB hret (by k_asm) (by k_asm) (by kcj_all) rfl
theorem words14 : True := by
  k_with_none
  k_with "q" => (first | with_reducible assumption | omega)
  k_with "p0" => (exact trivial)
  k_with "p1" => (walk_at "tup")
  k_with "p2" => (exact ⟨by walk_at "tup", by walk_at "tup"⟩)
  k_with "u" => (exact ⟨by k_asm, by k_asm, by k_asm, by k_asm, by k_asm, by first | exact rfl | assumption⟩)
  k_with "r" => (first | exact room_in (by with_reducible assumption) (by with_reducible assumption) rfl rfl rfl | exact ⟨by ktr_room, by ktr_units⟩)
  k_with "e" => (((try k_sweep); (try dsimp only); (try k_fold)))
  k_with "e2" => ((intro D9 t9 u9 h' tk9 F' N' l1; (try k_lt l1); k_extra "e"))
  k_with "eI" => ((intro t9 h' tk9 F' N'; k_extra "e"))
  k_with "eB" => ((intro h' tk9 F' N'; k_extra "e"))
  k_with "eN" => ((intro h' tk9 F' N'; k_extra "e"))
  k_with "eO" => ((intro D9 h' tk9 F' N' T9 T9b; k_extra "e"))
  k_with "forget" => ((k_here; (with_reducible show wpAny _ _ _ _ _ (Shared.mk _ _ _ (_ + 1) _)); (first | k_dflt (refine forget (by with_reducible assumption) (by with_reducible assumption) (by with_reducible assumption) (by with_reducible assumption) (by rfl) (by rfl) (by rfl) (by rfl) ?_) | with_reducible refine forget_tk ?_); intro tk9))
  k_with "execs cons" => (k_extra "forget")
  k_with "execs nil" => (k_extra "forget")
  k_with "call ref" => ((k_here; (with_reducible show wpAny _ _ (call (Value.ref 67) _) _ _ _); k_dflt (refine Pass.useI (by k_extra "u") (by k_extra "p0") (cd_pass (by k_extra "q")) (by k_extra "r") ?_; k_whole); k_extra "eI"))
  k_with "subscriptTail Name Constant ref int" => ((k_here; k_dflt (refine tin (by k_asm) (by k_asm) (by walk_at "tup") (by rfl) ?_; k_whole); intro t9))
  k_with "call ref" => ((k_here; (with_reducible show wpAny _ _ (call (Value.ref 75) _) _ _ _); k_dflt (refine Pass.use2 (by k_extra "u") (by k_extra "p0") (fr_pass (by k_extra "q") (by k_extra "q")) (by k_extra "r") ?_; k_whole); k_extra "e2"))
  k_with "evi" => ((first | with_reducible exact EvI.lit | ((with_reducible show EvI _ (PySem.Expr.Subscript _ _ _) _); k_dflt (exact EvI.item (by exact rfl) (by exact rfl) (by exact rfl) (by exact rfl) (by walk_at "tup") (by exact rfl))) | ((with_reducible show EvI _ (PySem.Expr.Name _ _) _); k_dflt (exact EvI.name (by exact rfl) (by exact rfl) (by exact rfl) (by exact rfl))) | ((with_reducible show EvI _ (PySem.Expr.BinOp _ Operator.Mult _ _) _); with_reducible exact EvI.mul (by k_extra "evi") (by k_extra "evi") (by k_dflt mul_fits)) | ((with_reducible show EvI _ (PySem.Expr.BinOp _ Operator.Add _ _) _); with_reducible exact EvI.add (by k_extra "evi") (by k_extra "evi")) | ((with_reducible show EvI _ (PySem.Expr.BinOp _ Operator.Sub _ _) _); with_reducible exact EvI.sub (by k_extra "evi") (by k_extra "evi"))))
  k_with "eval BinOp" => ((k_here; k_dflt (refine evi_use (by k_asm) (by k_asm) (by k_extra "evi") ?_; k_whole); intro t9 tk9; (try dsimp only)))
  k_with "call ref" => ((k_here; (with_reducible show wpAny _ _ (call (Value.ref 110) _) _ _ _); k_dflt (refine Pass.useI (by k_extra "u") (by k_extra "p1") (sign_pass) (by k_extra "r") ?_; k_whole); k_extra "eI"))
  k_with "call ref" => ((k_here; (with_reducible show wpAny _ _ (call (Value.ref 89) _) _ _ _); k_dflt (refine Pass.use2 (by k_extra "u") (by k_extra "p2") (minus_pass (by k_extra "q") (by k_extra "q") (by k_extra "q") (by k_extra "q") (by k_extra "q") (by k_extra "q")) (by k_extra "r") ?_; k_whole); k_extra "e2"))
  k_with "call ref" => ((k_here; (with_reducible show wpAny _ _ (call (Value.ref 117) _) _ _ _); k_dflt (refine Pass.useI (by k_extra "u") (by k_extra "p2") (compare_pass (by k_extra "q") (by k_extra "q") (by k_extra "q") (by k_extra "q") (by k_extra "q") (by k_extra "q")) (by k_extra "r") ?_; k_whole); k_extra "eI"))
  k_with "call ref" => ((k_here; (with_reducible show wpAny _ _ (call (Value.ref 124) _) _ _ _); k_dflt (refine Pass.useI (by k_extra "u") (by k_extra "p1") (floor_pass (by k_extra "q") (by k_extra "q") (by k_extra "q")) (by k_extra "r") ?_; k_whole); k_extra "eI"))
  k_with "tup" => (first | ((with_reducible show TupIn _ _ 59 _ _); exact zero_in (by k_asm)) | ((with_reducible show TupIn _ _ 60 _ _); exact one_in (by k_asm)))
  k_with "compareOp NotIn str ref" => ((k_here; k_dflt (first | refine kind_in (by k_asm) (by k_asm) (by decide +kernel) ?_ | refine kind_out (by k_asm) (by k_asm) (by decide +kernel) ?_)))
  k_with "call ref" => ((k_here; (with_reducible show wpAny _ _ (call (Value.ref 75) _) _ _ _); k_dflt (refine Pass.use2 (by k_extra "u") (by k_extra "p0") (fr1_pass) (by k_extra "r") ?_; k_whole); k_extra "e2"))
  k_with "call ref" => ((k_here; (with_reducible show wpAny _ _ (call (Value.ref 167) _) _ _ _); k_dflt (refine Pass.useO (by k_extra "u") (by k_extra "p1") (padded_pass (by k_extra "q") (by k_extra "q") (by k_extra "q")) (by k_extra "r") ?_; k_whole); k_extra "eO"))
  k_with "call ref" => ((k_here; (with_reducible show wpAny _ _ (call (Value.ref 146) _) _ _ _); k_dflt (refine Pass.useN (by k_extra "u") (by k_extra "p0") (check_pad) (by k_extra "r") ?_; k_whole); k_extra "eN"))
  k_with "call ref" => ((k_here; (with_reducible show wpAny _ _ (call (Value.ref 146) _) _ _ _); k_dflt (refine Pass.useN (by k_extra "u") (by k_extra "p0") (check_repeat) (by k_extra "r") ?_; k_whole); k_extra "eN"))
  k_with "call ref" => ((k_here; (with_reducible show wpAny _ _ (call (Value.ref 146) _) _ _ _); k_dflt (refine Pass.useN (by k_extra "u") (by k_extra "p0") (check_reflect) (by k_extra "r") ?_; k_whole); k_extra "eN"))
  k_with "call ref" => ((k_here; (with_reducible show wpAny _ _ (call (Value.ref 153) _) _ _ _); k_dflt (refine Pass.use2 (by k_extra "u") (by k_extra "p1") (part_pass (by k_extra "q") (by k_extra "q") (by k_extra "q")) (by k_extra "r") ?_; k_whole); k_extra "e2"))
  k_with "call ref" => ((k_here; (with_reducible show wpAny _ _ (call (Value.ref 160) _) _ _ _); k_dflt (refine Pass.use2 (by k_extra "u") (by k_extra "p1") (refl_pass (by k_extra "q") (by k_extra "q") (by k_extra "q")) (by k_extra "r") ?_; k_whole); k_extra "e2"))
  k_with "call ref" => ((k_here; (with_reducible show wpAny _ _ (call (Value.ref 138) _) _ _ _); k_dflt (refine Pass.useI (by k_extra "u") (by k_extra "p0") (root_pass (by k_extra "q") (by k_extra "q")) (by k_extra "r") ?_; k_whole); k_extra "eI"))
  k_with "call ref" => ((k_here; (with_reducible show wpAny _ _ (call (Value.ref 96) _) _ _ _); k_dflt (refine Pass.use2 (by k_extra "u") (by k_extra "p2") (times_e (by k_extra "q") (by k_extra "q") (by k_extra "q")) (by k_extra "r") ?_; k_whole); k_extra "e2"))
  k_with "call ref" => ((k_here; (with_reducible show wpAny _ _ (call (Value.ref 82) _) _ _ _); k_dflt (refine Pass.use2 (by k_extra "u") (by k_extra "p2") (plus_e (by k_extra "q") (by k_extra "q") (by k_extra "q")) (by k_extra "r") ?_; k_whole); k_extra "e2"))
  k_with "call ref" => ((k_here; (with_reducible show wpAny _ _ (call (Value.ref 117) _) _ _ _); k_dflt (refine Pass.useI (by k_extra "u") (by k_extra "p2") (compare_f (by k_extra "q") (by k_extra "q")) (by k_extra "r") ?_; k_whole); k_extra "eI"))
  k_with "call ref" => ((k_here; (with_reducible show wpAny _ _ (call (Value.ref 131) _) _ _ _); k_dflt (refine Pass.useI (by k_extra "u") (by k_extra "p1") (rounded_f (by k_extra "q")) (by k_extra "r") ?_; k_whole); k_extra "eI"))
  trivial
/-! where a colour is looked up, by the law's reckoning -/
set_option maxRecDepth 100000 in
set_option maxHeartbeats 8000000 in
theorem place_pad {w mean mg mb news} {top bot : Int} {t1 t2 t3 : Tok} (h1 : -100 < top ∧ top < 100) (h2 : 1 ≤ bot ∧ bot ≤ 8) :
    Pass w mean mg mb 230 2 [.int top t1, .int bot t2, .str (Str.ofString "pad") t3] news (fun _ => True) (R2 news (min (max top 0) bot) bot) := by
  unfold Pass
  k_fill
  intro dp un gd cn cs a' ccd cl outer A₀ base h₀ L m s Q E B F X N T hk hpre hdd hu hret
  obtain ⟨hp, gs, dr, tk, os⟩ := s
  dsimp only at F N
  refine wpAny_call ?_
  k_dflt ktr_enter
  k_steps
  exact ret2 hret (by k_asm) (by k_asm) (by k_mem) (by kcj_all) (by first | assumption | exact ktn_ltOf (And.right (by assumption)) | exact ktn_ltOf (And.right (And.right (by assumption))) | exact ktn_ltOf (And.right (And.right (And.right (by assumption)))) | exact ktn_ltOf (by assumption)) (by (repeat' split) <;> omega) rfl
set_option maxRecDepth 100000 in
set_option maxHeartbeats 8000000 in
theorem place_repeat {w mean mg mb news} {top bot : Int} {t1 t2 t3 : Tok} (h1 : -100 < top ∧ top < 100) (h2 : 1 ≤ bot ∧ bot ≤ 8) :
    Pass w mean mg mb 230 2 [.int top t1, .int bot t2, .str (Str.ofString "repeat") t3] news (fun _ => True) (R2 news (top % bot) bot) := by
  unfold Pass
  k_fill
  intro dp un gd cn cs a' ccd cl outer A₀ base h₀ L m s Q E B F X N T hk hpre hdd hu hret
  obtain ⟨hp, gs, dr, tk, os⟩ := s
  dsimp only at F N
  refine wpAny_call ?_
  k_dflt ktr_enter
  k_steps
  exact ret2 hret (by k_asm) (by k_asm) (by k_mem) (by kcj_all) (by first | assumption | exact ktn_ltOf (And.right (by assumption)) | exact ktn_ltOf (And.right (And.right (by assumption))) | exact ktn_ltOf (And.right (And.right (And.right (by assumption)))) | exact ktn_ltOf (by assumption)) (Int.fmod_eq_emod_of_nonneg _ (by omega)) rfl
def twF (x b : Int) : Int := if x % (2 * b) ≤ b then x % (2 * b) else 2 * b - x % (2 * b)
theorem tw_lo {x b : Int} (hb : 1 ≤ b) (h : x.fmod (2 * b) ≤ b) : x.fmod (2 * b) = twF x b := by
  rw [Int.fmod_eq_emod_of_nonneg _ (by omega)] at *
  rw [twF, if_pos h]
theorem tw_hi {x b : Int} (hb : 1 ≤ b) (h : ¬ x.fmod (2 * b) ≤ b) : 2 * b - x.fmod (2 * b) = twF x b := by
  rw [Int.fmod_eq_emod_of_nonneg _ (by omega)] at *
  rw [twF, if_neg h]
set_option maxRecDepth 100000 in
set_option maxHeartbeats 8000000 in
theorem place_reflect {w mean mg mb news} {top bot : Int} {t1 t2 t3 : Tok} (h1 : -100 < top ∧ top < 100) (h2 : 1 ≤ bot ∧ bot ≤ 8) :
    Pass w mean mg mb 230 2 [.int top t1, .int bot t2, .str (Str.ofString "reflect") t3] news (fun _ => True) (R2 news (twF top bot) bot) := by
  unfold Pass
  k_fill
  intro dp un gd cn cs a' ccd cl outer A₀ base h₀ L m s Q E B F X N T hk hpre hdd hu hret
  obtain ⟨hp, gs, dr, tk, os⟩ := s
  dsimp only at F N
  refine wpAny_call ?_
  k_dflt ktr_enter
  k_steps
  · exact ret2 hret (by k_asm) (by k_asm) (by k_mem) (by kcj_all) (by first | assumption | exact ktn_ltOf (And.right (by assumption)) | exact ktn_ltOf (And.right (And.right (by assumption))) | exact ktn_ltOf (And.right (And.right (And.right (by assumption)))) | exact ktn_ltOf (by assumption)) (tw_lo (by omega) (by assumption)) rfl
  · exact ret2 hret (by k_asm) (by k_asm) (by k_mem) (by kcj_all) (by first | assumption | exact ktn_ltOf (And.right (by assumption)) | exact ktn_ltOf (And.right (And.right (by assumption))) | exact ktn_ltOf (And.right (And.right (And.right (by assumption)))) | exact ktn_ltOf (by assumption)) (tw_hi (by omega) (by assumption)) rfl
theorem words16 : True := by
  k_with_none
  k_with "q" => (first | with_reducible assumption | omega)
  k_with "p0" => (exact trivial)
  k_with "p1" => (walk_at "tup")
  k_with "p2" => (exact ⟨by walk_at "tup", by walk_at "tup"⟩)
  k_with "u" => (exact ⟨by k_asm, by k_asm, by k_asm, by k_asm, by k_asm, by first | exact rfl | assumption⟩)
  k_with "r" => (first | exact room_in (by with_reducible assumption) (by with_reducible assumption) rfl rfl rfl | exact ⟨by ktr_room, by ktr_units⟩)
  k_with "e" => (((try k_sweep); (try dsimp only); (try k_fold)))
  k_with "e2" => ((intro D9 t9 u9 h' tk9 F' N' l1; (try k_lt l1); k_extra "e"))
  k_with "eI" => ((intro t9 h' tk9 F' N'; k_extra "e"))
  k_with "eB" => ((intro h' tk9 F' N'; k_extra "e"))
  k_with "eN" => ((intro h' tk9 F' N'; k_extra "e"))
  k_with "eO" => ((intro D9 h' tk9 F' N' T9 T9b; k_extra "e"))
  k_with "forget" => ((k_here; (with_reducible show wpAny _ _ _ _ _ (Shared.mk _ _ _ (_ + 1) _)); (first | k_dflt (refine forget (by with_reducible assumption) (by with_reducible assumption) (by with_reducible assumption) (by with_reducible assumption) (by rfl) (by rfl) (by rfl) (by rfl) ?_) | with_reducible refine forget_tk ?_); intro tk9))
  k_with "execs cons" => (k_extra "forget")
  k_with "execs nil" => (k_extra "forget")
  k_with "call ref" => ((k_here; (with_reducible show wpAny _ _ (call (Value.ref 67) _) _ _ _); k_dflt (refine Pass.useI (by k_extra "u") (by k_extra "p0") (cd_pass (by k_extra "q")) (by k_extra "r") ?_; k_whole); k_extra "eI"))
  k_with "subscriptTail Name Constant ref int" => ((k_here; k_dflt (refine tin (by k_asm) (by k_asm) (by walk_at "tup") (by rfl) ?_; k_whole); intro t9))
  k_with "call ref" => ((k_here; (with_reducible show wpAny _ _ (call (Value.ref 75) _) _ _ _); k_dflt (refine Pass.use2 (by k_extra "u") (by k_extra "p0") (fr_pass (by k_extra "q") (by k_extra "q")) (by k_extra "r") ?_; k_whole); k_extra "e2"))
  k_with "evi" => ((first | with_reducible exact EvI.lit | ((with_reducible show EvI _ (PySem.Expr.Subscript _ _ _) _); k_dflt (exact EvI.item (by exact rfl) (by exact rfl) (by exact rfl) (by exact rfl) (by walk_at "tup") (by exact rfl))) | ((with_reducible show EvI _ (PySem.Expr.Name _ _) _); k_dflt (exact EvI.name (by exact rfl) (by exact rfl) (by exact rfl) (by exact rfl))) | ((with_reducible show EvI _ (PySem.Expr.BinOp _ Operator.Mult _ _) _); with_reducible exact EvI.mul (by k_extra "evi") (by k_extra "evi") (by k_dflt mul_fits)) | ((with_reducible show EvI _ (PySem.Expr.BinOp _ Operator.Add _ _) _); with_reducible exact EvI.add (by k_extra "evi") (by k_extra "evi")) | ((with_reducible show EvI _ (PySem.Expr.BinOp _ Operator.Sub _ _) _); with_reducible exact EvI.sub (by k_extra "evi") (by k_extra "evi"))))
  k_with "eval BinOp" => ((k_here; k_dflt (refine evi_use (by k_asm) (by k_asm) (by k_extra "evi") ?_; k_whole); intro t9 tk9; (try dsimp only)))
  k_with "call ref" => ((k_here; (with_reducible show wpAny _ _ (call (Value.ref 110) _) _ _ _); k_dflt (refine Pass.useI (by k_extra "u") (by k_extra "p1") (sign_pass) (by k_extra "r") ?_; k_whole); k_extra "eI"))
  k_with "call ref" => ((k_here; (with_reducible show wpAny _ _ (call (Value.ref 89) _) _ _ _); k_dflt (refine Pass.use2 (by k_extra "u") (by k_extra "p2") (minus_pass (by k_extra "q") (by k_extra "q") (by k_extra "q") (by k_extra "q") (by k_extra "q") (by k_extra "q")) (by k_extra "r") ?_; k_whole); k_extra "e2"))
  k_with "call ref" => ((k_here; (with_reducible show wpAny _ _ (call (Value.ref 117) _) _ _ _); k_dflt (refine Pass.useI (by k_extra "u") (by k_extra "p2") (compare_pass (by k_extra "q") (by k_extra "q") (by k_extra "q") (by k_extra "q") (by k_extra "q") (by k_extra "q")) (by k_extra "r") ?_; k_whole); k_extra "eI"))
  k_with "call ref" => ((k_here; (with_reducible show wpAny _ _ (call (Value.ref 124) _) _ _ _); k_dflt (refine Pass.useI (by k_extra "u") (by k_extra "p1") (floor_pass (by k_extra "q") (by k_extra "q") (by k_extra "q")) (by k_extra "r") ?_; k_whole); k_extra "eI"))
  k_with "tup" => (first | ((with_reducible show TupIn _ _ 59 _ _); exact zero_in (by k_asm)) | ((with_reducible show TupIn _ _ 60 _ _); exact one_in (by k_asm)))
  k_with "compareOp NotIn str ref" => ((k_here; k_dflt (first | refine kind_in (by k_asm) (by k_asm) (by decide +kernel) ?_ | refine kind_out (by k_asm) (by k_asm) (by decide +kernel) ?_)))
  k_with "call ref" => ((k_here; (with_reducible show wpAny _ _ (call (Value.ref 75) _) _ _ _); k_dflt (refine Pass.use2 (by k_extra "u") (by k_extra "p0") (fr1_pass) (by k_extra "r") ?_; k_whole); k_extra "e2"))
  k_with "call ref" => ((k_here; (with_reducible show wpAny _ _ (call (Value.ref 167) _) _ _ _); k_dflt (refine Pass.useO (by k_extra "u") (by k_extra "p1") (padded_pass (by k_extra "q") (by k_extra "q") (by k_extra "q")) (by k_extra "r") ?_; k_whole); k_extra "eO"))
  k_with "call ref" => ((k_here; (with_reducible show wpAny _ _ (call (Value.ref 146) _) _ _ _); k_dflt (refine Pass.useN (by k_extra "u") (by k_extra "p0") (check_pad) (by k_extra "r") ?_; k_whole); k_extra "eN"))
  k_with "call ref" => ((k_here; (with_reducible show wpAny _ _ (call (Value.ref 146) _) _ _ _); k_dflt (refine Pass.useN (by k_extra "u") (by k_extra "p0") (check_repeat) (by k_extra "r") ?_; k_whole); k_extra "eN"))
  k_with "call ref" => ((k_here; (with_reducible show wpAny _ _ (call (Value.ref 146) _) _ _ _); k_dflt (refine Pass.useN (by k_extra "u") (by k_extra "p0") (check_reflect) (by k_extra "r") ?_; k_whole); k_extra "eN"))
  k_with "call ref" => ((k_here; (with_reducible show wpAny _ _ (call (Value.ref 153) _) _ _ _); k_dflt (refine Pass.use2 (by k_extra "u") (by k_extra "p1") (part_pass (by k_extra "q") (by k_extra "q") (by k_extra "q")) (by k_extra "r") ?_; k_whole); k_extra "e2"))
  k_with "call ref" => ((k_here; (with_reducible show wpAny _ _ (call (Value.ref 160) _) _ _ _); k_dflt (refine Pass.use2 (by k_extra "u") (by k_extra "p1") (refl_pass (by k_extra "q") (by k_extra "q") (by k_extra "q")) (by k_extra "r") ?_; k_whole); k_extra "e2"))
  k_with "call ref" => ((k_here; (with_reducible show wpAny _ _ (call (Value.ref 138) _) _ _ _); k_dflt (refine Pass.useI (by k_extra "u") (by k_extra "p0") (root_pass (by k_extra "q") (by k_extra "q")) (by k_extra "r") ?_; k_whole); k_extra "eI"))
  k_with "call ref" => ((k_here; (with_reducible show wpAny _ _ (call (Value.ref 96) _) _ _ _); k_dflt (refine Pass.use2 (by k_extra "u") (by k_extra "p2") (times_e (by k_extra "q") (by k_extra "q") (by k_extra "q")) (by k_extra "r") ?_; k_whole); k_extra "e2"))
  k_with "call ref" => ((k_here; (with_reducible show wpAny _ _ (call (Value.ref 82) _) _ _ _); k_dflt (refine Pass.use2 (by k_extra "u") (by k_extra "p2") (plus_e (by k_extra "q") (by k_extra "q") (by k_extra "q")) (by k_extra "r") ?_; k_whole); k_extra "e2"))
  k_with "call ref" => ((k_here; (with_reducible show wpAny _ _ (call (Value.ref 117) _) _ _ _); k_dflt (refine Pass.useI (by k_extra "u") (by k_extra "p2") (compare_f (by k_extra "q") (by k_extra "q")) (by k_extra "r") ?_; k_whole); k_extra "eI"))
  k_with "call ref" => ((k_here; (with_reducible show wpAny _ _ (call (Value.ref 131) _) _ _ _); k_dflt (refine Pass.useI (by k_extra "u") (by k_extra "p1") (rounded_f (by k_extra "q")) (by k_extra "r") ?_; k_whole); k_extra "eI"))
  k_with "p3" => (exact ⟨by walk_at "tupR", by walk_at "tup", by walk_at "tup"⟩)
  k_with "subscriptTail Name Constant ref int" => ((k_here; k_dflt (refine trin (by k_asm) (by k_asm) (by walk_at "tupR") (by rfl) ?_; k_whole)))
  k_with "call ref" => ((k_here; (with_reducible show wpAny _ _ (call (Value.ref 96) _) _ _ _); k_dflt (refine Pass.use2 (by k_extra "u") (by k_extra "p2") (times1_e (by k_extra "q") (by k_extra "q") (by k_extra "q")) (by k_extra "r") ?_; k_whole); k_extra "e2"))
  k_with "call ref" => ((k_here; (with_reducible show wpAny _ _ (call (Value.ref 82) _) _ _ _); k_dflt (refine Pass.use2 (by k_extra "u") (by k_extra "p2") (plus1_e (by k_extra "q") (by k_extra "q") (by k_extra "q")) (by k_extra "r") ?_; k_whole); k_extra "e2"))
  trivial
def Rb (a0 a1 n : Int) : Prop := (0 ≤ a0 * a1 * n * n ∧ a0 * a1 * n * n < 1000000000000) ∧ 0 < a1 ∧ a1 < 10000 ∧ 0 < n ∧ n < 10000 ∧ 0 ≤ a0 ∧ a0 < 10000000 ∧ 0 ≤ a0 * a1 ∧ a0 * a1 * n < 1000000000000000
theorem rootof_e {w mean mg mb news} {a : Addr} {a0 a1 n u v : Int} {tn : Tok} (h : Rb a0 a1 n) (e : nm (rt (a0 * a1 * n * n)) (a1 * n) = (u, v)) : Pass w mean mg mb 195 3 [.ref a, .int n tn] news (fun h₀ => TupIn h₀ news a a0 a1) (R2 news u v) :=
  (rootof_pass h.1 h.2.1 h.2.2.1 h.2.2.2.1 h.2.2.2.2.1 h.2.2.2.2.2.1 h.2.2.2.2.2.2.1 h.2.2.2.2.2.2.2.1 h.2.2.2.2.2.2.2.2).same2 e
theorem reg1601 : True := by
  k_with "call ref" => ((k_here; (with_reducible show wpAny _ _ (call (Value.ref 188) _) _ _ _); k_dflt (refine Pass.use2 (by k_extra "u") (by k_extra "p3") (product_e (by k_extra "q") (by k_extra "q") (by k_extra "q") (by k_extra "q") (by k_extra "q") (by k_extra "q") (by k_extra "q")) (by k_extra "r") ?_; k_whole); k_extra "e2"))
  k_with "call ref" => ((k_here; (with_reducible show wpAny _ _ (call (Value.ref 195) _) _ _ _); k_dflt (refine Pass.use2 (by k_extra "u") (by k_extra "p1") (rootof_e (by k_extra "q") (by k_extra "q")) (by k_extra "r") ?_; k_whole); k_extra "e2"))
  k_with "call ref" => ((k_here; (with_reducible show wpAny _ _ (call (Value.ref 75) _) _ _ _); k_dflt (refine Pass.use2 (by k_extra "u") (by k_extra "p0") (fr_e (by k_extra "q") (by k_extra "q") (by k_extra "q")) (by k_extra "r") ?_; k_whole); k_extra "e2"))
  k_with "call ref" => ((k_here; (with_reducible show wpAny _ _ (call (Value.ref 103) _) _ _ _); k_dflt (refine Pass.use2 (by k_extra "u") (by k_extra "p2") (divided_e (by k_extra "q") (by k_extra "q") (by k_extra "q") (by k_extra "q")) (by k_extra "r") ?_; k_whole); k_extra "e2"))
  trivial
def RRf (a : Addr) (news : List (Addr × Obj)) (_ : Heap) (r : Value) (news' : List (Addr × Obj)) : Prop := r = .ref a ∧ news' = news
theorem sg_neg {x : Int} (h : x < 0) : sg x < 0 := by
  unfold sg
  rw [if_neg (by omega), if_pos h]
  decide
theorem sg_pos {x : Int} (h : 0 ≤ x) : ¬ sg x < 0 := by
  unfold sg
  split
  · decide
  · rw [if_neg (by omega)]
    decide
theorem sqb {x : Int} (h : -100 < x ∧ x < 100) : 0 ≤ x * x ∧ x * x < 10000 := by
  have h2 : (x * x).natAbs < 100 * 100 := by
    rw [Int.natAbs_mul]
    exact Nat.mul_lt_mul'' (by omega) (by omega)
  have h3 : 0 ≤ x * x := by
    rcases Int.le_total 0 x with h | h
    · exact Int.mul_nonneg h h
    · exact Int.mul_nonneg_of_nonpos_of_nonpos h h
  omega
theorem fb_sq {x : Int} (h : -100 < x ∧ x < 100) : Fb (x * x) 1 := Fb.one ⟨Int.lt_of_lt_of_le (by decide) (sqb h).1, Int.lt_trans (sqb h).2 (by decide)⟩
theorem fb_sum {x y : Int} (h : -100 < x ∧ x < 100) (k : -100 < y ∧ y < 100) : Fb (x * x + y * y) 1 := by
  have e1 := sqb h
  have e2 := sqb k
  exact Fb.one ⟨by omega, by omega⟩
theorem fb_small {x : Int} (h : -100 < x ∧ x < 100) : Fb x 1 := Fb.one ⟨Int.lt_trans (by decide) h.1, Int.lt_trans h.2 (by decide)⟩
set_option maxRecDepth 100000 in
set_option maxHeartbeats 8000000 in
theorem focus_in_e {w mean mg mb news} {a p q b : Addr} {x y r n xx yy S R : Int} {tn : Tok} (fx : Fb x 1) (fy : Fb y 1) (ex : x * x = xx) (ey : y * y = yy) (gx : Fb xx 1) (gy : Fb yy 1) (eS : xx + yy = S) (fr : Fb r 1) (eR : r * r = R) (fS : Fb S 1) (fR : Fb R 1) (hs : sg (S * 1 - R * 1) < 0) :
    Pass w mean mg mb 202 6 [.ref a, .ref b, .int n tn] news (fun h₀ => TupR h₀ news a p q ∧ TupIn h₀ news p x 1 ∧ TupIn h₀ news q y 1 ∧ TupIn h₀ news b r 1) (RRf a news) := by
  unfold Pass
  k_fill
  intro dp un gd cn cs a' ccd cl outer A₀ base h₀ L m s Q E B F X N T hk hpre hdd hu hret
  obtain ⟨hp, gs, dr, tk, os⟩ := s
  dsimp only at F N
  obtain ⟨hp1, hp2, hp3, hp4⟩ := hpre
  refine wpAny_call ?_
  k_dflt ktr_enter
  rename Fr h₀ L _ m => FG
  replace hp1 := hp1.into FG
  replace hp2 := hp2.into FG
  replace hp3 := hp3.into FG
  replace hp4 := hp4.into FG
  k_steps
  exact hret _ _ _ _ (by k_asm) (cb_drop (by k_asm) (by kcj_all)) ⟨rfl, rfl⟩
theorem focus_in {w mean mg mb news} {a p q b : Addr} {x y r n : Int} {tn : Tok} (hx : -100 < x ∧ x < 100) (hy : -100 < y ∧ y < 100) (hr : 0 < r ∧ r < 100) (hn : 0 < n ∧ n < 1000) (hin : x * x + y * y < r * r) :
    Pass w mean mg mb 202 6 [.ref a, .ref b, .int n tn] news (fun h₀ => TupR h₀ news a p q ∧ TupIn h₀ news p x 1 ∧ TupIn h₀ news q y 1 ∧ TupIn h₀ news b r 1) (RRf a news) :=
  have hr' : -100 < r ∧ r < 100 := ⟨by omega, hr.2⟩
  focus_in_e (fb_small hx) (fb_small hy) rfl rfl (fb_sq hx) (fb_sq hy) rfl (fb_small hr') rfl (fb_sum hx hy) (fb_sq hr') (sg_neg (by omega))
theorem words17 : True := by
  k_with_none
  k_with "q" => (first | with_reducible assumption | omega)
  k_with "p0" => (exact trivial)
  k_with "p1" => (walk_at "tup")
  k_with "p2" => (exact ⟨by walk_at "tup", by walk_at "tup"⟩)
  k_with "u" => (exact ⟨by k_asm, by k_asm, by k_asm, by k_asm, by k_asm, by first | exact rfl | assumption⟩)
  k_with "r" => (first | exact room_in (by with_reducible assumption) (by with_reducible assumption) rfl rfl rfl | exact ⟨by ktr_room, by ktr_units⟩)
  k_with "e" => (((try k_sweep); (try dsimp only); (try k_fold)))
  k_with "e2" => ((intro D9 t9 u9 h' tk9 F' N' l1; (try k_lt l1); k_extra "e"))
  k_with "eI" => ((intro t9 h' tk9 F' N'; k_extra "e"))
  k_with "eB" => ((intro h' tk9 F' N'; k_extra "e"))
  k_with "eN" => ((intro h' tk9 F' N'; k_extra "e"))
  k_with "eO" => ((intro D9 h' tk9 F' N' T9 T9b; k_extra "e"))
  k_with "forget" => ((k_here; (with_reducible show wpAny _ _ _ _ _ (Shared.mk _ _ _ (_ + 1) _)); (first | k_dflt (refine forget (by with_reducible assumption) (by with_reducible assumption) (by with_reducible assumption) (by with_reducible assumption) (by rfl) (by rfl) (by rfl) (by rfl) ?_) | with_reducible refine forget_tk ?_); intro tk9))
  k_with "execs cons" => (k_extra "forget")
  k_with "execs nil" => (k_extra "forget")
  k_with "call ref" => ((k_here; (with_reducible show wpAny _ _ (call (Value.ref 67) _) _ _ _); k_dflt (refine Pass.useI (by k_extra "u") (by k_extra "p0") (cd_pass (by k_extra "q")) (by k_extra "r") ?_; k_whole); k_extra "eI"))
  k_with "subscriptTail Name Constant ref int" => ((k_here; k_dflt (refine tin (by k_asm) (by k_asm) (by walk_at "tup") (by rfl) ?_; k_whole); intro t9))
  k_with "call ref" => ((k_here; (with_reducible show wpAny _ _ (call (Value.ref 75) _) _ _ _); k_dflt (refine Pass.use2 (by k_extra "u") (by k_extra "p0") (fr_pass (by k_extra "q") (by k_extra "q")) (by k_extra "r") ?_; k_whole); k_extra "e2"))
  k_with "evi" => ((first | with_reducible exact EvI.lit | ((with_reducible show EvI _ (PySem.Expr.Subscript _ _ _) _); k_dflt (exact EvI.item (by exact rfl) (by exact rfl) (by exact rfl) (by exact rfl) (by walk_at "tup") (by exact rfl))) | ((with_reducible show EvI _ (PySem.Expr.Name _ _) _); k_dflt (exact EvI.name (by exact rfl) (by exact rfl) (by exact rfl) (by exact rfl))) | ((with_reducible show EvI _ (PySem.Expr.BinOp _ Operator.Mult _ _) _); with_reducible exact EvI.mul (by k_extra "evi") (by k_extra "evi") (by k_dflt mul_fits)) | ((with_reducible show EvI _ (PySem.Expr.BinOp _ Operator.Add _ _) _); with_reducible exact EvI.add (by k_extra "evi") (by k_extra "evi")) | ((with_reducible show EvI _ (PySem.Expr.BinOp _ Operator.Sub _ _) _); with_reducible exact EvI.sub (by k_extra "evi") (by k_extra "evi"))))
  k_with "eval BinOp" => ((k_here; k_dflt (refine evi_use (by k_asm) (by k_asm) (by k_extra "evi") ?_; k_whole); intro t9 tk9; (try dsimp only)))
  k_with "call ref" => ((k_here; (with_reducible show wpAny _ _ (call (Value.ref 110) _) _ _ _); k_dflt (refine Pass.useI (by k_extra "u") (by k_extra "p1") (sign_pass) (by k_extra "r") ?_; k_whole); k_extra "eI"))
  k_with "call ref" => ((k_here; (with_reducible show wpAny _ _ (call (Value.ref 89) _) _ _ _); k_dflt (refine Pass.use2 (by k_extra "u") (by k_extra "p2") (minus_pass (by k_extra "q") (by k_extra "q") (by k_extra "q") (by k_extra "q") (by k_extra "q") (by k_extra "q")) (by k_extra "r") ?_; k_whole); k_extra "e2"))
  k_with "call ref" => ((k_here; (with_reducible show wpAny _ _ (call (Value.ref 117) _) _ _ _); k_dflt (refine Pass.useI (by k_extra "u") (by k_extra "p2") (compare_pass (by k_extra "q") (by k_extra "q") (by k_extra "q") (by k_extra "q") (by k_extra "q") (by k_extra "q")) (by k_extra "r") ?_; k_whole); k_extra "eI"))
  k_with "call ref" => ((k_here; (with_reducible show wpAny _ _ (call (Value.ref 124) _) _ _ _); k_dflt (refine Pass.useI (by k_extra "u") (by k_extra "p1") (floor_pass (by k_extra "q") (by k_extra "q") (by k_extra "q")) (by k_extra "r") ?_; k_whole); k_extra "eI"))
  k_with "tup" => (first | ((with_reducible show TupIn _ _ 59 _ _); exact zero_in (by k_asm)) | ((with_reducible show TupIn _ _ 60 _ _); exact one_in (by k_asm)))
  k_with "compareOp NotIn str ref" => ((k_here; k_dflt (first | refine kind_in (by k_asm) (by k_asm) (by decide +kernel) ?_ | refine kind_out (by k_asm) (by k_asm) (by decide +kernel) ?_)))
  k_with "call ref" => ((k_here; (with_reducible show wpAny _ _ (call (Value.ref 75) _) _ _ _); k_dflt (refine Pass.use2 (by k_extra "u") (by k_extra "p0") (fr1_pass) (by k_extra "r") ?_; k_whole); k_extra "e2"))
  k_with "call ref" => ((k_here; (with_reducible show wpAny _ _ (call (Value.ref 167) _) _ _ _); k_dflt (refine Pass.useO (by k_extra "u") (by k_extra "p1") (padded_pass (by k_extra "q") (by k_extra "q") (by k_extra "q")) (by k_extra "r") ?_; k_whole); k_extra "eO"))
  k_with "call ref" => ((k_here; (with_reducible show wpAny _ _ (call (Value.ref 146) _) _ _ _); k_dflt (refine Pass.useN (by k_extra "u") (by k_extra "p0") (check_pad) (by k_extra "r") ?_; k_whole); k_extra "eN"))
  k_with "call ref" => ((k_here; (with_reducible show wpAny _ _ (call (Value.ref 146) _) _ _ _); k_dflt (refine Pass.useN (by k_extra "u") (by k_extra "p0") (check_repeat) (by k_extra "r") ?_; k_whole); k_extra "eN"))
  k_with "call ref" => ((k_here; (with_reducible show wpAny _ _ (call (Value.ref 146) _) _ _ _); k_dflt (refine Pass.useN (by k_extra "u") (by k_extra "p0") (check_reflect) (by k_extra "r") ?_; k_whole); k_extra "eN"))
  k_with "call ref" => ((k_here; (with_reducible show wpAny _ _ (call (Value.ref 153) _) _ _ _); k_dflt (refine Pass.use2 (by k_extra "u") (by k_extra "p1") (part_pass (by k_extra "q") (by k_extra "q") (by k_extra "q")) (by k_extra "r") ?_; k_whole); k_extra "e2"))
  k_with "call ref" => ((k_here; (with_reducible show wpAny _ _ (call (Value.ref 160) _) _ _ _); k_dflt (refine Pass.use2 (by k_extra "u") (by k_extra "p1") (refl_pass (by k_extra "q") (by k_extra "q") (by k_extra "q")) (by k_extra "r") ?_; k_whole); k_extra "e2"))
  k_with "call ref" => ((k_here; (with_reducible show wpAny _ _ (call (Value.ref 138) _) _ _ _); k_dflt (refine Pass.useI (by k_extra "u") (by k_extra "p0") (root_pass (by k_extra "q") (by k_extra "q")) (by k_extra "r") ?_; k_whole); k_extra "eI"))
  k_with "call ref" => ((k_here; (with_reducible show wpAny _ _ (call (Value.ref 96) _) _ _ _); k_dflt (refine Pass.use2 (by k_extra "u") (by k_extra "p2") (times_e (by k_extra "q") (by k_extra "q") (by k_extra "q")) (by k_extra "r") ?_; k_whole); k_extra "e2"))
  k_with "call ref" => ((k_here; (with_reducible show wpAny _ _ (call (Value.ref 82) _) _ _ _); k_dflt (refine Pass.use2 (by k_extra "u") (by k_extra "p2") (plus_e (by k_extra "q") (by k_extra "q") (by k_extra "q")) (by k_extra "r") ?_; k_whole); k_extra "e2"))
  k_with "call ref" => ((k_here; (with_reducible show wpAny _ _ (call (Value.ref 117) _) _ _ _); k_dflt (refine Pass.useI (by k_extra "u") (by k_extra "p2") (compare_f (by k_extra "q") (by k_extra "q")) (by k_extra "r") ?_; k_whole); k_extra "eI"))
  k_with "call ref" => ((k_here; (with_reducible show wpAny _ _ (call (Value.ref 131) _) _ _ _); k_dflt (refine Pass.useI (by k_extra "u") (by k_extra "p1") (rounded_f (by k_extra "q")) (by k_extra "r") ?_; k_whole); k_extra "eI"))
  k_with "p3" => (exact ⟨by walk_at "tupR", by walk_at "tup", by walk_at "tup"⟩)
  k_with "subscriptTail Name Constant ref int" => ((k_here; k_dflt (refine trin (by k_asm) (by k_asm) (by walk_at "tupR") (by rfl) ?_; k_whole)))
  k_with "call ref" => ((k_here; (with_reducible show wpAny _ _ (call (Value.ref 96) _) _ _ _); k_dflt (refine Pass.use2 (by k_extra "u") (by k_extra "p2") (times1_e (by k_extra "q") (by k_extra "q") (by k_extra "q")) (by k_extra "r") ?_; k_whole); k_extra "e2"))
  k_with "call ref" => ((k_here; (with_reducible show wpAny _ _ (call (Value.ref 82) _) _ _ _); k_dflt (refine Pass.use2 (by k_extra "u") (by k_extra "p2") (plus1_e (by k_extra "q") (by k_extra "q") (by k_extra "q")) (by k_extra "r") ?_; k_whole); k_extra "e2"))
  k_with "call ref" => ((k_here; (with_reducible show wpAny _ _ (call (Value.ref 188) _) _ _ _); k_dflt (refine Pass.use2 (by k_extra "u") (by k_extra "p3") (product_e (by k_extra "q") (by k_extra "q") (by k_extra "q") (by k_extra "q") (by k_extra "q") (by k_extra "q") (by k_extra "q")) (by k_extra "r") ?_; k_whole); k_extra "e2"))
  k_with "call ref" => ((k_here; (with_reducible show wpAny _ _ (call (Value.ref 195) _) _ _ _); k_dflt (refine Pass.use2 (by k_extra "u") (by k_extra "p1") (rootof_e (by k_extra "q") (by k_extra "q")) (by k_extra "r") ?_; k_whole); k_extra "e2"))
  k_with "call ref" => ((k_here; (with_reducible show wpAny _ _ (call (Value.ref 75) _) _ _ _); k_dflt (refine Pass.use2 (by k_extra "u") (by k_extra "p0") (fr_e (by k_extra "q") (by k_extra "q") (by k_extra "q")) (by k_extra "r") ?_; k_whole); k_extra "e2"))
  k_with "call ref" => ((k_here; (with_reducible show wpAny _ _ (call (Value.ref 103) _) _ _ _); k_dflt (refine Pass.use2 (by k_extra "u") (by k_extra "p2") (divided_e (by k_extra "q") (by k_extra "q") (by k_extra "q") (by k_extra "q")) (by k_extra "r") ?_; k_whole); k_extra "e2"))
  trivial
theorem mulb {a b A B : Int} (h0 : 0 ≤ a) (h1 : a ≤ A) (h2 : 0 ≤ b) (h3 : b ≤ B) : 0 ≤ a * b ∧ a * b ≤ A * B :=
  ⟨Int.mul_nonneg h0 h2, Int.mul_le_mul h1 h3 h2 (by omega)⟩
theorem nm_box {t b T B : Int} (h0 : 0 ≤ t) (h1 : t ≤ T) (h2 : 0 < b) (h3 : b ≤ B) : (0 ≤ (nm t b).1 ∧ (nm t b).1 ≤ T) ∧ 0 < (nm t b).2 ∧ (nm t b).2 ≤ B :=
  ⟨⟨(nm1_le h2 h0).1, Int.le_trans (nm1_le h2 h0).2 h1⟩, nm2_pos h2, Int.le_trans (nm2_le h2) h3⟩
theorem s4b {s n : Int} (h0 : 0 ≤ s) (h1 : s < 20000) (h2 : 1 ≤ n) (h3 : n ≤ 256) : 0 ≤ s * 1 * n * n ∧ s * 1 * n * n < 10000000000 := by
  have a := mulb (a := s * 1) (b := n) (A := 20000) (B := 256) (by omega) (by omega) (by omega) h3
  have b := mulb (a := s * 1 * n) (b := n) (A := 20000 * 256) (B := 256) a.1 a.2 (by omega) h3
  omega
theorem qb {m : Int} (h0 : 0 ≤ m) (h1 : m < 10000000000) : 0 ≤ rt m ∧ rt m ≤ 99999 := by
  obtain ⟨a, b, _⟩ := rt_spec h0 (by omega)
  refine ⟨a, ?_⟩
  have := sq_lt (a := rt m) (b := 100000) a (by omega) (by decide)
  omega
/-! a fraction is told by its cross products -/
theorem nm_cross {t b : Int} : (nm t b).1 * b = t * (nm t b).2 := by
  show t / _ * b = t * (b / _)
  have h1 : (Int.gcd t b : Int) ∣ t := Int.gcd_dvd_left ..
  have h2 : (Int.gcd t b : Int) ∣ b := Int.gcd_dvd_right ..
  rw [← Int.mul_ediv_assoc _ h2, Int.mul_comm, ← Int.mul_ediv_assoc _ h1, Int.mul_comm]
theorem nm_scale {t b k : Int} (hk : 0 < k) : nm (t * k) (b * k) = nm t b := by
  have hg : (Int.gcd (t * k) (b * k) : Int) = Int.gcd t b * k := by
    rw [Int.gcd_mul_right, Int.natCast_mul, Int.natAbs_of_nonneg (Int.le_of_lt hk)]
  unfold nm
  rw [hg, Int.mul_ediv_mul_of_pos_left _ _ hk, Int.mul_ediv_mul_of_pos_left _ _ hk]
theorem nm_same {t b t' b' : Int} (hb : 0 < b) (hb' : 0 < b') (h : t * b' = t' * b) : nm t b = nm t' b' := by
  rw [← nm_scale (t := t) (b := b) hb', h, Int.mul_comm b b', nm_scale hb]
theorem share_eq {x r n q : Int} (hq : 0 ≤ q) (hn : 2 ≤ n) (hr : 0 < r) :
    nm (x * (nm ((nm (r * (nm (n - 1) n).1) (1 * (nm (n - 1) n).2)).1 * (nm ((nm q (1 * n)).1 * (nm 1 n).2 + (nm 1 n).1 * (nm q (1 * n)).2) ((nm q (1 * n)).2 * (nm 1 n).2)).2) ((nm (r * (nm (n - 1) n).1) (1 * (nm (n - 1) n).2)).2 * (nm ((nm q (1 * n)).1 * (nm 1 n).2 + (nm 1 n).1 * (nm q (1 * n)).2) ((nm q (1 * n)).2 * (nm 1 n).2)).1)).1) (1 * (nm ((nm (r * (nm (n - 1) n).1) (1 * (nm (n - 1) n).2)).1 * (nm ((nm q (1 * n)).1 * (nm 1 n).2 + (nm 1 n).1 * (nm q (1 * n)).2) ((nm q (1 * n)).2 * (nm 1 n).2)).2) ((nm (r * (nm (n - 1) n).1) (1 * (nm (n - 1) n).2)).2 * (nm ((nm q (1 * n)).1 * (nm 1 n).2 + (nm 1 n).1 * (nm q (1 * n)).2) ((nm q (1 * n)).2 * (nm 1 n).2)).1)).2) = nm (x * (r * (n - 1))) (q + 1) := by
  have eC : nm ((nm q (1 * n)).1 * (nm 1 n).2 + (nm 1 n).1 * (nm q (1 * n)).2) ((nm q (1 * n)).2 * (nm 1 n).2) = nm (q + 1) n := by
    rw [nm_1n (by omega), Int.one_mul]
    have c := nm_cross (t := q) (b := n)
    have p := nm2_pos (t := q) (b := n) (by omega)
    dsimp only
    refine nm_same (Int.mul_pos p (by omega)) (by omega) ?_
    generalize (nm q n).1 = u at c
    generalize (nm q n).2 = v at c
    grind
  rw [eC]
  have eG : nm (r * (nm (n - 1) n).1) (1 * (nm (n - 1) n).2) = nm (r * (n - 1)) n := by
    have c := nm_cross (t := n - 1) (b := n)
    have p := nm2_pos (t := n - 1) (b := n) (by omega)
    refine nm_same (by omega) (by omega) ?_
    generalize (nm (n - 1) n).1 = u at c
    generalize (nm (n - 1) n).2 = v at c
    grind
  rw [eG]
  have c1 := nm_cross (t := r * (n - 1)) (b := n)
  have p1 := nm2_pos (t := r * (n - 1)) (b := n) (by omega)
  have c2 := nm_cross (t := q + 1) (b := n)
  have p2 := nm1_pos (t := q + 1) (b := n) (by omega) (by omega)
  generalize (nm (r * (n - 1)) n).1 = u at c1
  generalize (nm (r * (n - 1)) n).2 = v at c1 p1
  generalize (nm (q + 1) n).1 = u' at c2 p2
  generalize (nm (q + 1) n).2 = v' at c2
  have eH : nm (u * v') (v * u') = nm (r * (n - 1)) (q + 1) := by
    refine nm_same (Int.mul_pos p1 p2) (by omega) ?_
    have : (u * v' * (q + 1) - r * (n - 1) * (v * u')) * n = 0 := by grind
    rcases Int.mul_eq_zero.mp this with h | h
    · omega
    · omega
  rw [eH]
  have c := nm_cross (t := r * (n - 1)) (b := q + 1)
  have p := nm2_pos (t := r * (n - 1)) (b := q + 1) (by omega)
  refine nm_same (by omega) (by omega) ?_
  generalize (nm (r * (n - 1)) (q + 1)).1 = u at c
  generalize (nm (r * (n - 1)) (q + 1)).2 = v at c
  grind
def RRo (news : List (Addr × Obj)) (c d : Int × Int) (_ : Heap) (r : Value) (news' : List (Addr × Obj)) : Prop :=
  ∃ D p q t u t' u', r = .ref D ∧ news' = (D, tupR p q) :: (q, tup2 d.1 t' d.2 u') :: (p, tup2 c.1 t c.2 u) :: news
section
variable {s : Shared} {h₀ : Heap} {L : Addr} {m : Str → Option Value} {Q : Value → Shared → Prop} {news : List (Addr × Obj)}
theorem retRo {c d c' d' : Int × Int} {D p q : Addr} {t u t' u' : Tok} {h' : Heap} {tk' : Nat} {news'' : List (Addr × Obj)} (hret : ∀ r news' h' tk', Fr h₀ L h' m → News h₀ L h' news' → RRo news c d h₀ r news' → Q r { s with heap := h', toks := tk' })
    (F : Fr h₀ L h' m) (N : News h₀ L h' ((D, tupR p q) :: (q, tup2 d'.1 t' d'.2 u') :: (p, tup2 c'.1 t c'.2 u) :: news'')) (hs : ∀ p ∈ news, p ∈ news'') (e1 : c' = c) (e2 : d' = d) : Q (.ref D) { s with heap := h', toks := tk' } := by
  subst e1 e2
  refine hret _ ((D, tupR p q) :: (q, tup2 d'.1 t' d'.2 u') :: (p, tup2 c'.1 t c'.2 u) :: news) _ _ F (cb_drop N fun z hz => ?_) ⟨D, p, q, t, u, t', u', rfl, rfl⟩
  rcases List.mem_cons.mp hz with rfl | hz
  · exact .head _
  rcases List.mem_cons.mp hz with rfl | hz
  · exact .tail _ (.head _)
  rcases List.mem_cons.mp hz with rfl | hz
  · exact .tail _ (.tail _ (.head _))
  exact .tail _ (.tail _ (.tail _ (hs _ hz)))
end
set_option maxRecDepth 100000 in
set_option maxHeartbeats 8000000 in
theorem focus_core {w mean mg mb news} {a p q b : Addr} {x y r n xx yy S R u1 v1 u2 v2 u3 v3 u4 v4 u5 v5 u6 v6 a1 b1 c1 d1 : Int} {tn : Tok} (fx : Fb x 1) (fy : Fb y 1) (ex : x * x = xx) (ey : y * y = yy) (gx : Fb xx 1) (gy : Fb yy 1) (eS : xx + yy = S) (fr : Fb r 1) (eR : r * r = R) (fS : Fb S 1) (fR : Fb R 1) (hs : ¬ sg (S * 1 - R * 1) < 0)
    (hn : 2 ≤ n ∧ n ≤ 256) (n0 : 0 < n) (n1 : n < 1000000000000000000000000000000) (rb : Rb S 1 n) (e1 : nm (rt (S * 1 * n * n)) (1 * n) = (u1, v1)) (e2 : nm 1 n = (u2, v2)) (f1 : Fb u1 v1) (f2 : Fb u2 v2) (e3 : nm (u1 * v2 + u2 * v1) (v1 * v2) = (u3, v3)) (f3 : Fb u3 v3) (p3 : 0 < u3)
    (e4 : nm (n - 1) n = (u4, v4)) (f4 : Fb u4 v4) (e5 : nm (r * u4) (1 * v4) = (u5, v5)) (f5 : Fb u5 v5) (e6 : nm (u5 * v3) (v5 * u3) = (u6, v6)) (f6 : Fb u6 v6) (e7 : nm (x * u6) (1 * v6) = (a1, b1)) (e8 : nm (y * u6) (1 * v6) = (c1, d1)) :
    Pass w mean mg mb 202 6 [.ref a, .ref b, .int n tn] news (fun h₀ => TupR h₀ news a p q ∧ TupIn h₀ news p x 1 ∧ TupIn h₀ news q y 1 ∧ TupIn h₀ news b r 1) (RRo news (a1, b1) (c1, d1)) := by
  unfold Pass
  k_fill
  intro dp un gd cn cs a' ccd cl outer A₀ base h₀ L m s Q E B F X N T hk hpre hdd hu hret
  obtain ⟨hp, gs, dr, tk, os⟩ := s
  dsimp only at F N
  obtain ⟨hp1, hp2, hp3, hp4⟩ := hpre
  refine wpAny_call ?_
  k_dflt ktr_enter
  rename Fr h₀ L _ m => FG
  replace hp1 := hp1.into FG
  replace hp2 := hp2.into FG
  replace hp3 := hp3.into FG
  replace hp4 := hp4.into FG
  k_steps
  exact retRo hret (by k_asm) (by k_asm) (by kcj_all) rfl rfl
theorem mul_box {u v u' v' T B T' B' : Int} (h : Box u v T B) (h' : Box u' v' T' B') : (0 ≤ u * u' ∧ u * u' ≤ T * T') ∧ (0 ≤ u * v' ∧ u * v' ≤ T * B') ∧ (0 ≤ u' * v ∧ u' * v ≤ T' * B) ∧ 0 < v * v' ∧ v * v' ≤ B * B' :=
  ⟨mulb h.1.1 h.1.2 h'.1.1 h'.1.2, mulb h.1.1 h.1.2 (Int.le_of_lt h'.2.1) h'.2.2, mulb h'.1.1 h'.1.2 (Int.le_of_lt h.2.1) h.2.2, Int.mul_pos h.2.1 h'.2.1, (mulb (Int.le_of_lt h.2.1) h.2.2 (Int.le_of_lt h'.2.1) h'.2.2).2⟩
theorem focus_out' {w mean mg mb news} {a p q b : Addr} {x y r n : Int} {tn : Tok} {a1 b1 c1 d1 : Int} (hx : -100 < x ∧ x < 100) (hy : -100 < y ∧ y < 100) (hr : 0 < r ∧ r < 100) (hn : 2 ≤ n ∧ n ≤ 256) (hin : r * r ≤ x * x + y * y)
    (e1 : nm (x * (r * (n - 1))) ((rt ((x * x + y * y) * 1 * n * n)) + 1) = (a1, b1)) (e2 : nm (y * (r * (n - 1))) ((rt ((x * x + y * y) * 1 * n * n)) + 1) = (c1, d1)) :
    Pass w mean mg mb 202 6 [.ref a, .ref b, .int n tn] news (fun h₀ => TupR h₀ news a p q ∧ TupIn h₀ news p x 1 ∧ TupIn h₀ news q y 1 ∧ TupIn h₀ news b r 1) (RRo news (a1, b1) (c1, d1)) := by
  have hr' : -100 < r ∧ r < 100 := ⟨by omega, hr.2⟩
  have s1 := sqb hx
  have s2 := sqb hy
  have g0 := s4b (s := x * x + y * y) (n := n) (by omega) (by omega) (by omega) hn.2
  have gm := mulb (A := 20000) (B := 256) (a := (x * x + y * y) * 1) (b := n) (by omega) (by omega) (by omega) hn.2
  have gq := qb g0.1 g0.2
  have B1 := box_e (t := rt ((x * x + y * y) * 1 * n * n)) (b := 1 * n) (T := 99999) (B := 256) rfl gq.1 gq.2 (by omega) (by omega)
  have B2 := box_e (t := 1) (b := n) (T := 1) (B := 256) rfl (by decide) (by decide) (by omega) hn.2
  have q2 := nm1_pos (t := 1) (b := n) (by omega) (by decide)
  have M3 := mul_box B1 B2
  have q3 := Int.mul_pos q2 B1.2.1
  have B3 := box_e (t := (nm (rt ((x * x + y * y) * 1 * n * n)) (1 * n)).1 * (nm 1 n).2 + (nm 1 n).1 * (nm (rt ((x * x + y * y) * 1 * n * n)) (1 * n)).2) (b := (nm (rt ((x * x + y * y) * 1 * n * n)) (1 * n)).2 * (nm 1 n).2) (T := 25600000) (B := 65536) rfl (Int.add_nonneg M3.2.1.1 M3.2.2.1.1) (Int.le_trans (Int.add_le_add M3.2.1.2 M3.2.2.1.2) (by decide)) M3.2.2.2.1 M3.2.2.2.2
  have q4 := nm1_pos (t := (nm (rt ((x * x + y * y) * 1 * n * n)) (1 * n)).1 * (nm 1 n).2 + (nm 1 n).1 * (nm (rt ((x * x + y * y) * 1 * n * n)) (1 * n)).2) (b := (nm (rt ((x * x + y * y) * 1 * n * n)) (1 * n)).2 * (nm 1 n).2) M3.2.2.2.1 (Int.add_pos_of_nonneg_of_pos M3.2.1.1 q3)
  have B4 := box_e (t := n - 1) (b := n) (T := 255) (B := 256) rfl (by omega) (by omega) (by omega) hn.2
  have M5 := mul_box (u := r) (v := 1) (T := 99) (B := 1) ⟨⟨by omega, by omega⟩, by decide, by decide⟩ B4
  have B5 := box_e (t := r * (nm (n - 1) n).1) (b := 1 * (nm (n - 1) n).2) (T := 25245) (B := 256) rfl M5.1.1 (Int.le_trans M5.1.2 (by decide)) M5.2.2.2.1 (Int.le_trans M5.2.2.2.2 (by decide))
  have M6 := mul_box B5 B3
  have B6 := box_e (t := (nm (r * (nm (n - 1) n).1) (1 * (nm (n - 1) n).2)).1 * (nm ((nm (rt ((x * x + y * y) * 1 * n * n)) (1 * n)).1 * (nm 1 n).2 + (nm 1 n).1 * (nm (rt ((x * x + y * y) * 1 * n * n)) (1 * n)).2) ((nm (rt ((x * x + y * y) * 1 * n * n)) (1 * n)).2 * (nm 1 n).2)).2) (b := (nm (r * (nm (n - 1) n).1) (1 * (nm (n - 1) n).2)).2 * (nm ((nm (rt ((x * x + y * y) * 1 * n * n)) (1 * n)).1 * (nm 1 n).2 + (nm 1 n).1 * (nm (rt ((x * x + y * y) * 1 * n * n)) (1 * n)).2) ((nm (rt ((x * x + y * y) * 1 * n * n)) (1 * n)).2 * (nm 1 n).2)).1) (T := 25245 * 65536) (B := 25600000 * 256) rfl M6.2.1.1 M6.2.1.2 (Int.mul_pos B5.2.1 q4) (by rw [Int.mul_comm]; exact M6.2.2.1.2)
  exact focus_core (fb_small hx) (fb_small hy) rfl rfl (fb_sq hx) (fb_sq hy) rfl (fb_small hr') rfl (fb_sum hx hy) (fb_sq hr') (sg_pos (by omega)) hn (by omega) (by omega)
    ⟨⟨g0.1, Int.lt_trans g0.2 (by decide)⟩, by decide, by decide, by omega, by omega, by omega, by omega, by omega, by omega⟩ rfl rfl (B1.fb (by decide) (by decide)) (B2.fb (by decide) (by decide)) rfl (B3.fb (by decide) (by decide)) q4 rfl (B4.fb (by decide) (by decide)) rfl (B5.fb (by decide) (by decide)) rfl (B6.fb (by decide) (by decide))
    ((share_eq gq.1 hn.1 hr.1).trans e1) ((share_eq gq.1 hn.1 hr.1).trans e2)
theorem words18 : True := by
  k_with_none
  k_with "q" => (first | with_reducible assumption | omega)
  k_with "p0" => (exact trivial)
  k_with "p1" => (walk_at "tup")
  k_with "p2" => (exact ⟨by walk_at "tup", by walk_at "tup"⟩)
  k_with "u" => (exact ⟨by k_asm, by k_asm, by k_asm, by k_asm, by k_asm, by first | exact rfl | assumption⟩)
  k_with "r" => (first | exact room_in (by with_reducible assumption) (by with_reducible assumption) rfl rfl rfl | exact ⟨by ktr_room, by ktr_units⟩)
  k_with "e" => (((try k_sweep); (try dsimp only); (try k_fold)))
  k_with "e2" => ((intro D9 t9 u9 h' tk9 F' N' l1; (try k_lt l1); k_extra "e"))
  k_with "eI" => ((intro t9 h' tk9 F' N'; k_extra "e"))
  k_with "eB" => ((intro h' tk9 F' N'; k_extra "e"))
  k_with "eN" => ((intro h' tk9 F' N'; k_extra "e"))
  k_with "eO" => ((intro D9 h' tk9 F' N' T9 T9b; k_extra "e"))
  k_with "forget" => ((k_here; (with_reducible show wpAny _ _ _ _ _ (Shared.mk _ _ _ (_ + 1) _)); (first | k_dflt (refine forget (by with_reducible assumption) (by with_reducible assumption) (by with_reducible assumption) (by with_reducible assumption) (by rfl) (by rfl) (by rfl) (by rfl) ?_) | with_reducible refine forget_tk ?_); intro tk9))
  k_with "execs cons" => (k_extra "forget")
  k_with "execs nil" => (k_extra "forget")
  k_with "call ref" => ((k_here; (with_reducible show wpAny _ _ (call (Value.ref 67) _) _ _ _); k_dflt (refine Pass.useI (by k_extra "u") (by k_extra "p0") (cd_pass (by k_extra "q")) (by k_extra "r") ?_; k_whole); k_extra "eI"))
  k_with "subscriptTail Name Constant ref int" => ((k_here; k_dflt (refine tin (by k_asm) (by k_asm) (by walk_at "tup") (by rfl) ?_; k_whole); intro t9))
  k_with "call ref" => ((k_here; (with_reducible show wpAny _ _ (call (Value.ref 75) _) _ _ _); k_dflt (refine Pass.use2 (by k_extra "u") (by k_extra "p0") (fr_pass (by k_extra "q") (by k_extra "q")) (by k_extra "r") ?_; k_whole); k_extra "e2"))
  k_with "evi" => ((first | with_reducible exact EvI.lit | ((with_reducible show EvI _ (PySem.Expr.Subscript _ _ _) _); k_dflt (exact EvI.item (by exact rfl) (by exact rfl) (by exact rfl) (by exact rfl) (by walk_at "tup") (by exact rfl))) | ((with_reducible show EvI _ (PySem.Expr.Name _ _) _); k_dflt (exact EvI.name (by exact rfl) (by exact rfl) (by exact rfl) (by exact rfl))) | ((with_reducible show EvI _ (PySem.Expr.BinOp _ Operator.Mult _ _) _); with_reducible exact EvI.mul (by k_extra "evi") (by k_extra "evi") (by k_dflt mul_fits)) | ((with_reducible show EvI _ (PySem.Expr.BinOp _ Operator.Add _ _) _); with_reducible exact EvI.add (by k_extra "evi") (by k_extra "evi")) | ((with_reducible show EvI _ (PySem.Expr.BinOp _ Operator.Sub _ _) _); with_reducible exact EvI.sub (by k_extra "evi") (by k_extra "evi"))))
  k_with "eval BinOp" => ((k_here; k_dflt (refine evi_use (by k_asm) (by k_asm) (by k_extra "evi") ?_; k_whole); intro t9 tk9; (try dsimp only)))
  k_with "call ref" => ((k_here; (with_reducible show wpAny _ _ (call (Value.ref 110) _) _ _ _); k_dflt (refine Pass.useI (by k_extra "u") (by k_extra "p1") (sign_pass) (by k_extra "r") ?_; k_whole); k_extra "eI"))
  k_with "call ref" => ((k_here; (with_reducible show wpAny _ _ (call (Value.ref 89) _) _ _ _); k_dflt (refine Pass.use2 (by k_extra "u") (by k_extra "p2") (minus_pass (by k_extra "q") (by k_extra "q") (by k_extra "q") (by k_extra "q") (by k_extra "q") (by k_extra "q")) (by k_extra "r") ?_; k_whole); k_extra "e2"))
  k_with "call ref" => ((k_here; (with_reducible show wpAny _ _ (call (Value.ref 117) _) _ _ _); k_dflt (refine Pass.useI (by k_extra "u") (by k_extra "p2") (compare_pass (by k_extra "q") (by k_extra "q") (by k_extra "q") (by k_extra "q") (by k_extra "q") (by k_extra "q")) (by k_extra "r") ?_; k_whole); k_extra "eI"))
  k_with "call ref" => ((k_here; (with_reducible show wpAny _ _ (call (Value.ref 124) _) _ _ _); k_dflt (refine Pass.useI (by k_extra "u") (by k_extra "p1") (floor_pass (by k_extra "q") (by k_extra "q") (by k_extra "q")) (by k_extra "r") ?_; k_whole); k_extra "eI"))
  k_with "tup" => (first | ((with_reducible show TupIn _ _ 59 _ _); exact zero_in (by k_asm)) | ((with_reducible show TupIn _ _ 60 _ _); exact one_in (by k_asm)))
  k_with "compareOp NotIn str ref" => ((k_here; k_dflt (first | refine kind_in (by k_asm) (by k_asm) (by decide +kernel) ?_ | refine kind_out (by k_asm) (by k_asm) (by decide +kernel) ?_)))
  k_with "call ref" => ((k_here; (with_reducible show wpAny _ _ (call (Value.ref 75) _) _ _ _); k_dflt (refine Pass.use2 (by k_extra "u") (by k_extra "p0") (fr1_pass) (by k_extra "r") ?_; k_whole); k_extra "e2"))
  k_with "call ref" => ((k_here; (with_reducible show wpAny _ _ (call (Value.ref 167) _) _ _ _); k_dflt (refine Pass.useO (by k_extra "u") (by k_extra "p1") (padded_pass (by k_extra "q") (by k_extra "q") (by k_extra "q")) (by k_extra "r") ?_; k_whole); k_extra "eO"))
  k_with "call ref" => ((k_here; (with_reducible show wpAny _ _ (call (Value.ref 146) _) _ _ _); k_dflt (refine Pass.useN (by k_extra "u") (by k_extra "p0") (check_pad) (by k_extra "r") ?_; k_whole); k_extra "eN"))
  k_with "call ref" => ((k_here; (with_reducible show wpAny _ _ (call (Value.ref 146) _) _ _ _); k_dflt (refine Pass.useN (by k_extra "u") (by k_extra "p0") (check_repeat) (by k_extra "r") ?_; k_whole); k_extra "eN"))
  k_with "call ref" => ((k_here; (with_reducible show wpAny _ _ (call (Value.ref 146) _) _ _ _); k_dflt (refine Pass.useN (by k_extra "u") (by k_extra "p0") (check_reflect) (by k_extra "r") ?_; k_whole); k_extra "eN"))
  k_with "call ref" => ((k_here; (with_reducible show wpAny _ _ (call (Value.ref 153) _) _ _ _); k_dflt (refine Pass.use2 (by k_extra "u") (by k_extra "p1") (part_pass (by k_extra "q") (by k_extra "q") (by k_extra "q")) (by k_extra "r") ?_; k_whole); k_extra "e2"))
  k_with "call ref" => ((k_here; (with_reducible show wpAny _ _ (call (Value.ref 160) _) _ _ _); k_dflt (refine Pass.use2 (by k_extra "u") (by k_extra "p1") (refl_pass (by k_extra "q") (by k_extra "q") (by k_extra "q")) (by k_extra "r") ?_; k_whole); k_extra "e2"))
  k_with "call ref" => ((k_here; (with_reducible show wpAny _ _ (call (Value.ref 138) _) _ _ _); k_dflt (refine Pass.useI (by k_extra "u") (by k_extra "p0") (root_pass (by k_extra "q") (by k_extra "q")) (by k_extra "r") ?_; k_whole); k_extra "eI"))
  k_with "call ref" => ((k_here; (with_reducible show wpAny _ _ (call (Value.ref 96) _) _ _ _); k_dflt (refine Pass.use2 (by k_extra "u") (by k_extra "p2") (times_e (by k_extra "q") (by k_extra "q") (by k_extra "q")) (by k_extra "r") ?_; k_whole); k_extra "e2"))
  k_with "call ref" => ((k_here; (with_reducible show wpAny _ _ (call (Value.ref 82) _) _ _ _); k_dflt (refine Pass.use2 (by k_extra "u") (by k_extra "p2") (plus_e (by k_extra "q") (by k_extra "q") (by k_extra "q")) (by k_extra "r") ?_; k_whole); k_extra "e2"))
  k_with "call ref" => ((k_here; (with_reducible show wpAny _ _ (call (Value.ref 117) _) _ _ _); k_dflt (refine Pass.useI (by k_extra "u") (by k_extra "p2") (compare_f (by k_extra "q") (by k_extra "q")) (by k_extra "r") ?_; k_whole); k_extra "eI"))
  k_with "call ref" => ((k_here; (with_reducible show wpAny _ _ (call (Value.ref 131) _) _ _ _); k_dflt (refine Pass.useI (by k_extra "u") (by k_extra "p1") (rounded_f (by k_extra "q")) (by k_extra "r") ?_; k_whole); k_extra "eI"))
  k_with "p3" => (exact ⟨by walk_at "tupR", by walk_at "tup", by walk_at "tup"⟩)
  k_with "subscriptTail Name Constant ref int" => ((k_here; k_dflt (refine trin (by k_asm) (by k_asm) (by walk_at "tupR") (by rfl) ?_; k_whole)))
  k_with "call ref" => ((k_here; (with_reducible show wpAny _ _ (call (Value.ref 96) _) _ _ _); k_dflt (refine Pass.use2 (by k_extra "u") (by k_extra "p2") (times1_e (by k_extra "q") (by k_extra "q") (by k_extra "q")) (by k_extra "r") ?_; k_whole); k_extra "e2"))
  k_with "call ref" => ((k_here; (with_reducible show wpAny _ _ (call (Value.ref 82) _) _ _ _); k_dflt (refine Pass.use2 (by k_extra "u") (by k_extra "p2") (plus1_e (by k_extra "q") (by k_extra "q") (by k_extra "q")) (by k_extra "r") ?_; k_whole); k_extra "e2"))
  k_with "call ref" => ((k_here; (with_reducible show wpAny _ _ (call (Value.ref 188) _) _ _ _); k_dflt (refine Pass.use2 (by k_extra "u") (by k_extra "p3") (product_e (by k_extra "q") (by k_extra "q") (by k_extra "q") (by k_extra "q") (by k_extra "q") (by k_extra "q") (by k_extra "q")) (by k_extra "r") ?_; k_whole); k_extra "e2"))
  k_with "call ref" => ((k_here; (with_reducible show wpAny _ _ (call (Value.ref 195) _) _ _ _); k_dflt (refine Pass.use2 (by k_extra "u") (by k_extra "p1") (rootof_e (by k_extra "q") (by k_extra "q")) (by k_extra "r") ?_; k_whole); k_extra "e2"))
  k_with "call ref" => ((k_here; (with_reducible show wpAny _ _ (call (Value.ref 75) _) _ _ _); k_dflt (refine Pass.use2 (by k_extra "u") (by k_extra "p0") (fr_e (by k_extra "q") (by k_extra "q") (by k_extra "q")) (by k_extra "r") ?_; k_whole); k_extra "e2"))
  k_with "call ref" => ((k_here; (with_reducible show wpAny _ _ (call (Value.ref 103) _) _ _ _); k_dflt (refine Pass.use2 (by k_extra "u") (by k_extra "p2") (divided_e (by k_extra "q") (by k_extra "q") (by k_extra "q") (by k_extra "q")) (by k_extra "r") ?_; k_whole); k_extra "e2"))
  trivial
theorem nm2_dvd {t b : Int} : (nm t b).2 ∣ b := Int.ediv_dvd_of_dvd (Int.gcd_dvd_right ..)
theorem nm_back {t b : Int} (hb : 0 < b) : (nm t b).1 * (b / (nm t b).2) = t := by
  have hg := nm_gcd (t := t) hb
  show t / _ * (b / (b / _)) = t
  have h1 : (Int.gcd t b : Int) ∣ t := Int.gcd_dvd_left ..
  have h2 : (Int.gcd t b : Int) ∣ b := Int.gcd_dvd_right ..
  generalize (Int.gcd t b : Int) = g at hg h1 h2
  obtain ⟨k, rfl⟩ := h1
  obtain ⟨l, rfl⟩ := h2
  have hl : 0 < l := by
    false_or_by_contra
    have := Int.mul_nonneg (a := g) (b := -l) (by omega) (by omega)
    rw [Int.mul_neg] at this
    omega
  rw [Int.mul_ediv_cancel_left _ (by omega), Int.mul_ediv_cancel_left _ (by omega), Int.mul_comm g l, Int.mul_ediv_cancel_left _ (by omega), Int.mul_comm]
theorem rr_facts {u v n : Int} (hu : 0 ≤ u ∧ u ≤ 499) (hv : 0 < v ∧ v ≤ 12) (hn : 1 ≤ n ∧ n ≤ 300) :
    (0 ≤ u * v ∧ u * v ≤ 5988) ∧ (0 ≤ u * v * n ∧ u * v * n ≤ 1796400) ∧ (0 ≤ u * v * n * n ∧ u * v * n * n < 1000000000000) ∧ (0 < v * n ∧ v * n ≤ 3600) ∧
    (0 ≤ rt (u * v * n * n) ∧ rt (u * v * n * n) ≤ 99999) ∧ ((0 ≤ (nm (rt (u * v * n * n)) (v * n)).1 ∧ (nm (rt (u * v * n * n)) (v * n)).1 ≤ 99999) ∧ 0 < (nm (rt (u * v * n * n)) (v * n)).2 ∧ (nm (rt (u * v * n * n)) (v * n)).2 ≤ 3600) ∧
    (v * n).fmod (nm (rt (u * v * n * n)) (v * n)).2 = 0 ∧ (nm (rt (u * v * n * n)) (v * n)).1 * (v * n).fdiv (nm (rt (u * v * n * n)) (v * n)).2 = rt (u * v * n * n) ∧
    rt (u * v * n * n) * rt (u * v * n * n) * v ≤ u * (v * n) * (v * n) ∧ u * (v * n) * (v * n) < (rt (u * v * n * n) + 1) * (rt (u * v * n * n) + 1) * v := by
  have d1 := mulb (a := u) (b := v) (A := 499) (B := 12) (by omega) (by omega) (by omega) (by omega)
  have d2 := mulb (a := u * v) (b := n) (A := 5988) (B := 300) (by omega) (by omega) (by omega) (by omega)
  have d3 := mulb (a := u * v * n) (b := n) (A := 1796400) (B := 300) (by omega) (by omega) (by omega) (by omega)
  have d5 := mulb (a := v) (b := n) (A := 12) (B := 300) (by omega) (by omega) (by omega) (by omega)
  have d6 : 0 < v * n := Int.mul_pos (by omega) (by omega)
  have gq := qb d3.1 (by omega)
  obtain ⟨r0, r1, r2⟩ := rt_spec d3.1 (by omega)
  generalize rt (u * v * n * n) = z at *
  have fA := nm_box (t := z) (b := v * n) (T := 99999) (B := 3600) (by omega) (by omega) (by omega) (by omega)
  refine ⟨⟨d1.1, by omega⟩, ⟨d2.1, by omega⟩, ⟨d3.1, by omega⟩, ⟨d6, by omega⟩, gq, fA, ?_, ?_, ?_, ?_⟩
  · rw [Int.fmod_eq_emod_of_nonneg _ (by omega)]
    exact Int.emod_eq_zero_of_dvd nm2_dvd
  · rw [Int.fdiv_eq_ediv_of_nonneg _ (by omega)]
    exact nm_back d6
  · have := Int.mul_le_mul_of_nonneg_right r1 (show 0 ≤ v by omega)
    refine Int.le_trans this (Int.le_of_eq ?_)
    grind
  · have := Int.mul_lt_mul_of_pos_right r2 (show 0 < v by omega)
    refine Int.lt_of_le_of_lt (Int.le_of_eq ?_) this
    grind
local macro_rules | `(tactic| mul_fits) => `(tactic| first | exact PySem.IntMulOk.of_right (by with_reducible assumption) | exact PySem.IntMulOk.of_left (by with_reducible assumption) | exact PySem.IntMulOk.of_left (by decide))
theorem words19 : True := by
  k_with_none
  k_with "q" => (first | with_reducible assumption | omega)
  k_with "p0" => (exact trivial)
  k_with "p1" => (walk_at "tup")
  k_with "p2" => (exact ⟨by walk_at "tup", by walk_at "tup"⟩)
  k_with "u" => (exact ⟨by k_asm, by k_asm, by k_asm, by k_asm, by k_asm, by first | exact rfl | assumption⟩)
  k_with "r" => (first | exact room_in (by with_reducible assumption) (by with_reducible assumption) rfl rfl rfl | exact ⟨by ktr_room, by ktr_units⟩)
  k_with "e" => (((try k_sweep); (try dsimp only); (try k_fold)))
  k_with "e2" => ((intro D9 t9 u9 h' tk9 F' N' l1; (try k_lt l1); k_extra "e"))
  k_with "eI" => ((intro t9 h' tk9 F' N'; k_extra "e"))
  k_with "eB" => ((intro h' tk9 F' N'; k_extra "e"))
  k_with "eN" => ((intro h' tk9 F' N'; k_extra "e"))
  k_with "eO" => ((intro D9 h' tk9 F' N' T9 T9b; k_extra "e"))
  k_with "forget" => ((k_here; (with_reducible show wpAny _ _ _ _ _ (Shared.mk _ _ _ (_ + 1) _)); (first | k_dflt (refine forget (by with_reducible assumption) (by with_reducible assumption) (by with_reducible assumption) (by with_reducible assumption) (by rfl) (by rfl) (by rfl) (by rfl) ?_) | with_reducible refine forget_tk ?_); intro tk9))
  k_with "execs cons" => (k_extra "forget")
  k_with "execs nil" => (k_extra "forget")
  k_with "call ref" => ((k_here; (with_reducible show wpAny _ _ (call (Value.ref 67) _) _ _ _); k_dflt (refine Pass.useI (by k_extra "u") (by k_extra "p0") (cd_pass (by k_extra "q")) (by k_extra "r") ?_; k_whole); k_extra "eI"))
  k_with "subscriptTail Name Constant ref int" => ((k_here; k_dflt (refine tin (by k_asm) (by k_asm) (by walk_at "tup") (by rfl) ?_; k_whole); intro t9))
  k_with "call ref" => ((k_here; (with_reducible show wpAny _ _ (call (Value.ref 75) _) _ _ _); k_dflt (refine Pass.use2 (by k_extra "u") (by k_extra "p0") (fr_pass (by k_extra "q") (by k_extra "q")) (by k_extra "r") ?_; k_whole); k_extra "e2"))
  k_with "evi" => ((first | with_reducible exact EvI.lit | ((with_reducible show EvI _ (PySem.Expr.Subscript _ _ _) _); k_dflt (exact EvI.item (by exact rfl) (by exact rfl) (by exact rfl) (by exact rfl) (by walk_at "tup") (by exact rfl))) | ((with_reducible show EvI _ (PySem.Expr.Name _ _) _); k_dflt (exact EvI.name (by exact rfl) (by exact rfl) (by exact rfl) (by exact rfl))) | ((with_reducible show EvI _ (PySem.Expr.BinOp _ Operator.Mult _ _) _); with_reducible exact EvI.mul (by k_extra "evi") (by k_extra "evi") (by k_dflt mul_fits)) | ((with_reducible show EvI _ (PySem.Expr.BinOp _ Operator.Add _ _) _); with_reducible exact EvI.add (by k_extra "evi") (by k_extra "evi")) | ((with_reducible show EvI _ (PySem.Expr.BinOp _ Operator.Sub _ _) _); with_reducible exact EvI.sub (by k_extra "evi") (by k_extra "evi"))))
  k_with "eval BinOp" => ((k_here; k_dflt (refine evi_use (by k_asm) (by k_asm) (by k_extra "evi") ?_; k_whole); intro t9 tk9; (try dsimp only)))
  k_with "call ref" => ((k_here; (with_reducible show wpAny _ _ (call (Value.ref 110) _) _ _ _); k_dflt (refine Pass.useI (by k_extra "u") (by k_extra "p1") (sign_pass) (by k_extra "r") ?_; k_whole); k_extra "eI"))
  k_with "call ref" => ((k_here; (with_reducible show wpAny _ _ (call (Value.ref 89) _) _ _ _); k_dflt (refine Pass.use2 (by k_extra "u") (by k_extra "p2") (minus_pass (by k_extra "q") (by k_extra "q") (by k_extra "q") (by k_extra "q") (by k_extra "q") (by k_extra "q")) (by k_extra "r") ?_; k_whole); k_extra "e2"))
  k_with "call ref" => ((k_here; (with_reducible show wpAny _ _ (call (Value.ref 117) _) _ _ _); k_dflt (refine Pass.useI (by k_extra "u") (by k_extra "p2") (compare_pass (by k_extra "q") (by k_extra "q") (by k_extra "q") (by k_extra "q") (by k_extra "q") (by k_extra "q")) (by k_extra "r") ?_; k_whole); k_extra "eI"))
  k_with "call ref" => ((k_here; (with_reducible show wpAny _ _ (call (Value.ref 124) _) _ _ _); k_dflt (refine Pass.useI (by k_extra "u") (by k_extra "p1") (floor_pass (by k_extra "q") (by k_extra "q") (by k_extra "q")) (by k_extra "r") ?_; k_whole); k_extra "eI"))
  k_with "tup" => (first | ((with_reducible show TupIn _ _ 59 _ _); exact zero_in (by k_asm)) | ((with_reducible show TupIn _ _ 60 _ _); exact one_in (by k_asm)))
  k_with "compareOp NotIn str ref" => ((k_here; k_dflt (first | refine kind_in (by k_asm) (by k_asm) (by decide +kernel) ?_ | refine kind_out (by k_asm) (by k_asm) (by decide +kernel) ?_)))
  k_with "call ref" => ((k_here; (with_reducible show wpAny _ _ (call (Value.ref 75) _) _ _ _); k_dflt (refine Pass.use2 (by k_extra "u") (by k_extra "p0") (fr1_pass) (by k_extra "r") ?_; k_whole); k_extra "e2"))
  k_with "call ref" => ((k_here; (with_reducible show wpAny _ _ (call (Value.ref 167) _) _ _ _); k_dflt (refine Pass.useO (by k_extra "u") (by k_extra "p1") (padded_pass (by k_extra "q") (by k_extra "q") (by k_extra "q")) (by k_extra "r") ?_; k_whole); k_extra "eO"))
  k_with "call ref" => ((k_here; (with_reducible show wpAny _ _ (call (Value.ref 146) _) _ _ _); k_dflt (refine Pass.useN (by k_extra "u") (by k_extra "p0") (check_pad) (by k_extra "r") ?_; k_whole); k_extra "eN"))
  k_with "call ref" => ((k_here; (with_reducible show wpAny _ _ (call (Value.ref 146) _) _ _ _); k_dflt (refine Pass.useN (by k_extra "u") (by k_extra "p0") (check_repeat) (by k_extra "r") ?_; k_whole); k_extra "eN"))
  k_with "call ref" => ((k_here; (with_reducible show wpAny _ _ (call (Value.ref 146) _) _ _ _); k_dflt (refine Pass.useN (by k_extra "u") (by k_extra "p0") (check_reflect) (by k_extra "r") ?_; k_whole); k_extra "eN"))
  k_with "call ref" => ((k_here; (with_reducible show wpAny _ _ (call (Value.ref 153) _) _ _ _); k_dflt (refine Pass.use2 (by k_extra "u") (by k_extra "p1") (part_pass (by k_extra "q") (by k_extra "q") (by k_extra "q")) (by k_extra "r") ?_; k_whole); k_extra "e2"))
  k_with "call ref" => ((k_here; (with_reducible show wpAny _ _ (call (Value.ref 160) _) _ _ _); k_dflt (refine Pass.use2 (by k_extra "u") (by k_extra "p1") (refl_pass (by k_extra "q") (by k_extra "q") (by k_extra "q")) (by k_extra "r") ?_; k_whole); k_extra "e2"))
  k_with "call ref" => ((k_here; (with_reducible show wpAny _ _ (call (Value.ref 138) _) _ _ _); k_dflt (refine Pass.useI (by k_extra "u") (by k_extra "p0") (root_pass (by k_extra "q") (by k_extra "q")) (by k_extra "r") ?_; k_whole); k_extra "eI"))
  k_with "call ref" => ((k_here; (with_reducible show wpAny _ _ (call (Value.ref 96) _) _ _ _); k_dflt (refine Pass.use2 (by k_extra "u") (by k_extra "p2") (times_e (by k_extra "q") (by k_extra "q") (by k_extra "q")) (by k_extra "r") ?_; k_whole); k_extra "e2"))
  k_with "call ref" => ((k_here; (with_reducible show wpAny _ _ (call (Value.ref 82) _) _ _ _); k_dflt (refine Pass.use2 (by k_extra "u") (by k_extra "p2") (plus_e (by k_extra "q") (by k_extra "q") (by k_extra "q")) (by k_extra "r") ?_; k_whole); k_extra "e2"))
  k_with "call ref" => ((k_here; (with_reducible show wpAny _ _ (call (Value.ref 117) _) _ _ _); k_dflt (refine Pass.useI (by k_extra "u") (by k_extra "p2") (compare_f (by k_extra "q") (by k_extra "q")) (by k_extra "r") ?_; k_whole); k_extra "eI"))
  k_with "call ref" => ((k_here; (with_reducible show wpAny _ _ (call (Value.ref 131) _) _ _ _); k_dflt (refine Pass.useI (by k_extra "u") (by k_extra "p1") (rounded_f (by k_extra "q")) (by k_extra "r") ?_; k_whole); k_extra "eI"))
  k_with "p3" => (exact ⟨by walk_at "tupR", by walk_at "tup", by walk_at "tup"⟩)
  k_with "subscriptTail Name Constant ref int" => ((k_here; k_dflt (refine trin (by k_asm) (by k_asm) (by walk_at "tupR") (by rfl) ?_; k_whole)))
  k_with "call ref" => ((k_here; (with_reducible show wpAny _ _ (call (Value.ref 96) _) _ _ _); k_dflt (refine Pass.use2 (by k_extra "u") (by k_extra "p2") (times1_e (by k_extra "q") (by k_extra "q") (by k_extra "q")) (by k_extra "r") ?_; k_whole); k_extra "e2"))
  k_with "call ref" => ((k_here; (with_reducible show wpAny _ _ (call (Value.ref 82) _) _ _ _); k_dflt (refine Pass.use2 (by k_extra "u") (by k_extra "p2") (plus1_e (by k_extra "q") (by k_extra "q") (by k_extra "q")) (by k_extra "r") ?_; k_whole); k_extra "e2"))
  k_with "call ref" => ((k_here; (with_reducible show wpAny _ _ (call (Value.ref 188) _) _ _ _); k_dflt (refine Pass.use2 (by k_extra "u") (by k_extra "p3") (product_e (by k_extra "q") (by k_extra "q") (by k_extra "q") (by k_extra "q") (by k_extra "q") (by k_extra "q") (by k_extra "q")) (by k_extra "r") ?_; k_whole); k_extra "e2"))
  k_with "call ref" => ((k_here; (with_reducible show wpAny _ _ (call (Value.ref 195) _) _ _ _); k_dflt (refine Pass.use2 (by k_extra "u") (by k_extra "p1") (rootof_e (by k_extra "q") (by k_extra "q")) (by k_extra "r") ?_; k_whole); k_extra "e2"))
  k_with "call ref" => ((k_here; (with_reducible show wpAny _ _ (call (Value.ref 75) _) _ _ _); k_dflt (refine Pass.use2 (by k_extra "u") (by k_extra "p0") (fr_e (by k_extra "q") (by k_extra "q") (by k_extra "q")) (by k_extra "r") ?_; k_whole); k_extra "e2"))
  k_with "call ref" => ((k_here; (with_reducible show wpAny _ _ (call (Value.ref 103) _) _ _ _); k_dflt (refine Pass.use2 (by k_extra "u") (by k_extra "p2") (divided_e (by k_extra "q") (by k_extra "q") (by k_extra "q") (by k_extra "q")) (by k_extra "r") ?_; k_whole); k_extra "e2"))
  trivial
set_option maxRecDepth 100000 in
set_option maxHeartbeats 8000000 in
theorem rootright_core {w mean mg mb news} {top bot n u v p q pn dv z z1 : Int} {t1 t2 t3 : Tok} (b0 : 0 < bot) (b1 : bot < 1000000000000000000000000000000) (e : nm top bot = (u, v)) (rb : Rb u v n) (e2 : nm (rt (u * v * n * n)) (v * n) = (p, q)) (ep : v * n = pn) (q0 : 0 < q) (qb : q < 1000000000000000000000000000000) (qs : (-1000000000000000000000000000000 < q) ∧ q < 1000000000000000000000000000000)
    (fz : pn.fmod q = 0) (p0 : 0 ≤ p) (ed : pn.fdiv q = dv) (ez : p * dv = z) (ez1 : z + 1 = z1) (k1 : z * z * v ≤ u * pn * pn) (k2 : u * pn * pn < z1 * z1 * v)
    (i1 : Builtin.Int.intBits n ≤ 64) (i2 : Builtin.Int.intBits u ≤ 64) (i3 : Builtin.Int.intBits v ≤ 64) (i4 : Builtin.Int.intBits p ≤ 64) (i5 : Builtin.Int.intBits pn ≤ 64) (i6 : Builtin.Int.intBits z ≤ 64) (i7 : Builtin.Int.intBits z1 ≤ 64) :
    Pass w mean mg mb 251 5 [.int top t1, .int bot t2, .int n t3] news (fun _ => True) (RB news true) := by
  subst ep ed ez ez1
  unfold Pass
  k_fill
  intro dp un gd cn cs a' ccd cl outer A₀ base h₀ L m s Q E B F X N T hk hpre hdd hu hret
  obtain ⟨hp, gs, dr, tk, os⟩ := s
  dsimp only at F N
  refine wpAny_call ?_
  k_dflt ktr_enter
  k_steps
  all_goals first | exact absurd fz (by assumption) | exact retB hret (by k_asm) (by k_asm) (by kcj_all) (decide_eq_true k2) | exact retB hret (by k_asm) (by k_asm) (by kcj_all) (decide_eq_true k1)
theorem rootright_pass {w mean mg mb news} {top bot n : Int} {t1 t2 t3 : Tok} (h1 : 0 ≤ top ∧ top < 500) (h2 : 1 ≤ bot ∧ bot ≤ 12) (h3 : 1 ≤ n ∧ n ≤ 300) :
    Pass w mean mg mb 251 5 [.int top t1, .int bot t2, .int n t3] news (fun _ => True) (RB news true) := by
  rcases e : nm top bot with ⟨u, v⟩
  have e0 := box_e (T := 499) (B := 12) e h1.1 (by omega) (by omega) h2.2
  obtain ⟨d1, d2, d3, d5, gq, fA, fz, fm, k1, k2⟩ := rr_facts (u := u) (v := v) (n := n) e0.1 e0.2 h3
  have gz := rt_spec d3.1 (by omega)
  have rb : Rb u v n := ⟨d3, e0.2.1, by have := e0.2; omega, by omega, by omega, e0.1.1, by have := e0.1; omega, d1.1, by omega⟩
  have k3 : Builtin.Int.intBits (rt (u * v * n * n) + 1) ≤ 64 := intBits_le_64 (by omega) (by omega)
  have k4 : Builtin.Int.intBits (rt (u * v * n * n)) ≤ 64 := intBits_le_64 (by omega) (by omega)
  rcases e2 : nm (rt (u * v * n * n)) (v * n) with ⟨p, q⟩
  rw [e2] at fA fz fm
  dsimp only at fA fz fm
  exact rootright_core (by omega) (by omega) e rb e2 rfl fA.2.1 (by omega) (by omega) fz fA.1.1 rfl rfl rfl (by rw [fm]; exact k1) (by rw [fm]; exact k2) (intBits_le_64 (by omega) (by omega)) (intBits_le_64 (by have := e0.1; omega) (by have := e0.1; omega)) (intBits_le_64 (by have := e0.2; omega) (by have := e0.2; omega)) (intBits_le_64 (by omega) (by omega)) (intBits_le_64 (by omega) (by omega)) (by rw [fm]; exact k4) (by rw [fm]; exact k3)
theorem words20 : True := by
  k_with_none
  k_with "q" => (first | with_reducible assumption | omega)
  k_with "p0" => (exact trivial)
  k_with "p1" => (walk_at "tup")
  k_with "p2" => (exact ⟨by walk_at "tup", by walk_at "tup"⟩)
  k_with "u" => (exact ⟨by k_asm, by k_asm, by k_asm, by k_asm, by k_asm, by first | exact rfl | assumption⟩)
  k_with "r" => (first | exact room_in (by with_reducible assumption) (by with_reducible assumption) rfl rfl rfl | exact ⟨by ktr_room, by ktr_units⟩)
  k_with "e" => (((try k_sweep); (try dsimp only); (try k_fold)))
  k_with "e2" => ((intro D9 t9 u9 h' tk9 F' N' l1; (try k_lt l1); k_extra "e"))
  k_with "eI" => ((intro t9 h' tk9 F' N'; k_extra "e"))
  k_with "eB" => ((intro h' tk9 F' N'; k_extra "e"))
  k_with "eN" => ((intro h' tk9 F' N'; k_extra "e"))
  k_with "eO" => ((intro D9 h' tk9 F' N' T9 T9b; k_extra "e"))
  k_with "forget" => ((k_here; (with_reducible show wpAny _ _ _ _ _ (Shared.mk _ _ _ (_ + 1) _)); (first | k_dflt (refine forget (by with_reducible assumption) (by with_reducible assumption) (by with_reducible assumption) (by with_reducible assumption) (by rfl) (by rfl) (by rfl) (by rfl) ?_) | with_reducible refine forget_tk ?_); intro tk9))
  k_with "execs cons" => (k_extra "forget")
  k_with "execs nil" => (k_extra "forget")
  k_with "call ref" => ((k_here; (with_reducible show wpAny _ _ (call (Value.ref 67) _) _ _ _); k_dflt (refine Pass.useI (by k_extra "u") (by k_extra "p0") (cd_pass (by k_extra "q")) (by k_extra "r") ?_; k_whole); k_extra "eI"))
  k_with "subscriptTail Name Constant ref int" => ((k_here; k_dflt (refine tin (by k_asm) (by k_asm) (by walk_at "tup") (by rfl) ?_; k_whole); intro t9))
  k_with "call ref" => ((k_here; (with_reducible show wpAny _ _ (call (Value.ref 75) _) _ _ _); k_dflt (refine Pass.use2 (by k_extra "u") (by k_extra "p0") (fr_pass (by k_extra "q") (by k_extra "q")) (by k_extra "r") ?_; k_whole); k_extra "e2"))
  k_with "evi" => ((first | with_reducible exact EvI.lit | ((with_reducible show EvI _ (PySem.Expr.Subscript _ _ _) _); k_dflt (exact EvI.item (by exact rfl) (by exact rfl) (by exact rfl) (by exact rfl) (by walk_at "tup") (by exact rfl))) | ((with_reducible show EvI _ (PySem.Expr.Name _ _) _); k_dflt (exact EvI.name (by exact rfl) (by exact rfl) (by exact rfl) (by exact rfl))) | ((with_reducible show EvI _ (PySem.Expr.BinOp _ Operator.Mult _ _) _); with_reducible exact EvI.mul (by k_extra "evi") (by k_extra "evi") (by k_dflt mul_fits)) | ((with_reducible show EvI _ (PySem.Expr.BinOp _ Operator.Add _ _) _); with_reducible exact EvI.add (by k_extra "evi") (by k_extra "evi")) | ((with_reducible show EvI _ (PySem.Expr.BinOp _ Operator.Sub _ _) _); with_reducible exact EvI.sub (by k_extra "evi") (by k_extra "evi"))))
  k_with "eval BinOp" => ((k_here; k_dflt (refine evi_use (by k_asm) (by k_asm) (by k_extra "evi") ?_; k_whole); intro t9 tk9; (try dsimp only)))
  k_with "call ref" => ((k_here; (with_reducible show wpAny _ _ (call (Value.ref 110) _) _ _ _); k_dflt (refine Pass.useI (by k_extra "u") (by k_extra "p1") (sign_pass) (by k_extra "r") ?_; k_whole); k_extra "eI"))
  k_with "call ref" => ((k_here; (with_reducible show wpAny _ _ (call (Value.ref 89) _) _ _ _); k_dflt (refine Pass.use2 (by k_extra "u") (by k_extra "p2") (minus_pass (by k_extra "q") (by k_extra "q") (by k_extra "q") (by k_extra "q") (by k_extra "q") (by k_extra "q")) (by k_extra "r") ?_; k_whole); k_extra "e2"))
  k_with "call ref" => ((k_here; (with_reducible show wpAny _ _ (call (Value.ref 117) _) _ _ _); k_dflt (refine Pass.useI (by k_extra "u") (by k_extra "p2") (compare_pass (by k_extra "q") (by k_extra "q") (by k_extra "q") (by k_extra "q") (by k_extra "q") (by k_extra "q")) (by k_extra "r") ?_; k_whole); k_extra "eI"))
  k_with "call ref" => ((k_here; (with_reducible show wpAny _ _ (call (Value.ref 124) _) _ _ _); k_dflt (refine Pass.useI (by k_extra "u") (by k_extra "p1") (floor_pass (by k_extra "q") (by k_extra "q") (by k_extra "q")) (by k_extra "r") ?_; k_whole); k_extra "eI"))
  k_with "tup" => (first | ((with_reducible show TupIn _ _ 59 _ _); exact zero_in (by k_asm)) | ((with_reducible show TupIn _ _ 60 _ _); exact one_in (by k_asm)))
  k_with "compareOp NotIn str ref" => ((k_here; k_dflt (first | refine kind_in (by k_asm) (by k_asm) (by decide +kernel) ?_ | refine kind_out (by k_asm) (by k_asm) (by decide +kernel) ?_)))
  k_with "call ref" => ((k_here; (with_reducible show wpAny _ _ (call (Value.ref 75) _) _ _ _); k_dflt (refine Pass.use2 (by k_extra "u") (by k_extra "p0") (fr1_pass) (by k_extra "r") ?_; k_whole); k_extra "e2"))
  k_with "call ref" => ((k_here; (with_reducible show wpAny _ _ (call (Value.ref 167) _) _ _ _); k_dflt (refine Pass.useO (by k_extra "u") (by k_extra "p1") (padded_pass (by k_extra "q") (by k_extra "q") (by k_extra "q")) (by k_extra "r") ?_; k_whole); k_extra "eO"))
  k_with "call ref" => ((k_here; (with_reducible show wpAny _ _ (call (Value.ref 146) _) _ _ _); k_dflt (refine Pass.useN (by k_extra "u") (by k_extra "p0") (check_pad) (by k_extra "r") ?_; k_whole); k_extra "eN"))
  k_with "call ref" => ((k_here; (with_reducible show wpAny _ _ (call (Value.ref 146) _) _ _ _); k_dflt (refine Pass.useN (by k_extra "u") (by k_extra "p0") (check_repeat) (by k_extra "r") ?_; k_whole); k_extra "eN"))
  k_with "call ref" => ((k_here; (with_reducible show wpAny _ _ (call (Value.ref 146) _) _ _ _); k_dflt (refine Pass.useN (by k_extra "u") (by k_extra "p0") (check_reflect) (by k_extra "r") ?_; k_whole); k_extra "eN"))
  k_with "call ref" => ((k_here; (with_reducible show wpAny _ _ (call (Value.ref 153) _) _ _ _); k_dflt (refine Pass.use2 (by k_extra "u") (by k_extra "p1") (part_pass (by k_extra "q") (by k_extra "q") (by k_extra "q")) (by k_extra "r") ?_; k_whole); k_extra "e2"))
  k_with "call ref" => ((k_here; (with_reducible show wpAny _ _ (call (Value.ref 160) _) _ _ _); k_dflt (refine Pass.use2 (by k_extra "u") (by k_extra "p1") (refl_pass (by k_extra "q") (by k_extra "q") (by k_extra "q")) (by k_extra "r") ?_; k_whole); k_extra "e2"))
  k_with "subscriptTail Name Constant ref int" => ((k_here; k_dflt (refine lin (by k_asm) (List.Mem.head _) (by rfl) ?_; k_whole); intro t9))
  k_with "eT" => ((intro v9 vt9 x9 t9 y9 u9 h' tk9 b1 b2 b3 b4 b5 F' N'; (try dsimp only at N'); k_extra "e"))
  k_with "call ref" => ((k_here; (with_reducible show wpAny _ _ (call (Value.ref 216) _) _ _ _); k_dflt (refine use_take (by k_extra "u") (by k_updF) (by k_extra "q") (by k_extra "q") (by k_extra "q") (by k_extra "q") (by k_extra "q") (by k_extra "r") ?_; k_whole); k_extra "eT"))
  trivial
/-! the pool of the draws -/
def RPool (news : List (Addr × Obj)) (_ : Heap) (r : Value) (news' : List (Addr × Obj)) : Prop :=
  ∃ D x t y u, r = .ref D ∧ news' = (D, lst2 x t y u 0) :: news ∧ 0 ≤ x ∧ 0 ≤ y ∧ y < 2147483647
section
variable {s : Shared} {h₀ : Heap} {L : Addr} {m : Str → Option Value} {Q : Value → Shared → Prop} {news : List (Addr × Obj)}
theorem retPool {D : Addr} {x y : Int} {t u : Tok} {h' : Heap} {tk' : Nat} {news'' : List (Addr × Obj)} (hret : ∀ r news' h' tk', Fr h₀ L h' m → News h₀ L h' news' → RPool news h₀ r news' → Q r { s with heap := h', toks := tk' })
    (F : Fr h₀ L h' m) (N : News h₀ L h' ((D, lst2 x t y u 0) :: news'')) (hs : ∀ p ∈ news, p ∈ news'') (h0 : 0 ≤ x) (h1 : 0 ≤ y ∧ y < 2147483647) : Q (.ref D) { s with heap := h', toks := tk' } :=
  hret _ ((D, lst2 x t y u 0) :: news) _ _ F (cb_drop N fun p hp => by
    rcases List.mem_cons.mp hp with rfl | hp
    · exact .head _
    · exact .tail _ (hs p hp)) ⟨D, x, t, y, u, rfl, rfl, h0, h1.1, h1.2⟩
end
set_option maxRecDepth 100000 in
set_option maxHeartbeats 8000000 in
theorem pool_call {w : World} {mean mg mb news} {l : Addr} {vs : List Value} {ns : List Int} {t0 : Tok} : ∀
  (dp un : Nat) (gd : Option (List Code)) (cn : Str) (cs : Scope) (a : Addr) (ccd : Value) (cl : List (Str × Addr)) (outer : List Env) (A₀ : Around) (base h₀ : Heap) (L : Addr) (m : Str → Option Value) (s : Shared) (Q E : Value → Shared → Prop)
    (_ : Below A₀ base outer h₀) (_ : Fr h₀ L s.heap m) (_ : (lay.heap_1 w.params).In h₀) (_ : News h₀ L s.heap news) (_ : Top lay.view_1 (looseW lay.view_1 [Str.ofString "fraction"]) mean mg mb h₀) (_ : cs.kind = .function)
    (_ : base.IsList l vs.toArray) (_ : IntsAre vs ns) (_ : ns.length < 2 ^ 62)
    (_ : dp + 1 < recursionLimit) (_ : un + 8 < cLine)
    (_ : ∀ r news' h' tk', Fr h₀ L h' m → News h₀ L h' news' → RPool news h₀ r news' → Q r { s with heap := h', toks := tk' }),
    wpAny (model PySem.Challenge.rw_on0231_01.row.prog w) (ktrTop dp un gd cn cs L a ccd cl outer) (call (.ref 209) [.ref l, .int 0 t0]) Q E s := by
  k_fill
  intro dp un gd cn cs a ccd cl outer A₀ base h₀ L m s Q E B F X N T hk hl hi hlen hdd hu hret
  obtain ⟨hp, gs, dr, tk, os⟩ := s
  dsimp only at F N
  refine wpAny_call ?_
  k_dflt ktr_enter
  rename Below (ktrTop _ _ _ _ _ _ _ _ _ _) _ _ _ => BB
  k_lift BB
  k_steps
  all_goals (refine' retPool hret ?F ?N ?S ?h0 ?h1; (case F => k_asm); (case N => k_asm); (case S => kcj_all); (case h0 => exact Int.mul_nonneg (by split <;> omega) (by split <;> omega)); (case h1 => exact fmod_in (by decide)))
theorem use_pool {w : World} {mean : ExcName → Option Value} {mg mb : Str → Option Value} {news : List (Addr × Obj)} {l : Addr} {vs : List Value} {ns : List Int} {t0 : Tok}
    {dp un : Nat} {gd : Option (List Code)} {cn : Str} {cs : Scope} {a : Addr} {ccd : Value} {cl : List (Str × Addr)} {outer : List Env} {A₀ : Around} {base h₀ : Heap} {L : Addr} {m : Str → Option Value} {s : Shared} {Q E : Value → Shared → Prop}
    (H : Here w mean mg mb A₀ base outer h₀ L m news s cs)
    (hl : base.IsList l vs.toArray) (hi : IntsAre vs ns) (hlen : ns.length < 2 ^ 62) (hr : dp + 1 < recursionLimit ∧ un + 8 < cLine)
    (h : ∀ D x t y u h' tk', Fr h₀ L h' m → News h₀ L h' ((D, lst2 x t y u 0) :: news) → 0 ≤ x → 0 ≤ y → y < 2147483647 → Q (.ref D) { s with heap := h', toks := tk' }) :
    wpAny (model PySem.Challenge.rw_on0231_01.row.prog w) (ktrTop dp un gd cn cs L a ccd cl outer) (call (.ref 209) [.ref l, .int 0 t0]) Q E s :=
  pool_call _ _ _ _ _ _ _ _ _ _ _ _ _ _ _ _ _ H.B H.F H.X H.N H.T H.hk hl hi hlen hr.1 hr.2 fun r news' h' tk' F' N' hR => by
    obtain ⟨D, x, t, y, u, rfl, rfl, b1, b2, b3⟩ := hR
    exact h D x t y u h' tk' F' N' b1 b2 b3
theorem words21 : True := by
  k_with_none
  k_with "q" => (first | with_reducible assumption | omega)
  k_with "p0" => (exact trivial)
  k_with "p1" => (walk_at "tup")
  k_with "p2" => (exact ⟨by walk_at "tup", by walk_at "tup"⟩)
  k_with "u" => (exact ⟨by k_asm, by k_asm, by k_asm, by k_asm, by k_asm, by first | exact rfl | assumption⟩)
  k_with "r" => (first | exact room_in (by with_reducible assumption) (by with_reducible assumption) rfl rfl rfl | exact ⟨by ktr_room, by ktr_units⟩)
  k_with "e" => (((try k_sweep); (try dsimp only); (try k_fold)))
  k_with "e2" => ((intro D9 t9 u9 h' tk9 F' N' l1; (try k_lt l1); k_extra "e"))
  k_with "eI" => ((intro t9 h' tk9 F' N'; k_extra "e"))
  k_with "eB" => ((intro h' tk9 F' N'; k_extra "e"))
  k_with "eN" => ((intro h' tk9 F' N'; k_extra "e"))
  k_with "eO" => ((intro D9 h' tk9 F' N' T9 T9b; k_extra "e"))
  k_with "forget" => ((k_here; (with_reducible show wpAny _ _ _ _ _ (Shared.mk _ _ _ (_ + 1) _)); (first | k_dflt (refine forget (by with_reducible assumption) (by with_reducible assumption) (by with_reducible assumption) (by with_reducible assumption) (by rfl) (by rfl) (by rfl) (by rfl) ?_) | with_reducible refine forget_tk ?_); intro tk9))
  k_with "execs cons" => (k_extra "forget")
  k_with "execs nil" => (k_extra "forget")
  trivial
/-! an exception of the text's own class that has an own start: its making -/
abbrev excObj (C t : Addr) : Obj := { cls := .ref C, data := .fields #[.ref t, .none, .none, .none, .bool false, .none] }
abbrev argsObj (vs : List Value) : Obj := { cls := .type "tuple", data := .seq vs.toArray }
section
variable {prog : Program} {w : World} {A : Around} {K : Frag} {C f : Addr} {R : Result → Shared → Prop} {E : Value → Shared → Prop} {h : Heap} {g : Array GenState} {d : Drawn} {t : Nat} {os : OsState}
  {nm q : Str} {N : Addr} {bs bm : List Value} {hdct : Bool} {sn : List Str} {sub : List Value} {ab : Bool} {col : Option Bool} {dd : Option Addr} {k0 k1 k2 k3 k5 : Option Value} {B newId initId : String} {bmB : List Value}

theorem sx_check {M : Model} (F : ExcBaseFacts B newId initId bmB) (hB : bm.contains (.type B) = true) {vs : List Value} {Q : Unit → Shared → Prop} (hC : h.get? C = some (excClassObj nm q C N bs bm hdct sn sub ab col dd k0 k1 k2 k3 k5 newId))
    (hq : Q () ⟨h, g, d, t, os⟩) : wpAny M A (checkBuiltinCall newId ⟨.ref C :: vs, []⟩) Q E ⟨h, g, d, t, os⟩ := by
  have sub : (Value.ref C :: bm).contains (.type B) = true := by rw [List.contains_cons, hB, Bool.or_true]
  have star := F.noStar
  simp only [checkBuiltinCall, F.newKind, F.newSplit, F.newRow]
  repeat (first | refine wpAny_loadPart_at hC ?_ | (refine wpAny_isSubtype_exc hC ?_; rw [sub]) | refine wpAny_staticBase_exc hC ?_ | refine wpAny_madeBy_exc hC ?_ | simp only [bne_self_eq_false, Bool.false_eq_true, if_false] | wp_step)
  exact hq

theorem sx_new (F : ExcBaseFacts B newId initId bmB) (hB : bm.contains (.type B) = true) (hA : bm.contains (.type "AttributeError") = false) (hN : bm.contains (.type "NameError") = false) {vs : List Value} (hvs : vs.length ≤ sizeLine)
    (hC : h.get? C = some (excClassObj nm q C N bs bm hdct sn sub ab col dd k0 k1 k2 k3 k5 newId)) (hq : R (.ok (.ret (.ref (h.objs.size + 1)))) ⟨(h.push (argsObj vs)).push (excObj C h.objs.size), g, d, t, os⟩) :
    codeAny (model prog w) A (.builtin newId ⟨.ref C :: vs, []⟩) R ⟨h, g, d, t, os⟩ := by
  have ends := F.ends
  have c1 : (Value.ref C :: bm).contains (.type B) = true := by rw [List.contains_cons, hB, Bool.or_true]
  have c2 : (Value.ref C :: bm).contains (.type "AttributeError") = false := by rw [List.contains_cons, hA]; rfl
  have c3 : (Value.ref C :: bm).contains (.type "NameError") = false := by rw [List.contains_cons, hN]; rfl
  refine codeAny_builtinAt F.entry ?_
  unfold Builtin.«BaseException.__new__»
  refine PySem.wpAt_bind ?_
  show PySem.wpAt _ _ _ (stack >>= _) _ _ _
  refine PySem.wpAt_bind (PySem.wpAt_stack fun p below => PySem.wpAt_of_wpAny ?_)
  wp_walk
  refine PySem.wpAt_of_wpAny ?_
  rw [F.owner]
  repeat (first | with_reducible refine wpAny_madeHere_exc F.canon hC ?_ | with_reducible refine wpAny_loadPart_at hC ?_ | (with_reducible refine wpAny_isSubtype_exc hC ?_; first | rw [c1] | rw [c2] | rw [c3]) | wp_step)
  show R _ _
  rw [Heap.size_push]
  exact hq

theorem sx_make (F : ExcBaseFacts B newId initId bmB) (hB : bm.contains (.type B) = true) (hA : bm.contains (.type "AttributeError") = false) (hN : bm.contains (.type "NameError") = false) {vs : List Value} (hvs : vs.length ≤ sizeLine)
    (X : K.In h) (hK : K.lookup C = some (excClassObj nm q C N bs bm hdct sn sub ab col dd k0 k1 k2 k3 k5 newId))
    (hc : specialIn K (.ref C) "__call__" = some (some (.builtin "type.__call__"))) (ht : instIn K (.ref C) (.type "type") = some true) (hi : findIn K (.ref C) "__init__" = some (some (.ref f))) (hf : typeIn K (.ref f) = some (.type "function"))
    (hq : codeAny (model prog w) (A.under (.builtin "type.__call__" ⟨.ref C :: vs, []⟩)) (.call (.ref f) ⟨.ref (h.objs.size + 1) :: vs, []⟩) (InitBack (h.objs.size + 1) R) ⟨(h.push (argsObj vs)).push (excObj C h.objs.size), g, d, t, os⟩) :
    codeAny (model prog w) A (.call (.ref C) ⟨vs, []⟩) R ⟨h, g, d, t, os⟩ := by
  have hC := X _ _ hK
  have call : Looks (model prog w) h (specialOf (.ref C) "__call__") (some (.builtin "type.__call__")) := looks_specialIn X hc
  have typ : Looks (model prog w) h (isInstance (.ref C) (.type "type")) true := looks_instIn X ht
  have init : Looks (model prog w) h (typeLookup (.ref C) "__init__") (some (.ref f)) := looks_findIn X hi
  refine codeAny_of_tree ?_
  show wpAny _ _ (callAny (.ref C) _) _ _ _
  refine nd_load hC ?_
  show wpAny _ _ (callAny.viaDunder (.ref C) _) _ _ _
  unfold callAny.viaDunder
  refine wpAny_bind (call.at ?_)
  dsimp only
  rw [tc_bind]
  refine wpAny_bind (wpAny_pure (wpAny_bind (wpAny_pure ?_)))
  refine wpAny_pure (a := Fin.again (.call (.builtin "type.__call__") ⟨.ref C :: vs, []⟩)) (And.intro rfl ?_)
  refine codeAny_call_builtin_at (Code.quiet_builtin _ (by decide +kernel)) entry_typeCall (check_slot tc_kind tc_split typ (tc_args _ _ _) ?_)
  unfold Builtin.«type.__call__»
  repeat (first | with_reducible refine wpAny_loadPart_at hC ?_ | with_reducible refine wpAny_madeBy_exc hC ?_ | wp_step)
  refine codeAny_call_builtin_code (Code.quiet_builtin _ F.quiet) (sx_check F hB hC ?_)
  refine sx_new F hB hA hN hvs hC ?_
  have k : ∀ b o, h.get? b = some o → ((h.push (argsObj vs)).push (excObj C h.objs.size)).get? b = some o := fun b o e => Heap.get?_push_of_some _ (Heap.get?_push_of_some _ e)
  have hx : ((h.push (argsObj vs)).push (excObj C h.objs.size)).get? (h.objs.size + 1) = some (excObj C h.objs.size) := by heap_get
  have hC₁ := k _ _ hC
  have t1 : Looks (model prog w) ((h.push (argsObj vs)).push (excObj C h.objs.size)) (typeOf (.ref (h.objs.size + 1))) (.ref C) := (Looks.ld hx).andThen .now
  have s1 : Looks (model prog w) ((h.push (argsObj vs)).push (excObj C h.objs.size)) (isSubtype (.ref C) (.ref C)) true := (looks_mroIn (M := model prog w) X (C := C) (base := .ref C) (r := true) (by unfold mroIn clsIn; rw [hK]; simp)).keeps k
  have i1 := init.keeps k
  have b1 := (bind_fn (M := model prog w) X (.ref (h.objs.size + 1)) hf).keeps k
  unfold isInstance callSpecial? specialOf
  repeat (first | with_reducible refine wpAny_call ?_ | lk)
  refine codeAny_mono hq fun r s' z => ?_
  rcases r with e | (v | _ | _ | _) <;> first | exact z | exact z.elim | skip
  obtain ⟨rfl, z⟩ := z
  exact wpAny_pure (wpAny_pure z)
end
theorem words22 : True := by
  k_with_none
  k_with "q" => (first | with_reducible assumption | omega)
  k_with "p0" => (exact trivial)
  k_with "p1" => (walk_at "tup")
  k_with "p2" => (exact ⟨by walk_at "tup", by walk_at "tup"⟩)
  k_with "u" => (exact ⟨by k_asm, by k_asm, by k_asm, by k_asm, by k_asm, by first | exact rfl | assumption⟩)
  k_with "r" => (first | exact room_in (by with_reducible assumption) (by with_reducible assumption) rfl rfl rfl | exact ⟨by ktr_room, by ktr_units⟩)
  k_with "e" => (((try k_sweep); (try dsimp only); (try k_fold)))
  k_with "e2" => ((intro D9 t9 u9 h' tk9 F' N' l1; (try k_lt l1); k_extra "e"))
  k_with "eI" => ((intro t9 h' tk9 F' N'; k_extra "e"))
  k_with "eB" => ((intro h' tk9 F' N'; k_extra "e"))
  k_with "eN" => ((intro h' tk9 F' N'; k_extra "e"))
  k_with "eO" => ((intro D9 h' tk9 F' N' T9 T9b; k_extra "e"))
  k_with "forget" => ((k_here; (with_reducible show wpAny _ _ _ _ _ (Shared.mk _ _ _ (_ + 1) _)); (first | k_dflt (refine forget (by with_reducible assumption) (by with_reducible assumption) (by with_reducible assumption) (by with_reducible assumption) (by rfl) (by rfl) (by rfl) (by rfl) ?_) | with_reducible refine forget_tk ?_); intro tk9))
  k_with "execs cons" => (k_extra "forget")
  k_with "execs nil" => (k_extra "forget")
  trivial
/-! its raising, its leaving of the first frame, the store into it -/
section
variable {M : Model} {A : Around} {E : Value → Shared → Prop} {s s' : Shared} {base g : Heap} {outer : List Env} {L a e t : Addr} {m : Str → Option Value} {name : Str} {scope : Scope} {cd : Value} {news all : List (Addr × Obj)} {env : Env}
  {nm q : Str} {N C : Addr} {bs bm : List Value} {hdct : Bool} {sn : List Str} {sub : List Value} {ab : Bool} {col : Option Bool} {dd : Option Addr} {k0 k1 k2 k3 k5 : Option Value} {newId : String}
theorem sx_raise {x : PySem.Expr} {pos : Pos} {Q : Flow → Shared → Prop} (hb : bm.contains (.type "BaseException") = true) (hh : A.handled = none)
    (h : wpAny M A (eval x env) (fun v s₁ => ∃ e oe t, v = .ref e ∧ s₁.heap.get? e = some oe ∧ oe.cls = .ref C ∧ oe.data = .fields #[.ref t, .none, .none, .none, .bool false, .none] ∧ s₁.heap.get? C = some (excClassObj nm q C N bs bm hdct sn sub ab col dd k0 k1 k2 k3 k5 newId) ∧ E (.ref e) s₁) E s) :
    wpAny M A (exec (.Raise (some x) none pos) env) Q E s := by
  have c1 : (Value.ref C :: bm).contains (.type "BaseException") = true := by rw [List.contains_cons, hb, Bool.or_true]
  rw [arm_exec_Raise]
  refine wpAny_bind (wpAny_standAt ?_)
  unfold raiseStmt
  refine wpAny_bind ?_
  refine wpAny_bind (wpAny_mono h (fun v s₁ h₁ => ?_) fun _ _ y => y)
  refine wpAny_bind (wpAny_standAt (wpAny_pure ?_))
  obtain ⟨e, ⟨oc, od, dt, sl⟩, t, rfl, he, hcl, hdt, hC, hE⟩ := h₁
  obtain ⟨hp, g, d, tk, os⟩ := s₁
  dsimp only at hcl hdt
  subst hcl hdt
  repeat (first | with_reducible refine wpAny_loadPart_at he ?_ | with_reducible refine wpAny_loadPart_at hC ?_ | (with_reducible refine wpAny_isSubtype_exc hC ?_; rw [c1]) | wp_step)
  exact wpAny_raiseNew_none hh hE

theorem sx_leave {cls : Value} {vs : List Value} {oe : Obj} {ws : Array Value} {Q : Unit → Shared → Prop} (K : Below A base outer g) (F : Fr g L s'.heap m) (N : News g L s'.heap all) (he : (e, oe) ∈ all) (ht : (t, argsObj vs) ∈ all)
    (hc : oe.cls = cls) (hw : oe.data = .fields ws) (h1 : ws[1]? = some .none) (h0 : ws[0]? = some (.ref t)) (hs : ∀ p ∈ news, p ∈ all ∧ p.1 ≠ e ∧ p.1 ≠ t)
    (hQ : ∀ h', RaisedS base g outer e cls t vs news h' → RaisedK base outer e cls t vs news h' → g.UpToSlots h' → Q () { s' with heap := h' }) (hk : scope.kind = .function) :
    wpAny M (A.deeper (envOf name scope L a cd)) (leaving (envOf name scope L a cd) (.ref e)) Q E s' := by
  subst hc
  have K' := K.push (name := name) (a := a) (cd := cd) F hk
  have ge := (N _ he).2.2
  have gt := (N _ ht).2.2
  have inFr : ∀ env ∈ (envOf name scope L a cd :: outer), ∀ b, env.frame = some b → b ∈ e :: t :: (envOf name scope L a cd :: outer).filterMap (·.frame) := fun env hx b hb => .tail _ (.tail _ (List.mem_filterMap.mpr ⟨env, hx, hb⟩))
  have ne : ∀ b o, g.get? b = some o → b ≠ e ∧ b ≠ t := fun b o z => ⟨fun y => (by rw [y, ge] at z; cases z), fun y => (by rw [y, gt] at z; cases z)⟩
  have stay : base.StaysIn (hideAll s'.heap (e :: t :: (envOf name scope L a cd :: outer).filterMap (·.frame))) := fun b o z => hideAll_get _ (K'.stays b o z) fun hm => by
    rcases List.mem_cons.mp hm with y | hm
    · exact (ne _ _ (K.stays b o z)).1 y
    rcases List.mem_cons.mp hm with y | hm
    · exact (ne _ _ (K.stays b o z)).2 y
    rw [(K'.frames.mem hm).1] at z
    cases z
  have sg : ∀ b o, g.get? b = some o → b ∉ outer.filterMap (·.frame) → (hideAll s'.heap (e :: t :: (envOf name scope L a cd :: outer).filterMap (·.frame))).get? b = some o := fun b o z nmem => hideAll_get _ (F.keep b o z) fun hm => by
    rcases List.mem_cons.mp hm with y | hm
    · exact (ne _ _ z).1 y
    rcases List.mem_cons.mp hm with y | hm
    · exact (ne _ _ z).2 y
    rcases kts_mem hm with y | y
    · rw [y, kts_self F] at z
      cases z
    · exact nmem y
  have hl : ∀ p ∈ news, (hideAll s'.heap (e :: t :: (envOf name scope L a cd :: outer).filterMap (·.frame))).get? p.1 = some p.2 ∧ g.get? p.1 = none ∧ base.get? p.1 = none := fun p hp => by
    obtain ⟨ha, n1, n2⟩ := hs p hp
    refine ⟨hideAll_get _ (N p ha).1 fun hm => ?_, (N p ha).2.2, fresh_of_stays K.stays (N p ha).2.2⟩
    rcases List.mem_cons.mp hm with y | hm
    · exact n1 y
    rcases List.mem_cons.mp hm with y | hm
    · exact n2 y
    rcases kts_mem hm with y | y
    · exact (N p ha).2.1 y
    · obtain ⟨o, ho, _⟩ := (K.frames.mem y).2
      rw [(N p ha).2.2] at ho
      cases ho
  have hen : (hideAll s'.heap (e :: t :: (envOf name scope L a cd :: outer).filterMap (·.frame))).get? e = none := hideAll_none _ (.head _)
  have htn : (hideAll s'.heap (e :: t :: (envOf name scope L a cd :: outer).filterMap (·.frame))).get? t = none := hideAll_none _ (.tail _ (.head _))
  refine wpAny_leaving_firstW (base := hideAll s'.heap (e :: t :: (envOf name scope L a cd :: outer).filterMap (·.frame))) (outer := outer) (L := L) (Around.frames_deeper K.stack) (funFrames_hide K'.frames inFr) rfl (N _ he).1 (fun b o z => of_hideAll _ z) hen hw h1 h0 fun h' hL => ?_
  obtain ⟨x1, ⟨_, _, x2⟩, x3, x4⟩ := hL
  have R : RaisedS base g outer e oe.cls t vs news h' := ⟨⟨_, stay, sg, hl, ⟨x1, hen, x2, x3⟩, htn⟩, Heap.TupAt.of_slots ⟨_, _, (N _ ht).1, rfl, rfl⟩ x4⟩
  exact hQ h' R R.toK ((Heap.UpToSlots.of_keeps F.keep).trans x4)
end
theorem words23 : True := by
  k_with_none
  k_with "q" => (first | with_reducible assumption | omega)
  k_with "p0" => (exact trivial)
  k_with "p1" => (walk_at "tup")
  k_with "p2" => (exact ⟨by walk_at "tup", by walk_at "tup"⟩)
  k_with "u" => (exact ⟨by k_asm, by k_asm, by k_asm, by k_asm, by k_asm, by first | exact rfl | assumption⟩)
  k_with "r" => (first | exact room_in (by with_reducible assumption) (by with_reducible assumption) rfl rfl rfl | exact ⟨by ktr_room, by ktr_units⟩)
  k_with "e" => (((try k_sweep); (try dsimp only); (try k_fold)))
  k_with "e2" => ((intro D9 t9 u9 h' tk9 F' N' l1; (try k_lt l1); k_extra "e"))
  k_with "eI" => ((intro t9 h' tk9 F' N'; k_extra "e"))
  k_with "eB" => ((intro h' tk9 F' N'; k_extra "e"))
  k_with "eN" => ((intro h' tk9 F' N'; k_extra "e"))
  k_with "eO" => ((intro D9 h' tk9 F' N' T9 T9b; k_extra "e"))
  k_with "forget" => ((k_here; (with_reducible show wpAny _ _ _ _ _ (Shared.mk _ _ _ (_ + 1) _)); (first | k_dflt (refine forget (by with_reducible assumption) (by with_reducible assumption) (by with_reducible assumption) (by with_reducible assumption) (by rfl) (by rfl) (by rfl) (by rfl) ?_) | with_reducible refine forget_tk ?_); intro tk9))
  k_with "execs cons" => (k_extra "forget")
  k_with "execs nil" => (k_extra "forget")
  trivial
/-! the first store into an object that has no dict yet -/
section
variable {prog : Program} {w : World} {A : Around} {E : Value → Shared → Prop} {s : Shared} {K : Frag} {C x L : Addr} {h₀ : Heap} {m : Str → Option Value} {rest : List (Addr × Obj)} {ox : Obj} {cd : ClassData} {name : Str} {v : Value}
theorem sx_set {Q : Unit → Shared → Prop} (F : Fr h₀ L s.heap m) (X : K.In s.heap) (N : News h₀ L s.heap ((x, ox) :: rest)) (hr : ∀ p ∈ rest, p.1 ≠ x) (hcl : ox.cls = .ref C) (hdn : ox.dict = none) {ws : Array Value} (hdt : ox.data = .fields ws)
    (hs : findIn K (.ref C) "__setattr__" = some (some (.builtin "object.__setattr__"))) (ha : findIn K (.ref C) name = some none) (hc : clsIn K C = some cd) (hd : cd.hasDict = true) (hp : ∀ self, refuseLoop self "__setattr__" cd.mro = pure ())
    (hb : mroIn K C (.type "object") = some true)
    (h : ∀ d od h' tk', Fr h₀ L h' m → News h₀ L h' ((x, { ox with dict := some d }) :: (d, od) :: rest) → (∀ p ∈ rest, p.1 < d) → x < d → Q () { s with heap := h', toks := tk' }) :
    wpAny (model prog w) A (setAttr (.ref x) name v) Q E s := by
  obtain ⟨hh, g, dr, tk, os⟩ := s
  obtain ⟨oc, od, dt, sl⟩ := ox
  dsimp only at hcl hdn hdt F X N
  subst hcl hdn hdt
  have hx : hh.get? x = some ⟨.ref C, none, .fields ws, sl⟩ := N.get (.head _)
  have I : InstAt hh x ⟨.ref C, none, .fields ws, sl⟩ C none := ⟨hx, rfl, rfl, trivial⟩
  have SF := PySem.F.store_object
  refine set_plain (s := ⟨hh, g, dr, tk, os⟩) X I hs ?_
  have t1 : Looks (model prog w) hh (typeOf (.ref x)) (.ref C) := I.type
  have sub : Looks (model prog w) hh (isInstance (.ref x) (.type "object")) true := t1.andThen (looks_mroIn X hb)
  have hm : Looks (model prog w) hh (mroOf (.ref C)) cd.mro := (looks_clsIn X hc).andThen .now
  have t2 : Looks (model prog w) hh (typeLookup (.ref C) name) none := looks_findIn X ha
  have t3 : Looks (model prog w) hh (classData C) cd := looks_clsIn X hc
  refine codeAny_call_builtin SF.slot.plain SF.entry (@check_slot (model prog w) _ _ ⟨hh, g, dr, tk + 1, os⟩ "object.__setattr__" "object" "__setattr__" (.ref x) [.str name tk, v] [] _ SF.kind SF.split sub (SF.args (.ref x) (.str name tk) v) ?_)
  rw [osa_eq, refuse_eq]
  refine wpAny_bind (wpAny_bind (t1.at (wpAny_bind (hm.at ?_))))
  rw [hp]
  refine wpAny_pure (wpAny_bind (t1.at (wpAny_bind (t2.at (wpAny_bind (wpAny_pure ?_))))))
  refine wpAny_bind (wpAny_pure ?_)
  refine wpAny_bind (wpAny_bind (wpAny_loadPart hx (wpAny_bind (t3.at ?_))))
  rw [hd]
  show wpAny _ _ (alloc emptyDict >>= fun d => update x (fun o => { o with dict := some d }) >>= fun _ => pure (some d)) _ _ _
  have hxs : x ≠ hh.objs.size := Nat.ne_of_lt (Heap.lt_size hx)
  have F₁ := F.push emptyDict
  have N₁ : News h₀ L (hh.push emptyDict) ([(hh.objs.size, emptyDict)] ++ (x, ⟨.ref C, none, .fields ws, sl⟩) :: rest) := N.push F emptyDict
  obtain ⟨F₂, N₂⟩ := news_upd (f := fun o => { o with dict := some hh.objs.size }) F₁ N₁ (fun p hp => by rw [List.mem_singleton.mp hp]; exact hxs.symm) hr rfl rfl
  refine wpAny_bind (wpAny_alloc' ?_)
  refine wpAny_bind (wpAny_update' (N₁ _ (.tail _ (.head _))).1 ?_)
  refine wpAny_pure ?_
  have lt : ∀ p ∈ rest, p.1 < hh.objs.size := fun p hp => Heap.lt_size (N p (.tail _ hp)).1
  have hgd : ((hh.push emptyDict).update x fun o => { o with dict := some hh.objs.size }).get? hh.objs.size = some emptyDict := (N₂ _ (.head _)).1
  have hnd : ((hh.push emptyDict).update x fun o => { o with dict := some hh.objs.size }).Ns hh.objs.size (fun _ => none) :=
    ⟨_, #[], _, hgd, rfl, fun e he => absurd he (by simp), fun _ => rfl⟩
  show wpAny _ _ (Builtin.ObjectAttr.storeInDict hh.objs.size (.str name tk) name v) _ _ _
  unfold Builtin.ObjectAttr.storeInDict Builtin.ObjectAttr.newKeyGuard
  refine wpAny_bind (wpAny_pure (wpAny_bind (wpAny_nsSet1 (Heap.Ns1.of_empty hnd) fun h' hn' hsb => ?_)))
  obtain ⟨oD, esD, epD, hoD, hdD, hcD⟩ := hn'.count (Within.cons name v Within.nil)
  refine wpAny_bind (wpAny_lookBehind hoD (by rw [hdD]; exact pastItsLine_dict (Nat.le_trans hcD (by rw [List.length_cons, List.length_nil, sizeLine_eq]; omega))) ?_)
  have z := N₂ _ (.head _)
  have N₃ : News h₀ L h' ([] ++ (hh.objs.size, oD) :: ((x, ⟨.ref C, some hh.objs.size, .fields ws, sl⟩) :: rest)) := news_set (pre := []) N₂ (fun _ hp => nomatch hp)
    (fun p hp => by
      rcases List.mem_cons.mp hp with rfl | hp
      · exact hxs
      · exact Nat.ne_of_lt (lt p hp)) hsb hoD
  refine wpAny_pure (h hh.objs.size oD h' _ (F₂.change hsb z.2.1 z.2.2) (fun p hp => N₃ p ?_) lt (Heap.lt_size hx))
  rcases List.mem_cons.mp hp with rfl | hp
  · exact .tail _ (.head _)
  rcases List.mem_cons.mp hp with rfl | hp
  · exact .head _
  · exact .tail _ (.tail _ hp)
end
theorem words24 : True := by
  k_with_none
  k_with "q" => (first | with_reducible assumption | omega)
  k_with "p0" => (exact trivial)
  k_with "p1" => (walk_at "tup")
  k_with "p2" => (exact ⟨by walk_at "tup", by walk_at "tup"⟩)
  k_with "u" => (exact ⟨by k_asm, by k_asm, by k_asm, by k_asm, by k_asm, by first | exact rfl | assumption⟩)
  k_with "r" => (first | exact room_in (by with_reducible assumption) (by with_reducible assumption) rfl rfl rfl | exact ⟨by ktr_room, by ktr_units⟩)
  k_with "e" => (((try k_sweep); (try dsimp only); (try k_fold)))
  k_with "e2" => ((intro D9 t9 u9 h' tk9 F' N' l1; (try k_lt l1); k_extra "e"))
  k_with "eI" => ((intro t9 h' tk9 F' N'; k_extra "e"))
  k_with "eB" => ((intro h' tk9 F' N'; k_extra "e"))
  k_with "eN" => ((intro h' tk9 F' N'; k_extra "e"))
  k_with "eO" => ((intro D9 h' tk9 F' N' T9 T9b; k_extra "e"))
  k_with "forget" => ((k_here; (with_reducible show wpAny _ _ _ _ _ (Shared.mk _ _ _ (_ + 1) _)); (first | k_dflt (refine forget (by with_reducible assumption) (by with_reducible assumption) (by with_reducible assumption) (by with_reducible assumption) (by rfl) (by rfl) (by rfl) (by rfl) ?_) | with_reducible refine forget_tk ?_); intro tk9))
  k_with "execs cons" => (k_extra "forget")
  k_with "execs nil" => (k_extra "forget")
  trivial
/-! SheetFault(text), called by any frame of the text's -/
theorem keeps_class {w : World} {h : Heap} (X : (lay.heap_1 w.params).In h) : h.get? 56 = some (excClassObj (Str.ofString "SheetFault") (Str.ofString "SheetFault") 56 55 [.ref 31] [.ref 31, .type "Exception", .type "BaseException", .type "object"] true [] [] false none none (some (.ref 47)) none (some (.str (Str.ofString "SheetFault") 234)) (some (.str (Str.ofString "SheetFault") 242)) (some (.bool true)) "Exception.__new__") :=
  X _ _ rfl
theorem mill_passes (self : Value) : refuseLoop self "__setattr__" [.ref 56, .ref 31, .type "Exception", .type "BaseException", .type "object"] = pure () := by
  rw [refuseLoop_ref, refuseLoop_ref]
  exact PySem.F.store_Exception.passes self
section
theorem reg2401 : True := by
  k_with "setAttr ref" => ((k_here; k_dflt (refine sx_set (by k_asm) (by exact Frag.In.keeps (by k_asm) (Fr.keep (by k_asm))) (by k_asm) (by assumption) (by exact rfl) (by exact rfl) (by exact rfl) (by exact rfl) (by exact rfl) (by exact rfl) (by exact rfl) (by exact mill_passes) (by exact rfl) ?_; k_whole); intro d9 od9 h' tk9 F' N' l9a l9b; (try dsimp only)))
  trivial
set_option maxRecDepth 100000 in
set_option maxHeartbeats 8000000 in
theorem sheet_call {w : World} {mean mg mb news} {x : Str} {u : Tok} : ∀
    (dp un : Nat) (gd : Option (List Code)) (cn : Str) (cs : Scope) (a : Addr) (ccd : Value) (cl : List (Str × Addr)) (outer : List Env) (A₀ : Around) (base h₀ : Heap) (L : Addr) (m : Str → Option Value) (s : Shared) (Q E : Value → Shared → Prop)
    (_ : Below A₀ base outer h₀) (_ : Fr h₀ L s.heap m) (_ : (lay.heap_1 w.params).In h₀) (_ : News h₀ L s.heap news) (_ : Top lay.view_1 (looseW lay.view_1 [Str.ofString "fraction"]) mean mg mb h₀) (_ : cs.kind = .function)
    (_ : dp + 4 < recursionLimit) (_ : un + 8 * 4 < cLine)
    (_ : ∀ e t oe h' tk', Fr h₀ L h' m → News h₀ L h' ((e, oe) :: (t, argsObj [.str x u]) :: news) → oe.cls = .ref 56 → oe.data = .fields #[.ref t, .none, .none, .none, .bool false, .none] → (∀ p ∈ news, p.1 < t) → t < e → Q (.ref e) { s with heap := h', toks := tk' }),
    wpAny (model PySem.Challenge.rw_on0231_01.row.prog w) (ktrTop dp un gd cn cs L a ccd cl outer) (call (.ref 56) [.str x u]) Q E s := by
  k_fill
  intro dp un gd cn cs a ccd cl outer A₀ base h₀ L m s Q E B F X N T hk hdd hu hret
  obtain ⟨hh, g, dr, tk, os⟩ := s
  refine wpAny_call (sx_make PySem.F.excBase_Exception (nm := (Str.ofString "SheetFault")) (q := (Str.ofString "SheetFault")) (N := 55) (bs := [.ref 31]) (bm := [.ref 31, .type "Exception", .type "BaseException", .type "object"]) (hdct := true) (sn := []) (sub := []) (ab := false) (col := none) (dd := none) (k0 := some (.ref 47)) (k1 := none) (k2 := some (.str (Str.ofString "SheetFault") 234)) (k3 := some (.str (Str.ofString "SheetFault") 242)) (k5 := some (.bool true))
    (by decide +kernel) (by decide +kernel) (by decide +kernel) (by show 1 ≤ sizeLine; decide +kernel) (X.keeps F.keep) (K := lay.heap_1 w.params) (f := 28) rfl rfl rfl rfl rfl ?_)
  have F₁ := (F.push (argsObj [.str x u])).push (excObj 56 hh.objs.size)
  have N₁ : News h₀ L ((hh.push (argsObj [.str x u])).push (excObj 56 hh.objs.size)) ((hh.objs.size + 1, excObj 56 hh.objs.size) :: (hh.objs.size, argsObj [.str x u]) :: news) := by
    have := (N.push F (argsObj [.str x u])).push (F.push _) (excObj 56 hh.objs.size)
    rwa [Heap.size_push] at this
  have l1 : ∀ p ∈ news, p.1 < hh.objs.size := fun p hp => Heap.lt_size (N p hp).1
  have hr : ∀ p ∈ (hh.objs.size, argsObj [.str x u]) :: news, p.1 ≠ hh.objs.size + 1 := fun p hp => by
    rcases List.mem_cons.mp hp with rfl | hp
    · exact Nat.ne_of_lt (Nat.lt_succ_self _)
    · exact Nat.ne_of_lt (Nat.lt_succ_of_lt (l1 p hp))
  clear F N
  generalize (hh.push (argsObj [.str x u])).push (excObj 56 hh.objs.size) = h₁ at F₁ N₁
  generalize hh.objs.size = t at N₁ l1 hr
  k_dflt ktr_enter
  k_steps
  exact hret _ t _ _ _ (by k_asm) (cb_drop (by k_asm) (by kcj_all)) rfl rfl l1 (Nat.lt_succ_self _)
end
theorem use_sheet {w : World} {mean : ExcName → Option Value} {mg mb : Str → Option Value} {news : List (Addr × Obj)} {x : Str} {u : Tok} {dp un : Nat} {gd : Option (List Code)} {cn : Str} {cs : Scope} {a : Addr} {ccd : Value} {cl : List (Str × Addr)} {outer : List Env} {A₀ : Around} {base h₀ : Heap} {L : Addr} {m : Str → Option Value} {s : Shared} {Q E : Value → Shared → Prop}
    (B : Below A₀ base outer h₀) (F : Fr h₀ L s.heap m) (X : (lay.heap_1 w.params).In h₀) (N : News h₀ L s.heap news) (T : Top lay.view_1 (looseW lay.view_1 [Str.ofString "fraction"]) mean mg mb h₀) (hk : cs.kind = .function)
    (hdd : dp + 4 < recursionLimit) (hu : un + 8 * 4 < cLine)
    (h : ∀ e t oe h' tk', Fr h₀ L h' m → News h₀ L h' ((e, oe) :: (t, argsObj [.str x u]) :: news) → oe.cls = .ref 56 → oe.data = .fields #[.ref t, .none, .none, .none, .bool false, .none] → (∀ p ∈ news, p.1 < t) → t < e → Q (.ref e) { s with heap := h', toks := tk' }) :
    wpAny (model PySem.Challenge.rw_on0231_01.row.prog w) (ktrTop dp un gd cn cs L a ccd cl outer) (call (.ref 56) [.str x u]) Q E s :=
  sheet_call _ _ _ _ _ _ _ _ _ _ _ _ _ _ _ _ _ B F X N T hk hdd hu h
theorem words25 : True := by
  k_with_none
  k_with "q" => (first | with_reducible assumption | omega)
  k_with "p0" => (exact trivial)
  k_with "p1" => (walk_at "tup")
  k_with "p2" => (exact ⟨by walk_at "tup", by walk_at "tup"⟩)
  k_with "u" => (exact ⟨by k_asm, by k_asm, by k_asm, by k_asm, by k_asm, by first | exact rfl | assumption⟩)
  k_with "r" => (first | exact room_in (by with_reducible assumption) (by with_reducible assumption) rfl rfl rfl | exact ⟨by ktr_room, by ktr_units⟩)
  k_with "e" => (((try k_sweep); (try dsimp only); (try k_fold)))
  k_with "e2" => ((intro D9 t9 u9 h' tk9 F' N' l1; (try k_lt l1); k_extra "e"))
  k_with "eI" => ((intro t9 h' tk9 F' N'; k_extra "e"))
  k_with "eB" => ((intro h' tk9 F' N'; k_extra "e"))
  k_with "eN" => ((intro h' tk9 F' N'; k_extra "e"))
  k_with "eO" => ((intro D9 h' tk9 F' N' T9 T9b; k_extra "e"))
  k_with "forget" => ((k_here; (with_reducible show wpAny _ _ _ _ _ (Shared.mk _ _ _ (_ + 1) _)); (first | k_dflt (refine forget (by with_reducible assumption) (by with_reducible assumption) (by with_reducible assumption) (by with_reducible assumption) (by rfl) (by rfl) (by rfl) (by rfl) ?_) | with_reducible refine forget_tk ?_); intro tk9))
  k_with "execs cons" => (k_extra "forget")
  k_with "execs nil" => (k_extra "forget")
  k_with "call ref" => ((k_here; (with_reducible show wpAny _ _ (call (Value.ref 67) _) _ _ _); k_dflt (refine Pass.useI (by k_extra "u") (by k_extra "p0") (cd_pass (by k_extra "q")) (by k_extra "r") ?_; k_whole); k_extra "eI"))
  k_with "subscriptTail Name Constant ref int" => ((k_here; k_dflt (refine tin (by k_asm) (by k_asm) (by walk_at "tup") (by rfl) ?_; k_whole); intro t9))
  k_with "call ref" => ((k_here; (with_reducible show wpAny _ _ (call (Value.ref 75) _) _ _ _); k_dflt (refine Pass.use2 (by k_extra "u") (by k_extra "p0") (fr_pass (by k_extra "q") (by k_extra "q")) (by k_extra "r") ?_; k_whole); k_extra "e2"))
  k_with "evi" => ((first | with_reducible exact EvI.lit | ((with_reducible show EvI _ (PySem.Expr.Subscript _ _ _) _); k_dflt (exact EvI.item (by exact rfl) (by exact rfl) (by exact rfl) (by exact rfl) (by walk_at "tup") (by exact rfl))) | ((with_reducible show EvI _ (PySem.Expr.Name _ _) _); k_dflt (exact EvI.name (by exact rfl) (by exact rfl) (by exact rfl) (by exact rfl))) | ((with_reducible show EvI _ (PySem.Expr.BinOp _ Operator.Mult _ _) _); with_reducible exact EvI.mul (by k_extra "evi") (by k_extra "evi") (by k_dflt mul_fits)) | ((with_reducible show EvI _ (PySem.Expr.BinOp _ Operator.Add _ _) _); with_reducible exact EvI.add (by k_extra "evi") (by k_extra "evi")) | ((with_reducible show EvI _ (PySem.Expr.BinOp _ Operator.Sub _ _) _); with_reducible exact EvI.sub (by k_extra "evi") (by k_extra "evi"))))
  k_with "eval BinOp" => ((k_here; k_dflt (refine evi_use (by k_asm) (by k_asm) (by k_extra "evi") ?_; k_whole); intro t9 tk9; (try dsimp only)))
  k_with "call ref" => ((k_here; (with_reducible show wpAny _ _ (call (Value.ref 110) _) _ _ _); k_dflt (refine Pass.useI (by k_extra "u") (by k_extra "p1") (sign_pass) (by k_extra "r") ?_; k_whole); k_extra "eI"))
  k_with "call ref" => ((k_here; (with_reducible show wpAny _ _ (call (Value.ref 89) _) _ _ _); k_dflt (refine Pass.use2 (by k_extra "u") (by k_extra "p2") (minus_pass (by k_extra "q") (by k_extra "q") (by k_extra "q") (by k_extra "q") (by k_extra "q") (by k_extra "q")) (by k_extra "r") ?_; k_whole); k_extra "e2"))
  k_with "call ref" => ((k_here; (with_reducible show wpAny _ _ (call (Value.ref 117) _) _ _ _); k_dflt (refine Pass.useI (by k_extra "u") (by k_extra "p2") (compare_pass (by k_extra "q") (by k_extra "q") (by k_extra "q") (by k_extra "q") (by k_extra "q") (by k_extra "q")) (by k_extra "r") ?_; k_whole); k_extra "eI"))
  k_with "call ref" => ((k_here; (with_reducible show wpAny _ _ (call (Value.ref 124) _) _ _ _); k_dflt (refine Pass.useI (by k_extra "u") (by k_extra "p1") (floor_pass (by k_extra "q") (by k_extra "q") (by k_extra "q")) (by k_extra "r") ?_; k_whole); k_extra "eI"))
  k_with "tup" => (first | ((with_reducible show TupIn _ _ 59 _ _); exact zero_in (by k_asm)) | ((with_reducible show TupIn _ _ 60 _ _); exact one_in (by k_asm)))
  k_with "compareOp NotIn str ref" => ((k_here; k_dflt (first | refine kind_in (by k_asm) (by k_asm) (by decide +kernel) ?_ | refine kind_out (by k_asm) (by k_asm) (by decide +kernel) ?_)))
  k_with "call ref" => ((k_here; (with_reducible show wpAny _ _ (call (Value.ref 75) _) _ _ _); k_dflt (refine Pass.use2 (by k_extra "u") (by k_extra "p0") (fr1_pass) (by k_extra "r") ?_; k_whole); k_extra "e2"))
  k_with "call ref" => ((k_here; (with_reducible show wpAny _ _ (call (Value.ref 167) _) _ _ _); k_dflt (refine Pass.useO (by k_extra "u") (by k_extra "p1") (padded_pass (by k_extra "q") (by k_extra "q") (by k_extra "q")) (by k_extra "r") ?_; k_whole); k_extra "eO"))
  k_with "call ref" => ((k_here; (with_reducible show wpAny _ _ (call (Value.ref 146) _) _ _ _); k_dflt (refine Pass.useN (by k_extra "u") (by k_extra "p0") (check_pad) (by k_extra "r") ?_; k_whole); k_extra "eN"))
  k_with "call ref" => ((k_here; (with_reducible show wpAny _ _ (call (Value.ref 146) _) _ _ _); k_dflt (refine Pass.useN (by k_extra "u") (by k_extra "p0") (check_repeat) (by k_extra "r") ?_; k_whole); k_extra "eN"))
  k_with "call ref" => ((k_here; (with_reducible show wpAny _ _ (call (Value.ref 146) _) _ _ _); k_dflt (refine Pass.useN (by k_extra "u") (by k_extra "p0") (check_reflect) (by k_extra "r") ?_; k_whole); k_extra "eN"))
  k_with "call ref" => ((k_here; (with_reducible show wpAny _ _ (call (Value.ref 153) _) _ _ _); k_dflt (refine Pass.use2 (by k_extra "u") (by k_extra "p1") (part_pass (by k_extra "q") (by k_extra "q") (by k_extra "q")) (by k_extra "r") ?_; k_whole); k_extra "e2"))
  k_with "call ref" => ((k_here; (with_reducible show wpAny _ _ (call (Value.ref 160) _) _ _ _); k_dflt (refine Pass.use2 (by k_extra "u") (by k_extra "p1") (refl_pass (by k_extra "q") (by k_extra "q") (by k_extra "q")) (by k_extra "r") ?_; k_whole); k_extra "e2"))
  k_with "call ref" => ((k_here; (with_reducible show wpAny _ _ (call (Value.ref 138) _) _ _ _); k_dflt (refine Pass.useI (by k_extra "u") (by k_extra "p0") (root_pass (by k_extra "q") (by k_extra "q")) (by k_extra "r") ?_; k_whole); k_extra "eI"))
  k_with "call ref" => ((k_here; (with_reducible show wpAny _ _ (call (Value.ref 96) _) _ _ _); k_dflt (refine Pass.use2 (by k_extra "u") (by k_extra "p2") (times_e (by k_extra "q") (by k_extra "q") (by k_extra "q")) (by k_extra "r") ?_; k_whole); k_extra "e2"))
  k_with "call ref" => ((k_here; (with_reducible show wpAny _ _ (call (Value.ref 82) _) _ _ _); k_dflt (refine Pass.use2 (by k_extra "u") (by k_extra "p2") (plus_e (by k_extra "q") (by k_extra "q") (by k_extra "q")) (by k_extra "r") ?_; k_whole); k_extra "e2"))
  k_with "call ref" => ((k_here; (with_reducible show wpAny _ _ (call (Value.ref 117) _) _ _ _); k_dflt (refine Pass.useI (by k_extra "u") (by k_extra "p2") (compare_f (by k_extra "q") (by k_extra "q")) (by k_extra "r") ?_; k_whole); k_extra "eI"))
  k_with "call ref" => ((k_here; (with_reducible show wpAny _ _ (call (Value.ref 131) _) _ _ _); k_dflt (refine Pass.useI (by k_extra "u") (by k_extra "p1") (rounded_f (by k_extra "q")) (by k_extra "r") ?_; k_whole); k_extra "eI"))
  k_with "setAttr ref" => ((k_here; k_dflt (refine sx_set (by k_asm) (by exact Frag.In.keeps (by k_asm) (Fr.keep (by k_asm))) (by k_asm) (by assumption) (by exact rfl) (by exact rfl) (by exact rfl) (by exact rfl) (by exact rfl) (by exact rfl) (by exact rfl) (by exact mill_passes) (by exact rfl) ?_; k_whole); intro d9 od9 h' tk9 F' N' l9a l9b; (try dsimp only)))
  trivial
local macro_rules | `(tactic| walk_at "enterS0") => `(tactic| (refine' code_defS0 ?k1 ?k2 ?k3 ?k4 ?k5 ?kA ?k6 ?k7 ?k8 ?k9 ?kB ?_ ?cK ?c2 ?c3 ?c4 ?c5; (case kA => exact rfl); (case k1 => k_asm); (case k2 => k_asm); (case k3 => k_asm); (case k4 => k_asm); (case k5 => k_asm); (case k6 => k_is); (case k7 => k_is); (case k8 => ktr_room); (case k9 => first | exact BindsTo.of_eq rfl | exact binds_K (by k_in) rfl (by k_is) rfl rfl rfl); (case kB => exact locs rfl); (case cK => first | exact rfl | assumption); (case c2 => exact rfl); (case c3 => exact rfl); (case c4 => exact rfl); (case c5 => decide); k_whole; intro g' L' h' FG' F' N' B' X' T' D'; (try dsimp only); (try k_fold)))
local macro_rules | `(tactic| walk_at "enterS") => `(tactic| (refine' code_defS ?k1 ?k2 ?k3 ?k4 ?k5 ?XB ?TB ?D ?T0 ?kA ?k6 ?k7 ?k8 ?k9 ?kB ?_ ?cK ?c2 ?c3 ?c4 ?c5; (case kA => exact rfl); (case k1 => k_asm); (case k2 => k_asm); (case XB => assumption); (case TB => assumption); (case D => assumption); (case T0 => first | assumption | exact KtsTurn.refl); (case k3 => k_asm); (case k4 => k_asm); (case k5 => k_asm); (case k6 => k_is); (case k7 => k_is); (case k8 => ktr_room); (case k9 => first | exact BindsTo.of_eq rfl | exact binds_K (by k_in) rfl (by k_is) rfl rfl rfl); (case kB => exact locs rfl); (case cK => first | exact rfl | assumption); (case c2 => exact rfl); (case c3 => exact rfl); (case c4 => exact rfl); (case c5 => decide); k_whole; intro g' L' h' FG' F' N' B' X' T' D'; (try dsimp only); (try k_fold)))
theorem news_off {e t : Addr} {oe ot : Obj} {news : List (Addr × Obj)} (l1 : ∀ p ∈ news, p.1 < t) (l2 : t < e) : ∀ p ∈ news, p ∈ (e, oe) :: (t, ot) :: news ∧ p.1 ≠ e ∧ p.1 ≠ t := fun p hp =>
  have := l1 p hp
  ⟨.tail _ (.tail _ hp), Nat.ne_of_lt (Nat.lt_trans this l2), Nat.ne_of_lt this⟩
section
variable {prog : Program} {w : World} {A : Around} {E : Value → Shared → Prop} {s : Shared}
theorem eqBool_none {y : Str} {t : Tok} {Q : Bool → Shared → Prop} (h : Q false s) : wpAny (model prog w) A (eqBool (.str y t) .none) Q E s := by
  unfold eqBool
  refine wpAny_holding ?_
  show wpAny _ _ (compareOp .Eq (.str y t) .none >>= truthOfDropped) Q E s
  exact wpAny_bind (EqNone.eq_str_none (wpAny_truthy_bool h))
theorem none_out {t : Addr} {items : Array Value} {ys : List Str} {Q : Value → Shared → Prop} (ht : IsTup s.heap t items) (hi : StrsAre items.toList ys) (h : Q (.bool true) s) : wpAny (model prog w) A (compareOp .NotIn .none (.ref t)) Q E s := by
  have tc : ∀ {P : PySem.Fin → Shared → Prop} {B}, P (.done (.ret (.bool false))) s → wpAny (model prog w) B (Builtin.«tuple.__contains__» ⟨[.ref t, .none], []⟩) P E s := by
    intro P B hP
    show wpAny _ _ (Builtin.Tuple.tupleItemsOf (.ref t) >>= _) _ _ s
    refine wpAny_bind (tupleItemsOf_ ht ?_)
    refine wpAny_bind (forIn_array_ _ (fun rest b s' => b.1 = none ∧ s' = s ∧ ∃ ms, StrsAre rest ms) _ ?_ ?_ items _ ⟨rfl, rfl, ys, hi⟩)
    · rintro y rest b s' ⟨hb, rfl, ms, hm⟩
      cases hm with
      | cons n tk hm' => exact wpAny_bind (eqBool_none (wpAny_pure ⟨rfl, rfl, _, hm'⟩))
    · rintro ⟨b1, b2⟩ s' ⟨hb, rfl, ms, hm⟩
      simp only at hb
      subst hb
      exact wpAny_pure hP
  show wpAny _ _ (do return .bool (!(← contains (.ref t) .none))) Q E s
  refine wpAny_bind ?_
  unfold contains
  refine wpAny_holding ?_
  refine wpAny_bind (wpAny_specialOf ht.typeIs slot_tuple_contains.lookup ?_)
  rw [if_neg (by decide)]
  exact wpAny_bind (wpAny_callSpecialUnlessNone?_slot (name := Str.ofString "__contains__") ht.typeIs slot_tuple_contains
    (wpAny_call_entry slot_tuple_contains ht.typeIs entry_tuple_contains (tc ⟨_, rfl, wpAny_truthy_bool (wpAny_pure h)⟩) (args_tuple_contains _ _)))
end
theorem kind_none {w : World} {A : Around} {E Q : Value → Shared → Prop} {s : Shared} {h₀ : Heap} {L : Addr} {m : Str → Option Value} {prog : Program} (F : Fr h₀ L s.heap m) (X : (lay.heap_1 w.params).In h₀) (h : Q (.bool true) s) : wpAny (model prog w) A (compareOp .NotIn .none (.ref 139)) Q E s :=
  none_out (kinds_at (X.keeps F.keep)) (.cons _ _ (.cons _ _ (.cons _ _ .nil))) h
def SxRaised (w : World) (E : Value → Shared → Prop) (v : Value) (s₁ : Shared) : Prop := ∃ h₀ L m news e oe t vs, v = .ref e ∧ Fr h₀ L s₁.heap m ∧ (lay.heap_1 w.params).In h₀ ∧ News h₀ L s₁.heap ((e, oe) :: (t, argsObj vs) :: news) ∧ oe.cls = .ref 56 ∧ oe.data = .fields #[.ref t, .none, .none, .none, .bool false, .none] ∧ E (.ref e) s₁
theorem sheet_raise {w : World} {A : Around} {E : Value → Shared → Prop} {s : Shared} {env : Env} {x : PySem.Expr} {pos : Pos} {Q : Flow → Shared → Prop} (hh : A.handled = none)
    (h : wpAny (model PySem.Challenge.rw_on0231_01.row.prog w) A (eval x env) (SxRaised w E) E s) : wpAny (model PySem.Challenge.rw_on0231_01.row.prog w) A (exec (.Raise (some x) none pos) env) Q E s := by
  refine sx_raise (C := 56) (nm := (Str.ofString "SheetFault")) (q := (Str.ofString "SheetFault")) (N := 55) (bs := [.ref 31]) (bm := [.ref 31, .type "Exception", .type "BaseException", .type "object"]) (hdct := true) (sn := []) (sub := []) (ab := false) (col := none) (dd := none) (k0 := some (.ref 47)) (k1 := none) (k2 := some (.str (Str.ofString "SheetFault") 234)) (k3 := some (.str (Str.ofString "SheetFault") 242)) (k5 := some (.bool true)) (newId := "Exception.__new__") (by decide +kernel) hh (wpAny_mono h (fun v s₁ h₁ => ?_) fun _ _ y => y)
  obtain ⟨h₀, L, m, news, e, oe, t, vs, rfl, F, X, N, hc, hd, hE⟩ := h₁
  exact ⟨e, oe, t, rfl, N.get (.head _), hc, hd, keeps_class (X.keeps F.keep), hE⟩
section
theorem reg2502 : True := by
  k_with "exec Raise some none" => ((k_here; (with_reducible show wpAny _ _ (exec (Stmt.Raise (some (Expr.Call (Expr.Name (Str.ofString "SheetFault") _) _ _ _)) none _) _) _ _ _); k_dflt (refine sheet_raise rfl ?_)))
  k_with "compareOp NotIn none ref" => ((k_here; k_dflt (refine kind_none (by k_asm) (by k_asm) ?_)))
  k_with "SxRaised" => ((k_dflt (refine ⟨_, _, _, _, _, _, _, _, rfl, (by k_asm), (by k_asm), (by k_asm), (by assumption), (by assumption), ?_⟩); (try dsimp only)))
  k_with "leaving ref" => ((k_here; k_dflt (refine sx_leave (by assumption) (by assumption) (by k_asm) (List.Mem.head _) (List.Mem.tail _ (List.Mem.head _)) (by assumption) (by assumption) (by exact rfl) (by exact rfl) (by exact news_off (by assumption) (by assumption)) ?_ (by exact rfl); k_whole); intro h' S' R' U'; (try dsimp only at S' R' U' ⊢)))
  k_with "call ref" => ((k_here; (with_reducible show wpAny _ _ (call (Value.ref 56) [Value.str _ _]) _ _ _); k_dflt (refine use_sheet (by k_asm) (by k_asm) (by k_asm) (by k_asm) (by k_asm) (by first | exact rfl | assumption) (by ktr_room) (by ktr_units) ?_; k_whole); intro e9 t9 oe9 h' tk9 F' N' c9 d9 l1 l2; (try dsimp only); (try k_fold)))
  k_with "call ref" => ((k_here; (with_reducible show wpAny _ _ (call (Value.ref 174) _) _ _ _); k_dflt (refine wpAny_call ?_; walk_at "enterS")))
  k_with "call ref" => ((k_here; (with_reducible show wpAny _ _ (call (Value.ref 146) _) _ _ _); k_dflt (refine wpAny_call ?_; walk_at "enterS")))
  k_with "compareOp NotIn str ref" => ((k_here; k_dflt (refine kind_out (by k_asm) (by k_asm) (by with_reducible assumption) ?_)))
  k_with "binaryOp Add str str" => ((k_here; k_dflt (refine PyProof.Rows.add_str ?_ (by assumption)); intro t9 tk9))
  trivial
set_option maxRecDepth 100000 in
set_option maxHeartbeats 8000000 in
theorem refused_s {w : World} {mean mg mb news} {x : Str} {u : Tok} (hx : inKinds x = false) (hz : (Str.ofString "no such spread: ").length + x.length ≤ sizeLine) : ∀
    (dp un : Nat) (gd : Option (List Code)) (cn : Str) (cs : Scope) (a : Addr) (ccd : Value) (A₀ : Around) (h₀ : Heap) (L : Addr) (m : Str → Option Value) (s : Shared) (Q E : Value → Shared → Prop)
    (_ : Below A₀ h₀ [] h₀) (_ : Fr h₀ L s.heap m) (_ : (lay.heap_1 w.params).In h₀) (_ : News h₀ L s.heap news) (_ : Top lay.view_1 (looseW lay.view_1 [Str.ofString "fraction"]) mean mg mb h₀) (_ : cs.kind = .function)
    (_ : dp + 30 < recursionLimit) (_ : un + 8 * 30 < cLine)
    (_ : ∀ h' tk', Fr h₀ L h' m → News h₀ L h' news → Q (.bool true) { s with heap := h', toks := tk' }),
    wpAny (model PySem.Challenge.rw_on0231_01.row.prog w) (ktrTop dp un gd cn cs L a ccd [] []) (call (.ref 244) [.str x u]) Q E s := by
  k_fill
  intro dp un gd cn cs a ccd A₀ h₀ L m s Q E B F X N T hk hdd hu hret
  obtain ⟨hp, gs, dr, tk, os⟩ := s
  dsimp only at F N
  refine wpAny_call ?_
  k_dflt (walk_at "enterS0")
  k_steps
  exact hret _ _ (by k_asm) (cb_drop (by k_asm) (by kcj_all))
set_option maxRecDepth 100000 in
set_option maxHeartbeats 8000000 in
theorem refused_e {w : World} {mean mg mb news} : ∀
    (dp un : Nat) (gd : Option (List Code)) (cn : Str) (cs : Scope) (a : Addr) (ccd : Value) (A₀ : Around) (h₀ : Heap) (L : Addr) (m : Str → Option Value) (s : Shared) (Q E : Value → Shared → Prop)
    (_ : Below A₀ h₀ [] h₀) (_ : Fr h₀ L s.heap m) (_ : (lay.heap_1 w.params).In h₀) (_ : News h₀ L s.heap news) (_ : Top lay.view_1 (looseW lay.view_1 [Str.ofString "fraction"]) mean mg mb h₀) (_ : cs.kind = .function)
    (_ : dp + 30 < recursionLimit) (_ : un + 8 * 30 < cLine)
    (_ : ∀ h' tk', Fr h₀ L h' m → News h₀ L h' news → Q (.bool true) { s with heap := h', toks := tk' }),
    wpAny (model PySem.Challenge.rw_on0231_01.row.prog w) (ktrTop dp un gd cn cs L a ccd [] []) (call (.ref 244) [.none]) Q E s := by
  k_fill
  intro dp un gd cn cs a ccd A₀ h₀ L m s Q E B F X N T hk hdd hu hret
  obtain ⟨hp, gs, dr, tk, os⟩ := s
  dsimp only at F N
  refine wpAny_call ?_
  k_dflt (walk_at "enterS0")
  k_steps
  exact hret _ _ (by k_asm) (cb_drop (by k_asm) (by kcj_all))
end
theorem words26 : True := by
  k_with_none
  k_with "q" => (first | with_reducible assumption | omega)
  k_with "p0" => (exact trivial)
  k_with "p1" => (walk_at "tup")
  k_with "p2" => (exact ⟨by walk_at "tup", by walk_at "tup"⟩)
  k_with "u" => (exact ⟨by k_asm, by k_asm, by k_asm, by k_asm, by k_asm, by first | exact rfl | assumption⟩)
  k_with "r" => (first | exact room_in (by with_reducible assumption) (by with_reducible assumption) rfl rfl rfl | exact ⟨by ktr_room, by ktr_units⟩)
  k_with "e" => (((try k_sweep); (try dsimp only); (try k_fold)))
  k_with "e2" => ((intro D9 t9 u9 h' tk9 F' N' l1; (try k_lt l1); k_extra "e"))
  k_with "eI" => ((intro t9 h' tk9 F' N'; k_extra "e"))
  k_with "eB" => ((intro h' tk9 F' N'; k_extra "e"))
  k_with "eN" => ((intro h' tk9 F' N'; k_extra "e"))
  k_with "eO" => ((intro D9 h' tk9 F' N' T9 T9b; k_extra "e"))
  k_with "forget" => ((k_here; (with_reducible show wpAny _ _ _ _ _ (Shared.mk _ _ _ (_ + 1) _)); (first | k_dflt (refine forget (by with_reducible assumption) (by with_reducible assumption) (by with_reducible assumption) (by with_reducible assumption) (by rfl) (by rfl) (by rfl) (by rfl) ?_) | with_reducible refine forget_tk ?_); intro tk9))
  k_with "execs cons" => (k_extra "forget")
  k_with "execs nil" => (k_extra "forget")
  k_with "call ref" => ((k_here; (with_reducible show wpAny _ _ (call (Value.ref 67) _) _ _ _); k_dflt (refine Pass.useI (by k_extra "u") (by k_extra "p0") (cd_pass (by k_extra "q")) (by k_extra "r") ?_; k_whole); k_extra "eI"))
  k_with "subscriptTail Name Constant ref int" => ((k_here; k_dflt (refine tin (by k_asm) (by k_asm) (by walk_at "tup") (by rfl) ?_; k_whole); intro t9))
  k_with "call ref" => ((k_here; (with_reducible show wpAny _ _ (call (Value.ref 75) _) _ _ _); k_dflt (refine Pass.use2 (by k_extra "u") (by k_extra "p0") (fr_pass (by k_extra "q") (by k_extra "q")) (by k_extra "r") ?_; k_whole); k_extra "e2"))
  k_with "evi" => ((first | with_reducible exact EvI.lit | ((with_reducible show EvI _ (PySem.Expr.Subscript _ _ _) _); k_dflt (exact EvI.item (by exact rfl) (by exact rfl) (by exact rfl) (by exact rfl) (by walk_at "tup") (by exact rfl))) | ((with_reducible show EvI _ (PySem.Expr.Name _ _) _); k_dflt (exact EvI.name (by exact rfl) (by exact rfl) (by exact rfl) (by exact rfl))) | ((with_reducible show EvI _ (PySem.Expr.BinOp _ Operator.Mult _ _) _); with_reducible exact EvI.mul (by k_extra "evi") (by k_extra "evi") (by k_dflt mul_fits)) | ((with_reducible show EvI _ (PySem.Expr.BinOp _ Operator.Add _ _) _); with_reducible exact EvI.add (by k_extra "evi") (by k_extra "evi")) | ((with_reducible show EvI _ (PySem.Expr.BinOp _ Operator.Sub _ _) _); with_reducible exact EvI.sub (by k_extra "evi") (by k_extra "evi"))))
  k_with "eval BinOp" => ((k_here; k_dflt (refine evi_use (by k_asm) (by k_asm) (by k_extra "evi") ?_; k_whole); intro t9 tk9; (try dsimp only)))
  k_with "call ref" => ((k_here; (with_reducible show wpAny _ _ (call (Value.ref 110) _) _ _ _); k_dflt (refine Pass.useI (by k_extra "u") (by k_extra "p1") (sign_pass) (by k_extra "r") ?_; k_whole); k_extra "eI"))
  k_with "call ref" => ((k_here; (with_reducible show wpAny _ _ (call (Value.ref 89) _) _ _ _); k_dflt (refine Pass.use2 (by k_extra "u") (by k_extra "p2") (minus_pass (by k_extra "q") (by k_extra "q") (by k_extra "q") (by k_extra "q") (by k_extra "q") (by k_extra "q")) (by k_extra "r") ?_; k_whole); k_extra "e2"))
  k_with "call ref" => ((k_here; (with_reducible show wpAny _ _ (call (Value.ref 117) _) _ _ _); k_dflt (refine Pass.useI (by k_extra "u") (by k_extra "p2") (compare_pass (by k_extra "q") (by k_extra "q") (by k_extra "q") (by k_extra "q") (by k_extra "q") (by k_extra "q")) (by k_extra "r") ?_; k_whole); k_extra "eI"))
  k_with "call ref" => ((k_here; (with_reducible show wpAny _ _ (call (Value.ref 124) _) _ _ _); k_dflt (refine Pass.useI (by k_extra "u") (by k_extra "p1") (floor_pass (by k_extra "q") (by k_extra "q") (by k_extra "q")) (by k_extra "r") ?_; k_whole); k_extra "eI"))
  k_with "tup" => (first | ((with_reducible show TupIn _ _ 59 _ _); exact zero_in (by k_asm)) | ((with_reducible show TupIn _ _ 60 _ _); exact one_in (by k_asm)))
  k_with "compareOp NotIn str ref" => ((k_here; k_dflt (first | refine kind_in (by k_asm) (by k_asm) (by decide +kernel) ?_ | refine kind_out (by k_asm) (by k_asm) (by decide +kernel) ?_)))
  k_with "call ref" => ((k_here; (with_reducible show wpAny _ _ (call (Value.ref 75) _) _ _ _); k_dflt (refine Pass.use2 (by k_extra "u") (by k_extra "p0") (fr1_pass) (by k_extra "r") ?_; k_whole); k_extra "e2"))
  k_with "call ref" => ((k_here; (with_reducible show wpAny _ _ (call (Value.ref 167) _) _ _ _); k_dflt (refine Pass.useO (by k_extra "u") (by k_extra "p1") (padded_pass (by k_extra "q") (by k_extra "q") (by k_extra "q")) (by k_extra "r") ?_; k_whole); k_extra "eO"))
  k_with "call ref" => ((k_here; (with_reducible show wpAny _ _ (call (Value.ref 146) _) _ _ _); k_dflt (refine Pass.useN (by k_extra "u") (by k_extra "p0") (check_pad) (by k_extra "r") ?_; k_whole); k_extra "eN"))
  k_with "call ref" => ((k_here; (with_reducible show wpAny _ _ (call (Value.ref 146) _) _ _ _); k_dflt (refine Pass.useN (by k_extra "u") (by k_extra "p0") (check_repeat) (by k_extra "r") ?_; k_whole); k_extra "eN"))
  k_with "call ref" => ((k_here; (with_reducible show wpAny _ _ (call (Value.ref 146) _) _ _ _); k_dflt (refine Pass.useN (by k_extra "u") (by k_extra "p0") (check_reflect) (by k_extra "r") ?_; k_whole); k_extra "eN"))
  k_with "call ref" => ((k_here; (with_reducible show wpAny _ _ (call (Value.ref 153) _) _ _ _); k_dflt (refine Pass.use2 (by k_extra "u") (by k_extra "p1") (part_pass (by k_extra "q") (by k_extra "q") (by k_extra "q")) (by k_extra "r") ?_; k_whole); k_extra "e2"))
  k_with "call ref" => ((k_here; (with_reducible show wpAny _ _ (call (Value.ref 160) _) _ _ _); k_dflt (refine Pass.use2 (by k_extra "u") (by k_extra "p1") (refl_pass (by k_extra "q") (by k_extra "q") (by k_extra "q")) (by k_extra "r") ?_; k_whole); k_extra "e2"))
  k_with "call ref" => ((k_here; (with_reducible show wpAny _ _ (call (Value.ref 138) _) _ _ _); k_dflt (refine Pass.useI (by k_extra "u") (by k_extra "p0") (root_pass (by k_extra "q") (by k_extra "q")) (by k_extra "r") ?_; k_whole); k_extra "eI"))
  k_with "call ref" => ((k_here; (with_reducible show wpAny _ _ (call (Value.ref 96) _) _ _ _); k_dflt (refine Pass.use2 (by k_extra "u") (by k_extra "p2") (times_e (by k_extra "q") (by k_extra "q") (by k_extra "q")) (by k_extra "r") ?_; k_whole); k_extra "e2"))
  k_with "call ref" => ((k_here; (with_reducible show wpAny _ _ (call (Value.ref 82) _) _ _ _); k_dflt (refine Pass.use2 (by k_extra "u") (by k_extra "p2") (plus_e (by k_extra "q") (by k_extra "q") (by k_extra "q")) (by k_extra "r") ?_; k_whole); k_extra "e2"))
  k_with "call ref" => ((k_here; (with_reducible show wpAny _ _ (call (Value.ref 117) _) _ _ _); k_dflt (refine Pass.useI (by k_extra "u") (by k_extra "p2") (compare_f (by k_extra "q") (by k_extra "q")) (by k_extra "r") ?_; k_whole); k_extra "eI"))
  k_with "call ref" => ((k_here; (with_reducible show wpAny _ _ (call (Value.ref 131) _) _ _ _); k_dflt (refine Pass.useI (by k_extra "u") (by k_extra "p1") (rounded_f (by k_extra "q")) (by k_extra "r") ?_; k_whole); k_extra "eI"))
  k_with "p3" => (exact ⟨by walk_at "tupR", by walk_at "tup", by walk_at "tup"⟩)
  k_with "subscriptTail Name Constant ref int" => ((k_here; k_dflt (refine trin (by k_asm) (by k_asm) (by walk_at "tupR") (by rfl) ?_; k_whole)))
  k_with "call ref" => ((k_here; (with_reducible show wpAny _ _ (call (Value.ref 96) _) _ _ _); k_dflt (refine Pass.use2 (by k_extra "u") (by k_extra "p2") (times1_e (by k_extra "q") (by k_extra "q") (by k_extra "q")) (by k_extra "r") ?_; k_whole); k_extra "e2"))
  k_with "call ref" => ((k_here; (with_reducible show wpAny _ _ (call (Value.ref 82) _) _ _ _); k_dflt (refine Pass.use2 (by k_extra "u") (by k_extra "p2") (plus1_e (by k_extra "q") (by k_extra "q") (by k_extra "q")) (by k_extra "r") ?_; k_whole); k_extra "e2"))
  k_with "call ref" => ((k_here; (with_reducible show wpAny _ _ (call (Value.ref 188) _) _ _ _); k_dflt (refine Pass.use2 (by k_extra "u") (by k_extra "p3") (product_e (by k_extra "q") (by k_extra "q") (by k_extra "q") (by k_extra "q") (by k_extra "q") (by k_extra "q") (by k_extra "q")) (by k_extra "r") ?_; k_whole); k_extra "e2"))
  k_with "call ref" => ((k_here; (with_reducible show wpAny _ _ (call (Value.ref 195) _) _ _ _); k_dflt (refine Pass.use2 (by k_extra "u") (by k_extra "p1") (rootof_e (by k_extra "q") (by k_extra "q")) (by k_extra "r") ?_; k_whole); k_extra "e2"))
  k_with "call ref" => ((k_here; (with_reducible show wpAny _ _ (call (Value.ref 75) _) _ _ _); k_dflt (refine Pass.use2 (by k_extra "u") (by k_extra "p0") (fr_e (by k_extra "q") (by k_extra "q") (by k_extra "q")) (by k_extra "r") ?_; k_whole); k_extra "e2"))
  k_with "call ref" => ((k_here; (with_reducible show wpAny _ _ (call (Value.ref 103) _) _ _ _); k_dflt (refine Pass.use2 (by k_extra "u") (by k_extra "p2") (divided_e (by k_extra "q") (by k_extra "q") (by k_extra "q") (by k_extra "q")) (by k_extra "r") ?_; k_whole); k_extra "e2"))
  trivial
/-! how a focus is led -/
theorem int_sq (x : Int) : 0 ≤ x * x := by
  rcases Int.le_total 0 x with h | h
  · exact Int.mul_nonneg h h
  · exact Int.mul_nonneg_of_nonpos_of_nonpos h h
theorem nm_mul_nm {x z q : Int} (hq : 0 < q) : nm (x * (nm z q).1) (1 * (nm z q).2) = nm (x * z) q := by
  have c := nm_cross (t := z) (b := q)
  have p := nm2_pos (t := z) (b := q) hq
  refine nm_same (by omega) hq ?_
  generalize (nm z q).1 = u at c
  generalize (nm z q).2 = v at c
  grind
theorem led_math {x y r n q a b c d : Int} (hr : 0 < r) (hn : 2 ≤ n) (hq : 0 ≤ q) (hb : 0 < b) (hd : 0 < d) (c1 : a * (q + 1) = x * (r * (n - 1)) * b) (c2 : c * (q + 1) = y * (r * (n - 1)) * d)
    (h2 : (x * x + y * y) * 1 * n * n < (q + 1) * (q + 1)) :
    a * d * y = c * b * x ∧ 0 ≤ a * x ∧ 0 ≤ c * y ∧ a * a * d * d + c * c * b * b < r * r * b * b * d * d := by
  have hz : 0 < r * (n - 1) := Int.mul_pos hr (by omega)
  have hQ : 0 < q + 1 := by omega
  have hx := int_sq x
  have hy := int_sq y
  refine ⟨?_, ?_, ?_, ?_⟩
  · have : (a * d * y - c * b * x) * (q + 1) = 0 := by grind
    rcases Int.mul_eq_zero.mp this with h | h
    · omega
    · omega
  · have h1 : 0 ≤ a * x * (q + 1) := by
      have e : a * x * (q + 1) = x * x * (r * (n - 1)) * b := by grind
      rw [e]
      exact Int.mul_nonneg (Int.mul_nonneg hx (by omega)) (by omega)
    exact Int.nonneg_of_mul_nonneg_left h1 hQ
  · have h1 : 0 ≤ c * y * (q + 1) := by
      have e : c * y * (q + 1) = y * y * (r * (n - 1)) * d := by grind
      rw [e]
      exact Int.mul_nonneg (Int.mul_nonneg hy (by omega)) (by omega)
    exact Int.nonneg_of_mul_nonneg_left h1 hQ
  · have hp : 0 < r * b * d := Int.mul_pos (Int.mul_pos hr hb) hd
    have hpp : 0 < (r * b * d) * (r * b * d) := Int.mul_pos hp hp
    have h3 : (x * x + y * y) * ((n - 1) * (n - 1)) ≤ (x * x + y * y) * 1 * n * n := by
      have : (x * x + y * y) * ((n - 1) * (n - 1)) ≤ (x * x + y * y) * (n * n) := Int.mul_le_mul_of_nonneg_left (Int.mul_le_mul (by omega) (by omega) (by omega) (by omega)) (by omega)
      refine Int.le_trans this (Int.le_of_eq ?_)
      grind
    have h4 := Int.mul_lt_mul_of_pos_right (Int.lt_of_le_of_lt h3 h2) hpp
    refine Int.lt_of_mul_lt_mul_right (a := (q + 1) * (q + 1)) ?_ (Int.le_of_lt (Int.mul_pos hQ hQ))
    have e1 : (a * a * d * d + c * c * b * b) * ((q + 1) * (q + 1)) = (x * x + y * y) * ((n - 1) * (n - 1)) * ((r * b * d) * (r * b * d)) := by
      have e2 : (a * (q + 1)) * (a * (q + 1)) = (x * (r * (n - 1)) * b) * (x * (r * (n - 1)) * b) := by rw [c1]
      have e3 : (c * (q + 1)) * (c * (q + 1)) = (y * (r * (n - 1)) * d) * (y * (r * (n - 1)) * d) := by rw [c2]
      clear c1 c2 h3 h4 h2
      grind
    rw [e1]
    refine Int.lt_of_lt_of_le h4 (Int.le_of_eq ?_)
    clear c1 c2 h3 h4 h2 e1
    grind
theorem led_third {x y r n q a b c d : Int} (hq : 0 ≤ q) (c1 : a * (q + 1) = x * (r * (n - 1)) * b) (c2 : c * (q + 1) = y * (r * (n - 1)) * d)
    (h2 : (q + 1) * (q + 1) ≤ 8 * ((x * x + y * y) * ((n - 1) * (n - 1)))) : r * r * b * b * d * d ≤ 8 * (a * a * d * d + c * c * b * b) := by
  have hQ : 0 < q + 1 := by omega
  have h4 := Int.mul_le_mul_of_nonneg_right h2 (int_sq (r * b * d))
  refine Int.le_of_mul_le_mul_right (a := (q + 1) * (q + 1)) ?_ (Int.mul_pos hQ hQ)
  have e1 : (a * a * d * d + c * c * b * b) * ((q + 1) * (q + 1)) = (x * x + y * y) * ((n - 1) * (n - 1)) * ((r * b * d) * (r * b * d)) := by
    have e2 : (a * (q + 1)) * (a * (q + 1)) = (x * (r * (n - 1)) * b) * (x * (r * (n - 1)) * b) := by rw [c1]
    have e3 : (c * (q + 1)) * (c * (q + 1)) = (y * (r * (n - 1)) * d) * (y * (r * (n - 1)) * d) := by rw [c2]
    clear c1 c2 h4 h2
    grind
  rw [Int.mul_assoc 8, e1]
  refine Int.le_trans (Int.le_trans (Int.le_of_eq ?_) h4) (Int.le_of_eq ?_)
  · clear c1 c2 h4 h2 e1
    grind
  · clear c1 c2 h4 h2 e1
    grind
theorem root_third {S n q : Int} (hS : 2 ≤ S) (hn : n = 2 ∨ n = 16 ∨ n = 256) (hq : 0 ≤ q) (h1 : q * q ≤ S * 1 * n * n) : (q + 1) * (q + 1) ≤ 8 * (S * ((n - 1) * (n - 1))) := by
  have e : (q + 1) * (q + 1) = q * q + 2 * q + 1 := by grind
  have h3 : 2 * q ≤ q * q + 1 := by
    have := int_sq (q - 1)
    have e : (q - 1) * (q - 1) = q * q - 2 * q + 1 := by grind
    omega
  rw [e]
  rcases hn with rfl | rfl | rfl
  · by_cases h : q ≤ 2
    · omega
    · have h4 : 0 ≤ (q - 3) * (q - 3) := int_sq _
      have e : (q - 3) * (q - 3) = q * q - 6 * q + 9 := by grind
      omega
  · omega
  · omega
theorem words27 : True := by
  k_with_none
  k_with "q" => (first | with_reducible assumption | omega)
  k_with "p0" => (exact trivial)
  k_with "p1" => (walk_at "tup")
  k_with "p2" => (exact ⟨by walk_at "tup", by walk_at "tup"⟩)
  k_with "u" => (exact ⟨by k_asm, by k_asm, by k_asm, by k_asm, by k_asm, by first | exact rfl | assumption⟩)
  k_with "r" => (first | exact room_in (by with_reducible assumption) (by with_reducible assumption) rfl rfl rfl | exact ⟨by ktr_room, by ktr_units⟩)
  k_with "e" => (((try k_sweep); (try dsimp only); (try k_fold)))
  k_with "e2" => ((intro D9 t9 u9 h' tk9 F' N' l1; (try k_lt l1); k_extra "e"))
  k_with "eI" => ((intro t9 h' tk9 F' N'; k_extra "e"))
  k_with "eB" => ((intro h' tk9 F' N'; k_extra "e"))
  k_with "eN" => ((intro h' tk9 F' N'; k_extra "e"))
  k_with "eO" => ((intro D9 h' tk9 F' N' T9 T9b; k_extra "e"))
  k_with "forget" => ((k_here; (with_reducible show wpAny _ _ _ _ _ (Shared.mk _ _ _ (_ + 1) _)); (first | k_dflt (refine forget (by with_reducible assumption) (by with_reducible assumption) (by with_reducible assumption) (by with_reducible assumption) (by rfl) (by rfl) (by rfl) (by rfl) ?_) | with_reducible refine forget_tk ?_); intro tk9))
  k_with "execs cons" => (k_extra "forget")
  k_with "execs nil" => (k_extra "forget")
  k_with "call ref" => ((k_here; (with_reducible show wpAny _ _ (call (Value.ref 67) _) _ _ _); k_dflt (refine Pass.useI (by k_extra "u") (by k_extra "p0") (cd_pass (by k_extra "q")) (by k_extra "r") ?_; k_whole); k_extra "eI"))
  k_with "subscriptTail Name Constant ref int" => ((k_here; k_dflt (refine tin (by k_asm) (by k_asm) (by walk_at "tup") (by rfl) ?_; k_whole); intro t9))
  k_with "call ref" => ((k_here; (with_reducible show wpAny _ _ (call (Value.ref 75) _) _ _ _); k_dflt (refine Pass.use2 (by k_extra "u") (by k_extra "p0") (fr_pass (by k_extra "q") (by k_extra "q")) (by k_extra "r") ?_; k_whole); k_extra "e2"))
  k_with "evi" => ((first | with_reducible exact EvI.lit | ((with_reducible show EvI _ (PySem.Expr.Subscript _ _ _) _); k_dflt (exact EvI.item (by exact rfl) (by exact rfl) (by exact rfl) (by exact rfl) (by walk_at "tup") (by exact rfl))) | ((with_reducible show EvI _ (PySem.Expr.Name _ _) _); k_dflt (exact EvI.name (by exact rfl) (by exact rfl) (by exact rfl) (by exact rfl))) | ((with_reducible show EvI _ (PySem.Expr.BinOp _ Operator.Mult _ _) _); with_reducible exact EvI.mul (by k_extra "evi") (by k_extra "evi") (by k_dflt mul_fits)) | ((with_reducible show EvI _ (PySem.Expr.BinOp _ Operator.Add _ _) _); with_reducible exact EvI.add (by k_extra "evi") (by k_extra "evi")) | ((with_reducible show EvI _ (PySem.Expr.BinOp _ Operator.Sub _ _) _); with_reducible exact EvI.sub (by k_extra "evi") (by k_extra "evi"))))
  k_with "eval BinOp" => ((k_here; k_dflt (refine evi_use (by k_asm) (by k_asm) (by k_extra "evi") ?_; k_whole); intro t9 tk9; (try dsimp only)))
  k_with "call ref" => ((k_here; (with_reducible show wpAny _ _ (call (Value.ref 110) _) _ _ _); k_dflt (refine Pass.useI (by k_extra "u") (by k_extra "p1") (sign_pass) (by k_extra "r") ?_; k_whole); k_extra "eI"))
  k_with "call ref" => ((k_here; (with_reducible show wpAny _ _ (call (Value.ref 89) _) _ _ _); k_dflt (refine Pass.use2 (by k_extra "u") (by k_extra "p2") (minus_pass (by k_extra "q") (by k_extra "q") (by k_extra "q") (by k_extra "q") (by k_extra "q") (by k_extra "q")) (by k_extra "r") ?_; k_whole); k_extra "e2"))
  k_with "call ref" => ((k_here; (with_reducible show wpAny _ _ (call (Value.ref 117) _) _ _ _); k_dflt (refine Pass.useI (by k_extra "u") (by k_extra "p2") (compare_pass (by k_extra "q") (by k_extra "q") (by k_extra "q") (by k_extra "q") (by k_extra "q") (by k_extra "q")) (by k_extra "r") ?_; k_whole); k_extra "eI"))
  k_with "call ref" => ((k_here; (with_reducible show wpAny _ _ (call (Value.ref 124) _) _ _ _); k_dflt (refine Pass.useI (by k_extra "u") (by k_extra "p1") (floor_pass (by k_extra "q") (by k_extra "q") (by k_extra "q")) (by k_extra "r") ?_; k_whole); k_extra "eI"))
  k_with "tup" => (first | ((with_reducible show TupIn _ _ 59 _ _); exact zero_in (by k_asm)) | ((with_reducible show TupIn _ _ 60 _ _); exact one_in (by k_asm)))
  k_with "compareOp NotIn str ref" => ((k_here; k_dflt (first | refine kind_in (by k_asm) (by k_asm) (by decide +kernel) ?_ | refine kind_out (by k_asm) (by k_asm) (by decide +kernel) ?_)))
  k_with "call ref" => ((k_here; (with_reducible show wpAny _ _ (call (Value.ref 75) _) _ _ _); k_dflt (refine Pass.use2 (by k_extra "u") (by k_extra "p0") (fr1_pass) (by k_extra "r") ?_; k_whole); k_extra "e2"))
  k_with "call ref" => ((k_here; (with_reducible show wpAny _ _ (call (Value.ref 167) _) _ _ _); k_dflt (refine Pass.useO (by k_extra "u") (by k_extra "p1") (padded_pass (by k_extra "q") (by k_extra "q") (by k_extra "q")) (by k_extra "r") ?_; k_whole); k_extra "eO"))
  k_with "call ref" => ((k_here; (with_reducible show wpAny _ _ (call (Value.ref 146) _) _ _ _); k_dflt (refine Pass.useN (by k_extra "u") (by k_extra "p0") (check_pad) (by k_extra "r") ?_; k_whole); k_extra "eN"))
  k_with "call ref" => ((k_here; (with_reducible show wpAny _ _ (call (Value.ref 146) _) _ _ _); k_dflt (refine Pass.useN (by k_extra "u") (by k_extra "p0") (check_repeat) (by k_extra "r") ?_; k_whole); k_extra "eN"))
  k_with "call ref" => ((k_here; (with_reducible show wpAny _ _ (call (Value.ref 146) _) _ _ _); k_dflt (refine Pass.useN (by k_extra "u") (by k_extra "p0") (check_reflect) (by k_extra "r") ?_; k_whole); k_extra "eN"))
  k_with "call ref" => ((k_here; (with_reducible show wpAny _ _ (call (Value.ref 153) _) _ _ _); k_dflt (refine Pass.use2 (by k_extra "u") (by k_extra "p1") (part_pass (by k_extra "q") (by k_extra "q") (by k_extra "q")) (by k_extra "r") ?_; k_whole); k_extra "e2"))
  k_with "call ref" => ((k_here; (with_reducible show wpAny _ _ (call (Value.ref 160) _) _ _ _); k_dflt (refine Pass.use2 (by k_extra "u") (by k_extra "p1") (refl_pass (by k_extra "q") (by k_extra "q") (by k_extra "q")) (by k_extra "r") ?_; k_whole); k_extra "e2"))
  k_with "call ref" => ((k_here; (with_reducible show wpAny _ _ (call (Value.ref 138) _) _ _ _); k_dflt (refine Pass.useI (by k_extra "u") (by k_extra "p0") (root_pass (by k_extra "q") (by k_extra "q")) (by k_extra "r") ?_; k_whole); k_extra "eI"))
  k_with "call ref" => ((k_here; (with_reducible show wpAny _ _ (call (Value.ref 96) _) _ _ _); k_dflt (refine Pass.use2 (by k_extra "u") (by k_extra "p2") (times_e (by k_extra "q") (by k_extra "q") (by k_extra "q")) (by k_extra "r") ?_; k_whole); k_extra "e2"))
  k_with "call ref" => ((k_here; (with_reducible show wpAny _ _ (call (Value.ref 82) _) _ _ _); k_dflt (refine Pass.use2 (by k_extra "u") (by k_extra "p2") (plus_e (by k_extra "q") (by k_extra "q") (by k_extra "q")) (by k_extra "r") ?_; k_whole); k_extra "e2"))
  k_with "call ref" => ((k_here; (with_reducible show wpAny _ _ (call (Value.ref 117) _) _ _ _); k_dflt (refine Pass.useI (by k_extra "u") (by k_extra "p2") (compare_f (by k_extra "q") (by k_extra "q")) (by k_extra "r") ?_; k_whole); k_extra "eI"))
  k_with "call ref" => ((k_here; (with_reducible show wpAny _ _ (call (Value.ref 131) _) _ _ _); k_dflt (refine Pass.useI (by k_extra "u") (by k_extra "p1") (rounded_f (by k_extra "q")) (by k_extra "r") ?_; k_whole); k_extra "eI"))
  k_with "p3" => (exact ⟨by walk_at "tupR", by walk_at "tup", by walk_at "tup"⟩)
  k_with "subscriptTail Name Constant ref int" => ((k_here; k_dflt (refine trin (by k_asm) (by k_asm) (by walk_at "tupR") (by rfl) ?_; k_whole)))
  k_with "call ref" => ((k_here; (with_reducible show wpAny _ _ (call (Value.ref 96) _) _ _ _); k_dflt (refine Pass.use2 (by k_extra "u") (by k_extra "p2") (times1_e (by k_extra "q") (by k_extra "q") (by k_extra "q")) (by k_extra "r") ?_; k_whole); k_extra "e2"))
  k_with "call ref" => ((k_here; (with_reducible show wpAny _ _ (call (Value.ref 82) _) _ _ _); k_dflt (refine Pass.use2 (by k_extra "u") (by k_extra "p2") (plus1_e (by k_extra "q") (by k_extra "q") (by k_extra "q")) (by k_extra "r") ?_; k_whole); k_extra "e2"))
  k_with "ru" => (first | exact room_eq (by with_reducible assumption) rfl rfl | ktr_units)
  k_with "compareOp Eq ref ref" => ((k_here; k_dflt (refine eq_tup (by k_asm) (by k_asm) (by walk_at "tup") (by walk_at "tup") (by k_extra "ru") (by first | with_reducible assumption | exact ⟨rfl, rfl⟩) ?_)))
  k_with "call ref" => ((k_here; (with_reducible show wpAny _ _ (call (Value.ref 188) _) _ _ _); k_dflt (refine Pass.use2 (by k_extra "u") (by k_extra "p3") (product_e (by k_extra "q") (by k_extra "q") (by k_extra "q") (by k_extra "q") (by k_extra "q") (by k_extra "q") (by k_extra "q")) (by k_extra "r") ?_; k_whole); k_extra "e2"))
  k_with "call ref" => ((k_here; (with_reducible show wpAny _ _ (call (Value.ref 195) _) _ _ _); k_dflt (refine Pass.use2 (by k_extra "u") (by k_extra "p1") (rootof_e (by k_extra "q") (by k_extra "q")) (by k_extra "r") ?_; k_whole); k_extra "e2"))
  k_with "call ref" => ((k_here; (with_reducible show wpAny _ _ (call (Value.ref 75) _) _ _ _); k_dflt (refine Pass.use2 (by k_extra "u") (by k_extra "p0") (fr_e (by k_extra "q") (by k_extra "q") (by k_extra "q")) (by k_extra "r") ?_; k_whole); k_extra "e2"))
  k_with "call ref" => ((k_here; (with_reducible show wpAny _ _ (call (Value.ref 103) _) _ _ _); k_dflt (refine Pass.use2 (by k_extra "u") (by k_extra "p2") (divided_e (by k_extra "q") (by k_extra "q") (by k_extra "q") (by k_extra "q")) (by k_extra "r") ?_; k_whole); k_extra "e2"))
  trivial
section
variable {w : World} {mean : ExcName → Option Value} {mg mb : Str → Option Value} {f : Addr} {need : Nat} {vs : List Value} {news : List (Addr × Obj)} {pre : Heap → Prop}
    {dp un : Nat} {gd : Option (List Code)} {cn : Str} {cs : Scope} {a : Addr} {ccd : Value} {cl : List (Str × Addr)} {outer : List Env} {A₀ : Around} {base h₀ : Heap} {L : Addr} {m : Str → Option Value} {s : Shared} {Q E : Value → Shared → Prop}
theorem Pass.useRf {b : Addr} 
    (H : Here w mean mg mb A₀ base outer h₀ L m news s cs) (hp : pre h₀) (C : Pass w mean mg mb f need vs news pre (RRf b news)) (hr : dp + need < recursionLimit ∧ un + 8 * need < cLine)
    (h : ∀ h' tk', Fr h₀ L h' m → News h₀ L h' news → Q (.ref b) { s with heap := h', toks := tk' }) :
    wpAny (model PySem.Challenge.rw_on0231_01.row.prog w) (ktrTop dp un gd cn cs L a ccd cl outer) (call (.ref f) vs) Q E s :=
  C.use H.B H.F H.X H.N H.T H.hk hp hr.1 hr.2 fun r news' h' tk' F' N' hR => by
    obtain ⟨rfl, rfl⟩ := hR
    exact h h' tk' F' N'
theorem Pass.useRo {c1 c2 d1 d2 : Int} 
    (H : Here w mean mg mb A₀ base outer h₀ L m news s cs) (hp : pre h₀) (C : Pass w mean mg mb f need vs news pre (RRo news (c1, c2) (d1, d2))) (hr : dp + need < recursionLimit ∧ un + 8 * need < cLine)
    (h : ∀ D p q t u t' u' h' tk', Fr h₀ L h' m → News h₀ L h' ((D, tupR p q) :: (q, tup2 d1 t' d2 u') :: (p, tup2 c1 t c2 u) :: news) → Q (.ref D) { s with heap := h', toks := tk' }) :
    wpAny (model PySem.Challenge.rw_on0231_01.row.prog w) (ktrTop dp un gd cn cs L a ccd cl outer) (call (.ref f) vs) Q E s :=
  C.use H.B H.F H.X H.N H.T H.hk hp hr.1 hr.2 fun r news' h' tk' F' N' hR => by
    obtain ⟨D, p, q, t, u, t', u', rfl, rfl⟩ := hR
    exact h D p q t u t' u' h' tk' F' N'
end
theorem TupR.reads {h₀ h : Heap} {L : Addr} {m : Str → Option Value} {news : List (Addr × Obj)} {a p q : Addr} {x y z v : Int} (T : TupR h₀ news a p q) (T1 : TupIn h₀ news p x y) (T2 : TupIn h₀ news q z v) (F : Fr h₀ L h m) (N : News h₀ L h news) :
    Reads h (.ref a) (.tuple [.tuple [.int x, .int y], .tuple [.int z, .int v]]) [] := by
  obtain ⟨o, ho, hc, n, hd⟩ := T.at F N
  exact reads_tuple_at ho hc hd (.cons (as := []) (bs := []) (T1.reads F N) (.cons (as := []) (bs := []) (T2.reads F N) .nil))
section
variable {prog : Program} {w : World} {A : Around} {E : Value → Shared → Prop} {s : Shared} {h₀ : Heap} {L a b p q p' q' : Addr} {m : Str → Option Value} {news : List (Addr × Obj)} {x y z v x' y' z' v' : Int} {Q : Value → Shared → Prop}
theorem eq_tupR (F : Fr h₀ L s.heap m) (N : News h₀ L s.heap news) (Ta : TupR h₀ news a p q) (Ta1 : TupIn h₀ news p x y) (Ta2 : TupIn h₀ news q z v) (Tb : TupR h₀ news b p' q') (Tb1 : TupIn h₀ news p' x' y') (Tb2 : TupIn h₀ news q' z' v')
    (hu : A.units + 64 < cLine) (e1 : x = x') (e2 : y = y') (e3 : z = z') (e4 : v = v') (h : Q (.bool true) s) :
    wpAny (model prog w) A (compareOp .Eq (.ref a) (.ref b)) Q E s := by
  subst e1 e2 e3 e4
  refine eq_dataH (Ta.reads Ta1 Ta2 F N) (Tb.reads Tb1 Tb2 F N) rfl rfl hu ?_
  have e : PyData.eqv (.tuple [.tuple [.int x, .int y], .tuple [.int z, .int v]]) (.tuple [.tuple [.int x, .int y], .tuple [.int z, .int v]]) = true := by simp [PyData.eqv, PyData.eqvAll]
  rw [e]; exact h
end
theorem reg2701 : True := by
  k_with "rf" => (first | with_reducible exact rfl | with_reducible assumption)
  k_with "p4" => (exact ⟨by walk_at "tupR", by walk_at "tup", by walk_at "tup", by walk_at "tup"⟩)
  k_with "eRf" => (k_extra "eB")
  k_with "eRo" => ((intro D9 p9 q9 t9 u9 t8 u8 h' tk9 F' N'; k_extra "e"))
  k_with "compareOp Eq ref ref" => ((k_here; k_dflt (refine eq_tupR (by k_asm) (by k_asm) (by walk_at "tupR") (by walk_at "tup") (by walk_at "tup") (by walk_at "tupR") (by walk_at "tup") (by walk_at "tup") (by k_extra "ru") (by k_extra "rf") (by k_extra "rf") (by k_extra "rf") (by k_extra "rf") ?_)))
  trivial
theorem words28 : True := by
  k_with_none
  k_with "q" => (first | with_reducible assumption | omega)
  k_with "p0" => (exact trivial)
  k_with "p1" => (walk_at "tup")
  k_with "p2" => (exact ⟨by walk_at "tup", by walk_at "tup"⟩)
  k_with "u" => (exact ⟨by k_asm, by k_asm, by k_asm, by k_asm, by k_asm, by first | exact rfl | assumption⟩)
  k_with "r" => (first | exact room_in (by with_reducible assumption) (by with_reducible assumption) rfl rfl rfl | exact ⟨by ktr_room, by ktr_units⟩)
  k_with "e" => (((try k_sweep); (try dsimp only); (try k_fold)))
  k_with "e2" => ((intro D9 t9 u9 h' tk9 F' N' l1; (try k_lt l1); k_extra "e"))
  k_with "eI" => ((intro t9 h' tk9 F' N'; k_extra "e"))
  k_with "eB" => ((intro h' tk9 F' N'; k_extra "e"))
  k_with "eN" => ((intro h' tk9 F' N'; k_extra "e"))
  k_with "eO" => ((intro D9 h' tk9 F' N' T9 T9b; k_extra "e"))
  k_with "forget" => ((k_here; (with_reducible show wpAny _ _ _ _ _ (Shared.mk _ _ _ (_ + 1) _)); (first | k_dflt (refine forget (by with_reducible assumption) (by with_reducible assumption) (by with_reducible assumption) (by with_reducible assumption) (by rfl) (by rfl) (by rfl) (by rfl) ?_) | with_reducible refine forget_tk ?_); intro tk9))
  k_with "execs cons" => (k_extra "forget")
  k_with "execs nil" => (k_extra "forget")
  k_with "call ref" => ((k_here; (with_reducible show wpAny _ _ (call (Value.ref 67) _) _ _ _); k_dflt (refine Pass.useI (by k_extra "u") (by k_extra "p0") (cd_pass (by k_extra "q")) (by k_extra "r") ?_; k_whole); k_extra "eI"))
  k_with "subscriptTail Name Constant ref int" => ((k_here; k_dflt (refine tin (by k_asm) (by k_asm) (by walk_at "tup") (by rfl) ?_; k_whole); intro t9))
  k_with "call ref" => ((k_here; (with_reducible show wpAny _ _ (call (Value.ref 75) _) _ _ _); k_dflt (refine Pass.use2 (by k_extra "u") (by k_extra "p0") (fr_pass (by k_extra "q") (by k_extra "q")) (by k_extra "r") ?_; k_whole); k_extra "e2"))
  k_with "evi" => ((first | with_reducible exact EvI.lit | ((with_reducible show EvI _ (PySem.Expr.Subscript _ _ _) _); k_dflt (exact EvI.item (by exact rfl) (by exact rfl) (by exact rfl) (by exact rfl) (by walk_at "tup") (by exact rfl))) | ((with_reducible show EvI _ (PySem.Expr.Name _ _) _); k_dflt (exact EvI.name (by exact rfl) (by exact rfl) (by exact rfl) (by exact rfl))) | ((with_reducible show EvI _ (PySem.Expr.BinOp _ Operator.Mult _ _) _); with_reducible exact EvI.mul (by k_extra "evi") (by k_extra "evi") (by k_dflt mul_fits)) | ((with_reducible show EvI _ (PySem.Expr.BinOp _ Operator.Add _ _) _); with_reducible exact EvI.add (by k_extra "evi") (by k_extra "evi")) | ((with_reducible show EvI _ (PySem.Expr.BinOp _ Operator.Sub _ _) _); with_reducible exact EvI.sub (by k_extra "evi") (by k_extra "evi"))))
  k_with "eval BinOp" => ((k_here; k_dflt (refine evi_use (by k_asm) (by k_asm) (by k_extra "evi") ?_; k_whole); intro t9 tk9; (try dsimp only)))
  k_with "call ref" => ((k_here; (with_reducible show wpAny _ _ (call (Value.ref 110) _) _ _ _); k_dflt (refine Pass.useI (by k_extra "u") (by k_extra "p1") (sign_pass) (by k_extra "r") ?_; k_whole); k_extra "eI"))
  k_with "call ref" => ((k_here; (with_reducible show wpAny _ _ (call (Value.ref 89) _) _ _ _); k_dflt (refine Pass.use2 (by k_extra "u") (by k_extra "p2") (minus_pass (by k_extra "q") (by k_extra "q") (by k_extra "q") (by k_extra "q") (by k_extra "q") (by k_extra "q")) (by k_extra "r") ?_; k_whole); k_extra "e2"))
  k_with "call ref" => ((k_here; (with_reducible show wpAny _ _ (call (Value.ref 117) _) _ _ _); k_dflt (refine Pass.useI (by k_extra "u") (by k_extra "p2") (compare_pass (by k_extra "q") (by k_extra "q") (by k_extra "q") (by k_extra "q") (by k_extra "q") (by k_extra "q")) (by k_extra "r") ?_; k_whole); k_extra "eI"))
  k_with "call ref" => ((k_here; (with_reducible show wpAny _ _ (call (Value.ref 124) _) _ _ _); k_dflt (refine Pass.useI (by k_extra "u") (by k_extra "p1") (floor_pass (by k_extra "q") (by k_extra "q") (by k_extra "q")) (by k_extra "r") ?_; k_whole); k_extra "eI"))
  k_with "tup" => (first | ((with_reducible show TupIn _ _ 59 _ _); exact zero_in (by k_asm)) | ((with_reducible show TupIn _ _ 60 _ _); exact one_in (by k_asm)))
  k_with "compareOp NotIn str ref" => ((k_here; k_dflt (first | refine kind_in (by k_asm) (by k_asm) (by decide +kernel) ?_ | refine kind_out (by k_asm) (by k_asm) (by decide +kernel) ?_)))
  k_with "call ref" => ((k_here; (with_reducible show wpAny _ _ (call (Value.ref 75) _) _ _ _); k_dflt (refine Pass.use2 (by k_extra "u") (by k_extra "p0") (fr1_pass) (by k_extra "r") ?_; k_whole); k_extra "e2"))
  k_with "call ref" => ((k_here; (with_reducible show wpAny _ _ (call (Value.ref 167) _) _ _ _); k_dflt (refine Pass.useO (by k_extra "u") (by k_extra "p1") (padded_pass (by k_extra "q") (by k_extra "q") (by k_extra "q")) (by k_extra "r") ?_; k_whole); k_extra "eO"))
  k_with "call ref" => ((k_here; (with_reducible show wpAny _ _ (call (Value.ref 146) _) _ _ _); k_dflt (refine Pass.useN (by k_extra "u") (by k_extra "p0") (check_pad) (by k_extra "r") ?_; k_whole); k_extra "eN"))
  k_with "call ref" => ((k_here; (with_reducible show wpAny _ _ (call (Value.ref 146) _) _ _ _); k_dflt (refine Pass.useN (by k_extra "u") (by k_extra "p0") (check_repeat) (by k_extra "r") ?_; k_whole); k_extra "eN"))
  k_with "call ref" => ((k_here; (with_reducible show wpAny _ _ (call (Value.ref 146) _) _ _ _); k_dflt (refine Pass.useN (by k_extra "u") (by k_extra "p0") (check_reflect) (by k_extra "r") ?_; k_whole); k_extra "eN"))
  k_with "call ref" => ((k_here; (with_reducible show wpAny _ _ (call (Value.ref 153) _) _ _ _); k_dflt (refine Pass.use2 (by k_extra "u") (by k_extra "p1") (part_pass (by k_extra "q") (by k_extra "q") (by k_extra "q")) (by k_extra "r") ?_; k_whole); k_extra "e2"))
  k_with "call ref" => ((k_here; (with_reducible show wpAny _ _ (call (Value.ref 160) _) _ _ _); k_dflt (refine Pass.use2 (by k_extra "u") (by k_extra "p1") (refl_pass (by k_extra "q") (by k_extra "q") (by k_extra "q")) (by k_extra "r") ?_; k_whole); k_extra "e2"))
  k_with "call ref" => ((k_here; (with_reducible show wpAny _ _ (call (Value.ref 138) _) _ _ _); k_dflt (refine Pass.useI (by k_extra "u") (by k_extra "p0") (root_pass (by k_extra "q") (by k_extra "q")) (by k_extra "r") ?_; k_whole); k_extra "eI"))
  k_with "call ref" => ((k_here; (with_reducible show wpAny _ _ (call (Value.ref 96) _) _ _ _); k_dflt (refine Pass.use2 (by k_extra "u") (by k_extra "p2") (times_e (by k_extra "q") (by k_extra "q") (by k_extra "q")) (by k_extra "r") ?_; k_whole); k_extra "e2"))
  k_with "call ref" => ((k_here; (with_reducible show wpAny _ _ (call (Value.ref 82) _) _ _ _); k_dflt (refine Pass.use2 (by k_extra "u") (by k_extra "p2") (plus_e (by k_extra "q") (by k_extra "q") (by k_extra "q")) (by k_extra "r") ?_; k_whole); k_extra "e2"))
  k_with "call ref" => ((k_here; (with_reducible show wpAny _ _ (call (Value.ref 117) _) _ _ _); k_dflt (refine Pass.useI (by k_extra "u") (by k_extra "p2") (compare_f (by k_extra "q") (by k_extra "q")) (by k_extra "r") ?_; k_whole); k_extra "eI"))
  k_with "call ref" => ((k_here; (with_reducible show wpAny _ _ (call (Value.ref 131) _) _ _ _); k_dflt (refine Pass.useI (by k_extra "u") (by k_extra "p1") (rounded_f (by k_extra "q")) (by k_extra "r") ?_; k_whole); k_extra "eI"))
  k_with "p3" => (exact ⟨by walk_at "tupR", by walk_at "tup", by walk_at "tup"⟩)
  k_with "subscriptTail Name Constant ref int" => ((k_here; k_dflt (refine trin (by k_asm) (by k_asm) (by walk_at "tupR") (by rfl) ?_; k_whole)))
  k_with "call ref" => ((k_here; (with_reducible show wpAny _ _ (call (Value.ref 96) _) _ _ _); k_dflt (refine Pass.use2 (by k_extra "u") (by k_extra "p2") (times1_e (by k_extra "q") (by k_extra "q") (by k_extra "q")) (by k_extra "r") ?_; k_whole); k_extra "e2"))
  k_with "call ref" => ((k_here; (with_reducible show wpAny _ _ (call (Value.ref 82) _) _ _ _); k_dflt (refine Pass.use2 (by k_extra "u") (by k_extra "p2") (plus1_e (by k_extra "q") (by k_extra "q") (by k_extra "q")) (by k_extra "r") ?_; k_whole); k_extra "e2"))
  k_with "ru" => (first | exact room_eq (by with_reducible assumption) rfl rfl | ktr_units)
  k_with "compareOp Eq ref ref" => ((k_here; k_dflt (refine eq_tup (by k_asm) (by k_asm) (by walk_at "tup") (by walk_at "tup") (by k_extra "ru") (by first | with_reducible assumption | exact ⟨rfl, rfl⟩) ?_)))
  k_with "call ref" => ((k_here; (with_reducible show wpAny _ _ (call (Value.ref 188) _) _ _ _); k_dflt (refine Pass.use2 (by k_extra "u") (by k_extra "p3") (product_e (by k_extra "q") (by k_extra "q") (by k_extra "q") (by k_extra "q") (by k_extra "q") (by k_extra "q") (by k_extra "q")) (by k_extra "r") ?_; k_whole); k_extra "e2"))
  k_with "call ref" => ((k_here; (with_reducible show wpAny _ _ (call (Value.ref 195) _) _ _ _); k_dflt (refine Pass.use2 (by k_extra "u") (by k_extra "p1") (rootof_e (by k_extra "q") (by k_extra "q")) (by k_extra "r") ?_; k_whole); k_extra "e2"))
  k_with "call ref" => ((k_here; (with_reducible show wpAny _ _ (call (Value.ref 75) _) _ _ _); k_dflt (refine Pass.use2 (by k_extra "u") (by k_extra "p0") (fr_e (by k_extra "q") (by k_extra "q") (by k_extra "q")) (by k_extra "r") ?_; k_whole); k_extra "e2"))
  k_with "call ref" => ((k_here; (with_reducible show wpAny _ _ (call (Value.ref 103) _) _ _ _); k_dflt (refine Pass.use2 (by k_extra "u") (by k_extra "p2") (divided_e (by k_extra "q") (by k_extra "q") (by k_extra "q") (by k_extra "q")) (by k_extra "r") ?_; k_whole); k_extra "e2"))
  k_with "rf" => (first | with_reducible exact rfl | with_reducible assumption)
  k_with "p4" => (exact ⟨by walk_at "tupR", by walk_at "tup", by walk_at "tup", by walk_at "tup"⟩)
  k_with "eRf" => (k_extra "eB")
  k_with "eRo" => ((intro D9 p9 q9 t9 u9 t8 u8 h' tk9 F' N'; k_extra "e"))
  k_with "compareOp Eq ref ref" => ((k_here; k_dflt (refine eq_tupR (by k_asm) (by k_asm) (by walk_at "tupR") (by walk_at "tup") (by walk_at "tup") (by walk_at "tupR") (by walk_at "tup") (by walk_at "tup") (by k_extra "ru") (by k_extra "rf") (by k_extra "rf") (by k_extra "rf") (by k_extra "rf") ?_)))
  trivial
section
local macro_rules | `(tactic| walk_at "call ref") => `(tactic| (k_here; (with_reducible show wpAny _ _ (call (Value.ref 202) _) _ _ _); k_dflt (refine Pass.useRf (by walk_at "u") (by walk_at "p4") (focus_in (by walk_at "q") (by walk_at "q") (by walk_at "q") (by walk_at "q") (by walk_at "q")) (by walk_at "r") ?_; k_whole); walk_at "eRf"))
set_option maxRecDepth 100000 in
set_option maxHeartbeats 8000000 in
theorem led_in {w mean mg mb news} {x y r n : Int} {tx ty tr tn : Tok} {lv : Value} (hx : -100 < x ∧ x < 100) (hy : -100 < y ∧ y < 100) (hr : 0 < r ∧ r < 100) (hn : 0 < n ∧ n < 1000) (hin : x * x + y * y < r * r) :
    Pass w mean mg mb 258 14 [.int x tx, .int y ty, lv, .int r tr, .int n tn] news (fun _ => True) (RB news true) := by
  have e1 := mul_in (a := x) (b := x) (by omega) (by omega)
  have e2 := mul_in (a := y) (b := y) (by omega) (by omega)
  have e3 := mul_in (a := r) (b := r) (by omega) (by omega)
  unfold Pass
  k_fill
  intro dp un gd cn cs a' ccd cl outer A₀ base h₀ L m s Q E B F X N T hk hpre hdd hu hret
  obtain ⟨hp, gs, dr, tk, os⟩ := s
  dsimp only at F N
  refine wpAny_call ?_
  k_dflt ktr_enter
  k_steps
  all_goals exact retB hret (by k_asm) (by k_asm) (by kcj_all) rfl
end
theorem words29 : True := by
  k_with_none
  k_with "q" => (first | with_reducible assumption | omega)
  k_with "p0" => (exact trivial)
  k_with "p1" => (walk_at "tup")
  k_with "p2" => (exact ⟨by walk_at "tup", by walk_at "tup"⟩)
  k_with "u" => (exact ⟨by k_asm, by k_asm, by k_asm, by k_asm, by k_asm, by first | exact rfl | assumption⟩)
  k_with "r" => (first | exact room_in (by with_reducible assumption) (by with_reducible assumption) rfl rfl rfl | exact ⟨by ktr_room, by ktr_units⟩)
  k_with "e" => (((try k_sweep); (try dsimp only); (try k_fold)))
  k_with "e2" => ((intro D9 t9 u9 h' tk9 F' N' l1; (try k_lt l1); k_extra "e"))
  k_with "eI" => ((intro t9 h' tk9 F' N'; k_extra "e"))
  k_with "eB" => ((intro h' tk9 F' N'; k_extra "e"))
  k_with "eN" => ((intro h' tk9 F' N'; k_extra "e"))
  k_with "eO" => ((intro D9 h' tk9 F' N' T9 T9b; k_extra "e"))
  k_with "forget" => ((k_here; (with_reducible show wpAny _ _ _ _ _ (Shared.mk _ _ _ (_ + 1) _)); (first | k_dflt (refine forget (by with_reducible assumption) (by with_reducible assumption) (by with_reducible assumption) (by with_reducible assumption) (by rfl) (by rfl) (by rfl) (by rfl) ?_) | with_reducible refine forget_tk ?_); intro tk9))
  k_with "execs cons" => (k_extra "forget")
  k_with "execs nil" => (k_extra "forget")
  k_with "call ref" => ((k_here; (with_reducible show wpAny _ _ (call (Value.ref 67) _) _ _ _); k_dflt (refine Pass.useI (by k_extra "u") (by k_extra "p0") (cd_pass (by k_extra "q")) (by k_extra "r") ?_; k_whole); k_extra "eI"))
  k_with "subscriptTail Name Constant ref int" => ((k_here; k_dflt (refine tin (by k_asm) (by k_asm) (by walk_at "tup") (by rfl) ?_; k_whole); intro t9))
  k_with "call ref" => ((k_here; (with_reducible show wpAny _ _ (call (Value.ref 75) _) _ _ _); k_dflt (refine Pass.use2 (by k_extra "u") (by k_extra "p0") (fr_pass (by k_extra "q") (by k_extra "q")) (by k_extra "r") ?_; k_whole); k_extra "e2"))
  k_with "evi" => ((first | with_reducible exact EvI.lit | ((with_reducible show EvI _ (PySem.Expr.Subscript _ _ _) _); k_dflt (exact EvI.item (by exact rfl) (by exact rfl) (by exact rfl) (by exact rfl) (by walk_at "tup") (by exact rfl))) | ((with_reducible show EvI _ (PySem.Expr.Name _ _) _); k_dflt (exact EvI.name (by exact rfl) (by exact rfl) (by exact rfl) (by exact rfl))) | ((with_reducible show EvI _ (PySem.Expr.BinOp _ Operator.Mult _ _) _); with_reducible exact EvI.mul (by k_extra "evi") (by k_extra "evi") (by k_dflt mul_fits)) | ((with_reducible show EvI _ (PySem.Expr.BinOp _ Operator.Add _ _) _); with_reducible exact EvI.add (by k_extra "evi") (by k_extra "evi")) | ((with_reducible show EvI _ (PySem.Expr.BinOp _ Operator.Sub _ _) _); with_reducible exact EvI.sub (by k_extra "evi") (by k_extra "evi"))))
  k_with "eval BinOp" => ((k_here; k_dflt (refine evi_use (by k_asm) (by k_asm) (by k_extra "evi") ?_; k_whole); intro t9 tk9; (try dsimp only)))
  k_with "call ref" => ((k_here; (with_reducible show wpAny _ _ (call (Value.ref 110) _) _ _ _); k_dflt (refine Pass.useI (by k_extra "u") (by k_extra "p1") (sign_pass) (by k_extra "r") ?_; k_whole); k_extra "eI"))
  k_with "call ref" => ((k_here; (with_reducible show wpAny _ _ (call (Value.ref 89) _) _ _ _); k_dflt (refine Pass.use2 (by k_extra "u") (by k_extra "p2") (minus_pass (by k_extra "q") (by k_extra "q") (by k_extra "q") (by k_extra "q") (by k_extra "q") (by k_extra "q")) (by k_extra "r") ?_; k_whole); k_extra "e2"))
  k_with "call ref" => ((k_here; (with_reducible show wpAny _ _ (call (Value.ref 117) _) _ _ _); k_dflt (refine Pass.useI (by k_extra "u") (by k_extra "p2") (compare_pass (by k_extra "q") (by k_extra "q") (by k_extra "q") (by k_extra "q") (by k_extra "q") (by k_extra "q")) (by k_extra "r") ?_; k_whole); k_extra "eI"))
  k_with "call ref" => ((k_here; (with_reducible show wpAny _ _ (call (Value.ref 124) _) _ _ _); k_dflt (refine Pass.useI (by k_extra "u") (by k_extra "p1") (floor_pass (by k_extra "q") (by k_extra "q") (by k_extra "q")) (by k_extra "r") ?_; k_whole); k_extra "eI"))
  k_with "tup" => (first | ((with_reducible show TupIn _ _ 59 _ _); exact zero_in (by k_asm)) | ((with_reducible show TupIn _ _ 60 _ _); exact one_in (by k_asm)))
  k_with "compareOp NotIn str ref" => ((k_here; k_dflt (first | refine kind_in (by k_asm) (by k_asm) (by decide +kernel) ?_ | refine kind_out (by k_asm) (by k_asm) (by decide +kernel) ?_)))
  k_with "call ref" => ((k_here; (with_reducible show wpAny _ _ (call (Value.ref 75) _) _ _ _); k_dflt (refine Pass.use2 (by k_extra "u") (by k_extra "p0") (fr1_pass) (by k_extra "r") ?_; k_whole); k_extra "e2"))
  k_with "call ref" => ((k_here; (with_reducible show wpAny _ _ (call (Value.ref 167) _) _ _ _); k_dflt (refine Pass.useO (by k_extra "u") (by k_extra "p1") (padded_pass (by k_extra "q") (by k_extra "q") (by k_extra "q")) (by k_extra "r") ?_; k_whole); k_extra "eO"))
  k_with "call ref" => ((k_here; (with_reducible show wpAny _ _ (call (Value.ref 146) _) _ _ _); k_dflt (refine Pass.useN (by k_extra "u") (by k_extra "p0") (check_pad) (by k_extra "r") ?_; k_whole); k_extra "eN"))
  k_with "call ref" => ((k_here; (with_reducible show wpAny _ _ (call (Value.ref 146) _) _ _ _); k_dflt (refine Pass.useN (by k_extra "u") (by k_extra "p0") (check_repeat) (by k_extra "r") ?_; k_whole); k_extra "eN"))
  k_with "call ref" => ((k_here; (with_reducible show wpAny _ _ (call (Value.ref 146) _) _ _ _); k_dflt (refine Pass.useN (by k_extra "u") (by k_extra "p0") (check_reflect) (by k_extra "r") ?_; k_whole); k_extra "eN"))
  k_with "call ref" => ((k_here; (with_reducible show wpAny _ _ (call (Value.ref 153) _) _ _ _); k_dflt (refine Pass.use2 (by k_extra "u") (by k_extra "p1") (part_pass (by k_extra "q") (by k_extra "q") (by k_extra "q")) (by k_extra "r") ?_; k_whole); k_extra "e2"))
  k_with "call ref" => ((k_here; (with_reducible show wpAny _ _ (call (Value.ref 160) _) _ _ _); k_dflt (refine Pass.use2 (by k_extra "u") (by k_extra "p1") (refl_pass (by k_extra "q") (by k_extra "q") (by k_extra "q")) (by k_extra "r") ?_; k_whole); k_extra "e2"))
  k_with "call ref" => ((k_here; (with_reducible show wpAny _ _ (call (Value.ref 138) _) _ _ _); k_dflt (refine Pass.useI (by k_extra "u") (by k_extra "p0") (root_pass (by k_extra "q") (by k_extra "q")) (by k_extra "r") ?_; k_whole); k_extra "eI"))
  k_with "call ref" => ((k_here; (with_reducible show wpAny _ _ (call (Value.ref 96) _) _ _ _); k_dflt (refine Pass.use2 (by k_extra "u") (by k_extra "p2") (times_e (by k_extra "q") (by k_extra "q") (by k_extra "q")) (by k_extra "r") ?_; k_whole); k_extra "e2"))
  k_with "call ref" => ((k_here; (with_reducible show wpAny _ _ (call (Value.ref 82) _) _ _ _); k_dflt (refine Pass.use2 (by k_extra "u") (by k_extra "p2") (plus_e (by k_extra "q") (by k_extra "q") (by k_extra "q")) (by k_extra "r") ?_; k_whole); k_extra "e2"))
  k_with "call ref" => ((k_here; (with_reducible show wpAny _ _ (call (Value.ref 117) _) _ _ _); k_dflt (refine Pass.useI (by k_extra "u") (by k_extra "p2") (compare_f (by k_extra "q") (by k_extra "q")) (by k_extra "r") ?_; k_whole); k_extra "eI"))
  k_with "call ref" => ((k_here; (with_reducible show wpAny _ _ (call (Value.ref 131) _) _ _ _); k_dflt (refine Pass.useI (by k_extra "u") (by k_extra "p1") (rounded_f (by k_extra "q")) (by k_extra "r") ?_; k_whole); k_extra "eI"))
  k_with "p3" => (exact ⟨by walk_at "tupR", by walk_at "tup", by walk_at "tup"⟩)
  k_with "subscriptTail Name Constant ref int" => ((k_here; k_dflt (refine trin (by k_asm) (by k_asm) (by walk_at "tupR") (by rfl) ?_; k_whole)))
  k_with "call ref" => ((k_here; (with_reducible show wpAny _ _ (call (Value.ref 96) _) _ _ _); k_dflt (refine Pass.use2 (by k_extra "u") (by k_extra "p2") (times1_e (by k_extra "q") (by k_extra "q") (by k_extra "q")) (by k_extra "r") ?_; k_whole); k_extra "e2"))
  k_with "call ref" => ((k_here; (with_reducible show wpAny _ _ (call (Value.ref 82) _) _ _ _); k_dflt (refine Pass.use2 (by k_extra "u") (by k_extra "p2") (plus1_e (by k_extra "q") (by k_extra "q") (by k_extra "q")) (by k_extra "r") ?_; k_whole); k_extra "e2"))
  k_with "ru" => (first | exact room_eq (by with_reducible assumption) rfl rfl | ktr_units)
  k_with "compareOp Eq ref ref" => ((k_here; k_dflt (refine eq_tup (by k_asm) (by k_asm) (by walk_at "tup") (by walk_at "tup") (by k_extra "ru") (by first | with_reducible assumption | exact ⟨rfl, rfl⟩) ?_)))
  k_with "call ref" => ((k_here; (with_reducible show wpAny _ _ (call (Value.ref 188) _) _ _ _); k_dflt (refine Pass.use2 (by k_extra "u") (by k_extra "p3") (product_e (by k_extra "q") (by k_extra "q") (by k_extra "q") (by k_extra "q") (by k_extra "q") (by k_extra "q") (by k_extra "q")) (by k_extra "r") ?_; k_whole); k_extra "e2"))
  k_with "call ref" => ((k_here; (with_reducible show wpAny _ _ (call (Value.ref 195) _) _ _ _); k_dflt (refine Pass.use2 (by k_extra "u") (by k_extra "p1") (rootof_e (by k_extra "q") (by k_extra "q")) (by k_extra "r") ?_; k_whole); k_extra "e2"))
  k_with "call ref" => ((k_here; (with_reducible show wpAny _ _ (call (Value.ref 75) _) _ _ _); k_dflt (refine Pass.use2 (by k_extra "u") (by k_extra "p0") (fr_e (by k_extra "q") (by k_extra "q") (by k_extra "q")) (by k_extra "r") ?_; k_whole); k_extra "e2"))
  k_with "call ref" => ((k_here; (with_reducible show wpAny _ _ (call (Value.ref 103) _) _ _ _); k_dflt (refine Pass.use2 (by k_extra "u") (by k_extra "p2") (divided_e (by k_extra "q") (by k_extra "q") (by k_extra "q") (by k_extra "q")) (by k_extra "r") ?_; k_whole); k_extra "e2"))
  k_with "rf" => (first | with_reducible exact rfl | with_reducible assumption)
  k_with "p4" => (exact ⟨by walk_at "tupR", by walk_at "tup", by walk_at "tup", by walk_at "tup"⟩)
  k_with "eRf" => (k_extra "eB")
  k_with "eRo" => ((intro D9 p9 q9 t9 u9 t8 u8 h' tk9 F' N'; k_extra "e"))
  k_with "compareOp Eq ref ref" => ((k_here; k_dflt (refine eq_tupR (by k_asm) (by k_asm) (by walk_at "tupR") (by walk_at "tup") (by walk_at "tup") (by walk_at "tupR") (by walk_at "tup") (by walk_at "tup") (by k_extra "ru") (by k_extra "rf") (by k_extra "rf") (by k_extra "rf") (by k_extra "rf") ?_)))
  trivial
theorem nm_bounds {x r n q : Int} (hx : -100 < x ∧ x < 100) (hr : 0 < r ∧ r < 100) (hn : 2 ≤ n ∧ n ≤ 256) (hq : 0 ≤ q ∧ q ≤ 99999) :
    (-10000000 < (nm (x * (r * (n - 1))) (q + 1)).1 ∧ (nm (x * (r * (n - 1))) (q + 1)).1 < 10000000) ∧ 0 < (nm (x * (r * (n - 1))) (q + 1)).2 ∧ (nm (x * (r * (n - 1))) (q + 1)).2 < 1000000 := by
  have h1 := mulb (a := r) (b := n - 1) (A := 99) (B := 255) (by omega) (by omega) (by omega) (by omega)
  have h2 : (x * (r * (n - 1))).natAbs ≤ 99 * 25245 := by
    rw [Int.natAbs_mul]
    exact Nat.mul_le_mul (by omega) (by omega)
  exact ⟨nm1_abs (by omega) (by omega), nm2_pos (by omega), Int.lt_of_le_of_lt (nm2_le (by omega)) (by omega)⟩
/-- what the law asks of a focus led inwards: `a/b` and `c/d` its two parts -/
structure Led (x y r n a b c d : Int) : Prop where
  ba : -10000000 < a ∧ a < 10000000
  bb : 0 < b ∧ b < 1000000
  bc : -10000000 < c ∧ c < 10000000
  bd : 0 < d ∧ d < 1000000
  ea : nm (x * (r * (n - 1))) (rt ((x * x + y * y) * 1 * n * n) + 1) = (a, b)
  ec : nm (y * (r * (n - 1))) (rt ((x * x + y * y) * 1 * n * n) + 1) = (c, d)
  k1 : a * d * y = c * b * x
  k2 : 0 ≤ a * x
  k3 : 0 ≤ c * y
  k4 : a * a * d * d + c * c * b * b < r * r * b * b * d * d
theorem led_ex {x y r n : Int} (hx : -100 < x ∧ x < 100) (hy : -100 < y ∧ y < 100) (hr : 0 < r ∧ r < 100) (hn : 2 ≤ n ∧ n ≤ 256) : ∃ a b c d, Led x y r n a b c d := by
  have e1 := sqb hx
  have e2 := sqb hy
  have g0 := s4b (s := x * x + y * y) (n := n) (by omega) (by omega) (by omega) (by omega)
  have gq := qb g0.1 g0.2
  obtain ⟨r0, r1, r2⟩ := rt_spec g0.1 (by omega)
  have b1 := nm_bounds hx hr hn gq
  have b2 := nm_bounds hy hr hn gq
  have c1 := nm_cross (t := x * (r * (n - 1))) (b := rt ((x * x + y * y) * 1 * n * n) + 1)
  have c2 := nm_cross (t := y * (r * (n - 1))) (b := rt ((x * x + y * y) * 1 * n * n) + 1)
  obtain ⟨k1, k2, k3, k4⟩ := led_math hr.1 hn.1 gq.1 b1.2.1 b2.2.1 c1 c2 r2
  exact ⟨_, _, _, _, b1.1, b1.2, b2.1, b2.2, rfl, rfl, k1, k2, k3, k4⟩
theorem Led.third {x y r n a b c d : Int} (hL : Led x y r n a b c d) (hx : -100 < x ∧ x < 100) (hy : -100 < y ∧ y < 100) (hn : n = 2 ∨ n = 16 ∨ n = 256) (hS : 2 ≤ x * x + y * y) : 8 * (a * a * d * d + c * c * b * b) ≥ r * r * b * b * d * d := by
  have e1 := sqb hx
  have e2 := sqb hy
  have g0 := s4b (s := x * x + y * y) (n := n) (by omega) (by omega) (by omega) (by omega)
  obtain ⟨r0, r1, r2⟩ := rt_spec g0.1 (by omega)
  have c1 := nm_cross (t := x * (r * (n - 1))) (b := rt ((x * x + y * y) * 1 * n * n) + 1)
  have c2 := nm_cross (t := y * (r * (n - 1))) (b := rt ((x * x + y * y) * 1 * n * n) + 1)
  rw [hL.ea] at c1
  rw [hL.ec] at c2
  exact led_third r0 c1 c2 (root_third hS hn r0 r1)
theorem led_root {x y n l : Int} (hx : -100 < x ∧ x < 100) (hy : -100 < y ∧ y < 100) (hn : 2 ≤ n ∧ n ≤ 256) (hl : 0 ≤ l) (e : x * x + y * y = l * l) : rt ((x * x + y * y) * 1 * n * n) = n * l := by
  have e1 := sqb hx
  have e2 := sqb hy
  have g0 := s4b (s := x * x + y * y) (n := n) (by omega) (by omega) (by omega) (by omega)
  have h0 : 0 ≤ n * l := Int.mul_nonneg (by omega) hl
  have e3 : (x * x + y * y) * 1 * n * n = n * l * (n * l) := by
    rw [e]
    grind
  refine (rt_one g0.1 (by omega) h0 (by omega) ?_).symm
  have e4 : (n * l + 1) * (n * l + 1) = n * l * (n * l) + 2 * (n * l) + 1 := by grind
  omega
theorem reg2901 : True := by
  k_with "call ref" => ((k_here; (with_reducible show wpAny _ _ (call (Value.ref 202) _) _ _ _); k_dflt (refine Pass.useRo (by k_extra "u") (by k_extra "p4") (focus_out' (by k_extra "q") (by k_extra "q") (by k_extra "q") (by k_extra "q") (by k_extra "q") (by k_extra "q") (by k_extra "q")) (by k_extra "r") ?_; k_whole); k_extra "eRo"))
  trivial
set_option maxRecDepth 100000 in
set_option maxHeartbeats 8000000 in
theorem led_none {w mean mg mb news} {x y r n : Int} {tx ty tr tn : Tok} (hx : -100 < x ∧ x < 100) (hy : -100 < y ∧ y < 100) (hr : 0 < r ∧ r < 100) (hn : 2 ≤ n ∧ n ≤ 256) (hn' : n = 2 ∨ n = 16 ∨ n = 256) (hS : 2 ≤ x * x + y * y) (hin : r * r ≤ x * x + y * y) :
    Pass w mean mg mb 258 14 [.int x tx, .int y ty, .none, .int r tr, .int n tn] news (fun _ => True) (RB news true) := by
  have e1 := mul_in (a := x) (b := x) (by omega) (by omega)
  have e2 := mul_in (a := y) (b := y) (by omega) (by omega)
  have e3 := mul_in (a := r) (b := r) (by omega) (by omega)
  obtain ⟨a, b, c, d, hL⟩ := led_ex hx hy hr hn
  have hT := hL.third hx hy hn' hS
  obtain ⟨ba, bb, bc, bd, ea, ec, k1, k2, k3, k4⟩ := hL
  have i1 := PySem.intBits_le_64 (k := x) (by omega) (by omega)
  have i2 := PySem.intBits_le_64 (k := y) (by omega) (by omega)
  have i3 := PySem.intBits_le_64 (k := r) (by omega) (by omega)
  have i4 := PySem.intBits_le_64 (k := a) (by omega) (by omega)
  have i5 := PySem.intBits_le_64 (k := b) (by omega) (by omega)
  have i6 := PySem.intBits_le_64 (k := c) (by omega) (by omega)
  have i7 := PySem.intBits_le_64 (k := d) (by omega) (by omega)
  clear ba bb bc bd e1 e2 e3
  unfold Pass
  k_fill
  intro dp un gd cn cs a' ccd cl outer A₀ base h₀ L m s Q E B F X N T hk hpre hdd hu hret
  obtain ⟨hp, gs, dr, tk, os⟩ := s
  dsimp only at F N
  refine wpAny_call ?_
  k_dflt ktr_enter
  k_steps
  all_goals first | exact absurd k1 (by with_reducible assumption) | exact retB hret (by k_asm) (by k_asm) (by kcj_all) (decide_eq_true hT)
theorem words30 : True := by
  k_with_none
  k_with "q" => (first | with_reducible assumption | omega)
  k_with "p0" => (exact trivial)
  k_with "p1" => (walk_at "tup")
  k_with "p2" => (exact ⟨by walk_at "tup", by walk_at "tup"⟩)
  k_with "u" => (exact ⟨by k_asm, by k_asm, by k_asm, by k_asm, by k_asm, by first | exact rfl | assumption⟩)
  k_with "r" => (first | exact room_in (by with_reducible assumption) (by with_reducible assumption) rfl rfl rfl | exact ⟨by ktr_room, by ktr_units⟩)
  k_with "e" => (((try k_sweep); (try dsimp only); (try k_fold)))
  k_with "e2" => ((intro D9 t9 u9 h' tk9 F' N' l1; (try k_lt l1); k_extra "e"))
  k_with "eI" => ((intro t9 h' tk9 F' N'; k_extra "e"))
  k_with "eB" => ((intro h' tk9 F' N'; k_extra "e"))
  k_with "eN" => ((intro h' tk9 F' N'; k_extra "e"))
  k_with "eO" => ((intro D9 h' tk9 F' N' T9 T9b; k_extra "e"))
  k_with "forget" => ((k_here; (with_reducible show wpAny _ _ _ _ _ (Shared.mk _ _ _ (_ + 1) _)); (first | k_dflt (refine forget (by with_reducible assumption) (by with_reducible assumption) (by with_reducible assumption) (by with_reducible assumption) (by rfl) (by rfl) (by rfl) (by rfl) ?_) | with_reducible refine forget_tk ?_); intro tk9))
  k_with "execs cons" => (k_extra "forget")
  k_with "execs nil" => (k_extra "forget")
  k_with "call ref" => ((k_here; (with_reducible show wpAny _ _ (call (Value.ref 67) _) _ _ _); k_dflt (refine Pass.useI (by k_extra "u") (by k_extra "p0") (cd_pass (by k_extra "q")) (by k_extra "r") ?_; k_whole); k_extra "eI"))
  k_with "subscriptTail Name Constant ref int" => ((k_here; k_dflt (refine tin (by k_asm) (by k_asm) (by walk_at "tup") (by rfl) ?_; k_whole); intro t9))
  k_with "call ref" => ((k_here; (with_reducible show wpAny _ _ (call (Value.ref 75) _) _ _ _); k_dflt (refine Pass.use2 (by k_extra "u") (by k_extra "p0") (fr_pass (by k_extra "q") (by k_extra "q")) (by k_extra "r") ?_; k_whole); k_extra "e2"))
  k_with "evi" => ((first | with_reducible exact EvI.lit | ((with_reducible show EvI _ (PySem.Expr.Subscript _ _ _) _); k_dflt (exact EvI.item (by exact rfl) (by exact rfl) (by exact rfl) (by exact rfl) (by walk_at "tup") (by exact rfl))) | ((with_reducible show EvI _ (PySem.Expr.Name _ _) _); k_dflt (exact EvI.name (by exact rfl) (by exact rfl) (by exact rfl) (by exact rfl))) | ((with_reducible show EvI _ (PySem.Expr.BinOp _ Operator.Mult _ _) _); with_reducible exact EvI.mul (by k_extra "evi") (by k_extra "evi") (by k_dflt mul_fits)) | ((with_reducible show EvI _ (PySem.Expr.BinOp _ Operator.Add _ _) _); with_reducible exact EvI.add (by k_extra "evi") (by k_extra "evi")) | ((with_reducible show EvI _ (PySem.Expr.BinOp _ Operator.Sub _ _) _); with_reducible exact EvI.sub (by k_extra "evi") (by k_extra "evi"))))
  k_with "eval BinOp" => ((k_here; k_dflt (refine evi_use (by k_asm) (by k_asm) (by k_extra "evi") ?_; k_whole); intro t9 tk9; (try dsimp only)))
  k_with "call ref" => ((k_here; (with_reducible show wpAny _ _ (call (Value.ref 110) _) _ _ _); k_dflt (refine Pass.useI (by k_extra "u") (by k_extra "p1") (sign_pass) (by k_extra "r") ?_; k_whole); k_extra "eI"))
  k_with "call ref" => ((k_here; (with_reducible show wpAny _ _ (call (Value.ref 89) _) _ _ _); k_dflt (refine Pass.use2 (by k_extra "u") (by k_extra "p2") (minus_pass (by k_extra "q") (by k_extra "q") (by k_extra "q") (by k_extra "q") (by k_extra "q") (by k_extra "q")) (by k_extra "r") ?_; k_whole); k_extra "e2"))
  k_with "call ref" => ((k_here; (with_reducible show wpAny _ _ (call (Value.ref 117) _) _ _ _); k_dflt (refine Pass.useI (by k_extra "u") (by k_extra "p2") (compare_pass (by k_extra "q") (by k_extra "q") (by k_extra "q") (by k_extra "q") (by k_extra "q") (by k_extra "q")) (by k_extra "r") ?_; k_whole); k_extra "eI"))
  k_with "call ref" => ((k_here; (with_reducible show wpAny _ _ (call (Value.ref 124) _) _ _ _); k_dflt (refine Pass.useI (by k_extra "u") (by k_extra "p1") (floor_pass (by k_extra "q") (by k_extra "q") (by k_extra "q")) (by k_extra "r") ?_; k_whole); k_extra "eI"))
  k_with "tup" => (first | ((with_reducible show TupIn _ _ 59 _ _); exact zero_in (by k_asm)) | ((with_reducible show TupIn _ _ 60 _ _); exact one_in (by k_asm)))
  k_with "compareOp NotIn str ref" => ((k_here; k_dflt (first | refine kind_in (by k_asm) (by k_asm) (by decide +kernel) ?_ | refine kind_out (by k_asm) (by k_asm) (by decide +kernel) ?_)))
  k_with "call ref" => ((k_here; (with_reducible show wpAny _ _ (call (Value.ref 75) _) _ _ _); k_dflt (refine Pass.use2 (by k_extra "u") (by k_extra "p0") (fr1_pass) (by k_extra "r") ?_; k_whole); k_extra "e2"))
  k_with "call ref" => ((k_here; (with_reducible show wpAny _ _ (call (Value.ref 167) _) _ _ _); k_dflt (refine Pass.useO (by k_extra "u") (by k_extra "p1") (padded_pass (by k_extra "q") (by k_extra "q") (by k_extra "q")) (by k_extra "r") ?_; k_whole); k_extra "eO"))
  k_with "call ref" => ((k_here; (with_reducible show wpAny _ _ (call (Value.ref 146) _) _ _ _); k_dflt (refine Pass.useN (by k_extra "u") (by k_extra "p0") (check_pad) (by k_extra "r") ?_; k_whole); k_extra "eN"))
  k_with "call ref" => ((k_here; (with_reducible show wpAny _ _ (call (Value.ref 146) _) _ _ _); k_dflt (refine Pass.useN (by k_extra "u") (by k_extra "p0") (check_repeat) (by k_extra "r") ?_; k_whole); k_extra "eN"))
  k_with "call ref" => ((k_here; (with_reducible show wpAny _ _ (call (Value.ref 146) _) _ _ _); k_dflt (refine Pass.useN (by k_extra "u") (by k_extra "p0") (check_reflect) (by k_extra "r") ?_; k_whole); k_extra "eN"))
  k_with "call ref" => ((k_here; (with_reducible show wpAny _ _ (call (Value.ref 153) _) _ _ _); k_dflt (refine Pass.use2 (by k_extra "u") (by k_extra "p1") (part_pass (by k_extra "q") (by k_extra "q") (by k_extra "q")) (by k_extra "r") ?_; k_whole); k_extra "e2"))
  k_with "call ref" => ((k_here; (with_reducible show wpAny _ _ (call (Value.ref 160) _) _ _ _); k_dflt (refine Pass.use2 (by k_extra "u") (by k_extra "p1") (refl_pass (by k_extra "q") (by k_extra "q") (by k_extra "q")) (by k_extra "r") ?_; k_whole); k_extra "e2"))
  k_with "call ref" => ((k_here; (with_reducible show wpAny _ _ (call (Value.ref 138) _) _ _ _); k_dflt (refine Pass.useI (by k_extra "u") (by k_extra "p0") (root_pass (by k_extra "q") (by k_extra "q")) (by k_extra "r") ?_; k_whole); k_extra "eI"))
  k_with "call ref" => ((k_here; (with_reducible show wpAny _ _ (call (Value.ref 96) _) _ _ _); k_dflt (refine Pass.use2 (by k_extra "u") (by k_extra "p2") (times_e (by k_extra "q") (by k_extra "q") (by k_extra "q")) (by k_extra "r") ?_; k_whole); k_extra "e2"))
  k_with "call ref" => ((k_here; (with_reducible show wpAny _ _ (call (Value.ref 82) _) _ _ _); k_dflt (refine Pass.use2 (by k_extra "u") (by k_extra "p2") (plus_e (by k_extra "q") (by k_extra "q") (by k_extra "q")) (by k_extra "r") ?_; k_whole); k_extra "e2"))
  k_with "call ref" => ((k_here; (with_reducible show wpAny _ _ (call (Value.ref 117) _) _ _ _); k_dflt (refine Pass.useI (by k_extra "u") (by k_extra "p2") (compare_f (by k_extra "q") (by k_extra "q")) (by k_extra "r") ?_; k_whole); k_extra "eI"))
  k_with "call ref" => ((k_here; (with_reducible show wpAny _ _ (call (Value.ref 131) _) _ _ _); k_dflt (refine Pass.useI (by k_extra "u") (by k_extra "p1") (rounded_f (by k_extra "q")) (by k_extra "r") ?_; k_whole); k_extra "eI"))
  k_with "p3" => (exact ⟨by walk_at "tupR", by walk_at "tup", by walk_at "tup"⟩)
  k_with "subscriptTail Name Constant ref int" => ((k_here; k_dflt (refine trin (by k_asm) (by k_asm) (by walk_at "tupR") (by rfl) ?_; k_whole)))
  k_with "call ref" => ((k_here; (with_reducible show wpAny _ _ (call (Value.ref 96) _) _ _ _); k_dflt (refine Pass.use2 (by k_extra "u") (by k_extra "p2") (times1_e (by k_extra "q") (by k_extra "q") (by k_extra "q")) (by k_extra "r") ?_; k_whole); k_extra "e2"))
  k_with "call ref" => ((k_here; (with_reducible show wpAny _ _ (call (Value.ref 82) _) _ _ _); k_dflt (refine Pass.use2 (by k_extra "u") (by k_extra "p2") (plus1_e (by k_extra "q") (by k_extra "q") (by k_extra "q")) (by k_extra "r") ?_; k_whole); k_extra "e2"))
  k_with "ru" => (first | exact room_eq (by with_reducible assumption) rfl rfl | ktr_units)
  k_with "compareOp Eq ref ref" => ((k_here; k_dflt (refine eq_tup (by k_asm) (by k_asm) (by walk_at "tup") (by walk_at "tup") (by k_extra "ru") (by first | with_reducible assumption | exact ⟨rfl, rfl⟩) ?_)))
  k_with "call ref" => ((k_here; (with_reducible show wpAny _ _ (call (Value.ref 188) _) _ _ _); k_dflt (refine Pass.use2 (by k_extra "u") (by k_extra "p3") (product_e (by k_extra "q") (by k_extra "q") (by k_extra "q") (by k_extra "q") (by k_extra "q") (by k_extra "q") (by k_extra "q")) (by k_extra "r") ?_; k_whole); k_extra "e2"))
  k_with "call ref" => ((k_here; (with_reducible show wpAny _ _ (call (Value.ref 195) _) _ _ _); k_dflt (refine Pass.use2 (by k_extra "u") (by k_extra "p1") (rootof_e (by k_extra "q") (by k_extra "q")) (by k_extra "r") ?_; k_whole); k_extra "e2"))
  k_with "call ref" => ((k_here; (with_reducible show wpAny _ _ (call (Value.ref 75) _) _ _ _); k_dflt (refine Pass.use2 (by k_extra "u") (by k_extra "p0") (fr_e (by k_extra "q") (by k_extra "q") (by k_extra "q")) (by k_extra "r") ?_; k_whole); k_extra "e2"))
  k_with "call ref" => ((k_here; (with_reducible show wpAny _ _ (call (Value.ref 103) _) _ _ _); k_dflt (refine Pass.use2 (by k_extra "u") (by k_extra "p2") (divided_e (by k_extra "q") (by k_extra "q") (by k_extra "q") (by k_extra "q")) (by k_extra "r") ?_; k_whole); k_extra "e2"))
  k_with "rf" => (first | with_reducible exact rfl | with_reducible assumption)
  k_with "p4" => (exact ⟨by walk_at "tupR", by walk_at "tup", by walk_at "tup", by walk_at "tup"⟩)
  k_with "eRf" => (k_extra "eB")
  k_with "eRo" => ((intro D9 p9 q9 t9 u9 t8 u8 h' tk9 F' N'; k_extra "e"))
  k_with "compareOp Eq ref ref" => ((k_here; k_dflt (refine eq_tupR (by k_asm) (by k_asm) (by walk_at "tupR") (by walk_at "tup") (by walk_at "tup") (by walk_at "tupR") (by walk_at "tup") (by walk_at "tup") (by k_extra "ru") (by k_extra "rf") (by k_extra "rf") (by k_extra "rf") (by k_extra "rf") ?_)))
  k_with "call ref" => ((k_here; (with_reducible show wpAny _ _ (call (Value.ref 202) _) _ _ _); k_dflt (refine Pass.useRo (by k_extra "u") (by k_extra "p4") (focus_out' (by k_extra "q") (by k_extra "q") (by k_extra "q") (by k_extra "q") (by k_extra "q") (by k_extra "q") (by k_extra "q")) (by k_extra "r") ?_; k_whole); k_extra "eRo"))
  trivial
set_option maxRecDepth 100000 in
set_option maxHeartbeats 8000000 in
theorem led_some {w mean mg mb news} {x y l r n : Int} {tx ty tl tr tn : Tok} (hx : -100 < x ∧ x < 100) (hy : -100 < y ∧ y < 100) (hr : 0 < r ∧ r < 100) (hn : 2 ≤ n ∧ n ≤ 256) (hl : 0 ≤ l ∧ l < 1000) (hS : x * x + y * y = l * l) (hin : r * r ≤ x * x + y * y) :
    Pass w mean mg mb 258 14 [.int x tx, .int y ty, .int l tl, .int r tr, .int n tn] news (fun _ => True) (RB news true) := by
  have e1 := mul_in (a := x) (b := x) (by omega) (by omega)
  have e2 := mul_in (a := y) (b := y) (by omega) (by omega)
  have e3 := mul_in (a := r) (b := r) (by omega) (by omega)
  have e4 := mulb (a := r) (b := n - 1) (A := 99) (B := 255) (by omega) (by omega) (by omega) (by omega)
  have e5 := mulb (a := n) (b := l) (A := 256) (B := 999) (by omega) (by omega) (by omega) (by omega)
  obtain ⟨a, b, c, d, hL⟩ := led_ex hx hy hr hn
  obtain ⟨ba, bb, bc, bd, ea, ec, k1, k2, k3, k4⟩ := hL
  have hR := led_root hx hy hn hl.1 hS
  have ea' := ea
  have ec' := ec
  rw [hR] at ea' ec'
  have i1 := PySem.intBits_le_64 (k := x) (by omega) (by omega)
  have i2 := PySem.intBits_le_64 (k := y) (by omega) (by omega)
  have i3 := PySem.intBits_le_64 (k := r) (by omega) (by omega)
  have i4 := PySem.intBits_le_64 (k := a) (by omega) (by omega)
  have i5 := PySem.intBits_le_64 (k := b) (by omega) (by omega)
  have i6 := PySem.intBits_le_64 (k := c) (by omega) (by omega)
  have i7 := PySem.intBits_le_64 (k := d) (by omega) (by omega)
  have i8 := PySem.intBits_le_64 (k := n) (by omega) (by omega)
  have hq : 0 < n * l + 1 := by omega
  have w1 := nm_mul_nm (x := x) (z := r * (n - 1)) hq
  have w2 := nm_mul_nm (x := y) (z := r * (n - 1)) hq
  rcases eg : nm (r * (n - 1)) (n * l + 1) with ⟨g1, g2⟩
  rw [eg] at w1 w2
  have w3 := w1.trans ea'
  have w4 := w2.trans ec'
  have fg := (box_e (T := 25245) (B := 300000) eg e4.1 (by omega) hq (by omega)).fb (by decide) (by decide)
  have fx := fb_small hx
  have fy := fb_small hy
  have q1 : n * l + 1 < 1000000000000000000000000000000 := by omega
  clear w1 w2
  clear ea' ec' hR
  unfold Pass
  k_fill
  intro dp un gd cn cs a' ccd cl outer A₀ base h₀ L m s Q E B F X N T hk hpre hdd hu hret
  obtain ⟨hp, gs, dr, tk, os⟩ := s
  dsimp only at F N
  refine wpAny_call ?_
  k_dflt ktr_enter
  k_steps
  all_goals first | exact absurd k1 (by with_reducible assumption) | exact retB hret (by k_asm) (by k_asm) (by kcj_all) rfl
theorem words31 : True := by
  k_with_none
  k_with "q" => (first | with_reducible assumption | omega)
  k_with "p0" => (exact trivial)
  k_with "p1" => (walk_at "tup")
  k_with "p2" => (exact ⟨by walk_at "tup", by walk_at "tup"⟩)
  k_with "u" => (exact ⟨by k_asm, by k_asm, by k_asm, by k_asm, by k_asm, by first | exact rfl | assumption⟩)
  k_with "r" => (first | exact room_in (by with_reducible assumption) (by with_reducible assumption) rfl rfl rfl | exact ⟨by ktr_room, by ktr_units⟩)
  k_with "e" => (((try k_sweep); (try dsimp only); (try k_fold)))
  k_with "e2" => ((intro D9 t9 u9 h' tk9 F' N' l1; (try k_lt l1); k_extra "e"))
  k_with "eI" => ((intro t9 h' tk9 F' N'; k_extra "e"))
  k_with "eB" => ((intro h' tk9 F' N'; k_extra "e"))
  k_with "eN" => ((intro h' tk9 F' N'; k_extra "e"))
  k_with "eO" => ((intro D9 h' tk9 F' N' T9 T9b; k_extra "e"))
  k_with "forget" => ((k_here; (with_reducible show wpAny _ _ _ _ _ (Shared.mk _ _ _ (_ + 1) _)); (first | k_dflt (refine forget (by with_reducible assumption) (by with_reducible assumption) (by with_reducible assumption) (by with_reducible assumption) (by rfl) (by rfl) (by rfl) (by rfl) ?_) | with_reducible refine forget_tk ?_); intro tk9))
  k_with "execs cons" => (k_extra "forget")
  k_with "execs nil" => (k_extra "forget")
  k_with "call ref" => ((k_here; (with_reducible show wpAny _ _ (call (Value.ref 67) _) _ _ _); k_dflt (refine Pass.useI (by k_extra "u") (by k_extra "p0") (cd_pass (by k_extra "q")) (by k_extra "r") ?_; k_whole); k_extra "eI"))
  k_with "subscriptTail Name Constant ref int" => ((k_here; k_dflt (refine tin (by k_asm) (by k_asm) (by walk_at "tup") (by rfl) ?_; k_whole); intro t9))
  k_with "call ref" => ((k_here; (with_reducible show wpAny _ _ (call (Value.ref 75) _) _ _ _); k_dflt (refine Pass.use2 (by k_extra "u") (by k_extra "p0") (fr_pass (by k_extra "q") (by k_extra "q")) (by k_extra "r") ?_; k_whole); k_extra "e2"))
  k_with "evi" => ((first | with_reducible exact EvI.lit | ((with_reducible show EvI _ (PySem.Expr.Subscript _ _ _) _); k_dflt (exact EvI.item (by exact rfl) (by exact rfl) (by exact rfl) (by exact rfl) (by walk_at "tup") (by exact rfl))) | ((with_reducible show EvI _ (PySem.Expr.Name _ _) _); k_dflt (exact EvI.name (by exact rfl) (by exact rfl) (by exact rfl) (by exact rfl))) | ((with_reducible show EvI _ (PySem.Expr.BinOp _ Operator.Mult _ _) _); with_reducible exact EvI.mul (by k_extra "evi") (by k_extra "evi") (by k_dflt mul_fits)) | ((with_reducible show EvI _ (PySem.Expr.BinOp _ Operator.Add _ _) _); with_reducible exact EvI.add (by k_extra "evi") (by k_extra "evi")) | ((with_reducible show EvI _ (PySem.Expr.BinOp _ Operator.Sub _ _) _); with_reducible exact EvI.sub (by k_extra "evi") (by k_extra "evi"))))
  k_with "eval BinOp" => ((k_here; k_dflt (refine evi_use (by k_asm) (by k_asm) (by k_extra "evi") ?_; k_whole); intro t9 tk9; (try dsimp only)))
  k_with "call ref" => ((k_here; (with_reducible show wpAny _ _ (call (Value.ref 110) _) _ _ _); k_dflt (refine Pass.useI (by k_extra "u") (by k_extra "p1") (sign_pass) (by k_extra "r") ?_; k_whole); k_extra "eI"))
  k_with "call ref" => ((k_here; (with_reducible show wpAny _ _ (call (Value.ref 89) _) _ _ _); k_dflt (refine Pass.use2 (by k_extra "u") (by k_extra "p2") (minus_pass (by k_extra "q") (by k_extra "q") (by k_extra "q") (by k_extra "q") (by k_extra "q") (by k_extra "q")) (by k_extra "r") ?_; k_whole); k_extra "e2"))
  k_with "call ref" => ((k_here; (with_reducible show wpAny _ _ (call (Value.ref 117) _) _ _ _); k_dflt (refine Pass.useI (by k_extra "u") (by k_extra "p2") (compare_pass (by k_extra "q") (by k_extra "q") (by k_extra "q") (by k_extra "q") (by k_extra "q") (by k_extra "q")) (by k_extra "r") ?_; k_whole); k_extra "eI"))
  k_with "call ref" => ((k_here; (with_reducible show wpAny _ _ (call (Value.ref 124) _) _ _ _); k_dflt (refine Pass.useI (by k_extra "u") (by k_extra "p1") (floor_pass (by k_extra "q") (by k_extra "q") (by k_extra "q")) (by k_extra "r") ?_; k_whole); k_extra "eI"))
  k_with "tup" => (first | ((with_reducible show TupIn _ _ 59 _ _); exact zero_in (by k_asm)) | ((with_reducible show TupIn _ _ 60 _ _); exact one_in (by k_asm)))
  k_with "compareOp NotIn str ref" => ((k_here; k_dflt (first | refine kind_in (by k_asm) (by k_asm) (by decide +kernel) ?_ | refine kind_out (by k_asm) (by k_asm) (by decide +kernel) ?_)))
  k_with "call ref" => ((k_here; (with_reducible show wpAny _ _ (call (Value.ref 75) _) _ _ _); k_dflt (refine Pass.use2 (by k_extra "u") (by k_extra "p0") (fr1_pass) (by k_extra "r") ?_; k_whole); k_extra "e2"))
  k_with "call ref" => ((k_here; (with_reducible show wpAny _ _ (call (Value.ref 167) _) _ _ _); k_dflt (refine Pass.useO (by k_extra "u") (by k_extra "p1") (padded_pass (by k_extra "q") (by k_extra "q") (by k_extra "q")) (by k_extra "r") ?_; k_whole); k_extra "eO"))
  k_with "call ref" => ((k_here; (with_reducible show wpAny _ _ (call (Value.ref 146) _) _ _ _); k_dflt (refine Pass.useN (by k_extra "u") (by k_extra "p0") (check_pad) (by k_extra "r") ?_; k_whole); k_extra "eN"))
  k_with "call ref" => ((k_here; (with_reducible show wpAny _ _ (call (Value.ref 146) _) _ _ _); k_dflt (refine Pass.useN (by k_extra "u") (by k_extra "p0") (check_repeat) (by k_extra "r") ?_; k_whole); k_extra "eN"))
  k_with "call ref" => ((k_here; (with_reducible show wpAny _ _ (call (Value.ref 146) _) _ _ _); k_dflt (refine Pass.useN (by k_extra "u") (by k_extra "p0") (check_reflect) (by k_extra "r") ?_; k_whole); k_extra "eN"))
  k_with "call ref" => ((k_here; (with_reducible show wpAny _ _ (call (Value.ref 153) _) _ _ _); k_dflt (refine Pass.use2 (by k_extra "u") (by k_extra "p1") (part_pass (by k_extra "q") (by k_extra "q") (by k_extra "q")) (by k_extra "r") ?_; k_whole); k_extra "e2"))
  k_with "call ref" => ((k_here; (with_reducible show wpAny _ _ (call (Value.ref 160) _) _ _ _); k_dflt (refine Pass.use2 (by k_extra "u") (by k_extra "p1") (refl_pass (by k_extra "q") (by k_extra "q") (by k_extra "q")) (by k_extra "r") ?_; k_whole); k_extra "e2"))
  k_with "call ref" => ((k_here; (with_reducible show wpAny _ _ (call (Value.ref 138) _) _ _ _); k_dflt (refine Pass.useI (by k_extra "u") (by k_extra "p0") (root_pass (by k_extra "q") (by k_extra "q")) (by k_extra "r") ?_; k_whole); k_extra "eI"))
  k_with "call ref" => ((k_here; (with_reducible show wpAny _ _ (call (Value.ref 96) _) _ _ _); k_dflt (refine Pass.use2 (by k_extra "u") (by k_extra "p2") (times_e (by k_extra "q") (by k_extra "q") (by k_extra "q")) (by k_extra "r") ?_; k_whole); k_extra "e2"))
  k_with "call ref" => ((k_here; (with_reducible show wpAny _ _ (call (Value.ref 82) _) _ _ _); k_dflt (refine Pass.use2 (by k_extra "u") (by k_extra "p2") (plus_e (by k_extra "q") (by k_extra "q") (by k_extra "q")) (by k_extra "r") ?_; k_whole); k_extra "e2"))
  k_with "call ref" => ((k_here; (with_reducible show wpAny _ _ (call (Value.ref 117) _) _ _ _); k_dflt (refine Pass.useI (by k_extra "u") (by k_extra "p2") (compare_f (by k_extra "q") (by k_extra "q")) (by k_extra "r") ?_; k_whole); k_extra "eI"))
  k_with "call ref" => ((k_here; (with_reducible show wpAny _ _ (call (Value.ref 131) _) _ _ _); k_dflt (refine Pass.useI (by k_extra "u") (by k_extra "p1") (rounded_f (by k_extra "q")) (by k_extra "r") ?_; k_whole); k_extra "eI"))
  k_with "p3" => (exact ⟨by walk_at "tupR", by walk_at "tup", by walk_at "tup"⟩)
  k_with "subscriptTail Name Constant ref int" => ((k_here; k_dflt (refine trin (by k_asm) (by k_asm) (by walk_at "tupR") (by rfl) ?_; k_whole)))
  k_with "call ref" => ((k_here; (with_reducible show wpAny _ _ (call (Value.ref 96) _) _ _ _); k_dflt (refine Pass.use2 (by k_extra "u") (by k_extra "p2") (times1_e (by k_extra "q") (by k_extra "q") (by k_extra "q")) (by k_extra "r") ?_; k_whole); k_extra "e2"))
  k_with "call ref" => ((k_here; (with_reducible show wpAny _ _ (call (Value.ref 82) _) _ _ _); k_dflt (refine Pass.use2 (by k_extra "u") (by k_extra "p2") (plus1_e (by k_extra "q") (by k_extra "q") (by k_extra "q")) (by k_extra "r") ?_; k_whole); k_extra "e2"))
  k_with "call ref" => ((k_here; (with_reducible show wpAny _ _ (call (Value.ref 188) _) _ _ _); k_dflt (refine Pass.use2 (by k_extra "u") (by k_extra "p3") (product_e (by k_extra "q") (by k_extra "q") (by k_extra "q") (by k_extra "q") (by k_extra "q") (by k_extra "q") (by k_extra "q")) (by k_extra "r") ?_; k_whole); k_extra "e2"))
  k_with "call ref" => ((k_here; (with_reducible show wpAny _ _ (call (Value.ref 195) _) _ _ _); k_dflt (refine Pass.use2 (by k_extra "u") (by k_extra "p1") (rootof_e (by k_extra "q") (by k_extra "q")) (by k_extra "r") ?_; k_whole); k_extra "e2"))
  k_with "call ref" => ((k_here; (with_reducible show wpAny _ _ (call (Value.ref 75) _) _ _ _); k_dflt (refine Pass.use2 (by k_extra "u") (by k_extra "p0") (fr_e (by k_extra "q") (by k_extra "q") (by k_extra "q")) (by k_extra "r") ?_; k_whole); k_extra "e2"))
  k_with "call ref" => ((k_here; (with_reducible show wpAny _ _ (call (Value.ref 103) _) _ _ _); k_dflt (refine Pass.use2 (by k_extra "u") (by k_extra "p2") (divided_e (by k_extra "q") (by k_extra "q") (by k_extra "q") (by k_extra "q")) (by k_extra "r") ?_; k_whole); k_extra "e2"))
  trivial
/-! the law's own reckoning of the place agrees -/
theorem nm_ex {t b : Int} (hb : 0 < b) : ∃ g, 0 < g ∧ t = (nm t b).1 * g ∧ b = (nm t b).2 * g := by
  refine ⟨Int.gcd t b, nm_gcd hb, ?_, ?_⟩
  · exact (Int.ediv_mul_cancel (Int.gcd_dvd_left ..)).symm
  · exact (Int.ediv_mul_cancel (Int.gcd_dvd_right ..)).symm
theorem nm_zero {b : Int} (hb : 0 < b) : nm 0 b = (0, 1) := by
  have := nm_scale (t := 0) (b := 1) hb
  rw [Int.zero_mul, Int.one_mul] at this
  rw [this, nm_one]
theorem nm_full {b : Int} (hb : 0 < b) : nm b b = (1, 1) := by
  have := nm_scale (t := 1) (b := 1) hb
  rw [Int.one_mul] at this
  rw [this, nm_one]
theorem neg_mul_pos {u g : Int} (hg : 0 < g) : u * g < 0 ↔ u < 0 := by
  constructor
  · intro h
    false_or_by_contra
    have := Int.mul_nonneg (a := u) (b := g) (by omega) (by omega)
    omega
  · intro h
    exact Int.mul_neg_of_neg_of_pos h hg
theorem lt_mul_pos {u v g : Int} (hg : 0 < g) : u * g < v * g ↔ u < v :=
  ⟨fun h => Int.lt_of_mul_lt_mul_right h (Int.le_of_lt hg), fun h => Int.mul_lt_mul_of_pos_right h hg⟩
theorem pad_like {t b : Int} (hb : 0 < b) : padF (nm t b).1 (nm t b).2 = nm (min (max t 0) b) b := by
  obtain ⟨g, hg, e1, e2⟩ := nm_ex (t := t) hb
  unfold padF
  split
  · rename_i h
    have : t < 0 := by rw [e1]; exact (neg_mul_pos hg).mpr h
    rw [show min (max t 0) b = 0 by omega, nm_zero hb]
  · rename_i h
    have h0 : ¬ t < 0 := by rw [e1]; exact fun k => h ((neg_mul_pos hg).mp k)
    split
    · rename_i h'
      have : b < t := by
        have := (lt_mul_pos (v := (nm t b).1) hg).mpr h'
        omega
      rw [show min (max t 0) b = b by omega, nm_full hb]
    · rename_i h'
      have : ¬ b < t := fun k => h' ((lt_mul_pos hg).mp (by omega))
      rw [show min (max t 0) b = t by omega]
theorem rep_like {t b : Int} (hb : 0 < b) : nm ((nm t b).1 % (nm t b).2) (nm t b).2 = nm (t % b) b := by
  obtain ⟨g, hg, e1, e2⟩ := nm_ex (t := t) hb
  generalize nm t b = z at *
  obtain ⟨u, v⟩ := z
  dsimp only at *
  subst e1 e2
  rw [Int.mul_comm u, Int.mul_comm v, Int.mul_emod_mul_of_pos _ _ hg, Int.mul_comm g, Int.mul_comm g, nm_scale hg]
theorem tw_scale {u v g : Int} (hg : 0 < g) : twF (u * g) (v * g) = twF u v * g := by
  have e : (u * g) % (2 * (v * g)) = (u % (2 * v)) * g := by
    rw [Int.mul_comm u, Int.mul_comm v, Int.mul_left_comm, Int.mul_emod_mul_of_pos _ _ hg, Int.mul_comm]
  unfold twF
  rw [e]
  generalize u % (2 * v) = r
  have : r * g ≤ v * g ↔ r ≤ v := ⟨fun h => Int.le_of_mul_le_mul_right h hg, fun h => Int.mul_le_mul_of_nonneg_right h (Int.le_of_lt hg)⟩
  by_cases h : r ≤ v
  · rw [if_pos h, if_pos (this.mpr h)]
  · rw [if_neg h, if_neg (fun k => h (this.mp k)), Int.sub_mul, Int.mul_assoc]
theorem refl_tw {u v : Int} (hv : 0 < v) : reflF u v = nm (twF u v) v := by
  have hr0 := Int.emod_nonneg u (b := v) (by omega)
  have hr1 := Int.emod_lt_of_pos u hv
  have hk := Int.emod_add_mul_ediv u v
  unfold reflF twF
  generalize u / v = k at *
  generalize u % v = r at *
  split
  · rename_i h
    have hj : k = 2 * (k / 2) := by omega
    have e : u % (2 * v) = r := by
      have : u = r + 2 * v * (k / 2) := by rw [← hk]; conv => lhs; rw [hj]
                                           grind
      rw [this, Int.add_mul_emod_self_left]
      exact Int.emod_eq_of_lt hr0 (by omega)
    rw [e, if_pos (by omega)]
  · rename_i h
    have hj : k = 2 * (k / 2) + 1 := by omega
    have e : u % (2 * v) = v + r := by
      have : u = (v + r) + 2 * v * (k / 2) := by rw [← hk]; conv => lhs; rw [hj]
                                                 grind
      rw [this, Int.add_mul_emod_self_left]
      exact Int.emod_eq_of_lt (by omega) (by omega)
    have c := nm_cross (t := r) (b := v)
    have p := nm2_pos (t := r) (b := v) hv
    rw [e]
    generalize (nm r v).1 = x at *
    generalize (nm r v).2 = y at *
    have ee : ∀ z, (z = v - r) → nm (1 * y - x * 1) (1 * y) = nm z v := by
      intro z hz
      subst hz
      refine nm_same (by omega) hv ?_
      rw [Int.one_mul, Int.mul_one, Int.sub_mul, Int.sub_mul, c, Int.mul_comm y v]
    split
    · exact ee _ (by omega)
    · exact ee _ (by omega)
theorem refl_like {t b : Int} (hb : 0 < b) : reflF (nm t b).1 (nm t b).2 = nm (twF t b) b := by
  obtain ⟨g, hg, e1, e2⟩ := nm_ex (t := t) hb
  have hv := nm2_pos (t := t) hb
  rw [refl_tw hv]
  generalize nm t b = z at *
  obtain ⟨u, v⟩ := z
  dsimp only at *
  subst e1 e2
  rw [tw_scale hg, nm_scale hg]
theorem bet_law {one other s u1 v1 u2 v2 x y : Int} (p : 0 < y) (c : x * 8 = s * y) (e1 : nm ((other - one) * x) (1 * y) = (u1, v1)) (e2 : nm (one * v1 + u1 * 1) (1 * v1) = (u2, v2)) : betF u2 v2 = (2 * (8 * one + (other - one) * s) + 8) / 16 := by
  have c1 := nm_cross (t := (other - one) * x) (b := 1 * y)
  have p1 := nm2_pos (t := (other - one) * x) (b := 1 * y) (by omega)
  rw [e1] at c1 p1
  dsimp only at c1 p1
  have c2 := nm_cross (t := one * v1 + u1 * 1) (b := 1 * v1)
  have p2 := nm2_pos (t := one * v1 + u1 * 1) (b := 1 * v1) (by omega)
  rw [e2] at c2 p2
  dsimp only at c2 p2
  have h1 : u1 * 8 = (other - one) * s * v1 := by
    have : (u1 * 8 - (other - one) * s * v1) * y = 0 := by grind
    rcases Int.mul_eq_zero.mp this with h | h
    · omega
    · omega
  have h2 : u2 * 8 = (8 * one + (other - one) * s) * v2 := by
    have : (u2 * 8 - (8 * one + (other - one) * s) * v2) * v1 = 0 := by grind
    rcases Int.mul_eq_zero.mp this with h | h
    · omega
    · omega
  unfold betF
  rw [← Int.mul_ediv_mul_of_pos_left (2 * u2 + v2) (2 * v2) (show (0 : Int) < 8 by decide), show (2 * u2 + v2) * 8 = (2 * (8 * one + (other - one) * s) + 8) * v2 by grind, show 2 * v2 * 8 = 16 * v2 by grind, Int.mul_ediv_mul_of_pos_left _ _ p2]
theorem words32 : True := by
  k_with_none
  k_with "q" => (first | with_reducible assumption | omega)
  k_with "p0" => (exact trivial)
  k_with "p1" => (walk_at "tup")
  k_with "p2" => (exact ⟨by walk_at "tup", by walk_at "tup"⟩)
  k_with "u" => (exact ⟨by k_asm, by k_asm, by k_asm, by k_asm, by k_asm, by first | exact rfl | assumption⟩)
  k_with "r" => (first | exact room_in (by with_reducible assumption) (by with_reducible assumption) rfl rfl rfl | exact ⟨by ktr_room, by ktr_units⟩)
  k_with "e" => (((try k_sweep); (try dsimp only); (try k_fold)))
  k_with "e2" => ((intro D9 t9 u9 h' tk9 F' N' l1; (try k_lt l1); k_extra "e"))
  k_with "eI" => ((intro t9 h' tk9 F' N'; k_extra "e"))
  k_with "eB" => ((intro h' tk9 F' N'; k_extra "e"))
  k_with "eN" => ((intro h' tk9 F' N'; k_extra "e"))
  k_with "eO" => ((intro D9 h' tk9 F' N' T9 T9b; k_extra "e"))
  k_with "forget" => ((k_here; (with_reducible show wpAny _ _ _ _ _ (Shared.mk _ _ _ (_ + 1) _)); (first | k_dflt (refine forget (by with_reducible assumption) (by with_reducible assumption) (by with_reducible assumption) (by with_reducible assumption) (by rfl) (by rfl) (by rfl) (by rfl) ?_) | with_reducible refine forget_tk ?_); intro tk9))
  k_with "execs cons" => (k_extra "forget")
  k_with "execs nil" => (k_extra "forget")
  k_with "call ref" => ((k_here; (with_reducible show wpAny _ _ (call (Value.ref 67) _) _ _ _); k_dflt (refine Pass.useI (by k_extra "u") (by k_extra "p0") (cd_pass (by k_extra "q")) (by k_extra "r") ?_; k_whole); k_extra "eI"))
  k_with "subscriptTail Name Constant ref int" => ((k_here; k_dflt (refine tin (by k_asm) (by k_asm) (by walk_at "tup") (by rfl) ?_; k_whole); intro t9))
  k_with "call ref" => ((k_here; (with_reducible show wpAny _ _ (call (Value.ref 75) _) _ _ _); k_dflt (refine Pass.use2 (by k_extra "u") (by k_extra "p0") (fr_pass (by k_extra "q") (by k_extra "q")) (by k_extra "r") ?_; k_whole); k_extra "e2"))
  k_with "evi" => ((first | with_reducible exact EvI.lit | ((with_reducible show EvI _ (PySem.Expr.Subscript _ _ _) _); k_dflt (exact EvI.item (by exact rfl) (by exact rfl) (by exact rfl) (by exact rfl) (by walk_at "tup") (by exact rfl))) | ((with_reducible show EvI _ (PySem.Expr.Name _ _) _); k_dflt (exact EvI.name (by exact rfl) (by exact rfl) (by exact rfl) (by exact rfl))) | ((with_reducible show EvI _ (PySem.Expr.BinOp _ Operator.Mult _ _) _); with_reducible exact EvI.mul (by k_extra "evi") (by k_extra "evi") (by k_dflt mul_fits)) | ((with_reducible show EvI _ (PySem.Expr.BinOp _ Operator.Add _ _) _); with_reducible exact EvI.add (by k_extra "evi") (by k_extra "evi")) | ((with_reducible show EvI _ (PySem.Expr.BinOp _ Operator.Sub _ _) _); with_reducible exact EvI.sub (by k_extra "evi") (by k_extra "evi"))))
  k_with "eval BinOp" => ((k_here; k_dflt (refine evi_use (by k_asm) (by k_asm) (by k_extra "evi") ?_; k_whole); intro t9 tk9; (try dsimp only)))
  k_with "call ref" => ((k_here; (with_reducible show wpAny _ _ (call (Value.ref 110) _) _ _ _); k_dflt (refine Pass.useI (by k_extra "u") (by k_extra "p1") (sign_pass) (by k_extra "r") ?_; k_whole); k_extra "eI"))
  k_with "call ref" => ((k_here; (with_reducible show wpAny _ _ (call (Value.ref 89) _) _ _ _); k_dflt (refine Pass.use2 (by k_extra "u") (by k_extra "p2") (minus_pass (by k_extra "q") (by k_extra "q") (by k_extra "q") (by k_extra "q") (by k_extra "q") (by k_extra "q")) (by k_extra "r") ?_; k_whole); k_extra "e2"))
  k_with "call ref" => ((k_here; (with_reducible show wpAny _ _ (call (Value.ref 117) _) _ _ _); k_dflt (refine Pass.useI (by k_extra "u") (by k_extra "p2") (compare_pass (by k_extra "q") (by k_extra "q") (by k_extra "q") (by k_extra "q") (by k_extra "q") (by k_extra "q")) (by k_extra "r") ?_; k_whole); k_extra "eI"))
  k_with "call ref" => ((k_here; (with_reducible show wpAny _ _ (call (Value.ref 124) _) _ _ _); k_dflt (refine Pass.useI (by k_extra "u") (by k_extra "p1") (floor_pass (by k_extra "q") (by k_extra "q") (by k_extra "q")) (by k_extra "r") ?_; k_whole); k_extra "eI"))
  k_with "tup" => (first | ((with_reducible show TupIn _ _ 59 _ _); exact zero_in (by k_asm)) | ((with_reducible show TupIn _ _ 60 _ _); exact one_in (by k_asm)))
  k_with "compareOp NotIn str ref" => ((k_here; k_dflt (first | refine kind_in (by k_asm) (by k_asm) (by decide +kernel) ?_ | refine kind_out (by k_asm) (by k_asm) (by decide +kernel) ?_)))
  k_with "call ref" => ((k_here; (with_reducible show wpAny _ _ (call (Value.ref 75) _) _ _ _); k_dflt (refine Pass.use2 (by k_extra "u") (by k_extra "p0") (fr1_pass) (by k_extra "r") ?_; k_whole); k_extra "e2"))
  k_with "call ref" => ((k_here; (with_reducible show wpAny _ _ (call (Value.ref 167) _) _ _ _); k_dflt (refine Pass.useO (by k_extra "u") (by k_extra "p1") (padded_pass (by k_extra "q") (by k_extra "q") (by k_extra "q")) (by k_extra "r") ?_; k_whole); k_extra "eO"))
  k_with "call ref" => ((k_here; (with_reducible show wpAny _ _ (call (Value.ref 146) _) _ _ _); k_dflt (refine Pass.useN (by k_extra "u") (by k_extra "p0") (check_pad) (by k_extra "r") ?_; k_whole); k_extra "eN"))
  k_with "call ref" => ((k_here; (with_reducible show wpAny _ _ (call (Value.ref 146) _) _ _ _); k_dflt (refine Pass.useN (by k_extra "u") (by k_extra "p0") (check_repeat) (by k_extra "r") ?_; k_whole); k_extra "eN"))
  k_with "call ref" => ((k_here; (with_reducible show wpAny _ _ (call (Value.ref 146) _) _ _ _); k_dflt (refine Pass.useN (by k_extra "u") (by k_extra "p0") (check_reflect) (by k_extra "r") ?_; k_whole); k_extra "eN"))
  k_with "call ref" => ((k_here; (with_reducible show wpAny _ _ (call (Value.ref 153) _) _ _ _); k_dflt (refine Pass.use2 (by k_extra "u") (by k_extra "p1") (part_pass (by k_extra "q") (by k_extra "q") (by k_extra "q")) (by k_extra "r") ?_; k_whole); k_extra "e2"))
  k_with "call ref" => ((k_here; (with_reducible show wpAny _ _ (call (Value.ref 160) _) _ _ _); k_dflt (refine Pass.use2 (by k_extra "u") (by k_extra "p1") (refl_pass (by k_extra "q") (by k_extra "q") (by k_extra "q")) (by k_extra "r") ?_; k_whole); k_extra "e2"))
  k_with "subscriptTail Name Constant ref int" => ((k_here; k_dflt (refine lin (by k_asm) (List.Mem.head _) (by rfl) ?_; k_whole); intro t9))
  k_with "eT" => ((intro v9 vt9 x9 t9 y9 u9 h' tk9 b1 b2 b3 b4 b5 F' N'; (try dsimp only at N'); k_extra "e"))
  k_with "call ref" => ((k_here; (with_reducible show wpAny _ _ (call (Value.ref 216) _) _ _ _); k_dflt (refine use_take (by k_extra "u") (by k_updF) (by k_extra "q") (by k_extra "q") (by k_extra "q") (by k_extra "q") (by k_extra "q") (by k_extra "r") ?_; k_whole); k_extra "eT"))
  k_with "call builtin:len" => ((k_here; k_dflt (refine len_in (by k_asm) (List.mem_cons_of_mem _ (by with_reducible assumption)) (by with_reducible assumption) ?_)))
  k_with "subscriptTail Name Call" => ((k_here; k_dflt (refine item_any (by k_asm) (List.mem_cons_of_mem _ (by with_reducible assumption)) (by omega) (by omega) (by omega) ?_; k_whole); intro x8 i8 e8))
  trivial
/-! one of a list, by any frame: what holds of all its items holds of the one -/
theorem updF_all {src : Addr} {o : Obj} {news : List (Addr × Obj)} {g : Obj → List (Addr × Obj)} (U : UpdF src o news g) : ∃ rest, (∀ p ∈ rest, p.1 ≠ src) ∧ (∀ p ∈ (src, o) :: rest, p ∈ news) ∧ (∀ o', ∀ p ∈ g o', p ∈ (src, o') :: rest) ∧ ∀ p ∈ news, p.1 ≠ src → p ∈ rest := by
  obtain ⟨pre, post, rfl, hg, a, b⟩ := U.split
  refine ⟨pre ++ post, fun p hp => (List.mem_append.mp hp).elim (a p) (b p), fun p hp => ?_, fun o' p hp => ?_, fun p hp hn => ?_⟩
  · rcases List.mem_cons.mp hp with rfl | hp
    · exact List.mem_append.mpr (.inr (.head _))
    · exact (List.mem_append.mp hp).elim (fun h => List.mem_append.mpr (.inl h)) fun h => List.mem_append.mpr (.inr (.tail _ h))
  · rw [hg] at hp
    rcases List.mem_append.mp hp with h | h
    · exact .tail _ (List.mem_append.mpr (.inl h))
    · rcases List.mem_cons.mp h with rfl | h
      · exact .head _
      · exact .tail _ (List.mem_append.mpr (.inr h))
  · rcases List.mem_append.mp hp with h | h
    · exact List.mem_append.mpr (.inl h)
    · rcases List.mem_cons.mp h with rfl | h
      · exact absurd rfl hn
      · exact List.mem_append.mpr (.inr h)
section
variable {w : World} {mean : ExcName → Option Value} {mg mb : Str → Option Value} {news : List (Addr × Obj)} {g : Obj → List (Addr × Obj)} {src th : Addr} {x y : Int} {tx ty : Tok} {n k : Nat} {items : List Value}
    {dp un : Nat} {gd : Option (List Code)} {cn : Str} {cs : Scope} {a : Addr} {ccd : Value} {cl : List (Str × Addr)} {outer : List Env} {A₀ : Around} {base h₀ : Heap} {L : Addr} {m : Str → Option Value} {s : Shared} {Q E : Value → Shared → Prop}
theorem use_one (P : Value → Prop) (H : Here w mean mg mb A₀ base outer h₀ L m news s cs)
    (U : UpdF src (lst2 x tx y ty n) news g) (hx : 0 ≤ x) (hy : 0 ≤ y) (hy2 : y < 2147483647) (hm : (th, listOf items.toArray k) ∈ news) (hne : th ≠ src) (hi : 0 < items.length) (hi2 : items.length < 1000) (hP : ∀ v ∈ items, P v)
    (hr : dp + 2 < recursionLimit ∧ un + 8 * 2 < cLine)
    (h : ∀ r x' t' y' u' h' tk', P r → 0 ≤ x' → 0 ≤ y' → y' < 2147483647 → Fr h₀ L h' m → News h₀ L h' (g (lst2 x' t' y' u' n)) → Q r { s with heap := h', toks := tk' }) :
    wpAny (model PySem.Challenge.rw_on0231_01.row.prog w) (ktrTop dp un gd cn cs L a ccd cl outer) (call (.ref 223) [.ref src, .ref th]) Q E s := by
  obtain ⟨rest, h1, h2, h3, h4⟩ := updF_all U
  refine Pass.use H.B H.F H.X (cb_drop H.N h2) H.T H.hk (one_pass hx hy hy2 hi hi2 h1 (h4 _ hm hne)) trivial hr.1 hr.2 fun r news' h' tk' F' N' hR => ?_
  obtain ⟨i, x', t', y', u', e, k2, k3, k4, rfl⟩ := hR
  exact h r x' t' y' u' h' tk' (hP _ (List.mem_of_getElem? e)) k2 k3 k4 F' (cb_drop N' (h3 _))
end
theorem words33 : True := by
  k_with_none
  k_with "q" => (first | with_reducible assumption | omega)
  k_with "p0" => (exact trivial)
  k_with "p1" => (walk_at "tup")
  k_with "p2" => (exact ⟨by walk_at "tup", by walk_at "tup"⟩)
  k_with "u" => (exact ⟨by k_asm, by k_asm, by k_asm, by k_asm, by k_asm, by first | exact rfl | assumption⟩)
  k_with "r" => (first | exact room_in (by with_reducible assumption) (by with_reducible assumption) rfl rfl rfl | exact ⟨by ktr_room, by ktr_units⟩)
  k_with "e" => (((try k_sweep); (try dsimp only); (try k_fold)))
  k_with "e2" => ((intro D9 t9 u9 h' tk9 F' N' l1; (try k_lt l1); k_extra "e"))
  k_with "eI" => ((intro t9 h' tk9 F' N'; k_extra "e"))
  k_with "eB" => ((intro h' tk9 F' N'; k_extra "e"))
  k_with "eN" => ((intro h' tk9 F' N'; k_extra "e"))
  k_with "eO" => ((intro D9 h' tk9 F' N' T9 T9b; k_extra "e"))
  k_with "forget" => ((k_here; (with_reducible show wpAny _ _ _ _ _ (Shared.mk _ _ _ (_ + 1) _)); (first | k_dflt (refine forget (by with_reducible assumption) (by with_reducible assumption) (by with_reducible assumption) (by with_reducible assumption) (by rfl) (by rfl) (by rfl) (by rfl) ?_) | with_reducible refine forget_tk ?_); intro tk9))
  k_with "execs cons" => (k_extra "forget")
  k_with "execs nil" => (k_extra "forget")
  k_with "call ref" => ((k_here; (with_reducible show wpAny _ _ (call (Value.ref 67) _) _ _ _); k_dflt (refine Pass.useI (by k_extra "u") (by k_extra "p0") (cd_pass (by k_extra "q")) (by k_extra "r") ?_; k_whole); k_extra "eI"))
  k_with "subscriptTail Name Constant ref int" => ((k_here; k_dflt (refine tin (by k_asm) (by k_asm) (by walk_at "tup") (by rfl) ?_; k_whole); intro t9))
  k_with "call ref" => ((k_here; (with_reducible show wpAny _ _ (call (Value.ref 75) _) _ _ _); k_dflt (refine Pass.use2 (by k_extra "u") (by k_extra "p0") (fr_pass (by k_extra "q") (by k_extra "q")) (by k_extra "r") ?_; k_whole); k_extra "e2"))
  k_with "evi" => ((first | with_reducible exact EvI.lit | ((with_reducible show EvI _ (PySem.Expr.Subscript _ _ _) _); k_dflt (exact EvI.item (by exact rfl) (by exact rfl) (by exact rfl) (by exact rfl) (by walk_at "tup") (by exact rfl))) | ((with_reducible show EvI _ (PySem.Expr.Name _ _) _); k_dflt (exact EvI.name (by exact rfl) (by exact rfl) (by exact rfl) (by exact rfl))) | ((with_reducible show EvI _ (PySem.Expr.BinOp _ Operator.Mult _ _) _); with_reducible exact EvI.mul (by k_extra "evi") (by k_extra "evi") (by k_dflt mul_fits)) | ((with_reducible show EvI _ (PySem.Expr.BinOp _ Operator.Add _ _) _); with_reducible exact EvI.add (by k_extra "evi") (by k_extra "evi")) | ((with_reducible show EvI _ (PySem.Expr.BinOp _ Operator.Sub _ _) _); with_reducible exact EvI.sub (by k_extra "evi") (by k_extra "evi"))))
  k_with "eval BinOp" => ((k_here; k_dflt (refine evi_use (by k_asm) (by k_asm) (by k_extra "evi") ?_; k_whole); intro t9 tk9; (try dsimp only)))
  k_with "call ref" => ((k_here; (with_reducible show wpAny _ _ (call (Value.ref 110) _) _ _ _); k_dflt (refine Pass.useI (by k_extra "u") (by k_extra "p1") (sign_pass) (by k_extra "r") ?_; k_whole); k_extra "eI"))
  k_with "call ref" => ((k_here; (with_reducible show wpAny _ _ (call (Value.ref 89) _) _ _ _); k_dflt (refine Pass.use2 (by k_extra "u") (by k_extra "p2") (minus_pass (by k_extra "q") (by k_extra "q") (by k_extra "q") (by k_extra "q") (by k_extra "q") (by k_extra "q")) (by k_extra "r") ?_; k_whole); k_extra "e2"))
  k_with "call ref" => ((k_here; (with_reducible show wpAny _ _ (call (Value.ref 117) _) _ _ _); k_dflt (refine Pass.useI (by k_extra "u") (by k_extra "p2") (compare_pass (by k_extra "q") (by k_extra "q") (by k_extra "q") (by k_extra "q") (by k_extra "q") (by k_extra "q")) (by k_extra "r") ?_; k_whole); k_extra "eI"))
  k_with "call ref" => ((k_here; (with_reducible show wpAny _ _ (call (Value.ref 124) _) _ _ _); k_dflt (refine Pass.useI (by k_extra "u") (by k_extra "p1") (floor_pass (by k_extra "q") (by k_extra "q") (by k_extra "q")) (by k_extra "r") ?_; k_whole); k_extra "eI"))
  k_with "tup" => (first | ((with_reducible show TupIn _ _ 59 _ _); exact zero_in (by k_asm)) | ((with_reducible show TupIn _ _ 60 _ _); exact one_in (by k_asm)))
  k_with "compareOp NotIn str ref" => ((k_here; k_dflt (first | refine kind_in (by k_asm) (by k_asm) (by decide +kernel) ?_ | refine kind_out (by k_asm) (by k_asm) (by decide +kernel) ?_)))
  k_with "call ref" => ((k_here; (with_reducible show wpAny _ _ (call (Value.ref 75) _) _ _ _); k_dflt (refine Pass.use2 (by k_extra "u") (by k_extra "p0") (fr1_pass) (by k_extra "r") ?_; k_whole); k_extra "e2"))
  k_with "call ref" => ((k_here; (with_reducible show wpAny _ _ (call (Value.ref 167) _) _ _ _); k_dflt (refine Pass.useO (by k_extra "u") (by k_extra "p1") (padded_pass (by k_extra "q") (by k_extra "q") (by k_extra "q")) (by k_extra "r") ?_; k_whole); k_extra "eO"))
  k_with "call ref" => ((k_here; (with_reducible show wpAny _ _ (call (Value.ref 146) _) _ _ _); k_dflt (refine Pass.useN (by k_extra "u") (by k_extra "p0") (check_pad) (by k_extra "r") ?_; k_whole); k_extra "eN"))
  k_with "call ref" => ((k_here; (with_reducible show wpAny _ _ (call (Value.ref 146) _) _ _ _); k_dflt (refine Pass.useN (by k_extra "u") (by k_extra "p0") (check_repeat) (by k_extra "r") ?_; k_whole); k_extra "eN"))
  k_with "call ref" => ((k_here; (with_reducible show wpAny _ _ (call (Value.ref 146) _) _ _ _); k_dflt (refine Pass.useN (by k_extra "u") (by k_extra "p0") (check_reflect) (by k_extra "r") ?_; k_whole); k_extra "eN"))
  k_with "call ref" => ((k_here; (with_reducible show wpAny _ _ (call (Value.ref 153) _) _ _ _); k_dflt (refine Pass.use2 (by k_extra "u") (by k_extra "p1") (part_pass (by k_extra "q") (by k_extra "q") (by k_extra "q")) (by k_extra "r") ?_; k_whole); k_extra "e2"))
  k_with "call ref" => ((k_here; (with_reducible show wpAny _ _ (call (Value.ref 160) _) _ _ _); k_dflt (refine Pass.use2 (by k_extra "u") (by k_extra "p1") (refl_pass (by k_extra "q") (by k_extra "q") (by k_extra "q")) (by k_extra "r") ?_; k_whole); k_extra "e2"))
  k_with "call ref" => ((k_here; (with_reducible show wpAny _ _ (call (Value.ref 138) _) _ _ _); k_dflt (refine Pass.useI (by k_extra "u") (by k_extra "p0") (root_pass (by k_extra "q") (by k_extra "q")) (by k_extra "r") ?_; k_whole); k_extra "eI"))
  k_with "call ref" => ((k_here; (with_reducible show wpAny _ _ (call (Value.ref 96) _) _ _ _); k_dflt (refine Pass.use2 (by k_extra "u") (by k_extra "p2") (times_e (by k_extra "q") (by k_extra "q") (by k_extra "q")) (by k_extra "r") ?_; k_whole); k_extra "e2"))
  k_with "call ref" => ((k_here; (with_reducible show wpAny _ _ (call (Value.ref 82) _) _ _ _); k_dflt (refine Pass.use2 (by k_extra "u") (by k_extra "p2") (plus_e (by k_extra "q") (by k_extra "q") (by k_extra "q")) (by k_extra "r") ?_; k_whole); k_extra "e2"))
  k_with "call ref" => ((k_here; (with_reducible show wpAny _ _ (call (Value.ref 117) _) _ _ _); k_dflt (refine Pass.useI (by k_extra "u") (by k_extra "p2") (compare_f (by k_extra "q") (by k_extra "q")) (by k_extra "r") ?_; k_whole); k_extra "eI"))
  k_with "call ref" => ((k_here; (with_reducible show wpAny _ _ (call (Value.ref 131) _) _ _ _); k_dflt (refine Pass.useI (by k_extra "u") (by k_extra "p1") (rounded_f (by k_extra "q")) (by k_extra "r") ?_; k_whole); k_extra "eI"))
  k_with "setAttr ref" => ((k_here; k_dflt (refine sx_set (by k_asm) (by exact Frag.In.keeps (by k_asm) (Fr.keep (by k_asm))) (by k_asm) (by assumption) (by exact rfl) (by exact rfl) (by exact rfl) (by exact rfl) (by exact rfl) (by exact rfl) (by exact rfl) (by exact mill_passes) (by exact rfl) ?_; k_whole); intro d9 od9 h' tk9 F' N' l9a l9b; (try dsimp only)))
  k_with "exec Raise some none" => ((k_here; (with_reducible show wpAny _ _ (exec (Stmt.Raise (some (Expr.Call (Expr.Name (Str.ofString "SheetFault") _) _ _ _)) none _) _) _ _ _); k_dflt (refine sheet_raise rfl ?_)))
  k_with "compareOp NotIn none ref" => ((k_here; k_dflt (refine kind_none (by k_asm) (by k_asm) ?_)))
  k_with "SxRaised" => ((k_dflt (refine ⟨_, _, _, _, _, _, _, _, rfl, (by k_asm), (by k_asm), (by k_asm), (by assumption), (by assumption), ?_⟩); (try dsimp only)))
  k_with "leaving ref" => ((k_here; k_dflt (refine sx_leave (by assumption) (by assumption) (by k_asm) (List.Mem.head _) (List.Mem.tail _ (List.Mem.head _)) (by assumption) (by assumption) (by exact rfl) (by exact rfl) (by exact news_off (by assumption) (by assumption)) ?_ (by exact rfl); k_whole); intro h' S' R' U'; (try dsimp only at S' R' U' ⊢)))
  k_with "call ref" => ((k_here; (with_reducible show wpAny _ _ (call (Value.ref 56) [Value.str _ _]) _ _ _); k_dflt (refine use_sheet (by k_asm) (by k_asm) (by k_asm) (by k_asm) (by k_asm) (by first | exact rfl | assumption) (by ktr_room) (by ktr_units) ?_; k_whole); intro e9 t9 oe9 h' tk9 F' N' c9 d9 l1 l2; (try dsimp only); (try k_fold)))
  k_with "call ref" => ((k_here; (with_reducible show wpAny _ _ (call (Value.ref 174) _) _ _ _); k_dflt (refine wpAny_call ?_; walk_at "enterS")))
  k_with "call ref" => ((k_here; (with_reducible show wpAny _ _ (call (Value.ref 146) _) _ _ _); k_dflt (refine wpAny_call ?_; walk_at "enterS")))
  k_with "compareOp NotIn str ref" => ((k_here; k_dflt (refine kind_out (by k_asm) (by k_asm) (by with_reducible assumption) ?_)))
  k_with "binaryOp Add str str" => ((k_here; k_dflt (refine PyProof.Rows.add_str ?_ (by assumption)); intro t9 tk9))
  trivial
/-! any of the words that are no kinds is refused -/
def IsWord (v : Value) : Prop := (∃ u, v = .str (Str.ofString "Pad") u) ∨ (∃ u, v = .str (Str.ofString "") u) ∨ (∃ u, v = .str (Str.ofString "mirror") u) ∨ v = .none ∨ ∃ u, v = .str (Str.ofString "repeat ") u
theorem refused_any {w : World} {mean : ExcName → Option Value} {mg mb : Str → Option Value} {news : List (Addr × Obj)} {v : Value}
    {dp un : Nat} {gd : Option (List Code)} {cn : Str} {cs : Scope} {a : Addr} {ccd : Value} {A₀ : Around} {h₀ : Heap} {L : Addr} {m : Str → Option Value} {s : Shared} {Q E : Value → Shared → Prop}
    (H : Here w mean mg mb A₀ h₀ [] h₀ L m news s cs)
    (hv : IsWord v) (hr : dp + 30 < recursionLimit ∧ un + 8 * 30 < cLine)
    (h : ∀ h' tk', Fr h₀ L h' m → News h₀ L h' news → Q (.bool true) { s with heap := h', toks := tk' }) :
    wpAny (model PySem.Challenge.rw_on0231_01.row.prog w) (ktrTop dp un gd cn cs L a ccd [] []) (call (.ref 244) [v]) Q E s := by
  rcases hv with ⟨u, rfl⟩ | ⟨u, rfl⟩ | ⟨u, rfl⟩ | rfl | ⟨u, rfl⟩
  · exact refused_s (by decide +kernel) (by decide +kernel) _ _ _ _ _ _ _ _ _ _ _ _ _ _ H.B H.F H.X H.N H.T H.hk hr.1 hr.2 h
  · exact refused_s (by decide +kernel) (by decide +kernel) _ _ _ _ _ _ _ _ _ _ _ _ _ _ H.B H.F H.X H.N H.T H.hk hr.1 hr.2 h
  · exact refused_s (by decide +kernel) (by decide +kernel) _ _ _ _ _ _ _ _ _ _ _ _ _ _ H.B H.F H.X H.N H.T H.hk hr.1 hr.2 h
  · exact refused_e _ _ _ _ _ _ _ _ _ _ _ _ _ _ H.B H.F H.X H.N H.T H.hk hr.1 hr.2 h
  · exact refused_s (by decide +kernel) (by decide +kernel) _ _ _ _ _ _ _ _ _ _ _ _ _ _ H.B H.F H.X H.N H.T H.hk hr.1 hr.2 h
theorem words34 : True := by
  k_with_none
  k_with "q" => (first | with_reducible assumption | omega)
  k_with "p0" => (exact trivial)
  k_with "p1" => (walk_at "tup")
  k_with "p2" => (exact ⟨by walk_at "tup", by walk_at "tup"⟩)
  k_with "u" => (exact ⟨by k_asm, by k_asm, by k_asm, by k_asm, by k_asm, by first | exact rfl | assumption⟩)
  k_with "r" => (first | exact room_in (by with_reducible assumption) (by with_reducible assumption) rfl rfl rfl | exact ⟨by ktr_room, by ktr_units⟩)
  k_with "e" => (((try k_sweep); (try dsimp only); (try k_fold)))
  k_with "e2" => ((intro D9 t9 u9 h' tk9 F' N' l1; (try k_lt l1); k_extra "e"))
  k_with "eI" => ((intro t9 h' tk9 F' N'; k_extra "e"))
  k_with "eB" => ((intro h' tk9 F' N'; k_extra "e"))
  k_with "eN" => ((intro h' tk9 F' N'; k_extra "e"))
  k_with "eO" => ((intro D9 h' tk9 F' N' T9 T9b; k_extra "e"))
  k_with "forget" => ((k_here; (with_reducible show wpAny _ _ _ _ _ (Shared.mk _ _ _ (_ + 1) _)); (first | k_dflt (refine forget (by with_reducible assumption) (by with_reducible assumption) (by with_reducible assumption) (by with_reducible assumption) (by rfl) (by rfl) (by rfl) (by rfl) ?_) | with_reducible refine forget_tk ?_); intro tk9))
  k_with "execs cons" => (k_extra "forget")
  k_with "execs nil" => (k_extra "forget")
  k_with "call ref" => ((k_here; (with_reducible show wpAny _ _ (call (Value.ref 67) _) _ _ _); k_dflt (refine Pass.useI (by k_extra "u") (by k_extra "p0") (cd_pass (by k_extra "q")) (by k_extra "r") ?_; k_whole); k_extra "eI"))
  k_with "subscriptTail Name Constant ref int" => ((k_here; k_dflt (refine tin (by k_asm) (by k_asm) (by walk_at "tup") (by rfl) ?_; k_whole); intro t9))
  k_with "call ref" => ((k_here; (with_reducible show wpAny _ _ (call (Value.ref 75) _) _ _ _); k_dflt (refine Pass.use2 (by k_extra "u") (by k_extra "p0") (fr_pass (by k_extra "q") (by k_extra "q")) (by k_extra "r") ?_; k_whole); k_extra "e2"))
  k_with "evi" => ((first | with_reducible exact EvI.lit | ((with_reducible show EvI _ (PySem.Expr.Subscript _ _ _) _); k_dflt (exact EvI.item (by exact rfl) (by exact rfl) (by exact rfl) (by exact rfl) (by walk_at "tup") (by exact rfl))) | ((with_reducible show EvI _ (PySem.Expr.Name _ _) _); k_dflt (exact EvI.name (by exact rfl) (by exact rfl) (by exact rfl) (by exact rfl))) | ((with_reducible show EvI _ (PySem.Expr.BinOp _ Operator.Mult _ _) _); with_reducible exact EvI.mul (by k_extra "evi") (by k_extra "evi") (by k_dflt mul_fits)) | ((with_reducible show EvI _ (PySem.Expr.BinOp _ Operator.Add _ _) _); with_reducible exact EvI.add (by k_extra "evi") (by k_extra "evi")) | ((with_reducible show EvI _ (PySem.Expr.BinOp _ Operator.Sub _ _) _); with_reducible exact EvI.sub (by k_extra "evi") (by k_extra "evi"))))
  k_with "eval BinOp" => ((k_here; k_dflt (refine evi_use (by k_asm) (by k_asm) (by k_extra "evi") ?_; k_whole); intro t9 tk9; (try dsimp only)))
  k_with "call ref" => ((k_here; (with_reducible show wpAny _ _ (call (Value.ref 110) _) _ _ _); k_dflt (refine Pass.useI (by k_extra "u") (by k_extra "p1") (sign_pass) (by k_extra "r") ?_; k_whole); k_extra "eI"))
  k_with "call ref" => ((k_here; (with_reducible show wpAny _ _ (call (Value.ref 89) _) _ _ _); k_dflt (refine Pass.use2 (by k_extra "u") (by k_extra "p2") (minus_pass (by k_extra "q") (by k_extra "q") (by k_extra "q") (by k_extra "q") (by k_extra "q") (by k_extra "q")) (by k_extra "r") ?_; k_whole); k_extra "e2"))
  k_with "call ref" => ((k_here; (with_reducible show wpAny _ _ (call (Value.ref 117) _) _ _ _); k_dflt (refine Pass.useI (by k_extra "u") (by k_extra "p2") (compare_pass (by k_extra "q") (by k_extra "q") (by k_extra "q") (by k_extra "q") (by k_extra "q") (by k_extra "q")) (by k_extra "r") ?_; k_whole); k_extra "eI"))
  k_with "call ref" => ((k_here; (with_reducible show wpAny _ _ (call (Value.ref 124) _) _ _ _); k_dflt (refine Pass.useI (by k_extra "u") (by k_extra "p1") (floor_pass (by k_extra "q") (by k_extra "q") (by k_extra "q")) (by k_extra "r") ?_; k_whole); k_extra "eI"))
  k_with "tup" => (first | ((with_reducible show TupIn _ _ 59 _ _); exact zero_in (by k_asm)) | ((with_reducible show TupIn _ _ 60 _ _); exact one_in (by k_asm)))
  k_with "compareOp NotIn str ref" => ((k_here; k_dflt (first | refine kind_in (by k_asm) (by k_asm) (by decide +kernel) ?_ | refine kind_out (by k_asm) (by k_asm) (by decide +kernel) ?_)))
  k_with "call ref" => ((k_here; (with_reducible show wpAny _ _ (call (Value.ref 75) _) _ _ _); k_dflt (refine Pass.use2 (by k_extra "u") (by k_extra "p0") (fr1_pass) (by k_extra "r") ?_; k_whole); k_extra "e2"))
  k_with "call ref" => ((k_here; (with_reducible show wpAny _ _ (call (Value.ref 167) _) _ _ _); k_dflt (refine Pass.useO (by k_extra "u") (by k_extra "p1") (padded_pass (by k_extra "q") (by k_extra "q") (by k_extra "q")) (by k_extra "r") ?_; k_whole); k_extra "eO"))
  k_with "call ref" => ((k_here; (with_reducible show wpAny _ _ (call (Value.ref 146) _) _ _ _); k_dflt (refine Pass.useN (by k_extra "u") (by k_extra "p0") (check_pad) (by k_extra "r") ?_; k_whole); k_extra "eN"))
  k_with "call ref" => ((k_here; (with_reducible show wpAny _ _ (call (Value.ref 146) _) _ _ _); k_dflt (refine Pass.useN (by k_extra "u") (by k_extra "p0") (check_repeat) (by k_extra "r") ?_; k_whole); k_extra "eN"))
  k_with "call ref" => ((k_here; (with_reducible show wpAny _ _ (call (Value.ref 146) _) _ _ _); k_dflt (refine Pass.useN (by k_extra "u") (by k_extra "p0") (check_reflect) (by k_extra "r") ?_; k_whole); k_extra "eN"))
  k_with "call ref" => ((k_here; (with_reducible show wpAny _ _ (call (Value.ref 153) _) _ _ _); k_dflt (refine Pass.use2 (by k_extra "u") (by k_extra "p1") (part_pass (by k_extra "q") (by k_extra "q") (by k_extra "q")) (by k_extra "r") ?_; k_whole); k_extra "e2"))
  k_with "call ref" => ((k_here; (with_reducible show wpAny _ _ (call (Value.ref 160) _) _ _ _); k_dflt (refine Pass.use2 (by k_extra "u") (by k_extra "p1") (refl_pass (by k_extra "q") (by k_extra "q") (by k_extra "q")) (by k_extra "r") ?_; k_whole); k_extra "e2"))
  k_with "call ref" => ((k_here; (with_reducible show wpAny _ _ (call (Value.ref 138) _) _ _ _); k_dflt (refine Pass.useI (by k_extra "u") (by k_extra "p0") (root_pass (by k_extra "q") (by k_extra "q")) (by k_extra "r") ?_; k_whole); k_extra "eI"))
  k_with "call ref" => ((k_here; (with_reducible show wpAny _ _ (call (Value.ref 96) _) _ _ _); k_dflt (refine Pass.use2 (by k_extra "u") (by k_extra "p2") (times_e (by k_extra "q") (by k_extra "q") (by k_extra "q")) (by k_extra "r") ?_; k_whole); k_extra "e2"))
  k_with "call ref" => ((k_here; (with_reducible show wpAny _ _ (call (Value.ref 82) _) _ _ _); k_dflt (refine Pass.use2 (by k_extra "u") (by k_extra "p2") (plus_e (by k_extra "q") (by k_extra "q") (by k_extra "q")) (by k_extra "r") ?_; k_whole); k_extra "e2"))
  k_with "call ref" => ((k_here; (with_reducible show wpAny _ _ (call (Value.ref 117) _) _ _ _); k_dflt (refine Pass.useI (by k_extra "u") (by k_extra "p2") (compare_f (by k_extra "q") (by k_extra "q")) (by k_extra "r") ?_; k_whole); k_extra "eI"))
  k_with "call ref" => ((k_here; (with_reducible show wpAny _ _ (call (Value.ref 131) _) _ _ _); k_dflt (refine Pass.useI (by k_extra "u") (by k_extra "p1") (rounded_f (by k_extra "q")) (by k_extra "r") ?_; k_whole); k_extra "eI"))
  k_with "p3" => (exact ⟨by walk_at "tupR", by walk_at "tup", by walk_at "tup"⟩)
  k_with "subscriptTail Name Constant ref int" => ((k_here; k_dflt (refine trin (by k_asm) (by k_asm) (by walk_at "tupR") (by rfl) ?_; k_whole)))
  k_with "call ref" => ((k_here; (with_reducible show wpAny _ _ (call (Value.ref 96) _) _ _ _); k_dflt (refine Pass.use2 (by k_extra "u") (by k_extra "p2") (times1_e (by k_extra "q") (by k_extra "q") (by k_extra "q")) (by k_extra "r") ?_; k_whole); k_extra "e2"))
  k_with "call ref" => ((k_here; (with_reducible show wpAny _ _ (call (Value.ref 82) _) _ _ _); k_dflt (refine Pass.use2 (by k_extra "u") (by k_extra "p2") (plus1_e (by k_extra "q") (by k_extra "q") (by k_extra "q")) (by k_extra "r") ?_; k_whole); k_extra "e2"))
  k_with "ru" => (first | exact room_eq (by with_reducible assumption) rfl rfl | ktr_units)
  k_with "compareOp Eq ref ref" => ((k_here; k_dflt (refine eq_tup (by k_asm) (by k_asm) (by walk_at "tup") (by walk_at "tup") (by k_extra "ru") (by first | with_reducible assumption | exact ⟨rfl, rfl⟩) ?_)))
  k_with "call ref" => ((k_here; (with_reducible show wpAny _ _ (call (Value.ref 188) _) _ _ _); k_dflt (refine Pass.use2 (by k_extra "u") (by k_extra "p3") (product_e (by k_extra "q") (by k_extra "q") (by k_extra "q") (by k_extra "q") (by k_extra "q") (by k_extra "q") (by k_extra "q")) (by k_extra "r") ?_; k_whole); k_extra "e2"))
  k_with "call ref" => ((k_here; (with_reducible show wpAny _ _ (call (Value.ref 195) _) _ _ _); k_dflt (refine Pass.use2 (by k_extra "u") (by k_extra "p1") (rootof_e (by k_extra "q") (by k_extra "q")) (by k_extra "r") ?_; k_whole); k_extra "e2"))
  k_with "call ref" => ((k_here; (with_reducible show wpAny _ _ (call (Value.ref 75) _) _ _ _); k_dflt (refine Pass.use2 (by k_extra "u") (by k_extra "p0") (fr_e (by k_extra "q") (by k_extra "q") (by k_extra "q")) (by k_extra "r") ?_; k_whole); k_extra "e2"))
  k_with "call ref" => ((k_here; (with_reducible show wpAny _ _ (call (Value.ref 103) _) _ _ _); k_dflt (refine Pass.use2 (by k_extra "u") (by k_extra "p2") (divided_e (by k_extra "q") (by k_extra "q") (by k_extra "q") (by k_extra "q")) (by k_extra "r") ?_; k_whole); k_extra "e2"))
  trivial
/-! the contracts as the law asks them -/
theorem Pass.sameO {w mean mg mb f need vs news pre a₀} {x₀ y₀ x y x' y' : Int} (h : Pass w mean mg mb f need vs news pre (RO w a₀ x₀ y₀ news x y)) (e1 : x = x') (e2 : y = y') : Pass w mean mg mb f need vs news pre (RO w a₀ x₀ y₀ news x' y') := by subst e1 e2; exact h
theorem Pass.sameI {w mean mg mb f need vs news pre} {x x' : Int} (h : Pass w mean mg mb f need vs news pre (RI news x)) (e1 : x = x') : Pass w mean mg mb f need vs news pre (RI news x') := by subst e1; exact h
theorem refl_54 {w mean mg mb news} {t : Tok} {a : Addr} : Pass w mean mg mb 174 7 [.ref a, .str (Str.ofString "reflect") t] news (fun h₀ => TupIn h₀ news a 5 4) (R2 news 3 4) :=
  (spread_reflect (by decide) (by decide) (by decide)).sameR (by decide +kernel) (by decide +kernel)
theorem refl_14 {w mean mg mb news} {t : Tok} {a : Addr} : Pass w mean mg mb 174 7 [.ref a, .str (Str.ofString "reflect") t] news (fun h₀ => TupIn h₀ news a 1 4) (R2 news 1 4) :=
  (spread_reflect (by decide) (by decide) (by decide)).sameR (by decide +kernel) (by decide +kernel)
theorem rep_14 {w mean mg mb news} {t : Tok} {a : Addr} : Pass w mean mg mb 174 7 [.ref a, .str (Str.ofString "repeat") t] news (fun h₀ => TupIn h₀ news a (-1) 4) (R2 news 3 4) :=
  (spread_repeat (by decide) (by decide) (by decide)).sameR (by decide +kernel) (by decide +kernel)
theorem nm_law {t b : Int} (h1 : -100 < t ∧ t < 100) (h2 : 1 ≤ b ∧ b ≤ 8) : 0 < (nm t b).2 ∧ (-1000000000000000 < (nm t b).1 ∧ (nm t b).1 < 1000000000000000) ∧ (nm t b).2 < 1000000000000000 :=
  ⟨nm2_pos (by omega), nm1_in (by omega) (by omega), nm2_lt (by omega) (by omega)⟩
theorem padL {w mean mg mb news} {u : Tok} {a : Addr} {t b : Int} (h1 : -100 < t ∧ t < 100) (h2 : 1 ≤ b ∧ b ≤ 8) :
    Pass w mean mg mb 174 7 [.ref a, .str (Str.ofString "pad") u] news (fun h₀ => TupIn h₀ news a (nm t b).1 (nm t b).2) (RO w a (nm t b).1 (nm t b).2 news (nm (min (max t 0) b) b).1 (nm (min (max t 0) b) b).2) :=
  have k := nm_law h1 h2
  (spread_pad k.1 k.2.1 k.2.2).sameO (by rw [pad_like (by omega)]) (by rw [pad_like (by omega)])
theorem repL {w mean mg mb news} {u : Tok} {a : Addr} {t b : Int} (h1 : -100 < t ∧ t < 100) (h2 : 1 ≤ b ∧ b ≤ 8) :
    Pass w mean mg mb 174 7 [.ref a, .str (Str.ofString "repeat") u] news (fun h₀ => TupIn h₀ news a (nm t b).1 (nm t b).2) (R2 news (nm (t % b) b).1 (nm (t % b) b).2) :=
  have k := nm_law h1 h2
  (spread_repeat k.1 k.2.1 k.2.2).sameR (by rw [rep_like (by omega)]) (by rw [rep_like (by omega)])
theorem reflL {w mean mg mb news} {u : Tok} {a : Addr} {t b : Int} (h1 : -100 < t ∧ t < 100) (h2 : 1 ≤ b ∧ b ≤ 8) :
    Pass w mean mg mb 174 7 [.ref a, .str (Str.ofString "reflect") u] news (fun h₀ => TupIn h₀ news a (nm t b).1 (nm t b).2) (R2 news (nm (twF t b) b).1 (nm (twF t b) b).2) :=
  have k := nm_law h1 h2
  (spread_reflect k.1 k.2.1 k.2.2).sameR (by rw [refl_like (by omega)]) (by rw [refl_like (by omega)])
theorem betL {w mean mg mb news} {one other s : Int} {a : Addr} {t1 t2 : Tok} (h1 : 0 ≤ one ∧ one ≤ 255) (h2 : 0 ≤ other ∧ other ≤ 255) (h3 : 0 ≤ s ∧ s ≤ 8) :
    Pass w mean mg mb 181 4 [.int one t1, .int other t2, .ref a] news (fun h₀ => TupIn h₀ news a (nm s 8).1 (nm s 8).2) (RI news ((2 * (8 * one + (other - one) * s) + 8).fdiv 16)) := by
  have c := nm_cross (t := s) (b := 8)
  rcases e0 : nm s 8 with ⟨x, y⟩
  rw [e0] at c
  have k1 := box_e (T := 8) (B := 8) e0 h3.1 h3.2 (by decide) (by decide)
  have kx := k1.1
  have ky := k1.2
  have m1 := mul_in (a := other - one) (b := x) (by omega) (by omega)
  have h : ((other - one) * x).natAbs ≤ 255 * 8 := by
    rw [Int.natAbs_mul]
    exact Nat.mul_le_mul (by omega) (by omega)
  have a2 := nm1_abs (t := (other - one) * x) (b := 1 * y) (c := 2041) (by omega) (by omega)
  have a3 := nm2_le (t := (other - one) * x) (b := 1 * y) (by omega)
  rcases e1 : nm ((other - one) * x) (1 * y) with ⟨u1, v1⟩
  rw [e1] at a2 a3
  dsimp only at a2 a3
  have g1 := fb_e e1 m1 (by omega) (by omega)
  have g0 := g1.1
  have m2 := Int.mul_le_mul h1.2 (show v1 ≤ 8 by omega) (by omega) (by decide)
  have m3 := Int.mul_nonneg h1.1 (Int.le_of_lt g0)
  rcases e2 : nm (one * v1 + u1 * 1) (1 * v1) with ⟨u2, v2⟩
  have g2 := fb_e e2 (by omega) (by omega) (by omega)
  refine Pass.sameI (between_e (Fb.one (by omega)) (k1.fb (by decide) (by decide)) e1 (Fb.one (by omega)) g1 e2 g2 h1 h2) ?_
  rw [bet_law ky.1 c e1 e2, Int.fdiv_eq_ediv_of_nonneg _ (by decide)]
/-! any kind -/
def plS (x : Str) (t b : Int) : Int := if x = Str.ofString "pad" then min (max t 0) b else if x = Str.ofString "repeat" then t % b else twF t b
def plF (v : Value) (t b : Int) : Int := match v with
  | .str x _ => plS x t b
  | _ => 0
theorem pl_pad {u : Tok} {t b : Int} : plF (.str (Str.ofString "pad") u) t b = min (max t 0) b := by
  show plS _ _ _ = _
  rw [plS, if_pos rfl]
theorem pl_rep {u : Tok} {t b : Int} : plF (.str (Str.ofString "repeat") u) t b = t % b := by
  show plS _ _ _ = _
  rw [plS, if_neg (show ¬ Str.ofString "repeat" = Str.ofString "pad" by decide +kernel), if_pos rfl]
theorem pl_refl {u : Tok} {t b : Int} : plF (.str (Str.ofString "reflect") u) t b = twF t b := by
  show plS _ _ _ = _
  rw [plS, if_neg (show ¬ Str.ofString "reflect" = Str.ofString "pad" by decide +kernel), if_neg (show ¬ Str.ofString "reflect" = Str.ofString "repeat" by decide +kernel)]
theorem place_any {w mean mg mb news} {v : Value} {top bot : Int} {t1 t2 : Tok} (hv : IsKind v) (h1 : -100 < top ∧ top < 100) (h2 : 1 ≤ bot ∧ bot ≤ 8) :
    Pass w mean mg mb 230 2 [.int top t1, .int bot t2, v] news (fun _ => True) (R2 news (plF v top bot) bot) := by
  rcases hv with ⟨u, rfl⟩ | ⟨u, rfl⟩ | ⟨u, rfl⟩
  · rw [pl_pad]; exact place_pad h1 h2
  · rw [pl_rep]; exact place_repeat h1 h2
  · rw [pl_refl]; exact place_reflect h1 h2
def RX (news : List (Addr × Obj)) (x y : Int) (h₀ : Heap) (r : Value) (news' : List (Addr × Obj)) : Prop := ∃ D xs, r = .ref D ∧ news' = xs ++ news ∧ TupIn h₀ (xs ++ news) D x y
theorem Pass.anyO {w mean mg mb f need vs news a₀} {x₀ y₀ x y : Int} (h : Pass w mean mg mb f need vs news (fun h => TupIn h news a₀ x₀ y₀) (RO w a₀ x₀ y₀ news x y)) : Pass w mean mg mb f need vs news (fun h => TupIn h news a₀ x₀ y₀) (RX news x y) :=
  fun dp un gd cn cs a ccd cl outer A₀ base h₀ L m s Q E B F X N T hk hp hdd hu hret => h dp un gd cn cs a ccd cl outer A₀ base h₀ L m s Q E B F X N T hk hp hdd hu fun r news' h' tk' F' N' hR => by
    obtain ⟨D, rfl, rfl, k⟩ := hR
    exact hret _ _ _ _ F' N' ⟨D, [], rfl, rfl, k _ X hp⟩
theorem Pass.any2 {w mean mg mb f need vs news pre} {x y : Int} (h : Pass w mean mg mb f need vs news pre (R2 news x y)) : Pass w mean mg mb f need vs news pre (RX news x y) :=
  fun dp un gd cn cs a ccd cl outer A₀ base h₀ L m s Q E B F X N T hk hp hdd hu hret => h dp un gd cn cs a ccd cl outer A₀ base h₀ L m s Q E B F X N T hk hp hdd hu fun r news' h' tk' F' N' hR => by
    obtain ⟨D, t, u, rfl, rfl, _⟩ := hR
    exact hret _ _ _ _ F' N' ⟨D, [(D, tup2 x t y u)], rfl, rfl, .inr ⟨t, u, .head _⟩⟩
theorem spread_any {w mean mg mb news} {v : Value} {a : Addr} {t b : Int} (hv : IsKind v) (h1 : -100 < t ∧ t < 100) (h2 : 1 ≤ b ∧ b ≤ 8) :
    Pass w mean mg mb 174 7 [.ref a, v] news (fun h₀ => TupIn h₀ news a (nm t b).1 (nm t b).2) (RX news (nm (plF v t b) b).1 (nm (plF v t b) b).2) := by
  rcases hv with ⟨u, rfl⟩ | ⟨u, rfl⟩ | ⟨u, rfl⟩
  · rw [pl_pad]; exact (padL h1 h2).anyO
  · rw [pl_rep]; exact (repL h1 h2).any2
  · rw [pl_refl]; exact (reflL h1 h2).any2
theorem TupIn.app {h₀ : Heap} {xs news : List (Addr × Obj)} {a : Addr} {x y : Int} (T : TupIn h₀ news a x y) : TupIn h₀ (xs ++ news) a x y := T.sub fun _ h => List.mem_append_right _ h
section
variable {w : World} {mean : ExcName → Option Value} {mg mb : Str → Option Value} {f : Addr} {need : Nat} {vs : List Value} {news : List (Addr × Obj)} {pre : Heap → Prop}
    {dp un : Nat} {gd : Option (List Code)} {cn : Str} {cs : Scope} {a : Addr} {ccd : Value} {cl : List (Str × Addr)} {outer : List Env} {A₀ : Around} {base h₀ : Heap} {L : Addr} {m : Str → Option Value} {s : Shared} {Q E : Value → Shared → Prop}
theorem Pass.useX {x y : Int} (H : Here w mean mg mb A₀ base outer h₀ L m news s cs) (hp : pre h₀) (C : Pass w mean mg mb f need vs news pre (RX news x y)) (hr : dp + need < recursionLimit ∧ un + 8 * need < cLine)
    (h : ∀ D xs h' tk', Fr h₀ L h' m → News h₀ L h' (xs ++ news) → TupIn h₀ (xs ++ news) D x y → Q (.ref D) { s with heap := h', toks := tk' }) :
    wpAny (model PySem.Challenge.rw_on0231_01.row.prog w) (ktrTop dp un gd cn cs L a ccd cl outer) (call (.ref f) vs) Q E s :=
  C.use H.B H.F H.X H.N H.T H.hk hp hr.1 hr.2 fun r news' h' tk' F' N' hR => by
    obtain ⟨D, xs, rfl, rfl, k⟩ := hR
    exact h D xs h' tk' F' N' k
end
theorem words36 : True := by
  k_with_none
  k_with "q" => (first | with_reducible assumption | omega)
  k_with "p0" => (exact trivial)
  k_with "p1" => (walk_at "tup")
  k_with "p2" => (exact ⟨by walk_at "tup", by walk_at "tup"⟩)
  k_with "u" => (exact ⟨by k_asm, by k_asm, by k_asm, by k_asm, by k_asm, by first | exact rfl | assumption⟩)
  k_with "r" => (first | exact room_in (by with_reducible assumption) (by with_reducible assumption) rfl rfl rfl | exact ⟨by ktr_room, by ktr_units⟩)
  k_with "e" => (((try k_sweep); (try dsimp only); (try k_fold)))
  k_with "e2" => ((intro D9 t9 u9 h' tk9 F' N' l1; (try k_lt l1); k_extra "e"))
  k_with "eI" => ((intro t9 h' tk9 F' N'; k_extra "e"))
  k_with "eB" => ((intro h' tk9 F' N'; k_extra "e"))
  k_with "eN" => ((intro h' tk9 F' N'; k_extra "e"))
  k_with "eO" => ((intro D9 h' tk9 F' N' T9 T9b; k_extra "e"))
  k_with "forget" => ((k_here; (with_reducible show wpAny _ _ _ _ _ (Shared.mk _ _ _ (_ + 1) _)); (first | k_dflt (refine forget (by with_reducible assumption) (by with_reducible assumption) (by with_reducible assumption) (by with_reducible assumption) (by rfl) (by rfl) (by rfl) (by rfl) ?_) | with_reducible refine forget_tk ?_); intro tk9))
  k_with "execs cons" => (k_extra "forget")
  k_with "execs nil" => (k_extra "forget")
  k_with "call ref" => ((k_here; (with_reducible show wpAny _ _ (call (Value.ref 67) _) _ _ _); k_dflt (refine Pass.useI (by k_extra "u") (by k_extra "p0") (cd_pass (by k_extra "q")) (by k_extra "r") ?_; k_whole); k_extra "eI"))
  k_with "subscriptTail Name Constant ref int" => ((k_here; k_dflt (refine tin (by k_asm) (by k_asm) (by walk_at "tup") (by rfl) ?_; k_whole); intro t9))
  k_with "call ref" => ((k_here; (with_reducible show wpAny _ _ (call (Value.ref 75) _) _ _ _); k_dflt (refine Pass.use2 (by k_extra "u") (by k_extra "p0") (fr_pass (by k_extra "q") (by k_extra "q")) (by k_extra "r") ?_; k_whole); k_extra "e2"))
  k_with "evi" => ((first | with_reducible exact EvI.lit | ((with_reducible show EvI _ (PySem.Expr.Subscript _ _ _) _); k_dflt (exact EvI.item (by exact rfl) (by exact rfl) (by exact rfl) (by exact rfl) (by walk_at "tup") (by exact rfl))) | ((with_reducible show EvI _ (PySem.Expr.Name _ _) _); k_dflt (exact EvI.name (by exact rfl) (by exact rfl) (by exact rfl) (by exact rfl))) | ((with_reducible show EvI _ (PySem.Expr.BinOp _ Operator.Mult _ _) _); with_reducible exact EvI.mul (by k_extra "evi") (by k_extra "evi") (by k_dflt mul_fits)) | ((with_reducible show EvI _ (PySem.Expr.BinOp _ Operator.Add _ _) _); with_reducible exact EvI.add (by k_extra "evi") (by k_extra "evi")) | ((with_reducible show EvI _ (PySem.Expr.BinOp _ Operator.Sub _ _) _); with_reducible exact EvI.sub (by k_extra "evi") (by k_extra "evi"))))
  k_with "eval BinOp" => ((k_here; k_dflt (refine evi_use (by k_asm) (by k_asm) (by k_extra "evi") ?_; k_whole); intro t9 tk9; (try dsimp only)))
  k_with "call ref" => ((k_here; (with_reducible show wpAny _ _ (call (Value.ref 110) _) _ _ _); k_dflt (refine Pass.useI (by k_extra "u") (by k_extra "p1") (sign_pass) (by k_extra "r") ?_; k_whole); k_extra "eI"))
  k_with "call ref" => ((k_here; (with_reducible show wpAny _ _ (call (Value.ref 89) _) _ _ _); k_dflt (refine Pass.use2 (by k_extra "u") (by k_extra "p2") (minus_pass (by k_extra "q") (by k_extra "q") (by k_extra "q") (by k_extra "q") (by k_extra "q") (by k_extra "q")) (by k_extra "r") ?_; k_whole); k_extra "e2"))
  k_with "call ref" => ((k_here; (with_reducible show wpAny _ _ (call (Value.ref 117) _) _ _ _); k_dflt (refine Pass.useI (by k_extra "u") (by k_extra "p2") (compare_pass (by k_extra "q") (by k_extra "q") (by k_extra "q") (by k_extra "q") (by k_extra "q") (by k_extra "q")) (by k_extra "r") ?_; k_whole); k_extra "eI"))
  k_with "call ref" => ((k_here; (with_reducible show wpAny _ _ (call (Value.ref 124) _) _ _ _); k_dflt (refine Pass.useI (by k_extra "u") (by k_extra "p1") (floor_pass (by k_extra "q") (by k_extra "q") (by k_extra "q")) (by k_extra "r") ?_; k_whole); k_extra "eI"))
  k_with "tup" => (first | ((with_reducible show TupIn _ _ 59 _ _); exact zero_in (by k_asm)) | ((with_reducible show TupIn _ _ 60 _ _); exact one_in (by k_asm)))
  k_with "compareOp NotIn str ref" => ((k_here; k_dflt (first | refine kind_in (by k_asm) (by k_asm) (by decide +kernel) ?_ | refine kind_out (by k_asm) (by k_asm) (by decide +kernel) ?_)))
  k_with "call ref" => ((k_here; (with_reducible show wpAny _ _ (call (Value.ref 75) _) _ _ _); k_dflt (refine Pass.use2 (by k_extra "u") (by k_extra "p0") (fr1_pass) (by k_extra "r") ?_; k_whole); k_extra "e2"))
  k_with "call ref" => ((k_here; (with_reducible show wpAny _ _ (call (Value.ref 167) _) _ _ _); k_dflt (refine Pass.useO (by k_extra "u") (by k_extra "p1") (padded_pass (by k_extra "q") (by k_extra "q") (by k_extra "q")) (by k_extra "r") ?_; k_whole); k_extra "eO"))
  k_with "call ref" => ((k_here; (with_reducible show wpAny _ _ (call (Value.ref 146) _) _ _ _); k_dflt (refine Pass.useN (by k_extra "u") (by k_extra "p0") (check_pad) (by k_extra "r") ?_; k_whole); k_extra "eN"))
  k_with "call ref" => ((k_here; (with_reducible show wpAny _ _ (call (Value.ref 146) _) _ _ _); k_dflt (refine Pass.useN (by k_extra "u") (by k_extra "p0") (check_repeat) (by k_extra "r") ?_; k_whole); k_extra "eN"))
  k_with "call ref" => ((k_here; (with_reducible show wpAny _ _ (call (Value.ref 146) _) _ _ _); k_dflt (refine Pass.useN (by k_extra "u") (by k_extra "p0") (check_reflect) (by k_extra "r") ?_; k_whole); k_extra "eN"))
  k_with "call ref" => ((k_here; (with_reducible show wpAny _ _ (call (Value.ref 153) _) _ _ _); k_dflt (refine Pass.use2 (by k_extra "u") (by k_extra "p1") (part_pass (by k_extra "q") (by k_extra "q") (by k_extra "q")) (by k_extra "r") ?_; k_whole); k_extra "e2"))
  k_with "call ref" => ((k_here; (with_reducible show wpAny _ _ (call (Value.ref 160) _) _ _ _); k_dflt (refine Pass.use2 (by k_extra "u") (by k_extra "p1") (refl_pass (by k_extra "q") (by k_extra "q") (by k_extra "q")) (by k_extra "r") ?_; k_whole); k_extra "e2"))
  k_with "subscriptTail Name Constant ref int" => ((k_here; k_dflt (refine lin (by k_asm) (List.Mem.head _) (by rfl) ?_; k_whole); intro t9))
  k_with "eT" => ((intro v9 vt9 x9 t9 y9 u9 h' tk9 b1 b2 b3 b4 b5 F' N'; (try dsimp only at N'); k_extra "e"))
  k_with "call ref" => ((k_here; (with_reducible show wpAny _ _ (call (Value.ref 216) _) _ _ _); k_dflt (refine use_take (by k_extra "u") (by k_updF) (by k_extra "q") (by k_extra "q") (by k_extra "q") (by k_extra "q") (by k_extra "q") (by k_extra "r") ?_; k_whole); k_extra "eT"))
  k_with "call builtin:len" => ((k_here; k_dflt (refine len_in (by k_asm) (List.mem_cons_of_mem _ (by with_reducible assumption)) (by with_reducible assumption) ?_)))
  k_with "subscriptTail Name Call" => ((k_here; k_dflt (refine item_any (by k_asm) (List.mem_cons_of_mem _ (by with_reducible assumption)) (by omega) (by omega) (by omega) ?_; k_whole); intro x8 i8 e8))
  trivial
/-! the turns: of the frame the pool's name alone is kept -/
def LwR (src : Addr) (_ : Unit) (m : Str → Option Value) (nx : List (Addr × Obj)) : Prop :=
  m (Str.ofString "source") = some (.ref src) ∧ ∃ x t y u, nx = [(src, lst2 x t y u 0)] ∧ 0 ≤ x ∧ 0 ≤ y ∧ y < 2147483647
def LwEnd (h₀ : Heap) (L src : Addr) (own : List (Addr × Obj)) (s₁ : Shared) (Q : Flow → Shared → Prop) (f : Flow) (s₂ : Shared) : Prop := InvPostN h₀ L (LwR src ()) own [src] s₁ Q f s₂
theorem map_src {m : Str → Option Value} {n : Str} {v : Value} (h : m n = some v) : (fun z => if z = n then some v else m z) = m := by
  funext z
  by_cases e : z = n
  · rw [if_pos e, e, h]
  · rw [if_neg e]
theorem fr_src {h₀ h : Heap} {L : Addr} {m : Str → Option Value} {n : Str} {v : Value} (F : Fr h₀ L h m) (e : m n = some v) : Fr h₀ L h (fun z => if z = n then some v else m z) := by rw [map_src e]; exact F
theorem fr_src1 {h₀ h : Heap} {L : Addr} {m : Str → Option Value} {n x : Str} {v k : Value} (F : Fr h₀ L h (fun z => if z = x then some k else m z)) (e : m n = some v) : Fr h₀ L h (fun z => if z = x then some k else if z = n then some v else m z) := by
  have := map_src e
  have e2 : (fun z => if z = x then some k else if z = n then some v else m z) = fun z => if z = x then some k else m z := by
    funext z
    exact congrArg (fun r => if z = x then some k else r) (congrFun this z)
  rw [e2]; exact F
section
variable {prog : Program} {w : World} {A : Around} {E : Value → Shared → Prop} {s : Shared} {env : Env} {h₀ : Heap} {xn : Str} {body : List Stmt} {Q : Flow → Shared → Prop}
theorem law_turns {r src : Addr} {b : Int} {t₀ u₀ v₀ t u : Tok} {x y : Int} {m₀ : Str → Option Value} {news : List (Addr × Obj)}
    (hh : A.handled = none) (hr : IsRange s.heap r 0 b 1 t₀ u₀ v₀) (hb : 0 ≤ b ∧ b ≤ 5) (F : Fr h₀ env.locals s.heap m₀) (N : News h₀ env.locals s.heap news) (hm : (src, lst2 x t y u 0) ∈ news) (hx : 0 ≤ x) (hy : 0 ≤ y) (hy2 : y < 2147483647)
    (hs : m₀ (Str.ofString "source") = some (.ref src))
    (turn : ∀ (k : Int) kt x t y u (v : Str → Option Value) h tk own, OwnOff own [src] → 0 ≤ x → 0 ≤ y → y < 2147483647 →
      Fr h₀ env.locals h (fun z => if z = xn then some (.int k kt) else if z = Str.ofString "source" then some (.ref src) else v z) → News h₀ env.locals h ((src, lst2 x t y u 0) :: own) →
      wpAny (model prog w) A (execs body env) (LwEnd h₀ env.locals src own { s with heap := h, toks := tk } Q) E { s with heap := h, toks := tk })
    (done : ∀ x t y u (v : Str → Option Value) h tk, 0 ≤ x → 0 ≤ y → y < 2147483647 → Fr h₀ env.locals h (fun z => if z = Str.ofString "source" then some (.ref src) else v z) → News h₀ env.locals h [(src, lst2 x t y u 0)] → Q .next { s with heap := h, toks := tk }) :
    wpAny (model prog w) A (pyIter (.ref r)) (fun it s₂ => LoopAtV prog w A h₀ env xn body Q E it s₂) E s := by
  obtain ⟨n, rfl⟩ : ∃ n : Nat, b = n := ⟨b.toNat, by omega⟩
  have N' : News h₀ env.locals s.heap [(src, lst2 x t y u 0)] := cb_drop N fun p hp => by rw [List.mem_singleton.mp hp]; exact hm
  refine iter_rangeS (n := n) (LwR src) (fun a _ => a) () hh hr (small_one (by omega) (by omega) (by omega) (by omega)) (rangeSize_nat _ _) F N' ⟨hs, x, t, y, u, rfl, hx, hy, hy2⟩ ?_ ?_
  · rintro k kt a m₁ nx h tk own - hoff ⟨e, x, t, y, u, rfl, f1, f2, f3⟩ F₁ N₁
    exact turn k kt x t y u m₁ h tk own hoff f1 f2 f3 (fr_src1 F₁ e) N₁
  · rintro m₁ nx h tk ⟨e, x, t, y, u, rfl, f1, f2, f3⟩ F₁ N₁
    exact done x t y u m₁ h tk f1 f2 f3 (fr_src F₁ e) N₁
theorem law_turn_end {L src : Addr} {m' : Str → Option Value} {own news' : List (Addr × Obj)} {s₁ s₂ : Shared} {xx yy : Int} {t u : Tok}
    (F : Fr h₀ L s₂.heap m') (N : News h₀ L s₂.heap news') (hm : (src, lst2 xx t yy u 0) ∈ news') (ho : ∀ p ∈ own, p ∈ news') (hx : 0 ≤ xx) (hy : 0 ≤ yy) (hy2 : yy < 2147483647) (hr : m' (Str.ofString "source") = some (.ref src))
    (e : s₂ = { s₁ with heap := s₂.heap, toks := s₂.toks }) : LwEnd h₀ L src own s₁ Q .next s₂ := by
  rw [e]
  exact InvEndN.intro F N ⟨hr, xx, t, yy, u, rfl, hx, hy, hy2⟩ rfl (fun p hp => by rw [List.mem_singleton.mp hp]; exact hm) ho
end
theorem words37 : True := by
  k_with_none
  k_with "q" => (first | with_reducible assumption | omega)
  k_with "p0" => (exact trivial)
  k_with "p1" => (walk_at "tup")
  k_with "p2" => (exact ⟨by walk_at "tup", by walk_at "tup"⟩)
  k_with "u" => (exact ⟨by k_asm, by k_asm, by k_asm, by k_asm, by k_asm, by first | exact rfl | assumption⟩)
  k_with "r" => (first | exact room_in (by with_reducible assumption) (by with_reducible assumption) rfl rfl rfl | exact ⟨by ktr_room, by ktr_units⟩)
  k_with "e" => (((try k_sweep); (try dsimp only); (try k_fold)))
  k_with "e2" => ((intro D9 t9 u9 h' tk9 F' N' l1; (try k_lt l1); k_extra "e"))
  k_with "eI" => ((intro t9 h' tk9 F' N'; k_extra "e"))
  k_with "eB" => ((intro h' tk9 F' N'; k_extra "e"))
  k_with "eN" => ((intro h' tk9 F' N'; k_extra "e"))
  k_with "eO" => ((intro D9 h' tk9 F' N' T9 T9b; k_extra "e"))
  k_with "forget" => ((k_here; (with_reducible show wpAny _ _ _ _ _ (Shared.mk _ _ _ (_ + 1) _)); (first | k_dflt (refine forget (by with_reducible assumption) (by with_reducible assumption) (by with_reducible assumption) (by with_reducible assumption) (by rfl) (by rfl) (by rfl) (by rfl) ?_) | with_reducible refine forget_tk ?_); intro tk9))
  k_with "execs cons" => (k_extra "forget")
  k_with "execs nil" => (k_extra "forget")
  k_with "call ref" => ((k_here; (with_reducible show wpAny _ _ (call (Value.ref 67) _) _ _ _); k_dflt (refine Pass.useI (by k_extra "u") (by k_extra "p0") (cd_pass (by k_extra "q")) (by k_extra "r") ?_; k_whole); k_extra "eI"))
  k_with "subscriptTail Name Constant ref int" => ((k_here; k_dflt (refine tin (by k_asm) (by k_asm) (by walk_at "tup") (by rfl) ?_; k_whole); intro t9))
  k_with "call ref" => ((k_here; (with_reducible show wpAny _ _ (call (Value.ref 75) _) _ _ _); k_dflt (refine Pass.use2 (by k_extra "u") (by k_extra "p0") (fr_pass (by k_extra "q") (by k_extra "q")) (by k_extra "r") ?_; k_whole); k_extra "e2"))
  k_with "evi" => ((first | with_reducible exact EvI.lit | ((with_reducible show EvI _ (PySem.Expr.Subscript _ _ _) _); k_dflt (exact EvI.item (by exact rfl) (by exact rfl) (by exact rfl) (by exact rfl) (by walk_at "tup") (by exact rfl))) | ((with_reducible show EvI _ (PySem.Expr.Name _ _) _); k_dflt (exact EvI.name (by exact rfl) (by exact rfl) (by exact rfl) (by exact rfl))) | ((with_reducible show EvI _ (PySem.Expr.BinOp _ Operator.Mult _ _) _); with_reducible exact EvI.mul (by k_extra "evi") (by k_extra "evi") (by k_dflt mul_fits)) | ((with_reducible show EvI _ (PySem.Expr.BinOp _ Operator.Add _ _) _); with_reducible exact EvI.add (by k_extra "evi") (by k_extra "evi")) | ((with_reducible show EvI _ (PySem.Expr.BinOp _ Operator.Sub _ _) _); with_reducible exact EvI.sub (by k_extra "evi") (by k_extra "evi"))))
  k_with "eval BinOp" => ((k_here; k_dflt (refine evi_use (by k_asm) (by k_asm) (by k_extra "evi") ?_; k_whole); intro t9 tk9; (try dsimp only)))
  k_with "call ref" => ((k_here; (with_reducible show wpAny _ _ (call (Value.ref 110) _) _ _ _); k_dflt (refine Pass.useI (by k_extra "u") (by k_extra "p1") (sign_pass) (by k_extra "r") ?_; k_whole); k_extra "eI"))
  k_with "call ref" => ((k_here; (with_reducible show wpAny _ _ (call (Value.ref 89) _) _ _ _); k_dflt (refine Pass.use2 (by k_extra "u") (by k_extra "p2") (minus_pass (by k_extra "q") (by k_extra "q") (by k_extra "q") (by k_extra "q") (by k_extra "q") (by k_extra "q")) (by k_extra "r") ?_; k_whole); k_extra "e2"))
  k_with "call ref" => ((k_here; (with_reducible show wpAny _ _ (call (Value.ref 117) _) _ _ _); k_dflt (refine Pass.useI (by k_extra "u") (by k_extra "p2") (compare_pass (by k_extra "q") (by k_extra "q") (by k_extra "q") (by k_extra "q") (by k_extra "q") (by k_extra "q")) (by k_extra "r") ?_; k_whole); k_extra "eI"))
  k_with "call ref" => ((k_here; (with_reducible show wpAny _ _ (call (Value.ref 124) _) _ _ _); k_dflt (refine Pass.useI (by k_extra "u") (by k_extra "p1") (floor_pass (by k_extra "q") (by k_extra "q") (by k_extra "q")) (by k_extra "r") ?_; k_whole); k_extra "eI"))
  k_with "tup" => (first | ((with_reducible show TupIn _ _ 59 _ _); exact zero_in (by k_asm)) | ((with_reducible show TupIn _ _ 60 _ _); exact one_in (by k_asm)))
  k_with "compareOp NotIn str ref" => ((k_here; k_dflt (first | refine kind_in (by k_asm) (by k_asm) (by decide +kernel) ?_ | refine kind_out (by k_asm) (by k_asm) (by decide +kernel) ?_)))
  k_with "call ref" => ((k_here; (with_reducible show wpAny _ _ (call (Value.ref 75) _) _ _ _); k_dflt (refine Pass.use2 (by k_extra "u") (by k_extra "p0") (fr1_pass) (by k_extra "r") ?_; k_whole); k_extra "e2"))
  k_with "call ref" => ((k_here; (with_reducible show wpAny _ _ (call (Value.ref 167) _) _ _ _); k_dflt (refine Pass.useO (by k_extra "u") (by k_extra "p1") (padded_pass (by k_extra "q") (by k_extra "q") (by k_extra "q")) (by k_extra "r") ?_; k_whole); k_extra "eO"))
  k_with "call ref" => ((k_here; (with_reducible show wpAny _ _ (call (Value.ref 146) _) _ _ _); k_dflt (refine Pass.useN (by k_extra "u") (by k_extra "p0") (check_pad) (by k_extra "r") ?_; k_whole); k_extra "eN"))
  k_with "call ref" => ((k_here; (with_reducible show wpAny _ _ (call (Value.ref 146) _) _ _ _); k_dflt (refine Pass.useN (by k_extra "u") (by k_extra "p0") (check_repeat) (by k_extra "r") ?_; k_whole); k_extra "eN"))
  k_with "call ref" => ((k_here; (with_reducible show wpAny _ _ (call (Value.ref 146) _) _ _ _); k_dflt (refine Pass.useN (by k_extra "u") (by k_extra "p0") (check_reflect) (by k_extra "r") ?_; k_whole); k_extra "eN"))
  k_with "call ref" => ((k_here; (with_reducible show wpAny _ _ (call (Value.ref 153) _) _ _ _); k_dflt (refine Pass.use2 (by k_extra "u") (by k_extra "p1") (part_pass (by k_extra "q") (by k_extra "q") (by k_extra "q")) (by k_extra "r") ?_; k_whole); k_extra "e2"))
  k_with "call ref" => ((k_here; (with_reducible show wpAny _ _ (call (Value.ref 160) _) _ _ _); k_dflt (refine Pass.use2 (by k_extra "u") (by k_extra "p1") (refl_pass (by k_extra "q") (by k_extra "q") (by k_extra "q")) (by k_extra "r") ?_; k_whole); k_extra "e2"))
  k_with "call ref" => ((k_here; (with_reducible show wpAny _ _ (call (Value.ref 138) _) _ _ _); k_dflt (refine Pass.useI (by k_extra "u") (by k_extra "p0") (root_pass (by k_extra "q") (by k_extra "q")) (by k_extra "r") ?_; k_whole); k_extra "eI"))
  k_with "call ref" => ((k_here; (with_reducible show wpAny _ _ (call (Value.ref 96) _) _ _ _); k_dflt (refine Pass.use2 (by k_extra "u") (by k_extra "p2") (times_e (by k_extra "q") (by k_extra "q") (by k_extra "q")) (by k_extra "r") ?_; k_whole); k_extra "e2"))
  k_with "call ref" => ((k_here; (with_reducible show wpAny _ _ (call (Value.ref 82) _) _ _ _); k_dflt (refine Pass.use2 (by k_extra "u") (by k_extra "p2") (plus_e (by k_extra "q") (by k_extra "q") (by k_extra "q")) (by k_extra "r") ?_; k_whole); k_extra "e2"))
  k_with "call ref" => ((k_here; (with_reducible show wpAny _ _ (call (Value.ref 117) _) _ _ _); k_dflt (refine Pass.useI (by k_extra "u") (by k_extra "p2") (compare_f (by k_extra "q") (by k_extra "q")) (by k_extra "r") ?_; k_whole); k_extra "eI"))
  k_with "call ref" => ((k_here; (with_reducible show wpAny _ _ (call (Value.ref 131) _) _ _ _); k_dflt (refine Pass.useI (by k_extra "u") (by k_extra "p1") (rounded_f (by k_extra "q")) (by k_extra "r") ?_; k_whole); k_extra "eI"))
  k_with "subscriptTail Name Constant ref int" => ((k_here; k_dflt (refine lin (by k_asm) (List.Mem.head _) (by rfl) ?_; k_whole); intro t9))
  k_with "eT" => ((intro v9 vt9 x9 t9 y9 u9 h' tk9 b1 b2 b3 b4 b5 F' N'; (try dsimp only at N'); k_extra "e"))
  k_with "call ref" => ((k_here; (with_reducible show wpAny _ _ (call (Value.ref 216) _) _ _ _); k_dflt (refine use_take (by k_extra "u") (by k_updF) (by k_extra "q") (by k_extra "q") (by k_extra "q") (by k_extra "q") (by k_extra "q") (by k_extra "r") ?_; k_whole); k_extra "eT"))
  k_with "call builtin:len" => ((k_here; k_dflt (refine len_in (by k_asm) (List.mem_cons_of_mem _ (by with_reducible assumption)) (by with_reducible assumption) ?_)))
  k_with "subscriptTail Name Call" => ((k_here; k_dflt (refine item_any (by k_asm) (List.mem_cons_of_mem _ (by with_reducible assumption)) (by omega) (by omega) (by omega) ?_; k_whole); intro x8 i8 e8))
  k_with "ru" => (first | exact room_eq (by with_reducible assumption) rfl rfl | ktr_units)
  k_with "compareOp Eq ref ref" => ((k_here; k_dflt (refine eq_tup (by k_asm) (by k_asm) (by walk_at "tup") (by walk_at "tup") (by k_extra "ru") (by first | with_reducible assumption | exact ⟨rfl, rfl⟩) ?_)))
  k_with "setAttr ref" => ((k_here; k_dflt (refine sx_set (by k_asm) (by exact Frag.In.keeps (by k_asm) (Fr.keep (by k_asm))) (by k_asm) (by assumption) (by exact rfl) (by exact rfl) (by exact rfl) (by exact rfl) (by exact rfl) (by exact rfl) (by exact rfl) (by exact mill_passes) (by exact rfl) ?_; k_whole); intro d9 od9 h' tk9 F' N' l9a l9b; (try dsimp only)))
  k_with "exec Raise some none" => ((k_here; (with_reducible show wpAny _ _ (exec (Stmt.Raise (some (Expr.Call (Expr.Name (Str.ofString "SheetFault") _) _ _ _)) none _) _) _ _ _); k_dflt (refine sheet_raise rfl ?_)))
  k_with "compareOp NotIn none ref" => ((k_here; k_dflt (refine kind_none (by k_asm) (by k_asm) ?_)))
  k_with "SxRaised" => ((k_dflt (refine ⟨_, _, _, _, _, _, _, _, rfl, (by k_asm), (by k_asm), (by k_asm), (by assumption), (by assumption), ?_⟩); (try dsimp only)))
  k_with "leaving ref" => ((k_here; k_dflt (refine sx_leave (by assumption) (by assumption) (by k_asm) (List.Mem.head _) (List.Mem.tail _ (List.Mem.head _)) (by assumption) (by assumption) (by exact rfl) (by exact rfl) (by exact news_off (by assumption) (by assumption)) ?_ (by exact rfl); k_whole); intro h' S' R' U'; (try dsimp only at S' R' U' ⊢)))
  k_with "call ref" => ((k_here; (with_reducible show wpAny _ _ (call (Value.ref 56) [Value.str _ _]) _ _ _); k_dflt (refine use_sheet (by k_asm) (by k_asm) (by k_asm) (by k_asm) (by k_asm) (by first | exact rfl | assumption) (by ktr_room) (by ktr_units) ?_; k_whole); intro e9 t9 oe9 h' tk9 F' N' c9 d9 l1 l2; (try dsimp only); (try k_fold)))
  k_with "call ref" => ((k_here; (with_reducible show wpAny _ _ (call (Value.ref 174) _) _ _ _); k_dflt (refine wpAny_call ?_; walk_at "enterS")))
  k_with "call ref" => ((k_here; (with_reducible show wpAny _ _ (call (Value.ref 146) _) _ _ _); k_dflt (refine wpAny_call ?_; walk_at "enterS")))
  k_with "compareOp NotIn str ref" => ((k_here; k_dflt (refine kind_out (by k_asm) (by k_asm) (by with_reducible assumption) ?_)))
  k_with "binaryOp Add str str" => ((k_here; k_dflt (refine PyProof.Rows.add_str ?_ (by assumption)); intro t9 tk9))
  trivial
/-! the law's four lists -/
def WayN (x y : Int) : Prop := (x = 1 ∧ y = 1) ∨ (x = -7 ∧ y = 2)
def WayL (x y l : Int) : Prop := (x = 3 ∧ y = 4 ∧ l = 5) ∨ (x = -4 ∧ y = 3 ∧ l = 5) ∨ (x = 5 ∧ y = -12 ∧ l = 13) ∨ (x = 0 ∧ y = 6 ∧ l = 6) ∨ (x = -8 ∧ y = 0 ∧ l = 8) ∨ (x = 0 ∧ y = 0 ∧ l = 0)
def IsParts (v : Value) : Prop := ∃ n t, v = .int n t ∧ (n = 2 ∨ n = 16 ∨ n = 256)
abbrev tup3 (x : Int) (t : Tok) (y : Int) (u : Tok) (l : Value) : Obj := { cls := .type "tuple", data := .seq #[.int x t, .int y u, l] }
def IsWay (news : List (Addr × Obj)) (v : Value) : Prop := ∃ a x t y u, v = .ref a ∧ (((a, tup3 x t y u .none) ∈ news ∧ WayN x y) ∨ ∃ l tl, (a, tup3 x t y u (.int l tl)) ∈ news ∧ WayL x y l)
theorem isWord1 {u : Tok} : IsWord (.str (Str.ofString "Pad") u) := .inl ⟨_, rfl⟩
theorem isWord2 {u : Tok} : IsWord (.str (Str.ofString "") u) := .inr (.inl ⟨_, rfl⟩)
theorem isWord3 {u : Tok} : IsWord (.str (Str.ofString "mirror") u) := .inr (.inr (.inl ⟨_, rfl⟩))
theorem isWord4 : IsWord .none := .inr (.inr (.inr (.inl rfl)))
theorem isWord5 {u : Tok} : IsWord (.str (Str.ofString "repeat ") u) := .inr (.inr (.inr (.inr ⟨_, rfl⟩)))
theorem isParts1 {n : Int} {t : Tok} (h : n = 2 ∨ n = 16 ∨ n = 256) : IsParts (.int n t) := ⟨_, _, rfl, h⟩
theorem isWayN {news : List (Addr × Obj)} {a : Addr} {x y : Int} {t u : Tok} (h : (a, tup3 x t y u .none) ∈ news) (hw : WayN x y) : IsWay news (.ref a) := ⟨_, _, _, _, _, rfl, .inl ⟨h, hw⟩⟩
theorem isWayL {news : List (Addr × Obj)} {a : Addr} {x y l : Int} {t u tl : Tok} (h : (a, tup3 x t y u (.int l tl)) ∈ news) (hw : WayL x y l) : IsWay news (.ref a) := ⟨_, _, _, _, _, rfl, .inr ⟨_, _, h, hw⟩⟩
section
variable {w : World} {mean : ExcName → Option Value} {mg mb : Str → Option Value} {news : List (Addr × Obj)} {g : Obj → List (Addr × Obj)} {src th : Addr} {x y : Int} {tx ty : Tok} {n k : Nat} {items : List Value}
    {dp un : Nat} {gd : Option (List Code)} {cn : Str} {cs : Scope} {a : Addr} {ccd : Value} {cl : List (Str × Addr)} {outer : List Env} {A₀ : Around} {base h₀ : Heap} {L : Addr} {m : Str → Option Value} {s : Shared} {Q E : Value → Shared → Prop}
theorem use_kind (H : Here w mean mg mb A₀ base outer h₀ L m news s cs)
    (U : UpdF src (lst2 x tx y ty n) news g) (hx : 0 ≤ x) (hy : 0 ≤ y) (hy2 : y < 2147483647) (hm : (th, listOf items.toArray k) ∈ news) (hne : th ≠ src) (hi : 0 < items.length ∧ items.length < 1000) (hP : ∀ v ∈ items, IsKind v)
    (hr : dp + 2 < recursionLimit ∧ un + 8 * 2 < cLine)
    (h : ∀ r x' t' y' u' h' tk', IsKind r → 0 ≤ x' → 0 ≤ y' → y' < 2147483647 → Fr h₀ L h' m → News h₀ L h' (g (lst2 x' t' y' u' n)) → Q r { s with heap := h', toks := tk' }) :
    wpAny (model PySem.Challenge.rw_on0231_01.row.prog w) (ktrTop dp un gd cn cs L a ccd cl outer) (call (.ref 223) [.ref src, .ref th]) Q E s :=
  use_one IsKind H U hx hy hy2 hm hne hi.1 hi.2 hP hr h
theorem use_word (H : Here w mean mg mb A₀ base outer h₀ L m news s cs)
    (U : UpdF src (lst2 x tx y ty n) news g) (hx : 0 ≤ x) (hy : 0 ≤ y) (hy2 : y < 2147483647) (hm : (th, listOf items.toArray k) ∈ news) (hne : th ≠ src) (hi : 0 < items.length ∧ items.length < 1000) (hP : ∀ v ∈ items, IsWord v)
    (hr : dp + 2 < recursionLimit ∧ un + 8 * 2 < cLine)
    (h : ∀ r x' t' y' u' h' tk', IsWord r → 0 ≤ x' → 0 ≤ y' → y' < 2147483647 → Fr h₀ L h' m → News h₀ L h' (g (lst2 x' t' y' u' n)) → Q r { s with heap := h', toks := tk' }) :
    wpAny (model PySem.Challenge.rw_on0231_01.row.prog w) (ktrTop dp un gd cn cs L a ccd cl outer) (call (.ref 223) [.ref src, .ref th]) Q E s :=
  use_one IsWord H U hx hy hy2 hm hne hi.1 hi.2 hP hr h
theorem use_parts (H : Here w mean mg mb A₀ base outer h₀ L m news s cs)
    (U : UpdF src (lst2 x tx y ty n) news g) (hx : 0 ≤ x) (hy : 0 ≤ y) (hy2 : y < 2147483647) (hm : (th, listOf items.toArray k) ∈ news) (hne : th ≠ src) (hi : 0 < items.length ∧ items.length < 1000) (hP : ∀ v ∈ items, IsParts v)
    (hr : dp + 2 < recursionLimit ∧ un + 8 * 2 < cLine)
    (h : ∀ i v x' t' y' u' h' tk', i = 2 ∨ i = 16 ∨ i = 256 → 0 ≤ x' → 0 ≤ y' → y' < 2147483647 → Fr h₀ L h' m → News h₀ L h' (g (lst2 x' t' y' u' n)) → Q (.int i v) { s with heap := h', toks := tk' }) :
    wpAny (model PySem.Challenge.rw_on0231_01.row.prog w) (ktrTop dp un gd cn cs L a ccd cl outer) (call (.ref 223) [.ref src, .ref th]) Q E s := by
  refine use_one IsParts H U hx hy hy2 hm hne hi.1 hi.2 hP hr fun r x' t' y' u' h' tk' hr b1 b2 b3 F' N' => ?_
  obtain ⟨i, v, rfl, hi⟩ := hr
  exact h _ _ _ _ _ _ _ _ hi b1 b2 b3 F' N'
theorem use_way (H : Here w mean mg mb A₀ base outer h₀ L m news s cs)
    (U : UpdF src (lst2 x tx y ty n) news g) (hx : 0 ≤ x) (hy : 0 ≤ y) (hy2 : y < 2147483647) (hm : (th, listOf items.toArray k) ∈ news) (hne : th ≠ src) (hi : 0 < items.length ∧ items.length < 1000) (hP : ∀ v ∈ items, IsWay news v)
    (hr : dp + 2 < recursionLimit ∧ un + 8 * 2 < cLine)
    (h1 : ∀ b x t y u h' tk', WayN x y → Fr h₀ L h' m → News h₀ L h' [(b, tup3 x t y u .none)] → Q (.ref b) { s with heap := h', toks := tk' })
    (h2 : ∀ b x t y u l tl h' tk', WayL x y l → Fr h₀ L h' m → News h₀ L h' [(b, tup3 x t y u (.int l tl))] → Q (.ref b) { s with heap := h', toks := tk' }) :
    wpAny (model PySem.Challenge.rw_on0231_01.row.prog w) (ktrTop dp un gd cn cs L a ccd cl outer) (call (.ref 223) [.ref src, .ref th]) Q E s := by
  obtain ⟨rest, k1, k2, k3, k4⟩ := updF_all U
  have hs := (H.N _ (k2 _ (.head _))).1
  have ne : ∀ b x t y u l, (b, tup3 x t y u l) ∈ news → b ≠ src := fun b x t y u l hb e => by
    have := (H.N _ hb).1
    rw [e, hs] at this
    exact absurd (show Value.type "list" = Value.type "tuple" from congrArg Obj.cls (Option.some.inj this)) (by decide)
  refine Pass.use H.B H.F H.X (cb_drop H.N k2) H.T H.hk (one_pass hx hy hy2 hi.1 hi.2 k1 (k4 _ hm hne)) trivial hr.1 hr.2 fun r news' h' tk' F' N' hR => ?_
  obtain ⟨i, x', t', y', u', e, -, -, -, rfl⟩ := hR
  obtain ⟨b, x, t, y, u, rfl, (⟨hb, hw⟩ | ⟨l, tl, hb, hw⟩)⟩ := hP _ (List.mem_of_getElem? e)
  · exact h1 _ _ _ _ _ _ _ hw F' (cb_drop N' fun p hp => by rw [List.mem_singleton.mp hp]; exact .tail _ (k4 _ hb (ne _ _ _ _ _ _ hb)))
  · exact h2 _ _ _ _ _ _ _ _ _ hw F' (cb_drop N' fun p hp => by rw [List.mem_singleton.mp hp]; exact .tail _ (k4 _ hb (ne _ _ _ _ _ _ hb)))
end
theorem words38 : True := by
  k_with_none
  k_with "q" => (first | with_reducible assumption | omega)
  k_with "p0" => (exact trivial)
  k_with "p1" => (walk_at "tup")
  k_with "p2" => (exact ⟨by walk_at "tup", by walk_at "tup"⟩)
  k_with "u" => (exact ⟨by k_asm, by k_asm, by k_asm, by k_asm, by k_asm, by first | exact rfl | assumption⟩)
  k_with "r" => (first | exact room_in (by with_reducible assumption) (by with_reducible assumption) rfl rfl rfl | exact ⟨by ktr_room, by ktr_units⟩)
  k_with "e" => (((try k_sweep); (try dsimp only); (try k_fold)))
  k_with "e2" => ((intro D9 t9 u9 h' tk9 F' N' l1; (try k_lt l1); k_extra "e"))
  k_with "eI" => ((intro t9 h' tk9 F' N'; k_extra "e"))
  k_with "eB" => ((intro h' tk9 F' N'; k_extra "e"))
  k_with "eN" => ((intro h' tk9 F' N'; k_extra "e"))
  k_with "eO" => ((intro D9 h' tk9 F' N' T9 T9b; k_extra "e"))
  k_with "forget" => ((k_here; (with_reducible show wpAny _ _ _ _ _ (Shared.mk _ _ _ (_ + 1) _)); (first | k_dflt (refine forget (by with_reducible assumption) (by with_reducible assumption) (by with_reducible assumption) (by with_reducible assumption) (by rfl) (by rfl) (by rfl) (by rfl) ?_) | with_reducible refine forget_tk ?_); intro tk9))
  k_with "execs cons" => (k_extra "forget")
  k_with "execs nil" => (k_extra "forget")
  k_with "call ref" => ((k_here; (with_reducible show wpAny _ _ (call (Value.ref 67) _) _ _ _); k_dflt (refine Pass.useI (by k_extra "u") (by k_extra "p0") (cd_pass (by k_extra "q")) (by k_extra "r") ?_; k_whole); k_extra "eI"))
  k_with "subscriptTail Name Constant ref int" => ((k_here; k_dflt (refine tin (by k_asm) (by k_asm) (by walk_at "tup") (by rfl) ?_; k_whole); intro t9))
  k_with "call ref" => ((k_here; (with_reducible show wpAny _ _ (call (Value.ref 75) _) _ _ _); k_dflt (refine Pass.use2 (by k_extra "u") (by k_extra "p0") (fr_pass (by k_extra "q") (by k_extra "q")) (by k_extra "r") ?_; k_whole); k_extra "e2"))
  k_with "evi" => ((first | with_reducible exact EvI.lit | ((with_reducible show EvI _ (PySem.Expr.Subscript _ _ _) _); k_dflt (exact EvI.item (by exact rfl) (by exact rfl) (by exact rfl) (by exact rfl) (by walk_at "tup") (by exact rfl))) | ((with_reducible show EvI _ (PySem.Expr.Name _ _) _); k_dflt (exact EvI.name (by exact rfl) (by exact rfl) (by exact rfl) (by exact rfl))) | ((with_reducible show EvI _ (PySem.Expr.BinOp _ Operator.Mult _ _) _); with_reducible exact EvI.mul (by k_extra "evi") (by k_extra "evi") (by k_dflt mul_fits)) | ((with_reducible show EvI _ (PySem.Expr.BinOp _ Operator.Add _ _) _); with_reducible exact EvI.add (by k_extra "evi") (by k_extra "evi")) | ((with_reducible show EvI _ (PySem.Expr.BinOp _ Operator.Sub _ _) _); with_reducible exact EvI.sub (by k_extra "evi") (by k_extra "evi"))))
  k_with "eval BinOp" => ((k_here; k_dflt (refine evi_use (by k_asm) (by k_asm) (by k_extra "evi") ?_; k_whole); intro t9 tk9; (try dsimp only)))
  k_with "call ref" => ((k_here; (with_reducible show wpAny _ _ (call (Value.ref 110) _) _ _ _); k_dflt (refine Pass.useI (by k_extra "u") (by k_extra "p1") (sign_pass) (by k_extra "r") ?_; k_whole); k_extra "eI"))
  k_with "call ref" => ((k_here; (with_reducible show wpAny _ _ (call (Value.ref 89) _) _ _ _); k_dflt (refine Pass.use2 (by k_extra "u") (by k_extra "p2") (minus_pass (by k_extra "q") (by k_extra "q") (by k_extra "q") (by k_extra "q") (by k_extra "q") (by k_extra "q")) (by k_extra "r") ?_; k_whole); k_extra "e2"))
  k_with "call ref" => ((k_here; (with_reducible show wpAny _ _ (call (Value.ref 117) _) _ _ _); k_dflt (refine Pass.useI (by k_extra "u") (by k_extra "p2") (compare_pass (by k_extra "q") (by k_extra "q") (by k_extra "q") (by k_extra "q") (by k_extra "q") (by k_extra "q")) (by k_extra "r") ?_; k_whole); k_extra "eI"))
  k_with "call ref" => ((k_here; (with_reducible show wpAny _ _ (call (Value.ref 124) _) _ _ _); k_dflt (refine Pass.useI (by k_extra "u") (by k_extra "p1") (floor_pass (by k_extra "q") (by k_extra "q") (by k_extra "q")) (by k_extra "r") ?_; k_whole); k_extra "eI"))
  k_with "tup" => (first | ((with_reducible show TupIn _ _ 59 _ _); exact zero_in (by k_asm)) | ((with_reducible show TupIn _ _ 60 _ _); exact one_in (by k_asm)))
  k_with "compareOp NotIn str ref" => ((k_here; k_dflt (first | refine kind_in (by k_asm) (by k_asm) (by decide +kernel) ?_ | refine kind_out (by k_asm) (by k_asm) (by decide +kernel) ?_)))
  k_with "call ref" => ((k_here; (with_reducible show wpAny _ _ (call (Value.ref 75) _) _ _ _); k_dflt (refine Pass.use2 (by k_extra "u") (by k_extra "p0") (fr1_pass) (by k_extra "r") ?_; k_whole); k_extra "e2"))
  k_with "call ref" => ((k_here; (with_reducible show wpAny _ _ (call (Value.ref 167) _) _ _ _); k_dflt (refine Pass.useO (by k_extra "u") (by k_extra "p1") (padded_pass (by k_extra "q") (by k_extra "q") (by k_extra "q")) (by k_extra "r") ?_; k_whole); k_extra "eO"))
  k_with "call ref" => ((k_here; (with_reducible show wpAny _ _ (call (Value.ref 146) _) _ _ _); k_dflt (refine Pass.useN (by k_extra "u") (by k_extra "p0") (check_pad) (by k_extra "r") ?_; k_whole); k_extra "eN"))
  k_with "call ref" => ((k_here; (with_reducible show wpAny _ _ (call (Value.ref 146) _) _ _ _); k_dflt (refine Pass.useN (by k_extra "u") (by k_extra "p0") (check_repeat) (by k_extra "r") ?_; k_whole); k_extra "eN"))
  k_with "call ref" => ((k_here; (with_reducible show wpAny _ _ (call (Value.ref 146) _) _ _ _); k_dflt (refine Pass.useN (by k_extra "u") (by k_extra "p0") (check_reflect) (by k_extra "r") ?_; k_whole); k_extra "eN"))
  k_with "call ref" => ((k_here; (with_reducible show wpAny _ _ (call (Value.ref 153) _) _ _ _); k_dflt (refine Pass.use2 (by k_extra "u") (by k_extra "p1") (part_pass (by k_extra "q") (by k_extra "q") (by k_extra "q")) (by k_extra "r") ?_; k_whole); k_extra "e2"))
  k_with "call ref" => ((k_here; (with_reducible show wpAny _ _ (call (Value.ref 160) _) _ _ _); k_dflt (refine Pass.use2 (by k_extra "u") (by k_extra "p1") (refl_pass (by k_extra "q") (by k_extra "q") (by k_extra "q")) (by k_extra "r") ?_; k_whole); k_extra "e2"))
  k_with "call ref" => ((k_here; (with_reducible show wpAny _ _ (call (Value.ref 138) _) _ _ _); k_dflt (refine Pass.useI (by k_extra "u") (by k_extra "p0") (root_pass (by k_extra "q") (by k_extra "q")) (by k_extra "r") ?_; k_whole); k_extra "eI"))
  k_with "call ref" => ((k_here; (with_reducible show wpAny _ _ (call (Value.ref 96) _) _ _ _); k_dflt (refine Pass.use2 (by k_extra "u") (by k_extra "p2") (times_e (by k_extra "q") (by k_extra "q") (by k_extra "q")) (by k_extra "r") ?_; k_whole); k_extra "e2"))
  k_with "call ref" => ((k_here; (with_reducible show wpAny _ _ (call (Value.ref 82) _) _ _ _); k_dflt (refine Pass.use2 (by k_extra "u") (by k_extra "p2") (plus_e (by k_extra "q") (by k_extra "q") (by k_extra "q")) (by k_extra "r") ?_; k_whole); k_extra "e2"))
  k_with "call ref" => ((k_here; (with_reducible show wpAny _ _ (call (Value.ref 117) _) _ _ _); k_dflt (refine Pass.useI (by k_extra "u") (by k_extra "p2") (compare_f (by k_extra "q") (by k_extra "q")) (by k_extra "r") ?_; k_whole); k_extra "eI"))
  k_with "call ref" => ((k_here; (with_reducible show wpAny _ _ (call (Value.ref 131) _) _ _ _); k_dflt (refine Pass.useI (by k_extra "u") (by k_extra "p1") (rounded_f (by k_extra "q")) (by k_extra "r") ?_; k_whole); k_extra "eI"))
  k_with "subscriptTail Name Constant ref int" => ((k_here; k_dflt (refine lin (by k_asm) (List.Mem.head _) (by rfl) ?_; k_whole); intro t9))
  k_with "eT" => ((intro v9 vt9 x9 t9 y9 u9 h' tk9 b1 b2 b3 b4 b5 F' N'; (try dsimp only at N'); k_extra "e"))
  k_with "call ref" => ((k_here; (with_reducible show wpAny _ _ (call (Value.ref 216) _) _ _ _); k_dflt (refine use_take (by k_extra "u") (by k_updF) (by k_extra "q") (by k_extra "q") (by k_extra "q") (by k_extra "q") (by k_extra "q") (by k_extra "r") ?_; k_whole); k_extra "eT"))
  k_with "p3" => (exact ⟨by walk_at "tupR", by walk_at "tup", by walk_at "tup"⟩)
  k_with "subscriptTail Name Constant ref int" => ((k_here; k_dflt (refine trin (by k_asm) (by k_asm) (by walk_at "tupR") (by rfl) ?_; k_whole)))
  k_with "call ref" => ((k_here; (with_reducible show wpAny _ _ (call (Value.ref 96) _) _ _ _); k_dflt (refine Pass.use2 (by k_extra "u") (by k_extra "p2") (times1_e (by k_extra "q") (by k_extra "q") (by k_extra "q")) (by k_extra "r") ?_; k_whole); k_extra "e2"))
  k_with "call ref" => ((k_here; (with_reducible show wpAny _ _ (call (Value.ref 82) _) _ _ _); k_dflt (refine Pass.use2 (by k_extra "u") (by k_extra "p2") (plus1_e (by k_extra "q") (by k_extra "q") (by k_extra "q")) (by k_extra "r") ?_; k_whole); k_extra "e2"))
  k_with "call builtin:len" => ((k_here; k_dflt (refine len_in (by k_asm) (List.mem_cons_of_mem _ (by with_reducible assumption)) (by with_reducible assumption) ?_)))
  k_with "subscriptTail Name Call" => ((k_here; k_dflt (refine item_any (by k_asm) (List.mem_cons_of_mem _ (by with_reducible assumption)) (by omega) (by omega) (by omega) ?_; k_whole); intro x8 i8 e8))
  k_with "ru" => (first | exact room_eq (by with_reducible assumption) rfl rfl | ktr_units)
  k_with "compareOp Eq ref ref" => ((k_here; k_dflt (refine eq_tup (by k_asm) (by k_asm) (by walk_at "tup") (by walk_at "tup") (by k_extra "ru") (by first | with_reducible assumption | exact ⟨rfl, rfl⟩) ?_)))
  k_with "call ref" => ((k_here; (with_reducible show wpAny _ _ (call (Value.ref 188) _) _ _ _); k_dflt (refine Pass.use2 (by k_extra "u") (by k_extra "p3") (product_e (by k_extra "q") (by k_extra "q") (by k_extra "q") (by k_extra "q") (by k_extra "q") (by k_extra "q") (by k_extra "q")) (by k_extra "r") ?_; k_whole); k_extra "e2"))
  k_with "call ref" => ((k_here; (with_reducible show wpAny _ _ (call (Value.ref 195) _) _ _ _); k_dflt (refine Pass.use2 (by k_extra "u") (by k_extra "p1") (rootof_e (by k_extra "q") (by k_extra "q")) (by k_extra "r") ?_; k_whole); k_extra "e2"))
  k_with "call ref" => ((k_here; (with_reducible show wpAny _ _ (call (Value.ref 75) _) _ _ _); k_dflt (refine Pass.use2 (by k_extra "u") (by k_extra "p0") (fr_e (by k_extra "q") (by k_extra "q") (by k_extra "q")) (by k_extra "r") ?_; k_whole); k_extra "e2"))
  k_with "call ref" => ((k_here; (with_reducible show wpAny _ _ (call (Value.ref 103) _) _ _ _); k_dflt (refine Pass.use2 (by k_extra "u") (by k_extra "p2") (divided_e (by k_extra "q") (by k_extra "q") (by k_extra "q") (by k_extra "q")) (by k_extra "r") ?_; k_whole); k_extra "e2"))
  k_with "setAttr ref" => ((k_here; k_dflt (refine sx_set (by k_asm) (by exact Frag.In.keeps (by k_asm) (Fr.keep (by k_asm))) (by k_asm) (by assumption) (by exact rfl) (by exact rfl) (by exact rfl) (by exact rfl) (by exact rfl) (by exact rfl) (by exact rfl) (by exact mill_passes) (by exact rfl) ?_; k_whole); intro d9 od9 h' tk9 F' N' l9a l9b; (try dsimp only)))
  k_with "exec Raise some none" => ((k_here; (with_reducible show wpAny _ _ (exec (Stmt.Raise (some (Expr.Call (Expr.Name (Str.ofString "SheetFault") _) _ _ _)) none _) _) _ _ _); k_dflt (refine sheet_raise rfl ?_)))
  k_with "compareOp NotIn none ref" => ((k_here; k_dflt (refine kind_none (by k_asm) (by k_asm) ?_)))
  k_with "SxRaised" => ((k_dflt (refine ⟨_, _, _, _, _, _, _, _, rfl, (by k_asm), (by k_asm), (by k_asm), (by assumption), (by assumption), ?_⟩); (try dsimp only)))
  k_with "leaving ref" => ((k_here; k_dflt (refine sx_leave (by assumption) (by assumption) (by k_asm) (List.Mem.head _) (List.Mem.tail _ (List.Mem.head _)) (by assumption) (by assumption) (by exact rfl) (by exact rfl) (by exact news_off (by assumption) (by assumption)) ?_ (by exact rfl); k_whole); intro h' S' R' U'; (try dsimp only at S' R' U' ⊢)))
  k_with "call ref" => ((k_here; (with_reducible show wpAny _ _ (call (Value.ref 56) [Value.str _ _]) _ _ _); k_dflt (refine use_sheet (by k_asm) (by k_asm) (by k_asm) (by k_asm) (by k_asm) (by first | exact rfl | assumption) (by ktr_room) (by ktr_units) ?_; k_whole); intro e9 t9 oe9 h' tk9 F' N' c9 d9 l1 l2; (try dsimp only); (try k_fold)))
  k_with "call ref" => ((k_here; (with_reducible show wpAny _ _ (call (Value.ref 174) _) _ _ _); k_dflt (refine wpAny_call ?_; walk_at "enterS")))
  k_with "call ref" => ((k_here; (with_reducible show wpAny _ _ (call (Value.ref 146) _) _ _ _); k_dflt (refine wpAny_call ?_; walk_at "enterS")))
  k_with "compareOp NotIn str ref" => ((k_here; k_dflt (refine kind_out (by k_asm) (by k_asm) (by with_reducible assumption) ?_)))
  k_with "binaryOp Add str str" => ((k_here; k_dflt (refine PyProof.Rows.add_str ?_ (by assumption)); intro t9 tk9))
  k_with "rf" => (first | with_reducible exact rfl | with_reducible assumption)
  k_with "p4" => (exact ⟨by walk_at "tupR", by walk_at "tup", by walk_at "tup", by walk_at "tup"⟩)
  k_with "eRf" => (k_extra "eB")
  k_with "eRo" => ((intro D9 p9 q9 t9 u9 t8 u8 h' tk9 F' N'; k_extra "e"))
  k_with "compareOp Eq ref ref" => ((k_here; k_dflt (refine eq_tupR (by k_asm) (by k_asm) (by walk_at "tupR") (by walk_at "tup") (by walk_at "tup") (by walk_at "tupR") (by walk_at "tup") (by walk_at "tup") (by k_extra "ru") (by k_extra "rf") (by k_extra "rf") (by k_extra "rf") (by k_extra "rf") ?_)))
  k_with "call ref" => ((k_here; (with_reducible show wpAny _ _ (call (Value.ref 202) _) _ _ _); k_dflt (refine Pass.useRo (by k_extra "u") (by k_extra "p4") (focus_out' (by k_extra "q") (by k_extra "q") (by k_extra "q") (by k_extra "q") (by k_extra "q") (by k_extra "q") (by k_extra "q")) (by k_extra "r") ?_; k_whole); k_extra "eRo"))
  trivial
/-! a focus by any of the law's ways -/
theorem ledN {w mean mg mb news} {x y s r n : Int} {tx ty tr tn : Tok} (hw : WayN x y) (hs : 1 ≤ s ∧ s ≤ 4) (hr : 1 ≤ r ∧ r ≤ 12) (hn : n = 2 ∨ n = 16 ∨ n = 256) :
    Pass w mean mg mb 258 14 [.int (x * s) tx, .int (y * s) ty, .none, .int r tr, .int n tn] news (fun _ => True) (RB news true) := by
  have h : (-100 < x * s ∧ x * s < 100) ∧ (-100 < y * s ∧ y * s < 100) ∧ 2 ≤ x * s * (x * s) + y * s * (y * s) := by
    rcases (by omega : s = 1 ∨ s = 2 ∨ s = 3 ∨ s = 4) with rfl | rfl | rfl | rfl <;> rcases hw with ⟨rfl, rfl⟩ | ⟨rfl, rfl⟩ <;> decide
  by_cases c : x * s * (x * s) + y * s * (y * s) < r * r
  · exact led_in h.1 h.2.1 (by omega) (by omega) c
  · exact led_none h.1 h.2.1 (by omega) (by omega) hn h.2.2 (by omega)
theorem ledL {w mean mg mb news} {x y l s r n : Int} {tx ty tl tr tn : Tok} (hw : WayL x y l) (hs : 1 ≤ s ∧ s ≤ 4) (hr : 1 ≤ r ∧ r ≤ 12) (hn : n = 2 ∨ n = 16 ∨ n = 256) :
    Pass w mean mg mb 258 14 [.int (x * s) tx, .int (y * s) ty, .int (l * s) tl, .int r tr, .int n tn] news (fun _ => True) (RB news true) := by
  have h : (-100 < x * s ∧ x * s < 100) ∧ (-100 < y * s ∧ y * s < 100) ∧ (0 ≤ l * s ∧ l * s < 1000) ∧ x * s * (x * s) + y * s * (y * s) = l * s * (l * s) := by
    rcases (by omega : s = 1 ∨ s = 2 ∨ s = 3 ∨ s = 4) with rfl | rfl | rfl | rfl <;> rcases hw with ⟨rfl, rfl, rfl⟩ | ⟨rfl, rfl, rfl⟩ | ⟨rfl, rfl, rfl⟩ | ⟨rfl, rfl, rfl⟩ | ⟨rfl, rfl, rfl⟩ | ⟨rfl, rfl, rfl⟩ <;> decide
  by_cases c : x * s * (x * s) + y * s * (y * s) < r * r
  · exact led_in h.1 h.2.1 (by omega) (by omega) c
  · exact led_some h.1 h.2.1 (by omega) (by omega) h.2.2.1 h.2.2.2 (by omega)
theorem words40 : True := by
  k_with_none
  k_with "q" => (first | with_reducible assumption | omega)
  k_with "p0" => (exact trivial)
  k_with "p1" => (walk_at "tup")
  k_with "p2" => (exact ⟨by walk_at "tup", by walk_at "tup"⟩)
  k_with "u" => (exact ⟨by k_asm, by k_asm, by k_asm, by k_asm, by k_asm, by first | exact rfl | assumption⟩)
  k_with "r" => (first | exact room_in (by with_reducible assumption) (by with_reducible assumption) rfl rfl rfl | exact ⟨by ktr_room, by ktr_units⟩)
  k_with "e" => (((try k_sweep); (try dsimp only); (try k_fold)))
  k_with "e2" => ((intro D9 t9 u9 h' tk9 F' N' l1; (try k_lt l1); k_extra "e"))
  k_with "eI" => ((intro t9 h' tk9 F' N'; k_extra "e"))
  k_with "eB" => ((intro h' tk9 F' N'; k_extra "e"))
  k_with "eN" => ((intro h' tk9 F' N'; k_extra "e"))
  k_with "eO" => ((intro D9 h' tk9 F' N' T9 T9b; k_extra "e"))
  k_with "forget" => ((k_here; (with_reducible show wpAny _ _ _ _ _ (Shared.mk _ _ _ (_ + 1) _)); (first | k_dflt (refine forget (by with_reducible assumption) (by with_reducible assumption) (by with_reducible assumption) (by with_reducible assumption) (by rfl) (by rfl) (by rfl) (by rfl) ?_) | with_reducible refine forget_tk ?_); intro tk9))
  k_with "execs cons" => (k_extra "forget")
  k_with "execs nil" => (k_extra "forget")
  k_with "call ref" => ((k_here; (with_reducible show wpAny _ _ (call (Value.ref 67) _) _ _ _); k_dflt (refine Pass.useI (by k_extra "u") (by k_extra "p0") (cd_pass (by k_extra "q")) (by k_extra "r") ?_; k_whole); k_extra "eI"))
  k_with "subscriptTail Name Constant ref int" => ((k_here; k_dflt (refine tin (by k_asm) (by k_asm) (by walk_at "tup") (by rfl) ?_; k_whole); intro t9))
  k_with "call ref" => ((k_here; (with_reducible show wpAny _ _ (call (Value.ref 75) _) _ _ _); k_dflt (refine Pass.use2 (by k_extra "u") (by k_extra "p0") (fr_pass (by k_extra "q") (by k_extra "q")) (by k_extra "r") ?_; k_whole); k_extra "e2"))
  k_with "evi" => ((first | with_reducible exact EvI.lit | ((with_reducible show EvI _ (PySem.Expr.Subscript _ _ _) _); k_dflt (exact EvI.item (by exact rfl) (by exact rfl) (by exact rfl) (by exact rfl) (by walk_at "tup") (by exact rfl))) | ((with_reducible show EvI _ (PySem.Expr.Name _ _) _); k_dflt (exact EvI.name (by exact rfl) (by exact rfl) (by exact rfl) (by exact rfl))) | ((with_reducible show EvI _ (PySem.Expr.BinOp _ Operator.Mult _ _) _); with_reducible exact EvI.mul (by k_extra "evi") (by k_extra "evi") (by k_dflt mul_fits)) | ((with_reducible show EvI _ (PySem.Expr.BinOp _ Operator.Add _ _) _); with_reducible exact EvI.add (by k_extra "evi") (by k_extra "evi")) | ((with_reducible show EvI _ (PySem.Expr.BinOp _ Operator.Sub _ _) _); with_reducible exact EvI.sub (by k_extra "evi") (by k_extra "evi"))))
  k_with "eval BinOp" => ((k_here; k_dflt (refine evi_use (by k_asm) (by k_asm) (by k_extra "evi") ?_; k_whole); intro t9 tk9; (try dsimp only)))
  k_with "call ref" => ((k_here; (with_reducible show wpAny _ _ (call (Value.ref 110) _) _ _ _); k_dflt (refine Pass.useI (by k_extra "u") (by k_extra "p1") (sign_pass) (by k_extra "r") ?_; k_whole); k_extra "eI"))
  k_with "call ref" => ((k_here; (with_reducible show wpAny _ _ (call (Value.ref 89) _) _ _ _); k_dflt (refine Pass.use2 (by k_extra "u") (by k_extra "p2") (minus_pass (by k_extra "q") (by k_extra "q") (by k_extra "q") (by k_extra "q") (by k_extra "q") (by k_extra "q")) (by k_extra "r") ?_; k_whole); k_extra "e2"))
  k_with "call ref" => ((k_here; (with_reducible show wpAny _ _ (call (Value.ref 117) _) _ _ _); k_dflt (refine Pass.useI (by k_extra "u") (by k_extra "p2") (compare_pass (by k_extra "q") (by k_extra "q") (by k_extra "q") (by k_extra "q") (by k_extra "q") (by k_extra "q")) (by k_extra "r") ?_; k_whole); k_extra "eI"))
  k_with "call ref" => ((k_here; (with_reducible show wpAny _ _ (call (Value.ref 124) _) _ _ _); k_dflt (refine Pass.useI (by k_extra "u") (by k_extra "p1") (floor_pass (by k_extra "q") (by k_extra "q") (by k_extra "q")) (by k_extra "r") ?_; k_whole); k_extra "eI"))
  k_with "tup" => (first | ((with_reducible show TupIn _ _ 59 _ _); exact zero_in (by k_asm)) | ((with_reducible show TupIn _ _ 60 _ _); exact one_in (by k_asm)))
  k_with "compareOp NotIn str ref" => ((k_here; k_dflt (first | refine kind_in (by k_asm) (by k_asm) (by decide +kernel) ?_ | refine kind_out (by k_asm) (by k_asm) (by decide +kernel) ?_)))
  k_with "call ref" => ((k_here; (with_reducible show wpAny _ _ (call (Value.ref 75) _) _ _ _); k_dflt (refine Pass.use2 (by k_extra "u") (by k_extra "p0") (fr1_pass) (by k_extra "r") ?_; k_whole); k_extra "e2"))
  k_with "call ref" => ((k_here; (with_reducible show wpAny _ _ (call (Value.ref 167) _) _ _ _); k_dflt (refine Pass.useO (by k_extra "u") (by k_extra "p1") (padded_pass (by k_extra "q") (by k_extra "q") (by k_extra "q")) (by k_extra "r") ?_; k_whole); k_extra "eO"))
  k_with "call ref" => ((k_here; (with_reducible show wpAny _ _ (call (Value.ref 146) _) _ _ _); k_dflt (refine Pass.useN (by k_extra "u") (by k_extra "p0") (check_pad) (by k_extra "r") ?_; k_whole); k_extra "eN"))
  k_with "call ref" => ((k_here; (with_reducible show wpAny _ _ (call (Value.ref 146) _) _ _ _); k_dflt (refine Pass.useN (by k_extra "u") (by k_extra "p0") (check_repeat) (by k_extra "r") ?_; k_whole); k_extra "eN"))
  k_with "call ref" => ((k_here; (with_reducible show wpAny _ _ (call (Value.ref 146) _) _ _ _); k_dflt (refine Pass.useN (by k_extra "u") (by k_extra "p0") (check_reflect) (by k_extra "r") ?_; k_whole); k_extra "eN"))
  k_with "call ref" => ((k_here; (with_reducible show wpAny _ _ (call (Value.ref 153) _) _ _ _); k_dflt (refine Pass.use2 (by k_extra "u") (by k_extra "p1") (part_pass (by k_extra "q") (by k_extra "q") (by k_extra "q")) (by k_extra "r") ?_; k_whole); k_extra "e2"))
  k_with "call ref" => ((k_here; (with_reducible show wpAny _ _ (call (Value.ref 160) _) _ _ _); k_dflt (refine Pass.use2 (by k_extra "u") (by k_extra "p1") (refl_pass (by k_extra "q") (by k_extra "q") (by k_extra "q")) (by k_extra "r") ?_; k_whole); k_extra "e2"))
  k_with "call ref" => ((k_here; (with_reducible show wpAny _ _ (call (Value.ref 138) _) _ _ _); k_dflt (refine Pass.useI (by k_extra "u") (by k_extra "p0") (root_pass (by k_extra "q") (by k_extra "q")) (by k_extra "r") ?_; k_whole); k_extra "eI"))
  k_with "call ref" => ((k_here; (with_reducible show wpAny _ _ (call (Value.ref 96) _) _ _ _); k_dflt (refine Pass.use2 (by k_extra "u") (by k_extra "p2") (times_e (by k_extra "q") (by k_extra "q") (by k_extra "q")) (by k_extra "r") ?_; k_whole); k_extra "e2"))
  k_with "call ref" => ((k_here; (with_reducible show wpAny _ _ (call (Value.ref 82) _) _ _ _); k_dflt (refine Pass.use2 (by k_extra "u") (by k_extra "p2") (plus_e (by k_extra "q") (by k_extra "q") (by k_extra "q")) (by k_extra "r") ?_; k_whole); k_extra "e2"))
  k_with "call ref" => ((k_here; (with_reducible show wpAny _ _ (call (Value.ref 117) _) _ _ _); k_dflt (refine Pass.useI (by k_extra "u") (by k_extra "p2") (compare_f (by k_extra "q") (by k_extra "q")) (by k_extra "r") ?_; k_whole); k_extra "eI"))
  k_with "call ref" => ((k_here; (with_reducible show wpAny _ _ (call (Value.ref 131) _) _ _ _); k_dflt (refine Pass.useI (by k_extra "u") (by k_extra "p1") (rounded_f (by k_extra "q")) (by k_extra "r") ?_; k_whole); k_extra "eI"))
  k_with "subscriptTail Name Constant ref int" => ((k_here; k_dflt (refine lin (by k_asm) (List.Mem.head _) (by rfl) ?_; k_whole); intro t9))
  k_with "eT" => ((intro v9 vt9 x9 t9 y9 u9 h' tk9 b1 b2 b3 b4 b5 F' N'; (try dsimp only at N'); k_extra "e"))
  k_with "call ref" => ((k_here; (with_reducible show wpAny _ _ (call (Value.ref 216) _) _ _ _); k_dflt (refine use_take (by k_extra "u") (by k_updF) (by k_extra "q") (by k_extra "q") (by k_extra "q") (by k_extra "q") (by k_extra "q") (by k_extra "r") ?_; k_whole); k_extra "eT"))
  k_with "p3" => (exact ⟨by walk_at "tupR", by walk_at "tup", by walk_at "tup"⟩)
  k_with "subscriptTail Name Constant ref int" => ((k_here; k_dflt (refine trin (by k_asm) (by k_asm) (by walk_at "tupR") (by rfl) ?_; k_whole)))
  k_with "call ref" => ((k_here; (with_reducible show wpAny _ _ (call (Value.ref 96) _) _ _ _); k_dflt (refine Pass.use2 (by k_extra "u") (by k_extra "p2") (times1_e (by k_extra "q") (by k_extra "q") (by k_extra "q")) (by k_extra "r") ?_; k_whole); k_extra "e2"))
  k_with "call ref" => ((k_here; (with_reducible show wpAny _ _ (call (Value.ref 82) _) _ _ _); k_dflt (refine Pass.use2 (by k_extra "u") (by k_extra "p2") (plus1_e (by k_extra "q") (by k_extra "q") (by k_extra "q")) (by k_extra "r") ?_; k_whole); k_extra "e2"))
  k_with "call builtin:len" => ((k_here; k_dflt (refine len_in (by k_asm) (List.mem_cons_of_mem _ (by with_reducible assumption)) (by with_reducible assumption) ?_)))
  k_with "subscriptTail Name Call" => ((k_here; k_dflt (refine item_any (by k_asm) (List.mem_cons_of_mem _ (by with_reducible assumption)) (by omega) (by omega) (by omega) ?_; k_whole); intro x8 i8 e8))
  k_with "ru" => (first | exact room_eq (by with_reducible assumption) rfl rfl | ktr_units)
  k_with "compareOp Eq ref ref" => ((k_here; k_dflt (refine eq_tup (by k_asm) (by k_asm) (by walk_at "tup") (by walk_at "tup") (by k_extra "ru") (by first | with_reducible assumption | exact ⟨rfl, rfl⟩) ?_)))
  k_with "call ref" => ((k_here; (with_reducible show wpAny _ _ (call (Value.ref 188) _) _ _ _); k_dflt (refine Pass.use2 (by k_extra "u") (by k_extra "p3") (product_e (by k_extra "q") (by k_extra "q") (by k_extra "q") (by k_extra "q") (by k_extra "q") (by k_extra "q") (by k_extra "q")) (by k_extra "r") ?_; k_whole); k_extra "e2"))
  k_with "call ref" => ((k_here; (with_reducible show wpAny _ _ (call (Value.ref 195) _) _ _ _); k_dflt (refine Pass.use2 (by k_extra "u") (by k_extra "p1") (rootof_e (by k_extra "q") (by k_extra "q")) (by k_extra "r") ?_; k_whole); k_extra "e2"))
  k_with "call ref" => ((k_here; (with_reducible show wpAny _ _ (call (Value.ref 75) _) _ _ _); k_dflt (refine Pass.use2 (by k_extra "u") (by k_extra "p0") (fr_e (by k_extra "q") (by k_extra "q") (by k_extra "q")) (by k_extra "r") ?_; k_whole); k_extra "e2"))
  k_with "call ref" => ((k_here; (with_reducible show wpAny _ _ (call (Value.ref 103) _) _ _ _); k_dflt (refine Pass.use2 (by k_extra "u") (by k_extra "p2") (divided_e (by k_extra "q") (by k_extra "q") (by k_extra "q") (by k_extra "q")) (by k_extra "r") ?_; k_whole); k_extra "e2"))
  k_with "setAttr ref" => ((k_here; k_dflt (refine sx_set (by k_asm) (by exact Frag.In.keeps (by k_asm) (Fr.keep (by k_asm))) (by k_asm) (by assumption) (by exact rfl) (by exact rfl) (by exact rfl) (by exact rfl) (by exact rfl) (by exact rfl) (by exact rfl) (by exact mill_passes) (by exact rfl) ?_; k_whole); intro d9 od9 h' tk9 F' N' l9a l9b; (try dsimp only)))
  k_with "exec Raise some none" => ((k_here; (with_reducible show wpAny _ _ (exec (Stmt.Raise (some (Expr.Call (Expr.Name (Str.ofString "SheetFault") _) _ _ _)) none _) _) _ _ _); k_dflt (refine sheet_raise rfl ?_)))
  k_with "compareOp NotIn none ref" => ((k_here; k_dflt (refine kind_none (by k_asm) (by k_asm) ?_)))
  k_with "SxRaised" => ((k_dflt (refine ⟨_, _, _, _, _, _, _, _, rfl, (by k_asm), (by k_asm), (by k_asm), (by assumption), (by assumption), ?_⟩); (try dsimp only)))
  k_with "leaving ref" => ((k_here; k_dflt (refine sx_leave (by assumption) (by assumption) (by k_asm) (List.Mem.head _) (List.Mem.tail _ (List.Mem.head _)) (by assumption) (by assumption) (by exact rfl) (by exact rfl) (by exact news_off (by assumption) (by assumption)) ?_ (by exact rfl); k_whole); intro h' S' R' U'; (try dsimp only at S' R' U' ⊢)))
  k_with "call ref" => ((k_here; (with_reducible show wpAny _ _ (call (Value.ref 56) [Value.str _ _]) _ _ _); k_dflt (refine use_sheet (by k_asm) (by k_asm) (by k_asm) (by k_asm) (by k_asm) (by first | exact rfl | assumption) (by ktr_room) (by ktr_units) ?_; k_whole); intro e9 t9 oe9 h' tk9 F' N' c9 d9 l1 l2; (try dsimp only); (try k_fold)))
  k_with "call ref" => ((k_here; (with_reducible show wpAny _ _ (call (Value.ref 174) _) _ _ _); k_dflt (refine wpAny_call ?_; walk_at "enterS")))
  k_with "call ref" => ((k_here; (with_reducible show wpAny _ _ (call (Value.ref 146) _) _ _ _); k_dflt (refine wpAny_call ?_; walk_at "enterS")))
  k_with "compareOp NotIn str ref" => ((k_here; k_dflt (refine kind_out (by k_asm) (by k_asm) (by with_reducible assumption) ?_)))
  k_with "binaryOp Add str str" => ((k_here; k_dflt (refine PyProof.Rows.add_str ?_ (by assumption)); intro t9 tk9))
  k_with "rf" => (first | with_reducible exact rfl | with_reducible assumption)
  k_with "p4" => (exact ⟨by walk_at "tupR", by walk_at "tup", by walk_at "tup", by walk_at "tup"⟩)
  k_with "eRf" => (k_extra "eB")
  k_with "eRo" => ((intro D9 p9 q9 t9 u9 t8 u8 h' tk9 F' N'; k_extra "e"))
  k_with "compareOp Eq ref ref" => ((k_here; k_dflt (refine eq_tupR (by k_asm) (by k_asm) (by walk_at "tupR") (by walk_at "tup") (by walk_at "tup") (by walk_at "tupR") (by walk_at "tup") (by walk_at "tup") (by k_extra "ru") (by k_extra "rf") (by k_extra "rf") (by k_extra "rf") (by k_extra "rf") ?_)))
  k_with "call ref" => ((k_here; (with_reducible show wpAny _ _ (call (Value.ref 202) _) _ _ _); k_dflt (refine Pass.useRo (by k_extra "u") (by k_extra "p4") (focus_out' (by k_extra "q") (by k_extra "q") (by k_extra "q") (by k_extra "q") (by k_extra "q") (by k_extra "q") (by k_extra "q")) (by k_extra "r") ?_; k_whole); k_extra "eRo"))
  trivial
theorem likeL {w mean mg mb news} {a : Addr} {x y : Int} {tx ty : Tok} (hy : 0 < y) (hb : y < 1000000000000000000000000000000) :
    Pass w mean mg mb 237 12 [.ref a, .int x tx, .int y ty] news (fun h₀ => TupIn h₀ news a (nm x y).1 (nm x y).2) (RB news true) := like_pass hy hb ⟨rfl, rfl⟩
local macro_rules | `(tactic| walk_at "exec For Name Call cons nil") => `(tactic| (k_here; (rename Fr _ _ _ _ => lF'); (with_unfolding_all refine' For_invVF lF' ?k1 ?k2 ?_; (case k1 => exact rfl); (case k2 => exact rfl); k_whole)))
local macro_rules | `(tactic| walk_at "pyIter ref") => `(tactic| (k_here; (with_unfolding_all refine' law_turns ?hh ?hr ?hb ?F ?N ?hm ?hx ?hy ?hy2 ?hs ?_ ?_; (case hh => exact rfl); (case hr => assumption); (case hb => omega); (case F => k_asm); (case N => k_asm); (case hm => k_mem); (case hx => assumption); (case hy => assumption); (case hy2 => assumption); (case hs => exact rfl)); rotate_left; (intro x9 t9 y9 u9 v9 h' tk9 b1 b2 b3 F' N'); rotate_left; (intro k9 kt9 x9 t9 y9 u9 v9 h' tk9 own9 hoff9 b1 b2 b3 F' N'); (all_goals (try dsimp only)); (all_goals (try k_fold))))
theorem reg4001 : True := by
  k_with "call ref" => ((k_here; (with_reducible show wpAny _ _ (call (Value.ref 75) _) _ _ _); k_dflt (refine Pass.use2 (by k_extra "u") (by k_extra "p0") (fr_pass (by k_extra "q") (by k_extra "q")) (by k_extra "r") ?_; k_whole); k_extra "e2"))
  k_with "call ref" => ((k_here; (with_reducible show wpAny _ _ (call (Value.ref 174) _) _ _ _); k_dflt (refine Pass.use2 (by k_extra "u") (by k_extra "p1") (refl_54) (by k_extra "r") ?_; k_whole); k_extra "e2"))
  k_with "call ref" => ((k_here; (with_reducible show wpAny _ _ (call (Value.ref 174) _) _ _ _); k_dflt (refine Pass.use2 (by k_extra "u") (by k_extra "p1") (refl_14) (by k_extra "r") ?_; k_whole); k_extra "e2"))
  k_with "call ref" => ((k_here; (with_reducible show wpAny _ _ (call (Value.ref 174) _) _ _ _); k_dflt (refine Pass.use2 (by k_extra "u") (by k_extra "p1") (rep_14) (by k_extra "r") ?_; k_whole); k_extra "e2"))
  k_with "call ref" => ((k_here; (with_reducible show wpAny _ _ (call (Value.ref 181) _) _ _ _); k_dflt (refine Pass.useI (by k_extra "u") (by k_extra "p1") (betL (by k_extra "q") (by k_extra "q") (by k_extra "q")) (by k_extra "r") ?_; k_whole); k_extra "eI"))
  k_with "call ref" => ((k_here; (with_reducible show wpAny _ _ (call (Value.ref 237) _) _ _ _); k_dflt (refine Pass.useB (by k_extra "u") (by k_extra "p1") (likeL (by k_extra "q") (by k_extra "q")) (by k_extra "r") ?_; k_whole); k_extra "eB"))
  k_with "call ref" => ((k_here; (with_reducible show wpAny _ _ (call (Value.ref 251) _) _ _ _); k_dflt (refine Pass.useB (by k_extra "u") (by k_extra "p0") (rootright_pass (by k_extra "q") (by k_extra "q") (by k_extra "q")) (by k_extra "r") ?_; k_whole); k_extra "eB"))
  k_with "call ref" => ((k_here; (with_reducible show wpAny _ _ (call (Value.ref 258) _) _ _ _); k_dflt (refine Pass.useB (by k_extra "u") (by k_extra "p0") (ledN (by k_extra "q") (by k_extra "q") (by k_extra "q") (by k_extra "q")) (by k_extra "r") ?_; k_whole); k_extra "eB"))
  k_with "call ref" => ((k_here; (with_reducible show wpAny _ _ (call (Value.ref 258) _) _ _ _); k_dflt (refine Pass.useB (by k_extra "u") (by k_extra "p0") (ledL (by k_extra "q") (by k_extra "q") (by k_extra "q") (by k_extra "q")) (by k_extra "r") ?_; k_whole); k_extra "eB"))
  k_with "call ref" => ((k_here; (with_reducible show wpAny _ _ (call (Value.ref 230) _) _ _ _); k_dflt (refine Pass.use2 (by k_extra "u") (by k_extra "p0") (place_any (by k_extra "q") (by k_extra "q") (by k_extra "q")) (by k_extra "r") ?_; k_whole); k_extra "e2"))
  k_with "subscriptTail Name Constant ref int" => ((k_here; k_dflt (refine tin (by k_asm) (by k_asm) (by walk_at "tup") (by rfl) ?_; k_whole); intro t9))
  k_with "tup" => (((with_reducible show TupIn _ (_ ++ _) _ _ _); first | with_reducible assumption | (with_reducible exact TupIn.app (by walk_at "tup"))))
  k_with "call ref" => ((k_here; (with_reducible show wpAny _ _ (call (Value.ref 174) _) _ _ _); k_dflt (refine Pass.useX (by k_extra "u") (by k_extra "p1") (spread_any (by k_extra "q") (by k_extra "q") (by k_extra "q")) (by k_extra "r") ?_; k_whole); intro D9 xs9 h' tk9 F' N' T9; (try dsimp only); (try k_fold)))
  k_with "call ref" => ((k_here; (with_reducible show wpAny _ _ (call (Value.ref 244) _) _ _ _); k_dflt (refine refused_any (by k_extra "u") (by with_reducible assumption) (by k_extra "r") ?_; k_whole); k_extra "eB"))
  k_with "call ref" => ((k_here; (with_reducible show wpAny _ _ (call (Value.ref 209) _) _ _ _); k_dflt (refine use_pool (by k_extra "u") (by assumption) (by assumption) (by ((have hb9 := len_ints_list (by lay_of)); omega)) (by k_extra "r") ?_; k_whole); intro D9 x9 t9 y9 u9 h' tk9 F' N' b1 b2 b3; (try dsimp only); (try k_fold)))
  k_with "call ref" => ((k_here; (with_reducible show wpAny _ _ (call (Value.ref 223) _) _ _ _); k_dflt (refine use_way (by k_extra "u") (by k_updF) (by k_extra "q") (by k_extra "q") (by k_extra "q") (by k_mem) (by k_ne) (by exact ⟨Nat.le_of_ble_eq_true rfl, Nat.le_of_ble_eq_true rfl⟩) (by first | ((repeat' (first | exact List.forall_mem_nil _ | (with_reducible refine List.forall_mem_cons.mpr ⟨?_, ?_⟩) | exact isWayN (by k_mem) (by unfold WayN; decide) | exact isWayL (by k_mem) (by unfold WayL; decide))); done) | fail "no") (by k_extra "r") ?_ ?_; k_whole); (rotate_left; (intro b9 x9 t9 y9 u9 l9 tl9 h' tk9 hw9 F' N'); rotate_left; (intro b9 x9 t9 y9 u9 h' tk9 hw9 F' N')); (all_goals (try dsimp only at N')); (all_goals (k_extra "e"))))
  k_with "call ref" => ((k_here; (with_reducible show wpAny _ _ (call (Value.ref 223) _) _ _ _); k_dflt (refine use_parts (by k_extra "u") (by k_updF) (by k_extra "q") (by k_extra "q") (by k_extra "q") (by k_mem) (by k_ne) (by exact ⟨Nat.le_of_ble_eq_true rfl, Nat.le_of_ble_eq_true rfl⟩) (by first | ((repeat' (first | exact List.forall_mem_nil _ | (with_reducible refine List.forall_mem_cons.mpr ⟨?_, ?_⟩) | exact isParts1 (by decide))); done) | fail "no") (by k_extra "r") ?_; k_whole); (intro i9 v9 x9 t9 y9 u9 h' tk9 hw9 b1 b2 b3 F' N'); (all_goals (try dsimp only at N')); (all_goals (k_extra "e"))))
  k_with "call ref" => ((k_here; (with_reducible show wpAny _ _ (call (Value.ref 223) _) _ _ _); k_dflt (refine use_word (by k_extra "u") (by k_updF) (by k_extra "q") (by k_extra "q") (by k_extra "q") (by k_mem) (by k_ne) (by exact ⟨Nat.le_of_ble_eq_true rfl, Nat.le_of_ble_eq_true rfl⟩) (by first | ((repeat' (first | exact List.forall_mem_nil _ | (with_reducible refine List.forall_mem_cons.mpr ⟨?_, ?_⟩) | with_reducible exact isWord1 | with_reducible exact isWord2 | with_reducible exact isWord3 | with_reducible exact isWord4 | with_reducible exact isWord5)); done) | fail "no") (by k_extra "r") ?_; k_whole); (intro r9 x9 t9 y9 u9 h' tk9 hw9 b1 b2 b3 F' N'); (all_goals (try dsimp only at N')); (all_goals (k_extra "e"))))
  k_with "call ref" => ((k_here; (with_reducible show wpAny _ _ (call (Value.ref 223) _) _ _ _); k_dflt (refine use_kind (by k_extra "u") (by k_updF) (by k_extra "q") (by k_extra "q") (by k_extra "q") (by k_mem) (by k_ne) (by exact ⟨Nat.le_of_ble_eq_true rfl, Nat.le_of_ble_eq_true rfl⟩) (by first | ((repeat' (first | exact List.forall_mem_nil _ | (with_reducible refine List.forall_mem_cons.mpr ⟨?_, ?_⟩) | with_reducible exact isKind1 | with_reducible exact isKind2 | with_reducible exact isKind3)); done) | fail "no") (by k_extra "r") ?_; k_whole); (intro r9 x9 t9 y9 u9 h' tk9 hw9 b1 b2 b3 F' N'); (all_goals (try dsimp only at N')); (all_goals (k_extra "e"))))
  trivial
set_option maxRecDepth 100000 in
set_option maxHeartbeats 8000000 in
theorem law_holds : PySem.Challenge.rw_on0231_01.Holds := hd (by
  k_go0
  all_goals try k_fold
  k_steps
  all_goals (k_dflt (refine' law_turn_end ?F ?N ?hm ?ho ?hx ?hy ?hy2 ?hr ?e9x; (case e9x => exact rfl); (case F => k_asm); (case N => k_asm); (case hm => first | k_mem | exact List.mem_append_right _ (by k_mem)); (case ho => (intro p9 hp9; kst_mem)); (case hx => assumption); (case hy => assumption); (case hy2 => assumption); (case hr => exact rfl))))
end Mine
theorem PySem.Challenge.cw_on0231_01_holds : PySem.Challenge.rw_on0231_01.Holds := by
  exact Mine.law_holds
