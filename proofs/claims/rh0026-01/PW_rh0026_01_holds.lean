import PyProof.Rows.All
import Wide.All
import OpenK.AllK
import Wide.FinOn
import Lean
import PySem.Challenge.RW_rh0026_01
open PySem PySem.W PyProof.Rows PySem.Spec PySem.Calls
set_option Elab.async false
set_option maxRecDepth 100000
set_option maxHeartbeats 0
namespace Mine
section
/-- the text's defs and constants: its body without its remarks and its modules' names -/
def view : Program :=
  { (PySem.Challenge.rw_rh0026_01).row.toRowW.prog with main := { (PySem.Challenge.rw_rh0026_01).row.toRowW.prog.main with body :=
    [1, 3, 5, 7, 8, 9, 10, 11, 12, 13, 14, 15, 16, 17, 18, 19, 20, 22, 23, 24, 25, 26, 27, 28, 29, 30, 32, 33, 34, 35, 36].filterMap fun i => (PySem.Challenge.rw_rh0026_01).row.toRowW.prog.main.body[i]? } }
section
local macro_rules | `(tactic| o_law) => `(tactic| refine holds_law (by decide +kernel) fun said => ?_)
local macro_rules | `(tactic| o_head $H) => do
  let (hl, hw, hc) := (Lean.mkIdent `hl, Lean.mkIdent `hw, Lean.mkIdent `hc)
  `(tactic| (
    refine W.holds_open (q := view) (loose := []) (Xt := fun s => xlAt view [] s && recOk (RowW.records (PySem.Challenge.rw_rh0026_01).row.toRowW) s) (XP := XL view []) (Yf := Hook.obs $H) (Ya := Hook.val $H) (YP := Hook.says $H) (N := 2238) ?$hl
      (Hook.of $H) (Hook.keeps $H) (fun s e => xl_of s (Bool.and_eq_true_iff.mp e).1) XL.keeps (by rfl) (by rfl) (by rfl) (fun s e => recFacts_of (Bool.and_eq_true_iff.mp e).2) (by rfl) (by assumption) (by decide +kernel) ⟨rfl, rfl, rfl, rfl, rfl, by decide +kernel⟩ ?$hw ?$hc
    · (intro w; kernel_rfl)))
open_top hd for PySem.Challenge.rw_rh0026_01
end
end
section
abbrev tupO (l : List Value) : Obj := { cls := .type "tuple", data := .seq l.toArray }
abbrev lstO (l : List Value) : Obj := { cls := .type "list", data := .seq l.toArray }
abbrev S (x : String) (t : Tok) : Value := .str (Str.ofString x) t
abbrev pr : Program := (PySem.Challenge.rw_rh0026_01).row.prog
abbrev Led := List (Addr × Obj)

/-- a contract: f called with vs; before: what the ledger bears; behind: the ledger and the answer -/
def Con (dp un : Nat) (w : World) (f : Addr) (Pre : Led → List Value → (Led → Value → Prop) → Prop) : Prop :=
  ∀ (loose : List Str) (mean : ExcName → Option Value) (mg mb : Str → Option Value) (cn : Str) (cs : Scope) (a : Addr) (ccd : Value) (cl : List (Str × Addr)) (outer : List Env) (A₀ : Around) (base h₀ : Heap) (L : Addr) (m : Str → Option Value) (news : Led) (s : Shared) (vs : List Value)
    (Q E : Value → Shared → Prop) (Post : Led → Value → Prop),
    Below A₀ base outer h₀ → Fr h₀ L s.heap m → (hd.heap_1 w.params).In h₀ → News h₀ L s.heap news → Top topProg loose mean mg mb h₀ → cs.kind = .function → Pre news vs Post →
    (∀ r news' h' tk', Fr h₀ L h' m → News h₀ L h' news' → Post news' r → Q r { s with heap := h', toks := tk' }) →
    wpAny (model (PySem.Challenge.rw_rh0026_01).row.prog w) (ktrTop dp un none cn cs L a ccd cl outer) (call (.ref f) vs) Q E s

theorem in_weak {Γ : PySem.Ctx} {A A' : Around} (h : Γ.In A) (h1 : A'.handled = A.handled) (h2 : A.depth ≤ A'.depth) (h3 : A'.frames = A.frames) (h4 : A'.guards = none) (h5 : A.units ≤ A'.units) : Γ.In A' := by
  refine ⟨h.1.trans h1.symm, Nat.le_trans h.2.1 h2, fun l e => h.2.2.1 l (h3 ▸ e), ?_, Nat.le_trans h.2.2.2.2 h5⟩
  intro g e
  rw [h4] at e
  cases e
theorem wp_weak {α : Type} {M : Model} {A A' : Around} {t : Sem α} {Q E s} (h : wpAny M A' t Q E s) (h1 : A'.handled = A.handled) (h2 : A.depth ≤ A'.depth) (h3 : A'.frames = A.frames) (h4 : A'.guards = none) (h5 : A.units ≤ A'.units) : wpAny M A t Q E s :=
  fun Γ p hΓ => h Γ p (in_weak hΓ h1 h2 h3 h4 h5)
theorem con_use {dp un : Nat} {w : World} {f : Addr} {Pre} (C : Con dp un w f Pre) {loose : List Str} {mean : ExcName → Option Value} {mg mb : Str → Option Value} {env : Env} {cn : Str} {cs : Scope} {a : Addr} {ccd : Value} {cl : List (Str × Addr)} {outer : List Env} {A A₀ : Around} {base h₀ : Heap} {L : Addr} {m : Str → Option Value} {news : Led} {s : Shared} {vs : List Value}
    {Q E : Value → Shared → Prop} (Post : Led → Value → Prop)
    (B : Below A₀ base outer h₀) (F : Fr h₀ L s.heap m) (X : (hd.heap_1 w.params).In h₀) (N : News h₀ L s.heap news) (T : Top topProg loose mean mg mb h₀) (he : env = envX cn cs L a ccd cl) (hk : cs.kind = .function)
    (hA1 : A.handled = none) (hA2 : A.depth ≤ dp) (hA3 : A.units ≤ un) (hA : A.frames = some (env :: outer)) (hp : Pre news vs Post)
    (k : ∀ r news' h' tk', Fr h₀ L h' m → News h₀ L h' news' → Post news' r → Q r { s with heap := h', toks := tk' }) :
    wpAny (model (PySem.Challenge.rw_rh0026_01).row.prog w) A (call (.ref f) vs) Q E s :=
  wp_weak (C loose mean mg mb cn cs a ccd cl outer A₀ base h₀ L m news s vs Q E Post B F X N T hk hp k) (by rw [hA1]) hA2 (by rw [hA, he]) rfl hA3

theorem news_sub {h₀ h : Heap} {L : Addr} {l l' : Led} (N : News h₀ L h l) (hs : ∀ p ∈ l', p ∈ l) : News h₀ L h l' := fun p hp => N p (hs p hp)
end
section
abbrev lstK (l : List Value) (k : Nat) : Obj := { cls := .type "list", data := .seq l.toArray k }
section
local macro_rules | `(tactic| k_all) => `(tactic| assumption)
theorem take_ok {w : World} : Con 660 1600 w 174 (fun news vs Post => ∃ (box l : Addr) (c many : Int) (tc tm : Tok) (ws : List Value) (kw : Nat) (ns : List Int) (rest : Led),
    news = (box, lstO [.ref l, .int c tc]) :: (l, lstK ws kw) :: rest ∧ @Ne Nat box l ∧ (∀ p ∈ rest, p.1 ≠ box) ∧ IntsAre ws ns ∧ ns.length < 2 ^ 20 ∧ 0 ≤ c ∧ c < 1000 ∧ 0 < many ∧ many < 1000 ∧ vs = [.ref box, .int many tm] ∧
    ∀ r t tc', 0 ≤ r → r < many → Post ((box, lstO [.ref l, .int (c + 1) tc']) :: (l, lstK ws kw) :: rest) (.int r t)) := by
  unfold Con; k_fill
  intro loose mean mg mb cn cs a ccd cl outer A₀ base h₀ L m news s vs Q E Post B F X N T hk hR hret
  obtain ⟨box, l, c, many, tc, tm, ws, kw, ns, rest, rfl, hbl, hbr, hI, hn, h0, h1, h2, h3, rfl, hP⟩ := hR
  refine wpAny_call ?_
  k_dflt ktr_enter
  k_steps
  all_goals exact hret _ _ _ _ (by k_asm) (by k_asm) (hP _ _ _ (Int.fmod_nonneg_of_pos _ h2) (Int.fmod_lt_of_pos _ h2))
end
end
section
theorem codeHd {w : World} {h : Heap} (X : (hd.heap_1 w.params).In h) : CodeHd h 187 183 := by
  have e : ∃ o, (hd.heap_1 w.params).lookup 187 = some o ∧ ∃ vs file tf flags tg inF text tt, o.cls = .type "code" ∧ o.data = .fields vs ∧ vs[11]? = some (.ref 183) ∧ vs.getD 11 .none = .ref 183 ∧ vs.getD 18 .none = .str file tf ∧
    vs.getD 7 .none = .int flags tg ∧ vs.getD 9 .none = .bool inF ∧ vs.getD 10 .none = .int text tt := by
    with_unfolding_all exact ⟨_, rfl, _, _, _, _, _, _, _, _, rfl, rfl, rfl, rfl, rfl, rfl, rfl, rfl⟩
  obtain ⟨o, hl, vs, file, tf, flags, tg, inF, text, tt, a1, a2, a3, a4, a5, a6, a7, a8⟩ := e
  exact ⟨o, vs, file, tf, flags, tg, inF, text, tt, X _ _ hl, a1, a2, a3, a4, a5, a6, a7, a8, by decide⟩
end
section
theorem take_use {w : World} {loose : List Str} {mean : ExcName → Option Value} {mg mb : Str → Option Value} {env : Env} {cn : Str} {cs : Scope} {a : Addr} {ccd : Value} {cl : List (Str × Addr)} {outer : List Env} {A A₀ : Around} {base h₀ : Heap} {L : Addr} {m : Str → Option Value} {all rest : Led} {s : Shared} {box l : Addr} {c many : Int} {tc tm : Tok} {ws : List Value} {kw : Nat} {ns : List Int}
    {Q E : Value → Shared → Prop}
    (B : Below A₀ base outer h₀) (F : Fr h₀ L s.heap m) (X : (hd.heap_1 w.params).In h₀) (N : News h₀ L s.heap all) (T : Top topProg loose mean mg mb h₀) (he : env = envX cn cs L a ccd cl) (hk : cs.kind = .function)
    (hA1 : A.handled = none) (hA2 : A.depth ≤ 660) (hA3 : A.units ≤ 1600) (hA : A.frames = some (env :: outer)) (hsub : ∀ p ∈ (box, lstO [.ref l, .int c tc]) :: (l, lstK ws kw) :: rest, p ∈ all) (hbl : @Ne Nat box l) (hbr : ∀ p ∈ rest, p.1 ≠ box) (hI : IntsAre ws ns) (hn : ns.length < 2 ^ 20) (h0 : 0 ≤ c) (h1 : c < 1000) (h2 : 0 < many) (h3 : many < 1000)
    (k : ∀ r t tc' h' tk', 0 ≤ r → r < many → Fr h₀ L h' m → News h₀ L h' ((box, lstO [.ref l, .int (c + 1) tc']) :: (l, lstK ws kw) :: rest) → Q (.int r t) { s with heap := h', toks := tk' }) :
    wpAny (model (PySem.Challenge.rw_rh0026_01).row.prog w) A (call (.ref 174) [.ref box, .int many tm]) Q E s :=
  con_use take_ok (fun nw r => ∃ x t tc', nw = (box, lstO [.ref l, .int (c + 1) tc']) :: (l, lstK ws kw) :: rest ∧ r = .int x t ∧ 0 ≤ x ∧ x < many) B F X (news_sub N hsub) T he hk hA1 hA2 hA3 hA
    ⟨box, l, c, many, tc, tm, ws, kw, ns, rest, rfl, hbl, hbr, hI, hn, h0, h1, h2, h3, rfl, fun r t tc' q1 q2 => ⟨r, t, tc', rfl, rfl, q1, q2⟩⟩ fun r nw h' tk' F' N' e => by
    obtain ⟨x, t, tc', rfl, rfl, q1, q2⟩ := e
    exact k x t tc' h' tk' q1 q2 F' N'
theorem take_useP {w : World} (pre : Led) {loose : List Str} {mean : ExcName → Option Value} {mg mb : Str → Option Value} {env : Env} {cn : Str} {cs : Scope} {a : Addr} {ccd : Value} {cl : List (Str × Addr)} {outer : List Env} {A A₀ : Around} {base h₀ : Heap} {L : Addr} {m : Str → Option Value} {tail : Led} {s : Shared} {box l : Addr} {c many : Int} {tc tm : Tok} {ws : List Value} {kw : Nat} {ns : List Int}
    {Q E : Value → Shared → Prop}
    (B : Below A₀ base outer h₀) (F : Fr h₀ L s.heap m) (X : (hd.heap_1 w.params).In h₀) (N : News h₀ L s.heap (pre ++ (box, lstO [.ref l, .int c tc]) :: (l, lstK ws kw) :: tail)) (T : Top topProg loose mean mg mb h₀) (he : env = envX cn cs L a ccd cl) (hk : cs.kind = .function)
    (hA1 : A.handled = none) (hA2 : A.depth ≤ 660) (hA3 : A.units ≤ 1600) (hA : A.frames = some (env :: outer)) (hbl : @Ne Nat box l) (hpr : ∀ p ∈ pre, p.1 ≠ box) (hbr : ∀ p ∈ tail, p.1 ≠ box) (hI : IntsAre ws ns) (hn : ns.length < 2 ^ 20) (h0 : 0 ≤ c) (h1 : c < 1000) (h2 : 0 < many) (h3 : many < 1000)
    (k : ∀ r t tc' h' tk', 0 ≤ r → r < many → Fr h₀ L h' m → News h₀ L h' (pre ++ (box, lstO [.ref l, .int (c + 1) tc']) :: (l, lstK ws kw) :: tail) → Q (.int r t) { s with heap := h', toks := tk' }) :
    wpAny (model (PySem.Challenge.rw_rh0026_01).row.prog w) A (call (.ref 174) [.ref box, .int many tm]) Q E s := by
  refine take_use (tc := tc) (ws := ws) (kw := kw) (rest := pre ++ tail) B F X N T he hk hA1 hA2 hA3 hA (fun p hp => ?_) hbl (fun p hp => ?_) hI hn h0 h1 h2 h3 (fun r t tc' h' tk' q1 q2 F' N' => k r t tc' h' tk' q1 q2 F' (news_sub N' fun p hp => ?_))
  · rcases List.mem_cons.mp hp with rfl | hp
    · exact List.mem_append_right _ (.head _)
    rcases List.mem_cons.mp hp with rfl | hp
    · exact List.mem_append_right _ (.tail _ (.head _))
    rcases List.mem_append.mp hp with hp | hp
    · exact List.mem_append_left _ hp
    · exact List.mem_append_right _ (.tail _ (.tail _ hp))
  · rcases List.mem_append.mp hp with hp | hp
    · exact hpr p hp
    · exact hbr p hp
  · rcases List.mem_append.mp hp with hp | hp
    · exact .tail _ (.tail _ (List.mem_append_left _ hp))
    rcases List.mem_cons.mp hp with rfl | hp
    · exact .head _
    rcases List.mem_cons.mp hp with rfl | hp
    · exact .tail _ (.head _)
    · exact .tail _ (.tail _ (List.mem_append_right _ hp))
theorem take_useQ {w : World} (pre : Led) {K : Addr} {loose : List Str} {mean : ExcName → Option Value} {mg mb : Str → Option Value} {env : Env} {cn : Str} {cs : Scope} {a : Addr} {ccd : Value} {cl : List (Str × Addr)} {outer : List Env} {A A₀ : Around} {base h₀ : Heap} {L : Addr} {m : Str → Option Value} {tail : Led} {s : Shared} {box l : Addr} {c many : Int} {tc tm : Tok} {ws : List Value} {kw : Nat} {ns : List Int}
    {Q E : Value → Shared → Prop}
    (B : Below A₀ base outer h₀) (F : Fr h₀ L s.heap m) (X : (hd.heap_1 w.params).In h₀) (N : News h₀ L s.heap (pre ++ (box, lstO [.ref l, .int c tc]) :: (l, lstK ws kw) :: tail)) (T : Top topProg loose mean mg mb h₀) (he : env = envX cn cs L a ccd cl) (hk : cs.kind = .function)
    (hA1 : A.handled = none) (hA2 : A.depth ≤ 660) (hA3 : A.units ≤ 1600) (hA : A.frames = some (env :: outer)) (hbl : @Ne Nat box l) (hbK : @LT.lt Nat _ box K) (hge : ∀ p ∈ pre, @LE.le Nat _ K p.1) (hbr : ∀ p ∈ tail, p.1 ≠ box) (hI : IntsAre ws ns) (hn : ns.length < 2 ^ 20) (h0 : 0 ≤ c) (h1 : c < 1000) (h2 : 0 < many) (h3 : many < 1000)
    (k : (∀ p ∈ pre, @LE.le Nat _ K p.1) → ∀ r t tc' h' tk', 0 ≤ r → r < many → Fr h₀ L h' m → News h₀ L h' (pre ++ (box, lstO [.ref l, .int (c + 1) tc']) :: (l, lstK ws kw) :: tail) → Q (.int r t) { s with heap := h', toks := tk' }) :
    wpAny (model (PySem.Challenge.rw_rh0026_01).row.prog w) A (call (.ref 174) [.ref box, .int many tm]) Q E s :=
  take_useP pre B F X N T he hk hA1 hA2 hA3 hA hbl (fun p hp => Nat.ne_of_gt (Nat.lt_of_lt_of_le hbK (hge p hp))) hbr hI hn h0 h1 h2 h3 (k hge)
/-- the thing above which all new ones lie -/
def KK (_ : Addr) : Prop := True
theorem kk_of {news : Led} {n : Addr} (_ : ∀ p ∈ news, @Ne Nat p.1 n) : KK n := trivial
theorem lt_cell {news : Led} {D K : Addr} {o : Obj} (_ : KK K) (h : ∀ p ∈ news, @LT.lt Nat _ p.1 D) (hm : (K, o) ∈ news) : @LT.lt Nat _ K D := h _ hm
theorem ne_cell {D K t : Addr} (_ : KK K) (h3 : @LT.lt Nat _ t K) (h : @LT.lt Nat _ K D) : @Ne Nat D t := Nat.ne_of_gt (Nat.lt_trans h3 h)
theorem ne_cell' {D K t : Addr} (_ : KK K) (h3 : @LT.lt Nat _ t K) (h : @LT.lt Nat _ K D) : @Ne Nat t D := Nat.ne_of_lt (Nat.lt_trans h3 h)
theorem low_cell {news : Led} {n : Addr} (h : ∀ p ∈ news, @LT.lt Nat _ p.1 n) (p : Addr × Obj) (hp : p ∈ news) : @LT.lt Nat _ p.1 (Nat.succ n) := Nat.lt_succ_of_lt (h p hp)
theorem five {r : Int} (h0 : 0 ≤ r) (h5 : r < 5) : r = 0 ∨ r = 1 ∨ r = 2 ∨ r = 3 ∨ r = 4 := by omega
theorem c_next {c : Int} (h0 : 0 ≤ c) (h1 : c < 990) : 0 ≤ c + 1 ∧ c + 1 < 1000 := ⟨by omega, by omega⟩
/-- new things above K, old things below it -/
theorem fr_of {fresh rest : Led} {box l t K : Addr} (h : ∀ p ∈ fresh, @LE.le Nat _ K p.1) (h1 : @LT.lt Nat _ box K) (h2 : @LT.lt Nat _ l K) (h3 : @LT.lt Nat _ t K) (h4 : ∀ q ∈ rest, @LT.lt Nat _ q.1 K) :
    ∀ p ∈ fresh, @LT.lt Nat _ box p.1 ∧ @LT.lt Nat _ l p.1 ∧ @LT.lt Nat _ t p.1 ∧ ∀ q ∈ rest, @LT.lt Nat _ q.1 p.1 :=
  fun p hp => ⟨Nat.lt_of_lt_of_le h1 (h p hp), Nat.lt_of_lt_of_le h2 (h p hp), Nat.lt_of_lt_of_le h3 (h p hp), fun q hq => Nat.lt_of_lt_of_le (h4 q hq) (h p hp)⟩
end
section
/-- the drawn factors -/
inductive Fc where
  | x | x1 | num (p : Int) | y | pw (p : Int)
/-- how the ledger bears one -/
inductive FcIn (news : Led) : Value → Fc → Prop where
  | x : FcIn news (.ref 167) .x
  | x1 {a b c : Addr} {t1 t2 t3 t4 : Tok} : (a, tupO [S "sum" t1, .ref b]) ∈ news → (b, tupO [.ref 167, .ref c]) ∈ news → (c, tupO [S "num" t2, .int 1 t3, .int 1 t4]) ∈ news → FcIn news (.ref a) .x1
  | num {a : Addr} {p : Int} {t1 t2 t3 : Tok} : (a, tupO [S "num" t1, .int p t2, .int 1 t3]) ∈ news → FcIn news (.ref a) (.num p)
  | y {a : Addr} {t1 t2 : Tok} : (a, tupO [S "sym" t1, S "y" t2]) ∈ news → FcIn news (.ref a) .y
  | pw {a b : Addr} {p : Int} {t1 t2 t3 t4 : Tok} : (a, tupO [S "pow" t1, .ref 167, .ref b]) ∈ news → (b, tupO [S "num" t2, .int p t3, .int 1 t4]) ∈ news → FcIn news (.ref a) (.pw p)
theorem FcIn.mono {news news' : Led} {v : Value} {d : Fc} (h : FcIn news v d) (hs : ∀ p ∈ news, p ∈ news') : FcIn news' v d := by
  cases h with
  | x => exact .x
  | x1 a b c => exact .x1 (hs _ a) (hs _ b) (hs _ c)
  | num a => exact .num (hs _ a)
  | y a => exact .y (hs _ a)
  | pw a b => exact .pw (hs _ a) (hs _ b)
def Fc.has : Fc → Bool
  | .x => true | .x1 => true | .num _ => false | .y => false | .pw _ => true
/-- a node of a term, as the reader of letters looks at it -/
inductive NdIn (news : Led) : Value → Option Str → Prop where
  | x : NdIn news (.ref 167) (some (Str.ofString "x"))
  | sym {a : Addr} {t1 t2 : Tok} {nm : Str} : (a, tupO [S "sym" t1, .str nm t2]) ∈ news → NdIn news (.ref a) (some nm)
  | oth {a : Addr} {t1 : Tok} {k : Str} {r : List Value} : (a, tupO (.str k t1 :: r)) ∈ news → (k == Str.ofString "sym") = false → NdIn news (.ref a) none
inductive NdsIn (news : Led) : List Value → List (Option Str) → Prop where
  | nil : NdsIn news [] []
  | cons {v : Value} {o : Option Str} {vs : List Value} {os : List (Option Str)} : NdIn news v o → NdsIn news vs os → NdsIn news (v :: vs) (o :: os)
def Fc.nds : Fc → List (Option Str)
  | .x => [some (Str.ofString "x")] | .x1 => [none, some (Str.ofString "x"), none] | .num _ => [none] | .y => [some (Str.ofString "y")] | .pw _ => [none, some (Str.ofString "x"), none]
theorem news_pick {h₀ h : Heap} {L a : Addr} {o : Obj} {l news : Led} (N : News h₀ L h l) (h1 : (a, o) ∈ l) (h2 : ∀ p ∈ news, p ∈ l) : News h₀ L h ((a, o) :: news) := fun p hp => by
  rcases List.mem_cons.mp hp with rfl | hp
  · exact N _ h1
  · exact N _ (h2 _ hp)
end
local macro_rules | `(tactic| walk_at "mine r0") => `(tactic| (k_here; (with_reducible show wpAny _ _ (subscriptTail _ _ (Value.ref _) (Value.int _ _)) _ _ _); (with_unfolding_all refine' item_tupleT ?k1 ?k2 ?k3 ?k4 ?k5 ?_; (case k1 => exact News.isTup (by k_asm) (by k_mem)); (case k2 => decide); (case k3 => decide); (case k4 => rfl); (case k5 => rfl); k_whole)))
section
/-- a node and its inner terms -/
inductive KidIn (news : Led) : Value → List Value → Prop where
  | x : KidIn news (.ref 167) []
  | sym {a : Addr} {t1 t2 : Tok} {nm : Str} : (a, tupO [S "sym" t1, .str nm t2]) ∈ news → KidIn news (.ref a) []
  | num {a : Addr} {p : Int} {t1 t2 t3 : Tok} : (a, tupO [S "num" t1, .int p t2, .int 1 t3]) ∈ news → KidIn news (.ref a) []
  | sum {a b : Addr} {u v : Value} {t1 : Tok} : (a, tupO [S "sum" t1, .ref b]) ∈ news → (b, tupO [u, v]) ∈ news → KidIn news (.ref a) [u, v]
  | pow {a : Addr} {u v : Value} {t1 : Tok} : (a, tupO [S "pow" t1, u, v]) ∈ news → KidIn news (.ref a) [u, v]
section
local macro_rules | `(tactic| k_all) => `(tactic| assumption)
local macro_rules | `(tactic| k_mem) => `(tactic| assumption)
local macro_rules | `(tactic| walk_at "subscriptTail") => `(tactic| walk_at "mine r0")
theorem it_ok {w : World} : Con 700 2000 w 107 (fun news vs Post => ∃ v kids, vs = [v] ∧ KidIn news v kids ∧ ∀ l n, (∀ p ∈ news, @LT.lt Nat _ p.1 l) → Post ((l, PySem.W.listOf kids.toArray n) :: news) (.ref l)) := by
  w_top off
  unfold Con; k_fill
  intro loose mean mg mb cn cs a ccd cl outer A₀ base h₀ L m news s vs Q E Post B F X N T hk hR hret
  obtain ⟨v, d, rfl, hF, hP⟩ := hR
  cases hF
  all_goals (
    refine wpAny_call ?_
    k_dflt ktr_enter
    k_steps
    refine hret _ _ _ _ (by k_asm) (news_pick (by k_asm) (by k_mem) (by intro p hp; repeat' (first | exact hp | refine List.Mem.tail _ ?_))) (hP _ _ (by first | exact ktn_ltOf (by assumption) | exact ktn_ltOf (by assumption : _ ∧ AllLt _ news).2 | exact ktn_ltOf (by assumption : _ ∧ _ ∧ AllLt _ news).2.2 | exact ktn_ltOf (by assumption : _ ∧ _ ∧ _ ∧ AllLt _ news).2.2.2)))
end
theorem it_use {w : World} {loose : List Str} {mean : ExcName → Option Value} {mg mb : Str → Option Value} {env : Env} {cn : Str} {cs : Scope} {a : Addr} {ccd : Value} {cl : List (Str × Addr)} {outer : List Env} {A A₀ : Around} {base h₀ : Heap} {L : Addr} {m : Str → Option Value} {news : Led} {s : Shared} {v : Value} {kids : List Value}
    {Q E : Value → Shared → Prop}
    (B : Below A₀ base outer h₀) (F : Fr h₀ L s.heap m) (X : (hd.heap_1 w.params).In h₀) (N : News h₀ L s.heap news) (T : Top topProg loose mean mg mb h₀) (he : env = envX cn cs L a ccd cl) (hk : cs.kind = .function)
    (hA1 : A.handled = none) (hA2 : A.depth ≤ 700) (hA3 : A.units ≤ 2000) (hA : A.frames = some (env :: outer)) (hF : KidIn news v kids)
    (k : ∀ l n h' tk', Fr h₀ L h' m → News h₀ L h' ((l, PySem.W.listOf kids.toArray n) :: news) → (∀ p ∈ news, @LT.lt Nat _ p.1 l) → Q (.ref l) { s with heap := h', toks := tk' }) :
    wpAny (model (PySem.Challenge.rw_rh0026_01).row.prog w) A (call (.ref 107) [v]) Q E s :=
  con_use it_ok (fun nw r => ∃ l n, nw = (l, PySem.W.listOf kids.toArray n) :: news ∧ r = .ref l ∧ ∀ p ∈ news, @LT.lt Nat _ p.1 l) B F X N T he hk hA1 hA2 hA3 hA ⟨v, kids, rfl, hF, fun l n q => ⟨l, n, rfl, rfl, q⟩⟩ fun r nw h' tk' F' N' e => by
    obtain ⟨l, n, rfl, rfl, q⟩ := e
    exact k l n h' tk' F' N' q
end
local macro_rules | `(tactic| walk_at "mine con") => `(tactic| ((case a4 => exact rfl); (case B => k_asm); (case F => k_asm); (case X => k_asm); (case N => k_asm); (case T => k_asm); (case he => exact rfl); (case hk => exact rfl); (case a1 => exact rfl); (case a2 => exact Nat.le_of_ble_eq_true rfl); (case a3 => exact Nat.le_of_ble_eq_true rfl)))
section
section
local macro_rules | `(tactic| k_all) => `(tactic| assumption)
local macro_rules | `(tactic| k_mem) => `(tactic| assumption)
local macro_rules | `(tactic| walk_at "subscriptTail") => `(tactic| walk_at "mine r0")
local macro_rules | `(tactic| walk_at "call ref") => `(tactic| ((with_reducible show wpAny _ _ (call (Value.ref 107) _) _ _ _); k_dflt (refine' it_use ?B ?F ?X ?N ?T ?he ?hk ?a1 ?a2 ?a3 ?a4 ?hp ?_; walk_at "mine con"; (case hp => first | exact .x | exact .num (by k_mem) | exact .sym (by k_mem) | exact .sum (by k_mem) (by k_mem) | exact .pow (by k_mem))); (intro l' n' h' tk' F' N' l1); (try k_lt l1)))
theorem at_ok {w : World} : Con 660 1600 w 114 (fun news vs Post => ∃ v d, vs = [v] ∧ FcIn news v d ∧ ∀ l its n, NdsIn news its.toList d.nds → Post ((l, PySem.W.listOf its n) :: news) (.ref l)) := by
  w_top off
  unfold Con; k_fill
  intro loose mean mg mb cn cs a ccd cl outer A₀ base h₀ L m news s vs Q E Post B F X N T hk hR hret
  obtain ⟨v, d, rfl, hF, hP⟩ := hR
  cases hF
  all_goals (
    refine wpAny_call ?_
    k_dflt ktr_enter
    k_steps
    refine hret _ _ _ _ (by k_asm) (news_pick (by k_asm) (by k_mem) (by intro p hp; repeat' (first | exact hp | refine List.Mem.tail _ ?_))) (hP _ _ _ ?_)
    repeat' (first | exact NdsIn.nil | refine NdsIn.cons ?_ ?_ | exact NdIn.x | exact NdIn.sym (by assumption) | exact NdIn.oth (by assumption) (by decide +kernel)))
  w_top on
end
end
section
/-- what a node says, at a heap -/
def ndOf (h : Heap) (v : Value) : Option Str := match v with
  | .ref a => match h.get? a with
    | some o => match o.data with
      | .seq its _ => match its.toList with
        | .str k _ :: .str nm _ :: _ => if k == Str.ofString "sym" then some nm else none
        | _ => none
      | _ => none
    | none => none
  | _ => none
inductive NdAt (h : Heap) : Value → Option Str → Prop where
  | sym {a : Addr} {t1 t2 : Tok} {nm : Str} : IsTup h a [S "sym" t1, .str nm t2].toArray → NdAt h (.ref a) (some nm)
  | oth {a : Addr} {t1 : Tok} {k : Str} {r : List Value} : IsTup h a (Value.str k t1 :: r).toArray → (k == Str.ofString "sym") = false → NdAt h (.ref a) none
inductive NdsAt (h : Heap) : List Value → List (Option Str) → Prop where
  | nil : NdsAt h [] []
  | cons {v : Value} {o : Option Str} {vs : List Value} {os : List (Option Str)} : NdAt h v o → NdsAt h vs os → NdsAt h (v :: vs) (o :: os)
theorem NdAt.says {h : Heap} {v : Value} {o : Option Str} (x : NdAt h v o) : ndOf h v = o := by
  cases x with
  | sym ht =>
    obtain ⟨ob, e, _, n, d⟩ := ht
    simp only [ndOf, e, d]
    rfl
  | oth ht hk =>
    obtain ⟨ob, e, _, n, d⟩ := ht
    simp only [ndOf, e, d]
    split
    · rename_i k' t' nm t'' r' e2
      injection e2 with e3 e4
      injection e3 with e5 e6
      rw [← e5, hk]; rfl
    · rfl
theorem NdsAt.at {h : Heap} {vs : List Value} {os : List (Option Str)} (x : NdsAt h vs os) : ∀ {i : Nat} {v : Value}, vs[i]? = some v → ∃ o, NdAt h v o := by
  induction x with
  | nil => intro i v e; simp at e
  | cons a _ ih =>
    intro i v e
    cases i with
    | zero => simp at e; subst e; exact ⟨_, a⟩
    | succ i => exact ih (by simpa using e)
theorem NdsAt.filt {h : Heap} {vs : List Value} {os : List (Option Str)} (x : NdsAt h vs os) : (vs.filter fun v => (ndOf h v).isSome).map (ndOf h) = (os.filterMap id).map some := by
  induction x with
  | nil => rfl
  | @cons v o vs os a _ ih =>
    have e := a.says
    cases o with
    | none => simp [e, ih]
    | some c => simp [e, ih]
theorem stored_nil {FK : Value → Str → Prop} {FV : Value → Value → Prop} {l : List Value} {kvs : List (Str × Value)} (x : StoredAll FK FV l kvs) : l = [] → kvs = [] := by
  cases x with
  | nil => exact fun _ => rfl
  | snoc => intro e; simp at e
theorem stored_one {FK : Value → Str → Prop} {FV : Value → Value → Prop} {l : List Value} {kvs : List (Str × Value)} (x : StoredAll FK FV l kvs) : ∀ v, l = [v] → ∃ k y, kvs = [(k, y)] ∧ FK v k := by
  cases x with
  | nil => intro v e; cases e
  | @snoc l kvs v k y st hk hy =>
    intro u e
    have hl : l = [] := by
      cases l with
      | nil => rfl
      | cons a r => simp at e
    have hkv := stored_nil st hl
    subst hl hkv
    simp at e
    subst e
    exact ⟨k, y, rfl, hk⟩
theorem letters_of {FV : Value → Value → Prop} {h : Heap} {vs : List Value} {os : List (Option Str)} {kvs : List (Str × Value)} (x : NdsAt h vs os) (st : StoredAll (fun v k => ndOf h v = some k) FV (vs.filter fun v => (ndOf h v).isSome) kvs)
    (hl : (os.filterMap id).length ≤ 1) : kvs.map (·.1) = os.filterMap id := by
  have e := x.filt
  generalize hf : (vs.filter fun v => (ndOf h v).isSome) = fs at e st
  generalize ho : os.filterMap id = cs at e hl
  rcases cs with _ | ⟨c, _ | ⟨c2, r⟩⟩
  · have : fs = [] := by simpa using e
    rw [stored_nil st this]; rfl
  · rcases fs with _ | ⟨v, _ | ⟨v2, r⟩⟩
    · simp at e
    · obtain ⟨k, y, rfl, hk⟩ := stored_one st v rfl
      simp at e
      rw [e] at hk
      cases hk
      rfl
    · simp at e
  · simp at hl
theorem NdsAt.keeps {h h' : Heap} (k : ∀ b o, h.get? b = some o → h'.get? b = some o) {vs : List Value} {os : List (Option Str)} (x : NdsAt h vs os) : NdsAt h' vs os := by
  induction x with
  | nil => exact .nil
  | cons a _ ih =>
    refine .cons ?_ ih
    cases a with
    | sym ht => exact .sym (IsTup.keeps ht k)
    | oth ht hk => exact .oth (IsTup.keeps ht k) hk

theorem newDict_know {M : Model} {A : Around} {P : Value → Shared → Prop} {E : Value → Shared → Prop} {s : Shared} (h : wpAny M A (newDict : Sem Value) P E s) : wpAny M A (newDict : Sem Value) (fun v s' => v = .ref s.heap.objs.size ∧ P v s') E s :=
  fun Γ p hΓ => ⟨rfl, h Γ p hΓ⟩
theorem letters_comp {w : World} {A : Around} {E : Value → Shared → Prop} {s : Shared} {env : Env} {iter : Expr} {p1 p2 p3 p4 p5 p6 p7 p8 p9 px pos : Pos} {k1 k2 k3 k4 : Nat} {scope : Scope} {Q : Value → Shared → Prop} (hh : A.handled = none)
    (hclos : closureFor scope env = pure []) (hcell : ∀ y ∈ scope.names, y.2 ≠ .cell) (hkind : scope.kind = .function) (hnames : ∀ y ∈ scope.names, y.2 = .local → scope.names.lookup y.1 = some .local)
    (hx : scope.names.lookup (Str.ofString "here") = some .local)
    (h : wpAny (model pr w) A (eval iter env) (fun xv s₁ => ∃ l its n os, xv = .ref l ∧ s₁.heap.get? l = some (PySem.W.listOf its n) ∧ its.size ≤ 1000 ∧ NdsAt s₁.heap its.toList os ∧ (os.filterMap id).length ≤ 1 ∧
      (∀ D oD h' tk kvs, (∀ b o, s₁.heap.get? b = some o → h'.get? b = some o) → s₁.heap.objs.size ≤ D → h'.get? D = some oD → oD.IsDictOf (PySem.strKind pr w) kvs → kvs.map (·.1) = os.filterMap id → Q (.ref D) { s₁ with heap := h', toks := tk })) E s)
    (hs : ∀ x, foldedSetIterable iter env x = pure x := by intro _; rfl) :
    wpAny (model pr w) A (eval (.DictComp (.Subscript (.Name (Str.ofString "here") p1) (.Constant (.int 1) k1 p2) p3) (.Constant (.bool true) k2 p4)
      [⟨.Name (Str.ofString "here") px, iter, [.Compare (.Subscript (.Name (Str.ofString "here") p5) (.Constant (.int 0) k3 p6) p7) [.Eq] [.Constant (.str (Str.ofString "sym")) k4 p8] p9], 0⟩] scope pos) env) Q E s := by
  rw [arm_eval_DictComp]
  refine wpAny_comprehension_free (use := none) rfl hs hclos hkind hnames (wpAny_mono h (fun xv s₁ h₁ => ?_) fun _ _ e => e)
  obtain ⟨l, its, n, os, rfl, hl, hsz, hN, hone, hQ⟩ := h₁
  have hL : s₁.heap.IsList l its := ⟨_, hl, rfl, n, rfl⟩
  refine wpAny_pyIter_list hL ?_
  have hlt : l < s₁.heap.objs.size := Heap.lt_size hl
  have hne : l ≠ s₁.heap.objs.size := Nat.ne_of_lt hlt
  have old : ∀ b o, s₁.heap.get? b = some o → (s₁.heap.push { cls := .type "list_iterator", data := .fields #[.ref l, .int 0 0] }).get? b = some o := fun b o e => Heap.get?_push_of_some _ e
  have back : ∀ s₃ : Shared, (∀ b o, b ∉ [s₁.heap.objs.size] → (s₁.heap.push { cls := .type "list_iterator", data := .fields #[.ref l, .int 0 0] }).get? b = some o → s₃.heap.get? b = some o) → ∀ b o, s₁.heap.get? b = some o → s₃.heap.get? b = some o :=
    fun s₃ k b o e => k b o (by simpa using Nat.ne_of_lt (Heap.lt_size e)) (old b o e)
  have node : ∀ i v (s₃ : Shared), its[i]? = some v → (∀ b o, s₁.heap.get? b = some o → s₃.heap.get? b = some o) → ∃ o, NdAt s₁.heap v o ∧ NdAt s₃.heap v o := fun i v s₃ e k => by
    obtain ⟨o, ho⟩ := hN.at (i := i) (v := v) (by simpa using e)
    refine ⟨o, ho, ?_⟩
    cases ho with
    | sym ht => exact .sym (IsTup.keeps ht k)
    | oth ht hk => exact .oth (IsTup.keeps ht k) hk
  refine wpAny_mono (newDict_know (comp_block_walkCD (knd := PySem.strKind pr w) (RR := fun acc C => compPost (model pr w) A E none (fun v s' => v = .ref (s₁.heap.push { cls := .type "list_iterator", data := .fields #[.ref l, .int 0 0] }).objs.size → Q v s') acc C) (Walks.list hh s₁.heap.objs.size l hne its) (by rw [sizeLine_eq]; omega) (fun v => (ndOf s₁.heap v).isSome) (fun v k => ndOf s₁.heap v = some k) (fun _ _ => True) hcell hkind hx ?_ ?_ ?_ ?_))
    (fun acc s₃ hc => wpAny_mono hc.2 (fun cenv s₄ hcode => codeAny_mono hcode fun r s' hr => ?_) fun _ _ e => e) fun _ _ e => e
  rotate_left 4
  · cases r with
    | ok f =>
      obtain ⟨m, hm, hk⟩ := hr
      exact ⟨m, hm, fun h' hs => hk h' hs hc.1⟩
    | error e => exact hr
  · exact ⟨⟨_, Heap.get?_push_size _ rfl, rfl, rfl⟩, hL.at fun o e => old _ o e⟩
  · intro b hb
    rw [Heap.size_push]
    simp at hb
    rcases hb with rfl | rfl
    · exact Nat.lt_succ_self _
    · exact Nat.lt_succ_of_lt hlt
  · refine ⟨?_, ?_, ?_⟩
    · intro C i v s₃ m₃ E' hP hn hm hk
      obtain ⟨o, ho₁, ho₃⟩ := node i v s₃ hP (back s₃ hk)
      have e₁ := ho₁.says
      refine wpAny_tests_one (wpAny_isTrue_Compare1 (Subscript_ (wpAny_Name (wpAny_loadName_local (by simp [compEnvC, relabel, hkind]) (lookup_relabel_local hx) hn hm (wpAny_Constant_int ?_)))))
      cases ho₃ with
      | sym ht => exact item_tupleT (j := 0) ht (by decide) (by decide) rfl rfl (Calls.Constant_str (PyProof.Rows.eq_str (wpAny_truthy_bool ⟨by rw [e₁]; exact beq_self_eq_true _, _, _, rfl, fun _ _ e => e⟩)))
      | oth ht hk' => exact item_tupleT (j := 0) ht (by decide) (by decide) (by unfold seqIndex?; simp) rfl (Calls.Constant_str (PyProof.Rows.eq_str (wpAny_truthy_bool ⟨by rw [e₁, hk']; rfl, _, _, rfl, fun _ _ e => e⟩)))
    · intro C i v s₃ m₃ E' hP hp hn hm hk
      obtain ⟨o, ho₁, ho₃⟩ := node i v s₃ hP (back s₃ hk)
      have e₁ := ho₁.says
      refine Subscript_ (wpAny_Name (wpAny_loadName_local (by simp [compEnvC, relabel, hkind]) (lookup_relabel_local hx) hn hm (wpAny_Constant_int ?_)))
      cases ho₃ with
      | sym ht => exact item_tupleT (j := 1) ht (by decide) (by decide) rfl rfl ⟨⟨_, strKind_is pr w _ _, e₁⟩, _, _, rfl, fun _ _ e => e⟩
      | oth ht hk' => rw [e₁] at hp; cases hp
    · intro C i v s₃ m₃ E' hP hp hn hm hk
      exact wpAny_Constant_bool ⟨trivial, _, _, rfl, fun _ _ e => e⟩
  · intro D C h' tk m' kvs vs hD hC hDC hn hl' hlen hP hF hk
    have hvs : vs = its.toList := by
      apply List.ext_getElem?
      intro i
      by_cases hi : i < vs.length
      · have := hP i vs[i] (by simp [hi])
        rw [List.getElem?_eq_getElem hi, Array.getElem?_toList, this]
      · rw [List.getElem?_eq_none (by omega), Array.getElem?_toList, Array.getElem?_eq_none (by omega)]
    subst hvs
    refine ⟨m', hn, fun h'' hs'' hDs => ?_⟩
    injection hDs with hDs
    obtain ⟨oD, heD, hoD⟩ := Heap.dictOf_iff.mp (hl'.extBut hs''.extBut hDC)
    have keep : ∀ b o, s₁.heap.get? b = some o → h''.get? b = some o := fun b o e =>
      hs''.extBut b o (by rintro rfl; rw [old _ _ e] at hC; cases hC) (hk b o (by simpa using Nat.ne_of_lt (Heap.lt_size e)) (old b o e))
    have hD₁ : s₁.heap.objs.size ≤ D := by rw [hDs, Heap.size_push]; exact Nat.le_succ _
    exact hQ D oD h'' tk kvs keep hD₁ heD hoD (letters_of hN hF hone)

theorem sorted_small {w : World} {A : Around} {E : Value → Shared → Prop} {s : Shared} {h₀ : Heap} {L D : Addr} {m : Str → Option Value} {news : Led} {oD : Obj} {kvs : List (Str × Value)} {Q : Value → Shared → Prop} (hh : A.handled = none) (F : Fr h₀ L s.heap m) (N : News h₀ L s.heap news)
    (hD : s.heap.get? D = some oD) (ho : oD.IsDictOf (PySem.strKind pr w) kvs) (lo : (D == sysModules) = false) (hone : kvs.length ≤ 1)
    (h : ∀ B its n h' tk ss, Fr h₀ L h' m → News h₀ L h' ((B, PySem.W.listOf its n) :: news) → StrsAre its.toList ss → ss = kvs.map (·.1) → Q (.ref B) { s with heap := h', toks := tk }) :
    wpAny (model pr w) A (call (.builtin "sorted") [.ref D]) Q E s := by
  obtain ⟨ep, hat⟩ := (Heap.dictOf_iff.mpr ⟨oD, hD, ho⟩ : s.heap.DictOf (PySem.strKind pr w) D kvs).dictAt
  refine kdu_sorted (kdl_dict (knd := PySem.strKind pr w) (kvs := kvs) (ep := ep) lo) hh F N hat (by rw [sizeLine_eq]; omega) fun B h' tk vs F' N' l1 hl hv => ?_
  have hS : ∃ ss, StrsAre vs ss ∧ ss = kvs.map (·.1) := by
    rcases kvs with _ | ⟨⟨k, x⟩, _ | ⟨p2, r⟩⟩
    · have : vs = [] := List.eq_nil_of_length_eq_zero hl
      subst this
      exact ⟨[], .nil, rfl⟩
    · rcases vs with _ | ⟨v, _ | ⟨v2, r⟩⟩
      · simp at hl
      · obtain ⟨k', x', e, hk⟩ := hv 0 v rfl
        simp at e
        obtain ⟨rfl, rfl⟩ := e
        obtain ⟨t, rfl⟩ := Value.isStrOf_shape hk
        exact ⟨[k], .cons k t .nil, rfl⟩
      · simp at hl
    · simp at hone
  obtain ⟨ss, hS, hss⟩ := hS
  have hoL : h'.get? B = some (seqObj "list" vs.toArray 0) := (N' _ (.head _)).1
  refine wpAny_call_entry slot_list_sort ⟨_, hoL, rfl⟩ entry_list_sort (list_sort_treeK strKind_oneLt hoL hS.keysOf (fun v₁ v₂ rest e => keyKind_strs (by rw [← e]; exact hS)) (by omega) fun st' hp hs => ⟨_, rfl, ?_⟩) (args_list_sort _)
  obtain ⟨ss', h1, h2, h3⟩ := sorted_out_str hS hp hs
  have e2 : ss' = kvs.map (·.1) := by
    rw [← hss]
    have hle : ss.length ≤ 1 := by rw [hss, List.length_map]; exact hone
    rcases ss with _ | ⟨a, _ | ⟨b, r⟩⟩
    · exact h2.eq_nil
    · exact List.perm_singleton.mp h2
    · simp at hle
  obtain ⟨e, he⟩ := sortedHeap_at (out := (arrOf st').map (·.2)) hoL
  have NB := N' _ (List.mem_cons_self ..)
  have old : ∀ b o, b ≠ B → h'.get? b = some o → (sortedHeap h' B vs ((arrOf st').map (·.2))).get? b = some o := fun b o hb e => (sortedHeap_old hb (Heap.lt_size e)).trans e
  obtain ⟨oL, a1, a2, hL, a3⟩ := F'.ns
  refine h B _ e _ _ ss' ⟨⟨oL, a1, a2, old _ _ (Ne.symm NB.2.1) hL, a3⟩, fun b o e => old _ _ ?_ (F'.keep b o e), F'.above⟩ (fun p hp => ?_) h1 e2
  · rintro rfl
    rw [NB.2.2] at e; cases e
  · rcases List.mem_cons.mp hp with rfl | hp
    · exact ⟨he, NB.2⟩
    · exact ⟨old _ _ (Nat.ne_of_lt (l1 p hp)) (N' p (.tail _ hp)).1, (N' p (.tail _ hp)).2⟩
theorem nds_at {h₀ h : Heap} {L : Addr} {news : Led} (N : News h₀ L h news) {t1 t2 : Tok} (hx : IsTup h 167 [S "sym" t1, S "x" t2].toArray) {vs : List Value} {os : List (Option Str)} (x : NdsIn news vs os) : NdsAt h vs os := by
  induction x with
  | nil => exact .nil
  | cons a _ ih =>
    refine .cons ?_ ih
    cases a with
    | x => exact .sym hx
    | sym hm => exact .sym (News.isTup N hm)
    | oth hm hk => exact .oth (News.isTup N hm) hk
theorem nds_len {news : Led} {vs : List Value} {os : List (Option Str)} (x : NdsIn news vs os) : vs.length = os.length := by
  induction x with
  | nil => rfl
  | cons _ _ ih => simp [ih]
theorem nds_few (d : Fc) : d.nds.length ≤ 3 ∧ (d.nds.filterMap id).length ≤ 1 := by
  cases d <;> simp [Fc.nds]
theorem nds_has (d : Fc) : ((d.nds.filterMap id).any (· == Str.ofString "x")) = d.has := by
  cases d with
  | num p => rfl
  | pw p => show (([none, some (Str.ofString "x"), none] : List (Option Str)).filterMap id).any (· == Str.ofString "x") = true; decide +kernel
  | _ => decide +kernel
theorem news_new {h₀ h h' : Heap} {L D : Addr} {m : Str → Option Value} {news : Led} {o : Obj} (F : Fr h₀ L h m) (N : News h₀ L h news) (hlim : h₀.NoLimit) (k : ∀ b o, h.get? b = some o → h'.get? b = some o) (hD : h.objs.size ≤ D) (ho : h'.get? D = some o) :
    Fr h₀ L h' m ∧ News h₀ L h' ((D, o) :: news) ∧ (D == sysModules) = false ∧ ∀ p ∈ news, p.1 < D :=
  ⟨F.kept k, News.kept_cons F N k hD ho, beq_eq_false_iff_ne.mpr (Nat.ne_of_gt (Nat.lt_of_lt_of_le (Nat.lt_trans (modules_low hlim) (Nat.lt_of_le_of_lt F.above F.ns.lt)) hD)),
    fun p hp => Nat.lt_of_lt_of_le (Heap.lt_size (N p hp).1) hD⟩
theorem nds_mono {news news' : Led} {vs : List Value} {os : List (Option Str)} (x : NdsIn news vs os) (hs : ∀ p ∈ news, p ∈ news') : NdsIn news' vs os := by
  induction x with
  | nil => exact .nil
  | cons a _ ih =>
    refine .cons ?_ ih
    cases a with
    | x => exact .x
    | sym hm => exact .sym (hs _ hm)
    | oth hm hk => exact .oth (hs _ hm) hk
end
section
structure Hold (P : Prop) : Prop where
  out : P
section
local macro_rules | `(tactic| k_all) => `(tactic| assumption)
local macro_rules | `(tactic| k_mem) => `(tactic| assumption)
local macro_rules | `(tactic| walk_at "eval DictComp") => `(tactic| refine Hold.out ?_)
local macro_rules | `(tactic| walk_at "call builtin:sorted") => `(tactic| refine Hold.out ?_)
local macro_rules | `(tactic| walk_at "call ref") => `(tactic| ((with_reducible show wpAny _ _ (call (Value.ref 114) _) _ _ _); refine Hold.out ?_))
theorem cl_ok {w : World} : Con 630 1300 w 126 (fun news vs Post => ∃ v d t, vs = [v, S "x" t] ∧ FcIn news v d ∧ Post news (.bool d.has)) := by
  unfold Con; k_fill
  intro loose mean mg mb cn cs a ccd cl outer A₀ base h₀ L m news s vs Q E Post B F X N T hk hR hret
  obtain ⟨v, d, t, rfl, hF, hP⟩ := hR
  refine wpAny_call ?_
  k_dflt ktr_enter
  k_steps
  refine Hold.mk ?_
  k_dflt (refine letters_comp rfl rfl (by decide) rfl (by decide) rfl ?_)
  k_steps
  refine Hold.mk ?_
  k_dflt (refine' con_use at_ok (fun nw r => ∃ l its n, r = .ref l ∧ nw = (l, PySem.W.listOf its n) :: news ∧ NdsIn news its.toList d.nds) ?B ?F ?X ?N ?T ?he ?hk ?a1 ?a2 ?a3 ?a4 ?hp ?_; (case a4 => exact rfl); (case B => k_asm); (case F => k_asm); (case X => k_asm); (case N => k_asm); (case T => k_asm); (case he => exact rfl); (case hk => exact rfl); (case a1 => exact rfl); (case a2 => exact Nat.le_of_ble_eq_true rfl); (case a3 => exact Nat.le_of_ble_eq_true rfl); (case hp => exact ⟨v, d, rfl, hF, fun l its n hn => ⟨l, its, n, rfl, rfl, hn⟩⟩))
  rintro r news' h' tk' F' N' ⟨l, its, n, rfl, rfl, hN⟩
  have h167 := tupK (a := 167) (l := [S "sym" 402, S "x" 403]) (Frag.In.keeps (by k_asm) (Fr.keep F')) (by k_is)
  refine ⟨l, its, n, d.nds, rfl, (N' _ (.head _)).1, ?_, nds_at N' h167 (nds_mono hN fun p hp => .tail _ hp), (nds_few d).2, ?_⟩
  · have e1 := nds_len hN
    have e2 := (nds_few d).1
    rw [← Array.length_toList]; omega
  intro D oD h2 tk2 kvs hk2 hD hoD hO hkv
  obtain ⟨F2, N2, lo2, l2⟩ := news_new F' N' (Top.nolimit (by k_asm)) hk2 hD hoD
  k_steps
  refine Hold.mk ?_
  k_dflt (refine' sorted_small ?hh ?F ?N hoD hO lo2 ?h1 ?_; (case hh => exact rfl); (case F => k_asm); (case N => k_asm); (case h1 => (rw [← List.length_map (f := (·.1)), hkv]; exact (nds_few d).2)))
  intro B3 its3 n3 h3 tk3 ss F3 N3 hS hss
  k_steps
  refine hret _ news _ _ (by k_asm) (news_sub (by k_asm) (by intro p hp; repeat' (first | exact hp | refine List.Mem.tail _ ?_))) ?_
  rw [hss, hkv, nds_has]
  exact hP
end
theorem cl_use {w : World} {loose : List Str} {mean : ExcName → Option Value} {mg mb : Str → Option Value} {env : Env} {cn : Str} {cs : Scope} {a : Addr} {ccd : Value} {cl : List (Str × Addr)} {outer : List Env} {A A₀ : Around} {base h₀ : Heap} {L : Addr} {m : Str → Option Value} {news : Led} {s : Shared} {v : Value} {d : Fc} {t : Tok}
    {Q E : Value → Shared → Prop}
    (B : Below A₀ base outer h₀) (F : Fr h₀ L s.heap m) (X : (hd.heap_1 w.params).In h₀) (N : News h₀ L s.heap news) (T : Top topProg loose mean mg mb h₀) (he : env = envX cn cs L a ccd cl) (hk : cs.kind = .function)
    (hA1 : A.handled = none) (hA2 : A.depth ≤ 630) (hA3 : A.units ≤ 1300) (hA : A.frames = some (env :: outer)) (hF : FcIn news v d)
    (k : ∀ h' tk', Fr h₀ L h' m → News h₀ L h' news → Q (.bool d.has) { s with heap := h', toks := tk' }) :
    wpAny (model (PySem.Challenge.rw_rh0026_01).row.prog w) A (call (.ref 126) [v, S "x" t]) Q E s :=
  con_use cl_ok (fun nw r => nw = news ∧ r = .bool d.has) B F X N T he hk hA1 hA2 hA3 hA ⟨v, d, t, rfl, hF, rfl, rfl⟩ fun r nw h' tk' F' N' e => by
    obtain ⟨rfl, rfl⟩ := e
    exact k h' tk' F' N'
theorem news_add {h₀ h : Heap} {L a : Addr} {o : Obj} {l : Led} (N : News h₀ L h l) (h1 : (a, o) ∈ l) : News h₀ L h ((a, o) :: l) := fun p hp => by
  rcases List.mem_cons.mp hp with rfl | hp
  · exact N _ h1
  · exact N _ hp
end
section
abbrev tupA (its : Array Value) : Obj := { cls := .type "tuple", data := .seq its 0 }
/-- terms, as data -/
inductive Tm where
  | num (p q : Int) | x | y | pow (b e : Tm) | sum (l : List Tm) | prod (l : List Tm)
mutual
/-- how the ledger bears a term -/
inductive TmIn (news : Led) : Value → Tm → Prop where
  | zero : TmIn news (.ref 49) (.num 0 1)
  | one : TmIn news (.ref 50) (.num 1 1)
  | minus : TmIn news (.ref 51) (.num (-1) 1)
  | x : TmIn news (.ref 167) .x
  | num {a : Addr} {p q : Int} {t1 t2 t3 : Tok} : (a, tupO [S "num" t1, .int p t2, .int q t3]) ∈ news → TmIn news (.ref a) (.num p q)
  | y {a : Addr} {t1 t2 : Tok} : (a, tupO [S "sym" t1, S "y" t2]) ∈ news → TmIn news (.ref a) .y
  | pow {a : Addr} {t1 : Tok} {u v : Value} {b e : Tm} : (a, tupO [S "pow" t1, u, v]) ∈ news → TmIn news u b → TmIn news v e → TmIn news (.ref a) (.pow b e)
  | sum {a b : Addr} {t1 : Tok} {its : Array Value} {l : List Tm} : (a, tupO [S "sum" t1, .ref b]) ∈ news → (b, tupA its) ∈ news → TmsIn news its.toList l → TmIn news (.ref a) (.sum l)
  | prod {a b : Addr} {t1 : Tok} {its : Array Value} {l : List Tm} : (a, tupO [S "prod" t1, .ref b]) ∈ news → (b, tupA its) ∈ news → TmsIn news its.toList l → TmIn news (.ref a) (.prod l)
inductive TmsIn (news : Led) : List Value → List Tm → Prop where
  | nil : TmsIn news [] []
  | cons {v : Value} {t : Tm} {vs : List Value} {ts : List Tm} : TmIn news v t → TmsIn news vs ts → TmsIn news (v :: vs) (t :: ts)
end
mutual
theorem TmIn.mono {news news' : Led} (hs : ∀ p ∈ news, p ∈ news') : ∀ {v : Value} {t : Tm}, TmIn news v t → TmIn news' v t
  | _, _, .zero => .zero
  | _, _, .one => .one
  | _, _, .minus => .minus
  | _, _, .x => .x
  | _, _, .num a => .num (hs _ a)
  | _, _, .y a => .y (hs _ a)
  | _, _, .pow a b c => .pow (hs _ a) (TmIn.mono hs b) (TmIn.mono hs c)
  | _, _, .sum a b c => .sum (hs _ a) (hs _ b) (TmsIn.mono hs c)
  | _, _, .prod a b c => .prod (hs _ a) (hs _ b) (TmsIn.mono hs c)
theorem TmsIn.mono {news news' : Led} (hs : ∀ p ∈ news, p ∈ news') : ∀ {vs : List Value} {ts : List Tm}, TmsIn news vs ts → TmsIn news' vs ts
  | _, _, .nil => .nil
  | _, _, .cons a b => .cons (TmIn.mono hs a) (TmsIn.mono hs b)
end
def Fc.tm : Fc → Tm
  | .x => .x | .x1 => .sum [.x, .num 1 1] | .num p => .num p 1 | .y => .y | .pw p => .pow .x (.num p 1)
def Fc.slope : Fc → Tm
  | .x => .num 1 1 | .x1 => .num 1 1 | .num _ => .num 0 1 | .y => .num 0 1
  | .pw p => .prod [.num p 1, .pow .x (.sum [.num p 1, .num (-1) 1]), .num 1 1]
theorem FcIn.tm {news : Led} {v : Value} {d : Fc} (h : FcIn news v d) : TmIn news v d.tm := by
  cases h with
  | x => exact .x
  | x1 a b c => exact .sum a b (.cons .x (.cons (.num c) .nil))
  | num a => exact .num a
  | y a => exact .y a
  | pw a b => exact .pow a .x (.num b)
/-- what a slope is: nought, one, or made -/
inductive SlIn (news : Led) : Value → Fc → Prop where
  | zero {d : Fc} : d.has = false → SlIn news (.ref 49) d
  | one {d : Fc} : d.slope = .num 1 1 → SlIn news (.ref 50) d
  | made {a b : Addr} {t1 : Tok} {p : Int} {its : Array Value} : (a, tupO [S "prod" t1, .ref b]) ∈ news → (b, tupA its) ∈ news → TmsIn news its.toList [.num p 1, .pow .x (.sum [.num p 1, .num (-1) 1]), .num 1 1] → SlIn news (.ref a) (.pw p)
theorem SlIn.tm {news : Led} {v : Value} {d : Fc} (h : SlIn news v d) : TmIn news v d.slope := by
  cases h with
  | zero h => cases d <;> first | exact .zero | (cases h)
  | one h => rw [h]; exact .one
  | made a b c => exact .prod a b c
theorem SlIn.mono {news news' : Led} {v : Value} {d : Fc} (h : SlIn news v d) (hs : ∀ p ∈ news, p ∈ news') : SlIn news' v d := by
  cases h with
  | zero h => exact .zero h
  | one h => exact .one h
  | made a b c => exact .made (hs _ a) (hs _ b) (c.mono hs)
end
section
open LCg LCt
/-- the source of a comprehension: a tuple that the ledger bears -/
def SrcTup (ax : Addr) (its : Array Value) (k : Nat) (news : Led) : Prop := (ax, ({ cls := .type "tuple", data := .seq its k } : Obj)) ∈ news
def CompSrcTT (prog : Program) (w : World) (A : Around) (h₀ : Heap) (L : Addr) (m : Str → Option Value) (env : Env) (ct elt : Expr) (x : Str) (scope : Scope) (cl : List (Str × Addr)) (Fin : Shared → List Value → Led → Prop) (xv : Value) (s₁ : Shared) : Prop :=
  ∃ ax its k news, xv = .ref ax ∧ A.handled = none ∧ Fr h₀ L s₁.heap m ∧ News h₀ L s₁.heap news ∧ SrcTup ax its k news ∧ its.size ≤ sizeLine ∧
    ∀ g, CompRestT prog w A h₀ L m env ct elt x scope cl { s₁ with heap := g } (SrcTup ax its k) (fun i v => its[i]? = some v) (Fin { s₁ with heap := g }) its.size 0 [] news
theorem CompSrcTT.intro {prog : Program} {w : World} {A : Around} {h₀ : Heap} {L : Addr} {m : Str → Option Value} {env : Env} {ct elt : Expr} {x : Str} {scope : Scope} {cl : List (Str × Addr)} {Fin : Shared → List Value → Led → Prop} {ax : Addr} {its : Array Value} {k : Nat} {news : Led} {s₁ : Shared}
    (hh : A.handled = none) (F : Fr h₀ L s₁.heap m) (N : News h₀ L s₁.heap news) (hm : (ax, ({ cls := .type "tuple", data := .seq its k } : Obj)) ∈ news) (hsz : its.size ≤ sizeLine)
    (h : ∀ g, CompRestT prog w A h₀ L m env ct elt x scope cl { s₁ with heap := g } (SrcTup ax its k) (fun i v => its[i]? = some v) (Fin { s₁ with heap := g }) its.size 0 [] news) :
    CompSrcTT prog w A h₀ L m env ct elt x scope cl Fin (.ref ax) s₁ := ⟨ax, its, k, news, rfl, hh, F, N, hm, hsz, h⟩
section
variable {prog : Program} {w : World} {A : Around} {E : Value → Shared → Prop} {s : Shared} {h₀ : Heap} {L : Addr} {m : Str → Option Value} {env : Env}
theorem tup_st {ax I : Addr} {its : Array Value} {n : Nat} : ∀ i (h h' : Heap) (o : Obj) (nw : Led), (h.IsTupleIter I ax i ∧ h.IsTuple ax its) → h.get? I = some o → h'.get? I = some o → (∀ b o, h₀.get? b = some o → h'.get? b = some o) → News h₀ L h' nw → SrcTup ax its n nw → (h'.IsTupleIter I ax i ∧ h'.IsTuple ax its) :=
  fun i h h' o nw st e e' k N S => ⟨by obtain ⟨o', q, r⟩ := st.1; rw [e] at q; cases q; exact ⟨o, e', r⟩, ⟨_, (N _ S).1, rfl, n, rfl⟩⟩
theorem ListComp_TT {ct elt iter : Expr} {x : Str} {px : Pos} {scope : Scope} {cl : List (Str × Addr)} {pos : Pos} {Q : Value → Shared → Prop} (F₀ : Fr h₀ L s.heap m)
    (hclos : closureFor scope env = pure cl) (hcell : ∀ y ∈ scope.names, y.2 ≠ .cell) (hkind : scope.kind = .function)
    (hnames : ∀ y ∈ scope.names, y.2 = .local → scope.names.lookup y.1 = some .local) (hx : scope.names.lookup x = some .local)
    (h : wpAny (model prog w) A (eval iter env) (CompSrcTT prog w A h₀ L m env ct elt x scope cl (fun s₂ => FinE h₀ L m s₂ Q)) E s)
    (hs : ∀ x, foldedSetIterable iter env x = pure x := by intro _; rfl) :
    wpAny (model prog w) A (eval (.ListComp elt [⟨.Name x px, iter, [ct], 0⟩] scope pos) env) Q E s := by
  rw [eval_ListComp]
  refine wpAny_comprehension_free (use := none) rfl hs hclos hkind hnames (wpAny_mono h (fun xv s₁ h₁ => ?_) fun _ _ e => e)
  obtain ⟨ax, its, k, news, rfl, hh, F, N, S, hsz, R⟩ := h₁
  have hl : s₁.heap.IsTuple ax its := ⟨_, (N _ S).1, rfl, k, rfl⟩
  have hlt : ax < s₁.heap.objs.size := by obtain ⟨_, e, _⟩ := hl; exact Heap.lt_size e
  refine wpAny_pyIter_tuple hl ?_
  have up : ∀ b o, s₁.heap.get? b = some o → (s₁.heap.push { cls := .type "tuple_iterator", data := .fields #[.ref ax, .int 0 0] }).get? b = some o := fun b o e => Heap.get?_push_of_some _ e
  refine block_T (Walks.tuple hh s₁.heap.objs.size ax (Nat.ne_of_lt hlt) its) hsz (fun i h st => by obtain ⟨o, e, _⟩ := st.1; exact ⟨o, e⟩) tup_st hcell hkind hx ⟨⟨_, Heap.get?_push_size _ rfl, rfl, rfl⟩, hl.push _⟩ (fun b hb => ?_)
    (F.keeps up) (N.grown up) (Nat.ne_of_lt F.ns.lt) (next_is_new F) (fun p hp => Nat.ne_of_lt (Heap.lt_size (N p hp).1)) S (R _) ?_
  · show b < (s₁.heap.push _).objs.size
    rw [Heap.size_push]
    rcases List.mem_cons.mp hb with rfl | hb
    · exact Nat.lt_succ_self _
    · rw [List.mem_singleton.mp hb]; exact Nat.lt_succ_of_lt hlt
  · intro D C h tk m' ys news' F' N' o1 hn hC₀ hD₀ hCL hDL hCD offC fin
    refine ⟨m', hn, fun h'' hs'' => fin D h'' tk (F'.change hs'' hCL hC₀) (fun p hp => ?_) o1⟩
    refine ⟨hs''.extBut _ _ ?_ (N' p hp).1, (N' p hp).2⟩
    rcases List.mem_cons.mp hp with rfl | hp
    · exact Ne.symm hCD
    · exact offC p hp
end
theorem comp_keep {prog : Program} {w : World} {A : Around} {s : Shared} {h₀ : Heap} {L : Addr} {m : Str → Option Value} {env : Env} {ct elt : Expr} {x : Str} {scope : Scope} {cl : List (Str × Addr)} {S : Led → Prop} {P : Nat → Value → Prop} {Fin : List Value → Led → Prop} {news : Led}
    (hS : S news) (J : Nat → List Value → Prop) (n : Nat)
    (turn : ∀ i ys v I oI C oC D m₂ h tk (E' : Value → Shared → Prop), i < n → J i ys → P i v → NsObj oC m₂ → m₂ x = some v → Fr h₀ L h m → News h₀ L h ((I, oI) :: (C, oC) :: (D, lst ys) :: news) →
      wpAny (model prog w) A (isTrue ct (compEnvC scope cl C env) (eval ct (compEnvC scope cl C env))) (fun ok s' => if ok = true then
        wpAny (model prog w) A (eval elt (compEnvC scope cl C env)) (fun y s'' => ∃ h' tk', s'' = { s with heap := h', toks := tk' } ∧ Fr h₀ L h' m ∧ News h₀ L h' ((I, oI) :: (C, oC) :: (D, lst ys) :: news) ∧ J (i + 1) (ys ++ [y])) E' s'
        else ∃ h' tk', s' = { s with heap := h', toks := tk' } ∧ Fr h₀ L h' m ∧ News h₀ L h' ((I, oI) :: (C, oC) :: (D, lst ys) :: news) ∧ J (i + 1) ys) E' { s with heap := h, toks := tk })
    (fin : ∀ ys, J n ys → Fin ys news) : ∀ k i ys, i + k = n → J i ys → CompRestT prog w A h₀ L m env ct elt x scope cl s S P Fin k i ys news
  | 0, i, ys, e, j => CompRestT.zero (fin ys (by rw [← e]; exact j))
  | k + 1, i, ys, e, j => by
    refine CompRestT.succ fun v I oI C oC D m₂ h tk E' hv hC hx F N off ne => ?_
    refine wpAny_mono (turn i ys v I oI C oC D m₂ h tk E' (by omega) j hv hC hx F N) (fun ok s' h' => ?_) fun _ _ e => e
    cases ok with
    | true =>
      simp only [if_true] at h' ⊢
      refine wpAny_mono h' (fun y s'' h'' => ?_) fun _ _ e => e
      obtain ⟨g, tk', rfl, F', N', j'⟩ := h''
      exact ⟨g, tk', news, rfl, F', N', off, hS, comp_keep hS J n turn fin k (i + 1) _ (by omega) j'⟩
    | false =>
      simp only [Bool.false_eq_true, if_false] at h' ⊢
      obtain ⟨g, tk', rfl, F', N', j'⟩ := h'
      exact ⟨g, tk', news, rfl, F', N', off, hS, comp_keep hS J n turn fin k (i + 1) _ (by omega) j'⟩
end
section
open AutoSeq1 (wpAny_loadPart')
theorem meets_enumT (l : Addr) (items : Array Value) (n : Nat) (dct : Option Addr) (sl : Array (Option Value)) :
    Meets (Builtin.«enumerate.__new__» ⟨[.type "enumerate", .ref l], []⟩) (fun _ R s => s.heap.get? l = some { cls := .type "tuple", dict := dct, data := .seq items n, slots := sl } ∧
      R (.ok (.ret (.ref (s.heap.push { cls := .type "tuple_iterator", data := .fields #[.ref l, .int 0 0] }).objs.size)))
        { s with heap := (s.heap.push { cls := .type "tuple_iterator", data := .fields #[.ref l, .int 0 0] }).push { cls := .type "enumerate", data := .fields #[.none, .bool false, .ref s.heap.objs.size, rawInt 0, .none, .none] } }) :=
  .of_wp fun prog w A R s h => by
    obtain ⟨hp, g, d, tk, os⟩ := s; obtain ⟨hl, h⟩ := h
    have hsub := PySem.sub_enumerate
    have hL : Heap.IsTuple (Shared.heap ⟨hp, g, d, tk, os⟩) l items := ⟨_, hl, rfl, n, rfl⟩
    wp_walk using wpAny_loadPart' hl
    refine wpAny_stack_any fun st => wpAny_pure ?_
    split
    · rename_i c _ _ _ _ _
      cases (c == Value.type "enumerate")
      · wp_walk using wpAny_loadPart' hl, wpAny_pyIter_tuple hL
        exact ⟨_, rfl, h⟩
      · wp_walk using wpAny_loadPart' hl, wpAny_pyIter_tuple hL
        exact ⟨_, rfl, h⟩
    · wp_walk using wpAny_loadPart' hl, wpAny_pyIter_tuple hL
      exact ⟨_, rfl, h⟩
section
variable {prog : Program} {w : World} {A : Around} {E : Value → Shared → Prop} {s : Shared}
theorem call_enumT {l : Addr} {items : Array Value} {Q : Value → Shared → Prop} (hL : s.heap.IsTuple l items)
    (h : ∀ h', IsEnum h' (s.heap.objs.size + 1) s.heap.objs.size 0 .none → h'.IsTupleIter s.heap.objs.size l 0 → h'.objs.size = s.heap.objs.size + 2 →
      (∀ b o, s.heap.get? b = some o → h'.get? b = some o) → Q (.ref (s.heap.objs.size + 1)) { s with heap := h' }) :
    wpAny (model prog w) A (call (.type "enumerate") [.ref l]) Q E s := by
  obtain ⟨⟨c, dct, dt, sl⟩, hl, hc, n, hd⟩ := hL
  replace hc : c = .type "tuple" := hc
  replace hd : dt = .seq items n := hd
  subst hc hd
  refine callType_new F.called_enumerate (by decide) (F.typeCall_enumerate_1 _) (F.newCall_enumerate_1 _) (fun obj => F.args_object_init_2 obj _) F.entry_enumerate_new
    (meets_enumT l items n dct sl) ⟨hl, ?_⟩
  have hz : (s.heap.push { cls := .type "tuple_iterator", data := .fields #[.ref l, .int 0 0] }).objs.size = s.heap.objs.size + 1 := Heap.size_push ..
  show _ ∧ _
  rw [hz]
  have he : IsEnum ((s.heap.push { cls := .type "tuple_iterator", data := .fields #[.ref l, .int 0 0] }).push
      { cls := .type "enumerate", data := .fields #[.none, .bool false, .ref s.heap.objs.size, rawInt 0, .none, .none] }) (s.heap.objs.size + 1) s.heap.objs.size 0 .none := by
    have := Heap.get?_push_size (s.heap.push { cls := .type "tuple_iterator", data := .fields #[.ref l, .int 0 0] })
      (o := { cls := .type "enumerate", data := .fields #[.none, .bool false, .ref s.heap.objs.size, rawInt 0, .none, .none] }) rfl
    rw [hz] at this; exact this
  refine ⟨⟨_, he, rfl⟩, h _ he ⟨_, Heap.get?_push_of_some _ (Heap.get?_push_size _ rfl), rfl, rfl⟩ (by rw [Heap.size_push, hz]) fun b o x => Heap.get?_push_of_some _ (Heap.get?_push_of_some _ x)⟩
theorem nextOf_tup_item {it t : Addr} {i : Nat} {items : Array Value} {x : Value} {Q : Value → Shared → Prop} (hit : s.heap.IsTupleIter it t i)
    (ht : s.heap.IsTuple t items) (hx : items[i]? = some x)
    (hQ : ∀ h', h'.IsTupleIter it t (i + 1) → Heap.SameBut it s.heap h' → Q x { s with heap := h' }) :
    wpAny (model prog w) A (Builtin.SmallTypes.nextOf (.ref it)) Q E s := by
  obtain ⟨o, ho, hc, hd⟩ := id hit
  obtain ⟨ol, hol, _, nl, hdl⟩ := ht
  unfold Builtin.SmallTypes.nextOf
  refine wpAny_bind (wpAny_callSpecial?_slot (name := Str.ofString "__next__") hit.typeIs F.slot_tuple_iterator_next
    (wpAny_call_entry F.slot_tuple_iterator_next hit.typeIs F.entry_tuple_iterator_next ?_ (F.args_tuple_iterator_next_1 _)))
  show wpAny _ _ (field (.ref it) 0 >>= _) _ _ s
  refine wpAny_bind (wpAny_field ho hd (x := .ref t) rfl ?_)
  show wpAny _ _ (if (Value.ref t == Value.none) = true then _ else _) _ _ s
  rw [if_neg (show ¬ ((Value.ref t == Value.none) = true) from Bool.false_ne_true)]
  show wpAny _ _ (field (.ref it) 1 >>= _) _ _ s
  refine wpAny_bind (wpAny_field ho hd (x := .int i 0) rfl ?_)
  show wpAny _ _ (seqItems? (.ref t) >>= _) _ _ s
  refine wpAny_bind (wpAny_seqItems hol hdl ?_)
  simp only [Int.toNat_natCast, hx]
  refine wpAny_bind (wpAny_setField ho hd (by simp) (wpAny_pure ⟨x, rfl, wpAny_pure (hQ _ ?_ (Heap.SameBut.update ..))⟩))
  exact ⟨_, Heap.get?_update_self _ ho (Obj.isFreed_of_fields (Obj.data_mapFields hd _)), (Obj.cls_mapFields ..).trans hc, by
    rw [Obj.data_mapFields hd]; simp [rawInt]⟩
theorem nextOf_tup_end {it t : Addr} {i : Nat} {items : Array Value} {Q : Value → Shared → Prop} (hh : A.handled = none)
    (hit : s.heap.IsTupleIter it t i) (ht : s.heap.IsTuple t items) (hx : items[i]? = none)
    (hE : ∀ h' e, Heap.ExtBut it s.heap h' → (∃ o, h'.get? e = some o ∧ o.cls = .type "StopIteration") → E (.ref e) { s with heap := h' }) :
    wpAny (model prog w) A (Builtin.SmallTypes.nextOf (.ref it)) Q E s := by
  obtain ⟨o, ho, hc, hd⟩ := id hit
  obtain ⟨ol, hol, _, nl, hdl⟩ := ht
  unfold Builtin.SmallTypes.nextOf
  refine wpAny_bind (wpAny_callSpecial?_slot (name := Str.ofString "__next__") hit.typeIs F.slot_tuple_iterator_next
    (wpAny_call_entry F.slot_tuple_iterator_next hit.typeIs F.entry_tuple_iterator_next ?_ (F.args_tuple_iterator_next_1 _)))
  show wpAny _ _ (field (.ref it) 0 >>= _) _ _ s
  refine wpAny_bind (wpAny_field ho hd (x := .ref t) rfl ?_)
  show wpAny _ _ (if (Value.ref t == Value.none) = true then _ else _) _ _ s
  rw [if_neg (show ¬ ((Value.ref t == Value.none) = true) from Bool.false_ne_true)]
  show wpAny _ _ (field (.ref it) 1 >>= _) _ _ s
  refine wpAny_bind (wpAny_field ho hd (x := .int i 0) rfl ?_)
  show wpAny _ _ (seqItems? (.ref t) >>= _) _ _ s
  refine wpAny_bind (wpAny_seqItems hol hdl ?_)
  simp only [Int.toNat_natCast, hx]
  refine wpAny_bind (wpAny_rule (wpAny_bind (wpAny_setField ho hd (by simp) ?_)))
  show wpAny _ _ (newExc (.type "StopIteration") [] >>= _) _ _ _
  refine wpAny_bind ?_
  simp only [newExc, newTuple]
  refine wpAny_bind (wpAny_newObj_type ?_ (by size_fits))
  refine wpAny_bind (m := firstArgMember _ _) (wpAny_of_eq (a := Value.none) (by first | rfl | (simp only [firstArgMember]; rfl)) ?_)
  refine wpAny_newObj_type ?_ (by size_fits)
  simp only [raiseNew]
  refine wpAny_bind (wpAny_handled ?_)
  first | rw [show A.in1.handled = none from hh] | rw [hh]
  refine wpAny_bind (wpAny_pure (wpAny_throw ?_))
  exact hE _ _ (((Heap.SameBut.update ..).extBut.push _).push _) ⟨_, Heap.get?_push_size _ rfl, rfl⟩
end
theorem draws_tup {prog : Program} {w : World} {A : Around} (hh : A.handled = none) (it l : Addr) (hne : l ≠ it) (items : Array Value) :
    Draws prog w A it [it, l] items.size (fun i v => items[i]? = some v) (fun i h => h.IsTupleIter it l i ∧ h.IsTuple l items) where
  live := fun _ _ st => let ⟨o, ho, _⟩ := st.1; ⟨o, ho⟩
  frame := fun _ _ _ st hk => ⟨st.1.at fun o e => hk it (by simp) o e, st.2.at fun o e => hk l (by simp) o e⟩
  item := fun i s Q E hi st hQ => by
    refine nextOf_tup_item st.1 st.2 (x := items[i]) (by simp [hi]) fun h' hit' hs' => ?_
    exact hQ _ h' s.toks (by simp [hi]) ⟨hit', st.2.extBut hs'.extBut hne⟩ hs'
  done := fun s Q E st hE => nextOf_tup_end hh st.1 st.2 (by simp) hE
end
section
abbrev tupN (its : Array Value) (k : Nat) : Obj := { cls := .type "tuple", data := .seq its k }
def Off2 (e it : Addr) (l : Led) : Prop := ∀ p ∈ l, (@Ne Nat p.1 e) ∧ (@Ne Nat p.1 it)
/-- the end of a turn -/
def EStep (h₀ : Heap) (L : Addr) (s : Shared) (e it : Addr) (oe oi : Obj) (t : Addr) (its : Array Value) (k : Nat) (Jn : (Str → Option Value) → Led → Prop) (f : Flow) (s' : Shared) : Prop :=
  f = .next ∧ ∃ h' tk' m₂ news₂, s' = { s with heap := h', toks := tk' } ∧ Fr h₀ L h' m₂ ∧ News h₀ L h' ((e, oe) :: (it, oi) :: news₂) ∧ Off2 e it news₂ ∧ (t, tupN its k) ∈ news₂ ∧ Jn m₂ news₂
theorem EStep.intro {h₀ : Heap} {L : Addr} {s : Shared} {e it : Addr} {oe oi : Obj} {t : Addr} {its : Array Value} {k : Nat} {Jn : (Str → Option Value) → Led → Prop} {h' : Heap} {tk' : Nat} {m₂ : Str → Option Value} {all : Led}
    (F : Fr h₀ L h' m₂) (N : News h₀ L h' all) (news₂ : Led) (sub : ∀ p ∈ (e, oe) :: (it, oi) :: news₂, p ∈ all) (off : Off2 e it news₂) (ht : (t, tupN its k) ∈ news₂) (j : Jn m₂ news₂) :
    EStep h₀ L s e it oe oi t its k Jn .next { s with heap := h', toks := tk' } := ⟨rfl, h', tk', m₂, news₂, rfl, F, fun p hp => N p (sub p hp), off, ht, j⟩
def EnumAt (prog : Program) (w : World) (A : Around) (h₀ : Heap) (env : Env) (xi xc : Str) (body : List Stmt) (Q : Flow → Shared → Prop) (E : Value → Shared → Prop) (itv : Value) (s : Shared) : Prop :=
  ∃ (e it t : Addr) (its : Array Value) (k : Nat) (news : Led) (m : Str → Option Value) (J : Nat → (Str → Option Value) → Led → Prop),
    itv = .ref e ∧ (∃ old, IsEnum s.heap e it 0 old) ∧ s.heap.IsTupleIter it t 0 ∧ Fr h₀ env.locals s.heap m ∧ News h₀ env.locals s.heap news ∧ (t, tupN its k) ∈ news ∧ e ≠ it ∧ h₀.get? e = none ∧ h₀.get? it = none ∧ e ≠ env.locals ∧ it ≠ env.locals ∧
    Off2 e it news ∧ J 0 m news ∧
    (∀ i v ti h tk oe oi m₁ news₁, oe.cls = .type "enumerate" → oi.cls = .type "tuple_iterator" → its[i]? = some v → J i m₁ news₁ → (t, tupN its k) ∈ news₁ →
      Fr h₀ env.locals h (fun y => if y = xc then some v else if y = xi then some (.int (i : Int) ti) else m₁ y) → News h₀ env.locals h ((e, oe) :: (it, oi) :: news₁) → Off2 e it news₁ →
      wpAny (model prog w) A (execs body env) (EStep h₀ env.locals s e it oe oi t its k (J (i + 1))) E { s with heap := h, toks := tk }) ∧
    (∀ h' tk m' news', Fr h₀ env.locals h' m' → News h₀ env.locals h' news' → J its.size m' news' → Q .next { s with heap := h', toks := tk })
section
variable {prog : Program} {w : World} {A : Around} {s : Shared} {env : Env} {h₀ : Heap}
theorem for_enum {E : Value → Shared → Prop} {Q : Flow → Shared → Prop} {xi xc : Str} {pk pv pt pos : Pos} {x1 : Nat} {iter : Expr} {body : List Stmt} {m₀ : Str → Option Value} (_F : Fr h₀ env.locals s.heap m₀) (hh : A.handled = none)
    (hxi : env.kindOf xi = some .local) (hxc : env.kindOf xc = some .local)
    (hp : (env.scope.kind == .class || (env.scope.kind == .module && env.locals != env.globals)) = false)
    (h : wpAny (model prog w) A (eval iter env) (fun xv s₁ => wpAny (model prog w) A (pyIter xv) (fun it s₂ => EnumAt prog w A h₀ env xi xc body Q E it s₂) E s₁) E s)
    (hs : ∀ x, foldedSetIterable iter env x = pure x := by intro _; rfl)
    (hE : PassesOwn (model prog w) A env E := by passes_own) :
    wpAny (model prog w) A (exec (.For (.Tuple [.Name xi pk, .Name xc pv] x1 pt) iter body [] pos) env) Q E s := by
  refine wpAny_For (wpAny_mono h (fun xv s₁ h₁ => wpAny_mono h₁ (fun itv s h₂ => ?_) fun _ _ e => e) fun _ _ e => e) hs
  obtain ⟨e, it, t, its, k, news, m, J, rfl, he, hit, F, N, hm, hei, hee, hie, heL, hiL, hoff, h0, step, fin⟩ := h₂
  have htp : s.heap.IsTuple t its := ⟨_, (N _ hm).1, rfl, k, rfl⟩
  have hti : t ≠ it := (hoff _ hm).2
  have hte : t ≠ e := (hoff _ hm).1
  have htL : t ≠ env.locals := (N _ hm).2.1
  have W := WalksT.enumerateD (prog := prog) (w := w) (A := A) (draws_tup (A := A.in1) hh it t hti its) e hei (by simp; exact ⟨hei, Ne.symm hte⟩) (by simp)
  generalize hn : its.size = n at W
  have old : ∀ b o, h₀.get? b = some o → b ∉ [e, it] := fun b o e' hb => by
    rcases List.mem_cons.mp hb with rfl | hb
    · rw [hee] at e'; cases e'
    · rw [List.mem_singleton.mp hb, hie] at e'; cases e'
  have hLw : env.locals ∉ [e, it] := by simp; exact ⟨Ne.symm heL, Ne.symm hiL⟩
  refine codeAny_forLoop_any
    (fun c s' => ∃ h' tk m' news', ∃ i : Nat, s' = { s with heap := h', toks := tk } ∧ ((∃ old, IsEnum h' e it i old) ∧ h'.IsTupleIter it t i ∧ h'.IsTuple t its) ∧ Fr h₀ env.locals h' m' ∧ News h₀ env.locals h' news' ∧ Off2 e it news' ∧ (t, tupN its k) ∈ news' ∧ J i m' news' ∧ i ≤ n ∧ c = n + 1 - i) ?_ (n + 1)
    ⟨s.heap, s.toks, m, news, 0, rfl, ⟨he, hit, htp⟩, F, N, hoff, hm, h0, Nat.zero_le _, rfl⟩
  rintro c s' ⟨H, tk, m', news', i, rfl, hst', F', N', hoff', hm', hJ, hi, rfl⟩
  have next : ∀ h₁ : Heap, (∀ b o, b ∉ [e, it] → H.get? b = some o → h₁.get? b = some o) → Fr h₀ env.locals h₁ m' ∧ News h₀ env.locals h₁ news' := fun h₁ hk₁ =>
    ⟨⟨F'.ns.at' fun o e => hk₁ _ o hLw e, fun b o e => hk₁ b o (old b o e) (F'.keep b o e), F'.above⟩, fun p hp => ⟨hk₁ _ _ (by simp; exact hoff' p hp) (N' p hp).1, (N' p hp).2⟩⟩
  by_cases hlt : i < n
  · refine W.item i _ _ _ hlt hst' fun T vals h₁ tk₁ hPt _ hT hMid hk₁ => ?_
    obtain ⟨ti, v, hv, rfl⟩ := hPt
    refine W.go _ x1 pt i T _ _ _ hMid fun h₂ hst₂ hk₂ => ?_
    have ht₂ : h₂.IsTuple T #[.int i ti, v] := hT.at fun o e => hk₂ T o (W.apart i T h₁ hMid) e
    refine wpAny_assign_Tuple hh ht₂ rfl rfl fun h₃ hx₃ => ?_
    replace hx₃ : Heap.ExtBut h₂.objs.size h₂ h₃ := hx₃
    have up₃ : ∀ b o, h₂.get? b = some o → h₃.get? b = some o := fun b o x => hx₃ b o (Nat.ne_of_lt (Heap.lt_size x)) x
    obtain ⟨F₃, N₃⟩ := next h₃ fun b o hb x => up₃ b o (hk₂ b o hb (hk₁ b o hb x))
    show wpAny _ A (do holding [v] (assign (.Name xi pk) env (.int i ti)); do holding [] (assign (.Name xc pv) env v); pure ()) _ _ _
    refine wpAny_bind (wpAny_holding (wpAny_assign_Name (wpAny_storeName_local hxi F₃.ns (fun h₄ hn₄ hs₄ => ?_) hp)))
    replace hs₄ : Heap.SameBut env.locals h₃ h₄ := hs₄
    have F₄ := F₃.set hn₄ hs₄
    refine wpAny_bind (wpAny_holding (wpAny_assign_Name (wpAny_storeName_local hxc F₄.ns (fun h₅ hn₅ hs₅ => wpAny_pure ?_) hp)))
    replace hs₅ : Heap.SameBut env.locals h₄ h₅ := hs₅
    have F₅ := F₄.set hn₅ hs₅
    have N₅ : News h₀ env.locals h₅ news' := (N₃.set hs₄).set hs₅
    obtain ⟨⟨old2, he2⟩, hit2, htp2⟩ := hst₂
    have he5 : h₅.get? e = some _ := hs₅.extBut e _ heL (hs₄.extBut e _ heL (up₃ _ _ he2))
    obtain ⟨oi, hi2, hi3⟩ := hit2
    have hi5 : h₅.get? it = some oi := hs₅.extBut it _ hiL (hs₄.extBut it _ hiL (up₃ _ _ hi2))
    have N6 : News h₀ env.locals h₅ ((e, _) :: (it, oi) :: news') := fun p hp => by
      rcases List.mem_cons.mp hp with rfl | hp
      · exact ⟨he5, heL, hee⟩
      · rcases List.mem_cons.mp hp with rfl | hp
        · exact ⟨hi5, hiL, hie⟩
        · exact N₅ p hp
    refine wpAny_passesOwn hE (wpAny_mono (step i v ti h₅ _ _ oi m' news' rfl hi3.1 hv hJ hm' F₅ N6 hoff') (fun f s₃ h₆ => ?_) fun _ _ e => e)
    obtain ⟨rfl, h₆, tk₆, m₂, news₂, rfl, F₆, N₆, off₆, hm₆, hJ₆⟩ := h₆
    have N7 : News h₀ env.locals h₆ news₂ := fun p hp => N₆ p (.tail _ (.tail _ hp))
    exact ⟨n + 1 - (i + 1), by omega, h₆, tk₆, m₂, news₂, i + 1, rfl, ⟨⟨_, (N₆ _ (.head _)).1⟩, ⟨oi, (N₆ _ (.tail _ (.head _))).1, hi3⟩, ⟨_, (N7 _ hm₆).1, rfl, k, rfl⟩⟩, F₆, N7, off₆, hm₆, hJ₆, hlt, rfl⟩
  · have hin : i = n := by omega
    subst hin
    refine W.done _ _ _ hst' fun h₁ tk₁ hk₁ => wpAny_execs_nil ?_
    obtain ⟨F₁, N₁⟩ := next h₁ hk₁
    exact fin h₁ tk₁ m' news' F₁ N₁ (hn ▸ hJ)
theorem enum_intro {E : Value → Shared → Prop} {Q : Flow → Shared → Prop} {xi xc : Str} {body : List Stmt} {t : Addr} {its : Array Value} {k : Nat} {news : Led} {m : Str → Option Value} (J : Nat → (Str → Option Value) → Led → Prop)
    (F : Fr h₀ env.locals s.heap m) (N : News h₀ env.locals s.heap news) (hm : (t, tupN its k) ∈ news) (h0 : J 0 m news)
    (step : ∀ e it i v ti h tk oe oi m₁ news₁, s.heap.objs.size ≤ it → s.heap.objs.size ≤ e → oe.cls = .type "enumerate" → oi.cls = .type "tuple_iterator" → its[i]? = some v → J i m₁ news₁ → (t, tupN its k) ∈ news₁ →
      Fr h₀ env.locals h (fun y => if y = xc then some v else if y = xi then some (.int (i : Int) ti) else m₁ y) → News h₀ env.locals h ((e, oe) :: (it, oi) :: news₁) → Off2 e it news₁ → (@Ne Nat e it) → (@Ne Nat e env.locals) → (@Ne Nat it env.locals) →
      wpAny (model prog w) A (execs body env) (EStep h₀ env.locals s e it oe oi t its k (J (i + 1))) E { s with heap := h, toks := tk })
    (fin : ∀ h' tk m' news', Fr h₀ env.locals h' m' → News h₀ env.locals h' news' → J its.size m' news' → Q .next { s with heap := h', toks := tk }) :
    wpAny (model prog w) A (call (.type "enumerate") [.ref t]) (fun xv s₁ => wpAny (model prog w) A (pyIter xv) (fun it s₂ => EnumAt prog w A h₀ env xi xc body Q E it s₂) E s₁) E s := by
  have htp : s.heap.IsTuple t its := ⟨_, (N _ hm).1, rfl, k, rfl⟩
  refine call_enumT htp fun h' he hit hsz hk => ?_
  refine wpAny_pyIter_enum he ?_
  have hLs : env.locals < s.heap.objs.size := F.ns.lt
  have n1 : h₀.get? s.heap.objs.size = none := next_is_new F
  have n2 : h₀.get? (s.heap.objs.size + 1) = none := Heap.get?_none_of_le (Nat.le_succ_of_le (Nat.le_trans F.above (Nat.le_of_lt hLs)))
  have hn : ∀ p ∈ news, p.1 < s.heap.objs.size := fun p hp => Heap.lt_size (N p hp).1
  have q1 : s.heap.objs.size + 1 ≠ env.locals := Ne.symm (Nat.ne_of_lt (Nat.lt_succ_of_lt hLs))
  have q2 : s.heap.objs.size ≠ env.locals := Ne.symm (Nat.ne_of_lt hLs)
  exact ⟨_, _, t, its, k, news, m, J, rfl, ⟨_, he⟩, hit, F.keeps hk, N.grown hk, hm, Nat.succ_ne_self _, n2, n1, q1, q2,
    fun p hp => ⟨Nat.ne_of_lt (Nat.lt_succ_of_lt (hn p hp)), Nat.ne_of_lt (hn p hp)⟩, h0,
    fun i v ti h tk oe oi m₁ news₁ z1 z2 a b c d e f => step _ _ i v ti h tk oe oi m₁ news₁ (Nat.le_refl _) (Nat.le_succ _) z1 z2 a b c d e f (Nat.succ_ne_self _) q1 q2, fin⟩
end
end
section
/-- the end of a turn over a tuple, the ledger kept -/
def TStep (h₀ : Heap) (L : Addr) (s : Shared) (it : Addr) (oi : Obj) (news : Led) (Jn : (Str → Option Value) → Prop) (f : Flow) (s' : Shared) : Prop :=
  f = .next ∧ ∃ h' tk' m₂, s' = { s with heap := h', toks := tk' } ∧ Fr h₀ L h' m₂ ∧ News h₀ L h' ((it, oi) :: news) ∧ Jn m₂
theorem TStep.intro {h₀ : Heap} {L : Addr} {s : Shared} {it : Addr} {oi : Obj} {news : Led} {Jn : (Str → Option Value) → Prop} {h' : Heap} {tk' : Nat} {m₂ : Str → Option Value}
    (F : Fr h₀ L h' m₂) (N : News h₀ L h' ((it, oi) :: news)) (j : Jn m₂) : TStep h₀ L s it oi news Jn .next { s with heap := h', toks := tk' } := ⟨rfl, h', tk', m₂, rfl, F, N, j⟩
def TupAt (prog : Program) (w : World) (A : Around) (h₀ : Heap) (env : Env) (x : Str) (body : List Stmt) (Q : Flow → Shared → Prop) (E : Value → Shared → Prop) (xv : Value) (s : Shared) : Prop :=
  ∃ (t : Addr) (its : Array Value) (k : Nat) (news : Led) (m : Str → Option Value) (J : Nat → (Str → Option Value) → Prop),
    xv = .ref t ∧ Fr h₀ env.locals s.heap m ∧ News h₀ env.locals s.heap news ∧ (t, tupN its k) ∈ news ∧ J 0 m ∧
    (∀ it i v h tk oi m₁, its[i]? = some v → J i m₁ → (∀ p ∈ news, (@Ne Nat p.1 it)) → (@Ne Nat it env.locals) →
      Fr h₀ env.locals h (fun y => if y = x then some v else m₁ y) → News h₀ env.locals h ((it, oi) :: news) →
      wpAny (model prog w) A (execs body env) (TStep h₀ env.locals s it oi news (J (i + 1))) E { s with heap := h, toks := tk }) ∧
    (∀ h' tk m', Fr h₀ env.locals h' m' → News h₀ env.locals h' news → J its.size m' → Q .next { s with heap := h', toks := tk })
section
variable {prog : Program} {w : World} {A : Around} {s : Shared} {env : Env} {h₀ : Heap}
theorem for_tup {E : Value → Shared → Prop} {Q : Flow → Shared → Prop} {x : Str} {px pos : Pos} {iter : Expr} {body : List Stmt} {m₀ : Str → Option Value} (_F : Fr h₀ env.locals s.heap m₀) (hh : A.handled = none)
    (hx : env.kindOf x = some .local)
    (hp : (env.scope.kind == .class || (env.scope.kind == .module && env.locals != env.globals)) = false)
    (h : wpAny (model prog w) A (eval iter env) (TupAt prog w A h₀ env x body Q E) E s)
    (hs : ∀ x, foldedSetIterable iter env x = pure x := by intro _; rfl)
    (hE : PassesOwn (model prog w) A env E := by passes_own) :
    wpAny (model prog w) A (exec (.For (.Name x px) iter body [] pos) env) Q E s := by
  refine wpAny_For (wpAny_mono h (fun xv s₁ h₁ => ?_) fun _ _ e => e) hs
  obtain ⟨t, its, k, news, m, J, rfl, F, N, hm, h0, step, fin⟩ := h₁
  have htp : s₁.heap.IsTuple t its := ⟨_, (N _ hm).1, rfl, k, rfl⟩
  have hlt : t < s₁.heap.objs.size := by obtain ⟨_, e, _⟩ := htp; exact Heap.lt_size e
  have hLs : env.locals < s₁.heap.objs.size := F.ns.lt
  have n1 : h₀.get? s₁.heap.objs.size = none := next_is_new F
  refine wpAny_pyIter_tuple htp ?_
  have up : ∀ b o, s₁.heap.get? b = some o → (s₁.heap.push { cls := .type "tuple_iterator", data := .fields #[.ref t, .int 0 0] }).get? b = some o := fun b o e => Heap.get?_push_of_some _ e
  have F0 := F.keeps up
  have N0 : News h₀ env.locals _ news := N.grown up
  have off : ∀ p ∈ news, (@Ne Nat p.1 s₁.heap.objs.size) := fun p hp => Nat.ne_of_lt (Heap.lt_size (N p hp).1)
  have hiL : s₁.heap.objs.size ≠ env.locals := Ne.symm (Nat.ne_of_lt hLs)
  have htL : t ≠ env.locals := (N _ hm).2.1
  have hit0 : (s₁.heap.push { cls := .type "tuple_iterator", data := .fields #[.ref t, .int 0 0] }).IsTupleIter s₁.heap.objs.size t 0 := ⟨_, Heap.get?_push_size _ rfl, rfl, rfl⟩
  generalize hI : s₁.heap.objs.size = I at *
  generalize hH : s₁.heap.push { cls := .type "tuple_iterator", data := .fields #[.ref t, .int 0 0] } = H0 at *
  have W := Walks.tuple (prog := prog) (w := w) (A := A) hh I t (Nat.ne_of_lt hlt) its
  generalize hn : its.size = n at W
  have old : ∀ b o, h₀.get? b = some o → b ∉ [I] := fun b o e' hb => by
    rw [List.mem_singleton.mp hb, n1] at e'; cases e'
  refine codeAny_forLoop_any
    (fun c s' => ∃ h' tk m', ∃ i : Nat, s' = { s₁ with heap := h', toks := tk } ∧ (h'.IsTupleIter I t i ∧ h'.IsTuple t its) ∧ Fr h₀ env.locals h' m' ∧ News h₀ env.locals h' news ∧ J i m' ∧ i ≤ n ∧ c = n + 1 - i) ?_ (n + 1)
    ⟨H0, s₁.toks, m, 0, rfl, ⟨hit0, ⟨_, (N0 _ hm).1, rfl, k, rfl⟩⟩, F0, N0, h0, Nat.zero_le _, rfl⟩
  rintro c s' ⟨H, tk, m', i, rfl, hst', F', N', hJ, hi, rfl⟩
  have next : ∀ h₁ : Heap, (∀ b o, b ∉ [I] → H.get? b = some o → h₁.get? b = some o) → Fr h₀ env.locals h₁ m' ∧ News h₀ env.locals h₁ news := fun h₁ hk₁ =>
    ⟨⟨F'.ns.at' fun o e => hk₁ _ o (by simp; exact Ne.symm hiL) e, fun b o e => hk₁ b o (old b o e) (F'.keep b o e), F'.above⟩, fun p hp => ⟨hk₁ _ _ (by simp; exact off p hp) (N' p hp).1, (N' p hp).2⟩⟩
  by_cases hlt : i < n
  · refine W.item i _ _ _ hlt hst' fun v h₁ tk₁ hv hst₁ hk₁ => ?_
    obtain ⟨F₁, N₁⟩ := next h₁ hk₁
    refine letGo_tupleiter hst₁.1 ?_
    refine wpAny_assign_Name (wpAny_storeName_local hx F₁.ns (fun h₂ hn₂ hs₂ => ?_) hp)
    replace hs₂ : Heap.SameBut env.locals h₁ h₂ := hs₂
    have F₂ := F₁.set hn₂ hs₂
    have N₂ : News h₀ env.locals h₂ news := N₁.set hs₂
    obtain ⟨⟨oi, hi2, hi3⟩, htp2⟩ := hst₁
    have hi5 : h₂.get? I = some oi := hs₂.extBut I _ hiL hi2
    have N6 : News h₀ env.locals h₂ ((I, oi) :: news) := fun p hp => by
      rcases List.mem_cons.mp hp with rfl | hp
      · exact ⟨hi5, hiL, n1⟩
      · exact N₂ p hp
    refine wpAny_passesOwn hE (wpAny_mono (step I i v h₂ _ oi m' hv hJ off hiL F₂ N6) (fun f s₃ h₆ => ?_) fun _ _ e => e)
    obtain ⟨rfl, h₆, tk₆, m₂, rfl, F₆, N₆, hJ₆⟩ := h₆
    have N7 : News h₀ env.locals h₆ news := fun p hp => N₆ p (.tail _ hp)
    exact ⟨n + 1 - (i + 1), by omega, h₆, tk₆, m₂, i + 1, rfl, ⟨⟨oi, (N₆ _ (.head _)).1, hi3⟩, ⟨_, (N7 _ hm).1, rfl, k, rfl⟩⟩, F₆, N7, hJ₆, hlt, rfl⟩
  · have hin : i = n := by omega
    subst hin
    refine W.done _ _ _ hst' fun h₁ tk₁ hk₁ => wpAny_execs_nil ?_
    obtain ⟨F₁, N₁⟩ := next h₁ hk₁
    exact fin h₁ tk₁ m' F₁ N₁ (hn ▸ hJ)
end
end
section
/-- for x in range(n): the ledger kept -/
def RngAt (prog : Program) (w : World) (A : Around) (h₀ : Heap) (env : Env) (x : Str) (body : List Stmt) (Q : Flow → Shared → Prop) (E : Value → Shared → Prop) (xv : Value) (s : Shared) : Prop :=
  ∃ (r : Addr) (b : Int) (t u v : Tok) (n : Nat) (news : Led) (m : Str → Option Value) (J : Nat → (Str → Option Value) → Prop),
    xv = .ref r ∧ IsRange s.heap r 0 b 1 t u v ∧ Builtin.Range.small 0 b 1 = true ∧ Builtin.Range.rangeSize 0 b 1 = ((n : Nat) : Int) ∧ Fr h₀ env.locals s.heap m ∧ News h₀ env.locals s.heap news ∧ J 0 m ∧
    (∀ it i t h tk oi m₁, i < n → J i m₁ → (∀ p ∈ news, (@Ne Nat p.1 it)) → (@Ne Nat it env.locals) →
      Fr h₀ env.locals h (fun y => if y = x then some (.int (i : Nat) t) else m₁ y) → News h₀ env.locals h ((it, oi) :: news) →
      wpAny (model prog w) A (execs body env) (TStep h₀ env.locals s it oi news (J (i + 1))) E { s with heap := h, toks := tk }) ∧
    (∀ h' tk m', Fr h₀ env.locals h' m' → News h₀ env.locals h' news → J n m' → Q .next { s with heap := h', toks := tk })
section
variable {prog : Program} {w : World} {A : Around} {s : Shared} {env : Env} {h₀ : Heap}
theorem for_rng {E : Value → Shared → Prop} {Q : Flow → Shared → Prop} {x : Str} {px pos : Pos} {iter : Expr} {body : List Stmt} {m₀ : Str → Option Value} (_F : Fr h₀ env.locals s.heap m₀) (hh : A.handled = none)
    (hx : env.kindOf x = some .local)
    (hp : (env.scope.kind == .class || (env.scope.kind == .module && env.locals != env.globals)) = false)
    (h : wpAny (model prog w) A (eval iter env) (RngAt prog w A h₀ env x body Q E) E s)
    (hs : ∀ x, foldedSetIterable iter env x = pure x := by intro _; rfl)
    (hE : PassesOwn (model prog w) A env E := by passes_own) :
    wpAny (model prog w) A (exec (.For (.Name x px) iter body [] pos) env) Q E s := by
  refine wpAny_For (wpAny_mono h (fun xv s₁ h₁ => ?_) fun _ _ e => e) hs
  obtain ⟨r, b, t, u, v, n, news, m, J, rfl, hr, hsm, hn, F, N, h0, step, fin⟩ := h₁
  have hLs : env.locals < s₁.heap.objs.size := F.ns.lt
  have n1 : h₀.get? s₁.heap.objs.size = none := next_is_new F
  refine wpAny_pyIter_range hr hsm ?_
  have up : ∀ b' o, s₁.heap.get? b' = some o → (s₁.heap.push { cls := .type "range_iterator", data := .fields #[rawInt 0, rawInt (Builtin.Range.rangeSize 0 b 1), rawInt 1] }).get? b' = some o := fun b o e => Heap.get?_push_of_some _ e
  have F0 := F.keeps up
  have N0 : News h₀ env.locals _ news := N.grown up
  have off : ∀ p ∈ news, (@Ne Nat p.1 s₁.heap.objs.size) := fun p hp => Nat.ne_of_lt (Heap.lt_size (N p hp).1)
  have hiL : s₁.heap.objs.size ≠ env.locals := Ne.symm (Nat.ne_of_lt hLs)
  have hit0 : IsRangeIter (s₁.heap.push { cls := .type "range_iterator", data := .fields #[rawInt 0, rawInt (Builtin.Range.rangeSize 0 b 1), rawInt 1] }) s₁.heap.objs.size ((0 : Int) + (0 : Nat) * 1) ((n : Int) - (0 : Nat)) 1 := by
    show IsRangeIter _ _ _ _ _; rw [hn]; simpa using Heap.get?_push_size _ rfl
  generalize hI : s₁.heap.objs.size = I at *
  generalize hH : s₁.heap.push { cls := .type "range_iterator", data := .fields #[rawInt 0, rawInt (Builtin.Range.rangeSize 0 b 1), rawInt 1] } = H0 at *
  have W : Walks prog w A I [I] [I] n (fun i v => i < n ∧ ∃ t, v = .int (0 + i * 1) t) (fun i h => IsRangeIter h I (0 + (i : Nat) * 1) ((n : Int) - (i : Nat)) 1) := (Walks.range hh I 0 1 n).bound
  have old : ∀ b o, h₀.get? b = some o → b ∉ [I] := fun b o e' hb => by
    rw [List.mem_singleton.mp hb, n1] at e'; cases e'
  refine codeAny_forLoop_any
    (fun c s' => ∃ h' tk m', ∃ i : Nat, s' = { s₁ with heap := h', toks := tk } ∧ IsRangeIter h' I ((0 : Int) + (i : Nat) * 1) ((n : Int) - (i : Nat)) 1 ∧ Fr h₀ env.locals h' m' ∧ News h₀ env.locals h' news ∧ J i m' ∧ i ≤ n ∧ c = n + 1 - i) ?_ (n + 1)
    ⟨H0, s₁.toks, m, 0, rfl, hit0, F0, N0, h0, Nat.zero_le _, rfl⟩
  rintro c s' ⟨H, tk, m', i, rfl, hst', F', N', hJ, hi, rfl⟩
  have next : ∀ h₁ : Heap, (∀ b o, b ∉ [I] → H.get? b = some o → h₁.get? b = some o) → Fr h₀ env.locals h₁ m' ∧ News h₀ env.locals h₁ news := fun h₁ hk₁ =>
    ⟨⟨F'.ns.at' fun o e => hk₁ _ o (by simp; exact Ne.symm hiL) e, fun b o e => hk₁ b o (old b o e) (F'.keep b o e), F'.above⟩, fun p hp => ⟨hk₁ _ _ (by simp; exact off p hp) (N' p hp).1, (N' p hp).2⟩⟩
  by_cases hlt : i < n
  · refine W.item i _ _ _ hlt hst' fun v h₁ tk₁ hv hst₁ hk₁ => ?_
    obtain ⟨_, tv, rfl⟩ := hv
    obtain ⟨F₁, N₁⟩ := next h₁ hk₁
    refine wpAny_pure ?_
    refine wpAny_assign_Name (wpAny_storeName_local hx F₁.ns (fun h₂ hn₂ hs₂ => ?_) hp)
    replace hs₂ : Heap.SameBut env.locals h₁ h₂ := hs₂
    have F₂ := F₁.set hn₂ hs₂
    have N₂ : News h₀ env.locals h₂ news := N₁.set hs₂
    have e0 : (0 : Int) + (i : Int) * 1 = (i : Nat) := by omega
    rw [e0] at F₂
    have hst₁' : h₁.get? I = some _ := hst₁
    have hi5 := hs₂.extBut I _ hiL hst₁'
    have N6 := (show News h₀ env.locals h₂ ((I, _) :: news) from fun p hp => by
      rcases List.mem_cons.mp hp with rfl | hp
      · exact ⟨hi5, hiL, n1⟩
      · exact N₂ p hp)
    refine wpAny_passesOwn hE (wpAny_mono (step I i tv h₂ _ _ m' hlt hJ off hiL F₂ N6) (fun f s₃ h₆ => ?_) fun _ _ e => e)
    obtain ⟨rfl, h₆, tk₆, m₂, rfl, F₆, N₆, hJ₆⟩ := h₆
    have N7 : News h₀ env.locals h₆ news := fun p hp => N₆ p (.tail _ hp)
    exact ⟨n + 1 - (i + 1), by omega, h₆, tk₆, m₂, i + 1, rfl, (N₆ _ (.head _)).1, F₆, N7, hJ₆, hlt, rfl⟩
  · have hin : i = n := by omega
    subst hin
    refine W.done _ _ _ hst' fun h₁ tk₁ hk₁ => wpAny_execs_nil ?_
    obtain ⟨F₁, N₁⟩ := next h₁ hk₁
    exact fin h₁ tk₁ m' F₁ N₁ hJ
end
theorem small_range {b : Int} (h0 : 0 ≤ b) (h1 : b < 6) : Builtin.Range.small 0 b 1 = true ∧ Builtin.Range.rangeSize 0 b 1 = ((b.toNat : Nat) : Int) := by
  have hb : b = 0 ∨ b = 1 ∨ b = 2 ∨ b = 3 ∨ b = 4 ∨ b = 5 := by omega
  rcases hb with rfl | rfl | rfl | rfl | rfl | rfl <;> exact ⟨by decide, by decide⟩
end
section
theorem adjust_upto (b n : Nat) (hb : b ≤ n) : Builtin.Slice.sliceAdjust none (some (b : Int)) 1 (n : Int) = ((0 : Int), (b : Int)) := by
  unfold Builtin.Slice.sliceAdjust
  have h1 : ¬ ((1 : Int) < 0) := by omega
  have h2 : ¬ ((b : Int) < 0) := by omega
  simp only [h1, h2, if_false]
  congr 1
  omega
theorem places_upto (b : Nat) : Builtin.Slice.slicePlaces (0 : Int) (b : Int) 1 = b := by
  unfold Builtin.Slice.slicePlaces
  have h1 : (1 : Int) > 0 := by omega
  simp only [h1, if_true, Int.ediv_one]
  split <;> omega
theorem pick_upto (xs : Array Value) (b : Nat) : ((List.range b).filterMap fun (k : Nat) => xs[((0 : Int) + (k : Int) * 1).toNat]?).toArray = (xs.toList.take b).toArray := by
  have e : (fun (k : Nat) => xs[((0 : Int) + (k : Int) * 1).toNat]?) = fun k => xs[0 + k]? := by
    funext k
    have : ((0 : Int) + (k : Int) * 1).toNat = 0 + k := by omega
    rw [this]
  rw [e]
  have := pick_run xs 0 b
  rw [List.filterMap_map] at this
  have e2 : ((fun x => xs[x]?) ∘ fun x => 0 + x) = fun k => xs[0 + k]? := rfl
  rw [e2] at this
  rw [this, List.drop_zero]
section
variable {prog : Program} {w : World} {A : Around} {E : Value → Shared → Prop} {s : Shared} {h₀ : Heap} {L : Addr} {m : Str → Option Value} {news : List (Addr × Obj)}
theorem sliceApplied_upto {sl : Addr} {b n : Nat} {u : Tok} {Q : Int × Int × Nat → Shared → Prop} (hs : s.heap.IsSliceOf sl .none (.int b u) .none) (hb : b ≤ n) (h : Q ((0 : Int), 1, b) s) :
    wpAny (model prog w) A (Builtin.Slice.sliceApplied (.ref sl) (pure (n : Int))) Q E s := by
  obtain ⟨os, hos, hcs, hds⟩ := id hs
  unfold Builtin.Slice.sliceApplied Builtin.Slice.sliceFields
  refine wpAny_bind (wpAny_bind (wpAny_field hos hds (x := .none) rfl (wpAny_bind (wpAny_field hos hds (x := .int b u) rfl (wpAny_bind (wpAny_field hos hds (x := .none) rfl (wpAny_pure ?_)))))))
  refine wpAny_bind (slicePart_none ?_)
  show wpAny _ _ (if ((1 : Int) == 0) = true then _ else _) _ _ s
  rw [if_neg (by decide)]
  refine wpAny_bind (slicePart_none (wpAny_bind (slicePart_int (wpAny_bind (wpAny_pure ?_)))))
  show wpAny _ _ (match Builtin.Slice.sliceAdjust none (some (b : Int)) 1 (n : Int) with | (lo, hi) => pure (lo, (1 : Int), Builtin.Slice.slicePlaces lo hi 1)) _ _ s
  rw [adjust_upto b n hb]
  show wpAny _ _ (pure ((0 : Int), (1 : Int), Builtin.Slice.slicePlaces (0 : Int) (b : Int) 1)) _ _ s
  rw [places_upto b]
  exact wpAny_pure h
theorem getItem_upto {t sl : Addr} {items : Array Value} {b : Nat} {u : Tok} {Q : Value → Shared → Prop} (ht : IsTup s.heap t items) (hs : s.heap.IsSliceOf sl .none (.int b u) .none) (hb : b < items.size)
    (h : Q (.ref s.heap.objs.size) { s with heap := s.heap.push { cls := .type "tuple", data := .seq (items.toList.take b).toArray } })
    (hsz : items.size ≤ sizeLine) : wpAny (model prog w) A (getItem (.ref t) (.ref sl)) Q E s := by
  have hdrop : sizeOk (.seq (items.toList.take b).toArray) := by
    show (items.toList.take b).toArray.size ≤ sizeLine
    rw [List.size_toArray, List.length_take, Array.length_toList]
    omega
  obtain ⟨os, hos, hcs, hds⟩ := id hs
  have hTs : s.TypeIs (.ref sl) "slice" := ⟨os, hos, hcs⟩
  unfold getItem
  try with_reducible refine wpAny_holding ?_
  first | refine wpAny_bind (wpAny_pure ?_) | skip
  refine wpAny_bind (wpAny_sequenceKey ht.typeIs (by decide) ?_)
  refine wpAny_bind (wpAny_callSpecial?_slot (name := Str.ofString "__getitem__") ht.typeIs slot_tuple_getitem
    (wpAny_call_entry slot_tuple_getitem ht.typeIs entry_tuple_getitem ?_ (args_tuple_getitem _ _)))
  show wpAny _ _ (Builtin.Tuple.tupleItemsOf (.ref t) >>= _) _ _ s
  refine wpAny_bind (tupleItemsOf_ ht ?_)
  refine wpAny_bind (wpAny_typeOf hTs ?_)
  rw [if_pos (by decide)]
  refine wpAny_bind (sliceApplied_upto hs (Nat.le_of_lt hb) ?_)
  have hno : ¬ (((0 : Int) == 0 && (1 : Int) == 1 && b == items.size) = true) := by
    have : (b == items.size) = false := by rw [beq_eq_false_iff_ne]; omega
    rw [this]; simp
  show wpAny _ _ (if ((0 : Int) == 0 && (1 : Int) == 1 && b == items.size) = true then _ else _) _ _ s
  rw [if_neg hno, pick_upto items b]
  first
    | exact wpAny_bind (m := Builtin.Tuple.tupleExact _) (wpAny_newObj_type (wpAny_pure ⟨_, rfl, wpAny_pure h⟩) hdrop)
    | exact wpAny_bind (m := Builtin.Tuple.tupleExact _) (wpAny_newObj_type (wpAny_bind (wpAny_pure (wpAny_pure ⟨_, rfl, wpAny_pure h⟩))) hdrop)
    | exact wpAny_bind (wpAny_bind (m := Builtin.Tuple.tupleExact _) (wpAny_newObj_type (wpAny_pure (wpAny_pure ⟨_, rfl, wpAny_pure h⟩)) hdrop))
    | exact wpAny_bind (wpAny_bind (m := Builtin.Tuple.tupleExact _) (wpAny_newObj_type (wpAny_pure ⟨_, rfl, wpAny_pure h⟩) hdrop))
theorem slice_upto {value slice : Expr} {t : Addr} {items : Array Value} {b : Nat} {u : Tok} {Q : Value → Shared → Prop}
    (F : Fr h₀ L s.heap m) (N : News h₀ L s.heap news) (ht : IsTup s.heap t items) (hb : b < items.size)
    (h : ∀ D h', Fr h₀ L h' m → News h₀ L h' ((D, { cls := .type "tuple", data := .seq (items.toList.take b).toArray }) :: news) → (∀ p ∈ news, p.1 < D) → Q (.ref D) { s with heap := h' })
    (hs : subscripted slice false (.ref t) (.ref s.heap.objs.size) = operate [.ref s.heap.objs.size, .ref t] (getItem (.ref t) (.ref s.heap.objs.size)))
    (hg : ∀ r, letTemporaryGo value (.ref t) r = pure ()) (hsz : items.size ≤ sizeLine) :
    wpAny (model prog w) A (subscriptTail value slice (.ref t) (.ref s.heap.objs.size)) Q E { s with heap := s.heap.push { cls := .type "slice", data := .fields #[.none, .int b u, .none] } } := by
  have ht' : IsTup (s.heap.push { cls := .type "slice", data := .fields #[.none, .int b u, .none] }) t items := ht.keeps fun _ _ e => Heap.get?_push_of_some _ e
  refine subscriptTail_ops (s := { s with heap := s.heap.push { cls := .type "slice", data := .fields #[.none, .int b u, .none] } }) ht'.typeIs slot_tuple_getitem.lookup
    (getItem_upto ht' (Heap.IsSliceOf.new ..) hb ?_ hsz) hs hg
  have N1 := News.push (F.push { cls := .type "slice", data := .fields #[.none, .int b u, .none] }) (N.grown fun _ _ e => Heap.get?_push_of_some _ e) { cls := .type "tuple", data := .seq (items.toList.take b).toArray }
  exact h _ _ ((F.push _).push _) N1 fun p hp => by
    rw [Heap.size_push]; exact Nat.lt_succ_of_lt (Heap.lt_size (N p hp).1)
theorem slice_from {value slice : Expr} {t : Addr} {items : Array Value} {a : Nat} {u : Tok} {Q : Value → Shared → Prop}
    (F : Fr h₀ L s.heap m) (N : News h₀ L s.heap news) (ht : IsTup s.heap t items) (h1 : 1 ≤ a) (ha : a ≤ items.size)
    (h : ∀ D h', Fr h₀ L h' m → News h₀ L h' ((D, { cls := .type "tuple", data := .seq (items.toList.drop a).toArray }) :: news) → (∀ p ∈ news, p.1 < D) → Q (.ref D) { s with heap := h' })
    (hs : subscripted slice false (.ref t) (.ref s.heap.objs.size) = operate [.ref s.heap.objs.size, .ref t] (getItem (.ref t) (.ref s.heap.objs.size)))
    (hg : ∀ r, letTemporaryGo value (.ref t) r = pure ()) (hsz : items.size ≤ sizeLine) :
    wpAny (model prog w) A (subscriptTail value slice (.ref t) (.ref s.heap.objs.size)) Q E { s with heap := s.heap.push { cls := .type "slice", data := .fields #[.int a u, .none, .none] } } :=
  slice_tuple_from F N ht h1 ha (fun h' F' N' => h _ h' F' N' fun p hp => Nat.lt_succ_of_lt (Heap.lt_size (N p hp).1)) hs hg hsz
theorem slice_from1 {value slice : Expr} {t : Addr} {items : Array Value} {i : Nat} {u : Tok} {Q : Value → Shared → Prop}
    (F : Fr h₀ L s.heap m) (N : News h₀ L s.heap news) (ht : IsTup s.heap t items) (hi : i < items.size)
    (h : ∀ D h', Fr h₀ L h' m → News h₀ L h' ((D, { cls := .type "tuple", data := .seq (items.toList.drop (i + 1)).toArray }) :: news) → (∀ p ∈ news, p.1 < D) → Q (.ref D) { s with heap := h' })
    (hs : subscripted slice false (.ref t) (.ref s.heap.objs.size) = operate [.ref s.heap.objs.size, .ref t] (getItem (.ref t) (.ref s.heap.objs.size)))
    (hg : ∀ r, letTemporaryGo value (.ref t) r = pure ()) (hsz : items.size ≤ sizeLine) :
    wpAny (model prog w) A (subscriptTail value slice (.ref t) (.ref s.heap.objs.size)) Q E { s with heap := s.heap.push { cls := .type "slice", data := .fields #[.int ((i : Int) + 1) u, .none, .none] } } := by
  have e : ((i : Int) + 1) = ((i + 1 : Nat) : Int) := by omega
  rw [e]
  exact slice_from F N ht (by omega) (by omega) h hs hg hsz
end
end
local macro_rules | `(tactic| walk_at "mine r1") => `(tactic| (k_here; lct_look; lcg_calm; k_dflt (refine ListComp_TT (F₀ := by k_asm) (by with_unfolding_all rfl) (by decide) (by rfl) (by decide) (by rfl) ?_)))
section
section
local macro_rules | `(tactic| k_all) => `(tactic| assumption)
local macro_rules | `(tactic| k_mem) => `(tactic| assumption)
local macro_rules | `(tactic| walk_at "subscriptTail") => `(tactic| walk_at "mine r0")
local macro_rules | `(tactic| walk_at "call ref") => `(tactic| ((with_reducible show wpAny _ _ (call (Value.ref 126) _) _ _ _); k_dflt (refine' cl_use ?B ?F ?X ?N ?T ?he ?hk ?a1 ?a2 ?a3 ?a4 ?hp ?_; walk_at "mine con"; (case hp => (first | exact FcIn.x | exact FcIn.num (by k_mem) | exact FcIn.y (by k_mem) | exact FcIn.pw (by k_mem) (by k_mem) | exact FcIn.x1 (by k_mem) (by k_mem) (by k_mem)))); (intro h' tk' F' N'); (try dsimp only [Fc.has])))
local macro_rules | `(tactic| walk_at "mine idle0") => `(tactic| fail)
theorem so_x {w : World} : Con 615 1150 w 166 (fun news vs Post => ∃ t, vs = [.ref 167, S "x" t] ∧ Post news (.ref 50)) := by
  unfold Con; k_fill
  intro loose mean mg mb cn cs a ccd cl outer A₀ base h₀ L m news s vs Q E Post B F X N T hk hR hret
  obtain ⟨t, rfl, hP⟩ := hR
  obtain ⟨ck, c1, c2, c3, c4⟩ := cs
  obtain rfl : ck = ScopeKind.function := hk
  refine wpAny_call ?_
  k_dflt k_enter
  k_steps
  exact hret _ news _ _ (by k_asm) (news_sub (by k_asm) (by intro p hp; repeat' (first | exact hp | refine List.Mem.tail _ ?_))) hP
theorem so_x_use {w : World} {loose : List Str} {mean : ExcName → Option Value} {mg mb : Str → Option Value} {env : Env} {cn : Str} {cs : Scope} {a : Addr} {ccd : Value} {cl : List (Str × Addr)} {outer : List Env} {A A₀ : Around} {base h₀ : Heap} {L : Addr} {m : Str → Option Value} {news : Led} {s : Shared} {t : Tok}
    {Q E : Value → Shared → Prop}
    (B : Below A₀ base outer h₀) (F : Fr h₀ L s.heap m) (X : (hd.heap_1 w.params).In h₀) (N : News h₀ L s.heap news) (T : Top topProg loose mean mg mb h₀) (he : env = envX cn cs L a ccd cl) (hk : cs.kind = .function)
    (hA1 : A.handled = none) (hA2 : A.depth ≤ 615) (hA3 : A.units ≤ 1150) (hA : A.frames = some (env :: outer))
    (k : ∀ h' tk', Fr h₀ L h' m → News h₀ L h' news → Q (.ref 50) { s with heap := h', toks := tk' }) :
    wpAny (model (PySem.Challenge.rw_rh0026_01).row.prog w) A (call (.ref 166) [.ref 167, S "x" t]) Q E s :=
  con_use so_x (fun nw r => nw = news ∧ r = .ref 50) B F X N T he hk hA1 hA2 hA3 hA ⟨t, rfl, rfl, rfl⟩ fun r nw h' tk' F' N' e => by
    obtain ⟨rfl, rfl⟩ := e
    exact k h' tk' F' N'
local macro_rules | `(tactic| walk_at "call ref") => `(tactic| ((with_reducible show wpAny _ _ (call (Value.ref 166) [Value.ref 167, _]) _ _ _); k_dflt (refine' so_x_use ?B ?F ?X ?N ?T ?he ?hk ?a1 ?a2 ?a3 ?a4 ?_; walk_at "mine con"); (intro h' tk' F' N')))
local macro_rules | `(tactic| walk_at "eval ListComp") => `(tactic| walk_at "mine r1")
local macro_rules | `(tactic| walk_at "CompSrcTT") => `(tactic| refine Hold.out ?_)
theorem so_ok {w : World} : Con 600 1000 w 166 (fun news vs Post => ∃ v d t, vs = [v, S "x" t] ∧ FcIn news v d ∧ ∀ news' r, (∀ p ∈ news, p ∈ news') → (∀ p ∈ news', p ∈ news ∨ ∀ q ∈ news, q.1 < p.1) → SlIn news' r d → Post news' r) := by
  unfold Con; k_fill
  intro loose mean mg mb cn cs a ccd cl outer A₀ base h₀ L m news s vs Q E Post B F X N T hk hR hret
  obtain ⟨v, d, t, rfl, hF, hP⟩ := hR
  obtain ⟨ck, c1, c2, c3, c4⟩ := cs
  obtain rfl : ck = ScopeKind.function := hk
  cases hF with
  | x1 ha hb hc =>
    refine wpAny_call ?_
    k_dflt k_enter
    k_steps
    refine Hold.mk ?_
    refine CompSrcTT.intro (k := 0) rfl (by k_asm) (by k_asm) (List.Mem.tail _ hb) (by first | size_fits | exact Nat.le_of_ble_eq_true rfl) ?_
    intro g
    refine comp_keep (List.Mem.tail _ hb) (fun i ys => (i = 0 ∧ ys = []) ∨ (1 ≤ i ∧ ys = [.ref 50])) 2 ?turn ?fin 2 0 [] rfl (.inl ⟨rfl, rfl⟩)
    case turn =>
      intro i ys v I oI C oC D m₂ h tk E' hi hJ hv hC hx F2 N2
      match i, hi with
      | 0, _ =>
        obtain rfl : v = .ref 167 := (Option.some.inj hv).symm
        obtain ⟨_, rfl⟩ | ⟨h1, _⟩ := hJ
        · k_steps
          all_goals (first | assumption | exact .inr ⟨Nat.le_of_ble_eq_true rfl, rfl⟩)
        · cases h1
      | 1, _ =>
        obtain rfl : v = .ref _ := (Option.some.inj hv).symm
        obtain ⟨h1, _⟩ | ⟨h1, rfl⟩ := hJ
        · cases h1
        · k_steps
          all_goals (first | assumption | exact .inr ⟨Nat.le_of_ble_eq_true rfl, rfl⟩)
    case fin =>
      intro ys hJ
      obtain ⟨h1, _⟩ | ⟨h1, rfl⟩ := hJ
      · cases h1
      intro D h2 tk2 F2 N2 off2
      k_steps
      exact hret _ news _ _ (by k_asm) (news_sub (by k_asm) (by intro p hp; repeat' (first | exact hp | refine List.Mem.tail _ ?_))) (hP news _ (fun _ h => h) (fun _ h => .inl h) (.one rfl))
  | pw ha hb =>
    refine wpAny_call ?_
    k_dflt k_enter
    k_steps
    refine hret _ _ _ _ (by k_asm) (by k_asm) (hP _ _ ?_ ?_ ?_)
    · intro p hp; repeat' (first | exact hp | refine List.Mem.tail _ ?_)
    · intro p hp
      repeat' (rcases List.mem_cons.mp hp with rfl | hp; (right; intro q hq; have h1 := (by assumption : ∀ p ∈ news, p.1 < _) q hq; have h2 : @LT.lt Nat _ q.1 _ := h1; show @LT.lt Nat _ _ _; dsimp only; omega))
      exact .inl hp
    · refine .made (by k_mem) (by k_mem) (.cons (.num (by k_mem)) (.cons (.pow (by k_mem) .x (.sum (by k_mem) (by k_mem) (.cons (.num (by k_mem)) (.cons .minus .nil)))) (.cons .one .nil)))
  | _ =>
    refine wpAny_call ?_
    k_dflt k_enter
    k_steps
    exact hret _ news _ _ (by k_asm) (news_sub (by k_asm) (by intro p hp; repeat' (first | exact hp | refine List.Mem.tail _ ?_))) (hP news _ (fun _ h => h) (fun _ h => .inl h) (by first | exact .zero rfl | exact .one rfl))
end
theorem so_use {w : World} {loose : List Str} {mean : ExcName → Option Value} {mg mb : Str → Option Value} {env : Env} {cn : Str} {cs : Scope} {a : Addr} {ccd : Value} {cl : List (Str × Addr)} {outer : List Env} {A A₀ : Around} {base h₀ : Heap} {L : Addr} {m : Str → Option Value} {news : Led} {s : Shared} {v : Value} {d : Fc} {t : Tok}
    {Q E : Value → Shared → Prop}
    (B : Below A₀ base outer h₀) (F : Fr h₀ L s.heap m) (X : (hd.heap_1 w.params).In h₀) (N : News h₀ L s.heap news) (T : Top topProg loose mean mg mb h₀) (he : env = envX cn cs L a ccd cl) (hk : cs.kind = .function)
    (hA1 : A.handled = none) (hA2 : A.depth ≤ 600) (hA3 : A.units ≤ 1000) (hA : A.frames = some (env :: outer)) (hF : FcIn news v d)
    (k : ∀ r news' h' tk', Fr h₀ L h' m → News h₀ L h' news' → (∀ p ∈ news, p ∈ news') → (∀ p ∈ news', p ∈ news ∨ ∀ q ∈ news, q.1 < p.1) → SlIn news' r d → Q r { s with heap := h', toks := tk' }) :
    wpAny (model (PySem.Challenge.rw_rh0026_01).row.prog w) A (call (.ref 166) [v, S "x" t]) Q E s :=
  con_use so_ok (fun nw r => (∀ p ∈ news, p ∈ nw) ∧ (∀ p ∈ nw, p ∈ news ∨ ∀ q ∈ news, q.1 < p.1) ∧ SlIn nw r d) B F X N T he hk hA1 hA2 hA3 hA ⟨v, d, t, rfl, hF, fun _ _ a b c => ⟨a, b, c⟩⟩ fun r nw h' tk' F' N' e => by
    obtain ⟨a, b, c⟩ := e
    exact k r nw h' tk' F' N' a b c
end
local macro_rules | `(tactic| walk_at "mine r2") => `(tactic| (first | assumption | (repeat' (first | assumption | exact List.Mem.head _ | refine List.Mem.tail _ ?_))))
local macro_rules | `(tactic| walk_at "mine r3") => `(tactic| ((with_reducible show wpAny _ _ (call (Value.type _) [Value.ref _]) _ _ _); k_dflt (refine' kde_tupleOf ?F ?N ?l ?z rfl ?_; (case F => k_asm); (case N => k_asm); (case l => exact News.isList (by k_asm) (by k_mem)); (case z => omega)); intro D' h' F' N' l1))
section
def prodF : List Tm → Tm
  | [] => .num 1 1 | [x] => x | l => .prod l
def sumF : List Tm → Tm
  | [] => .num 0 1 | [x] => x | l => .sum l
section
local macro_rules | `(tactic| k_all) => `(tactic| assumption)
local macro_rules | `(tactic| k_mem) => `(tactic| walk_at "mine r2")
local macro_rules | `(tactic| walk_at "call builtin:len") => `(tactic| ((with_reducible show wpAny _ _ (call (Value.builtin "len") [Value.ref _]) _ _ _); k_dflt (refine' len_list ?k1 ?k2 ?_; (case k1 => exact News.isList (by k_asm) (by k_mem)); (case k2 => omega))))
local macro_rules | `(tactic| walk_at "subscriptTail Name Constant ref int") => `(tactic| ((with_reducible show wpAny _ _ (subscriptTail _ _ (Value.ref _) (Value.int _ _)) _ _ _); k_dflt (with_unfolding_all refine' item_list ?k1 ?k2 ?k3 ?k4 ?_; (case k1 => exact News.isList (by k_asm) (by k_mem)); (case k2 => decide); (case k3 => decide); (case k4 => rfl))))
local macro_rules | `(tactic| walk_at "compareOp Eq int int") => `(tactic| (refine eq_int ?_; rw [(by assumption : ((_ : Int) == _) = _)]))
local macro_rules | `(tactic| walk_at "call type:tuple") => `(tactic| walk_at "mine r3")
local macro_rules | `(tactic| walk_at "mine idle1") => `(tactic| fail)
theorem tp_ok {w : World} : Con 610 1100 w 79 (fun news vs Post => ∃ l its n ts, vs = [.ref l] ∧ (l, PySem.W.listOf its n) ∈ news ∧ its.size ≤ 16384 ∧ TmsIn news its.toList ts ∧ ∀ news' r, (∀ p ∈ news, p ∈ news') → (∀ p ∈ news', p ∈ news ∨ ∀ q ∈ news, q.1 < p.1) → TmIn news' r (prodF ts) → Post news' r) := by
  unfold Con; k_fill
  intro loose mean mg mb cn cs a ccd cl outer A₀ base h₀ L m news s vs Q E Post B F X N T hk hR hret
  obtain ⟨l, its, n, ts, rfl, hl, hsz, hts, hP⟩ := hR
  obtain ⟨its⟩ := its
  match its, ts, hts with
  | [], _, .nil =>
    have e0 : (((List.toArray ([] : List Value)).size : Int) == (0 : Int)) = true := rfl
    refine wpAny_call ?_
    k_dflt ktr_enter
    k_steps
    exact hret _ news _ _ (by k_asm) (news_sub (by k_asm) (by intro p hp; repeat' (first | exact hp | refine List.Mem.tail _ ?_))) (hP news _ (fun _ h => h) (fun _ h => .inl h) .one)
  | [v], _, .cons hv .nil =>
    have e0 : (((List.toArray [v]).size : Int) == (0 : Int)) = false := rfl
    have e1 : (((List.toArray [v]).size : Int) == (1 : Int)) = true := rfl
    refine wpAny_call ?_
    k_dflt ktr_enter
    k_steps
    exact hret _ news _ _ (by k_asm) (news_sub (by k_asm) (by intro p hp; repeat' (first | exact hp | refine List.Mem.tail _ ?_))) (hP news _ (fun _ h => h) (fun _ h => .inl h) hv)
  | v :: v2 :: vs, _, .cons (t := t1) hv (.cons (t := t2) (ts := ts) hv2 hvs) =>
    have e0 : (((List.toArray (v :: v2 :: vs)).size : Int) == (0 : Int)) = false := by rw [beq_eq_false_iff_ne]; simp; omega
    have e1 : (((List.toArray (v :: v2 :: vs)).size : Int) == (1 : Int)) = false := by rw [beq_eq_false_iff_ne]; simp; omega
    refine wpAny_call ?_
    k_dflt ktr_enter
    k_steps
    refine hret _ _ _ _ (by k_asm) (by k_asm) (hP _ _ ?_ ?_ ?_)
    · intro p hp; repeat' (first | exact hp | refine List.Mem.tail _ ?_)
    · intro p hp
      repeat' (rcases List.mem_cons.mp hp with rfl | hp; (right; intro q hq; have h1 := (by assumption : ∀ p ∈ news, p.1 < _) q hq; have h2 : @LT.lt Nat _ q.1 _ := h1; show @LT.lt Nat _ _ _; dsimp only; omega))
      exact .inl hp
    · refine .prod (.head _) (.tail _ (.head _)) (TmsIn.mono (fun p hp => .tail _ (.tail _ hp)) (.cons hv (.cons hv2 hvs)))
theorem ts_ok {w : World} : Con 610 1100 w 72 (fun news vs Post => ∃ l its n ts, vs = [.ref l] ∧ (l, PySem.W.listOf its n) ∈ news ∧ its.size ≤ 16384 ∧ TmsIn news its.toList ts ∧ ∀ news' r, (∀ p ∈ news, p ∈ news') → (∀ p ∈ news', p ∈ news ∨ ∀ q ∈ news, q.1 < p.1) → TmIn news' r (sumF ts) → Post news' r) := by
  unfold Con; k_fill
  intro loose mean mg mb cn cs a ccd cl outer A₀ base h₀ L m news s vs Q E Post B F X N T hk hR hret
  obtain ⟨l, its, n, ts, rfl, hl, hsz, hts, hP⟩ := hR
  obtain ⟨its⟩ := its
  match its, ts, hts with
  | [], _, .nil =>
    have e0 : (((List.toArray ([] : List Value)).size : Int) == (0 : Int)) = true := rfl
    refine wpAny_call ?_
    k_dflt ktr_enter
    k_steps
    exact hret _ news _ _ (by k_asm) (news_sub (by k_asm) (by intro p hp; repeat' (first | exact hp | refine List.Mem.tail _ ?_))) (hP news _ (fun _ h => h) (fun _ h => .inl h) .zero)
  | [v], _, .cons hv .nil =>
    have e0 : (((List.toArray [v]).size : Int) == (0 : Int)) = false := rfl
    have e1 : (((List.toArray [v]).size : Int) == (1 : Int)) = true := rfl
    refine wpAny_call ?_
    k_dflt ktr_enter
    k_steps
    exact hret _ news _ _ (by k_asm) (news_sub (by k_asm) (by intro p hp; repeat' (first | exact hp | refine List.Mem.tail _ ?_))) (hP news _ (fun _ h => h) (fun _ h => .inl h) hv)
  | v :: v2 :: vs, _, .cons (t := t1) hv (.cons (t := t2) (ts := ts) hv2 hvs) =>
    have e0 : (((List.toArray (v :: v2 :: vs)).size : Int) == (0 : Int)) = false := by rw [beq_eq_false_iff_ne]; simp; omega
    have e1 : (((List.toArray (v :: v2 :: vs)).size : Int) == (1 : Int)) = false := by rw [beq_eq_false_iff_ne]; simp; omega
    refine wpAny_call ?_
    k_dflt ktr_enter
    k_steps
    refine hret _ _ _ _ (by k_asm) (by k_asm) (hP _ _ ?_ ?_ ?_)
    · intro p hp; repeat' (first | exact hp | refine List.Mem.tail _ ?_)
    · intro p hp
      repeat' (rcases List.mem_cons.mp hp with rfl | hp; (right; intro q hq; have h1 := (by assumption : ∀ p ∈ news, p.1 < _) q hq; have h2 : @LT.lt Nat _ q.1 _ := h1; show @LT.lt Nat _ _ _; dsimp only; omega))
      exact .inl hp
    · refine .sum (.head _) (.tail _ (.head _)) (TmsIn.mono (fun p hp => .tail _ (.tail _ hp)) (.cons hv (.cons hv2 hvs)))
end
theorem tp_use {w : World} {loose : List Str} {mean : ExcName → Option Value} {mg mb : Str → Option Value} {env : Env} {cn : Str} {cs : Scope} {a : Addr} {ccd : Value} {cl : List (Str × Addr)} {outer : List Env} {A A₀ : Around} {base h₀ : Heap} {L : Addr} {m : Str → Option Value} {news : Led} {s : Shared} {l : Addr} {its : Array Value} {n : Nat} {ts : List Tm}
    {Q E : Value → Shared → Prop}
    (B : Below A₀ base outer h₀) (F : Fr h₀ L s.heap m) (X : (hd.heap_1 w.params).In h₀) (N : News h₀ L s.heap news) (T : Top topProg loose mean mg mb h₀) (he : env = envX cn cs L a ccd cl) (hk : cs.kind = .function)
    (hA1 : A.handled = none) (hA2 : A.depth ≤ 610) (hA3 : A.units ≤ 1100) (hA : A.frames = some (env :: outer)) (hl : (l, PySem.W.listOf its n) ∈ news) (hsz : its.size ≤ 16384) (ht : TmsIn news its.toList ts)
    (k : ∀ r news' h' tk', Fr h₀ L h' m → News h₀ L h' news' → (∀ p ∈ news, p ∈ news') → (∀ p ∈ news', p ∈ news ∨ ∀ q ∈ news, q.1 < p.1) → TmIn news' r (prodF ts) → Q r { s with heap := h', toks := tk' }) :
    wpAny (model (PySem.Challenge.rw_rh0026_01).row.prog w) A (call (.ref 79) [.ref l]) Q E s :=
  con_use tp_ok (fun nw r => (∀ p ∈ news, p ∈ nw) ∧ (∀ p ∈ nw, p ∈ news ∨ ∀ q ∈ news, q.1 < p.1) ∧ TmIn nw r (prodF ts)) B F X N T he hk hA1 hA2 hA3 hA ⟨l, its, n, ts, rfl, hl, hsz, ht, fun _ _ a b c => ⟨a, b, c⟩⟩ fun r nw h' tk' F' N' e => by
    obtain ⟨a, b, c⟩ := e
    exact k r nw h' tk' F' N' a b c
theorem ts_use {w : World} {loose : List Str} {mean : ExcName → Option Value} {mg mb : Str → Option Value} {env : Env} {cn : Str} {cs : Scope} {a : Addr} {ccd : Value} {cl : List (Str × Addr)} {outer : List Env} {A A₀ : Around} {base h₀ : Heap} {L : Addr} {m : Str → Option Value} {news : Led} {s : Shared} {l : Addr} {its : Array Value} {n : Nat} {ts : List Tm}
    {Q E : Value → Shared → Prop}
    (B : Below A₀ base outer h₀) (F : Fr h₀ L s.heap m) (X : (hd.heap_1 w.params).In h₀) (N : News h₀ L s.heap news) (T : Top topProg loose mean mg mb h₀) (he : env = envX cn cs L a ccd cl) (hk : cs.kind = .function)
    (hA1 : A.handled = none) (hA2 : A.depth ≤ 610) (hA3 : A.units ≤ 1100) (hA : A.frames = some (env :: outer)) (hl : (l, PySem.W.listOf its n) ∈ news) (hsz : its.size ≤ 16384) (ht : TmsIn news its.toList ts)
    (k : ∀ r news' h' tk', Fr h₀ L h' m → News h₀ L h' news' → (∀ p ∈ news, p ∈ news') → (∀ p ∈ news', p ∈ news ∨ ∀ q ∈ news, q.1 < p.1) → TmIn news' r (sumF ts) → Q r { s with heap := h', toks := tk' }) :
    wpAny (model (PySem.Challenge.rw_rh0026_01).row.prog w) A (call (.ref 72) [.ref l]) Q E s :=
  con_use ts_ok (fun nw r => (∀ p ∈ news, p ∈ nw) ∧ (∀ p ∈ nw, p ∈ news ∨ ∀ q ∈ news, q.1 < p.1) ∧ TmIn nw r (sumF ts)) B F X N T he hk hA1 hA2 hA3 hA ⟨l, its, n, ts, rfl, hl, hsz, ht, fun _ _ a b c => ⟨a, b, c⟩⟩ fun r nw h' tk' F' N' e => by
    obtain ⟨a, b, c⟩ := e
    exact k r nw h' tk' F' N' a b c
end
section
inductive FcsIn (news : Led) : List Value → List Fc → Prop where
  | nil : FcsIn news [] []
  | cons {v : Value} {d : Fc} {vs : List Value} {ds : List Fc} : FcIn news v d → FcsIn news vs ds → FcsIn news (v :: vs) (d :: ds)
theorem FcsIn.mono {news news' : Led} (hs : ∀ p ∈ news, p ∈ news') : ∀ {vs : List Value} {ds : List Fc}, FcsIn news vs ds → FcsIn news' vs ds
  | _, _, .nil => .nil
  | _, _, .cons a b => .cons (a.mono hs) (FcsIn.mono hs b)
theorem FcsIn.len {news : Led} : ∀ {vs : List Value} {ds : List Fc}, FcsIn news vs ds → vs.length = ds.length
  | _, _, .nil => rfl
  | _, _, .cons _ b => congrArg (· + 1) b.len
theorem FcsIn.get {news : Led} : ∀ {vs : List Value} {ds : List Fc} {i : Nat} {v : Value}, FcsIn news vs ds → vs[i]? = some v → ∃ d, ds[i]? = some d ∧ FcIn news v d
  | _, _, 0, _, .cons a _, h => ⟨_, rfl, by cases h; exact a⟩
  | _, _, i + 1, _, .cons _ b, h => by
    obtain ⟨d, h1, h2⟩ := FcsIn.get (i := i) b (by simpa using h)
    exact ⟨d, by simpa using h1, h2⟩
theorem FcsIn.tms {news : Led} : ∀ {vs : List Value} {ds : List Fc}, FcsIn news vs ds → TmsIn news vs (ds.map Fc.tm)
  | _, _, .nil => .nil
  | _, _, .cons a b => .cons a.tm b.tms
theorem FcsIn.take {news : Led} : ∀ {vs : List Value} {ds : List Fc} (i : Nat), FcsIn news vs ds → FcsIn news (vs.take i) (ds.take i)
  | _, _, 0, _ => by simpa using .nil
  | _, _, _ + 1, .nil => .nil
  | _, _, i + 1, .cons a b => .cons a (b.take i)
theorem FcsIn.drop {news : Led} : ∀ {vs : List Value} {ds : List Fc} (i : Nat), FcsIn news vs ds → FcsIn news (vs.drop i) (ds.drop i)
  | _, _, 0, h => by simpa using h
  | _, _, _ + 1, .nil => .nil
  | _, _, i + 1, .cons _ b => b.drop i
theorem TmsIn.app {news : Led} : ∀ {vs ws : List Value} {ts us : List Tm}, TmsIn news vs ts → TmsIn news ws us → TmsIn news (vs ++ ws) (ts ++ us)
  | _, _, _, _, .nil, h => h
  | _, _, _, _, .cons a b, h => .cons a (TmsIn.app b h)
theorem TmsIn.len {news : Led} : ∀ {vs : List Value} {ds : List Tm}, TmsIn news vs ds → vs.length = ds.length
  | _, _, .nil => rfl
  | _, _, .cons _ b => congrArg (· + 1) b.len
/-- terms are borne by tuples alone -/
def IsT (p : Addr × Obj) : Prop := p.2.cls = .type "tuple" ∧ ∃ its n, p.2.data = .seq its n
mutual
theorem TmIn.tup {news news' : Led} (hs : ∀ p ∈ news, IsT p → p ∈ news') : ∀ {v : Value} {t : Tm}, TmIn news v t → TmIn news' v t
  | _, _, .zero => .zero
  | _, _, .one => .one
  | _, _, .minus => .minus
  | _, _, .x => .x
  | _, _, .num a => .num (hs _ a ⟨rfl, _, _, rfl⟩)
  | _, _, .y a => .y (hs _ a ⟨rfl, _, _, rfl⟩)
  | _, _, .pow a b c => .pow (hs _ a ⟨rfl, _, _, rfl⟩) (TmIn.tup hs b) (TmIn.tup hs c)
  | _, _, .sum a b c => .sum (hs _ a ⟨rfl, _, _, rfl⟩) (hs _ b ⟨rfl, _, _, rfl⟩) (TmsIn.tup hs c)
  | _, _, .prod a b c => .prod (hs _ a ⟨rfl, _, _, rfl⟩) (hs _ b ⟨rfl, _, _, rfl⟩) (TmsIn.tup hs c)
theorem TmsIn.tup {news news' : Led} (hs : ∀ p ∈ news, IsT p → p ∈ news') : ∀ {vs : List Value} {ts : List Tm}, TmsIn news vs ts → TmsIn news' vs ts
  | _, _, .nil => .nil
  | _, _, .cons a b => .cons (TmIn.tup hs a) (TmsIn.tup hs b)
end
theorem SlIn.tup {news news' : Led} {v : Value} {d : Fc} (h : SlIn news v d) (hs : ∀ p ∈ news, IsT p → p ∈ news') : SlIn news' v d := by
  cases h with
  | zero h => exact .zero h
  | one h => exact .one h
  | made a b c => exact .made (hs _ a ⟨rfl, _, _, rfl⟩) (hs _ b ⟨rfl, _, _, rfl⟩) (c.tup hs)
/-- what may be new in a ledger: tuples above the old -/
def Inv (news rest : Led) : Prop := ∀ p ∈ rest, p ∈ news ∨ (IsT p ∧ ∀ q ∈ news, (@LT.lt Nat _ q.1 p.1))
open Classical in
noncomputable def keepF (news l : Led) : Led := l.filter (fun p => decide (p ∈ news ∨ (IsT p ∧ ∀ q ∈ news, (@LT.lt Nat _ q.1 p.1))))
open Classical in
theorem keepF_inv {news l : Led} : Inv news (keepF news l) := fun p hp => by
  have := (List.mem_filter.mp hp).2
  exact of_decide_eq_true this
theorem keepF_sub {news l : Led} : ∀ p ∈ keepF news l, p ∈ l := fun p hp => (List.mem_filter.mp hp).1
open Classical in
theorem keepF_in {news l : Led} {p : Addr × Obj} (h : p ∈ l) (h2 : p ∈ news ∨ (IsT p ∧ ∀ q ∈ news, (@LT.lt Nat _ q.1 p.1))) : p ∈ keepF news l := List.mem_filter.mpr ⟨h, decide_eq_true h2⟩
theorem frame_ne {h₀ h : Heap} {L a : Addr} {o : Obj} {all rest news : Led} (N : News h₀ L h all) (ha : (a, o) ∈ all) (hr : ∀ p ∈ rest, p ∈ all) (inv : Inv news rest) (hc : ¬ IsT (a, o)) (hn : ∀ q ∈ news, (@LT.lt Nat _ q.1 a)) : ∀ p ∈ rest, (@Ne Nat p.1 a) := fun p hp e => by
  rcases inv p hp with h1 | ⟨h1, _⟩
  · have := hn p h1; rw [e] at this; exact Nat.lt_irrefl _ this
  · have e1 := (N p (hr p hp)).1
    have e2 := (N _ ha).1
    dsimp only at e2
    rw [e, e2] at e1
    have e3 : o = p.2 := Option.some.inj e1
    exact hc (by rw [e3]; exact h1)
theorem keep_step {h₀ h : Heap} {L : Addr} {fr rest news nw : Led} (N : News h₀ L h nw) (hs : ∀ p ∈ fr ++ rest, p ∈ nw) (ha : ∀ p ∈ nw, p ∈ fr ++ rest ∨ ∀ q ∈ fr ++ rest, q.1 < p.1) (hn : ∀ p ∈ news, p ∈ rest) (inv : Inv news rest) (hfr : ∀ p ∈ fr, ¬ IsT p) :
    News h₀ L h (fr ++ keepF news nw) ∧ (∀ p ∈ rest, p ∈ keepF news nw) ∧ Inv news (keepF news nw) ∧ (∀ p ∈ nw, IsT p → p ∈ keepF news nw) := by
  refine ⟨fun p hp => ?_, fun p hp => keepF_in (hs p (List.mem_append_right _ hp)) (inv p hp), keepF_inv, fun p hp ht => ?_⟩
  · rcases List.mem_append.mp hp with h1 | h1
    · exact N p (hs p (List.mem_append_left _ h1))
    · exact N p (keepF_sub p h1)
  · refine keepF_in hp ?_
    rcases ha p hp with h1 | h1
    · rcases List.mem_append.mp h1 with h2 | h2
      · exact absurd ht (hfr p h2)
      · exact inv p h2
    · exact .inr ⟨ht, fun q hq => h1 q (List.mem_append_right _ (hn q hq))⟩
def partT (ks : List Fc) (i : Nat) (d : Fc) : Tm := prodF ((ks.take i).map Fc.tm ++ [d.slope] ++ (ks.drop (i + 1)).map Fc.tm)
noncomputable def foundF (ks : List Fc) : Nat → List Tm
  | 0 => []
  | i + 1 => match ks[i]? with
    | some d => if d.has then foundF ks i ++ [partT ks i d] else foundF ks i
    | none => foundF ks i
noncomputable def slopeTm (ks : List Fc) : Tm := sumF (foundF ks ks.length)
def mapF (m₀ : Str → Option Value) (oa ob oc : Option Value) : Str → Option Value :=
  fun y => if y = Str.ofString "slope" then oa else if y = Str.ofString "one" then ob else if y = Str.ofString "at" then oc else m₀ y
theorem mapF_turn (m₀ : Str → Option Value) (a b c d : Option Value) : (fun y => if y = Str.ofString "slope" then a else if y = Str.ofString "one" then b else if y = Str.ofString "at" then c else if y = Str.ofString "slope" then d else m₀ y) = mapF m₀ a b c := by
  funext y; unfold mapF
  by_cases h : y = Str.ofString "slope"
  · simp only [if_pos h]
  · simp only [if_neg h]
/-- the end of a turn of product_slope's loop -/
def FStep (h₀ : Heap) (L : Addr) (s : Shared) (e it f : Addr) (oe oi : Obj) (cell : Addr × Obj) (m₀ : Str → Option Value) (news : Led) (ks : List Fc) (i : Nat) (fl : Flow) (s' : Shared) : Prop :=
  fl = .next ∧ ∃ h' tk' vs ep rest oa ob oc, s' = { s with heap := h', toks := tk' } ∧ Fr h₀ L h' (mapF m₀ oa ob oc) ∧ News h₀ L h' ((e, oe) :: (it, oi) :: (f, PySem.W.listOf vs ep) :: cell :: rest) ∧ (∀ p ∈ news, p ∈ rest) ∧ Inv news rest ∧ vs.size ≤ i ∧ TmsIn rest vs.toList (foundF ks i)
theorem FStep.intro {h₀ : Heap} {L : Addr} {s : Shared} {e it f : Addr} {oe oi : Obj} {cell : Addr × Obj} {m₀ : Str → Option Value} {news : Led} {ks : List Fc} {i : Nat} {h' : Heap} {tk' : Nat} {m₂ : Str → Option Value} {all : Led} {vs : Array Value} {ep : Nat} {oa ob oc : Option Value}
    (F : Fr h₀ L h' m₂) (N : News h₀ L h' all) (rest : Led) (hm : m₂ = mapF m₀ oa ob oc) (sub : ∀ p ∈ (e, oe) :: (it, oi) :: (f, PySem.W.listOf vs ep) :: cell :: rest, p ∈ all) (hn : ∀ p ∈ news, p ∈ rest) (inv : Inv news rest) (hz : vs.size ≤ i) (ht : TmsIn rest vs.toList (foundF ks i)) :
    FStep h₀ L s e it f oe oi cell m₀ news ks i .next { s with heap := h', toks := tk' } := ⟨rfl, h', tk', vs, ep, rest, oa, ob, oc, rfl, hm ▸ F, fun p hp => N p (sub p hp), hn, inv, hz, ht⟩
section
variable {prog : Program} {w : World} {A : Around} {s : Shared} {env : Env} {h₀ : Heap}
theorem enum_found {E : Value → Shared → Prop} {Q : Flow → Shared → Prop} {body : List Stmt} {t f : Addr} {its : Array Value} {k : Nat} {all news : Led} {m₀ : Str → Option Value} {ks : List Fc} {cell : Addr × Obj}
    (F : Fr h₀ env.locals s.heap m₀) (N : News h₀ env.locals s.heap all) (ht : (t, tupN its k) ∈ news) (hf : (f, PySem.W.listOf #[] 0) ∈ all) (hc : cell ∈ all) (hs : ∀ p ∈ news, p ∈ all) (hfn : ∀ q ∈ news, (@LT.lt Nat _ q.1 f)) (hcn : ∀ q ∈ news, (@LT.lt Nat _ q.1 cell.1)) (hcf : (@Ne Nat cell.1 f)) (hcc : ¬ IsT cell)
    (hF : FcsIn news its.toList ks)
    (turn : ∀ e it i v d ti h tk oe oi vs ep rest sl, ks[i]? = some d → its[i]? = some v → i < its.size → vs.size ≤ i → FcIn rest v d → FcsIn rest its.toList ks → TmsIn rest vs.toList (foundF ks i) → (t, tupN its k) ∈ rest → (∀ p ∈ news, p ∈ rest) → Inv news rest →
      (∀ p ∈ rest, (@Ne Nat p.1 e)) → (∀ p ∈ rest, (@Ne Nat p.1 it)) → (∀ p ∈ rest, (@Ne Nat p.1 f)) → (∀ p ∈ rest, (@Ne Nat p.1 cell.1)) → (@Ne Nat e it) → (@Ne Nat e f) → (@Ne Nat it f) → (@Ne Nat cell.1 e) → (@Ne Nat cell.1 it) → ¬ IsT (e, oe) → ¬ IsT (it, oi) → ¬ IsT cell → (∀ q ∈ news, (@LT.lt Nat _ q.1 f)) → (∀ q ∈ news, (@LT.lt Nat _ q.1 cell.1)) → (∀ q ∈ news, (@LT.lt Nat _ q.1 e)) → (∀ q ∈ news, (@LT.lt Nat _ q.1 it)) →
      Fr h₀ env.locals h (fun y => if y = Str.ofString "one" then some v else if y = Str.ofString "at" then some (.int (i : Int) ti) else if y = Str.ofString "slope" then sl else m₀ y) →
      News h₀ env.locals h ((e, oe) :: (it, oi) :: (f, PySem.W.listOf vs ep) :: cell :: rest) →
      wpAny (model prog w) A (execs body env) (FStep h₀ env.locals s e it f oe oi cell m₀ news ks (i + 1)) E { s with heap := h, toks := tk })
    (fin : ∀ h' tk vs ep rest oa ob oc, Fr h₀ env.locals h' (mapF m₀ oa ob oc) → News h₀ env.locals h' ((f, PySem.W.listOf vs ep) :: cell :: rest) → (∀ p ∈ news, p ∈ rest) → Inv news rest → vs.size ≤ its.size → TmsIn rest vs.toList (foundF ks its.size) → Q .next { s with heap := h', toks := tk }) :
    wpAny (model prog w) A (call (.type "enumerate") [.ref t]) (fun xv s₁ => wpAny (model prog w) A (pyIter xv) (fun it s₂ => EnumAt prog w A h₀ env (Str.ofString "at") (Str.ofString "one") body Q E it s₂) E s₁) E s := by
  have lows : ∀ q ∈ all, (@LT.lt Nat _ q.1 s.heap.objs.size) := fun q hq => Heap.lt_size (N q hq).1
  refine enum_intro (k := k) (fun i m₁ news₁ => ∃ vs ep rest oa ob oc, news₁ = (f, PySem.W.listOf vs ep) :: cell :: rest ∧ m₁ = mapF m₀ oa ob oc ∧ (∀ p ∈ news, p ∈ rest) ∧ Inv news rest ∧ vs.size ≤ i ∧ TmsIn rest vs.toList (foundF ks i))
    F (news := (f, PySem.W.listOf #[] 0) :: cell :: news) (fun p hp => N p (by
      rcases List.mem_cons.mp hp with rfl | hp
      · exact hf
      · rcases List.mem_cons.mp hp with rfl | hp
        · exact hc
        · exact hs p hp)) (.tail _ (.tail _ ht))
    ⟨#[], 0, news, m₀ (Str.ofString "slope"), m₀ (Str.ofString "one"), m₀ (Str.ofString "at"), rfl, by
      funext y; unfold mapF
      split
      · next h => rw [h]
      · split
        · next h => rw [h]
        · split
          · next h => rw [h]
          · rfl, fun _ h => h, fun p hp => .inl hp, Nat.le_refl _, .nil⟩ ?_ ?_
  · rintro e it i v ti h tk oe oi m₁ news₁ hit he hoe hoi hv ⟨vs, ep, rest, oa, ob, oc, rfl, rfl, hn, inv, hz, hts⟩ htm F₁ N₁ off hne heL hiL
    have hi : i < its.size := by
      rcases Nat.lt_or_ge i its.size with h | h
      · exact h
      · rw [Array.getElem?_eq_none h] at hv; cases hv
    obtain ⟨d, hd, hfd⟩ := hF.get (i := i) (v := v) (by simpa using hv)
    have offr : ∀ p ∈ rest, (@Ne Nat p.1 e) ∧ (@Ne Nat p.1 it) := fun p hp => off p (.tail _ (.tail _ hp))
    have hne_f := off _ (.head _)
    have hne_c := off _ (.tail _ (.head _))
    have hlE : ∀ q ∈ news, (@LT.lt Nat _ q.1 e) := fun q hq => Nat.lt_of_lt_of_le (lows q (hs q hq)) he
    have hlI : ∀ q ∈ news, (@LT.lt Nat _ q.1 it) := fun q hq => Nat.lt_of_lt_of_le (lows q (hs q hq)) hit
    have c1 : ¬ IsT (e, oe) := fun h => by have := h.1; dsimp only at this; rw [hoe] at this; exact absurd this (by decide)
    have c2 : ¬ IsT (it, oi) := fun h => by have := h.1; dsimp only at this; rw [hoi] at this; exact absurd this (by decide)
    have nf := frame_ne N₁ (a := f) (rest := rest) (.tail _ (.tail _ (.head _))) (fun p hp => .tail _ (.tail _ (.tail _ (.tail _ hp)))) inv (fun h => absurd (show Value.type "list" = .type "tuple" from h.1) (by decide)) hfn
    have nc := frame_ne N₁ (a := cell.1) (o := cell.2) (rest := rest) (.tail _ (.tail _ (.tail _ (.head _)))) (fun p hp => .tail _ (.tail _ (.tail _ (.tail _ hp)))) inv hcc hcn
    refine wpAny_mono (turn e it i v d ti h tk oe oi vs ep rest oa hd hv hi hz (hfd.mono hn) (hF.mono hn) hts (hn _ ht) hn inv (fun p hp => (offr p hp).1) (fun p hp => (offr p hp).2) nf nc hne (Ne.symm hne_f.1) (Ne.symm hne_f.2) hne_c.1 hne_c.2 c1 c2 hcc hfn hcn hlE hlI ?_ N₁) (fun fl s' h' => ?_) fun _ _ e => e
    · have e0 : (fun y => if y = Str.ofString "one" then some v else if y = Str.ofString "at" then some (.int (i : Int) ti) else mapF m₀ oa ob oc y) = (fun y => if y = Str.ofString "one" then some v else if y = Str.ofString "at" then some (.int (i : Int) ti) else if y = Str.ofString "slope" then oa else m₀ y) := by
        funext y; unfold mapF
        by_cases h1 : y = Str.ofString "one"
        · simp only [if_pos h1]
        · by_cases h2 : y = Str.ofString "at"
          · simp only [if_neg h1, if_pos h2]
          · simp only [if_neg h1, if_neg h2]
      rw [← e0]; exact F₁
    · obtain ⟨rfl, h', tk', vs', ep', rest', oa', ob', oc', rfl, F₂, N₂, hn', inv', hz', hts'⟩ := h'
      have f1 := frame_ne N₂ (a := e) (rest := rest') (.head _) (fun p hp => .tail _ (.tail _ (.tail _ (.tail _ hp)))) inv' c1 hlE
      have f2 := frame_ne N₂ (a := it) (rest := rest') (.tail _ (.head _)) (fun p hp => .tail _ (.tail _ (.tail _ (.tail _ hp)))) inv' c2 hlI
      refine ⟨rfl, h', tk', _, (f, PySem.W.listOf vs' ep') :: cell :: rest', rfl, F₂, N₂, fun p hp => ?_, .tail _ (.tail _ (hn' _ ht)), vs', ep', rest', oa', ob', oc', rfl, rfl, hn', inv', hz', hts'⟩
      rcases List.mem_cons.mp hp with rfl | hp
      · exact hne_f
      · rcases List.mem_cons.mp hp with rfl | hp
        · exact hne_c
        · exact ⟨f1 p hp, f2 p hp⟩
  · rintro h' tk m' news' F' N' ⟨vs, ep, rest, oa, ob, oc, rfl, rfl, hn, inv, hz, hts⟩
    exact fin h' tk vs ep rest oa ob oc F' N' hn inv hz hts
end
end
section
open PySem.SeqAt
theorem ne_slope {prog : Program} {w : World} {A : Around} {E : Value → Shared → Prop} {s : Shared} {Q : Value → Shared → Prop} {h₀ : Heap} {L : Addr} {m : Str → Option Value} {news : Led} {r : Value} {d : Fc} 
    (F : Fr h₀ L s.heap m) (N : News h₀ L s.heap news) (h49 : s.heap.IsTuple 49 [S "num" 243, .int 0 244, .int 1 245].toArray) (h50 : s.heap.IsTuple 50 [S "num" 247, .int 1 248, .int 1 249].toArray) (hsl : SlIn news r d) (hu : A.units + 2 < cLine) (h : Q (.bool d.has) s) :
    wpAny (model prog w) A (compareOp .NotEq r (.ref 49)) Q E s := by
  cases hsl with
  | zero hz =>
    rw [hz] at h
    exact RcNeAt.tuples h49 h49 (by omega) (e := fun _ => true) (fun j h1 h2 => EqAt.same _) prog w E Q h
  | one h1 =>
    have hd : d.has = true := by cases d <;> first | rfl | (exfalso; simp [Fc.slope] at h1)
    rw [hd] at h
    refine RcNeAt.tuples h50 h49 (by omega) (e := fun j => if j = 1 then false else true) (fun j h1 h2 => ?_) prog w E Q h
    match j, h1 with
    | 0, _ => exact EqAt.str_str _ _ _ _
    | 1, _ => exact EqAt.int_int _ _ _ _
    | 2, _ => exact EqAt.int_int _ _ _ _
  | made ha hb hc =>
    have hA : s.heap.IsTuple _ [S "prod" _, Value.ref _].toArray := ⟨_, (N _ ha).1, rfl, _, rfl⟩
    have hB : s.heap.IsTuple _ _ := ⟨_, (N _ hb).1, rfl, _, rfl⟩
    refine RcNeAt.tuples hA h49 (by omega) (e := fun j => false) (fun j h1 h2 => ?_) prog w E Q h
    match j, h1 with
    | 0, _ => exact EqAt.str_str _ _ _ _
    | 1, _ => exact EqAt.tuple_int _ _ hB (by show A.units + 1 < cLine; omega)
theorem tp_turn {w : World} {loose : List Str} {mean : ExcName → Option Value} {mg mb : Str → Option Value} {env : Env} {cn : Str} {cs : Scope} {a : Addr} {ccd : Value} {cl : List (Str × Addr)} {outer : List Env} {A A₀ : Around} {base h₀ hx : Heap} {L : Addr} {m : Str → Option Value} {all fr rest news : Led} {s : Shared} {l : Addr} {its : Array Value} {n : Nat} {ts : List Tm}
    {Q E : Value → Shared → Prop} (_N0 : News h₀ L hx (fr ++ rest))
    (B : Below A₀ base outer h₀) (F : Fr h₀ L s.heap m) (X : (hd.heap_1 w.params).In h₀) (N : News h₀ L s.heap all) (T : Top topProg loose mean mg mb h₀) (he : env = envX cn cs L a ccd cl) (hk : cs.kind = .function)
    (hA1 : A.handled = none) (hA2 : A.depth ≤ 610) (hA3 : A.units ≤ 1100) (hA : A.frames = some (env :: outer)) (hl : (l, PySem.W.listOf its n) ∈ all) (hsuf : ∀ p ∈ fr ++ rest, p ∈ all) (hn : ∀ p ∈ news, p ∈ rest) (inv : Inv news rest) (hfr : ∀ p ∈ fr, ¬ IsT p) (hsz : its.size ≤ 16384) (ht : TmsIn rest its.toList ts)
    (k : ∀ r rest' h' tk', Fr h₀ L h' m → News h₀ L h' (fr ++ rest') → (∀ p ∈ rest, p ∈ rest') → Inv news rest' → TmIn rest' r (prodF ts) → Q r { s with heap := h', toks := tk' }) :
    wpAny (model (PySem.Challenge.rw_rh0026_01).row.prog w) A (call (.ref 79) [.ref l]) Q E s := by
  refine tp_use (news := (l, PySem.W.listOf its n) :: (fr ++ rest)) B F X (fun p hp => ?_) T he hk hA1 hA2 hA3 hA (.head _) hsz (ht.mono fun p hp => .tail _ (List.mem_append_right _ hp)) ?_
  · rcases List.mem_cons.mp hp with rfl | hp
    · exact N _ hl
    · exact N p (hsuf p hp)
  · intro r nw h' tk' F' N' hs ha htr
    obtain ⟨N5, s5, inv5, t5⟩ := keep_step (fr := (l, PySem.W.listOf its n) :: fr) (rest := rest) N' hs ha hn inv (fun p hp => by
      rcases List.mem_cons.mp hp with rfl | hp
      · exact fun h => absurd (show Value.type "list" = .type "tuple" from h.1) (by decide)
      · exact hfr p hp)
    exact k r _ h' tk' F' (fun p hp => N5 p (.tail _ hp)) s5 inv5 (htr.tup t5)
theorem ts_turn {w : World} {loose : List Str} {mean : ExcName → Option Value} {mg mb : Str → Option Value} {env : Env} {cn : Str} {cs : Scope} {a : Addr} {ccd : Value} {cl : List (Str × Addr)} {outer : List Env} {A A₀ : Around} {base h₀ : Heap} {L : Addr} {m : Str → Option Value} {all rest news : Led} {s : Shared} {l : Addr} {its : Array Value} {n : Nat} {ts : List Tm}
    {Q E : Value → Shared → Prop}
    (B : Below A₀ base outer h₀) (F : Fr h₀ L s.heap m) (X : (hd.heap_1 w.params).In h₀) (N : News h₀ L s.heap all) (T : Top topProg loose mean mg mb h₀) (he : env = envX cn cs L a ccd cl) (hk : cs.kind = .function)
    (hA1 : A.handled = none) (hA2 : A.depth ≤ 610) (hA3 : A.units ≤ 1100) (hA : A.frames = some (env :: outer)) (hl : (l, PySem.W.listOf its n) ∈ all) (hsuf : ∀ p ∈ rest, p ∈ all) (hn : ∀ p ∈ news, p ∈ rest) (inv : Inv news rest) (hsz : its.size ≤ 16384) (ht : TmsIn rest its.toList ts)
    (k : ∀ r rest' h' tk', Fr h₀ L h' m → News h₀ L h' rest' → (∀ p ∈ rest, p ∈ rest') → Inv news rest' → TmIn rest' r (sumF ts) → Q r { s with heap := h', toks := tk' }) :
    wpAny (model (PySem.Challenge.rw_rh0026_01).row.prog w) A (call (.ref 72) [.ref l]) Q E s := by
  refine ts_use (news := (l, PySem.W.listOf its n) :: rest) B F X (fun p hp => ?_) T he hk hA1 hA2 hA3 hA (.head _) hsz (ht.mono fun p hp => .tail _ hp) ?_
  · rcases List.mem_cons.mp hp with rfl | hp
    · exact N _ hl
    · exact N p (hsuf p hp)
  · intro r nw h' tk' F' N' hs ha htr
    obtain ⟨N5, s5, inv5, t5⟩ := keep_step (fr := [(l, PySem.W.listOf its n)]) (rest := rest) N' hs ha hn inv (fun p hp => by
      rcases List.mem_cons.mp hp with rfl | hp
      · exact fun h => absurd (show Value.type "list" = .type "tuple" from h.1) (by decide)
      · cases hp)
    exact k r _ h' tk' F' (fun p hp => N5 p (.tail _ hp)) s5 inv5 (htr.tup t5)
end
local macro_rules | `(tactic| walk_at "mine sub") => `(tactic| (intro p hp; repeat' (first | exact hp | refine List.Mem.tail _ ?_)))
local macro_rules | `(tactic| walk_at "mine r4") => `(tactic| ((with_reducible show wpAny _ _ (call (Value.builtin "len") [Value.ref _]) _ _ _); k_dflt (first | (refine' PyProof.Rows.len_tuple ?k1 ?k2 ?_; (case k1 => exact News.isTup (by k_asm) (by k_mem)); (case k2 => ((try simp only [List.size_toArray]); omega))) | (refine' len_list ?k1 ?k2 ?_; (case k1 => exact News.isList (by k_asm) (by k_mem)); (case k2 => ((try simp only [List.size_toArray]); omega))))))
section
section
local macro_rules | `(tactic| k_all) => `(tactic| assumption)
local macro_rules | `(tactic| k_mem) => `(tactic| walk_at "mine r2")
local macro_rules | `(tactic| walk_at "call ref") => `(tactic| ((with_reducible show wpAny _ _ (call (Value.ref 126) _) _ _ _); k_dflt (refine' cl_use ?B ?F ?X ?N ?T ?he ?hk ?a1 ?a2 ?a3 ?a4 ?hp ?_; walk_at "mine con"; (case hp => first | assumption | exact FcIn.mono (by assumption) (by walk_at "mine sub"))); (intro h' tk' F' N'); (try rw [(by assumption : Fc.has _ = true)]); (try rw [(by assumption : Fc.has _ = false)])))
local macro_rules | `(tactic| walk_at "eval ListComp") => `(tactic| walk_at "mine r1")
local macro_rules | `(tactic| walk_at "call builtin:len") => `(tactic| walk_at "mine r4")
local macro_rules | `(tactic| walk_at "compareOp Gt int int") => `(tactic| (refine gt_int ?_; rw [decide_eq_false (by assumption)]))
local macro_rules | `(tactic| walk_at "exec For Tuple Call") => `(tactic| refine Hold.out ?_)
local macro_rules | `(tactic| walk_at "call ref") => `(tactic| ((with_reducible show wpAny _ _ (call (Value.ref 166) _) _ _ _); refine Hold.out ?_))
local macro_rules | `(tactic| walk_at "call ref") => `(tactic| ((with_reducible show wpAny _ _ (call (Value.ref 72) _) _ _ _); refine Hold.out ?_))
local macro_rules | `(tactic| walk_at "call ref") => `(tactic| ((with_reducible show wpAny _ _ (call (Value.ref 79) _) _ _ _); refine Hold.out ?_))
local macro_rules | `(tactic| walk_at "subscriptTail Name Slice ref ref") => `(tactic| (k_dflt (first
  | (refine' slice_upto ?F ?N ?t ?b ?_ ?hs ?hg ?z; (case F => k_asm); (case N => k_asm); (case t => exact News.isTup (by k_asm) (by k_mem)); (case b => assumption); (case hs => with_unfolding_all rfl); (case hg => intro _; with_unfolding_all rfl); (case z => (rw [sizeLine_eq]; omega)))
  | (refine' slice_from1 ?F ?N ?t ?b ?_ ?hs ?hg ?z; (case F => k_asm); (case N => k_asm); (case t => exact News.isTup (by k_asm) (by k_mem)); (case b => assumption); (case hs => with_unfolding_all rfl); (case hg => intro _; with_unfolding_all rfl); (case z => (rw [sizeLine_eq]; omega)))); intro D' h' F' N' l1))
local macro_rules | `(tactic| walk_at "call type:list") => `(tactic| ((with_reducible show wpAny _ _ (call (Value.type _) [Value.ref _]) _ _ _); k_dflt (refine' kup_listOfT ?F ?N ?b rfl ?_ ?z; (case F => k_asm); (case N => k_asm); (case b => k_mem); (case z => (rw [sizeLine_eq]; simp; omega))); intro D' c' h' F' N' l1))
local macro_rules | `(tactic| walk_at "binaryOp Add ref ref") => `(tactic| ((with_reducible show wpAny _ _ (binaryOp _ (Value.ref _) (Value.ref _)) _ _ _); k_dflt (refine' kmk_add_lit ?F ?N ?a ?b rfl ?_ ?z; (case F => k_asm); (case N => k_asm); (case a => exact News.isList (by k_asm) (by k_mem)); (case b => exact News.isList (by k_asm) (by k_mem)); (case z => (rw [sizeLine_eq]; simp; omega))); intro D' h' F' N' l1))
local macro_rules | `(tactic| walk_at "call type:enumerate") => `(tactic| refine Hold.out ?_)
local macro_rules | `(tactic| walk_at "CompSrcTT") => `(tactic| refine Hold.out ?_)
theorem ps_ok {w : World} : Con 590 900 w 154 (fun news vs Post => ∃ b its k t ks, vs = [.ref b, S "x" t] ∧ (b, tupN its k) ∈ news ∧ FcsIn news its.toList ks ∧ ks.length ≤ 5 ∧ ∀ news' r, (∀ p ∈ news, p ∈ news') → Inv news news' → TmIn news' r (slopeTm ks) → Post news' r) := by
  unfold Con; k_fill
  intro loose mean mg mb cn cs a ccd cl outer A₀ base h₀ L m news s vs Q E Post B F X N T hk hR hret
  obtain ⟨b, its, k, t, ks, rfl, hb, hF, hlen, hP⟩ := hR
  obtain ⟨ck, c1, c2, c3, c4⟩ := cs
  obtain rfl : ck = ScopeKind.function := hk
  refine wpAny_call ?_
  k_dflt k_enter
  k_steps
  refine Hold.mk ?_
  have hsz : its.size ≤ 5 := by have := hF.len; rw [← Array.length_toList]; omega
  refine CompSrcTT.intro (k := k) rfl (by k_asm) (by k_asm) (List.Mem.tail _ (List.Mem.tail _ hb)) (by rw [sizeLine_eq]; omega) ?_
  intro g
  refine comp_keep (List.Mem.tail _ (List.Mem.tail _ hb)) (fun i ys => ys.length ≤ i) its.size ?turn ?fin its.size 0 [] (Nat.zero_add _) (Nat.le_refl _)
  case turn =>
    intro i ys v I oI C oC D m₂ h tk E' hi hJ hv hC hx F2 N2
    obtain ⟨d, hd, hf⟩ := hF.get (i := i) (v := v) (by simpa using hv)
    cases hh : d.has
    · k_steps
      all_goals assumption
    · k_steps
      all_goals assumption
  case fin =>
    intro ys hJ D h2 tk2 F2 N2 off2
    have hbig : ¬ ((its.size : Int) * (ys.toArray.size : Int) > 100000) := by
      have e : ys.toArray.size = ys.length := List.size_toArray ..
      rw [e]
      have h1 : its.size * ys.length ≤ 5 * 5 := Nat.mul_le_mul hsz (Nat.le_trans hJ hsz)
      rw [← Int.natCast_mul]
      omega
    k_steps
    refine Hold.mk ?_
    k_dflt (refine for_enum (_F := by k_asm) rfl (by rfl) (by rfl) (by rfl) ?_)
    k_steps
    refine Hold.mk ?_
    k_dflt (refine' enum_found (k := k) (ks := ks) (F := by k_asm) (N := by k_asm) hb ?hf ?hc ?hs ?hfn ?hcn ?hcf ?hcc hF ?turn ?fin)
    case hf => exact .tail _ (.tail _ (.head _))
    case hc => exact .tail _ (.tail _ (.tail _ (.head _)))
    case hs => intro p hp; repeat' (first | exact hp | refine List.Mem.tail _ ?_)
    case hfn => intro q hq; have h1 := (by assumption : ∀ p ∈ news, p.1 < _) q hq; have h2 : @LT.lt Nat _ q.1 _ := h1; omega
    case hcn => intro q hq; have h1 := (by assumption : ∀ p ∈ news, p.1 < _) q hq; have h2 : @LT.lt Nat _ q.1 _ := h1; dsimp only; omega
    case hcf => dsimp only; omega
    case hcc => rintro ⟨_, its', n', e'⟩; have e2 := (by assumption : Obj.data _ = Data.cell _); dsimp only at e'; rw [e2] at e'; cases e'
    case turn =>
      intro e it i v d ti h3 tk3 oe oi vs ep rest sl hd hv hi hz hfd hFr hts htm hnr inv n1 n2 n3 n4 n5 n6 n7 n8 n9 c1 c2 cc lF lC lE lI F3 N3
      k_steps
      refine Hold.mk ?_
      k_dflt (refine' so_use ?B ?F ?X ?N ?T ?he ?hk ?a1 ?a2 ?a3 ?a4 (hfd.mono ?hp) ?_; (case a4 => exact rfl); (case B => k_asm); (case F => k_asm); (case X => k_asm); (case N => k_asm); (case T => k_asm); (case he => exact rfl); (case hk => exact rfl); (case a1 => exact rfl); (case a2 => exact Nat.le_of_ble_eq_true rfl); (case a3 => exact Nat.le_of_ble_eq_true rfl); (case hp => intro p hp; repeat' (first | exact hp | refine List.Mem.tail _ ?_)))
      intro r nw h4 tk4 F4 N4 hs4 ha4 hsl
      obtain ⟨N5, s5, inv5, t5⟩ := keep_step (fr := [_, _, _, _]) (rest := rest) N4 hs4 ha4 hnr inv (by
        intro p hp
        rcases List.mem_cons.mp hp with rfl | hp
        · exact c1
        rcases List.mem_cons.mp hp with rfl | hp
        · exact c2
        rcases List.mem_cons.mp hp with rfl | hp
        · exact fun h => absurd (show Value.type "list" = .type "tuple" from h.1) (by decide)
        rcases List.mem_cons.mp hp with rfl | hp
        · exact cc
        cases hp)
      replace hsl := hsl.tup t5
      generalize hr1 : keepF news nw = rest1 at N5 s5 inv5 hsl
      clear N4 hs4 ha4 t5 hr1 nw
      replace N5 : News _ _ _ (_ :: _ :: _ :: _ :: rest1) := N5
      have m1 := frame_ne N5 (.head _) (fun p hp => .tail _ (.tail _ (.tail _ (.tail _ hp)))) inv5 c1 lE
      have m2 := frame_ne N5 (.tail _ (.head _)) (fun p hp => .tail _ (.tail _ (.tail _ (.tail _ hp)))) inv5 c2 lI
      have m3 := frame_ne N5 (.tail _ (.tail _ (.head _))) (fun p hp => .tail _ (.tail _ (.tail _ (.tail _ hp)))) inv5 (fun h => absurd (show Value.type "list" = .type "tuple" from h.1) (by decide)) lF
      have m4 := frame_ne N5 (.tail _ (.tail _ (.tail _ (.head _)))) (fun p hp => .tail _ (.tail _ (.tail _ (.tail _ hp)))) inv5 cc lC
      k_steps
      k_dflt (refine' ne_slope ?F ?N ?z ?o hsl ?u ?_; (case F => k_asm); (case N => exact news_sub (by k_asm) (by intro p hp; repeat' (first | exact hp | refine List.Mem.tail _ ?_))); (case z => exact tupK (l := [S "num" 243, .int 0 244, .int 1 245]) (Frag.In.keeps (by k_asm) (Fr.keep (by k_asm))) (by k_is)); (case o => exact tupK (l := [S "num" 247, .int 1 248, .int 1 249]) (Frag.In.keeps (by k_asm) (Fr.keep (by k_asm))) (by k_is)); (case u => exact Nat.le_of_ble_eq_true rfl))
      cases hhas : d.has
      · k_steps
        exact FStep.intro (by k_asm) (by k_asm) rest1 (oa := some r) (ob := some v) (oc := some (.int (i : Int) ti)) (mapF_turn _ _ _ _ _) (by intro p hp; exact hp) (fun p hp => s5 p (hnr p hp)) inv5 (Nat.le_succ_of_le hz) (by simp only [foundF, hd, hhas, Bool.false_eq_true, if_false]; exact hts.mono s5)
      · have htm1 := s5 _ htm
        k_steps
        refine Hold.mk ?_
        k_dflt (refine' tp_turn (fr := [_, _, _, _]) (rest := rest1) (news := news) N5 ?B ?F ?X ?N ?T ?he ?hk ?a1 ?a2 ?a3 ?a4 (.head _) ?hsuf (fun p hp => s5 p (hnr p hp)) inv5 ?hfr ?hsz ((((hFr.mono s5).take i).tms.app (.cons hsl.tm .nil)).app ((hFr.mono s5).drop (i + 1)).tms) ?_; (case a4 => exact rfl); (case B => k_asm); (case F => k_asm); (case X => k_asm); (case N => k_asm); (case T => k_asm); (case he => exact rfl); (case hk => exact rfl); (case a1 => exact rfl); (case a2 => exact Nat.le_of_ble_eq_true rfl); (case a3 => exact Nat.le_of_ble_eq_true rfl); (case hsuf => intro p hp; repeat' (first | exact hp | refine List.Mem.tail _ ?_)))
        case hfr =>
          intro p hp
          rcases List.mem_cons.mp hp with rfl | hp
          · exact c1
          rcases List.mem_cons.mp hp with rfl | hp
          · exact c2
          rcases List.mem_cons.mp hp with rfl | hp
          · exact fun h => absurd (show Value.type "list" = .type "tuple" from h.1) (by decide)
          rcases List.mem_cons.mp hp with rfl | hp
          · exact cc
          cases hp
        case hsz => simp; omega
        intro r2 rest2 h6 tk6 F6 N6 s6 inv6 ht6
        replace N6 : News _ _ _ (_ :: _ :: _ :: _ :: rest2) := N6
        have q1 := frame_ne N6 (.head _) (fun p hp => .tail _ (.tail _ (.tail _ (.tail _ hp)))) inv6 c1 lE
        have q2 := frame_ne N6 (.tail _ (.head _)) (fun p hp => .tail _ (.tail _ (.tail _ (.tail _ hp)))) inv6 c2 lI
        have q3 := frame_ne N6 (.tail _ (.tail _ (.head _))) (fun p hp => .tail _ (.tail _ (.tail _ (.tail _ hp)))) inv6 (fun h => absurd (show Value.type "list" = .type "tuple" from h.1) (by decide)) lF
        have q4 := frame_ne N6 (.tail _ (.tail _ (.tail _ (.head _)))) (fun p hp => .tail _ (.tail _ (.tail _ (.tail _ hp)))) inv6 cc lC
        k_steps
        refine FStep.intro (by k_asm) (by k_asm) rest2 (oa := some r) (ob := some v) (oc := some (.int (i : Int) ti)) (mapF_turn _ _ _ _ _) (vs := vs.push r2) (by intro p hp; exact hp) (fun p hp => s6 p (s5 p (hnr p hp))) inv6 ?_ ?_
        · rw [Array.size_push]; exact Nat.succ_le_succ hz
        · simp only [foundF, hd, hhas, if_true]
          rw [Array.toList_push]
          exact (hts.mono fun p hp => s6 p (s5 p hp)).app (.cons ht6 .nil)
    case fin =>
      intro h3 tk3 vs ep rest oa ob oc F3 N3 hnr inv hz hts
      k_steps
      refine Hold.mk ?_
      k_dflt (refine' ts_turn (rest := rest) (news := news) ?B ?F ?X ?N ?T ?he ?hk ?a1 ?a2 ?a3 ?a4 (.head _) ?hsuf hnr inv ?hsz hts ?_; (case a4 => exact rfl); (case B => k_asm); (case F => k_asm); (case X => k_asm); (case N => k_asm); (case T => k_asm); (case he => exact rfl); (case hk => exact rfl); (case a1 => exact rfl); (case a2 => exact Nat.le_of_ble_eq_true rfl); (case a3 => exact Nat.le_of_ble_eq_true rfl); (case hsuf => intro p hp; repeat' (first | exact hp | refine List.Mem.tail _ ?_)); (case hsz => omega))
      intro r rest2 h6 tk6 F6 N6 s6 inv6 ht6
      k_steps
      have e : its.size = ks.length := by rw [← hF.len, Array.length_toList]
      rw [e] at ht6
      exact hret _ rest2 _ _ (by k_asm) (by k_asm) (hP rest2 _ (fun p hp => s6 p (hnr p hp)) inv6 ht6)
end
theorem ps_use {w : World} {loose : List Str} {mean : ExcName → Option Value} {mg mb : Str → Option Value} {env : Env} {cn : Str} {cs : Scope} {a : Addr} {ccd : Value} {cl : List (Str × Addr)} {outer : List Env} {A A₀ : Around} {base h₀ : Heap} {L : Addr} {m : Str → Option Value} {news : Led} {s : Shared} {b : Addr} {its : Array Value} {k : Nat} {t : Tok} {ks : List Fc}
    {Q E : Value → Shared → Prop}
    (B : Below A₀ base outer h₀) (F : Fr h₀ L s.heap m) (X : (hd.heap_1 w.params).In h₀) (N : News h₀ L s.heap news) (T : Top topProg loose mean mg mb h₀) (he : env = envX cn cs L a ccd cl) (hk : cs.kind = .function)
    (hA1 : A.handled = none) (hA2 : A.depth ≤ 590) (hA3 : A.units ≤ 900) (hA : A.frames = some (env :: outer)) (hb : (b, tupN its k) ∈ news) (hF : FcsIn news its.toList ks) (hlen : ks.length ≤ 5)
    (kk : ∀ r news' h' tk', Fr h₀ L h' m → News h₀ L h' news' → (∀ p ∈ news, p ∈ news') → Inv news news' → TmIn news' r (slopeTm ks) → Q r { s with heap := h', toks := tk' }) :
    wpAny (model (PySem.Challenge.rw_rh0026_01).row.prog w) A (call (.ref 154) [.ref b, S "x" t]) Q E s :=
  con_use ps_ok (fun nw r => (∀ p ∈ news, p ∈ nw) ∧ Inv news nw ∧ TmIn nw r (slopeTm ks)) B F X N T he hk hA1 hA2 hA3 hA ⟨b, its, k, t, ks, rfl, hb, hF, hlen, fun _ _ a b c => ⟨a, b, c⟩⟩ fun r nw h' tk' F' N' e => by
    obtain ⟨a, b, c⟩ := e
    exact kk r nw h' tk' F' N' a b c
end
section
mutual
noncomputable def Tm.val (a : Int) : Tm → Int
  | .num p _ => p
  | .x => a
  | .y => 7
  | .pow b e => (b.val a) ^ (e.val a).toNat
  | .sum l => sumV a l
  | .prod l => prodV a l
noncomputable def sumV (a : Int) : List Tm → Int
  | [] => 0
  | t :: ts => t.val a + sumV a ts
noncomputable def prodV (a : Int) : List Tm → Int
  | [] => 1
  | t :: ts => t.val a * prodV a ts
end
/-- fit to be reckoned, of height at most h -/
noncomputable def Ok (a : Int) : Nat → Tm → Prop
  | _, .num _ _ => True
  | _, .x => True
  | _, .y => True
  | h + 1, .pow b e => Ok a h b ∧ Ok a h e ∧ 0 ≤ e.val a ∧ e.val a ≤ 5 ∧ -100 ≤ b.val a ∧ b.val a ≤ 100
  | h + 1, .sum l => (∀ t ∈ l, Ok a h t) ∧ l.length ≤ 100
  | h + 1, .prod l => (∀ t ∈ l, Ok a h t ∧ -(2 ^ 64) < t.val a ∧ t.val a < 2 ^ 64) ∧ l.length ≤ 100
  | 0, _ => False
theorem TmsIn.get {news : Led} : ∀ {vs : List Value} {ds : List Tm} {i : Nat} {v : Value}, TmsIn news vs ds → vs[i]? = some v → ∃ d, ds[i]? = some d ∧ TmIn news v d
  | _, _, 0, _, .cons a _, h => ⟨_, rfl, by cases h; exact a⟩
  | _, _, i + 1, _, .cons _ b, h => by
    obtain ⟨d, h1, h2⟩ := TmsIn.get (i := i) b (by simpa using h)
    exact ⟨d, by simpa using h1, h2⟩
theorem sumV_drop {a : Int} : ∀ {l : List Tm} {i : Nat} {d : Tm}, l[i]? = some d → sumV a (l.drop i) = d.val a + sumV a (l.drop (i + 1))
  | t :: ts, 0, d, h => by cases h; rfl
  | t :: ts, i + 1, d, h => by
    simpa using sumV_drop (l := ts) (i := i) (by simpa using h)
theorem prodV_drop {a : Int} : ∀ {l : List Tm} {i : Nat} {d : Tm}, l[i]? = some d → prodV a (l.drop i) = d.val a * prodV a (l.drop (i + 1))
  | t :: ts, 0, d, h => by cases h; rfl
  | t :: ts, i + 1, d, h => by
    simpa using prodV_drop (l := ts) (i := i) (by simpa using h)
theorem con_mono {dp un dp' un' : Nat} {w : World} {f : Addr} {Pre} (C : Con dp' un' w f Pre) (h1 : dp ≤ dp') (h2 : un ≤ un') : Con dp un w f Pre := by
  intro loose mean mg mb cn cs a ccd cl outer A₀ base h₀ L m news s vs Q E Post B F X N T hk hR hret
  exact wp_weak (C loose mean mg mb cn cs a ccd cl outer A₀ base h₀ L m news s vs Q E Post B F X N T hk hR hret) rfl h1 rfl rfl h2
def vmap (m₀ : Str → Option Value) (ov oo f : Option Value) : Str → Option Value :=
  fun y => if y = Str.ofString "value" then ov else if y = Str.ofString "one" then oo else if y = Str.ofString "found" then f else m₀ y
theorem vmap_turn (m₀ : Str → Option Value) (a b c d e : Option Value) : (fun y => if y = Str.ofString "found" then a else if y = Str.ofString "value" then b else if y = Str.ofString "one" then c else if y = Str.ofString "value" then d else if y = Str.ofString "found" then e else m₀ y) = vmap m₀ b c a := by
  funext y; unfold vmap
  by_cases h1 : y = Str.ofString "found"
  · have n1 : ¬ (y = Str.ofString "value") := by rw [h1]; decide
    have n2 : ¬ (y = Str.ofString "one") := by rw [h1]; decide
    simp only [if_pos h1, if_neg n1, if_neg n2]
  · simp only [if_neg h1]
    by_cases h2 : y = Str.ofString "value"
    · simp only [if_pos h2]
    · simp only [if_neg h2]
def VStep (h₀ : Heap) (L : Addr) (s : Shared) (it : Addr) (oi : Obj) (news : Led) (m₀ : Str → Option Value) (G : Int → Prop) (f : Flow) (s' : Shared) : Prop :=
  f = .next ∧ ∃ h' tk' c tc ov oo, s' = { s with heap := h', toks := tk' } ∧ Fr h₀ L h' (vmap m₀ ov oo (some (.int c tc))) ∧ News h₀ L h' ((it, oi) :: news) ∧ G c
theorem VStep.intro {h₀ : Heap} {L : Addr} {s : Shared} {it : Addr} {oi : Obj} {news : Led} {m₀ : Str → Option Value} {G : Int → Prop} {h' : Heap} {tk' : Nat} {m₂ : Str → Option Value} {c : Int} {tc : Tok} {ov oo : Option Value}
    (F : Fr h₀ L h' m₂) (N : News h₀ L h' ((it, oi) :: news)) (hm : m₂ = vmap m₀ ov oo (some (.int c tc))) (g : G c) : VStep h₀ L s it oi news m₀ G .next { s with heap := h', toks := tk' } := ⟨rfl, h', tk', c, tc, ov, oo, rfl, hm ▸ F, N, g⟩
theorem vloop {prog : Program} {w : World} {A : Around} {s : Shared} {env : Env} {h₀ : Heap} {E : Value → Shared → Prop} {Q : Flow → Shared → Prop} {body : List Stmt} {t : Addr} {its : Array Value} {k : Nat} {news : Led} {m₀ : Str → Option Value} {l : List Tm} {f0 : Int} {tf : Tok} (G : Nat → Int → Prop)
    (F : Fr h₀ env.locals s.heap (fun y => if y = Str.ofString "found" then some (.int f0 tf) else m₀ y)) (N : News h₀ env.locals s.heap news) (hm : (t, tupN its k) ∈ news) (hts : TmsIn news its.toList l) (g0 : G 0 f0)
    (step : ∀ it i v d h tk oi c tc ov, l[i]? = some d → TmIn news v d → G i c → (∀ p ∈ news, (@Ne Nat p.1 it)) → (@Ne Nat it env.locals) →
      Fr h₀ env.locals h (fun y => if y = Str.ofString "one" then some v else if y = Str.ofString "value" then ov else if y = Str.ofString "found" then some (.int c tc) else m₀ y) → News h₀ env.locals h ((it, oi) :: news) →
      wpAny (model prog w) A (execs body env) (VStep h₀ env.locals s it oi news m₀ (G (i + 1))) E { s with heap := h, toks := tk })
    (fin : ∀ h' tk c tc ov oo, Fr h₀ env.locals h' (vmap m₀ ov oo (some (.int c tc))) → News h₀ env.locals h' news → G l.length c → Q .next { s with heap := h', toks := tk }) :
    TupAt prog w A h₀ env (Str.ofString "one") body Q E (.ref t) s := by
  have hlen : its.size = l.length := by rw [← hts.len, Array.length_toList]
  refine ⟨t, its, k, news, _, fun i m₁ => ∃ c tc ov oo, m₁ = vmap m₀ ov oo (some (.int c tc)) ∧ G i c, rfl, F, N, hm, ⟨f0, tf, m₀ (Str.ofString "value"), m₀ (Str.ofString "one"), ?_, g0⟩, ?_, ?_⟩
  · funext y; unfold vmap
    by_cases h1 : y = Str.ofString "found"
    · have n1 : ¬ (y = Str.ofString "value") := by rw [h1]; decide
      have n2 : ¬ (y = Str.ofString "one") := by rw [h1]; decide
      simp only [if_pos h1, if_neg n1, if_neg n2]
    · simp only [if_neg h1]
      by_cases h2 : y = Str.ofString "value"
      · rw [if_pos h2, h2]
      · simp only [if_neg h2]
        by_cases h3 : y = Str.ofString "one"
        · rw [if_pos h3, h3]
        · simp only [if_neg h3]
  · rintro it i v h tk oi m₁ hv ⟨c, tc, ov, oo, rfl, g⟩ off hiL F₁ N₁
    obtain ⟨d, hd, hfd⟩ := hts.get (i := i) (v := v) (by simpa using hv)
    have e0 : (fun y => if y = Str.ofString "one" then some v else vmap m₀ ov oo (some (.int c tc)) y) = (fun y => if y = Str.ofString "one" then some v else if y = Str.ofString "value" then ov else if y = Str.ofString "found" then some (.int c tc) else m₀ y) := by
      funext y; unfold vmap
      by_cases h1 : y = Str.ofString "one"
      · simp only [if_pos h1]
      · simp only [if_neg h1]
    rw [e0] at F₁
    refine wpAny_mono (step it i v d h tk oi c tc ov hd hfd g off hiL F₁ N₁) (fun f s' h' => ?_) fun _ _ e => e
    obtain ⟨rfl, h', tk', c', tc', ov', oo', rfl, F₂, N₂, g'⟩ := h'
    exact ⟨rfl, h', tk', _, rfl, F₂, N₂, c', tc', ov', oo', rfl, g'⟩
  · rintro h' tk m' F' N' ⟨c, tc, ov, oo, rfl, g⟩
    exact fin h' tk c tc ov oo F' N' (hlen ▸ g)
def LPre (h : Nat) (news : Led) (vs : List Value) (Post : Led → Value → Prop) : Prop := ∃ v a ta tm, vs = [v, .int a ta] ∧ TmIn news v tm ∧ Ok a h tm ∧ ∀ t, Post news (.int (tm.val a) t)
section
local macro_rules | `(tactic| k_all) => `(tactic| assumption)
local macro_rules | `(tactic| k_mem) => `(tactic| walk_at "mine r2")
local macro_rules | `(tactic| walk_at "subscriptTail") => `(tactic| walk_at "mine r0")
theorem lv_zero {w : World} : Con 590 900 w 181 (LPre 0) := by
  unfold Con; k_fill
  intro loose mean mg mb cn cs a ccd cl outer A₀ base h₀ L m news s vs Q E Post B F X N T hk hR hret
  obtain ⟨v, at', ta, tm, rfl, hT, hO, hP⟩ := hR
  cases hT with
  | pow _ _ _ => exact absurd hO (by simp [Ok])
  | sum _ _ _ => exact absurd hO (by simp [Ok])
  | prod _ _ _ => exact absurd hO (by simp [Ok])
  | _ =>
    refine wpAny_call ?_
    k_dflt ktr_enter
    k_steps
    exact hret _ news _ _ (by k_asm) (news_sub (by k_asm) (by intro p hp; repeat' (first | exact hp | refine List.Mem.tail _ ?_))) (hP _)
end
end
section
theorem lv_use {dp un h : Nat} {w : World} (C : Con dp un w 181 (LPre h)) {loose : List Str} {mean : ExcName → Option Value} {mg mb : Str → Option Value} {env : Env} {cn : Str} {cs : Scope} {a : Addr} {ccd : Value} {cl : List (Str × Addr)} {outer : List Env} {A A₀ : Around} {base h₀ : Heap} {L : Addr} {m : Str → Option Value} {news : Led} {s : Shared} {v : Value} {at' : Int} {ta : Tok} {tm : Tm}
    {Q E : Value → Shared → Prop}
    (B : Below A₀ base outer h₀) (F : Fr h₀ L s.heap m) (X : (hd.heap_1 w.params).In h₀) (N : News h₀ L s.heap news) (T : Top topProg loose mean mg mb h₀) (he : env = envX cn cs L a ccd cl) (hk : cs.kind = .function)
    (hA1 : A.handled = none) (hA2 : A.depth ≤ dp) (hA3 : A.units ≤ un) (hA : A.frames = some (env :: outer)) (hT : TmIn news v tm) (hO : Ok at' h tm)
    (k : ∀ t h' tk', Fr h₀ L h' m → News h₀ L h' news → Q (.int (tm.val at') t) { s with heap := h', toks := tk' }) :
    wpAny (model (PySem.Challenge.rw_rh0026_01).row.prog w) A (call (.ref 181) [v, .int at' ta]) Q E s :=
  con_use C (fun nw r => nw = news ∧ ∃ t, r = .int (tm.val at') t) B F X N T he hk hA1 hA2 hA3 hA ⟨v, at', ta, tm, rfl, hT, hO, fun t => ⟨rfl, t, rfl⟩⟩ fun r nw h' tk' F' N' e => by
    obtain ⟨rfl, t, rfl⟩ := e
    exact k t h' tk' F' N'
section
local macro_rules | `(tactic| k_all) => `(tactic| assumption)
local macro_rules | `(tactic| k_mem) => `(tactic| walk_at "mine r2")
local macro_rules | `(tactic| walk_at "subscriptTail") => `(tactic| walk_at "mine r0")
local macro_rules | `(tactic| walk_at "call ref") => `(tactic| ((with_reducible show wpAny _ _ (call (Value.ref 181) _) _ _ _); k_dflt (refine' lv_use (by assumption) ?B ?F ?X ?N ?T ?he ?hk ?a1 ?a2 ?a3 ?a4 ?hT ?hO ?_; walk_at "mine con"; (case hT => first | assumption | exact TmIn.mono (by walk_at "mine sub") (by assumption)); (case hO => assumption)); (intro t' h' tk' F' N')))
local macro_rules | `(tactic| walk_at "exec For Name Subscript") => `(tactic| refine Hold.out ?_)
theorem lv1 {w : World} : Con 582 820 w 181 (LPre 1) := by
  have ih := lv_zero (w := w)
  unfold Con; k_fill
  intro loose mean mg mb cn cs a ccd cl outer A₀ base h₀ L m news s vs Q E Post B F X N T hk hR hret
  obtain ⟨v, at', ta, tm, rfl, hT, hO, hP⟩ := hR
  by_cases hleaf : Ok at' 0 tm
  · exact con_mono (dp := 582) (un := 820) lv_zero (by decide) (by decide) loose mean mg mb cn cs a ccd cl outer A₀ base h₀ L m news s _ Q E Post B F X N T hk ⟨v, at', ta, tm, rfl, hT, hleaf, hP⟩ hret
  cases hT with
  | pow hu hb he =>
    obtain ⟨o1, o2, o3, o4, o5, o6⟩ := hO
    refine wpAny_call ?_
    k_dflt ktr_enter
    k_steps
    exact hret _ news _ _ (by k_asm) (news_sub (by k_asm) (by intro p hp; repeat' (first | exact hp | refine List.Mem.tail _ ?_))) (hP _)
  | @sum aa bb tt its l hu hi hts =>
    obtain ⟨o1, o2⟩ := hO
    refine wpAny_call ?_
    k_dflt ktr_enter
    k_steps
    refine Hold.mk ?_
    k_dflt (refine for_tup (_F := by k_asm) rfl (by rfl) (by rfl) ?_)
    k_steps
    k_dflt (refine vloop (fun i c => c + sumV at' (List.drop i l) = sumV at' l) (by k_asm) (by k_asm) hi hts (by simp) ?step ?fin)
    case step =>
      intro it i v d h3 tk3 oi c tc ov hd hvd hG off hiL F3 N3
      have ho := o1 d (List.mem_of_getElem? hd)
      have hvd2 := TmIn.mono (news' := (it, oi) :: news) (fun p hp => .tail _ hp) hvd
      k_steps
      exact VStep.intro (by k_asm) (by k_asm) (vmap_turn _ _ _ _ _ _) (by rw [Int.add_assoc, ← sumV_drop hd]; exact hG)
    case fin =>
      intro h3 tk3 c tc ov oo F3 N3 hG
      k_steps
      rw [List.drop_length] at hG
      have e : c = Tm.val at' (.sum l) := by rw [← Int.add_zero c]; exact hG
      rw [e]
      exact hret _ news _ _ (by k_asm) (news_sub (by k_asm) (by intro p hp; repeat' (first | exact hp | refine List.Mem.tail _ ?_))) (hP _)
  | @prod aa bb tt its l hu hi hts =>
    obtain ⟨o1, o2⟩ := hO
    refine wpAny_call ?_
    k_dflt ktr_enter
    k_steps
    refine Hold.mk ?_
    k_dflt (refine for_tup (_F := by k_asm) rfl (by rfl) (by rfl) ?_)
    k_steps
    k_dflt (refine vloop (fun i c => c * prodV at' (List.drop i l) = prodV at' l) (by k_asm) (by k_asm) hi hts (by simp) ?step ?fin)
    case step =>
      intro it i v d h3 tk3 oi c tc ov hd hvd hG off hiL F3 N3
      obtain ⟨ho, hb1, hb2⟩ := o1 d (List.mem_of_getElem? hd)
      have hbits := intBits_le_64 hb1 hb2
      have hvd2 := TmIn.mono (news' := (it, oi) :: news) (fun p hp => .tail _ hp) hvd
      k_steps
      exact VStep.intro (by k_asm) (by k_asm) (vmap_turn _ _ _ _ _ _) (by rw [Int.mul_assoc, ← prodV_drop hd]; exact hG)
    case fin =>
      intro h3 tk3 c tc ov oo F3 N3 hG
      k_steps
      rw [List.drop_length] at hG
      have e : c = Tm.val at' (.prod l) := by rw [← Int.mul_one c]; exact hG
      rw [e]
      exact hret _ news _ _ (by k_asm) (news_sub (by k_asm) (by intro p hp; repeat' (first | exact hp | refine List.Mem.tail _ ?_))) (hP _)
  | _ => exact absurd (by simp [Ok]) hleaf
theorem lv2 {w : World} : Con 574 740 w 181 (LPre 2) := by
  have ih := lv1 (w := w)
  unfold Con; k_fill
  intro loose mean mg mb cn cs a ccd cl outer A₀ base h₀ L m news s vs Q E Post B F X N T hk hR hret
  obtain ⟨v, at', ta, tm, rfl, hT, hO, hP⟩ := hR
  by_cases hleaf : Ok at' 0 tm
  · exact con_mono (dp := 574) (un := 740) lv_zero (by decide) (by decide) loose mean mg mb cn cs a ccd cl outer A₀ base h₀ L m news s _ Q E Post B F X N T hk ⟨v, at', ta, tm, rfl, hT, hleaf, hP⟩ hret
  cases hT with
  | pow hu hb he =>
    obtain ⟨o1, o2, o3, o4, o5, o6⟩ := hO
    refine wpAny_call ?_
    k_dflt ktr_enter
    k_steps
    exact hret _ news _ _ (by k_asm) (news_sub (by k_asm) (by intro p hp; repeat' (first | exact hp | refine List.Mem.tail _ ?_))) (hP _)
  | @sum aa bb tt its l hu hi hts =>
    obtain ⟨o1, o2⟩ := hO
    refine wpAny_call ?_
    k_dflt ktr_enter
    k_steps
    refine Hold.mk ?_
    k_dflt (refine for_tup (_F := by k_asm) rfl (by rfl) (by rfl) ?_)
    k_steps
    k_dflt (refine vloop (fun i c => c + sumV at' (List.drop i l) = sumV at' l) (by k_asm) (by k_asm) hi hts (by simp) ?step ?fin)
    case step =>
      intro it i v d h3 tk3 oi c tc ov hd hvd hG off hiL F3 N3
      have ho := o1 d (List.mem_of_getElem? hd)
      have hvd2 := TmIn.mono (news' := (it, oi) :: news) (fun p hp => .tail _ hp) hvd
      k_steps
      exact VStep.intro (by k_asm) (by k_asm) (vmap_turn _ _ _ _ _ _) (by rw [Int.add_assoc, ← sumV_drop hd]; exact hG)
    case fin =>
      intro h3 tk3 c tc ov oo F3 N3 hG
      k_steps
      rw [List.drop_length] at hG
      have e : c = Tm.val at' (.sum l) := by rw [← Int.add_zero c]; exact hG
      rw [e]
      exact hret _ news _ _ (by k_asm) (news_sub (by k_asm) (by intro p hp; repeat' (first | exact hp | refine List.Mem.tail _ ?_))) (hP _)
  | @prod aa bb tt its l hu hi hts =>
    obtain ⟨o1, o2⟩ := hO
    refine wpAny_call ?_
    k_dflt ktr_enter
    k_steps
    refine Hold.mk ?_
    k_dflt (refine for_tup (_F := by k_asm) rfl (by rfl) (by rfl) ?_)
    k_steps
    k_dflt (refine vloop (fun i c => c * prodV at' (List.drop i l) = prodV at' l) (by k_asm) (by k_asm) hi hts (by simp) ?step ?fin)
    case step =>
      intro it i v d h3 tk3 oi c tc ov hd hvd hG off hiL F3 N3
      obtain ⟨ho, hb1, hb2⟩ := o1 d (List.mem_of_getElem? hd)
      have hbits := intBits_le_64 hb1 hb2
      have hvd2 := TmIn.mono (news' := (it, oi) :: news) (fun p hp => .tail _ hp) hvd
      k_steps
      exact VStep.intro (by k_asm) (by k_asm) (vmap_turn _ _ _ _ _ _) (by rw [Int.mul_assoc, ← prodV_drop hd]; exact hG)
    case fin =>
      intro h3 tk3 c tc ov oo F3 N3 hG
      k_steps
      rw [List.drop_length] at hG
      have e : c = Tm.val at' (.prod l) := by rw [← Int.mul_one c]; exact hG
      rw [e]
      exact hret _ news _ _ (by k_asm) (news_sub (by k_asm) (by intro p hp; repeat' (first | exact hp | refine List.Mem.tail _ ?_))) (hP _)
  | _ => exact absurd (by simp [Ok]) hleaf
theorem lv3 {w : World} : Con 566 660 w 181 (LPre 3) := by
  have ih := lv2 (w := w)
  unfold Con; k_fill
  intro loose mean mg mb cn cs a ccd cl outer A₀ base h₀ L m news s vs Q E Post B F X N T hk hR hret
  obtain ⟨v, at', ta, tm, rfl, hT, hO, hP⟩ := hR
  by_cases hleaf : Ok at' 0 tm
  · exact con_mono (dp := 566) (un := 660) lv_zero (by decide) (by decide) loose mean mg mb cn cs a ccd cl outer A₀ base h₀ L m news s _ Q E Post B F X N T hk ⟨v, at', ta, tm, rfl, hT, hleaf, hP⟩ hret
  cases hT with
  | pow hu hb he =>
    obtain ⟨o1, o2, o3, o4, o5, o6⟩ := hO
    refine wpAny_call ?_
    k_dflt ktr_enter
    k_steps
    exact hret _ news _ _ (by k_asm) (news_sub (by k_asm) (by intro p hp; repeat' (first | exact hp | refine List.Mem.tail _ ?_))) (hP _)
  | @sum aa bb tt its l hu hi hts =>
    obtain ⟨o1, o2⟩ := hO
    refine wpAny_call ?_
    k_dflt ktr_enter
    k_steps
    refine Hold.mk ?_
    k_dflt (refine for_tup (_F := by k_asm) rfl (by rfl) (by rfl) ?_)
    k_steps
    k_dflt (refine vloop (fun i c => c + sumV at' (List.drop i l) = sumV at' l) (by k_asm) (by k_asm) hi hts (by simp) ?step ?fin)
    case step =>
      intro it i v d h3 tk3 oi c tc ov hd hvd hG off hiL F3 N3
      have ho := o1 d (List.mem_of_getElem? hd)
      have hvd2 := TmIn.mono (news' := (it, oi) :: news) (fun p hp => .tail _ hp) hvd
      k_steps
      exact VStep.intro (by k_asm) (by k_asm) (vmap_turn _ _ _ _ _ _) (by rw [Int.add_assoc, ← sumV_drop hd]; exact hG)
    case fin =>
      intro h3 tk3 c tc ov oo F3 N3 hG
      k_steps
      rw [List.drop_length] at hG
      have e : c = Tm.val at' (.sum l) := by rw [← Int.add_zero c]; exact hG
      rw [e]
      exact hret _ news _ _ (by k_asm) (news_sub (by k_asm) (by intro p hp; repeat' (first | exact hp | refine List.Mem.tail _ ?_))) (hP _)
  | @prod aa bb tt its l hu hi hts =>
    obtain ⟨o1, o2⟩ := hO
    refine wpAny_call ?_
    k_dflt ktr_enter
    k_steps
    refine Hold.mk ?_
    k_dflt (refine for_tup (_F := by k_asm) rfl (by rfl) (by rfl) ?_)
    k_steps
    k_dflt (refine vloop (fun i c => c * prodV at' (List.drop i l) = prodV at' l) (by k_asm) (by k_asm) hi hts (by simp) ?step ?fin)
    case step =>
      intro it i v d h3 tk3 oi c tc ov hd hvd hG off hiL F3 N3
      obtain ⟨ho, hb1, hb2⟩ := o1 d (List.mem_of_getElem? hd)
      have hbits := intBits_le_64 hb1 hb2
      have hvd2 := TmIn.mono (news' := (it, oi) :: news) (fun p hp => .tail _ hp) hvd
      k_steps
      exact VStep.intro (by k_asm) (by k_asm) (vmap_turn _ _ _ _ _ _) (by rw [Int.mul_assoc, ← prodV_drop hd]; exact hG)
    case fin =>
      intro h3 tk3 c tc ov oo F3 N3 hG
      k_steps
      rw [List.drop_length] at hG
      have e : c = Tm.val at' (.prod l) := by rw [← Int.mul_one c]; exact hG
      rw [e]
      exact hret _ news _ _ (by k_asm) (news_sub (by k_asm) (by intro p hp; repeat' (first | exact hp | refine List.Mem.tail _ ?_))) (hP _)
  | _ => exact absurd (by simp [Ok]) hleaf
theorem lv4 {w : World} : Con 558 580 w 181 (LPre 4) := by
  have ih := lv3 (w := w)
  unfold Con; k_fill
  intro loose mean mg mb cn cs a ccd cl outer A₀ base h₀ L m news s vs Q E Post B F X N T hk hR hret
  obtain ⟨v, at', ta, tm, rfl, hT, hO, hP⟩ := hR
  by_cases hleaf : Ok at' 0 tm
  · exact con_mono (dp := 558) (un := 580) lv_zero (by decide) (by decide) loose mean mg mb cn cs a ccd cl outer A₀ base h₀ L m news s _ Q E Post B F X N T hk ⟨v, at', ta, tm, rfl, hT, hleaf, hP⟩ hret
  cases hT with
  | pow hu hb he =>
    obtain ⟨o1, o2, o3, o4, o5, o6⟩ := hO
    refine wpAny_call ?_
    k_dflt ktr_enter
    k_steps
    exact hret _ news _ _ (by k_asm) (news_sub (by k_asm) (by intro p hp; repeat' (first | exact hp | refine List.Mem.tail _ ?_))) (hP _)
  | @sum aa bb tt its l hu hi hts =>
    obtain ⟨o1, o2⟩ := hO
    refine wpAny_call ?_
    k_dflt ktr_enter
    k_steps
    refine Hold.mk ?_
    k_dflt (refine for_tup (_F := by k_asm) rfl (by rfl) (by rfl) ?_)
    k_steps
    k_dflt (refine vloop (fun i c => c + sumV at' (List.drop i l) = sumV at' l) (by k_asm) (by k_asm) hi hts (by simp) ?step ?fin)
    case step =>
      intro it i v d h3 tk3 oi c tc ov hd hvd hG off hiL F3 N3
      have ho := o1 d (List.mem_of_getElem? hd)
      have hvd2 := TmIn.mono (news' := (it, oi) :: news) (fun p hp => .tail _ hp) hvd
      k_steps
      exact VStep.intro (by k_asm) (by k_asm) (vmap_turn _ _ _ _ _ _) (by rw [Int.add_assoc, ← sumV_drop hd]; exact hG)
    case fin =>
      intro h3 tk3 c tc ov oo F3 N3 hG
      k_steps
      rw [List.drop_length] at hG
      have e : c = Tm.val at' (.sum l) := by rw [← Int.add_zero c]; exact hG
      rw [e]
      exact hret _ news _ _ (by k_asm) (news_sub (by k_asm) (by intro p hp; repeat' (first | exact hp | refine List.Mem.tail _ ?_))) (hP _)
  | @prod aa bb tt its l hu hi hts =>
    obtain ⟨o1, o2⟩ := hO
    refine wpAny_call ?_
    k_dflt ktr_enter
    k_steps
    refine Hold.mk ?_
    k_dflt (refine for_tup (_F := by k_asm) rfl (by rfl) (by rfl) ?_)
    k_steps
    k_dflt (refine vloop (fun i c => c * prodV at' (List.drop i l) = prodV at' l) (by k_asm) (by k_asm) hi hts (by simp) ?step ?fin)
    case step =>
      intro it i v d h3 tk3 oi c tc ov hd hvd hG off hiL F3 N3
      obtain ⟨ho, hb1, hb2⟩ := o1 d (List.mem_of_getElem? hd)
      have hbits := intBits_le_64 hb1 hb2
      have hvd2 := TmIn.mono (news' := (it, oi) :: news) (fun p hp => .tail _ hp) hvd
      k_steps
      exact VStep.intro (by k_asm) (by k_asm) (vmap_turn _ _ _ _ _ _) (by rw [Int.mul_assoc, ← prodV_drop hd]; exact hG)
    case fin =>
      intro h3 tk3 c tc ov oo F3 N3 hG
      k_steps
      rw [List.drop_length] at hG
      have e : c = Tm.val at' (.prod l) := by rw [← Int.mul_one c]; exact hG
      rw [e]
      exact hret _ news _ _ (by k_asm) (news_sub (by k_asm) (by intro p hp; repeat' (first | exact hp | refine List.Mem.tail _ ?_))) (hP _)
  | _ => exact absurd (by simp [Ok]) hleaf
theorem lv5 {w : World} : Con 550 500 w 181 (LPre 5) := by
  have ih := lv4 (w := w)
  unfold Con; k_fill
  intro loose mean mg mb cn cs a ccd cl outer A₀ base h₀ L m news s vs Q E Post B F X N T hk hR hret
  obtain ⟨v, at', ta, tm, rfl, hT, hO, hP⟩ := hR
  by_cases hleaf : Ok at' 0 tm
  · exact con_mono (dp := 550) (un := 500) lv_zero (by decide) (by decide) loose mean mg mb cn cs a ccd cl outer A₀ base h₀ L m news s _ Q E Post B F X N T hk ⟨v, at', ta, tm, rfl, hT, hleaf, hP⟩ hret
  cases hT with
  | pow hu hb he =>
    obtain ⟨o1, o2, o3, o4, o5, o6⟩ := hO
    refine wpAny_call ?_
    k_dflt ktr_enter
    k_steps
    exact hret _ news _ _ (by k_asm) (news_sub (by k_asm) (by intro p hp; repeat' (first | exact hp | refine List.Mem.tail _ ?_))) (hP _)
  | @sum aa bb tt its l hu hi hts =>
    obtain ⟨o1, o2⟩ := hO
    refine wpAny_call ?_
    k_dflt ktr_enter
    k_steps
    refine Hold.mk ?_
    k_dflt (refine for_tup (_F := by k_asm) rfl (by rfl) (by rfl) ?_)
    k_steps
    k_dflt (refine vloop (fun i c => c + sumV at' (List.drop i l) = sumV at' l) (by k_asm) (by k_asm) hi hts (by simp) ?step ?fin)
    case step =>
      intro it i v d h3 tk3 oi c tc ov hd hvd hG off hiL F3 N3
      have ho := o1 d (List.mem_of_getElem? hd)
      have hvd2 := TmIn.mono (news' := (it, oi) :: news) (fun p hp => .tail _ hp) hvd
      k_steps
      exact VStep.intro (by k_asm) (by k_asm) (vmap_turn _ _ _ _ _ _) (by rw [Int.add_assoc, ← sumV_drop hd]; exact hG)
    case fin =>
      intro h3 tk3 c tc ov oo F3 N3 hG
      k_steps
      rw [List.drop_length] at hG
      have e : c = Tm.val at' (.sum l) := by rw [← Int.add_zero c]; exact hG
      rw [e]
      exact hret _ news _ _ (by k_asm) (news_sub (by k_asm) (by intro p hp; repeat' (first | exact hp | refine List.Mem.tail _ ?_))) (hP _)
  | @prod aa bb tt its l hu hi hts =>
    obtain ⟨o1, o2⟩ := hO
    refine wpAny_call ?_
    k_dflt ktr_enter
    k_steps
    refine Hold.mk ?_
    k_dflt (refine for_tup (_F := by k_asm) rfl (by rfl) (by rfl) ?_)
    k_steps
    k_dflt (refine vloop (fun i c => c * prodV at' (List.drop i l) = prodV at' l) (by k_asm) (by k_asm) hi hts (by simp) ?step ?fin)
    case step =>
      intro it i v d h3 tk3 oi c tc ov hd hvd hG off hiL F3 N3
      obtain ⟨ho, hb1, hb2⟩ := o1 d (List.mem_of_getElem? hd)
      have hbits := intBits_le_64 hb1 hb2
      have hvd2 := TmIn.mono (news' := (it, oi) :: news) (fun p hp => .tail _ hp) hvd
      k_steps
      exact VStep.intro (by k_asm) (by k_asm) (vmap_turn _ _ _ _ _ _) (by rw [Int.mul_assoc, ← prodV_drop hd]; exact hG)
    case fin =>
      intro h3 tk3 c tc ov oo F3 N3 hG
      k_steps
      rw [List.drop_length] at hG
      have e : c = Tm.val at' (.prod l) := by rw [← Int.mul_one c]; exact hG
      rw [e]
      exact hret _ news _ _ (by k_asm) (news_sub (by k_asm) (by intro p hp; repeat' (first | exact hp | refine List.Mem.tail _ ?_))) (hP _)
  | _ => exact absurd (by simp [Ok]) hleaf
end
end
section
noncomputable def valAt (a : Int) (ks : List Fc) (j : Nat) : Int := match ks[j]? with | some d => d.tm.val a | none => 1
noncomputable def slAt (a : Int) (ks : List Fc) (j : Nat) : Int := match ks[j]? with | some d => d.slope.val a | none => 0
noncomputable def othV (a : Int) (ks : List Fc) (i : Nat) : Nat → Int
  | 0 => 1
  | j + 1 => othV a ks i j * (if j ≠ i then valAt a ks j else 1)
noncomputable def dueV (a : Int) (ks : List Fc) : Nat → Int
  | 0 => 0
  | i + 1 => dueV a ks i + slAt a ks i * othV a ks i ks.length
theorem prodV_app (a : Int) : ∀ l r : List Tm, prodV a (l ++ r) = prodV a l * prodV a r
  | [], r => by simp [prodV]
  | t :: l, r => by simp only [List.cons_append, prodV, prodV_app a l r, Int.mul_assoc]
theorem sumV_app (a : Int) : ∀ l r : List Tm, sumV a (l ++ r) = sumV a l + sumV a r
  | [], r => by simp [sumV]
  | t :: l, r => by simp only [List.cons_append, sumV, sumV_app a l r, Int.add_assoc]
theorem prodF_val (a : Int) : ∀ l : List Tm, (prodF l).val a = prodV a l
  | [] => by simp [prodF, Tm.val, prodV]
  | [x] => by simp [prodF, prodV]
  | _ :: _ :: _ => by simp [prodF, Tm.val]
theorem sumF_val (a : Int) : ∀ l : List Tm, (sumF l).val a = sumV a l
  | [] => by simp [sumF, Tm.val, sumV]
  | [x] => by simp [sumF, sumV]
  | _ :: _ :: _ => by simp [sumF, Tm.val]
theorem take_succ_map (ks : List Fc) (j : Nat) (a : Int) : prodV a ((ks.take (j + 1)).map Fc.tm) = prodV a ((ks.take j).map Fc.tm) * valAt a ks j := by
  rw [List.take_add_one, List.map_append, prodV_app]
  unfold valAt
  cases ks[j]? with
  | none => simp [prodV]
  | some d => simp [prodV]
theorem othV_low (a : Int) (ks : List Fc) (i : Nat) : ∀ j, j ≤ i → othV a ks i j = prodV a ((ks.take j).map Fc.tm)
  | 0, _ => by simp [othV, prodV]
  | j + 1, h => by
    rw [othV, othV_low a ks i j (by omega), if_pos (by omega), take_succ_map]
theorem drop_take_map (ks : List Fc) (i j : Nat) (a : Int) (h : i < j) : prodV a (((ks.take (j + 1)).drop (i + 1)).map Fc.tm) = prodV a (((ks.take j).drop (i + 1)).map Fc.tm) * valAt a ks j := by
  rw [List.take_add_one, List.drop_append, List.map_append, prodV_app]
  unfold valAt
  congr 1
  cases hj : ks[j]? with
  | none => simp [prodV]
  | some d =>
    have hl : j < ks.length := by
      rcases Nat.lt_or_ge j ks.length with h | h
      · exact h
      · rw [List.getElem?_eq_none h] at hj; cases hj
    have e : i + 1 - (List.take j ks).length = 0 := by rw [List.length_take]; omega
    rw [e]; simp [prodV]
theorem othV_high (a : Int) (ks : List Fc) (i : Nat) : ∀ j, i < j → othV a ks i j = prodV a ((ks.take i).map Fc.tm) * prodV a (((ks.take j).drop (i + 1)).map Fc.tm)
  | 0, h => absurd h (Nat.not_lt_zero _)
  | j + 1, h => by
    rcases Nat.lt_or_ge i j with h1 | h1
    · rw [othV, othV_high a ks i j h1, if_pos (by omega), drop_take_map ks i j a h1, Int.mul_assoc]
    · obtain rfl : i = j := by omega
      rw [othV, othV_low a ks i i (Nat.le_refl _), if_neg (by simp)]
      have e : (ks.take (i + 1)).drop (i + 1) = [] := List.drop_eq_nil_of_le (by rw [List.length_take]; omega)
      rw [e]; simp [prodV]
theorem part_val (a : Int) (ks : List Fc) (i : Nat) (d : Fc) (h : ks[i]? = some d) : (partT ks i d).val a = slAt a ks i * othV a ks i ks.length := by
  have hl : i < ks.length := by
    rcases Nat.lt_or_ge i ks.length with h' | h'
    · exact h'
    · rw [List.getElem?_eq_none h'] at h; cases h
  rw [partT, prodF_val, prodV_app, prodV_app, othV_high a ks i _ hl, List.take_length]
  have e : slAt a ks i = d.slope.val a := by unfold slAt; rw [h]
  rw [e]
  simp only [prodV, Int.mul_one]
  rw [Int.mul_assoc, ← Int.mul_assoc, Int.mul_comm (prodV a (List.map Fc.tm (List.take i ks))), Int.mul_assoc]
theorem slope_zero (a : Int) (d : Fc) (h : d.has = false) : d.slope.val a = 0 := by
  cases d <;> first | (simp [Fc.has] at h; done) | simp [Fc.slope, Tm.val]
theorem found_val (a : Int) (ks : List Fc) : ∀ n, n ≤ ks.length → sumV a (foundF ks n) = dueV a ks n
  | 0, _ => by simp [foundF, dueV, sumV]
  | n + 1, h => by
    have ih := found_val a ks n (by omega)
    obtain ⟨d, hd⟩ : ∃ d, ks[n]? = some d := ⟨ks[n]'(by omega), List.getElem?_eq_getElem (by omega)⟩
    have hs : slAt a ks n = d.slope.val a := by unfold slAt; rw [hd]
    cases hh : d.has
    · simp only [foundF, hd, hh, dueV, Bool.false_eq_true, if_false]
      rw [ih, hs, slope_zero a d hh]; simp
    · simp only [foundF, hd, hh, dueV, if_true]
      rw [sumV_app, ih, ← part_val a ks n d hd]; simp [sumV]
/-- the plain law -/
theorem plain_law (a : Int) (ks : List Fc) : (slopeTm ks).val a = dueV a ks ks.length := by
  rw [slopeTm, sumF_val, found_val a ks _ (Nat.le_refl _)]
end
section
def Fc.good : Fc → Prop
  | .num p => p = 5
  | .pw p => 2 ≤ p ∧ p ≤ 4
  | _ => True
theorem ok_mono {a : Int} : ∀ {h : Nat} {t : Tm}, Ok a h t → Ok a (h + 1) t
  | _, .num _ _, _ => by simp [Ok]
  | _, .x, _ => by simp [Ok]
  | _, .y, _ => by simp [Ok]
  | 0, .pow _ _, h => absurd h (by simp [Ok])
  | 0, .sum _, h => absurd h (by simp [Ok])
  | 0, .prod _, h => absurd h (by simp [Ok])
  | h + 1, .pow b e, o => by
    simp only [Ok] at o ⊢
    exact ⟨ok_mono o.1, ok_mono o.2.1, o.2.2⟩
  | h + 1, .sum l, o => by
    simp only [Ok] at o ⊢
    exact ⟨fun t ht => ok_mono (o.1 t ht), o.2⟩
  | h + 1, .prod l, o => by
    simp only [Ok] at o ⊢
    exact ⟨fun t ht => ⟨ok_mono (o.1 t ht).1, (o.1 t ht).2⟩, o.2⟩
theorem pow_small (a p : Int) (h1 : -10 ≤ a) (h2 : a ≤ 10) (_h3 : 0 ≤ p) (h4 : p ≤ 4) : -10000 ≤ a ^ p.toNat ∧ a ^ p.toNat ≤ 10000 := by
  have h : (a ^ p.toNat).natAbs ≤ 10000 := by
    rw [Int.natAbs_pow]
    exact Nat.le_trans (Nat.pow_le_pow_left (by omega : a.natAbs ≤ 10) _) (Nat.pow_le_pow_right (by decide) (by omega : p.toNat ≤ 4))
  generalize a ^ p.toNat = q at h
  omega
theorem mul_small (p q : Int) (h1 : 0 ≤ p) (h2 : p ≤ 4) (h3 : -10000 ≤ q) (h4 : q ≤ 10000) : -100000 ≤ p * q ∧ p * q ≤ 100000 := by
  have hp : p = 0 ∨ p = 1 ∨ p = 2 ∨ p = 3 ∨ p = 4 := by omega
  rcases hp with rfl | rfl | rfl | rfl | rfl <;> omega
theorem tm_small (a : Int) (h1 : -10 ≤ a) (h2 : a ≤ 10) (d : Fc) (hd : d.good) : Ok a 1 d.tm ∧ -100000 ≤ d.tm.val a ∧ d.tm.val a ≤ 100000 := by
  cases d with
  | x => exact ⟨by simp [Fc.tm, Ok], by simp only [Fc.tm, Tm.val]; omega, by simp only [Fc.tm, Tm.val]; omega⟩
  | y => exact ⟨by simp [Fc.tm, Ok], by simp only [Fc.tm, Tm.val]; omega, by simp only [Fc.tm, Tm.val]; omega⟩
  | num p => exact ⟨by simp [Fc.tm, Ok], by simp only [Fc.tm, Tm.val, Fc.good] at hd ⊢; omega, by simp only [Fc.tm, Tm.val, Fc.good] at hd ⊢; omega⟩
  | x1 => exact ⟨by simp [Fc.tm, Ok], by simp only [Fc.tm, Tm.val, sumV]; omega, by simp only [Fc.tm, Tm.val, sumV]; omega⟩
  | pw p =>
    simp only [Fc.good] at hd
    have := pow_small a p h1 h2 (by omega) (by omega)
    refine ⟨?_, ?_, ?_⟩
    · simp only [Fc.tm, Ok, Tm.val]; refine ⟨trivial, trivial, ?_, ?_, ?_, ?_⟩ <;> omega
    · simp only [Fc.tm, Tm.val]; omega
    · simp only [Fc.tm, Tm.val]; omega
theorem slope_small (a : Int) (h1 : -10 ≤ a) (h2 : a ≤ 10) (d : Fc) (hd : d.good) : Ok a 3 d.slope ∧ -100000 ≤ d.slope.val a ∧ d.slope.val a ≤ 100000 := by
  cases d with
  | pw p =>
    simp only [Fc.good] at hd
    have e1 : (Tm.sum [.num p 1, .num (-1) 1]).val a = p - 1 := by simp only [Tm.val, sumV]; omega
    have b := pow_small a (p - 1) h1 h2 (by omega) (by omega)
    have e2 : (Tm.pow .x (.sum [.num p 1, .num (-1) 1])).val a = a ^ (p - 1).toNat := by rw [Tm.val, e1]; rfl
    have e3 : (Fc.pw p).slope.val a = p * a ^ (p - 1).toNat := by
      simp only [Fc.slope]
      show p * ((Tm.pow .x (.sum [.num p 1, .num (-1) 1])).val a * (1 * 1)) = _
      rw [e2]; simp
    have c := mul_small p _ (by omega) (by omega) b.1 b.2
    refine ⟨?_, by rw [e3]; exact c.1, by rw [e3]; exact c.2⟩
    simp only [Fc.slope, Ok]
    refine ⟨fun t ht => ?_, by simp⟩
    rcases List.mem_cons.mp ht with rfl | ht
    · refine ⟨by simp [Ok], ?_, ?_⟩ <;> simp only [Tm.val] <;> omega
    rcases List.mem_cons.mp ht with rfl | ht
    · rw [e2]
      refine ⟨?_, by omega, by omega⟩
      simp only [Ok]
      refine ⟨trivial, ⟨fun t ht => ?_, by simp⟩, by rw [e1]; omega, by rw [e1]; omega, by simp only [Tm.val]; omega, by simp only [Tm.val]; omega⟩
      rcases List.mem_cons.mp ht with rfl | ht
      · simp [Ok]
      rcases List.mem_cons.mp ht with rfl | ht
      · simp [Ok]
      cases ht
    rcases List.mem_cons.mp ht with rfl | ht
    · refine ⟨by simp [Ok], ?_, ?_⟩ <;> simp only [Tm.val] <;> omega
    cases ht
  | x => exact ⟨by simp [Fc.slope, Ok], by simp only [Fc.slope, Tm.val]; omega, by simp only [Fc.slope, Tm.val]; omega⟩
  | x1 => exact ⟨by simp [Fc.slope, Ok], by simp only [Fc.slope, Tm.val]; omega, by simp only [Fc.slope, Tm.val]; omega⟩
  | y => exact ⟨by simp [Fc.slope, Ok], by simp only [Fc.slope, Tm.val]; omega, by simp only [Fc.slope, Tm.val]; omega⟩
  | num p => exact ⟨by simp [Fc.slope, Ok], by simp only [Fc.slope, Tm.val]; omega, by simp only [Fc.slope, Tm.val]; omega⟩
theorem ok_prodF (a : Int) : ∀ l : List Tm, (∀ t ∈ l, Ok a 3 t ∧ -(2 ^ 64) < t.val a ∧ t.val a < 2 ^ 64) → l.length ≤ 100 → Ok a 4 (prodF l)
  | [], _, _ => by simp [prodF, Ok]
  | [u], h, _ => ok_mono (h u (.head _)).1
  | u :: v :: l, h, hl => ⟨h, hl⟩
theorem ok_sumF (a : Int) : ∀ l : List Tm, (∀ t ∈ l, Ok a 4 t) → l.length ≤ 100 → Ok a 5 (sumF l)
  | [], _, _ => by simp [sumF, Ok]
  | [u], h, _ => ok_mono (h u (.head _))
  | u :: v :: l, h, hl => ⟨h, hl⟩
theorem ok_part (a : Int) (h1 : -10 ≤ a) (h2 : a ≤ 10) (ks : List Fc) (hk : ∀ d ∈ ks, d.good) (hl : ks.length ≤ 5) (i : Nat) (d : Fc) (hd : ks[i]? = some d) : Ok a 4 (partT ks i d) := by
  have hs := slope_small a h1 h2 d (hk d (List.mem_of_getElem? hd))
  have ht : ∀ e ∈ ks, Ok a 3 e.tm ∧ -(2 ^ 64) < e.tm.val a ∧ e.tm.val a < 2 ^ 64 := fun e he => by
    have := tm_small a h1 h2 e (hk e he)
    exact ⟨ok_mono (ok_mono this.1), by omega, by omega⟩
  refine ok_prodF a _ (fun t hm => ?_) (by simp; omega)
  rcases List.mem_append.mp hm with hm | hm
  · rcases List.mem_append.mp hm with hm | hm
    · obtain ⟨e, he, rfl⟩ := List.mem_map.mp hm
      exact ht e (List.mem_of_mem_take he)
    · rw [List.mem_singleton.mp hm]
      exact ⟨hs.1, by omega, by omega⟩
  · obtain ⟨e, he, rfl⟩ := List.mem_map.mp hm
    exact ht e (List.mem_of_mem_drop he)
theorem ok_found (a : Int) (h1 : -10 ≤ a) (h2 : a ≤ 10) (ks : List Fc) (hk : ∀ d ∈ ks, d.good) (hl : ks.length ≤ 5) : ∀ n, n ≤ ks.length → (∀ t ∈ foundF ks n, Ok a 4 t) ∧ (foundF ks n).length ≤ n
  | 0, _ => ⟨fun t h => (nomatch h), Nat.le_refl _⟩
  | n + 1, h => by
    have ih := ok_found a h1 h2 ks hk hl n (by omega)
    obtain ⟨d, hd⟩ : ∃ d, ks[n]? = some d := ⟨ks[n]'(by omega), List.getElem?_eq_getElem (by omega)⟩
    cases hh : d.has
    · simp only [foundF, hd, hh, Bool.false_eq_true, if_false]
      exact ⟨ih.1, by omega⟩
    · simp only [foundF, hd, hh, if_true]
      refine ⟨fun t ht => ?_, by simp; omega⟩
      rcases List.mem_append.mp ht with ht | ht
      · exact ih.1 t ht
      · rw [List.mem_singleton.mp ht]; exact ok_part a h1 h2 ks hk hl n d hd
theorem ok_slope (a : Int) (h1 : -10 ≤ a) (h2 : a ≤ 10) (ks : List Fc) (hk : ∀ d ∈ ks, d.good) (hl : ks.length ≤ 5) : Ok a 5 (slopeTm ks) :=
  ok_sumF a _ (ok_found a h1 h2 ks hk hl _ (Nat.le_refl _)).1 (Nat.le_trans (ok_found a h1 h2 ks hk hl _ (Nat.le_refl _)).2 (by omega))
end
local macro_rules | `(tactic| walk_at "mine r5") => `(tactic| ((first | refine List.mem_append_left _ ?_ | skip); repeat (first | exact List.Mem.head _ | refine List.Mem.tail _ ?_)))
local macro_rules | `(tactic| walk_at "mine r6") => `(tactic| ((with_reducible show wpAny _ _ (call (Value.ref 174) _) _ _ _); refine Hold.out ?_))
local macro_rules | `(tactic| walk_at "mine r7") => `(tactic| (k_dflt (first | exact ne_cell (by assumption) (by assumption) (by assumption) | exact ne_cell' (by assumption) (by assumption) (by assumption))))
section
/-- the codes of the five lambdas -/
def CodeOk (o : Obj) : Prop := ∃ vs t, o.data = .fields vs ∧ vs[1]? = some (S "_law_factor.<locals>.<lambda>" t)
abbrev tabC (c1 c2 c3 c4 c5 : Addr) : Array Value := #[rawInt (153 : Nat), rawInt (0 : Nat), .ref c1, rawInt (154 : Nat), rawInt (0 : Nat), .ref c2, rawInt (155 : Nat), rawInt (0 : Nat), .ref c3, rawInt (157 : Nat), rawInt (0 : Nat), .ref c4, rawInt (158 : Nat), rawInt (0 : Nat), .ref c5]
def Codes (T : Array Value) (news : Led) : Prop := ∃ c1 c2 c3 c4 c5 o1 o2 o3 o4 o5, T = tabC c1 c2 c3 c4 c5 ∧ ((c1, o1) ∈ news ∧ CodeOk o1) ∧ ((c2, o2) ∈ news ∧ CodeOk o2) ∧ ((c3, o3) ∈ news ∧ CodeOk o3) ∧ ((c4, o4) ∈ news ∧ CodeOk o4) ∧ ((c5, o5) ∈ news ∧ CodeOk o5)
theorem Codes.mono {T : Array Value} {news news' : Led} (h : Codes T news) (hs : ∀ p ∈ news, p ∈ news') : Codes T news' := by
  obtain ⟨c1, c2, c3, c4, c5, o1, o2, o3, o4, o5, e, ⟨a1, b1⟩, ⟨a2, b2⟩, ⟨a3, b3⟩, ⟨a4, b4⟩, ⟨a5, b5⟩⟩ := h
  exact ⟨c1, c2, c3, c4, c5, o1, o2, o3, o4, o5, e, ⟨hs _ a1, b1⟩, ⟨hs _ a2, b2⟩, ⟨hs _ a3, b3⟩, ⟨hs _ a4, b4⟩, ⟨hs _ a5, b5⟩⟩
/-- a slope's lambda: what its call does -/
def Lam (w : World) (news : Led) (f : Addr) (d : Fc) : Prop := (∃ oc od fd sl, (f, (⟨oc, od, .func fd, sl⟩ : Obj)) ∈ news) ∧ ∃ need : Led, (∀ p ∈ need, p ∈ news) ∧ ∀ a : Int, -10 ≤ a → a ≤ 10 →
  Con 550 500 w f (fun news vs Post => ∃ t, vs = [.int a t] ∧ (∀ p ∈ need, p ∈ news) ∧ ∀ t', Post news (.int (d.slope.val a) t'))
theorem Lam.mono {w : World} {news news' : Led} {f : Addr} {d : Fc} (h : Lam w news f d) (hs : ∀ p ∈ news, p ∈ news') : Lam w news' f d := by
  obtain ⟨⟨oc, od, fd, sl, h0⟩, need, h1, h2⟩ := h
  exact ⟨⟨oc, od, fd, sl, hs _ h0⟩, need, fun p hp => hs p (h1 p hp), h2⟩
def LPost (w : World) (box l : Addr) (ws : List Value) (kw : Nat) (c : Int) (rest keep : Led) (news' : Led) (r : Value) : Prop :=
  ∃ (fresh : Led) (T : Array Value) (tc : Tok) (pa : Addr) (v : Value) (f : Addr) (d : Fc), news' = (box, lstO [.ref l, .int (c + 1 + 1) tc]) :: (l, lstK ws kw) :: (183, tabObj T) :: (fresh ++ rest) ∧
    (∀ p ∈ fresh, @LT.lt Nat _ box p.1 ∧ @LT.lt Nat _ l p.1 ∧ @LT.lt Nat _ 183 p.1 ∧ ∀ q ∈ rest, @LT.lt Nat _ q.1 p.1) ∧ Codes T (fresh ++ keep) ∧ r = .ref pa ∧ (pa, tupO [v, .ref f]) ∈ fresh ∧ FcIn fresh v d ∧ d.good ∧ Lam w (fresh ++ keep) f d
theorem news_front {h₀ h : Heap} {L : Addr} {pre rest : Led} {b l t : Addr × Obj} (N : News h₀ L h (pre ++ b :: l :: t :: rest)) : News h₀ L h (b :: l :: t :: (pre ++ rest)) := news_sub N fun p hp => by
  rcases List.mem_cons.mp hp with rfl | hp
  · exact List.mem_append_right _ (.head _)
  rcases List.mem_cons.mp hp with rfl | hp
  · exact List.mem_append_right _ (.tail _ (.head _))
  rcases List.mem_cons.mp hp with rfl | hp
  · exact List.mem_append_right _ (.tail _ (.tail _ (.head _)))
  rcases List.mem_append.mp hp with hp | hp
  · exact List.mem_append_left _ hp
  · exact List.mem_append_right _ (.tail _ (.tail _ (.tail _ hp)))
theorem sl_x (a : Int) : (Fc.x).slope.val a = 1 := by simp [Fc.slope, Tm.val]
theorem sl_x1 (a : Int) : (Fc.x1).slope.val a = 1 := by simp [Fc.slope, Tm.val]
theorem sl_num (a p : Int) : (Fc.num p).slope.val a = 0 := by simp [Fc.slope, Tm.val]
theorem sl_y (a : Int) : (Fc.y).slope.val a = 0 := by simp [Fc.slope, Tm.val]
theorem sl_pw (a p : Int) : (Fc.pw p).slope.val a = p * a ^ (p - 1).toNat := by
  simp only [Fc.slope, Tm.val, prodV, sumV, Int.mul_one, Int.add_zero]
  rfl
theorem codeOk_mk {o : Obj} {vs : Array Value} {t : Tok} {qual : Str} (h1 : o.data = .fields vs) (h2 : vs[1]? = some (.str qual t)) (h3 : qual = Str.ofString "_law_factor.<locals>.<lambda>") : CodeOk o := ⟨vs, t, h1, by rw [h2, h3]⟩
theorem lam_two {w : World} {news : Led} {f c' : Addr} {d : Fc} {oc : Obj} {name qual : Str} {params : Arguments} {body : Expr} {scope : Scope} {clos : List (Str × Addr)} {pm ctv : Value} (h1 : (f, kla_obj name qual params body scope clos pm c' ctv) ∈ news) (h2 : (c', oc) ∈ news)
    (k : ∀ a : Int, -10 ≤ a → a ≤ 10 → Con 550 500 w f (fun n' vs Post => ∃ t, vs = [.int a t] ∧ (∀ p ∈ [(f, kla_obj name qual params body scope clos pm c' ctv), (c', oc)], p ∈ n') ∧ ∀ t', Post n' (.int (d.slope.val a) t'))) : Lam w news f d :=
  ⟨⟨_, _, _, _, h1⟩, [(f, kla_obj name qual params body scope clos pm c' ctv), (c', oc)], List.forall_mem_cons.mpr ⟨h1, List.forall_mem_cons.mpr ⟨h2, fun _ hp => nomatch hp⟩⟩, k⟩
theorem lam_three {w : World} {news : Led} {f c' ce : Addr} {d : Fc} {oc o3 : Obj} {name qual x : Str} {params : Arguments} {body : Expr} {scope : Scope} {pm ctv : Value} (h1 : (f, kla_obj name qual params body scope [(x, ce)] pm c' ctv) ∈ news) (h2 : (c', oc) ∈ news) (h3 : (ce, o3) ∈ news)
    (k : ∀ a : Int, -10 ≤ a → a ≤ 10 → Con 550 500 w f (fun n' vs Post => ∃ t, vs = [.int a t] ∧ (∀ p ∈ [(f, kla_obj name qual params body scope [(x, ce)] pm c' ctv), (c', oc), (ce, o3)], p ∈ n') ∧ ∀ t', Post n' (.int (d.slope.val a) t'))) : Lam w news f d :=
  ⟨⟨_, _, _, _, h1⟩, [(f, kla_obj name qual params body scope [(x, ce)] pm c' ctv), (c', oc), (ce, o3)], List.forall_mem_cons.mpr ⟨h1, List.forall_mem_cons.mpr ⟨h2, List.forall_mem_cons.mpr ⟨h3, fun _ hp => nomatch hp⟩⟩⟩, k⟩
section
local macro_rules | `(tactic| k_all) => `(tactic| assumption)
local macro_rules | `(tactic| k_mem) => `(tactic| assumption)
local macro_rules | `(tactic| x_close) => `(tactic| walk_at "mine r5")
local macro_rules | `(tactic| walk_at "call ref") => `(tactic| walk_at "mine r6")
local macro_rules | `(tactic| k_lt $h:ident) => `(tactic| k_dflt (replace $h := lt_cell (by assumption) $h (by repeat (first | exact List.Mem.head _ | refine List.Mem.tail _ ?_))))
local macro_rules | `(tactic| k_ne) => `(tactic| walk_at "mine r7")
theorem lf_first {w : World} : Con 640 1400 w 188 (fun news vs Post => ∃ (box l : Addr) (c : Int) (tc : Tok) (ws : List Value) (kw : Nat) (ns : List Int) (rest keep : Led),
    news = (box, lstO [.ref l, .int c tc]) :: (l, lstK ws kw) :: (183, tabObj #[]) :: rest ∧ @Ne Nat box l ∧ @Ne Nat box 183 ∧ @Ne Nat l 183 ∧ (∀ p ∈ rest, p.1 ≠ box) ∧ (∀ p ∈ rest, @Ne Nat p.1 183) ∧ IntsAre ws ns ∧ ns.length < 2 ^ 20 ∧ 0 ≤ c ∧ c < 990 ∧ vs = [.ref box] ∧
    ∀ news' r, LPost w box l ws kw c rest keep news' r → Post news' r) := by
  unfold Con; k_fill
  intro loose mean mg mb cn cs a ccd cl outer A₀ base h₀ L m news s vs Q E Post B F X N T hk hR hret
  obtain ⟨box, l, c, tc, ws, kw, ns, rest, keep, rfl, hbl, hb3, hl3, hbr, hr3, hI, hn, h0, h1, rfl, hP⟩ := hR
  obtain ⟨ck, c1, c2, c3, c4⟩ := cs
  obtain rfl : ck = ScopeKind.function := hk
  obtain ⟨hc1, hc2⟩ := c_next h0 h1
  refine wpAny_call ?_
  k_dflt k_enter
  k_steps
  refine Hold.mk ?_
  k_dflt (refine' take_useP [_] (box := box) (l := l) (c := c) (ws := ws) (kw := kw) (ns := ns) ?B ?F ?X ?N ?T ?he ?hk ?a1 ?a2 ?a3 ?a4 hbl ?hpr ?hbr hI hn h0 (by omega) (by omega) (by omega) ?_; (case a4 => exact rfl); (case B => k_asm); (case F => k_asm); (case X => k_asm); (case N => k_asm); (case T => k_asm); (case he => exact rfl); (case hk => exact rfl); (case a1 => exact rfl); (case a2 => exact Nat.le_of_ble_eq_true rfl); (case a3 => exact Nat.le_of_ble_eq_true rfl))
  case hpr => intro p hp; rw [List.mem_singleton.mp hp]; have := (by assumption : @LT.lt Nat _ box _ ∧ _).1; show @Ne Nat _ _; dsimp only; omega
  case hbr => intro p hp; rcases List.mem_cons.mp hp with rfl | hp; exact Ne.symm hb3; exact hbr p hp
  intro r1 t1 tc1 h4 tk4 q1 q2 F4 N4
  replace N4 : News _ _ _ (_ :: (box, lstO [.ref l, .int (c + 1) tc1]) :: (l, lstK ws kw) :: (183, tabObj #[]) :: rest) := N4
  have hlow := ktn_ltOf (by assumption : AllLt _ ((box, lstO [.ref l, .int c tc]) :: (l, lstK ws kw) :: (183, tabObj #[]) :: rest))
  have hcell := fun (p : Addr × Obj) (hp : p ∈ (box, lstO [.ref l, .int (c + 1) tc1]) :: (l, lstK ws kw) :: (183, tabObj #[]) :: rest) => Nat.ne_of_lt (Nat.lt_succ_of_lt (show @LT.lt Nat _ p.1 _ from by
    rcases List.mem_cons.mp hp with rfl | hp
    · exact hlow (box, lstO [.ref l, .int c tc]) (.head _)
    · exact hlow p (.tail _ hp)))
  have hc3 := hcell (183, tabObj #[]) (.tail _ (.tail _ (.head _)))
  have hc4 := hcell (box, lstO [.ref l, .int (c + 1) tc1]) (.head _)
  have hc5 := hcell (l, lstK ws kw) (.tail _ (.head _))
  dsimp only at hc3 hc4 hc5
  have hKK := kk_of hcell
  have hk3 : @LT.lt Nat _ 183 _ := low_cell hlow (183, tabObj #[]) (.tail _ (.tail _ (.head _)))
  have hCH := codeHd (by assumption : (hd.heap_1 w.params).In _)
  k_steps
  refine Hold.mk ?_
  k_dflt (refine' take_useQ [_, _, _, _, _, _, _, _, _, _, _, _, _, _, _, _, _, _, _, _, _, _, _, _, _, _] (box := box) (l := l) (c := c + 1) (ws := ws) (kw := kw) (ns := ns) ?B ?F ?X ?N ?T ?he ?hk ?a1 ?a2 ?a3 ?a4 hbl ?hbK ?hge ?hbr hI hn hc1 hc2 (by decide) (by decide) ?_; (case a4 => exact rfl); (case B => k_asm); (case F => k_asm); (case X => k_asm); (case N => k_asm); (case T => k_asm); (case he => exact rfl); (case hk => exact rfl); (case a1 => exact rfl); (case a2 => exact Nat.le_of_ble_eq_true rfl); (case a3 => exact Nat.le_of_ble_eq_true rfl))
  case hbK => exact hlow (box, lstO [.ref l, .int c tc]) (.head _)
  case hge =>
    repeat (refine List.forall_mem_cons.mpr ⟨(by show @LE.le Nat _ _ _; dsimp only; omega), ?_⟩)
    exact List.forall_mem_nil _
  case hbr => intro p hp; rcases List.mem_cons.mp hp with rfl | hp; exact Ne.symm hb3; exact hbr p hp
  intro hge r2 t2 tc2 h5 tk5 q3 q4 F5 N5
  have hr2 := five q3 q4
  rcases hr2 with rfl | rfl | rfl | rfl | rfl
  all_goals k_steps
  · refine hret _ _ _ _ (by k_asm) (news_front (by k_asm)) (hP _ _ ⟨_, _, _, _, _, _, .x, rfl, ?fr, ?cds, rfl, by x_close, ?fc, ?good, ?lam⟩)
    case fr => exact fr_of hge (hlow (box, lstO [.ref l, .int c tc]) (.head _)) (hlow (l, lstK ws kw) (.tail _ (.head _))) (hlow (183, _) (.tail _ (.tail _ (.head _)))) (fun q hq => hlow q (.tail _ (.tail _ (.tail _ hq))))
    case cds => exact ⟨_, _, _, _, _, _, _, _, _, _, (by simp only [List.append_toArray, List.cons_append, List.nil_append]; rfl), ⟨by x_close, codeOk_mk (by assumption) (by assumption) (by with_unfolding_all rfl)⟩, ⟨by x_close, codeOk_mk (by assumption) (by assumption) (by with_unfolding_all rfl)⟩, ⟨by x_close, codeOk_mk (by assumption) (by assumption) (by with_unfolding_all rfl)⟩, ⟨by x_close, codeOk_mk (by assumption) (by assumption) (by with_unfolding_all rfl)⟩, ⟨by x_close, codeOk_mk (by assumption) (by assumption) (by with_unfolding_all rfl)⟩⟩
    case fc => exact .x
    case good => first | trivial | rfl | (constructor <;> omega)
    case lam =>
      refine lam_two (by x_close) (by x_close) ?_
      intro a ha1 ha2
      unfold Con; k_fill
      intro loose2 mean2 mg2 mb2 cn2 cs2 a2 ccd2 cl2 outer2 A2 base2 h2 L2 m2 news2 s2 vs2 Q2 E2 Post2 B2 F2 X2 N2 T2 hk2 hR2 hret2
      obtain ⟨t2, rfl, hn2, hP2⟩ := hR2
      obtain ⟨ck2, k1, k2, k3, k4⟩ := cs2
      obtain rfl : ck2 = ScopeKind.function := hk2
      have e1 := hn2 _ (.head _)
      have e2 := hn2 _ (.tail _ (.head _))
      refine wpAny_call ?_
      k_dflt kla_enter
      k_steps
      exact hret2 _ news2 _ _ (by k_asm) (by k_asm) (by have q := hP2; rw [sl_x] at q; exact q _)
  · refine hret _ _ _ _ (by k_asm) (news_front (by k_asm)) (hP _ _ ⟨_, _, _, _, _, _, .x1, rfl, ?fr, ?cds, rfl, by x_close, ?fc, ?good, ?lam⟩)
    case fr => exact fr_of hge (hlow (box, lstO [.ref l, .int c tc]) (.head _)) (hlow (l, lstK ws kw) (.tail _ (.head _))) (hlow (183, _) (.tail _ (.tail _ (.head _)))) (fun q hq => hlow q (.tail _ (.tail _ (.tail _ hq))))
    case cds => exact ⟨_, _, _, _, _, _, _, _, _, _, (by simp only [List.append_toArray, List.cons_append, List.nil_append]; rfl), ⟨by x_close, codeOk_mk (by assumption) (by assumption) (by with_unfolding_all rfl)⟩, ⟨by x_close, codeOk_mk (by assumption) (by assumption) (by with_unfolding_all rfl)⟩, ⟨by x_close, codeOk_mk (by assumption) (by assumption) (by with_unfolding_all rfl)⟩, ⟨by x_close, codeOk_mk (by assumption) (by assumption) (by with_unfolding_all rfl)⟩, ⟨by x_close, codeOk_mk (by assumption) (by assumption) (by with_unfolding_all rfl)⟩⟩
    case fc => exact .x1 (by x_close) (by x_close) (by x_close)
    case good => first | trivial | rfl | (constructor <;> omega)
    case lam =>
      refine lam_two (by x_close) (by x_close) ?_
      intro a ha1 ha2
      unfold Con; k_fill
      intro loose2 mean2 mg2 mb2 cn2 cs2 a2 ccd2 cl2 outer2 A2 base2 h2 L2 m2 news2 s2 vs2 Q2 E2 Post2 B2 F2 X2 N2 T2 hk2 hR2 hret2
      obtain ⟨t2, rfl, hn2, hP2⟩ := hR2
      obtain ⟨ck2, k1, k2, k3, k4⟩ := cs2
      obtain rfl : ck2 = ScopeKind.function := hk2
      have e1 := hn2 _ (.head _)
      have e2 := hn2 _ (.tail _ (.head _))
      refine wpAny_call ?_
      k_dflt kla_enter
      k_steps
      exact hret2 _ news2 _ _ (by k_asm) (by k_asm) (by have q := hP2; rw [sl_x1] at q; exact q _)
  · refine hret _ _ _ _ (by k_asm) (news_front (by k_asm)) (hP _ _ ⟨_, _, _, _, _, _, .num 5, rfl, ?fr, ?cds, rfl, by x_close, ?fc, ?good, ?lam⟩)
    case fr => exact fr_of hge (hlow (box, lstO [.ref l, .int c tc]) (.head _)) (hlow (l, lstK ws kw) (.tail _ (.head _))) (hlow (183, _) (.tail _ (.tail _ (.head _)))) (fun q hq => hlow q (.tail _ (.tail _ (.tail _ hq))))
    case cds => exact ⟨_, _, _, _, _, _, _, _, _, _, (by simp only [List.append_toArray, List.cons_append, List.nil_append]; rfl), ⟨by x_close, codeOk_mk (by assumption) (by assumption) (by with_unfolding_all rfl)⟩, ⟨by x_close, codeOk_mk (by assumption) (by assumption) (by with_unfolding_all rfl)⟩, ⟨by x_close, codeOk_mk (by assumption) (by assumption) (by with_unfolding_all rfl)⟩, ⟨by x_close, codeOk_mk (by assumption) (by assumption) (by with_unfolding_all rfl)⟩, ⟨by x_close, codeOk_mk (by assumption) (by assumption) (by with_unfolding_all rfl)⟩⟩
    case fc => exact .num (by x_close)
    case good => first | trivial | rfl | (constructor <;> omega)
    case lam =>
      refine lam_two (by x_close) (by x_close) ?_
      intro a ha1 ha2
      unfold Con; k_fill
      intro loose2 mean2 mg2 mb2 cn2 cs2 a2 ccd2 cl2 outer2 A2 base2 h2 L2 m2 news2 s2 vs2 Q2 E2 Post2 B2 F2 X2 N2 T2 hk2 hR2 hret2
      obtain ⟨t2, rfl, hn2, hP2⟩ := hR2
      obtain ⟨ck2, k1, k2, k3, k4⟩ := cs2
      obtain rfl : ck2 = ScopeKind.function := hk2
      have e1 := hn2 _ (.head _)
      have e2 := hn2 _ (.tail _ (.head _))
      refine wpAny_call ?_
      k_dflt kla_enter
      k_steps
      exact hret2 _ news2 _ _ (by k_asm) (by k_asm) (by have q := hP2; rw [sl_num] at q; exact q _)
  · refine hret _ _ _ _ (by k_asm) (news_front (by k_asm)) (hP _ _ ⟨_, _, _, _, _, _, .y, rfl, ?fr, ?cds, rfl, by x_close, ?fc, ?good, ?lam⟩)
    case fr => exact fr_of hge (hlow (box, lstO [.ref l, .int c tc]) (.head _)) (hlow (l, lstK ws kw) (.tail _ (.head _))) (hlow (183, _) (.tail _ (.tail _ (.head _)))) (fun q hq => hlow q (.tail _ (.tail _ (.tail _ hq))))
    case cds => exact ⟨_, _, _, _, _, _, _, _, _, _, (by simp only [List.append_toArray, List.cons_append, List.nil_append]; rfl), ⟨by x_close, codeOk_mk (by assumption) (by assumption) (by with_unfolding_all rfl)⟩, ⟨by x_close, codeOk_mk (by assumption) (by assumption) (by with_unfolding_all rfl)⟩, ⟨by x_close, codeOk_mk (by assumption) (by assumption) (by with_unfolding_all rfl)⟩, ⟨by x_close, codeOk_mk (by assumption) (by assumption) (by with_unfolding_all rfl)⟩, ⟨by x_close, codeOk_mk (by assumption) (by assumption) (by with_unfolding_all rfl)⟩⟩
    case fc => exact .y (by x_close)
    case good => first | trivial | rfl | (constructor <;> omega)
    case lam =>
      refine lam_two (by x_close) (by x_close) ?_
      intro a ha1 ha2
      unfold Con; k_fill
      intro loose2 mean2 mg2 mb2 cn2 cs2 a2 ccd2 cl2 outer2 A2 base2 h2 L2 m2 news2 s2 vs2 Q2 E2 Post2 B2 F2 X2 N2 T2 hk2 hR2 hret2
      obtain ⟨t2, rfl, hn2, hP2⟩ := hR2
      obtain ⟨ck2, k1, k2, k3, k4⟩ := cs2
      obtain rfl : ck2 = ScopeKind.function := hk2
      have e1 := hn2 _ (.head _)
      have e2 := hn2 _ (.tail _ (.head _))
      refine wpAny_call ?_
      k_dflt kla_enter
      k_steps
      exact hret2 _ news2 _ _ (by k_asm) (by k_asm) (by have q := hP2; rw [sl_y] at q; exact q _)
  · refine hret _ _ _ _ (by k_asm) (news_front (by k_asm)) (hP _ _ ⟨_, _, _, _, _, _, .pw (2 + r1), rfl, ?fr, ?cds, rfl, by x_close, ?fc, ?good, ?lam⟩)
    case fr => exact fr_of hge (hlow (box, lstO [.ref l, .int c tc]) (.head _)) (hlow (l, lstK ws kw) (.tail _ (.head _))) (hlow (183, _) (.tail _ (.tail _ (.head _)))) (fun q hq => hlow q (.tail _ (.tail _ (.tail _ hq))))
    case cds => exact ⟨_, _, _, _, _, _, _, _, _, _, (by simp only [List.append_toArray, List.cons_append, List.nil_append]; rfl), ⟨by x_close, codeOk_mk (by assumption) (by assumption) (by with_unfolding_all rfl)⟩, ⟨by x_close, codeOk_mk (by assumption) (by assumption) (by with_unfolding_all rfl)⟩, ⟨by x_close, codeOk_mk (by assumption) (by assumption) (by with_unfolding_all rfl)⟩, ⟨by x_close, codeOk_mk (by assumption) (by assumption) (by with_unfolding_all rfl)⟩, ⟨by x_close, codeOk_mk (by assumption) (by assumption) (by with_unfolding_all rfl)⟩⟩
    case fc => exact .pw (by x_close) (by x_close)
    case good => first | trivial | rfl | (constructor <;> omega)
    case lam =>
      refine lam_three (by x_close) (by x_close) (by x_close) ?_
      intro a ha1 ha2
      unfold Con; k_fill
      intro loose2 mean2 mg2 mb2 cn2 cs2 a2 ccd2 cl2 outer2 A2 base2 h2 L2 m2 news2 s2 vs2 Q2 E2 Post2 B2 F2 X2 N2 T2 hk2 hR2 hret2
      obtain ⟨t2, rfl, hn2, hP2⟩ := hR2
      obtain ⟨ck2, k1, k2, k3, k4⟩ := cs2
      obtain rfl : ck2 = ScopeKind.function := hk2
      have e1 := hn2 _ (.head _)
      have e2 := hn2 _ (.tail _ (.head _))
      have e3 := hn2 _ (.tail _ (.tail _ (.head _)))
      have hq := pow_small a (2 + r1 - 1) ha1 ha2 (by omega) (by omega)
      have hbits := intBits_le_64 (k := a ^ (2 + r1 - 1).toNat) (by omega) (by omega)
      refine wpAny_call ?_
      k_dflt kla_enter
      k_steps
      exact hret2 _ news2 _ _ (by k_asm) (by k_asm) (by have q := hP2; rw [sl_pw] at q; exact q _)
end
end
section
theorem lam_twoN {w : World} {news : Led} {f c' : Addr} {d : Fc} {oc : Obj} {name qual : Str} {params : Arguments} {body : Expr} {scope : Scope} {clos : List (Str × Addr)} {pm ctv : Value} (h1 : (f, kla_obj name qual params body scope clos pm c' ctv) ∈ news) (h2 : (c', oc) ∈ news) (ho : CodeOk oc) (hq : qual = Str.ofString "_law_factor.<locals>.<lambda>")
    (k : ∀ vs t, oc.data = .fields vs → vs[1]? = some (.str qual t) → ∀ a : Int, -10 ≤ a → a ≤ 10 → Con 550 500 w f (fun n' vs Post => ∃ t, vs = [.int a t] ∧ (∀ p ∈ [(f, kla_obj name qual params body scope clos pm c' ctv), (c', oc)], p ∈ n') ∧ ∀ t', Post n' (.int (d.slope.val a) t'))) : Lam w news f d := by
  obtain ⟨vs, t, e1, e2⟩ := ho
  exact lam_two h1 h2 (k vs t e1 (by rw [hq]; exact e2))
theorem lam_threeN {w : World} {news : Led} {f c' ce : Addr} {d : Fc} {oc o3 : Obj} {name qual x : Str} {params : Arguments} {body : Expr} {scope : Scope} {pm ctv : Value} (h1 : (f, kla_obj name qual params body scope [(x, ce)] pm c' ctv) ∈ news) (h2 : (c', oc) ∈ news) (h3 : (ce, o3) ∈ news) (ho : CodeOk oc) (hq : qual = Str.ofString "_law_factor.<locals>.<lambda>")
    (k : ∀ vs t, oc.data = .fields vs → vs[1]? = some (.str qual t) → ∀ a : Int, -10 ≤ a → a ≤ 10 → Con 550 500 w f (fun n' vs Post => ∃ t, vs = [.int a t] ∧ (∀ p ∈ [(f, kla_obj name qual params body scope [(x, ce)] pm c' ctv), (c', oc), (ce, o3)], p ∈ n') ∧ ∀ t', Post n' (.int (d.slope.val a) t'))) : Lam w news f d := by
  obtain ⟨vs, t, e1, e2⟩ := ho
  exact lam_three h1 h2 h3 (k vs t e1 (by rw [hq]; exact e2))
section
local macro_rules | `(tactic| k_all) => `(tactic| assumption)
local macro_rules | `(tactic| k_mem) => `(tactic| assumption)
local macro_rules | `(tactic| x_close) => `(tactic| walk_at "mine r5")
local macro_rules | `(tactic| walk_at "call ref") => `(tactic| walk_at "mine r6")
local macro_rules | `(tactic| k_lt $h:ident) => `(tactic| k_dflt (replace $h := lt_cell (by assumption) $h (by repeat (first | exact List.Mem.head _ | refine List.Mem.tail _ ?_))))
local macro_rules | `(tactic| k_ne) => `(tactic| walk_at "mine r7")
theorem lf_next {w : World} : Con 640 1400 w 188 (fun news vs Post => ∃ (box l : Addr) (c : Int) (tc : Tok) (ws : List Value) (kw : Nat) (ns : List Int) (rest keep : Led) (T₀ : Array Value),
    news = (box, lstO [.ref l, .int c tc]) :: (l, lstK ws kw) :: (183, tabObj T₀) :: rest ∧ Codes T₀ keep ∧ @Ne Nat box l ∧ @Ne Nat box 183 ∧ @Ne Nat l 183 ∧ (∀ p ∈ rest, p.1 ≠ box) ∧ (∀ p ∈ rest, @Ne Nat p.1 183) ∧ IntsAre ws ns ∧ ns.length < 2 ^ 20 ∧ 0 ≤ c ∧ c < 990 ∧ vs = [.ref box] ∧
    ∀ news' r, LPost w box l ws kw c rest keep news' r → Post news' r) := by
  unfold Con; k_fill
  intro loose mean mg mb cn cs a ccd cl outer A₀ base h₀ L m news s vs Q E Post B F X N T hk hR hret
  obtain ⟨box, l, c, tc, ws, kw, ns, rest, keep, T₀, rfl, hCo, hbl, hb3, hl3, hbr, hr3, hI, hn, h0, h1, rfl, hP⟩ := hR
  have hCo2 := hCo
  obtain ⟨c1, c2, c3, c4, c5, o1, o2, o3, o4, o5, rfl, ⟨a1, b1⟩, ⟨a2, b2⟩, ⟨a3, b3⟩, ⟨a4, b4⟩, ⟨a5, b5⟩⟩ := hCo
  obtain ⟨ck, d1, d2, d3, d4⟩ := cs
  obtain rfl : ck = ScopeKind.function := hk
  obtain ⟨hc1, hc2⟩ := c_next h0 h1
  refine wpAny_call ?_
  k_dflt k_enter
  k_steps
  refine Hold.mk ?_
  k_dflt (refine' take_useP [_] (box := box) (l := l) (c := c) (ws := ws) (kw := kw) (ns := ns) ?B ?F ?X ?N ?T ?he ?hk ?a1 ?a2 ?a3 ?a4 hbl ?hpr ?hbr hI hn h0 (by omega) (by omega) (by omega) ?_; (case a4 => exact rfl); (case B => k_asm); (case F => k_asm); (case X => k_asm); (case N => k_asm); (case T => k_asm); (case he => exact rfl); (case hk => exact rfl); (case a1 => exact rfl); (case a2 => exact Nat.le_of_ble_eq_true rfl); (case a3 => exact Nat.le_of_ble_eq_true rfl))
  case hpr => intro p hp; rw [List.mem_singleton.mp hp]; have := (by assumption : @LT.lt Nat _ box _ ∧ _).1; show @Ne Nat _ _; dsimp only; omega
  case hbr => intro p hp; rcases List.mem_cons.mp hp with rfl | hp; exact Ne.symm hb3; exact hbr p hp
  intro r1 t1 tc1 h4 tk4 q1 q2 F4 N4
  replace N4 : News _ _ _ (_ :: (box, lstO [.ref l, .int (c + 1) tc1]) :: (l, lstK ws kw) :: (183, tabObj (tabC c1 c2 c3 c4 c5)) :: rest) := N4
  have hlow := ktn_ltOf (by assumption : AllLt _ ((box, lstO [.ref l, .int c tc]) :: (l, lstK ws kw) :: (183, tabObj (tabC c1 c2 c3 c4 c5)) :: rest))
  have hcell := fun (p : Addr × Obj) (hp : p ∈ (box, lstO [.ref l, .int (c + 1) tc1]) :: (l, lstK ws kw) :: (183, tabObj (tabC c1 c2 c3 c4 c5)) :: rest) => Nat.ne_of_lt (Nat.lt_succ_of_lt (show @LT.lt Nat _ p.1 _ from by
    rcases List.mem_cons.mp hp with rfl | hp
    · exact hlow (box, lstO [.ref l, .int c tc]) (.head _)
    · exact hlow p (.tail _ hp)))
  have hc3 := hcell (183, tabObj (tabC c1 c2 c3 c4 c5)) (.tail _ (.tail _ (.head _)))
  have hc4 := hcell (box, lstO [.ref l, .int (c + 1) tc1]) (.head _)
  have hc5 := hcell (l, lstK ws kw) (.tail _ (.head _))
  dsimp only at hc3 hc4 hc5
  have hKK := kk_of hcell
  have hk3 : @LT.lt Nat _ 183 _ := low_cell hlow (183, tabObj (tabC c1 c2 c3 c4 c5)) (.tail _ (.tail _ (.head _)))
  have hCH := codeHd (by assumption : (hd.heap_1 w.params).In _)
  k_steps
  refine Hold.mk ?_
  k_dflt (refine' take_useQ [_, _, _, _, _, _, _, _, _, _, _, _, _, _, _, _, _, _, _, _, _] (box := box) (l := l) (c := c + 1) (ws := ws) (kw := kw) (ns := ns) ?B ?F ?X ?N ?T ?he ?hk ?a1 ?a2 ?a3 ?a4 hbl ?hbK ?hge ?hbr hI hn hc1 hc2 (by decide) (by decide) ?_; (case a4 => exact rfl); (case B => k_asm); (case F => k_asm); (case X => k_asm); (case N => k_asm); (case T => k_asm); (case he => exact rfl); (case hk => exact rfl); (case a1 => exact rfl); (case a2 => exact Nat.le_of_ble_eq_true rfl); (case a3 => exact Nat.le_of_ble_eq_true rfl))
  case hbK => exact hlow (box, lstO [.ref l, .int c tc]) (.head _)
  case hge =>
    repeat (refine List.forall_mem_cons.mpr ⟨(by show @LE.le Nat _ _ _; dsimp only; omega), ?_⟩)
    exact List.forall_mem_nil _
  case hbr => intro p hp; rcases List.mem_cons.mp hp with rfl | hp; exact Ne.symm hb3; exact hbr p hp
  intro hge r2 t2 tc2 h5 tk5 q3 q4 F5 N5
  have hr2 := five q3 q4
  rcases hr2 with rfl | rfl | rfl | rfl | rfl
  all_goals k_steps
  · refine hret _ _ _ _ (by k_asm) (news_front (by k_asm)) (hP _ _ ⟨_, _, _, _, _, _, .x, rfl, ?fr, ?cds, rfl, by x_close, ?fc, ?good, ?lam⟩)
    case fr => exact fr_of hge (hlow (box, lstO [.ref l, .int c tc]) (.head _)) (hlow (l, lstK ws kw) (.tail _ (.head _))) (hlow (183, _) (.tail _ (.tail _ (.head _)))) (fun q hq => hlow q (.tail _ (.tail _ (.tail _ hq))))
    case cds => exact hCo2.mono fun p hp => List.mem_append_right _ hp
    case fc => exact .x
    case good => first | trivial | rfl | (constructor <;> omega)
    case lam =>
      refine lam_twoN (by x_close) (List.mem_append_right _ (by assumption)) (by assumption) (by with_unfolding_all rfl) ?_
      intro vsN tN hdN hvN a ha1 ha2
      unfold Con; k_fill
      intro loose2 mean2 mg2 mb2 cn2 cs2 a2 ccd2 cl2 outer2 A2 base2 h2 L2 m2 news2 s2 vs2 Q2 E2 Post2 B2 F2 X2 N2 T2 hk2 hR2 hret2
      obtain ⟨t2, rfl, hn2, hP2⟩ := hR2
      obtain ⟨ck2, k1, k2, k3, k4⟩ := cs2
      obtain rfl : ck2 = ScopeKind.function := hk2
      have e1 := hn2 _ (.head _)
      have e2 := hn2 _ (.tail _ (.head _))
      refine wpAny_call ?_
      k_dflt kla_enter
      k_steps
      exact hret2 _ news2 _ _ (by k_asm) (by k_asm) (by have q := hP2; rw [sl_x] at q; exact q _)
  · refine hret _ _ _ _ (by k_asm) (news_front (by k_asm)) (hP _ _ ⟨_, _, _, _, _, _, .x1, rfl, ?fr, ?cds, rfl, by x_close, ?fc, ?good, ?lam⟩)
    case fr => exact fr_of hge (hlow (box, lstO [.ref l, .int c tc]) (.head _)) (hlow (l, lstK ws kw) (.tail _ (.head _))) (hlow (183, _) (.tail _ (.tail _ (.head _)))) (fun q hq => hlow q (.tail _ (.tail _ (.tail _ hq))))
    case cds => exact hCo2.mono fun p hp => List.mem_append_right _ hp
    case fc => exact .x1 (by x_close) (by x_close) (by x_close)
    case good => first | trivial | rfl | (constructor <;> omega)
    case lam =>
      refine lam_twoN (by x_close) (List.mem_append_right _ (by assumption)) (by assumption) (by with_unfolding_all rfl) ?_
      intro vsN tN hdN hvN a ha1 ha2
      unfold Con; k_fill
      intro loose2 mean2 mg2 mb2 cn2 cs2 a2 ccd2 cl2 outer2 A2 base2 h2 L2 m2 news2 s2 vs2 Q2 E2 Post2 B2 F2 X2 N2 T2 hk2 hR2 hret2
      obtain ⟨t2, rfl, hn2, hP2⟩ := hR2
      obtain ⟨ck2, k1, k2, k3, k4⟩ := cs2
      obtain rfl : ck2 = ScopeKind.function := hk2
      have e1 := hn2 _ (.head _)
      have e2 := hn2 _ (.tail _ (.head _))
      refine wpAny_call ?_
      k_dflt kla_enter
      k_steps
      exact hret2 _ news2 _ _ (by k_asm) (by k_asm) (by have q := hP2; rw [sl_x1] at q; exact q _)
  · refine hret _ _ _ _ (by k_asm) (news_front (by k_asm)) (hP _ _ ⟨_, _, _, _, _, _, .num 5, rfl, ?fr, ?cds, rfl, by x_close, ?fc, ?good, ?lam⟩)
    case fr => exact fr_of hge (hlow (box, lstO [.ref l, .int c tc]) (.head _)) (hlow (l, lstK ws kw) (.tail _ (.head _))) (hlow (183, _) (.tail _ (.tail _ (.head _)))) (fun q hq => hlow q (.tail _ (.tail _ (.tail _ hq))))
    case cds => exact hCo2.mono fun p hp => List.mem_append_right _ hp
    case fc => exact .num (by x_close)
    case good => first | trivial | rfl | (constructor <;> omega)
    case lam =>
      refine lam_twoN (by x_close) (List.mem_append_right _ (by assumption)) (by assumption) (by with_unfolding_all rfl) ?_
      intro vsN tN hdN hvN a ha1 ha2
      unfold Con; k_fill
      intro loose2 mean2 mg2 mb2 cn2 cs2 a2 ccd2 cl2 outer2 A2 base2 h2 L2 m2 news2 s2 vs2 Q2 E2 Post2 B2 F2 X2 N2 T2 hk2 hR2 hret2
      obtain ⟨t2, rfl, hn2, hP2⟩ := hR2
      obtain ⟨ck2, k1, k2, k3, k4⟩ := cs2
      obtain rfl : ck2 = ScopeKind.function := hk2
      have e1 := hn2 _ (.head _)
      have e2 := hn2 _ (.tail _ (.head _))
      refine wpAny_call ?_
      k_dflt kla_enter
      k_steps
      exact hret2 _ news2 _ _ (by k_asm) (by k_asm) (by have q := hP2; rw [sl_num] at q; exact q _)
  · refine hret _ _ _ _ (by k_asm) (news_front (by k_asm)) (hP _ _ ⟨_, _, _, _, _, _, .y, rfl, ?fr, ?cds, rfl, by x_close, ?fc, ?good, ?lam⟩)
    case fr => exact fr_of hge (hlow (box, lstO [.ref l, .int c tc]) (.head _)) (hlow (l, lstK ws kw) (.tail _ (.head _))) (hlow (183, _) (.tail _ (.tail _ (.head _)))) (fun q hq => hlow q (.tail _ (.tail _ (.tail _ hq))))
    case cds => exact hCo2.mono fun p hp => List.mem_append_right _ hp
    case fc => exact .y (by x_close)
    case good => first | trivial | rfl | (constructor <;> omega)
    case lam =>
      refine lam_twoN (by x_close) (List.mem_append_right _ (by assumption)) (by assumption) (by with_unfolding_all rfl) ?_
      intro vsN tN hdN hvN a ha1 ha2
      unfold Con; k_fill
      intro loose2 mean2 mg2 mb2 cn2 cs2 a2 ccd2 cl2 outer2 A2 base2 h2 L2 m2 news2 s2 vs2 Q2 E2 Post2 B2 F2 X2 N2 T2 hk2 hR2 hret2
      obtain ⟨t2, rfl, hn2, hP2⟩ := hR2
      obtain ⟨ck2, k1, k2, k3, k4⟩ := cs2
      obtain rfl : ck2 = ScopeKind.function := hk2
      have e1 := hn2 _ (.head _)
      have e2 := hn2 _ (.tail _ (.head _))
      refine wpAny_call ?_
      k_dflt kla_enter
      k_steps
      exact hret2 _ news2 _ _ (by k_asm) (by k_asm) (by have q := hP2; rw [sl_y] at q; exact q _)
  · refine hret _ _ _ _ (by k_asm) (news_front (by k_asm)) (hP _ _ ⟨_, _, _, _, _, _, .pw (2 + r1), rfl, ?fr, ?cds, rfl, by x_close, ?fc, ?good, ?lam⟩)
    case fr => exact fr_of hge (hlow (box, lstO [.ref l, .int c tc]) (.head _)) (hlow (l, lstK ws kw) (.tail _ (.head _))) (hlow (183, _) (.tail _ (.tail _ (.head _)))) (fun q hq => hlow q (.tail _ (.tail _ (.tail _ hq))))
    case cds => exact hCo2.mono fun p hp => List.mem_append_right _ hp
    case fc => exact .pw (by x_close) (by x_close)
    case good => first | trivial | rfl | (constructor <;> omega)
    case lam =>
      refine lam_threeN (by x_close) (List.mem_append_right _ (by assumption)) (by x_close) (by assumption) (by with_unfolding_all rfl) ?_
      intro vsN tN hdN hvN a ha1 ha2
      unfold Con; k_fill
      intro loose2 mean2 mg2 mb2 cn2 cs2 a2 ccd2 cl2 outer2 A2 base2 h2 L2 m2 news2 s2 vs2 Q2 E2 Post2 B2 F2 X2 N2 T2 hk2 hR2 hret2
      obtain ⟨t2, rfl, hn2, hP2⟩ := hR2
      obtain ⟨ck2, k1, k2, k3, k4⟩ := cs2
      obtain rfl : ck2 = ScopeKind.function := hk2
      have e1 := hn2 _ (.head _)
      have e2 := hn2 _ (.tail _ (.head _))
      have e3 := hn2 _ (.tail _ (.tail _ (.head _)))
      have hq := pow_small a (2 + r1 - 1) ha1 ha2 (by omega) (by omega)
      have hbits := intBits_le_64 (k := a ^ (2 + r1 - 1).toNat) (by omega) (by omega)
      refine wpAny_call ?_
      k_dflt kla_enter
      k_steps
      exact hret2 _ news2 _ _ (by k_asm) (by k_asm) (by have q := hP2; rw [sl_pw] at q; exact q _)
end
end
section
open LCg LCp
/-- the pairs (factor, slope) that the ledger bears -/
inductive PsIn (w : World) (news : Led) : List Value → List Fc → Prop where
  | nil : PsIn w news [] []
  | cons {pa f : Addr} {v : Value} {d : Fc} {vs : List Value} {ds : List Fc} : (pa, tupO [v, .ref f]) ∈ news → FcIn news v d → d.good → Lam w news f d → PsIn w news vs ds → PsIn w news (.ref pa :: vs) (d :: ds)
theorem PsIn.mono {w : World} {news news' : Led} (hs : ∀ p ∈ news, p ∈ news') : ∀ {vs : List Value} {ds : List Fc}, PsIn w news vs ds → PsIn w news' vs ds
  | _, _, .nil => .nil
  | _, _, .cons a b c d e => .cons (hs _ a) (b.mono hs) c (d.mono hs) (PsIn.mono hs e)
theorem PsIn.snoc {w : World} {news : Led} {pa f : Addr} {v : Value} {d : Fc} (a : (pa, tupO [v, .ref f]) ∈ news) (b : FcIn news v d) (c : d.good) (l : Lam w news f d) : ∀ {vs : List Value} {ds : List Fc}, PsIn w news vs ds → PsIn w news (vs ++ [.ref pa]) (ds ++ [d])
  | _, _, .nil => .cons a b c l .nil
  | _, _, .cons a' b' c' d' e' => .cons a' b' c' d' (PsIn.snoc a b c l e')
theorem PsIn.len {w : World} {news : Led} : ∀ {vs : List Value} {ds : List Fc}, PsIn w news vs ds → vs.length = ds.length
  | _, _, .nil => rfl
  | _, _, .cons _ _ _ _ e => by simp [PsIn.len e]
theorem PsIn.good {w : World} {news : Led} : ∀ {vs : List Value} {ds : List Fc}, PsIn w news vs ds → ∀ d ∈ ds, d.good
  | _, _, .nil => fun _ h => nomatch h
  | _, _, .cons _ _ c _ e => fun d h => by
    rcases List.mem_cons.mp h with rfl | h
    · exact c
    · exact PsIn.good e d h
theorem PsIn.get {w : World} {news : Led} : ∀ {vs : List Value} {ds : List Fc} {i : Nat} {v : Value}, PsIn w news vs ds → vs[i]? = some v → ∃ pa f u d, v = .ref pa ∧ ds[i]? = some d ∧ (pa, tupO [u, .ref f]) ∈ news ∧ FcIn news u d ∧ d.good ∧ Lam w news f d
  | _, _, i, _, .nil, h => by simp at h
  | _, _, 0, _, .cons (pa := pa) (f := f) (v := u) (d := d) a b c l e, h => by
    cases h
    exact ⟨pa, f, u, d, rfl, rfl, a, b, c, l⟩
  | _, _, i + 1, _, .cons a b c l e, h => by
    obtain ⟨pa, f, u, d, r⟩ := PsIn.get (i := i) e (by simpa using h)
    exact ⟨pa, f, u, d, r.1, by simpa using r.2.1, r.2.2⟩
theorem FcsIn.snoc {news : Led} {v : Value} {d : Fc} (b : FcIn news v d) : ∀ {vs : List Value} {ds : List Fc}, FcsIn news vs ds → FcsIn news (vs ++ [v]) (ds ++ [d])
  | _, _, .nil => .cons b .nil
  | _, _, .cons a' e' => .cons a' (FcsIn.snoc b e')
theorem comp_grow {prog : Program} {w : World} {A : Around} {s : Shared} {h₀ : Heap} {L : Addr} {m : Str → Option Value} {env : Env} {elt : Expr} {x : Str} {scope : Scope} {cl : List (Str × Addr)} {P : Nat → Value → Prop} {Fin : List Value → Led → Prop}
    (J : Nat → List Value → Led → Prop) (n : Nat)
    (turn : ∀ i ys v news I oI C oC D m₂ h tk (E' : Value → Shared → Prop), i < n → J i ys news → P i v → NsObj oC m₂ → m₂ x = some v → Fr h₀ L h m → News h₀ L h ((I, oI) :: (C, oC) :: (D, lst ys) :: news) → Off3 I C D news → ((@Ne Nat I C) ∧ (@Ne Nat I D) ∧ (@Ne Nat C D)) →
      wpAny (model prog w) A (eval elt (compEnvC scope cl C env)) (fun y s'' => ∃ h' tk' news', s'' = { s with heap := h', toks := tk' } ∧ Fr h₀ L h' m ∧ News h₀ L h' ((I, oI) :: (C, oC) :: (D, lst ys) :: news') ∧ Off3 I C D news' ∧ J (i + 1) (ys ++ [y]) news') E' { s with heap := h, toks := tk })
    (fin : ∀ ys news, J n ys news → Fin ys news) : ∀ k i ys news, i + k = n → J i ys news → CompRest prog w A h₀ L m env elt x scope cl s (fun _ => True) P Fin k i ys news
  | 0, i, ys, news, e, j => CompRest.zero (fin ys news (by rw [← e]; exact j))
  | k + 1, i, ys, news, e, j => by
    refine CompRest.succ fun v I oI C oC D m₂ h tk E' hv hC hx F N off ne => ?_
    refine wpAny_mono (turn i ys v news I oI C oC D m₂ h tk E' (by omega) j hv hC hx F N off ne) (fun y s'' h'' => ?_) fun _ _ e => e
    obtain ⟨g, tk', news', rfl, F', N', off', j'⟩ := h''
    exact ⟨g, tk', news', rfl, F', N', off', trivial, comp_grow J n turn fin k (i + 1) _ _ (by omega) j'⟩
theorem compP_keep {prog : Program} {w : World} {A : Around} {s : Shared} {h₀ : Heap} {L : Addr} {m : Str → Option Value} {env : Env} {elt : Expr} {x x₂ : Str} {scope : Scope} {cl : List (Str × Addr)} {S : Led → Prop} {P : Nat → Value → Prop} {Fin : List Value → Led → Prop} {news : Led}
    (hS : S news) (J : Nat → List Value → Prop) (n : Nat)
    (item : ∀ i ys v, i < n → J i ys → P i v → ∃ t v₁ v₂, v = .ref t ∧ (t, tupO [v₁, v₂]) ∈ news ∧ J (i + 1) (ys ++ [v₁]))
    (turn : ∀ ys v₁ I oI C oC D m₂ h tk (E' : Value → Shared → Prop), NsObj oC m₂ → m₂ x = some v₁ → Fr h₀ L h m → News h₀ L h ((I, oI) :: (C, oC) :: (D, lst ys) :: news) →
      wpAny (model prog w) A (eval elt (compEnvC scope cl C env)) (fun y s'' => ∃ h' tk', s'' = { s with heap := h', toks := tk' } ∧ Fr h₀ L h' m ∧ News h₀ L h' ((I, oI) :: (C, oC) :: (D, lst ys) :: news) ∧ y = v₁) E' { s with heap := h, toks := tk })
    (fin : ∀ ys, J n ys → Fin ys news) : ∀ k i ys, i + k = n → J i ys → CompRestP prog w A h₀ L m env elt x x₂ scope cl s S P Fin k i ys news
  | 0, i, ys, e, j => CompRestP.zero (fin ys (by rw [← e]; exact j))
  | k + 1, i, ys, e, j => by
    refine CompRestP.succ fun v hv => ?_
    obtain ⟨t, v₁, v₂, rfl, hm, j'⟩ := item i ys v (by omega) j hv
    refine ⟨t, _, v₁, v₂, 0, rfl, hm, rfl, rfl, fun I oI C oC D m₂ h tk E' hC hx _ F N off ne => ?_⟩
    refine wpAny_mono (turn ys v₁ I oI C oC D m₂ h tk E' hC hx F N) (fun y s'' h'' => ?_) fun _ _ e => e
    obtain ⟨g, tk', rfl, F', N', rfl⟩ := h''
    exact ⟨g, tk', news, rfl, F', N', off, hS, compP_keep hS J n item turn fin k (i + 1) _ (by omega) j'⟩
/-- a call of _law_factor in a turn of the comprehension -/
theorem lf_use {w : World} {loose : List Str} {mean : ExcName → Option Value} {mg mb : Str → Option Value} {env : Env} {cn : Str} {cs : Scope} {a : Addr} {ccd : Value} {cl : List (Str × Addr)} {outer : List Env} {A A₀ : Around} {base h₀ : Heap} {L : Addr} {m : Str → Option Value} {s : Shared} {box l I C D : Addr} {oI oC oD : Obj} {c : Int} {tc : Tok} {ws : List Value} {kw : Nat} {ns : List Int} {T₀ : Array Value} {keep : Led}
    {Q E : Value → Shared → Prop}
    (B : Below A₀ base outer h₀) (F : Fr h₀ L s.heap m) (X : (hd.heap_1 w.params).In h₀) (N : News h₀ L s.heap ((I, oI) :: (C, oC) :: (D, oD) :: (box, lstO [.ref l, .int c tc]) :: (l, lstK ws kw) :: (183, tabObj T₀) :: keep)) (T : Top topProg loose mean mg mb h₀) (he : env = envX cn cs L a ccd cl) (hk : cs.kind = .function)
    (hA1 : A.handled = none) (hA2 : A.depth ≤ 640) (hA3 : A.units ≤ 1400) (hA : A.frames = some (env :: outer)) (hT : T₀ = #[] ∨ Codes T₀ keep)
    (hbl : @Ne Nat box l) (hb3 : @Ne Nat box 183) (hl3 : @Ne Nat l 183) (off : Off3 I C D ((box, lstO [.ref l, .int c tc]) :: (l, lstK ws kw) :: (183, tabObj T₀) :: keep)) (hkb : ∀ p ∈ keep, @Ne Nat p.1 box) (hk3 : ∀ p ∈ keep, @Ne Nat p.1 183) (hI : IntsAre ws ns) (hn : ns.length < 2 ^ 20) (h0 : 0 ≤ c) (h1 : c < 990)
    (k : ∀ fresh T' tc' pa v f d h' tk', Fr h₀ L h' m → News h₀ L h' ((I, oI) :: (C, oC) :: (D, oD) :: (box, lstO [.ref l, .int (c + 1 + 1) tc']) :: (l, lstK ws kw) :: (183, tabObj T') :: (fresh ++ keep)) →
      Off3 I C D ((box, lstO [.ref l, .int (c + 1 + 1) tc']) :: (l, lstK ws kw) :: (183, tabObj T') :: (fresh ++ keep)) → (∀ p ∈ fresh ++ keep, @Ne Nat p.1 box) → (∀ p ∈ fresh ++ keep, @Ne Nat p.1 183) →
      Codes T' (fresh ++ keep) → (pa, tupO [v, .ref f]) ∈ fresh ++ keep → FcIn (fresh ++ keep) v d → d.good → Lam w (fresh ++ keep) f d → Q (.ref pa) { s with heap := h', toks := tk' }) :
    wpAny (model (PySem.Challenge.rw_rh0026_01).row.prog w) A (call (.ref 188) [.ref box]) Q E s := by
  have om := off.mem
  have hbI := om _ (.head _)
  have h3I := om _ (.tail _ (.tail _ (.head _)))
  have N2 : News h₀ L s.heap ((box, lstO [.ref l, .int c tc]) :: (l, lstK ws kw) :: (183, tabObj T₀) :: ((I, oI) :: (C, oC) :: (D, oD) :: keep)) := news_sub N fun p hp => by
    simp only [List.mem_cons] at hp ⊢
    rcases hp with h | h | h | h | h | h | h <;> simp [h]
  have r1 : ∀ p ∈ (I, oI) :: (C, oC) :: (D, oD) :: keep, @Ne Nat p.1 box := fun p hp => by
    rcases List.mem_cons.mp hp with rfl | hp
    · exact Ne.symm hbI.1
    rcases List.mem_cons.mp hp with rfl | hp
    · exact Ne.symm hbI.2.1
    rcases List.mem_cons.mp hp with rfl | hp
    · exact Ne.symm hbI.2.2
    · exact hkb p hp
  have r3 : ∀ p ∈ (I, oI) :: (C, oC) :: (D, oD) :: keep, @Ne Nat p.1 183 := fun p hp => by
    rcases List.mem_cons.mp hp with rfl | hp
    · exact Ne.symm h3I.1
    rcases List.mem_cons.mp hp with rfl | hp
    · exact Ne.symm h3I.2.1
    rcases List.mem_cons.mp hp with rfl | hp
    · exact Ne.symm h3I.2.2
    · exact hk3 p hp
  have fin : ∀ r nw h' tk', Fr h₀ L h' m → News h₀ L h' nw → LPost w box l ws kw c ((I, oI) :: (C, oC) :: (D, oD) :: keep) keep nw r → Q r { s with heap := h', toks := tk' } := fun r nw h' tk' F' N' hp => by
    obtain ⟨fresh, T', tc', pa, v, f, d, rfl, hf, hC, rfl, hpa, hv, hg, hL⟩ := hp
    have up : ∀ p ∈ fresh, p ∈ fresh ++ keep := fun p hp => List.mem_append_left _ hp
    refine k fresh T' tc' pa v f d h' tk' F' (news_sub N' fun p hp => ?_) (Off3.of fun p hp => ?_) (fun p hp => ?_) (fun p hp => ?_) hC (up _ hpa) (hv.mono up) hg hL
    · simp only [List.mem_cons, List.mem_append] at hp ⊢
      rcases hp with h | h | h | h | h | h | h | h <;> simp [h]
    · rcases List.mem_cons.mp hp with rfl | hp
      · exact hbI
      rcases List.mem_cons.mp hp with rfl | hp
      · exact om _ (.tail _ (.head _))
      rcases List.mem_cons.mp hp with rfl | hp
      · exact h3I
      rcases List.mem_append.mp hp with hp | hp
      · have q := (hf p hp).2.2.2
        exact ⟨Ne.symm (Nat.ne_of_lt (q _ (.head _))), Ne.symm (Nat.ne_of_lt (q _ (.tail _ (.head _)))), Ne.symm (Nat.ne_of_lt (q _ (.tail _ (.tail _ (.head _)))))⟩
      · exact om _ (.tail _ (.tail _ (.tail _ hp)))
    · rcases List.mem_append.mp hp with hp | hp
      · exact Ne.symm (Nat.ne_of_lt (hf p hp).1)
      · exact hkb p hp
    · rcases List.mem_append.mp hp with hp | hp
      · exact Ne.symm (Nat.ne_of_lt (hf p hp).2.2.1)
      · exact hk3 p hp
  rcases hT with rfl | hT
  · exact con_use lf_first (fun nw r => LPost w box l ws kw c ((I, oI) :: (C, oC) :: (D, oD) :: keep) keep nw r) B F X N2 T he hk hA1 hA2 hA3 hA
      ⟨box, l, c, tc, ws, kw, ns, _, keep, rfl, hbl, hb3, hl3, r1, r3, hI, hn, h0, h1, rfl, fun _ _ q => q⟩ fin
  · exact con_use lf_next (fun nw r => LPost w box l ws kw c ((I, oI) :: (C, oC) :: (D, oD) :: keep) keep nw r) B F X N2 T he hk hA1 hA2 hA3 hA
      ⟨box, l, c, tc, ws, kw, ns, _, keep, T₀, rfl, hT, hbl, hb3, hl3, r1, r3, hI, hn, h0, h1, rfl, fun _ _ q => q⟩ fin
/-- what holds ahead of turn i -/
def LJ (w : World) (box l : Addr) (ws : List Value) (kw : Nat) (cell : Addr × Obj) (i : Nat) (ys : List Value) (news : Led) : Prop :=
  ∃ (T : Array Value) (c : Int) (tc : Tok) (keep : Led) (ks : List Fc), news = (box, lstO [.ref l, .int c tc]) :: (l, lstK ws kw) :: (183, tabObj T) :: keep ∧ (T = #[] ∨ Codes T keep) ∧ 0 ≤ c ∧ c ≤ 100 + 2 * (i : Int) ∧ ks.length = i ∧ PsIn w keep ys ks ∧ cell ∈ keep ∧ (∀ p ∈ keep, @Ne Nat p.1 box) ∧ ∀ p ∈ keep, @Ne Nat p.1 183
end
section
open LCg LCp
theorem mem6 {p a b c d e f : Addr × Obj} {l : Led} (h : p ∈ l) : p ∈ a :: b :: c :: d :: e :: f :: l := .tail _ (.tail _ (.tail _ (.tail _ (.tail _ (.tail _ h)))))
theorem src_rng {prog : Program} {w : World} {A : Around} {h₀ : Heap} {L : Addr} {m : Str → Option Value} {env : Env} {elt : Expr} {x : Str} {scope : Scope} {cl : List (Str × Addr)} {Fin : Shared → List Value → Led → Prop} {r : Addr} {n : Int} {t u v : Tok} {s₁ : Shared} {b l y cell tb : Addr × Obj}
    (hh : A.handled = none) (F : Fr h₀ L s₁.heap m) (N : News h₀ L s₁.heap ([] ++ [b, l, y, cell, tb])) (hr : IsRange s₁.heap r 0 n 1 t u v) (h0 : 0 ≤ n) (h1 : n < 6)
    (h : ∀ g, CompRest prog w A h₀ L m env elt x scope cl { s₁ with heap := g } (fun _ => True) (fun i v => ∃ t, v = .int (0 + (i : Int)) t) (Fin { s₁ with heap := g }) n.toNat 0 [] [b, l, tb, cell]) :
    CompSrc prog w A h₀ L m env elt x scope cl Fin (.ref r) s₁ :=
  CompSrc.range hh F (news_sub N fun p hp => by simp only [List.mem_cons, List.nil_append] at hp ⊢; rcases hp with h | h | h | h | h <;> simp_all) hr (small_range h0 h1).1 (small_range h0 h1).2 (Nat.le_trans (show n.toNat ≤ 6 by omega) (by decide)) h
theorem c_lt {c r : Int} {i : Nat} (h : c ≤ 100 + 2 * (i : Int)) (hi : i < r.toNat) (hr : r < 6) : c < 990 := by omega
theorem c_up {c : Int} {i : Nat} (h : c ≤ 100 + 2 * (i : Int)) : c + 1 + 1 ≤ 100 + 2 * ((i + 1 : Nat) : Int) := by omega
theorem c_nn {c : Int} (h : 0 ≤ c) : 0 ≤ c + 1 + 1 := by omega
theorem LJ.step {w : World} {box l : Addr} {ws : List Value} {kw : Nat} {cell : Addr × Obj} {i : Nat} {ys : List Value} {c : Int} {tc' : Tok} {keep fresh : Led} {ks : List Fc} {T' : Array Value} {pa f : Addr} {v : Value} {d : Fc}
    (hc0 : 0 ≤ c) (hc1 : c ≤ 100 + 2 * (i : Int)) (hks : ks.length = i) (hps : PsIn w keep ys ks) (hcell : cell ∈ keep) (hkb : ∀ p ∈ fresh ++ keep, @Ne Nat p.1 box) (hk3 : ∀ p ∈ fresh ++ keep, @Ne Nat p.1 183)
    (hC : Codes T' (fresh ++ keep)) (hpa : (pa, tupO [v, .ref f]) ∈ fresh ++ keep) (hv : FcIn (fresh ++ keep) v d) (hg : d.good) (hL : Lam w (fresh ++ keep) f d) :
    LJ w box l ws kw cell (i + 1) (ys ++ [.ref pa]) ((box, lstO [.ref l, .int (c + 1 + 1) tc']) :: (l, lstK ws kw) :: (183, tabObj T') :: (fresh ++ keep)) :=
  ⟨T', c + 1 + 1, tc', fresh ++ keep, ks ++ [d], rfl, .inr hC, c_nn hc0, c_up hc1, by simp [hks], (hps.mono fun p hp => List.mem_append_right _ hp).snoc hpa hv hg hL, List.mem_append_right _ hcell, hkb, hk3⟩
theorem LJ.zero {w : World} {box l : Addr} {ws : List Value} {kw : Nat} {cell : Addr × Obj} {c : Int} {tc : Tok} (hc0 : 0 ≤ c) (hc1 : c ≤ 100) (h1 : @Ne Nat cell.1 box) (h2 : @Ne Nat cell.1 183) :
    LJ w box l ws kw cell 0 [] [(box, lstO [.ref l, .int c tc]), (l, lstK ws kw), (183, tabObj #[]), cell] :=
  ⟨#[], c, tc, [cell], [], rfl, .inl rfl, hc0, by simpa using hc1, rfl, .nil, .head _, fun p hp => by rw [List.mem_singleton.mp hp]; exact h1, fun p hp => by rw [List.mem_singleton.mp hp]; exact h2⟩
theorem firsts {w : World} {news : Led} {ys : List Value} {ks : List Fc} (h : PsIn w news ys ks) {i : Nat} {zs : List Value} {v : Value} (hz : FcsIn news zs (ks.take i)) (hv : ys.toArray[i]? = some v) :
    ∃ t v₁ v₂, v = .ref t ∧ (t, tupO [v₁, v₂]) ∈ news ∧ FcsIn news (zs ++ [v₁]) (ks.take (i + 1)) := by
  obtain ⟨pa, f, u, d, rfl, hd, hm, hu, _, _⟩ := h.get (by simpa using hv)
  refine ⟨pa, u, _, rfl, hm, ?_⟩
  rw [List.take_add_one, hd]
  exact hz.snoc hu
theorem comp_lj {prog : Program} {w : World} {A : Around} {s : Shared} {h₀ : Heap} {L : Addr} {m : Str → Option Value} {env : Env} {elt : Expr} {x : Str} {scope : Scope} {cl : List (Str × Addr)} {P : Nat → Value → Prop} {Fin : List Value → Led → Prop} {box l : Addr} {ws : List Value} {kw : Nat} {cell : Addr × Obj} {c₀ : Int} {tc₀ : Tok} {n : Nat}
    (hc0 : 0 ≤ c₀) (hc1 : c₀ ≤ 100) (h1 : @Ne Nat cell.1 box) (h2 : @Ne Nat cell.1 183) (n1 : @Ne Nat box l) (n2 : @Ne Nat box 183) (n3 : @Ne Nat l 183)
    (turn : @Ne Nat box l → @Ne Nat box 183 → @Ne Nat l 183 → ∀ i ys v news I oI C oC D m₂ h tk (E' : Value → Shared → Prop), i < n → LJ w box l ws kw cell i ys news → P i v → NsObj oC m₂ → m₂ x = some v → Fr h₀ L h m → News h₀ L h ((I, oI) :: (C, oC) :: (D, lst ys) :: news) → Off3 I C D news → ((@Ne Nat I C) ∧ (@Ne Nat I D) ∧ (@Ne Nat C D)) →
      wpAny (model prog w) A (eval elt (compEnvC scope cl C env)) (fun y s'' => ∃ h' tk' news', s'' = { s with heap := h', toks := tk' } ∧ Fr h₀ L h' m ∧ News h₀ L h' ((I, oI) :: (C, oC) :: (D, lst ys) :: news') ∧ Off3 I C D news' ∧ LJ w box l ws kw cell (i + 1) (ys ++ [y]) news') E' { s with heap := h, toks := tk })
    (fin : @Ne Nat box 183 → ∀ ys news, LJ w box l ws kw cell n ys news → Fin ys news) : CompRest prog w A h₀ L m env elt x scope cl s (fun _ => True) P Fin n 0 [] [(box, lstO [.ref l, .int c₀ tc₀]), (l, lstK ws kw), (183, tabObj #[]), cell] :=
  comp_grow (LJ w box l ws kw cell) n (turn n1 n2 n3) (fin n2) n 0 [] _ (Nat.zero_add _) (LJ.zero hc0 hc1 h1 h2)
end
section
noncomputable def restF (box : Addr) (news : Led) : Led := news.filter (fun p => decide (@Ne Nat p.1 box))
theorem restF_in {box : Addr} {news : Led} {p : Addr × Obj} (h : p ∈ news) (hn : @Ne Nat p.1 box) : p ∈ restF box news := List.mem_filter.mpr ⟨h, decide_eq_true hn⟩
theorem restF_sub {box : Addr} {news : Led} {p : Addr × Obj} (h : p ∈ restF box news) : p ∈ news ∧ @Ne Nat p.1 box := ⟨(List.mem_filter.mp h).1, of_decide_eq_true (List.mem_filter.mp h).2⟩
theorem tup_ne {h₀ h : Heap} {L box : Addr} {x : List Value} {news : Led} (N : News h₀ L h news) (hb : (box, lstO x) ∈ news) {p : Addr × Obj} (hp : p ∈ news) (ht : IsT p) : @Ne Nat p.1 box := fun e => by
  have h1 := (N p hp).1
  have h2 := (N _ hb).1
  have e' : p.1 = box := e
  rw [e', h2] at h1
  have e3 := Option.some.inj h1
  have e4 := ht.1
  rw [← e3] at e4
  have e5 : (Value.type "list") = (Value.type "tuple") := e4
  exact absurd e5 (by simp)
theorem take_abs {w : World} {loose : List Str} {mean : ExcName → Option Value} {mg mb : Str → Option Value} {env : Env} {cn : Str} {cs : Scope} {a : Addr} {ccd : Value} {cl : List (Str × Addr)} {outer : List Env} {A A₀ : Around} {base h₀ : Heap} {L : Addr} {m : Str → Option Value} {news : Led} {s : Shared} {box l : Addr} {c many : Int} {tc tm : Tok} {ws : List Value} {kw : Nat} {ns : List Int}
    {Q E : Value → Shared → Prop}
    (B : Below A₀ base outer h₀) (F : Fr h₀ L s.heap m) (X : (hd.heap_1 w.params).In h₀) (N : News h₀ L s.heap news) (T : Top topProg loose mean mg mb h₀) (he : env = envX cn cs L a ccd cl) (hk : cs.kind = .function)
    (hA1 : A.handled = none) (hA2 : A.depth ≤ 660) (hA3 : A.units ≤ 1600) (hA : A.frames = some (env :: outer)) (hb : (box, lstO [.ref l, .int c tc]) ∈ news) (hl : (l, lstK ws kw) ∈ news) (hbl : @Ne Nat box l) (hI : IntsAre ws ns) (hn : ns.length < 2 ^ 20) (h0 : 0 ≤ c) (h1 : c < 1000) (h2 : 0 < many) (h3 : many < 1000)
    (k : ∀ r t tc' h' tk', 0 ≤ r → r < many → Fr h₀ L h' m → News h₀ L h' ((box, lstO [.ref l, .int (c + 1) tc']) :: restF box news) → Q (.int r t) { s with heap := h', toks := tk' }) :
    wpAny (model (PySem.Challenge.rw_rh0026_01).row.prog w) A (call (.ref 174) [.ref box, .int many tm]) Q E s :=
  take_use (tc := tc) (ws := ws) (kw := kw) (rest := restF box news) B F X N T he hk hA1 hA2 hA3 hA (fun p hp => by
    rcases List.mem_cons.mp hp with rfl | hp
    · exact hb
    rcases List.mem_cons.mp hp with rfl | hp
    · exact hl
    · exact (restF_sub hp).1) hbl (fun p hp => (restF_sub hp).2) hI hn h0 h1 h2 h3 fun r t tc' h' tk' q1 q2 F' N' => k r t tc' h' tk' q1 q2 F' (news_sub N' fun p hp => by
      rcases List.mem_cons.mp hp with rfl | hp
      · exact .head _
      · exact .tail _ (.tail _ hp))
def lmap (m₀ : Str → Option Value) (oa od op ot oo : Option Value) : Str → Option Value :=
  fun y => if y = Str.ofString "at" then oa else if y = Str.ofString "due" then od else if y = Str.ofString "place" then op else if y = Str.ofString "part" then ot else if y = Str.ofString "other" then oo else m₀ y
theorem lmap_at (m₀ : Str → Option Value) (v a b c d e : Option Value) : (fun y => if y = Str.ofString "at" then v else lmap m₀ a b c d e y) = lmap m₀ v b c d e := by
  funext y; unfold lmap
  by_cases h1 : y = Str.ofString "at"
  · simp only [if_pos h1]
  · simp only [if_neg h1]
theorem lmap_due1 (m₀ : Str → Option Value) (v a b c d e : Option Value) : (fun y => if y = Str.ofString "due" then v else lmap m₀ a b c d e y) = lmap m₀ a v c d e := by
  funext y
  by_cases h0 : y = Str.ofString "at"
  · subst h0; rfl
  by_cases h1 : y = Str.ofString "due"
  · subst h1; rfl
  simp only [lmap, if_neg h0, if_neg h1]
theorem lmap_place1 (m₀ : Str → Option Value) (v a b c d e : Option Value) : (fun y => if y = Str.ofString "place" then v else lmap m₀ a b c d e y) = lmap m₀ a b v d e := by
  funext y
  by_cases h0 : y = Str.ofString "at"
  · subst h0; rfl
  by_cases h1 : y = Str.ofString "due"
  · subst h1; rfl
  by_cases h2 : y = Str.ofString "place"
  · subst h2; rfl
  simp only [lmap, if_neg h0, if_neg h1, if_neg h2]
theorem lmap_part1 (m₀ : Str → Option Value) (v a b c d e : Option Value) : (fun y => if y = Str.ofString "part" then v else lmap m₀ a b c d e y) = lmap m₀ a b c v e := by
  funext y
  by_cases h0 : y = Str.ofString "at"
  · subst h0; rfl
  by_cases h1 : y = Str.ofString "due"
  · subst h1; rfl
  by_cases h2 : y = Str.ofString "place"
  · subst h2; rfl
  by_cases h3 : y = Str.ofString "part"
  · subst h3; rfl
  simp only [lmap, if_neg h0, if_neg h1, if_neg h2, if_neg h3]
theorem lmap_oth1 (m₀ : Str → Option Value) (v a b c d e : Option Value) : (fun y => if y = Str.ofString "other" then v else lmap m₀ a b c d e y) = lmap m₀ a b c d v := by
  funext y
  by_cases h0 : y = Str.ofString "at"
  · subst h0; rfl
  by_cases h1 : y = Str.ofString "due"
  · subst h1; rfl
  by_cases h2 : y = Str.ofString "place"
  · subst h2; rfl
  by_cases h3 : y = Str.ofString "part"
  · subst h3; rfl
  by_cases h4 : y = Str.ofString "other"
  · subst h4; rfl
  simp only [lmap, if_neg h0, if_neg h1, if_neg h2, if_neg h3, if_neg h4]
def KeepM (m₀ m : Str → Option Value) : Prop := ∃ oa od op ot oo, m = lmap m₀ oa od op ot oo
theorem KeepM.refl (m : Str → Option Value) : KeepM m m := ⟨m (Str.ofString "at"), m (Str.ofString "due"), m (Str.ofString "place"), m (Str.ofString "part"), m (Str.ofString "other"), by
  funext y
  by_cases h1 : y = Str.ofString "at"
  · subst h1; rfl
  by_cases h2 : y = Str.ofString "due"
  · subst h2; rfl
  by_cases h3 : y = Str.ofString "place"
  · subst h3; rfl
  by_cases h4 : y = Str.ofString "part"
  · subst h4; rfl
  by_cases h5 : y = Str.ofString "other"
  · subst h5; rfl
  simp only [lmap, if_neg h1, if_neg h2, if_neg h3, if_neg h4, if_neg h5]⟩
section
variable {prog : Program} {w : World} {A : Around} {s : Shared} {env : Env} {h₀ : Heap} {x : Str} {body : List Stmt} {Q : Flow → Shared → Prop} {E : Value → Shared → Prop} {news : Led} {m : Str → Option Value}
theorem tupAt_intro {t : Addr} {its : Array Value} {k : Nat}
    (F : Fr h₀ env.locals s.heap m) (N : News h₀ env.locals s.heap news) (hm : (t, tupN its k) ∈ news)
    (step : ∀ (it : Addr) (i : Nat) v h tk oi od op ot oo, its[i]? = some v → (∀ p ∈ news, (@Ne Nat p.1 it)) → (@Ne Nat it env.locals) →
      Fr h₀ env.locals h (lmap m (some v) od op ot oo) → News h₀ env.locals h ((it, oi) :: news) →
      wpAny (model prog w) A (execs body env) (TStep h₀ env.locals s it oi news (KeepM m)) E { s with heap := h, toks := tk })
    (fin : ∀ h' tk oa od op ot oo, Fr h₀ env.locals h' (lmap m oa od op ot oo) → News h₀ env.locals h' news → Q .next { s with heap := h', toks := tk }) : TupAt prog w A h₀ env (Str.ofString "at") body Q E (.ref t) s :=
  ⟨t, its, k, news, m, fun _ => KeepM m, rfl, F, N, hm, KeepM.refl m, fun it i v h tk oi m₁ hv hJ off hL F' N' => by
    obtain ⟨oa, od, op, ot, oo, rfl⟩ := hJ
    exact step it i v h tk oi od op ot oo hv off hL (lmap_at _ _ _ _ _ _ _ ▸ F') N', fun h' tk m' F' N' hJ => by
    obtain ⟨oa, od, op, ot, oo, rfl⟩ := hJ
    exact fin h' tk oa od op ot oo F' N'⟩
/-- for place in range(len(pairs)) -/
theorem rngAt_due {r : Addr} {t u v : Tok} {n : Nat} (m₀ : Str → Option Value) {oa : Option Value} (G : Nat → Int) {td op ot oo}
    (F : Fr h₀ env.locals s.heap m) (N : News h₀ env.locals s.heap news) (hr : IsRange s.heap r 0 (n : Int) 1 t u v) (hn : n < 6) (hm : m = lmap m₀ oa (some (.int (G 0) td)) op ot oo)
    (step : ∀ (it : Addr) (i : Nat) t h tk oi td ot oo, i < n → (∀ p ∈ news, (@Ne Nat p.1 it)) → (@Ne Nat it env.locals) →
      Fr h₀ env.locals h (lmap m₀ oa (some (.int (G i) td)) (some (.int (i : Nat) t)) ot oo) → News h₀ env.locals h ((it, oi) :: news) →
      wpAny (model prog w) A (execs body env) (TStep h₀ env.locals s it oi news (fun m => ∃ td op ot oo, m = lmap m₀ oa (some (.int (G (i + 1)) td)) op ot oo)) E { s with heap := h, toks := tk })
    (fin : ∀ h' tk td op ot oo, Fr h₀ env.locals h' (lmap m₀ oa (some (.int (G n) td)) op ot oo) → News h₀ env.locals h' news → Q .next { s with heap := h', toks := tk }) : RngAt prog w A h₀ env (Str.ofString "place") body Q E (.ref r) s :=
  have hs := small_range (b := (n : Int)) (by omega) (by omega)
  ⟨r, n, t, u, v, n, news, m, fun i m => ∃ td op ot oo, m = lmap m₀ oa (some (.int (G i) td)) op ot oo, rfl, hr, hs.1, by rw [hs.2, Int.toNat_natCast], F, N, ⟨td, op, ot, oo, hm⟩, fun it i t h tk oi m₁ hi hJ off hL F' N' => by
    obtain ⟨td, op, ot, oo, rfl⟩ := hJ
    exact step it i t h tk oi td ot oo hi off hL (lmap_place1 _ _ _ _ _ _ _ ▸ F') N', fun h' tk m' F' N' hJ => by
    obtain ⟨td, op, ot, oo, rfl⟩ := hJ
    exact fin h' tk td op ot oo F' N'⟩
/-- for other in range(len(pairs)) -/
theorem rngAt_part {r : Addr} {t u v : Tok} {n : Nat} (m₀ : Str → Option Value) {oa od op : Option Value} (G : Nat → Int) {tt oo}
    (F : Fr h₀ env.locals s.heap m) (N : News h₀ env.locals s.heap news) (hr : IsRange s.heap r 0 (n : Int) 1 t u v) (hn : n < 6) (hm : m = lmap m₀ oa od op (some (.int (G 0) tt)) oo)
    (step : ∀ (it : Addr) (i : Nat) t h tk oi tt, i < n → (∀ p ∈ news, (@Ne Nat p.1 it)) → (@Ne Nat it env.locals) →
      Fr h₀ env.locals h (lmap m₀ oa od op (some (.int (G i) tt)) (some (.int (i : Nat) t))) → News h₀ env.locals h ((it, oi) :: news) →
      wpAny (model prog w) A (execs body env) (TStep h₀ env.locals s it oi news (fun m => ∃ tt oo, m = lmap m₀ oa od op (some (.int (G (i + 1)) tt)) oo)) E { s with heap := h, toks := tk })
    (fin : ∀ h' tk tt oo, Fr h₀ env.locals h' (lmap m₀ oa od op (some (.int (G n) tt)) oo) → News h₀ env.locals h' news → Q .next { s with heap := h', toks := tk }) : RngAt prog w A h₀ env (Str.ofString "other") body Q E (.ref r) s :=
  have hs := small_range (b := (n : Int)) (by omega) (by omega)
  ⟨r, n, t, u, v, n, news, m, fun i m => ∃ tt oo, m = lmap m₀ oa od op (some (.int (G i) tt)) oo, rfl, hr, hs.1, by rw [hs.2, Int.toNat_natCast], F, N, ⟨tt, oo, hm⟩, fun it i t h tk oi m₁ hi hJ off hL F' N' => by
    obtain ⟨tt, oo, rfl⟩ := hJ
    exact step it i t h tk oi tt hi off hL (lmap_oth1 _ _ _ _ _ _ _ ▸ F') N', fun h' tk m' F' N' hJ => by
    obtain ⟨tt, oo, rfl⟩ := hJ
    exact fin h' tk tt oo F' N'⟩
end
theorem lam_use {w : World} {loose : List Str} {mean : ExcName → Option Value} {mg mb : Str → Option Value} {env : Env} {cn : Str} {cs : Scope} {a : Addr} {ccd : Value} {cl : List (Str × Addr)} {outer : List Env} {A A₀ : Around} {base h₀ : Heap} {L : Addr} {m : Str → Option Value} {news old : Led} {s : Shared} {f : Addr} {d : Fc} {at' : Int} {ta : Tok}
    {Q E : Value → Shared → Prop} (hL : Lam w old f d) (hsub : ∀ p ∈ old, p ∈ news) (ha : -10 ≤ at') (hb : at' ≤ 10)
    (B : Below A₀ base outer h₀) (F : Fr h₀ L s.heap m) (X : (hd.heap_1 w.params).In h₀) (N : News h₀ L s.heap news) (T : Top topProg loose mean mg mb h₀) (he : env = envX cn cs L a ccd cl) (hk : cs.kind = .function)
    (hA1 : A.handled = none) (hA2 : A.depth ≤ 550) (hA3 : A.units ≤ 500) (hA : A.frames = some (env :: outer))
    (k : ∀ t h' tk', Fr h₀ L h' m → News h₀ L h' news → Q (.int (d.slope.val at') t) { s with heap := h', toks := tk' }) :
    wpAny (model (PySem.Challenge.rw_rh0026_01).row.prog w) A (call (.ref f) [.int at' ta]) Q E s := by
  obtain ⟨_, need, h1, h2⟩ := hL
  refine con_use (h2 at' ha hb) (fun nw r => nw = news ∧ ∃ t, r = .int (d.slope.val at') t) B F X N T he hk hA1 hA2 hA3 hA ⟨ta, rfl, fun p hp => hsub p (h1 p hp), fun t => ⟨rfl, t, rfl⟩⟩ fun r nw h' tk' F' N' e => ?_
  obtain ⟨rfl, t, rfl⟩ := e
  exact k t h' tk' F' N'
noncomputable def partV (a s : Int) (ks : List Fc) (i : Nat) : Nat → Int
  | 0 => s
  | j + 1 => partV a s ks i j * (if j ≠ i then valAt a ks j else 1)
theorem partV_is (a s : Int) (ks : List Fc) (i : Nat) : ∀ j, partV a s ks i j = s * othV a ks i j
  | 0 => by rw [partV, othV, Int.mul_one]
  | j + 1 => by rw [partV, othV, partV_is a s ks i j, Int.mul_assoc]
theorem part_ne {a s : Int} {ks : List Fc} {i j : Nat} {d : Fc} (hd : ks[j]? = some d) (h : ¬ j = i) : partV a s ks i j * d.tm.val a = partV a s ks i (j + 1) := by
  rw [partV, if_pos h, valAt, hd]
theorem part_eq {a s : Int} {ks : List Fc} {i j : Nat} (h : j = i) : partV a s ks i j * 1 = partV a s ks i (j + 1) := by
  rw [partV, if_neg (by simp [h])]
theorem due_step {a : Int} {ks : List Fc} {i n : Nat} {d : Fc} (hd : ks[i]? = some d) (hn : n = ks.length) : dueV a ks i + partV a (d.slope.val a) ks i n = dueV a ks (i + 1) := by
  rw [dueV, slAt, hd, partV_is, hn]
theorem at_items {r : Int} {t1 t2 t3 : Tok} {i : Nat} {v : Value} (h : #[Value.int 2 t1, Value.int (-3) t2, Value.int (1 + r) t3][i]? = some v) (h0 : 0 ≤ r) (h1 : r < 9) : ∃ a t, v = .int a t ∧ -10 ≤ a ∧ a ≤ 10 := by
  match i, h with
  | 0, h => cases h; exact ⟨2, t1, rfl, by omega, by omega⟩
  | 1, h => cases h; exact ⟨-3, t2, rfl, by omega, by omega⟩
  | 2, h => cases h; exact ⟨1 + r, t3, rfl, by omega, by omega⟩
  | n + 3, h => cases h
theorem pick {w : World} {news : Led} {ys : List Value} {ks : List Fc} {i : Nat} (hps : PsIn w news ys ks) (hi : i < ys.toArray.size) (hs : ys.toArray.size < 10) :
    ∃ pa f u d, (0 : Int) ≤ ((i : Nat) : Int) ∧ ((i : Nat) : Int) < 2 ^ 63 ∧ ys.toArray[((i : Nat) : Int).toNat]? = some (.ref pa) ∧ ks[i]? = some d ∧ (pa, tupO [u, .ref f]) ∈ news ∧ FcIn news u d ∧ d.good ∧ Lam w news f d := by
  have hi' : i < ys.length := by simpa using hi
  obtain ⟨pa, f, u, d, e, h1, h2, h3, h4, h5⟩ := hps.get (i := i) (List.getElem?_eq_getElem hi')
  refine ⟨pa, f, u, d, by omega, by omega, ?_, h1, h2, h3, h4, h5⟩
  rw [Int.toNat_natCast, List.getElem?_toArray, List.getElem?_eq_getElem hi', e]
theorem ne_true {i j : Nat} (h : ¬ j = i) : (((j : Nat) : Int) != ((i : Nat) : Int)) = true := by
  have : ((j : Nat) : Int) ≠ ((i : Nat) : Int) := by omega
  simpa using this
theorem ne_false {i j : Nat} (h : j = i) : (((j : Nat) : Int) != ((i : Nat) : Int)) = false := by simp [h]
theorem told_ok {a : Int} {ks : List Fc} {n : Nat} (hn : n = ks.length) : ((slopeTm ks).val a != dueV a ks n) = false := by
  rw [hn, plain_law]; simp
end
section
theorem tstep_due {h₀ h' : Heap} {L it : Addr} {s : Shared} {oi : Obj} {news : Led} {tk' : Nat} {m₀ : Str → Option Value} {oa od op ot oo : Option Value} {a : Int} {ks : List Fc} {i : Nat} {d : Fc} {t : Tok}
    (F : Fr h₀ L h' (fun y => if y = Str.ofString "due" then some (.int (dueV a ks i + partV a (d.slope.val a) ks i ks.length) t) else lmap m₀ oa od op ot oo y)) (N : News h₀ L h' ((it, oi) :: news)) (hd : ks[i]? = some d) :
    TStep h₀ L s it oi news (fun m => ∃ td op ot oo, m = lmap m₀ oa (some (.int (dueV a ks (i + 1)) td)) op ot oo) .next { s with heap := h', toks := tk' } :=
  TStep.intro F N ⟨t, op, ot, oo, by rw [← due_step hd rfl]; exact lmap_due1 _ _ _ _ _ _ _⟩
theorem tstep_part {h₀ h' : Heap} {L it : Addr} {s : Shared} {oi : Obj} {news : Led} {tk' : Nat} {m₀ : Str → Option Value} {oa od op ot oo : Option Value} {p G : Int} {t : Tok}
    (F : Fr h₀ L h' (fun y => if y = Str.ofString "part" then some (.int p t) else lmap m₀ oa od op ot oo y)) (N : News h₀ L h' ((it, oi) :: news)) (e : p = G) :
    TStep h₀ L s it oi news (fun m => ∃ tt oo, m = lmap m₀ oa od op (some (.int G tt)) oo) .next { s with heap := h', toks := tk' } :=
  TStep.intro F N ⟨t, oo, by rw [← e]; exact lmap_part1 _ _ _ _ _ _ _⟩
end
section
theorem exc_init_call {prog : Program} {w : World} {A : Around} {E : Value → Shared → Prop} {h : Heap} {g : Array GenState} {d : Drawn} {tk : Nat} {os : OsState}
    {nm q : Str} {C N : Addr} {bs : List Value} {hdct : Bool} {sn : List Str} {sub : List Value} {ab : Bool} {col : Option Bool} {dd : Option Addr} {k0 k1 k2 k3 k5 : Option Value} {e t0 : Addr} {v : Value} {Q : Value → Shared → Prop}
    (hC : h.get? C = some (excClassObj nm q C N bs [.type "Exception", .type "BaseException", .type "object"] hdct sn sub ab col dd k0 k1 k2 k3 k5 "Exception.__new__"))
    (he : h.get? e = some { cls := .ref C, data := .fields #[.ref t0, .none, .none, .none, .bool false, .none] })
    (hq : ∀ h' t', (∀ b o, b ≠ e → h.get? b = some o → h'.get? b = some o) → h.get? t' = none → e ≠ t' → h'.get? t' = some { cls := .type "tuple", data := .seq [v].toArray } →
      h'.get? e = some { cls := .ref C, data := .fields #[.ref t', .none, .none, .none, .bool false, .none] } → Q .none ⟨h', g, d, tk, os⟩) :
    wpAny (model prog w) A (call (.builtin "Exception.__init__") [.ref e, v]) Q E ⟨h, g, d, tk, os⟩ := by
  have F := PySem.F.excBase_Exception
  have hlt := Heap.lt_size he
  refine wpAny_call (codeAny_call_builtin F.init.plain F.initEntry (wpAny_check_init_sub F hC he rfl ?_))
  wp_walk
  refine hq _ h.objs.size (fun b o hb ho => ?_) (Heap.get?_none_of_le (Nat.le_refl _)) (Nat.ne_of_lt hlt) ?_ ?_
  · rw [Heap.get?_update_other _ _ (Ne.symm hb)]
    exact Heap.get?_push_of_some _ ho
  · rw [Heap.get?_update_other _ _ (Nat.ne_of_lt hlt)]
    exact Heap.get?_push_at rfl rfl
  · rw [Heap.get?_update_self _ (Heap.get?_push_of_some _ he) rfl]
    rfl
end
section
section
variable {prog : Program} {w : World} {A : Around} {E : Value → Shared → Prop} {h : Heap} {g : Array GenState} {d : Drawn} {t : Nat} {os : OsState}
    {nm q : Str} {C N x : Addr} {bs : List Value} {sn : List Str} {sub : List Value} {ab : Bool} {col : Option Bool} {dd : Option Addr} {k0 k1 k2 k3 k5 : Option Value} {newId : String} {mN : Str → Option Value} {name : Str} {v : Value} {o : Obj}
/-- the first attribute of an own exception: its dict is made -/
theorem first_entry {tk : Tok} {Q : Fin → Shared → Prop}
    (hC : h.get? C = some (excClassObj nm q C N bs [.type "Exception", .type "BaseException", .type "object"] true sn sub ab col dd k0 k1 k2 k3 k5 newId)) (hn : h.Ns N mN) (hna : mN name = none)
    (hB : typeLookup (.type "Exception") name = pure none) (hx : h.get? x = some o) (hc : o.cls = .ref C) (hdn : o.dict = none) (hnc : ∀ c, o.data ≠ .cls c)
    (hq : ∀ h' tk', (∀ b ob, b ≠ x → h.get? b = some ob → h'.get? b = some ob) → h'.get? x = some { cls := o.cls, dict := some h.objs.size, data := o.data, slots := o.slots } → h'.Ns1 h.objs.size (fun y => if y = name then some v else none) → Q (.done (.ret .none)) ⟨h', g, d, tk', os⟩) :
    wpAny (model prog w) A (Builtin.«object.__setattr__» ⟨[.ref x, .str name tk, v], []⟩) Q E ⟨h, g, d, t, os⟩ := by
  have SF := PySem.F.store_Exception
  have hpass := SF.passes (.ref x)
  unfold Builtin.«object.__setattr__»
  repeat (first | rw [refuse_eq] | (rw [refuseLoop_ref, hpass]) | (with_reducible refine wpAny_loadPart_at hx ?_; rw [hc]) | with_reducible refine wpAny_mroOf_exc hC ?_ | (with_reducible refine wpAny_typeLookup_exc hC hn SF.mro hB ?_; rw [hna]) | wp_step)
  rw [hdn, if_neg (by simp [typeHasDict])]
  split
  · rename_i hcd
    cases hcd
  split
  · rename_i c hcd
    exact absurd hcd (hnc c)
  have hx₁ : (h.push { cls := .type "dict", data := .dict #[] }).get? x = some o := Heap.get?_push_of_some _ hx
  have hxs : x ≠ h.objs.size := Nat.ne_of_lt (Heap.lt_size hx)
  refine wpAny_bind (wpAny_alloc' ?_)
  refine wpAny_bind (wpAny_update' hx₁ ?_)
  refine wpAny_pure ?_
  have hgd : ((h.push { cls := .type "dict", data := .dict #[] }).update x fun o => { cls := o.cls, dict := some h.objs.size, data := o.data, slots := o.slots }).get? h.objs.size = some { cls := .type "dict", data := .dict #[] } :=
    (Heap.get?_update_ne _ _ _ _ hxs.symm).trans (Heap.get?_push_at rfl rfl)
  have hnd : ((h.push { cls := .type "dict", data := .dict #[] }).update x fun o => { cls := o.cls, dict := some h.objs.size, data := o.data, slots := o.slots }).Ns h.objs.size (fun _ => none) :=
    ⟨_, #[], _, hgd, rfl, fun e he => absurd he (by simp), fun _ => rfl⟩
  show wpAny _ _ (Builtin.ObjectAttr.storeInDict h.objs.size (.str name tk) name v) _ _ _
  unfold Builtin.ObjectAttr.storeInDict Builtin.ObjectAttr.newKeyGuard
  refine wpAny_bind (wpAny_pure (wpAny_bind (wpAny_nsSet1 (Heap.Ns1.of_empty hnd) fun h' hn' hs => ?_)))
  obtain ⟨oD, esD, epD, hoD, hdD, hcD⟩ := hn'.count (Within.cons name v Within.nil)
  refine wpAny_bind (wpAny_lookBehind hoD (by rw [hdD]; exact pastItsLine_dict (Nat.le_trans hcD (by rw [List.length_cons, List.length_nil, sizeLine_eq]; omega))) ?_)
  wp_walk
  refine hq h' _ (fun b ob hbx hb => ?_) ?_ hn'
  · exact (hs.2 b (Nat.ne_of_lt (Heap.lt_size hb))).trans ((Heap.get?_update_ne _ _ _ _ hbx).trans (Heap.get?_push_of_some _ hb))
  · refine (hs.2 x hxs).trans (Heap.get?_update_self _ hx₁ ?_)
    have hfr := (Heap.get?_some_iff.mp hx).2
    obtain ⟨oc, od, odt, osl⟩ := o
    cases odt <;> first | rfl | exact hfr
theorem first_call {sa owner : String} {tk : Tok} {R : Result → Shared → Prop} (SF : StoreFacts "Exception" [.type "Exception", .type "BaseException", .type "object"] sa owner)
    (hC : h.get? C = some (excClassObj nm q C N bs [.type "Exception", .type "BaseException", .type "object"] true sn sub ab col dd k0 k1 k2 k3 k5 newId)) (hn : h.Ns N mN) (hna : mN name = none)
    (hB : typeLookup (.type "Exception") name = pure none) (hx : h.get? x = some o) (hc : o.cls = .ref C) (hdn : o.dict = none) (hnc : ∀ c, o.data ≠ .cls c)
    (hq : ∀ h' tk', (∀ b ob, b ≠ x → h.get? b = some ob → h'.get? b = some ob) → h'.get? x = some { cls := o.cls, dict := some h.objs.size, data := o.data, slots := o.slots } → h'.Ns1 h.objs.size (fun y => if y = name then some v else none) → R (.ok (.ret .none)) ⟨h', g, d, tk', os⟩) :
    codeAny (model prog w) A (.call (.builtin sa) ⟨[.ref x, .str name tk, v], []⟩) R ⟨h, g, d, t, os⟩ :=
  codeAny_call_builtin SF.slot.plain SF.entry (wpAny_check_sa SF hC hx hc (first_entry hC hn hna hB hx hc hdn hnc hq))
theorem first_attr {sa owner : String} {Q : Unit → Shared → Prop} (SF : StoreFacts "Exception" [.type "Exception", .type "BaseException", .type "object"] sa owner)
    (hC : h.get? C = some (excClassObj nm q C N bs [.type "Exception", .type "BaseException", .type "object"] true sn sub ab col dd k0 k1 k2 k3 k5 newId)) (hn : h.Ns N mN) (hns : mN "__setattr__" = none) (hna : mN name = none)
    (hB : typeLookup (.type "Exception") name = pure none) (hx : h.get? x = some o) (hc : o.cls = .ref C) (hdn : o.dict = none) (hnc : ∀ c, o.data ≠ .cls c)
    (hq : ∀ h' tk', (∀ b ob, b ≠ x → h.get? b = some ob → h'.get? b = some ob) → h'.get? x = some { cls := o.cls, dict := some h.objs.size, data := o.data, slots := o.slots } → h'.Ns1 h.objs.size (fun y => if y = name then some v else none) → Q () ⟨h', g, d, tk', os⟩) :
    wpAny (model prog w) A (setAttr (.ref x) name v) Q E ⟨h, g, d, t, os⟩ := by
  have f3 := SF.slot.bind (.ref x)
  unfold setAttr callSpecial? specialOf
  repeat (any_goals (first | assumption | (with_reducible refine wpAny_loadPart_at hx ?_; rw [hc]) | (with_reducible refine wpAny_typeLookup_exc hC hn SF.mro SF.slot.lookup ?_; rw [hns]) | wp_step))
  refine first_call SF hC hn hna hB hx hc hdn hnc (fun h' tk' a1 a2 a3 => ?_)
  repeat (any_goals (first | assumption | wp_step))
  exact hq h' tk' a1 a2 a3
end
end
section
abbrev excO (t : Addr) : Obj := { cls := .ref 31, data := .fields #[.ref t, .none, .none, .none, .bool false, .none] }
theorem cls31 {w : World} {h : Heap} (X : (hd.heap_1 w.params).In h) : ∃ nm q bs sn sub ab col dd k0 k1 k2 k3 k5, h.get? 31 = some (excClassObj nm q 31 30 bs [.type "Exception", .type "BaseException", .type "object"] true sn sub ab col dd k0 k1 k2 k3 k5 "Exception.__new__") := by
  have e : ∃ nm q bs sn sub ab col dd k0 k1 k2 k3 k5, (hd.heap_1 w.params).lookup 31 = some (excClassObj nm q 31 30 bs [.type "Exception", .type "BaseException", .type "object"] true sn sub ab col dd k0 k1 k2 k3 k5 "Exception.__new__") := by
    with_unfolding_all exact ⟨_, _, _, _, _, _, _, _, _, _, _, _, _, rfl⟩
  obtain ⟨nm, q, bs, sn, sub, ab, col, dd, k0, k1, k2, k3, k5, e⟩ := e
  exact ⟨nm, q, bs, sn, sub, ab, col, dd, k0, k1, k2, k3, k5, X _ _ e⟩
theorem ns_some {K : Frag} {h : Heap} {N : Addr} {mN : Str → Option Value} {n : Str} {v : Value} (X : K.In h) (G : h.Ns N mN) (e : nsIn K N n = some (some v)) : mN n = some v := by
  obtain ⟨o, es, ep, ho, hd, _, hf⟩ := G
  unfold nsIn at e
  split at e
  · rename_i c d es' n' sl q
    have q2 := X _ _ q
    rw [ho] at q2
    cases q2
    cases hd
    split at e
    · rename_i en he
      cases e
      rw [← hf]
      unfold nsFind findBy
      rw [← Array.find?_toList, he]
      rfl
    · split at e <;> cases e
  · cases e
theorem ns30 {w : World} {h : Heap} (X : (hd.heap_1 w.params).In h) : ∃ mN, h.Ns 30 mN ∧ mN "__setattr__" = none ∧ mN "kind" = none ∧ mN "text" = none ∧ mN "__init__" = some (.ref 28) := by
  have ok : nsOkIn (hd.heap_1 w.params) 30 = true := by with_unfolding_all rfl
  have a1 : nsIn (hd.heap_1 w.params) 30 "__setattr__" = some none := by with_unfolding_all rfl
  have a2 : nsIn (hd.heap_1 w.params) 30 "kind" = some none := by with_unfolding_all rfl
  have a3 : nsIn (hd.heap_1 w.params) 30 "text" = some none := by with_unfolding_all rfl
  have a4 : nsIn (hd.heap_1 w.params) 30 "__init__" = some (some (.ref 28)) := by with_unfolding_all rfl
  have G : h.Ns 30 (h.nsMap 30) := .of_isNs (isNs_of_in X ok)
  exact ⟨_, G, nsMap_none_of_in X ok a1, nsMap_none_of_in X ok a2, nsMap_none_of_in X ok a3, ns_some X G a4⟩
theorem no_kind : typeLookup (.type "Exception") "kind" = pure none := by rw [typeLookup_type, builtinLookup_eq_fast]; kernel_rfl
theorem no_text : typeLookup (.type "Exception") "text" = pure none := by rw [typeLookup_type, builtinLookup_eq_fast]; kernel_rfl
theorem fr_but2 {h₀ h h' : Heap} {L I J : Addr} {m : Str → Option Value} (F : Fr h₀ L h m) (hk : ∀ b o, b ≠ I → b ≠ J → h.get? b = some o → h'.get? b = some o) (hL : L ≠ I) (hLJ : L ≠ J) (hI : h₀.get? I = none) (hJ : h₀.get? J = none) : Fr h₀ L h' m :=
  ⟨F.ns.at' fun o e => hk L o hL hLJ e, fun b o e => hk b o (fun q => by rw [q, hI] at e; cases e) (fun q => by rw [q, hJ] at e; cases e) (F.keep b o e), F.above⟩
theorem k_exc_init {w : World} {A : Around} {E : Value → Shared → Prop} {Q : Value → Shared → Prop} {s : Shared} {h₀ : Heap} {L e t : Addr} {m : Str → Option Value} {rest : Led} {v : Value}
    (F : Fr h₀ L s.heap m) (N : News h₀ L s.heap ((e, excO t) :: rest)) (X₀ : (hd.heap_1 w.params).In h₀) (hre : ∀ p ∈ rest, @Ne Nat p.1 e)
    (k : ∀ h' t', Fr h₀ L h' m → News h₀ L h' ((e, excO t') :: rest) → Q .none { s with heap := h' }) :
    wpAny (model (PySem.Challenge.rw_rh0026_01).row.prog w) A (call (.builtin "Exception.__init__") [.ref e, v]) Q E s := by
  obtain ⟨nm, q, bs, sn, sub, ab, col, dd, k0, k1, k2, k3, k5, hC⟩ := cls31 (X₀.keeps F.keep)
  obtain ⟨he, heL, he0⟩ := N _ (.head _)
  refine exc_init_call hC he fun h' t' keep _ _ _ he' => ?_
  refine k h' t' (LCg.fr_but (I := e) F (fun b o hb ho => keep b o (by simpa using hb) ho) (Ne.symm heL) he0) fun p hp => ?_
  rcases List.mem_cons.mp hp with rfl | hp
  · exact ⟨he', heL, he0⟩
  · have n := N p (.tail _ hp)
    exact ⟨keep _ _ (hre p hp) n.1, n.2⟩
theorem k_first_attr {w : World} {A : Around} {E : Value → Shared → Prop} {Q : Unit → Shared → Prop} {s : Shared} {h₀ : Heap} {L e t : Addr} {m : Str → Option Value} {rest : Led} {v : Value}
    (F : Fr h₀ L s.heap m) (N : News h₀ L s.heap ((e, excO t) :: rest)) (X₀ : (hd.heap_1 w.params).In h₀) (hre : ∀ p ∈ rest, @Ne Nat p.1 e)
    (k : ∀ h' tk' dx oD, Fr h₀ L h' m → News h₀ L h' ((e, ({ cls := .ref 31, dict := some dx, data := .fields #[.ref t, .none, .none, .none, .bool false, .none] } : Obj)) :: (dx, oD) :: rest) → @Ne Nat dx e → (∀ p ∈ rest, @Ne Nat p.1 dx) → h'.Ns1 dx (fun y => if y = Str.ofString "kind" then some v else none) → Q () { s with heap := h', toks := tk' }) :
    wpAny (model (PySem.Challenge.rw_rh0026_01).row.prog w) A (setAttr (.ref e) "kind" v) Q E s := by
  obtain ⟨nm, q, bs, sn, sub, ab, col, dd, k0, k1, k2, k3, k5, hC⟩ := cls31 (X₀.keeps F.keep)
  obtain ⟨mN, hN, b1, b2, b3, b4⟩ := ns30 (X₀.keeps F.keep)
  obtain ⟨he, heL, he0⟩ := N _ (.head _)
  refine first_attr PySem.F.store_Exception hC hN b1 b2 no_kind he rfl rfl (fun c => by intro q; cases q) fun h' tk' keep he' hns => ?_
  obtain ⟨oD, hoD, _⟩ := LCg.ns_obj hns.ns
  have hxs : e ≠ s.heap.objs.size := Nat.ne_of_lt (Heap.lt_size he)
  refine k h' tk' s.heap.objs.size oD (LCg.fr_but (I := e) F (fun b o hb ho => keep b o (by simpa using hb) ho) (Ne.symm heL) he0) (fun p hp => ?_) (Ne.symm hxs) (fun p hp => Nat.ne_of_lt (Heap.lt_size (N p (.tail _ hp)).1)) hns
  rcases List.mem_cons.mp hp with rfl | hp
  · exact ⟨he', heL, he0⟩
  rcases List.mem_cons.mp hp with rfl | hp
  · exact ⟨hoD, Nat.ne_of_gt F.ns.lt, next_is_new F⟩
  · have n := N p (.tail _ hp)
    exact ⟨keep _ _ (hre p hp) n.1, n.2⟩
theorem k_more_attr {w : World} {A : Around} {E : Value → Shared → Prop} {Q : Unit → Shared → Prop} {s : Shared} {h₀ : Heap} {L e dx : Addr} {oe oD : Obj} {m mA : Str → Option Value} {rest : Led} {v : Value} {fs : Array Value}
    (F : Fr h₀ L s.heap m) (N : News h₀ L s.heap ((e, oe) :: (dx, oD) :: rest)) (X₀ : (hd.heap_1 w.params).In h₀) (hc : oe.cls = .ref 31) (hd : oe.dict = some dx) (hf : oe.data = .fields fs) (hre : ∀ p ∈ rest, @Ne Nat p.1 e) (hrd : ∀ p ∈ rest, @Ne Nat p.1 dx) (hde : @Ne Nat dx e) (hns : s.heap.Ns1 dx mA) {ns : List Str} (hw : Within mA ns) (hsz : ns.length ≤ sizeLine)
    (k : ∀ h' tk' oD' , Fr h₀ L h' m → News h₀ L h' ((e, oe) :: (dx, oD') :: rest) → LCg.NsObj oD' (fun y => if y = Str.ofString "text" then some v else mA y) → Q () { s with heap := h', toks := tk' }) :
    wpAny (model (PySem.Challenge.rw_rh0026_01).row.prog w) A (setAttr (.ref e) "text" v) Q E s := by
  obtain ⟨nm, q, bs, sn, sub, ab, col, dd, k0, k1, k2, k3, k5, hC⟩ := cls31 (X₀.keeps F.keep)
  obtain ⟨mN, hN, b1, b2, b3, b4⟩ := ns30 (X₀.keeps F.keep)
  obtain ⟨he, heL, he0⟩ := N _ (.head _)
  obtain ⟨hdx, hdL, hd0⟩ := N _ (.tail _ (.head _))
  have h31 : e ≠ 31 := fun q => by
    obtain ⟨_, _, _, _, _, _, _, _, _, _, _, _, _, hC0⟩ := cls31 X₀
    rw [q, hC0] at he0
    cases he0
  refine store_attr PySem.F.store_Exception hC hN b1 b3 no_text h31 ⟨oe, he, hc, (fun c => by rw [hf]; intro q; cases q), .inr ⟨dx, hd, hde, hns⟩⟩ (fun h' tk' I keep same => ?_) hw hsz
  obtain ⟨o₁, h1, c1, c2, c3, c4⟩ := same oe he
  have c4' := c4 dx hd
  have keep' : ∀ b o, b ≠ e → b ≠ dx → s.heap.get? b = some o → h'.get? b = some o := fun b o n1 n2 ho => keep b o n1 (fun o₀ dx' e1 e2 => by rw [he] at e1; cases e1; rw [hd] at e2; cases e2; exact n2) ho
  have eo : o₁ = oe := by
    obtain ⟨a1, a2, a3, a4⟩ := o₁
    obtain ⟨d1, d2, d3, d4⟩ := oe
    dsimp only at c1 c2 c3 c4' hd
    rw [c1, c2, c3, c4', hd]
  rw [eo] at h1
  obtain ⟨o₂, g1, g2, g3, g4⟩ := I
  rw [h1] at g1
  cases g1
  rcases g4 with ⟨g4, _⟩ | ⟨dx', g4, g5, g6⟩
  · rw [hd] at g4; cases g4
  rw [hd] at g4
  cases g4
  obtain ⟨oD', hoD', hob⟩ := LCg.ns_obj g6.ns
  refine k h' tk' oD' (fr_but2 F keep' (Ne.symm heL) (Ne.symm hdL) he0 hd0) (fun p hp => ?_) hob
  rcases List.mem_cons.mp hp with rfl | hp
  · exact ⟨h1, heL, he0⟩
  rcases List.mem_cons.mp hp with rfl | hp
  · exact ⟨hoD', hdL, hd0⟩
  · have n := N p (.tail _ (.tail _ hp))
    exact ⟨keep' _ _ (hre p hp) (hrd p hp) n.1, n.2⟩
section
local macro_rules | `(tactic| k_all) => `(tactic| assumption)
local macro_rules | `(tactic| walk_at "getMethod type:Exception") => `(tactic| (k_here; refine' method_type ?F ?X ?m (by decide +kernel) ?e ?h ?_; (case F => k_asm); (case X => k_asm); (case m => kernel_rfl); (case e => k_dflt k_is); (case h => k_handed)))
local macro_rules | `(tactic| walk_at "call builtin:Exception.__init__") => `(tactic| refine Hold.out ?_)
local macro_rules | `(tactic| walk_at "setAttr ref") => `(tactic| refine Hold.out ?_)
/-- CasFail's own __init__ -/
theorem ex_init {w : World} : Con 630 1200 w 28 (fun news vs Post => ∃ e t t1 t2 rest, news = (e, excO t) :: rest ∧ vs = [.ref e, S "limit" t1, S "a derivative of too many factors" t2] ∧ (∀ p ∈ rest, @Ne Nat p.1 e) ∧
    ∀ o₁ dx oD t' mA, o₁.cls = .ref 31 → o₁.data = .fields #[.ref t', .none, .none, .none, .bool false, .none] → o₁.dict = some dx → @Ne Nat dx e → LCg.NsObj oD mA → mA "kind" = some (S "limit" t1) → Post ((e, o₁) :: (dx, oD) :: rest) .none) := by
  unfold Con; k_fill
  intro loose mean mg mb cn cs a ccd cl outer A₀ base h₀ L m news s vs Q E Post B F X N T hk hR hret
  obtain ⟨e, t, t1, t2, rest, rfl, rfl, hre, hP⟩ := hR
  refine wpAny_call ?_
  k_dflt ktr_enter
  k_steps
  refine Hold.mk ?_
  refine k_exc_init (by k_asm) (by k_asm) (by k_asm) hre fun h2 t' F2 N2 => ?_
  k_steps
  refine Hold.mk ?_
  refine k_first_attr (by k_asm) (by k_asm) (by k_asm) hre fun h3 tk3 dx oD F3 N3 hde hrd hns => ?_
  k_steps
  refine Hold.mk ?_
  refine k_more_attr (by k_asm) (by k_asm) (by k_asm) rfl rfl rfl hre hrd hde hns (Within.cons _ _ Within.nil) (by size_fits) fun h4 tk4 oD' F4 N4 hob => ?_
  k_steps
  exact hret _ _ _ _ (by k_asm) (by k_asm) (hP _ _ _ _ _ rfl rfl rfl hde hob rfl)
end
end
section
theorem fn28 {w : World} {h : Heap} (X : (hd.heap_1 w.params).In h) : ∃ oI, h.get? 28 = some oI ∧ oI.cls = .type "function" := by
  have e : ∃ oI, (hd.heap_1 w.params).lookup 28 = some oI ∧ oI.cls = .type "function" := by
    with_unfolding_all exact ⟨_, rfl, rfl⟩
  obtain ⟨oI, e1, e2⟩ := e
  exact ⟨oI, X _ _ e1, e2⟩
theorem under_call (A : Around) (C : Addr) (vals : List Value) : (A.under (.builtin "type.__call__" ⟨.ref C :: vals, []⟩)).handled = A.handled ∧ (A.under (.builtin "type.__call__" ⟨.ref C :: vals, []⟩)).depth ≤ A.depth + 1 ∧ (A.under (.builtin "type.__call__" ⟨.ref C :: vals, []⟩)).units ≤ A.units + 1 ∧ (∀ l, A.frames = some l → (A.under (.builtin "type.__call__" ⟨.ref C :: vals, []⟩)).frames = some l) := by
  refine ⟨rfl, Nat.le_of_eq rfl, Nat.le_of_eq rfl, fun l h => ?_⟩
  unfold Around.under
  rw [h]
  rfl
/-- CasFail(..): the exception made, its dict in the ledger -/
theorem k_cas_fail {w : World} {loose : List Str} {mean : ExcName → Option Value} {mg mb : Str → Option Value} {env : Env} {cn : Str} {cs : Scope} {a : Addr} {ccd : Value} {cl : List (Str × Addr)} {outer : List Env} {A A₀ : Around} {base h₀ : Heap} {L : Addr} {m : Str → Option Value} {news : Led} {s : Shared} {t1 t2 : Tok}
    {Q E : Value → Shared → Prop}
    (B : Below A₀ base outer h₀) (F : Fr h₀ L s.heap m) (X : (hd.heap_1 w.params).In h₀) (N : News h₀ L s.heap news) (T : Top topProg loose mean mg mb h₀) (he : env = envX cn cs L a ccd cl) (hk : cs.kind = .function)
    (hA1 : A.handled = none) (hA2 : A.depth ≤ 600) (hA3 : A.units ≤ 1100) (hA : A.frames = some (env :: outer))
    (k : ∀ h' tk' e o₁ dx oD t' mA, Fr h₀ L h' m → News h₀ L h' ((e, o₁) :: (dx, oD) :: news) → o₁.cls = .ref 31 → o₁.data = .fields #[.ref t', .none, .none, .none, .bool false, .none] → o₁.dict = some dx → @Ne Nat dx e → LCg.NsObj oD mA → mA "kind" = some (S "limit" t1) → (∀ p ∈ news, @Ne Nat p.1 e) → Q (.ref e) { s with heap := h', toks := tk' }) :
    wpAny (model (PySem.Challenge.rw_rh0026_01).row.prog w) A (call (.ref 31) [S "limit" t1, S "a derivative of too many factors" t2]) Q E s := by
  obtain ⟨nm, q, bs, sn, sub, ab, col, dd, k0, k1, k2, k3, k5, hC⟩ := cls31 (X.keeps F.keep)
  obtain ⟨mN, hN, b1, b2, b3, b4⟩ := ns30 (X.keeps F.keep)
  obtain ⟨oI, hI, hIc⟩ := fn28 (X.keeps F.keep)
  refine wpAny_call_exc_init PySem.F.excBase_Exception hC hN b4 hI hIc (fun h' e hm => ?_)
  obtain ⟨t, het, htn, htt⟩ := hm.there
  obtain ⟨u1, u2, u3, u4⟩ := under_call A 31 [S "limit" t1, S "a derivative of too many factors" t2]
  have F' := F.keeps hm.keeps
  have heL : @Ne Nat e L := fun z => by
    obtain ⟨o, _, _, ho, _⟩ := F.ns
    have z' : e = L := z
    have := hm.new
    rw [z', ho] at this
    cases this
  have he0 : h₀.get? e = none := by
    cases z : h₀.get? e with
    | none => rfl
    | some o => have := F.keep _ _ z; rw [hm.new] at this; cases this
  have hne : ∀ p ∈ news, @Ne Nat p.1 e := fun p hp z => by
    have z' : p.1 = e := z
    have := (N p hp).1
    rw [z', hm.new] at this
    cases this
  have N' : News h₀ L h' ((e, excO t) :: news) := fun p hp => by
    rcases List.mem_cons.mp hp with rfl | hp
    · exact ⟨het, heL, he0⟩
    · exact N.grown hm.keeps p hp
  refine con_use ex_init (fun nw r => r = .none ∧ ∃ o₁ dx oD t' mA, nw = (e, o₁) :: (dx, oD) :: news ∧ o₁.cls = .ref 31 ∧ o₁.data = .fields #[.ref t', .none, .none, .none, .bool false, .none] ∧ o₁.dict = some dx ∧ @Ne Nat dx e ∧ LCg.NsObj oD mA ∧ mA "kind" = some (S "limit" t1))
    B F' X N' T he hk (u1.trans hA1) (Nat.le_trans u2 (by omega)) (Nat.le_trans u3 (by omega)) (u4 _ hA)
    ⟨e, t, t1, t2, news, rfl, rfl, hne, fun o₁ dx oD t' mA a1 a2 a3 a4 a5 a6 => ⟨rfl, o₁, dx, oD, t', mA, rfl, a1, a2, a3, a4, a5, a6⟩⟩ fun r nw h2 tk2 F2 N2 z => ?_
  obtain ⟨rfl, o₁, dx, oD, t', mA, rfl, a1, a2, a3, a4, a5, a6⟩ := z
  exact ⟨rfl, k h2 tk2 e o₁ dx oD t' mA F2 N2 a1 a2 a3 a4 a5 a6 hne⟩
end
section
section
variable {M : Model} {A : Around} {E : Value → Shared → Prop} {s : Shared} {env : Env}
variable {nm q : Str} {C N : Addr} {bs : List Value} {hdct : Bool} {sn : List Str} {sub : List Value} {ab : Bool} {col : Option Bool} {dd : Option Addr} {k0 k1 k2 k3 k5 : Option Value} {newId : String}
theorem raise_made {x : Sem Value} {Q : Flow → Shared → Prop} (hh : A.handled = none)
    (h : wpAny M A x (fun v s₁ => ∃ e t od osl nm q bs hdct sn sub ab col dd k0 k1 k2 k3 k5, v = .ref e ∧ s₁.heap.get? 31 = some (excClassObj nm q 31 30 bs [.type "Exception", .type "BaseException", .type "object"] hdct sn sub ab col dd k0 k1 k2 k3 k5 "Exception.__new__") ∧
      s₁.heap.get? e = some { cls := .ref 31, dict := od, data := .fields #[.ref t, .none, .none, .none, .bool false, .none], slots := osl } ∧ E (.ref e) s₁) E s) :
    wpAny M A (raiseStmt env (some x) none) Q E s := by
  have hcB : (Value.ref 31 :: [Value.type "Exception", .type "BaseException", .type "object"]).contains (.type "BaseException") = true := by decide
  unfold raiseStmt
  refine wpAny_bind (wpAny_mono h (fun v s₁ h₁ => ?_) fun _ _ x => x)
  obtain ⟨e, t, od, osl, nm, q, bs, hdct, sn, sub, ab, col, dd, k0, k1, k2, k3, k5, rfl, hC, he, hE⟩ := h₁
  obtain ⟨hp, g, d, tk, os⟩ := s₁
  repeat (first | with_reducible refine wpAny_loadPart_at he ?_ | with_reducible refine wpAny_loadPart_at hC ?_ | (with_reducible refine wpAny_isSubtype_exc hC ?_; rw [hcB]) | wp_step)
  exact wpAny_raiseNew_none hh hE
theorem exec_raise {ex : Expr} {pos : Pos} {Q : Flow → Shared → Prop} (hh : A.handled = none)
    (h : wpAny M A (eval ex env) (fun v s₁ => ∃ e t od osl nm q bs hdct sn sub ab col dd k0 k1 k2 k3 k5, v = .ref e ∧ s₁.heap.get? 31 = some (excClassObj nm q 31 30 bs [.type "Exception", .type "BaseException", .type "object"] hdct sn sub ab col dd k0 k1 k2 k3 k5 "Exception.__new__") ∧
      s₁.heap.get? e = some { cls := .ref 31, dict := od, data := .fields #[.ref t, .none, .none, .none, .bool false, .none], slots := osl } ∧ E (.ref e) s₁) E s) :
    wpAny M A (exec (.Raise (some ex) none pos) env) Q E s := by
  rw [arm_exec_Raise]
  simp only [evalOpt, Option.map]
  exact wpAny_bind (wpAny_standAt (raise_made hh (wpAny_bind (wpAny_mono h (fun v s₁ h₁ => wpAny_bind (wpAny_standAt (wpAny_pure h₁))) fun _ _ x => x))))
end
end
section
/-- CasFail in flight, its dict kept: fl is the frame that its newest entry stands at (none: let go) -/
def FlyD (base : Heap) (l : List Env) (e D : Addr) (fl : Value) (h : Heap) : Prop :=
  base.StaysIn h ∧ base.get? e = none ∧ h.FunFrames base l ∧ ∃ oe vs T oT ts, h.get? e = some oe ∧ oe.cls = .ref 31 ∧ oe.dict = some D ∧ oe.data = .fields vs ∧ vs[1]? = some (.ref T) ∧ base.get? T = none ∧ T ≠ e ∧ h.get? T = some oT ∧ oT.data = .fields ts ∧ ts[3]? = some fl
section
variable {M : Model} {A : Around} {E : Value → Shared → Prop} {s : Shared} {base : Heap} {env : Env} {outer : List Env} {L e D : Addr}
theorem entry_at {oe : Obj} {vs : Array Value} {head : Value} {hadNext : Bool} {Q : Unit → Shared → Prop}
    (hfr : A.frames = some (env :: outer)) (hl : s.heap.FunFrames base (env :: outer)) (hf : env.frame = some L)
    (he : s.heap.get? e = some oe) (hkb : base.StaysIn s.heap) (hen : base.get? e = none) (hc : oe.cls = .ref 31) (hD : oe.dict = some D) (hd : oe.data = .fields vs) (hsz : 1 < vs.size)
    (h : ∀ h', FlyD base (env :: outer) e D (rawInt L) h' → s.heap.UpToSlots h' → Q () { s with heap := h' }) :
    wpAny M A (do let a ← frameOf env; let pl ← entryPlaceOf L hadNext; let b ← EntryCells.newEntry head a .none (rawInt L) .none pl; setField (.ref e) 1 b) Q E s := by
  have hene : e ∉ (env :: outer).filterMap (·.frame) := fun hm => by
    obtain ⟨_, o, ho, hnf⟩ := hl.mem hm
    rw [he] at ho
    cases ho
    exact hnf vs hd
  refine wpAny_bind (wpAny_frameOf_fun hfr hl hf fun h₁ hs₁ => ?_)
  refine wpAny_bind (wpAny_entryPlaceOf fun pl hpl => ?_)
  unfold EntryCells.newEntry newFields
  refine wpAny_bind (wpAny_newObj_type ?_ (hpl.sizeOk5 _ _ _ _ _))
  have he₁ : h₁.get? e = some oe := (hs₁.2.1 e hene).trans he
  have kb₁ : base.StaysIn h₁ := fun b o hbo => (hs₁.2.1 b fun hm => by rw [(hl.mem hm).1] at hbo; cases hbo).trans (hkb b o hbo)
  have hne : h₁.objs.size ≠ e := Nat.ne_of_gt (Heap.lt_size he₁)
  generalize htb : ({ cls := .type "traceback", dict := none, data := .fields ([head, .ref L, .none, rawInt L, .none] ++ (if pl.isEmpty then List.replicate 6 Value.none else pl)).toArray } : Obj) = tb
  have he₂ := Heap.get?_push_of_some (h := h₁) tb he₁
  refine wpAny_setField he₂ hd hsz (h _ ?_ ?_)
  · refine ⟨fun b o hbo => ?_, hen, hl.of_keeps fun b o hb hnf => ?_, oe.mapFields (·.setIfInBounds 1 (Value.ref h₁.objs.size)), _, h₁.objs.size, tb, _, ?_, (Obj.cls_mapFields _ _).trans hc, ?_, Obj.data_mapFields hd _, by simp [hsz], kb₁.fresh, hne, ?_, by rw [← htb], ?_⟩
    · rw [Heap.get?_update_other _ _ (fun z => by rw [← z, hen] at hbo; cases hbo)]
      exact Heap.get?_push_of_some _ (kb₁ b o hbo)
    · obtain ⟨sl, hs⟩ := hs₁.2.2 b o hb
      refine ⟨{ o with slots := sl }, ?_, rfl⟩
      rw [Heap.get?_update_other _ _ (fun z => by rw [← z, he] at hb; cases hb; exact hnf vs hd)]
      exact Heap.get?_push_of_some _ hs
    · exact Heap.get?_update_self _ he₂ (Obj.isFreed_of_fields (Obj.data_mapFields hd _))
    · obtain ⟨a1, a2, a3, a4⟩ := oe
      dsimp only at hd hD
      rw [hd, hD]
      rfl
    · rw [Heap.get?_update_other _ _ (Ne.symm hne)]
      exact Heap.get?_push_size _ (by rw [← htb]; rfl)
    · first | (simp; done) | (rcases hpl with rfl | ⟨_, _, _, _, _, _, _, rfl⟩ <;> simp)
  · intro b o hb hnf
    obtain ⟨sl, hs⟩ := hs₁.2.2 b o hb
    refine ⟨sl, ?_⟩
    rw [Heap.get?_update_other _ _ (fun z => by rw [← z, he] at hb; cases hb; exact hnf vs hd)]
    exact Heap.get?_push_of_some _ hs
/-- the exception lets go of the frame that it stands at -/
theorem let_go {l : List Env} {fl : Value} {Q : Unit → Shared → Prop} (f : FlyD base l e D fl s.heap) (h : ∀ h', FlyD base l e D .none h' → s.heap.UpToSlots h' → Q () { s with heap := h' }) : wpAny M A (setFlight (.ref e) none) Q E s := by
  obtain ⟨hkb, hen, hl, oe, vs, T, oT, ts, he, hc, hD, hd, h1, hnT, hTe, hT, hdT, h3⟩ := f
  have hsz3 : 3 < ts.size := (Array.getElem?_eq_some_iff.mp h3).1
  unfold setFlight
  refine wpAny_bind (wpAny_field he hd h1 ?_)
  rw [if_pos (show (Value.ref T != Value.none) = true from by simp)]
  refine wpAny_setField hT hdT hsz3 (h _ ?_ ?_)
  · refine ⟨fun b o hbo => ?_, hen, hl.of_keeps fun b o hb hnf => ⟨o, ?_, rfl⟩, oe, vs, T, _, _, ?_, hc, hD, hd, h1, hnT, hTe, Heap.get?_update_self _ hT (Obj.isFreed_of_fields (Obj.data_mapFields hdT _)), Obj.data_mapFields hdT _, by simp [hsz3]⟩
    · rw [Heap.get?_update_other _ _ (fun z => by rw [← z, hnT] at hbo; cases hbo)]
      exact hkb b o hbo
    · rw [Heap.get?_update_other _ _ (fun z => by rw [← z, hT] at hb; cases hb; exact hnf ts hdT)]
      exact hb
    · rw [Heap.get?_update_other _ _ hTe]
      exact he
  · intro b o hb hnf
    refine ⟨o.slots, ?_⟩
    rw [Heap.get?_update_other _ _ (fun z => by rw [← z, hT] at hb; cases hb; exact hnf ts hdT)]
    exact hb
/-- the frame where it was raised is left -/
theorem leave_raised {oe : Obj} {vs : Array Value} {Q : Unit → Shared → Prop}
    (hfr : A.frames = some (env :: outer)) (hl : s.heap.FunFrames base (env :: outer)) (hf : env.frame = some L)
    (he : s.heap.get? e = some oe) (hkb : base.StaysIn s.heap) (hen : base.get? e = none) (hc : oe.cls = .ref 31) (hD : oe.dict = some D) (hd : oe.data = .fields vs) (h1 : vs[1]? = some .none)
    (h : ∀ h', FlyD base outer e D .none h' → s.heap.UpToSlots h' → Q () { s with heap := h' }) : wpAny M A (leaving env (.ref e)) Q E s := by
  unfold leaving noteFrame
  simp only [hf]
  refine wpAny_bind (wpAny_bind (wpAny_field he hd h1 ?_))
  rw [if_neg (by decide)]
  refine entry_at hfr hl hf he hkb hen hc hD hd (Array.getElem?_eq_some_iff.mp h1).1 fun h' f u => ?_
  refine let_go f fun h2 f2 u2 => ?_
  obtain ⟨a1, a2, ⟨_, _, a3⟩, a4⟩ := f2
  exact h h2 ⟨a1, a2, a3, a4⟩ (u.trans u2)
/-- it comes by a frame that has a try -/
theorem note_on {Q : Unit → Shared → Prop}
    (hfr : A.frames = some (env :: outer)) (hf : env.frame = some L) (f : FlyD base (env :: outer) e D .none s.heap)
    (h : ∀ h', FlyD base (env :: outer) e D (rawInt L) h' → s.heap.UpToSlots h' → Q () { s with heap := h' }) : wpAny M A (noteFrame (.ref e) env) Q E s := by
  obtain ⟨hkb, hen, hl, oe, vs, T, oT, ts, he, hc, hD, hd, h1, hnT, hTe, hT, hdT, h3⟩ := f
  unfold noteFrame
  simp only [hf]
  refine wpAny_bind (wpAny_field he hd h1 ?_)
  rw [if_pos (show (Value.ref T != Value.none) = true from by simp)]
  refine wpAny_bind (wpAny_field hT hdT h3 ?_)
  rw [if_neg (show ¬ ((Value.none == rawInt L) = true) from by simp [rawInt])]
  refine wpAny_bind (wpAny_setField hT hdT (Array.getElem?_eq_some_iff.mp h3).1 ?_)
  have oth : ∀ b o, s.heap.get? b = some o → (∀ vs, o.data ≠ .fields vs) → b ≠ T := fun b o hb hnf z => by rw [z, hT] at hb; cases hb; exact hnf ts hdT
  have get : ∀ b, b ≠ T → (s.heap.update T (Obj.mapFields (·.setIfInBounds 3 Value.none))).get? b = s.heap.get? b := fun b hb => Heap.get?_update_other _ _ (Ne.symm hb)
  refine entry_at hfr (hl.of_keeps fun b o hb hnf => ⟨o, (get b (oth b o hb hnf)).trans hb, rfl⟩) hf ((get e (Ne.symm hTe)).trans he) (fun b o hbo => (get b fun z => by rw [z, hnT] at hbo; cases hbo).trans (hkb b o hbo)) hen hc hD hd
    (Array.getElem?_eq_some_iff.mp h1).1 fun h' f u => h h' f fun b o hb hnf => u b o ((get b (oth b o hb hnf)).trans hb) hnf
end
end
section
/-- CasFail flies over the frames l; the ledger stays -/
def RaisedD (base : Heap) (l : List Env) (e D : Addr) (news : Led) (h : Heap) : Prop :=
  ∃ B, base.StaysIn B ∧ (∀ q ∈ news, B.get? q.1 = some q.2 ∧ base.get? q.1 = none) ∧ FlyD B l e D .none h
theorem leave_raisedK {M : Model} {A : Around} {E : Value → Shared → Prop} {Q : Unit → Shared → Prop} {s : Shared} {base g : Heap} {env : Env} {outer : List Env} {L e dx : Addr} {o₁ oD : Obj} {m : Str → Option Value} {news : Led} {t' : Addr}
    (K : Below A base outer g) (F : Fr g L s.heap m) (N : News g L s.heap ((e, o₁) :: (dx, oD) :: news)) (hf : env.frame = some L) (hk : env.scope.kind = .function)
    (hc : o₁.cls = .ref 31) (hd : o₁.data = .fields #[.ref t', .none, .none, .none, .bool false, .none]) (hD : o₁.dict = some dx) (hde : @Ne Nat dx e) (hne : ∀ p ∈ news, @Ne Nat p.1 e)
    (hQ : ∀ h', RaisedD base outer e dx ((dx, oD) :: news) h' → g.UpToSlots h' → Q () { s with heap := h' }) :
    wpAny M (A.deeper env) (leaving env (.ref e)) Q E s := by
  obtain ⟨he, heL, he0⟩ := N _ (.head _)
  have up : ∀ b, g.get? b = none → base.get? b = none := fun b hb => by
    cases hq : base.get? b with
    | none => rfl
    | some o' => have := K.stays b o' hq; rw [hb] at this; cases this
  have hLn : base.get? L = none := by
    cases hq : base.get? L with
    | none => rfl
    | some o => exact absurd (Nat.lt_of_lt_of_le (Heap.lt_size (K.stays L o hq)) F.above) (Nat.lt_irrefl _)
  have st : ∀ b o, base.get? b = some o → s.heap.get? b = some o := fun b o q => F.keep b o (K.stays b o q)
  have fr : s.heap.FunFrames base (env :: outer) := by
    obtain ⟨o, es, ep, ho, hdd, _⟩ := F.ns
    exact ⟨by rw [hk]; decide, ⟨L, o, hf, hLn, ho, fun vs z => by rw [hdd] at z; cases z⟩, K.frames.of_keeps fun b o e _ => ⟨o, F.keep b o e, rfl⟩⟩
  have hin : ∀ env' ∈ (env :: outer), ∀ b, env'.frame = some b → b ∈ e :: (env :: outer).filterMap (·.frame) := fun env' h1 b hb => .tail _ (List.mem_filterMap.mpr ⟨env', h1, hb⟩)
  have hl : ∀ q ∈ (dx, oD) :: news, (hideAll s.heap (e :: (env :: outer).filterMap (·.frame))).get? q.1 = some q.2 ∧ base.get? q.1 = none := fun q hq => by
    have n := N q (.tail _ hq)
    refine ⟨hideAll_get _ n.1 fun hm => ?_, up _ n.2.2⟩
    rcases List.mem_cons.mp hm with z | hm
    · rcases List.mem_cons.mp hq with rfl | hq
      · exact hde z
      · exact hne q hq z
    · obtain ⟨env', h1, h2⟩ := List.mem_filterMap.mp hm
      rcases List.mem_cons.mp h1 with rfl | h1
      · rw [hf] at h2
        exact n.2.1 (Option.some.inj h2).symm
      · obtain ⟨o, ho, _⟩ := (K.frames.mem (List.mem_filterMap.mpr ⟨env', h1, h2⟩)).2
        rw [n.2.2] at ho
        cases ho
  have hst : base.StaysIn (hideAll s.heap (e :: (env :: outer).filterMap (·.frame))) := fun b o q => hideAll_get _ (st b o q) fun hm => by
    rcases List.mem_cons.mp hm with z | hm
    · rw [z, up _ he0] at q; cases q
    · rw [(fr.mem hm).1] at q; cases q
  refine leave_raised (Around.frames_deeper K.stack) (funFrames_hide fr hin) hf he (fun b o q => of_hideAll _ q) (hideAll_none _ (.head _)) hc hD hd rfl fun h' f u => ?_
  exact hQ h' ⟨_, hst, hl, f⟩ ((Heap.UpToSlots.of_keeps F.keep).trans u)
def RaiseEnd (E : Value → Shared → Prop) (v : Value) (s₁ : Shared) : Prop :=
  ∃ e t od osl nm q bs hdct sn sub ab col dd k0 k1 k2 k3 k5, v = .ref e ∧ s₁.heap.get? 31 = some (excClassObj nm q 31 30 bs [.type "Exception", .type "BaseException", .type "object"] hdct sn sub ab col dd k0 k1 k2 k3 k5 "Exception.__new__") ∧
      s₁.heap.get? e = some { cls := .ref 31, dict := od, data := .fields #[.ref t, .none, .none, .none, .bool false, .none], slots := osl } ∧ E (.ref e) s₁
theorem raiseEnd_mk {w : World} {E : Value → Shared → Prop} {s₁ : Shared} {h₀ : Heap} {L e t : Addr} {m : Str → Option Value} {o₁ : Obj} {rest : Led} (F : Fr h₀ L s₁.heap m) (X : (hd.heap_1 w.params).In h₀) (N : News h₀ L s₁.heap ((e, o₁) :: rest))
    (hc : o₁.cls = .ref 31) (hd : o₁.data = .fields #[.ref t, .none, .none, .none, .bool false, .none]) (h : E (.ref e) s₁) : RaiseEnd E (.ref e) s₁ := by
  obtain ⟨nm, q, bs, sn, sub, ab, col, dd, k0, k1, k2, k3, k5, hC⟩ := cls31 (X.keeps F.keep)
  have he := (N _ (.head _)).1
  obtain ⟨a1, a2, a3, a4⟩ := o₁
  dsimp only at hc hd he
  rw [hc, hd] at he
  exact ⟨e, t, a2, a4, nm, q, bs, true, sn, sub, ab, col, dd, k0, k1, k2, k3, k5, rfl, hC, he, h⟩
theorem RaisedD.sub {base : Heap} {l : List Env} {e D : Addr} {news news' : Led} {h : Heap} (r : RaisedD base l e D news h) (hs : ∀ p ∈ news', p ∈ news) : RaisedD base l e D news' h := by
  obtain ⟨B, a, b, c⟩ := r
  exact ⟨B, a, fun q hq => b q (hs q hq), c⟩
theorem exec_raiseE {M : Model} {A : Around} {E : Value → Shared → Prop} {s : Shared} {env : Env} {ex : Expr} {pos : Pos} {Q : Flow → Shared → Prop} (hh : A.handled = none)
    (h : wpAny M A (eval ex env) (RaiseEnd E) E s) : wpAny M A (exec (.Raise (some ex) none pos) env) Q E s := exec_raise hh h
section
local macro_rules | `(tactic| k_all) => `(tactic| assumption)
local macro_rules | `(tactic| k_mem) => `(tactic| walk_at "mine r2")
local macro_rules | `(tactic| walk_at "eval ListComp") => `(tactic| walk_at "mine r1")
local macro_rules | `(tactic| walk_at "call builtin:len") => `(tactic| walk_at "mine r4")
local macro_rules | `(tactic| walk_at "compareOp Gt int int") => `(tactic| (refine gt_int ?_; rw [decide_eq_true (by assumption)]))
local macro_rules | `(tactic| walk_at "call ref") => `(tactic| ((with_reducible show wpAny _ _ (call (Value.ref 126) _) _ _ _); k_dflt (refine' cl_use ?B ?F ?X ?N ?T ?he ?hk ?a1 ?a2 ?a3 ?a4 ?hp ?_; walk_at "mine con"; (case hp => exact FcIn.x)); (intro h' tk' F' N'); (try rw [(rfl : Fc.has .x = true)])))
local macro_rules | `(tactic| walk_at "call ref") => `(tactic| ((with_reducible show wpAny _ _ (call (Value.ref 31) _) _ _ _); refine Hold.out ?_))
local macro_rules | `(tactic| walk_at "exec Raise some none") => `(tactic| k_dflt (refine exec_raiseE rfl ?_))
local macro_rules | `(tactic| walk_at "CompSrcTT") => `(tactic| refine Hold.out ?_)
local macro_rules | `(tactic| walk_at "leaving ref") => `(tactic| refine Hold.out ?_)
theorem ps_refuse {w : World} : ∀ (loose : List Str) (mean : ExcName → Option Value) (mg mb : Str → Option Value) (cn : Str) (cs : Scope) (a : Addr) (ccd : Value) (cl : List (Str × Addr)) (outer : List Env) (A₀ : Around) (base h₀ : Heap) (L : Addr) (m : Str → Option Value) (news : Led) (s : Shared) (b : Addr) (its : Array Value) (k : Nat) (t : Tok) (Q E : Value → Shared → Prop),
    Below A₀ base outer h₀ → Fr h₀ L s.heap m → (hd.heap_1 w.params).In h₀ → News h₀ L s.heap news → Top topProg loose mean mg mb h₀ → cs.kind = .function →
    (b, tupN its k) ∈ news → (∀ (i : Nat) (v : Value), its[i]? = some v → v = Value.ref 167) → 317 ≤ its.size → its.size ≤ 1000 →
    (∀ h' tk' e dx oD mA g t1, Fr h₀ L g m → g.UpToSlots h' → RaisedD base (envX cn cs L a ccd cl :: outer) e dx ((dx, oD) :: news) h' → LCg.NsObj oD mA → mA "kind" = some (S "limit" t1) → E (.ref e) { s with heap := h', toks := tk' }) →
    wpAny (model (PySem.Challenge.rw_rh0026_01).row.prog w) (ktrTop 590 900 none cn cs L a ccd cl outer) (call (.ref 154) [.ref b, S "x" t]) Q E s := by
  k_fill
  intro loose mean mg mb cn cs a ccd cl outer A₀ base h₀ L m news s b its k t Q E B F X N T hk hb hits hlo hhi hE
  obtain ⟨ck, c1, c2, c3, c4⟩ := cs
  obtain rfl : ck = ScopeKind.function := hk
  refine wpAny_call ?_
  k_dflt k_enter
  k_steps
  refine Hold.mk ?_
  refine CompSrcTT.intro (k := k) rfl (by k_asm) (by k_asm) (List.Mem.tail _ (List.Mem.tail _ hb)) (by rw [sizeLine_eq]; omega) ?_
  intro g
  refine comp_keep (List.Mem.tail _ (List.Mem.tail _ hb)) (fun i ys => ys.length = i) its.size ?turn ?fin its.size 0 [] (Nat.zero_add _) rfl
  case turn =>
    intro i ys v I oI C oC D m₂ h tk E' hi hJ hv hC hx F2 N2
    obtain rfl := hits i v hv
    k_steps
    all_goals first | assumption | (simp only [List.length_append, List.length_singleton, hJ])
  case fin =>
    intro ys hJ D h2 tk2 F2 N2 off2
    have hbig : ((its.size : Int) * (ys.toArray.size : Int) > 100000) := by
      have e : ys.toArray.size = ys.length := List.size_toArray ..
      rw [e, hJ]
      have h1 : 317 * 317 ≤ its.size * its.size := Nat.mul_le_mul hlo hlo
      rw [← Int.natCast_mul]
      omega
    k_steps
    refine Hold.mk ?_
    k_dflt (refine' k_cas_fail ?B ?F ?X ?N ?T ?he ?hk ?a1 ?a2 ?a3 ?a4 ?_; (case a4 => exact rfl); (case B => k_asm); (case F => k_asm); (case X => k_asm); (case N => k_asm); (case T => k_asm); (case he => exact rfl); (case hk => exact rfl); (case a1 => exact rfl); (case a2 => exact Nat.le_of_ble_eq_true rfl); (case a3 => exact Nat.le_of_ble_eq_true rfl))
    intro h3 tk3 e o₁ dx oD t' mA F3 N3 z1 z2 z3 z4 z5 z6 z7
    k_steps
    refine raiseEnd_mk (by k_asm) (by k_asm) (by k_asm) z1 z2 ?_
    k_steps
    refine Hold.mk ?_
    refine leave_raisedK (by k_asm) (by k_asm) (by k_asm) rfl rfl z1 z2 z3 z4 z7 (fun h' R u => ?_)
    k_steps
    refine hE _ _ _ _ _ _ _ _ (by k_asm) u (R.sub ?_) z5 z6
    intro p hp
    rcases List.mem_cons.mp hp with rfl | hp
    · exact .head _
    · exact .tail _ (.tail _ (.tail _ (.tail _ (.tail _ hp))))
end
end
section
section
variable {prog : Program} {w : World} {A : Around} {E : Value → Shared → Prop} {h : Heap} {g : Array GenState} {d : Drawn} {t : Nat} {os : OsState} {a dx : Addr} {o : Obj} {vx : Str} {vt : Tok} {vs : Array Value}
  {nm q : Str} {C N : Addr} {bs : List Value} {sn : List Str} {sub : List Value} {ab : Bool} {col : Option Bool} {dd : Option Addr} {k0 k1 k2 k3 k5 : Option Value} {newId : String} {mN mA : Str → Option Value}
theorem kind_entry {tk : Tok} {Q : Fin → Shared → Prop}
    (hC : h.get? C = some (excClassObj nm q C N bs [.type "Exception", .type "BaseException", .type "object"] true sn sub ab col dd k0 k1 k2 k3 k5 newId)) (hN : h.Ns N mN) (hn : mN "kind" = none)
    (hx : h.get? a = some o) (hc : o.cls = .ref C) (hd : o.data = .fields vs) (hD : o.dict = some dx) (hns : h.Ns dx mA) (hv : mA "kind" = some (.str vx vt)) (hq : Q (.done (.ret (.str vx vt))) ⟨h, g, d, t, os⟩) :
    wpAny (model prog w) A (Builtin.«object.__getattribute__» ⟨[.ref a, .str "kind" tk], []⟩) Q E ⟨h, g, d, t, os⟩ := by
  have FB := PySem.F.attrBase_Exception
  unfold Builtin.«object.__getattribute__»
  repeat (first | (with_reducible refine wpAny_loadPart_at hx ?_; rw [hc]) | (with_reducible refine wpAny_typeLookup_exc hC hN FB.mro no_kind ?_; rw [hn]) | wp_step)
  split
  · rename_i c hcd
    rw [hd] at hcd; cases hcd
  unfold instanceDict
  repeat (first | (with_reducible refine wpAny_loadPart_at hx ?_; rw [hc]) | with_reducible refine wpAny_loadPart_at hC ?_ | wp_step)
  rw [hD]
  repeat (first | (with_reducible refine wpAny_nsGet hns ?_; rw [hv]) | wp_step)
  exact hq
theorem kind_call {tk : Tok} {R : Result → Shared → Prop} (FB : ExcAttrBase "Exception" [.type "Exception", .type "BaseException", .type "object"])
    (hC : h.get? C = some (excClassObj nm q C N bs [.type "Exception", .type "BaseException", .type "object"] true sn sub ab col dd k0 k1 k2 k3 k5 newId)) (hN : h.Ns N mN) (hn : mN "kind" = none)
    (hx : h.get? a = some o) (hc : o.cls = .ref C) (hd : o.data = .fields vs) (hD : o.dict = some dx) (hns : h.Ns dx mA) (hv : mA "kind" = some (.str vx vt)) (hq : R (.ok (.ret (.str vx vt))) ⟨h, g, d, t, os⟩) :
    codeAny (model prog w) A (.call (.builtin "BaseException.__getattribute__") ⟨[.ref a, .str "kind" tk], []⟩) R ⟨h, g, d, t, os⟩ :=
  codeAny_call_builtin FB.ga.plain F.entry_bexc_ga (wpAny_check_ga_own FB hC .base hx hc (kind_entry hC hN hn hx hc hd hD hns hv hq))
theorem kind_by {tk : Tok} {fill expr : Bool} {Q : Value → Shared → Prop} (FB : ExcAttrBase "Exception" [.type "Exception", .type "BaseException", .type "object"])
    (hC : h.get? C = some (excClassObj nm q C N bs [.type "Exception", .type "BaseException", .type "object"] true sn sub ab col dd k0 k1 k2 k3 k5 newId)) (hN : h.Ns N mN) (hn : mN "kind" = none)
    (hx : h.get? a = some o) (hc : o.cls = .ref C) (hd : o.data = .fields vs) (hD : o.dict = some dx) (hns : h.Ns dx mA) (hv : mA "kind" = some (.str vx vt)) (hg1 : mN "__getattribute__" = none) (hg2 : mN "__getattr__" = none) (hq : Q (.str vx vt) ⟨h, g, d, t, os⟩) :
    wpAny (model prog w) A (getAttrBy (.ref a) (.str "kind" tk) fill expr) Q E ⟨h, g, d, t, os⟩ := by
  have f3 := FB.ga.bind (.ref a)
  have hx0 : (expr && onTheHeap (Value.builtin "BaseException.__getattribute__")) = false := by cases expr <;> rfl
  have hx2 : (Value.builtin "BaseException.__getattribute__" == Value.builtin "object.__getattribute__") = false := by decide +kernel
  have hx1 : (onTheHeap (Value.ref C) && Value.builtin "BaseException.__getattribute__" == Value.builtin "object.__getattribute__") = false := by rw [hx2]; rfl
  repeat (any_goals (first | assumption | (with_reducible refine wpAny_loadPart_at hx ?_; rw [hc]) | (with_reducible refine wpAny_typeLookup_exc hC hN FB.mro FB.ga.lookup ?_; rw [hg1]) | (with_reducible refine wpAny_typeLookup_exc hC hN FB.mro FB.noGetattr ?_; rw [hg2]) | wp_step))
  refine kind_call FB hC hN hn hx hc hd hD hns hv ?_
  repeat (any_goals (first | assumption | wp_step))
theorem kind_attr {expr : Bool} {Q : Value → Shared → Prop} (FB : ExcAttrBase "Exception" [.type "Exception", .type "BaseException", .type "object"])
    (hC : h.get? C = some (excClassObj nm q C N bs [.type "Exception", .type "BaseException", .type "object"] true sn sub ab col dd k0 k1 k2 k3 k5 newId)) (hN : h.Ns N mN) (hn : mN "kind" = none)
    (hx : h.get? a = some o) (hc : o.cls = .ref C) (hd : o.data = .fields vs) (hD : o.dict = some dx) (hns : h.Ns dx mA) (hv : mA "kind" = some (.str vx vt)) (hg1 : mN "__getattribute__" = none) (hg2 : mN "__getattr__" = none) (hq : Q (.str vx vt) ⟨h, g, d, t + 1, os⟩) :
    wpAny (model prog w) A (getAttr (.ref a) "kind" expr) Q E ⟨h, g, d, t, os⟩ := by
  unfold getAttr
  repeat (any_goals (first | assumption | with_reducible apply kind_by FB hC hN hn hx hc hd hD hns hv hg1 hg2 | wp_step))
end
end
section
theorem psr_use {w : World} {loose : List Str} {mean : ExcName → Option Value} {mg mb : Str → Option Value} {env : Env} {cn : Str} {cs : Scope} {a : Addr} {ccd : Value} {cl : List (Str × Addr)} {outer : List Env} {A A₀ : Around} {base h₀ : Heap} {L : Addr} {m : Str → Option Value} {news : Led} {s : Shared} {b : Addr} {its : Array Value} {k : Nat} {t : Tok}
    {Q E : Value → Shared → Prop}
    (B : Below A₀ base outer h₀) (F : Fr h₀ L s.heap m) (X : (hd.heap_1 w.params).In h₀) (N : News h₀ L s.heap news) (T : Top topProg loose mean mg mb h₀) (he : env = envX cn cs L a ccd cl) (hk : cs.kind = .function)
    (hA1 : A.handled = none) (hA2 : A.depth ≤ 590) (hA3 : A.units ≤ 900) (hA : A.frames = some (env :: outer)) (hb : (b, tupN its k) ∈ news) (hits : ∀ (i : Nat) (v : Value), its[i]? = some v → v = Value.ref 167) (hlo : 317 ≤ its.size) (hhi : its.size ≤ 1000)
    (hE : ∀ h' tk' e dx oD mA g t1, Fr h₀ L g m → g.UpToSlots h' → RaisedD base (env :: outer) e dx ((dx, oD) :: news) h' → LCg.NsObj oD mA → mA "kind" = some (S "limit" t1) → E (.ref e) { s with heap := h', toks := tk' }) :
    wpAny (model (PySem.Challenge.rw_rh0026_01).row.prog w) A (call (.ref 154) [.ref b, S "x" t]) Q E s := by
  subst he
  exact wp_weak (ps_refuse loose mean mg mb cn cs a ccd cl outer A₀ base h₀ L m news s b its k t Q E B F X N T hk hb hits hlo hhi hE) (by rw [hA1]) hA2 (by rw [hA]) rfl hA3
theorem fly_open {h₀ g h' B : Heap} {env : Env} {outer : List Env} {L e dx : Addr} {m : Str → Option Value} {news : Led} {fl : Value} (F : Fr h₀ L g m) (u : g.UpToSlots h') (hB : h₀.StaysIn B) (hl : ∀ q ∈ news, B.get? q.1 = some q.2 ∧ h₀.get? q.1 = none) (f : FlyD B (env :: outer) e dx fl h') (hf : env.frame = some L) :
    Fr h₀ L h' m ∧ ∃ oe vs, oe.cls = .ref 31 ∧ oe.dict = some dx ∧ oe.data = .fields vs ∧ News h₀ L h' ((e, oe) :: news) := by
  obtain ⟨f1, f2, f3, oe, vs, T, oT, ts, he, hc, hD, hd, h1, hnT, hTe, hT, hdT, h3⟩ := f
  have hL : B.get? L = none := by
    obtain ⟨_, ⟨L', _, hf', hn', _⟩, _⟩ := f3
    rw [hf] at hf'
    cases hf'
    exact hn'
  have hLf : ∃ o, h'.get? L = some o ∧ ∀ vs, o.data ≠ .fields vs := by
    obtain ⟨_, ⟨L', o, hf', hn', ho, hnf⟩, _⟩ := f3
    rw [hf] at hf'
    cases hf'
    exact ⟨o, ho, hnf⟩
  refine ⟨F.of_stays (fun b o q => f1 b o (hB b o q)) u, oe, vs, hc, hD, hd, fun p hp => ?_⟩
  rcases List.mem_cons.mp hp with rfl | hp
  · refine ⟨he, fun z => ?_, fresh_of_stays hB f2⟩
    obtain ⟨o, ho, hnf⟩ := hLf
    have z' : e = L := z
    rw [z', ho] at he
    cases he
    exact hnf vs hd
  · refine ⟨f1 _ _ (hl p hp).1, fun z => ?_, (hl p hp).2⟩
    have z' : p.1 = L := z
    have := (hl p hp).1
    rw [z', hL] at this
    cases this
theorem ns30b {w : World} {h : Heap} (X : (hd.heap_1 w.params).In h) : ∃ mN, h.Ns 30 mN ∧ mN "kind" = none ∧ mN "__getattribute__" = none ∧ mN "__getattr__" = none := by
  have ok : nsOkIn (hd.heap_1 w.params) 30 = true := by with_unfolding_all rfl
  have a1 : nsIn (hd.heap_1 w.params) 30 "kind" = some none := by with_unfolding_all rfl
  have a2 : nsIn (hd.heap_1 w.params) 30 "__getattribute__" = some none := by with_unfolding_all rfl
  have a3 : nsIn (hd.heap_1 w.params) 30 "__getattr__" = some none := by with_unfolding_all rfl
  exact ⟨_, .of_isNs (isNs_of_in X ok), nsMap_none_of_in X ok a1, nsMap_none_of_in X ok a2, nsMap_none_of_in X ok a3⟩
/-- wrong.kind -/
theorem k_kind {w : World} {A : Around} {E Q : Value → Shared → Prop} {s : Shared} {h₀ : Heap} {L e dx : Addr} {oe oD : Obj} {m mA : Str → Option Value} {news : Led} {vs : Array Value} {t1 : Tok} {expr : Bool}
    (F : Fr h₀ L s.heap m) (X₀ : (hd.heap_1 w.params).In h₀) (N : News h₀ L s.heap news) (he : (e, oe) ∈ news) (hdx : (dx, oD) ∈ news) (hc : oe.cls = .ref 31) (hD : oe.dict = some dx) (hd : oe.data = .fields vs) (hob : LCg.NsObj oD mA) (hv : mA "kind" = some (S "limit" t1))
    (k : Q (S "limit" t1) { s with toks := s.toks + 1 }) :
    wpAny (model (PySem.Challenge.rw_rh0026_01).row.prog w) A (getAttr (.ref e) "kind" expr) Q E s := by
  obtain ⟨nm, q, bs, sn, sub, ab, col, dd, k0, k1, k2, k3, k5, hC⟩ := cls31 (X₀.keeps F.keep)
  obtain ⟨mN, hN, b1, b2, b3⟩ := ns30b (X₀.keeps F.keep)
  exact kind_attr PySem.F.attrBase_Exception hC hN b1 (N _ he).1 hc hd hD (hob.ns (N _ hdx).1) hv b2 b3 k
theorem name_goes_X {M : Model} {A : Around} {E : Value → Shared → Prop} {s : Shared} {env : Env} {h₀ : Heap} {m : Str → Option Value} {news : Led} {n : Str} {pos : Pos} {Q : Unit → Shared → Prop} (F : Fr h₀ env.locals s.heap m) (N : News h₀ env.locals s.heap news)
    (hl : env.kindOf n = some .local) (hp : (env.scope.kind == .class || (env.scope.kind == .module && env.locals != env.globals)) = false)
    (h : ∀ h' v, Fr h₀ env.locals h' (fun x => if x = n then v else m x) → News h₀ env.locals h' news → Q () { s with heap := h', toks := s.toks + 1 }) :
    wpAny M A (do bindName env n .none; unbindBehindTheSuite env n pos) Q E s :=
  wpAny_nameGoes_keeps hl F.ns hp fun h' v hn hs => h h' v (F.set hn hs) (N.set hs)
end
section
theorem noFill_tup_mul : fillsNumberSlot (.type "tuple") "mul" = pure false :=
  PySem.fillsNumberSlot_seq (id := "tuple.__mul__") (r := some (.builtin "tuple.__rmul__")) F.slot_tuple_mul.lookup (by decide +kernel) F.slot_tuple_rmul.lookup (by decide +kernel)
theorem repeat_tup : seqRepeat? (.type "tuple") = pure (some (.builtin "tuple.__mul__")) := by
  unfold seqRepeat?
  rw [PySem.seqSlot_of (T := "tuple") (name := "__mul__") (id := "tuple.__mul__") F.slot_tuple_mul.lookup (by decide +kernel), PySem.seqSlot_of (T := "tuple") (name := "__rmul__") (id := "tuple.__rmul__") F.slot_tuple_rmul.lookup (by decide +kernel)]
  rfl
theorem int_rmul_tup (a : Int) (t : Tok) (l : Addr) (items : Array Value) (n : Nat) (d : Option Addr) (sl : Array (Option Value)) :
    Meets (Builtin.«int.__rmul__» ⟨[.int a t, .ref l], []⟩) (fun _ R s => s.heap.get? l = some { cls := .type "tuple", dict := d, data := .seq items n, slots := sl } ∧ R (.ok (.ret Value.notImplemented)) s) :=
  .of_wp fun prog w A R s h => by obtain ⟨hp, g, d, tk, os⟩ := s; obtain ⟨hl, h⟩ := h; wp_walk; exact ⟨_, rfl, h⟩
theorem rep_one (v : Value) : ∀ n : Nat, (List.replicate n #[v]).foldl (fun x1 x2 => x1 ++ x2) #[] = (List.replicate n v).toArray := by
  have key : ∀ (n : Nat) (acc : Array Value), (List.replicate n #[v]).foldl (fun x1 x2 => x1 ++ x2) acc = acc ++ (List.replicate n v).toArray := by
    intro n
    induction n with
    | zero => intro acc; simp
    | succ n ih => intro acc; rw [List.replicate_succ, List.foldl_cons, ih, List.replicate_succ]; apply Array.ext'; simp
  intro n
  rw [key]; simp
theorem tup_mul (l : Addr) (v : Value) (n : Nat) (d : Option Addr) (sl : Array (Option Value)) (x : Int) (u : Tok) (h1 : 1 < x) (h2 : x < 10000) :
    Meets (Builtin.«tuple.__mul__» ⟨[.ref l, .int x u], []⟩) (fun _ R s => s.heap.get? l = some { cls := .type "tuple", dict := d, data := .seq #[v] n, slots := sl } ∧ R (.ok (.ret (Value.ref s.heap.objs.size))) { s with heap := s.heap.push { cls := .type "tuple", data := .seq ((List.replicate x.toNat #[v]).foldl (· ++ ·) #[]) } }) :=
  .of_wp fun prog w A R s h => by
    obtain ⟨hp, g, d, tk, os⟩ := s
    obtain ⟨hl, h⟩ := h
    have e1 : ¬ (decide (x < -2 ^ 63) || decide (x ≥ 2 ^ 63)) = true := by simp; omega
    wp_walk
    have e2 : ¬ (#[v].isEmpty || x == 1) = true := by simp; omega
    have e3 : ¬ (decide (x ≤ 0) || #[v].isEmpty) = true := by simp; omega
    rw [if_neg e1]
    wp_walk
    rw [if_neg e2]
    wp_walk
    have e4 : ¬ ((#[v].size : Int) * x > (2 ^ 63 - 1) / 8) := by simp; omega
    have e5 : ¬ (Builtin.Tuple.tupleTooMany ((#[v].size : Int) * x)) = true := by simp [Builtin.Tuple.tupleTooMany, sizeLine]; omega
    rw [if_neg e3]
    wp_walk
    rw [if_neg e4]
    wp_walk
    rw [if_neg e5]
    wp_walk
    have e6 : ¬ ((List.foldl (fun x1 x2 => x1 ++ x2) #[] (List.replicate x.toNat #[v])).size > sizeLine) := by rw [rep_one, sizeLine_eq]; simp; omega
    rw [if_neg e6]
    wp_walk
    exact ⟨_, rfl, h⟩
theorem k_tup_mul {prog : Program} {w : World} {A : Around} {E : Value → Shared → Prop} {s : Shared} {h₀ : Heap} {L : Addr} {m : Str → Option Value} {news : Led} {l : Addr} {v : Value} {x : Int} {u : Tok} {Q : Value → Shared → Prop}
    (Fm : Fr h₀ L s.heap m) (N : News h₀ L s.heap news) (hl : (l, ({ cls := .type "tuple", data := .seq #[v] } : Obj)) ∈ news) (h1 : 1 < x) (h2 : x < 10000)
    (h : ∀ D h', Fr h₀ L h' m → News h₀ L h' ((D, tupN (List.replicate x.toNat v).toArray 0) :: news) → (∀ p ∈ news, p.1 < D) → Q (.ref D) { s with heap := h' }) : wpAny (model prog w) A (binaryOp .Mult (.ref l) (.int x u)) Q E s := by
  have ho := (N _ hl).1
  refine wpAny_binaryOp_repeat_ref (T := "tuple") (U := "int") (by decide) ⟨_, ho, rfl⟩ (fun s' => typeIs_int s' x u) noFill_tup_mul F.fills_int_mul F.slot_int_rmul repeat_tup F.slot_int_index.lookup
    (call_meets F.slot_int_rmul (typeIs_int s x u) F.entry_int_rmul (F.args_int_rmul_2 _ _) (int_rmul_tup x u l #[v] 0 none #[])
      ⟨ho, rfl, ⟨_, ho, rfl⟩, call_meets F.slot_tuple_mul ⟨_, ho, rfl⟩ F.entry_tuple_mul (F.args_tuple_mul_2 _ _) (tup_mul l v 0 none #[] x u h1 h2) ⟨ho, ?_⟩⟩)
  have N' := News.push Fm N { cls := .type "tuple", data := .seq ((List.replicate x.toNat #[v]).foldl (fun x1 x2 => x1 ++ x2) #[]) }
  rw [rep_one] at N' ⊢
  exact h _ _ (Fm.push _) N' (fun p hp => Heap.lt_size (N p hp).1)
end
section
local macro_rules | `(tactic| k_all) => `(tactic| assumption)
local macro_rules | `(tactic| walk_at "call ref") => `(tactic| (k_dflt (refine' lam_use ?hL ?hs ?ha ?hb ?B ?F ?X ?N ?T ?he ?hk ?a1 ?a2 ?a3 ?a4 ?_; (case hL => with_reducible assumption); (case ha => with_reducible assumption); (case hb => with_reducible assumption); walk_at "mine con"; (case hs => walk_at "mine sub")); intro t' h' tk' F' N'))
local macro_rules | `(tactic| walk_at "call ref") => `(tactic| walk_at "mine r6")
local macro_rules | `(tactic| walk_at "call ref") => `(tactic| ((with_reducible show wpAny _ _ (call (Value.ref 154) _) _ _ _); refine Hold.out ?_))
local macro_rules | `(tactic| walk_at "call ref") => `(tactic| ((with_reducible show wpAny _ _ (call (Value.ref 188) _) _ _ _); refine Hold.out ?_))
local macro_rules | `(tactic| walk_at "call ref") => `(tactic| ((with_reducible show wpAny _ _ (call (Value.ref 181) _) _ _ _); refine Hold.out ?_))
local macro_rules | `(tactic| walk_at "exec Assign cons ListComp") => `(tactic| k_dflt (refine LCg.Assign_ListComp_U (F₀ := by k_asm) (by rfl) (by with_unfolding_all rfl) (by with_unfolding_all rfl) (by decide) (by rfl) (by decide) (by rfl) (by rfl) (by rfl) ?_))
local macro_rules | `(tactic| walk_at "CompSrc") => `(tactic| refine Hold.out ?_)
local macro_rules | `(tactic| k_mem) => `(tactic| assumption)
local macro_rules | `(tactic| k_mem) => `(tactic| exact mem6 (by assumption))
local macro_rules | `(tactic| walk_at "eval ListComp") => `(tactic| k_dflt (refine LCp.ListComp_P (F₀ := by k_asm) (by with_unfolding_all rfl) (by decide) (by rfl) (by decide) (by rfl) (by rfl) (by decide) ?_))
local macro_rules | `(tactic| walk_at "SrcLP") => `(tactic| refine Hold.out ?_)
local macro_rules | `(tactic| walk_at "call type:tuple") => `(tactic| walk_at "mine r3")
local macro_rules | `(tactic| walk_at "exec For Name Tuple cons nil") => `(tactic| refine Hold.out ?_)
local macro_rules | `(tactic| walk_at "exec For Name Call cons nil") => `(tactic| refine Hold.out ?_)
local macro_rules | `(tactic| k_mem) => `(tactic| walk_at "mine r2")
local macro_rules | `(tactic| walk_at "call builtin:len") => `(tactic| ((with_reducible show wpAny _ _ (call (Value.builtin "len") [Value.ref _]) _ _ _); k_dflt (refine' len_list ?k1 ?k2 ?_; (case k1 => exact News.isList (by k_asm) (by k_mem)); (case k2 => assumption))))
local macro_rules | `(tactic| walk_at "subscriptTail") => `(tactic| walk_at "mine r0")
local macro_rules | `(tactic| walk_at "subscriptTail Name Name ref int") => `(tactic| ((with_reducible show wpAny _ _ (subscriptTail _ _ (Value.ref _) (Value.int _ _)) _ _ _); k_dflt (with_unfolding_all refine' item_list ?k1 ?k2 ?k3 ?k4 ?_; (case k1 => exact News.isList (by k_asm) (by k_mem)); (case k2 => with_reducible assumption); (case k3 => with_reducible assumption); (case k4 => with_reducible assumption))))
local macro_rules | `(tactic| walk_at "compareOp NotEq int int") => `(tactic| (refine ne_int ?_; rw [(by assumption : ((_ : Int) != _) = _)]))
local macro_rules | `(tactic| wrow_close) => `(tactic| ((with_reducible show GoodW _ _ _ _ _ _ _); refine Hold.out ?_))
local macro_rules | `(tactic| walk_at "binaryOp Mult ref int") => `(tactic| (k_dflt (refine' k_tup_mul ?F ?N ?l ?a ?b ?_; (case F => k_asm); (case N => k_asm); (case l => exact List.Mem.head _); (case a => omega); (case b => omega)); intro D' h' F' N' l1))
local macro_rules | `(tactic| walk_at "getAttr ref") => `(tactic| refine Hold.out ?_)
theorem law_ok : PySem.Challenge.rw_rh0026_01.Holds := hd (by
  k_go0
  all_goals (try k_fold)
  all_goals k_steps
  refine Hold.mk ?_
  k_dflt (refine' take_useP [] ?B ?F ?X ?N ?T ?he ?hk ?a1 ?a2 ?a3 ?a4 ?hbl ?hpr ?hbr ?hI ?hn ?h0 ?h1 ?h2 ?h3 ?_; (case a4 => exact rfl); (case B => k_asm); (case F => k_asm); (case X => k_asm); (case N => k_asm); (case T => k_asm); (case he => exact rfl); (case hk => exact rfl); (case a1 => exact rfl); (case a2 => exact Nat.le_of_ble_eq_true rfl); (case a3 => exact Nat.le_of_ble_eq_true rfl))
  case hI => assumption
  case hn => simp only [List.length_take]; omega
  case h0 => decide
  case h1 => decide
  case h2 => decide
  case h3 => decide
  case hbl => k_ne
  case hpr => exact List.forall_mem_nil _
  case hbr => exact List.forall_mem_cons.mpr ⟨by k_ne, List.forall_mem_cons.mpr ⟨by k_ne, List.forall_mem_cons.mpr ⟨by k_ne, List.forall_mem_nil _⟩⟩⟩
  intro r1 t1 tc1 h4 tk4 q1 q2 F4 N4
  k_steps
  · simp only [List.nil_append] at N4
    refine wpAny_Try_except ?_
    k_steps
    refine Hold.mk ?_
    k_dflt (refine' take_useP [_] ?B ?F ?X ?N ?T ?he ?hk ?a1 ?a2 ?a3 ?a4 ?hbl ?hpr ?hbr ?hI ?hn ?h0 ?h1 ?h2 ?h3 ?_; (case a4 => exact rfl); (case B => k_asm); (case F => k_asm); (case X => k_asm); (case N => k_asm); (case T => k_asm); (case he => exact rfl); (case hk => exact rfl); (case a1 => exact rfl); (case a2 => exact Nat.le_of_ble_eq_true rfl); (case a3 => exact Nat.le_of_ble_eq_true rfl))
    case hI => assumption
    case hn => simp only [List.length_take]; omega
    case h0 => decide
    case h1 => decide
    case h2 => decide
    case h3 => decide
    case hbl => k_ne
    case hpr => exact List.forall_mem_cons.mpr ⟨by k_ne, List.forall_mem_nil _⟩
    case hbr => exact List.forall_mem_cons.mpr ⟨by k_ne, List.forall_mem_cons.mpr ⟨by k_ne, List.forall_mem_cons.mpr ⟨by k_ne, List.forall_mem_nil _⟩⟩⟩
    intro r2 t2 tc2 h5 tk5 q3 q4 F5 N5
    k_steps
    refine Hold.mk ?_
    k_dflt (refine' psr_use ?B ?F ?X ?N ?T ?he ?hk ?a1 ?a2 ?a3 ?a4 (.head _) ?hits ?lo ?hi ?hE; (case a4 => exact rfl); (case B => k_asm); (case F => k_asm); (case X => k_asm); (case N => k_asm); (case T => k_asm); (case he => exact rfl); (case hk => exact rfl); (case a1 => exact rfl); (case a2 => exact Nat.le_of_ble_eq_true rfl); (case a3 => exact Nat.le_of_ble_eq_true rfl))
    case lo => simp only [List.size_toArray, List.length_replicate]; omega
    case hi => simp only [List.size_toArray, List.length_replicate]; omega
    case hits =>
      intro i v hv
      rw [List.getElem?_toArray, List.getElem?_replicate] at hv
      split at hv
      · exact (Option.some.inj hv).symm
      · cases hv
    case hE =>
      intro h6 tk6 e dx oD mA g t6 F6 u6 R6 hob hkd
      obtain ⟨B6, hB6, hl6, fly6⟩ := R6
      refine note_on rfl rfl fly6 (fun h7 fly7 u7 => ?_)
      refine let_go fly7 (fun h8 fly8 u8 => ?_)
      obtain ⟨F8, oe, ve, hc8, hD8, hd8, N8⟩ := fly_open F6 ((u6.trans u7).trans u8) hB6 hl6 fly8 rfl
      refine wpAny_handleBy_cons (codeAny_handlers_test (nameX_K F8 (by k_asm) (by k_asm) (by k_is) ?_)) (by intro q; cases q)
      obtain ⟨nm, q, bs, sn, sub, ab, col, dd, k0, k1, k2, k3, k5, hC8⟩ := cls31 (Frag.In.keeps (by k_asm) F8.keep)
      refine wpAny_excMatches_sub_self hC8 (N8 _ (.head _)).1 hc8 (by decide) (codeAny_handlers_suite_as ?_)
      refine let_go fly8 (fun h9 fly9 u9 => ?_)
      obtain ⟨F9, oe9, ve9, hc9, hD9, hd9, N9⟩ := fly_open F6 (((u6.trans u7).trans u8).trans u9) hB6 hl6 fly9 rfl
      k_steps
      refine Hold.mk ?_
      refine k_kind (by k_asm) (by k_asm) (by k_asm) (.head _) (.tail _ (.head _)) hc9 hD9 hd9 hob hkd ?_
      k_steps
      dsimp only
      k_steps
      k_dflt (refine name_goes_X (by k_asm) (by k_asm) rfl rfl (fun h10 v10 F10 N10 => ?_))
      k_steps
  refine Hold.mk ?_
  k_dflt (refine' take_useP [] ?B ?F ?X ?N ?T ?he ?hk ?a1 ?a2 ?a3 ?a4 ?hbl ?hpr ?hbr ?hI ?hn ?h0 ?h1 ?h2 ?h3 ?_; (case a4 => exact rfl); (case B => k_asm); (case F => k_asm); (case X => k_asm); (case N => k_asm); (case T => k_asm); (case he => exact rfl); (case hk => exact rfl); (case a1 => exact rfl); (case a2 => exact Nat.le_of_ble_eq_true rfl); (case a3 => exact Nat.le_of_ble_eq_true rfl))
  case hI => assumption
  case hn => simp only [List.length_take]; omega
  case h0 => decide
  case h1 => decide
  case h2 => decide
  case h3 => decide
  case hbl => k_ne
  case hpr => exact List.forall_mem_nil _
  case hbr => exact List.forall_mem_cons.mpr ⟨by k_ne, List.forall_mem_cons.mpr ⟨by k_ne, List.forall_mem_cons.mpr ⟨by k_ne, List.forall_mem_nil _⟩⟩⟩
  intro r2 t2 tc2 h5 tk5 q3 q4 F5 N5
  k_steps
  refine Hold.mk ?_
  k_dflt (refine src_rng (by rfl) (by k_asm) (by k_asm) (by assumption) q3 q4 ?_)
  intro g
  refine comp_lj ?z0 ?z1 ?z2 ?z3 ?z4 ?z5 ?z6 ?turn ?fin
  case z0 => decide
  case z1 => decide
  case z2 => k_ne
  case z3 => k_ne
  case z4 => k_ne
  case z5 => k_ne
  case z6 => k_ne
  case turn =>
    intro ne1 ne2 ne3 i ys v news I oI C oC D m₂ h tk E' hi hJ hv hC hx F N off ne
    obtain ⟨tv, rfl⟩ := hv
    obtain ⟨T, c, tc, keep, ks, rfl, hT, hc0, hc1, hks, hps, hcell, hkb, hk3⟩ := hJ
    k_steps
    refine Hold.mk ?_
    k_dflt (refine' lf_use ?B ?F ?X ?N ?T ?he ?hk ?a1 ?a2 ?a3 ?a4 hT ?hbl ?hb3 ?hl3 off hkb hk3 ?hI ?hn hc0 (c_lt hc1 hi q4) ?_; (case a4 => exact rfl); (case B => k_asm); (case F => k_asm); (case X => k_asm); (case N => k_asm); (case T => k_asm); (case he => exact rfl); (case hk => exact rfl); (case a1 => exact rfl); (case a2 => exact Nat.le_of_ble_eq_true rfl); (case a3 => exact Nat.le_of_ble_eq_true rfl))
    case hI => assumption
    case hn => exact Nat.lt_of_le_of_lt (List.length_take_le 16 _) (by decide)
    case hbl => exact ne1
    case hb3 => exact ne2
    case hl3 => exact ne3
    intro fresh T' tc' pa v2 f d h2 tk2 F2 N2 off2 hkb2 hk32 hC2 hpa2 hv2 hg2 hL2
    exact ⟨h2, tk2, _, rfl, F2, N2, off2, LJ.step hc0 hc1 hks hps hcell hkb2 hk32 hC2 hpa2 hv2 hg2 hL2⟩
  case fin =>
    intro hb3 ys news hJ
    intro D h tk F N off
    obtain ⟨T, c, tc, keep, ks, rfl, hT, hc0, hc1, hks, hps, hcell, hkb, hk3⟩ := hJ
    k_steps
    refine Hold.mk ?_
    have hys : ys.toArray.size = r2.toNat := by rw [← hks, ← hps.len]; rfl
    k_dflt (refine LCp.SrcLP.ledger (by rfl) (by k_asm) (by k_asm) (.head _) ?hsz ?_)
    case hsz => rw [hys]; exact Nat.le_trans (show r2.toNat ≤ 6 by omega) (by decide)
    intro g2
    refine compP_keep (.inr ⟨_, .head _, rfl, _, rfl⟩) (fun i zs => FcsIn keep zs (ks.take i)) _ ?item ?turn2 ?fin2 _ _ _ (Nat.zero_add _) .nil
    case item =>
      intro i zs v hi hz hv
      obtain ⟨t, v1, v2, rfl, hm, hz'⟩ := firsts hps hz hv
      exact ⟨t, v1, v2, rfl, .tail _ (.tail _ (.tail _ (.tail _ hm))), hz'⟩
    case turn2 =>
      intro zs v1 I oI C oC D2 m₂ h3 tk3 E' hC hx F3 N3
      k_steps
      all_goals (first | assumption | rfl)
    case fin2 =>
      intro zs hz D2 h3 tk3 F3 N3 off3
      have hzz : zs.toArray.size ≤ sizeLine := Nat.le_trans (show zs.length ≤ 6 by have := hz.len; rw [List.length_take] at this; omega) (by decide)
      have hz2 : FcsIn keep zs ks := by rw [hys, ← hks, List.take_length] at hz; exact hz
      k_steps
      refine Hold.mk ?_
      k_dflt (refine' ps_use (ks := ks) ?B ?F ?X ?N ?T ?he ?hk ?a1 ?a2 ?a3 ?a4 (.head _) ?hF ?hlen ?_; (case a4 => exact rfl); (case B => k_asm); (case F => k_asm); (case X => k_asm); (case N => k_asm); (case T => k_asm); (case he => exact rfl); (case hk => exact rfl); (case a1 => exact rfl); (case a2 => exact Nat.le_of_ble_eq_true rfl); (case a3 => exact Nat.le_of_ble_eq_true rfl))
      case hF => exact hz2.mono fun p hp => mem6 hp
      case hlen => rw [hks]; omega
      intro told news7 h7 tk7 F7 N7 s7 inv7 ht7
      have hb7 := s7 _ (.tail _ (.tail _ (.tail _ (.head _))))
      have hl7 := s7 _ (.tail _ (.tail _ (.tail _ (.tail _ (.head _)))))
      have hD7 := s7 _ (.tail _ (.tail _ (.head _)))
      have hk7 := fun p (hp : p ∈ keep) => s7 p (mem6 hp)
      have hcell7 := hk7 _ hcell
      have htn := fun p (hp : p ∈ news7) (ht : IsT p) => tup_ne N7 hb7 hp ht
      have hDb : @Ne Nat D _ := Ne.symm off.1
      k_steps
      refine Hold.mk ?_
      k_dflt (refine for_tup (_F := by k_asm) rfl (by rfl) (by rfl) ?_)
      k_steps
      refine Hold.mk ?_
      k_dflt (refine' take_abs (news := news7) ?B ?F ?X ?N ?T ?he ?hk ?a1 ?a2 ?a3 ?a4 hb7 hl7 ?hbl ?hI ?hn hc0 ?h1 ?h2 ?h3 ?_; (case a4 => exact rfl); (case B => k_asm); (case F => k_asm); (case X => k_asm); (case N => k_asm); (case T => k_asm); (case he => exact rfl); (case hk => exact rfl); (case a1 => exact rfl); (case a2 => exact Nat.le_of_ble_eq_true rfl); (case a3 => exact Nat.le_of_ble_eq_true rfl))
      case hI => assumption
      case hn => exact Nat.lt_of_le_of_lt (List.length_take_le 16 _) (by decide)
      case hbl => k_ne
      case h1 => omega
      case h2 => decide
      case h3 => decide
      intro r9 t9 tc9 h9 tk9 q5 q6 F9 N9
      have hk6 : ks.length < 6 := by rw [hks]; omega
      have hkl : ys.toArray.size = ks.length := by rw [hys, hks]
      have ht8 := ht7.tup (news' := restF _ news7) (fun p hp ht => restF_in hp (htn p hp ht))
      have hps8 := hps.mono (news' := restF _ news7) fun p hp => restF_in (hk7 p hp) (hkb p hp)
      have hD8 := restF_in hD7 hDb
      have h38 := restF_in (s7 _ (.tail _ (.tail _ (.tail _ (.tail _ (.tail _ (.head _))))))) (Ne.symm hb3)
      k_steps
      k_dflt (refine tupAt_intro (by k_asm) (by k_asm) (.head _) ?step ?fin)
      case fin =>
        intro h10 tk10 oa od op ot oo F10 N10
        k_steps
      case step =>
        intro it i v h10 tk10 oi od op ot oo hv off10 hL10 F10 N10
        obtain ⟨av, ta, rfl, ha1, ha2⟩ := at_items hv q5 q6
        k_steps
        refine Hold.mk ?_
        k_dflt (refine for_rng (_F := by k_asm) rfl (by rfl) (by rfl) ?_)
        k_steps
        k_dflt (refine rngAt_due _ (dueV av ks) (by k_asm) (by k_asm) (by assumption) hk6 (lmap_due1 _ _ _ _ _ _ _) ?step2 ?fin2)
        case fin2 =>
          intro h14 tk14 td op ot oo F14 N14
          have hok := ok_slope av ha1 ha2 ks hps.good (Nat.le_of_lt_succ hk6)
          have htold := told_ok (a := av) (ks := ks) rfl
          k_steps
          refine Hold.mk ?_
          k_dflt (refine' lv_use lv5 ?B ?F ?X ?N ?T ?he ?hk ?a1 ?a2 ?a3 ?a4 ?hT hok ?_; (case a4 => exact rfl); (case B => k_asm); (case F => k_asm); (case X => k_asm); (case N => k_asm); (case T => k_asm); (case he => exact rfl); (case hk => exact rfl); (case a1 => exact rfl); (case a2 => exact Nat.le_of_ble_eq_true rfl); (case a3 => exact Nat.le_of_ble_eq_true rfl); (case hT => exact ht8.mono (by intro p hp; (repeat' (first | exact hp | refine List.Mem.tail _ ?_)))))
          intro t15 h15 tk15 F15 N15
          k_steps
          exact TStep.intro (by k_asm) (by k_asm) ⟨_, _, _, _, _, rfl⟩
        case step2 =>
          intro it2 i2 t2' h11 tk11 oi2 td ot oo hi2 off11 hL11 F11 N11
          obtain ⟨pa, f, u, d, hp0, hp1, hp2, hd2, hm2, hu2, hg2, hL2⟩ := pick hps8 (hkl ▸ hi2) (hkl ▸ Nat.lt_of_lt_of_le hk6 (by decide))
          obtain ⟨⟨oc2, od2, fd2, sl2, hf2⟩, _⟩ := id hL2
          k_steps
          refine Hold.mk ?_
          k_dflt (refine for_rng (_F := by k_asm) rfl (by rfl) (by rfl) ?_)
          k_steps
          k_dflt (refine rngAt_part _ (partV av (d.slope.val av) ks i2) (by k_asm) (by k_asm) (by assumption) hk6 (lmap_part1 _ _ _ _ _ _ _) ?step3 ?fin3)
          case fin3 =>
            intro h13 tk13 tt oo F13 N13
            k_steps
            exact tstep_due (by k_asm) (by k_asm) hd2
          case step3 =>
            intro it3 j t3 h12 tk12 oi3 tt hj off12 hL12 F12 N12
            obtain ⟨pb, fb, ub, db, hq0, hq1, hq2, hdb, hmb, hub, hgb, hLb⟩ := pick hps8 (hkl ▸ hj) (hkl ▸ Nat.lt_of_lt_of_le hk6 (by decide))
            by_cases hji : j = i2
            · have hne := ne_false hji
              k_steps
              exact tstep_part (by k_asm) (by k_asm) (part_eq hji)
            · have hne := ne_true hji
              obtain ⟨hO1, hb1, hb2⟩ := tm_small av ha1 ha2 db hgb
              have hbits := intBits_le_64 (k := db.tm.val av) (by omega) (by omega)
              k_steps
              refine Hold.mk ?_
              k_dflt (refine' lv_use lv1 ?B ?F ?X ?N ?T ?he ?hk ?a1 ?a2 ?a3 ?a4 ?hT hO1 ?_; (case a4 => exact rfl); (case B => k_asm); (case F => k_asm); (case X => k_asm); (case N => k_asm); (case T => k_asm); (case he => exact rfl); (case hk => exact rfl); (case a1 => exact rfl); (case a2 => exact Nat.le_of_ble_eq_true rfl); (case a3 => exact Nat.le_of_ble_eq_true rfl); (case hT => exact hub.tm.mono (by intro p hp; (repeat' (first | exact hp | refine List.Mem.tail _ ?_)))))
              intro t15 h15 tk15 F15 N15
              k_steps
              exact tstep_part (by k_asm) (by k_asm) (part_ne hdb hji))
end
end Mine
theorem PySem.Challenge.cw_rh0026_01_holds : PySem.Challenge.rw_rh0026_01.Holds := by
  exact Mine.law_ok
