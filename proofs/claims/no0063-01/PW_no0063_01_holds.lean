import PyProof.Rows.All
import Wide.All
import OpenK.AllK
import Wide.FinOn
import PySem.Challenge.RW_no0063_01
open PySem PySem.W PyProof.Rows
set_option Elab.async false
set_option linter.unusedVariables false
set_option linter.unusedSimpArgs false
namespace Mine
local macro_rules | `(tactic| walk_at $s:str) => `(tactic| k_extra $s)
/-! part S1 -/
set_option maxRecDepth 100000 in
set_option maxHeartbeats 8000000 in
open_top hd for PySem.Challenge.rw_no0063_01
/-! part T1 -/
abbrev P : Program := PySem.Challenge.rw_no0063_01.row.prog
def DrawsAt (w : World) (o : Obj) (g m : Int) : Prop := ∃ t1 t2, o.IsDictOf (strKind P w) [(Str.ofString "great", Value.int g t1), (Str.ofString "mixed", Value.int m t2)]
def Draws (w : World) (o : Obj) : Prop := ∃ g m, DrawsAt w o g m ∧ 0 ≤ m ∧ m < 2147483647

theorem fm_ge {x k : Int} (hk : 0 < k) : 0 ≤ x.fmod k := Int.fmod_nonneg_of_pos x hk
theorem fm_lt {x k : Int} (hk : 0 < k) : x.fmod k < k := Int.fmod_lt_of_pos x hk
theorem drop1 {h₀ h : Heap} {L : Addr} {p : Addr × Obj} {l : List (Addr × Obj)} (N : News h₀ L h (p :: l)) : News h₀ L h l := fun q hq => N q (.tail _ hq)
theorem draws_mk {w : World} {o : Obj} {g m : Int} {t1 t2 : Tok} (h : o.IsDictOf (strKind P w) [(Str.ofString "great", Value.int g t1), (Str.ofString "mixed", Value.int m t2)]) (h1 : 0 ≤ m) (h2 : m < 2147483647) : Draws w o := ⟨g, m, ⟨t1, t2, h⟩, h1, h2⟩
set_option maxRecDepth 100000 in
set_option maxHeartbeats 8000000 in
theorem take_call : ∀ {w : World} {loose : List Str} {mean : ExcName → Option Value} {mg mb : Str → Option Value} {dp un : Nat} {gd : Option (List Code)} {cn : Str} {cs : Scope} {a : Addr} {ccd : Value} {cl : List (Str × Addr)} {outer : List Env} {A₀ : Around} {base h₀ : Heap} {L : Addr} {m : Str → Option Value} {s : Shared} {Q E : Value → Shared → Prop}
    {d : Addr} {od : Obj} {rest : List (Addr × Obj)} {k : Int} {tk : Tok}
    (B : Below A₀ base outer h₀) (F : Fr h₀ L s.heap m) (X : (hd.heap_39 w.params).In h₀) (N : News h₀ L s.heap ((d, od) :: rest)) (T : Top hd.view_39 loose mean mg mb h₀) (hk : cs.kind = .function)
    (hoff : OwnOff rest [d]) (hD : Draws w od) (hk0 : 0 < k) (hk1 : k ≤ 1000) (hdp : dp + 1 < recursionLimit) (hun : un + 8 < cLine)
    (hret : ∀ (v : Int) (tv : Tok) (od' : Obj) (h' : Heap) (tk' : Nat), 0 ≤ v → v < k → Draws w od' → Fr h₀ L h' m → News h₀ L h' ((d, od') :: rest) → Q (.int v tv) { s with heap := h', toks := tk' }),
    wpAny (model PySem.Challenge.rw_no0063_01.row.prog w) (ktrTop dp un gd cn cs L a ccd cl outer) (call (.ref 119) [.ref d, .int k tk]) Q E s := by
  k_with_none
  k_fill
  intro w loose mean mg mb dp un gd cn cs a ccd cl outer A₀ base h₀ L m s Q E d od rest k tk B F X N T hk hoff hD hk0 hk1 hdp hun hret
  obtain ⟨g, mx, ⟨t1, t2, hd'⟩, hm0, hm1⟩ := hD
  refine wpAny_call ?_
  (first | k_dflt cell_enter | fail "not entered")
  k_steps
  · exact hret _ _ _ _ _ (fm_ge hk0) (fm_lt hk0) (draws_mk (by assumption) hm0 hm1) (by k_asm) (drop1 (by k_asm))
  · exact hret _ _ _ _ _ (fm_ge hk0) (fm_lt hk0) (draws_mk (by assumption) (fm_ge (by decide)) (fm_lt (by decide))) (by k_asm) (by k_asm)
/-! part T2 -/
theorem take_use {w : World} {loose : List Str} {mean : ExcName → Option Value} {mg mb : Str → Option Value} {dp un : Nat} {gd : Option (List Code)} {cn : Str} {cs : Scope} {a : Addr} {ccd : Value} {cl : List (Str × Addr)} {outer : List Env} {A₀ : Around} {base h₀ : Heap} {L : Addr} {m : Str → Option Value} {s : Shared} {Q E : Value → Shared → Prop}
    {d : Addr} {od : Obj} {news : List (Addr × Obj)} {g : Obj → List (Addr × Obj)} {k : Int} {tk : Tok}
    (B : Below A₀ base outer h₀) (F : Fr h₀ L s.heap m) (X : (hd.heap_39 w.params).In h₀) (N : News h₀ L s.heap news) (T : Top hd.view_39 loose mean mg mb h₀) (hk : cs.kind = .function)
    (U : UpdF d od news g) (hD : Draws w od) (hk0 : 0 < k) (hk1 : k ≤ 1000) (hdp : dp + 1 < recursionLimit) (hun : un + 8 < cLine)
    (hret : ∀ (v : Int) (tv : Tok) (od' : Obj) (h' : Heap) (tk' : Nat), 0 ≤ v → v < k → Draws w od' → Fr h₀ L h' m → News h₀ L h' (g od') → Q (.int v tv) { s with heap := h', toks := tk' }) :
    wpAny (model PySem.Challenge.rw_no0063_01.row.prog w) (ktrTop dp un gd cn cs L a ccd cl outer) (call (.ref 119) [.ref d, .int k tk]) Q E s := by
  obtain ⟨pre, post, rfl, hg, h1, h2⟩ := U.split
  refine take_call (rest := pre ++ post) B F X ?_ T hk ?_ hD hk0 hk1 hdp hun ?_
  · intro p hp
    refine N p ?_
    simp only [List.mem_cons, List.mem_append] at hp ⊢
    rcases hp with h | h | h <;> simp [h]
  · intro p hp b hb
    rw [List.mem_singleton.mp hb]
    rcases List.mem_append.mp hp with h | h
    · exact h1 p h
    · exact h2 p h
  · intro v tv od' h' tk' a1 a2 a3 a4 a5
    refine hret v tv od' h' tk' a1 a2 a3 a4 ?_
    rw [hg]
    intro p hp
    refine a5 p ?_
    simp only [List.mem_cons, List.mem_append] at hp ⊢
    rcases hp with h | h | h <;> simp [h]
/-! part T4 -/
abbrev ent (w : World) (k : String) (t : Tok) (v : Value) : DictEntry := { hash := PyData.keyHash w.params (Str.ofString k), key := Value.str (Str.ofString k) t, val := v }
/-- the dict of the one Closing -/
abbrev clo (w : World) (a b c d e : Tok) (st f en : Value) (cm : Int) (tc : Tok) (nr : Int) (tn : Tok) : Obj :=
  dictOf [ent w "state" a st, ent w "frame" b f, ent w "end" c en, ent w "came" d (Value.int cm tc), ent w "next_reply" e (Value.int nr tn)] 5
/-- the law's own dict of what it expects -/
def WorldIs (w : World) (o : Obj) (st f en : Value) (cm : Int) : Prop :=
  ∃ (nw wt : Int) (t2 t3 t4 : Tok), o.IsDictOf (strKind P w) [(Str.ofString "state", st), (Str.ofString "end", en), (Str.ofString "frame", f), (Str.ofString "came", Value.int cm t2), (Str.ofString "now", Value.int nw t3), (Str.ofString "wait", Value.int wt t4)]
theorem world_mk {w : World} {o : Obj} {st f en : Value} {cm nw wt : Int} {t2 t3 t4 : Tok}
    (h : o.IsDictOf (strKind P w) [(Str.ofString "state", st), (Str.ofString "end", en), (Str.ofString "frame", f), (Str.ofString "came", Value.int cm t2), (Str.ofString "now", Value.int nw t3), (Str.ofString "wait", Value.int wt t4)]) : WorldIs w o st f en cm := ⟨nw, wt, t2, t3, t4, h⟩
def Reply (c r : Int) : Prop := (c = 0 ∧ r = 1) ∨ (c = 1 ∧ r = 2) ∨ (2 ≤ c ∧ c < 4 ∧ r = 4) ∨ (4 ≤ c ∧ c < 8 ∧ r = 8) ∨ (8 ≤ c ∧ c < 16 ∧ r = 16) ∨ (c = 16 ∧ r = 32)
abbrev frameObj (v : Int) (n : Nat) (t1 t2 t3 : Tok) : Obj := { cls := .type "tuple", data := .seq #[.str (Str.ofString "close") t1, .int v t2, .none, .bytes #[119, 104, 121] t3] n }
def FrameIn (rest : List (Addr × Obj)) (f : Value) : Prop := f = .none ∨ ∃ a v n t1 t2 t3, f = .ref a ∧ (a, frameObj v n t1 t2 t3) ∈ rest
theorem FrameIn.mono {r r' : List (Addr × Obj)} {f : Value} (h : FrameIn r f) (hs : ∀ p ∈ r, p ∈ r') : FrameIn r' f := by
  rcases h with h | ⟨a, v, n, t1, t2, t3, h, hm⟩
  · exact .inl h
  · exact .inr ⟨a, v, n, t1, t2, t3, h, hs _ hm⟩
/-- state (of both), frame, end, came, next_reply; n: the turns so far -/
def Sta (st f en : Value) (c r : Int) (n : Nat) : Prop := 0 ≤ c ∧ c ≤ n ∧ ∃ t, (st = .str (Str.ofString "open") t ∧ f = .none ∧ en = .none ∧ c = 0 ∧ r = 1)
  ∨ (st = .str (Str.ofString "closing") t ∧ (∃ i u, en = .int i u) ∧ Reply c r)
  ∨ (st = .str (Str.ofString "draining") t ∧ (∃ i u, en = .int i u))
  ∨ (st = .str (Str.ofString "closed") t ∧ en = .none)
def SameEn (a b : Value) : Prop := (a = .none ∧ b = .none) ∨ ∃ i t u, a = .int i t ∧ b = .int i u
/-- the state values are the same text, maybe with another token -/
def SameSt (a b : Value) : Prop := ∃ x t u, a = .str x t ∧ b = .str x u
def Okay (w : World) (wd x dx dd : Addr) (rest : List (Addr × Obj)) (n : Nat) (nx : List (Addr × Obj)) : Prop :=
  ∃ ow od a b c d e st st' f en en' cm tc nr tn, nx = (wd, ow) :: (x, instObj 94 dx) :: (dx, clo w a b c d e st f en cm tc nr tn) :: (dd, od) :: rest ∧ WorldIs w ow st' f en' cm ∧ Draws w od ∧ SameSt st st' ∧ SameEn en en' ∧ Sta st f en cm nr n ∧ FrameIn rest f
/-- what a turn hands on -/
abbrev EvBack (w : World) (h₀ : Heap) (L : Addr) (m : Str → Option Value) (s : Shared) (wd x dx dd : Addr) (rest : List (Addr × Obj)) (n : Nat) (Q : Value → Shared → Prop) : Prop :=
  ∀ new h' tk' nx, Okay w wd x dx dd (new ++ rest) (n + 1) nx → OwnOff new [wd, x, dx, dd] → (∀ p ∈ new, ∀ q ∈ rest, p.1 ≠ q.1) → Fr h₀ L h' m → News h₀ L h' nx → Q (.bool true) { s with heap := h', toks := tk' }
abbrev EvClaim (w : World) (st st' f en en' : Value) (cm nr : Int) (n : Nat) : Prop :=
  ∀ (loose : List Str) (mean : ExcName → Option Value) (mg mb : Str → Option Value) (dp un : Nat) (gd : Option (List Code)) (cn : Str) (cs : Scope) (a : Addr) (ccd : Value) (cl : List (Str × Addr)) (outer : List Env) (A₀ : Around) (base h₀ : Heap) (L : Addr) (m : Str → Option Value) (s : Shared) (Q E : Value → Shared → Prop)
    (X : (hd.heap_39 w.params).In h₀) (wd x dx dd : Addr) (ow od : Obj) (k1 k2 k3 k4 k5 tc tn : Tok) (rest : List (Addr × Obj)),
    Below A₀ base outer h₀ → Fr h₀ L s.heap m → News h₀ L s.heap ((wd, ow) :: (x, instObj 94 dx) :: (dx, clo w k1 k2 k3 k4 k5 st f en cm tc nr tn) :: (dd, od) :: rest) → Top hd.view_39 loose mean mg mb h₀ → cs.kind = .function →
    OwnOff rest [wd, x, dx, dd] → @LT.lt Nat _ dd dx → @LT.lt Nat _ dx x → @LT.lt Nat _ x wd →
    WorldIs w ow st' f en' cm → Draws w od → FrameIn rest f →
    dp + 3 < recursionLimit → un + 24 < cLine → EvBack w h₀ L m s wd x dx dd rest n Q →
    wpAny (model PySem.Challenge.rw_no0063_01.row.prog w) (ktrTop dp un gd cn cs L a ccd cl outer) (call (.ref 131) [.ref wd, .ref x, .ref dd]) Q E s
section
variable {w : World} {h₀ h' : Heap} {L : Addr} {m : Str → Option Value} {s : Shared} {wd x dx dd : Addr} {rest all : List (Addr × Obj)} {n : Nat} {Q : Value → Shared → Prop} {ow od : Obj} {k1 k2 k3 k4 k5 tc tn t2 t3 t4 : Tok} {st st' f en en' : Value} {cm cm' nr nw wt : Int} {b : Bool} {tk' : Nat}
theorem allLt_in {d : Addr} {l : List (Addr × Obj)} (h : AllLt d l) : ∀ p ∈ l, p.1 < d := kst_ltOf h
theorem ev_end (hret : EvBack w h₀ L m s wd x dx dd rest n Q) (F : Fr h₀ L h' m) (N : News h₀ L h' all) (h1 : (wd, ow) ∈ all) (h2 : (x, instObj 94 dx) ∈ all) (h3 : (dx, clo w k1 k2 k3 k4 k5 st f en cm tc nr tn) ∈ all) (h4 : (dd, od) ∈ all) (h5 : ∀ p ∈ rest, p ∈ all)
    (hW : ow.IsDictOf (strKind P w) [(Str.ofString "state", st'), (Str.ofString "end", en'), (Str.ofString "frame", f), (Str.ofString "came", Value.int cm' t2), (Str.ofString "now", Value.int nw t3), (Str.ofString "wait", Value.int wt t4)])
    (hc : cm' = cm) (he : SameEn en en') (hD : Draws w od) (hF : FrameIn rest f) (hs : SameSt st st') (hS : Sta st f en cm nr (n + 1)) (hb : b = true) : Q (.bool b) { s with heap := h', toks := tk' } := by
  subst hb
  subst hc
  refine hret [] h' tk' _ ⟨ow, od, k1, k2, k3, k4, k5, st, st', f, en, en', _, tc, nr, tn, rfl, world_mk hW, hD, hs, he, hS, hF⟩ (fun _ h => nomatch h) (fun _ h => nomatch h) F ?_
  intro p hp
  refine N p ?_
  rcases List.mem_cons.mp hp with rfl | hp
  · exact h1
  rcases List.mem_cons.mp hp with rfl | hp
  · exact h2
  rcases List.mem_cons.mp hp with rfl | hp
  · exact h3
  rcases List.mem_cons.mp hp with rfl | hp
  · exact h4
  · exact h5 p hp
theorem ev_endF {D : Addr} {v : Int} {t5 t6 t7 : Tok} {j : Nat} (hret : EvBack w h₀ L m s wd x dx dd rest n Q) (F : Fr h₀ L h' m) (N : News h₀ L h' all) (h1 : (wd, ow) ∈ all) (h2 : (x, instObj 94 dx) ∈ all) (h3 : (dx, clo w k1 k2 k3 k4 k5 st (.ref D) en cm tc nr tn) ∈ all) (h4 : (dd, od) ∈ all) (h6 : (D, frameObj v j t5 t6 t7) ∈ all) (h5 : ∀ p ∈ rest, p ∈ all)
    (hW : ow.IsDictOf (strKind P w) [(Str.ofString "state", st'), (Str.ofString "end", en'), (Str.ofString "frame", .ref D), (Str.ofString "came", Value.int cm' t2), (Str.ofString "now", Value.int nw t3), (Str.ofString "wait", Value.int wt t4)])
    (hc : cm' = cm) (he : SameEn en en') (hD : Draws w od) (hlt : ∀ p ∈ rest, p.1 < D) (hoff : @Ne Nat D wd ∧ @Ne Nat D x ∧ @Ne Nat D dx ∧ @Ne Nat D dd) (hs : SameSt st st') (hS : Sta st (.ref D) en cm nr (n + 1)) (hb : b = true) : Q (.bool b) { s with heap := h', toks := tk' } := by
  subst hb
  subst hc
  refine hret [(D, frameObj v j t5 t6 t7)] h' tk' _ ⟨ow, od, k1, k2, k3, k4, k5, st, st', .ref D, en, en', _, tc, nr, tn, rfl, world_mk hW, hD, hs, he, hS, .inr ⟨D, v, j, t5, t6, t7, rfl, .head _⟩⟩ ?_ ?_ F ?_
  · intro p hp b hb
    rw [List.mem_singleton.mp hp]
    obtain ⟨a1, a2, a3, a4⟩ := hoff
    simp only [List.mem_cons, List.not_mem_nil, or_false] at hb
    rcases hb with rfl | rfl | rfl | rfl <;> assumption
  · intro p hp q hq
    rw [List.mem_singleton.mp hp]
    exact Ne.symm (Nat.ne_of_lt (hlt q hq))
  · intro p hp
    refine N p ?_
    rcases List.mem_cons.mp hp with rfl | hp
    · exact h1
    rcases List.mem_cons.mp hp with rfl | hp
    · exact h2
    rcases List.mem_cons.mp hp with rfl | hp
    · exact h3
    rcases List.mem_cons.mp hp with rfl | hp
    · exact h4
    rcases List.mem_cons.mp hp with rfl | hp
    · exact h6
    · exact h5 p hp
end
section
variable {t : Tok} {f en : Value} {c r : Int} {n : Nat}
theorem sta_open (h : c = 0) (h2 : r = 1) : Sta (.str (Str.ofString "open") t) .none .none c r n := ⟨by omega, by omega, t, .inl ⟨rfl, rfl, rfl, h, h2⟩⟩
theorem sta_closing {i : Int} {u : Tok} (h0 : 0 ≤ c) (h1 : c ≤ n) (h : Reply c r) : Sta (.str (Str.ofString "closing") t) f (.int i u) c r n := ⟨h0, h1, t, .inr (.inl ⟨rfl, ⟨i, u, rfl⟩, h⟩)⟩
theorem sta_draining {i : Int} {u : Tok} (h0 : 0 ≤ c) (h1 : c ≤ n) : Sta (.str (Str.ofString "draining") t) f (.int i u) c r n := ⟨h0, h1, t, .inr (.inr (.inl ⟨rfl, ⟨i, u, rfl⟩⟩))⟩
theorem sta_closed (h0 : 0 ≤ c) (h1 : c ≤ n) : Sta (.str (Str.ofString "closed") t) f .none c r n := ⟨h0, h1, t, .inr (.inr (.inr ⟨rfl, rfl⟩))⟩
theorem reply_no {c r : Int} (h : Reply c r) (h1 : c + 1 < r) (h2 : c < 16) : Reply (c + 1) r := by
  rcases h with ⟨a, b⟩ | ⟨a, b⟩ | ⟨a, d, b⟩ | ⟨a, d, b⟩ | ⟨a, d, b⟩ | ⟨a, b⟩
  · omega
  · omega
  · exact .inr (.inr (.inl ⟨by omega, by omega, b⟩))
  · exact .inr (.inr (.inr (.inl ⟨by omega, by omega, b⟩)))
  · exact .inr (.inr (.inr (.inr (.inl ⟨by omega, by omega, b⟩))))
  · omega
theorem reply_yes {c r : Int} (h : Reply c r) (h1 : ¬ c + 1 < r) (h2 : c < 16) : Reply (c + 1) (2 * r) := by
  rcases h with ⟨a, b⟩ | ⟨a, b⟩ | ⟨a, d, b⟩ | ⟨a, d, b⟩ | ⟨a, d, b⟩ | ⟨a, b⟩
  · exact .inr (.inl ⟨by omega, by omega⟩)
  · exact .inr (.inr (.inl ⟨by omega, by omega, by omega⟩))
  · exact .inr (.inr (.inr (.inl ⟨by omega, by omega, by omega⟩)))
  · exact .inr (.inr (.inr (.inr (.inl ⟨by omega, by omega, by omega⟩))))
  · exact .inr (.inr (.inr (.inr (.inr ⟨by omega, by omega⟩))))
  · omega
theorem due_no {c r d : Int} (h : Reply c r) (h1 : c + 1 < r) (h2 : c < 16) (e : d = c + 1) : (false == [1, 2, 4, 8, 16].any fun x => x == d) = true := by
  subst e
  unfold Reply at h
  simp only [List.any_cons, List.any_nil, Bool.or_false]
  rw [show ((1 : Int) == c + 1) = false from beq_eq_false_iff_ne.mpr (by omega), show ((2 : Int) == c + 1) = false from beq_eq_false_iff_ne.mpr (by omega), show ((4 : Int) == c + 1) = false from beq_eq_false_iff_ne.mpr (by omega), show ((8 : Int) == c + 1) = false from beq_eq_false_iff_ne.mpr (by omega), show ((16 : Int) == c + 1) = false from beq_eq_false_iff_ne.mpr (by omega)]
  rfl
theorem due_yes {c r d : Int} (h : Reply c r) (h1 : ¬ c + 1 < r) (h2 : c < 16) (e : d = c + 1) : (true == [1, 2, 4, 8, 16].any fun x => x == d) = true := by
  subst e
  unfold Reply at h
  have : c + 1 = 1 ∨ c + 1 = 2 ∨ c + 1 = 4 ∨ c + 1 = 8 ∨ c + 1 = 16 := by
    rcases h with ⟨a, b⟩ | ⟨a, b⟩ | ⟨a, d, b⟩ | ⟨a, d, b⟩ | ⟨a, d, b⟩ | ⟨a, b⟩
    · exact .inl (by omega)
    · exact .inr (.inl (by omega))
    · exact .inr (.inr (.inl (by omega)))
    · exact .inr (.inr (.inr (.inl (by omega))))
    · exact .inr (.inr (.inr (.inr (by omega))))
    · omega
  rcases this with h | h | h | h | h <;> rw [h] <;> rfl
theorem eq_oo : (Str.ofString "open" == Str.ofString "open") = true := by decide
theorem eq_cc : (Str.ofString "closing" == Str.ofString "closing") = true := by decide
theorem eq_dd : (Str.ofString "draining" == Str.ofString "draining") = true := by decide
theorem eq_kk : (Str.ofString "closed" == Str.ofString "closed") = true := by decide
theorem ne_oc : (Str.ofString "open" == Str.ofString "closing") = false := by decide
theorem ne_ok : (Str.ofString "open" == Str.ofString "closed") = false := by decide
theorem ne_dc : (Str.ofString "draining" == Str.ofString "closing") = false := by decide
theorem ne_do : (Str.ofString "draining" == Str.ofString "open") = false := by decide
theorem ne_dk : (Str.ofString "draining" == Str.ofString "closed") = false := by decide
theorem ne_co : (Str.ofString "closing" == Str.ofString "open") = false := by decide
theorem ne_ck : (Str.ofString "closing" == Str.ofString "closed") = false := by decide
theorem ne_ko : (Str.ofString "closed" == Str.ofString "open") = false := by decide
theorem ne_kc : (Str.ofString "closed" == Str.ofString "closing") = false := by decide
theorem sameEn0 : SameEn .none .none := .inl ⟨rfl, rfl⟩
theorem sameEn {i j : Int} {t u : Tok} (h : i = j) : SameEn (.int i t) (.int j u) := .inr ⟨i, t, u, rfl, by rw [h]⟩
theorem sameSt {x : Str} {t u : Tok} : SameSt (.str x t) (.str x u) := ⟨x, t, u, rfl, rfl⟩
end
/-! part T5 -/
set_option maxRecDepth 100000 in
set_option maxHeartbeats 8000000 in
theorem ev_open {w : World} : ∀ ts tu n, EvClaim w (.str (Str.ofString "open") ts) (.str (Str.ofString "open") tu) .none .none .none 0 1 n := by
  unfold EvClaim
  intro ts tu n
  k_with_none
  k_with "execs nil" => (refine wpAny_execs_nil ?_)
  k_with "callWith ref" => (k_here; k_dflt (refine' callWith_K0 ?k1 ?k2 ?_; (case k1 => first | (with_reducible assumption) | exact Frag.In.keeps (by k_asm) (Fr.keep (by k_asm))); (case k2 => k_is); k_whole; (try dsimp only [List.nil_append, List.cons_append])))
  k_with "call ref" => (k_here; refine wpAny_call ?_; k_dflt (refine' code_def ?k1 ?k2 ?k3 ?k4 ?k5 ?kA ?kF ?kK ?k6 ?k7 ?k8 ?k9 ?kB ?_ ?c2 ?c3 ?c4 ?c5; (case kA => exact rfl); (case kF => exact rfl); (case kK => first | exact rfl | assumption); (case k1 => k_asm); (case k2 => k_asm); (case k3 => k_asm); (case k4 => k_asm); (case k5 => k_asm); (case k6 => k_is); (case k7 => k_is); (case k8 => ktr_room); (case k9 => exact BindsTo.of_eq rfl); (case c5 => decide); (case kB => exact locs rfl); (case c2 => exact rfl); (case c3 => exact rfl); (case c4 => exact rfl); k_whole; intro g' L' h' FG' F' N' B' X' T'; (try dsimp only); (try k_lift B'); (try k_fold)); walk_say "ENTER")
  k_with "call ref" => (k_here; k_dflt ( (refine' take_use ?k1 ?k2 ?k3 ?k4 ?k5 ?kK ?kU ?kD ?kp ?kq ?kd ?ku ?_); (case k1 => k_asm); (case k2 => k_asm); (case k3 => k_asm); (case k4 => k_asm); (case k5 => k_asm); (case kK => first | exact rfl | assumption); (case kU => k_updF); (case kD => first | assumption | exact draws_mk (by assumption) (by omega) (by omega)); (case kp => decide); (case kq => decide); (case kd => ktr_room); (case ku => ktr_units); k_whole); intro v9 tv9 od9 h9 tk9 hv9 hw9 hD9 F9 N9; (try dsimp only at N9); (try k_sweep); (try dsimp only); (try k_fold); walk_say "TAKE")
  k_fill
  intro loose mean mg mb dp un gd cn cs a ccd cl outer A₀ base h₀ L m s Q E X wd x dx dd ow od k1 k2 k3 k4 k5 tc tn rest B F N T hk hoff l1 l2 l3 hW hD hF hdp hun hret
  obtain ⟨nw, wt, t2, t3, t4, hW⟩ := hW
  refine wpAny_call ?_
  (first | k_dflt cell_enter | fail "not entered")
  k_steps
  all_goals (first
    | (refine' ev_end hret ?k1 ?k2 ?k3 ?k4 ?k5 ?k6 ?k7 ?k8 ?kc ?ke ?k9 (by assumption) sameSt ?k10 ?k11;
       (case k1 => k_asm); (case k2 => k_asm); (case k3 => k_mem); (case k4 => k_mem); (case k5 => k_mem); (case k6 => k_mem); (case k7 => (intro p hp; k_ownIn)); (case k8 => assumption); (case kc => first | rfl | decide | omega); (case ke => first | exact sameEn0 | exact sameEn rfl); (case k9 => assumption);
       (case k10 => first | exact sta_open rfl rfl | exact sta_closing (by omega) (by omega) (.inl ⟨rfl, rfl⟩) | exact sta_draining (by omega) (by omega) | exact sta_closed (by omega) (by omega)); (case k11 => decide))
    | (refine' ev_endF hret ?k1 ?k2 ?k3 ?k4 ?k5 ?k6 ?k7 ?k8 ?k9 ?kc ?ke ?k10 ?k12 ?k13 sameSt ?k14 ?k11;
       (case k1 => k_asm); (case k2 => k_asm); (case k3 => k_mem); (case k4 => k_mem); (case k5 => k_mem); (case k6 => k_mem); (case k7 => k_mem); (case k8 => (intro p hp; k_ownIn)); (case k9 => assumption); (case kc => first | rfl | decide | omega); (case ke => first | exact sameEn0 | exact sameEn rfl); (case k10 => assumption);
       (case k12 => ((repeat (rename _ ∧ _ => hh9; rcases hh9 with ⟨_, _⟩)); exact allLt_in (by assumption))); (case k13 => omega);
       (case k14 => first | exact sta_closing (by omega) (by omega) (.inl ⟨rfl, rfl⟩)); (case k11 => decide)))
/-! part T5b -/
set_option maxRecDepth 100000 in
set_option maxHeartbeats 8000000 in
theorem ev_closing {w : World} : ∀ ts tu f i u v (c r : Int) (n : Nat), Reply c r → 0 ≤ c → c ≤ n → n < 16 → EvClaim w (.str (Str.ofString "closing") ts) (.str (Str.ofString "closing") tu) f (.int i u) (.int i v) c r n := by
  unfold EvClaim
  intro ts tu f i u v c r n hR hc0 hcn hn
  k_with_none
  k_with "execs nil" => (refine wpAny_execs_nil ?_)
  k_with "callWith ref" => (k_here; k_dflt (refine' callWith_K0 ?k1 ?k2 ?_; (case k1 => first | (with_reducible assumption) | exact Frag.In.keeps (by k_asm) (Fr.keep (by k_asm))); (case k2 => k_is); k_whole; (try dsimp only [List.nil_append, List.cons_append])))
  k_with "call ref" => (k_here; refine wpAny_call ?_; k_dflt (refine' code_def ?k1 ?k2 ?k3 ?k4 ?k5 ?kA ?kF ?kK ?k6 ?k7 ?k8 ?k9 ?kB ?_ ?c2 ?c3 ?c4 ?c5; (case kA => exact rfl); (case kF => exact rfl); (case kK => first | exact rfl | assumption); (case k1 => k_asm); (case k2 => k_asm); (case k3 => k_asm); (case k4 => k_asm); (case k5 => k_asm); (case k6 => k_is); (case k7 => k_is); (case k8 => ktr_room); (case k9 => exact BindsTo.of_eq rfl); (case c5 => decide); (case kB => exact locs rfl); (case c2 => exact rfl); (case c3 => exact rfl); (case c4 => exact rfl); k_whole; intro g' L' h' FG' F' N' B' X' T'; (try dsimp only); (try k_lift B'); (try k_fold)); walk_say "ENTER")
  k_with "call ref" => (k_here; k_dflt ( (refine' take_use ?k1 ?k2 ?k3 ?k4 ?k5 ?kK ?kU ?kD ?kp ?kq ?kd ?ku ?_); (case k1 => k_asm); (case k2 => k_asm); (case k3 => k_asm); (case k4 => k_asm); (case k5 => k_asm); (case kK => first | exact rfl | assumption); (case kU => k_updF); (case kD => first | assumption | exact draws_mk (by assumption) (by omega) (by omega)); (case kp => decide); (case kq => decide); (case kd => ktr_room); (case ku => ktr_units); k_whole); intro v9 tv9 od9 h9 tk9 hv9 hw9 hD9 F9 N9; (try dsimp only at N9); (try k_sweep); (try dsimp only); (try k_fold); walk_say "TAKE")
  k_fill
  intro loose mean mg mb dp un gd cn cs a ccd cl outer A₀ base h₀ L m s Q E X wd x dx dd ow od k1 k2 k3 k4 k5 tc tn rest B F N T hk hoff l1 l2 l3 hW hD hF hdp hun hret
  obtain ⟨nw, wt, t2, t3, t4, hW⟩ := hW
  refine wpAny_call ?_
  (first | k_dflt cell_enter | fail "not entered")
  k_steps
  all_goals (
    (refine' ev_end hret ?k1 ?k2 ?k3 ?k4 ?k5 ?k6 ?k7 ?k8 ?kc ?ke ?k9 ?kf sameSt ?k10 ?k11)
    (case k1 => k_asm)
    (case k2 => k_asm)
    (case k3 => k_mem)
    (case k4 => k_mem)
    (case k5 => k_mem)
    (case k6 => k_mem)
    (case k7 => (intro p hp; k_ownIn))
    (case k8 => assumption)
    (case kc => first | rfl | ((try simp only [eq_cc, ne_oc, ne_dc, ne_kc, Bool.false_eq_true, if_false, if_true]); omega))
    (case ke => first | exact sameEn0 | exact sameEn rfl)
    (case k9 => assumption)
    (case kf => first | assumption)
    (case k10 => first | exact sta_draining (by omega) (by omega) | exact sta_closed (by omega) (by omega) | exact sta_open rfl rfl | exact sta_closing (by omega) (by omega) (by assumption) | exact sta_closing (by omega) (by omega) (reply_no hR (by assumption) (by omega)) | exact sta_closing (by omega) (by omega) (reply_yes hR (by assumption) (by omega)))
    (case k11 => first | exact due_no hR (by assumption) (by omega) (by simp only [eq_cc, if_true]) | exact due_yes hR (by assumption) (by omega) (by simp only [eq_cc, if_true]) | rfl | decide | (simp only [eq_oo, eq_cc, eq_dd, eq_kk, ne_oc, ne_ok, ne_dc, ne_do, ne_dk, ne_co, ne_ck, ne_ko, ne_kc]; done)))
/-! part T5c -/
set_option maxRecDepth 100000 in
set_option maxHeartbeats 8000000 in
theorem ev_draining {w : World} : ∀ ts tu f i u v (c r : Int) (n : Nat), 0 ≤ c → c ≤ n → n < 16 → EvClaim w (.str (Str.ofString "draining") ts) (.str (Str.ofString "draining") tu) f (.int i u) (.int i v) c r n := by
  unfold EvClaim
  intro ts tu f i u v c r n hc0 hcn hn
  k_with_none
  k_with "execs nil" => (refine wpAny_execs_nil ?_)
  k_with "callWith ref" => (k_here; k_dflt (refine' callWith_K0 ?k1 ?k2 ?_; (case k1 => first | (with_reducible assumption) | exact Frag.In.keeps (by k_asm) (Fr.keep (by k_asm))); (case k2 => k_is); k_whole; (try dsimp only [List.nil_append, List.cons_append])))
  k_with "call ref" => (k_here; refine wpAny_call ?_; k_dflt (refine' code_def ?k1 ?k2 ?k3 ?k4 ?k5 ?kA ?kF ?kK ?k6 ?k7 ?k8 ?k9 ?kB ?_ ?c2 ?c3 ?c4 ?c5; (case kA => exact rfl); (case kF => exact rfl); (case kK => first | exact rfl | assumption); (case k1 => k_asm); (case k2 => k_asm); (case k3 => k_asm); (case k4 => k_asm); (case k5 => k_asm); (case k6 => k_is); (case k7 => k_is); (case k8 => ktr_room); (case k9 => exact BindsTo.of_eq rfl); (case c5 => decide); (case kB => exact locs rfl); (case c2 => exact rfl); (case c3 => exact rfl); (case c4 => exact rfl); k_whole; intro g' L' h' FG' F' N' B' X' T'; (try dsimp only); (try k_lift B'); (try k_fold)); walk_say "ENTER")
  k_with "call ref" => (k_here; k_dflt ( (refine' take_use ?k1 ?k2 ?k3 ?k4 ?k5 ?kK ?kU ?kD ?kp ?kq ?kd ?ku ?_); (case k1 => k_asm); (case k2 => k_asm); (case k3 => k_asm); (case k4 => k_asm); (case k5 => k_asm); (case kK => first | exact rfl | assumption); (case kU => k_updF); (case kD => first | assumption | exact draws_mk (by assumption) (by omega) (by omega)); (case kp => decide); (case kq => decide); (case kd => ktr_room); (case ku => ktr_units); k_whole); intro v9 tv9 od9 h9 tk9 hv9 hw9 hD9 F9 N9; (try dsimp only at N9); (try k_sweep); (try dsimp only); (try k_fold); walk_say "TAKE")
  k_fill
  intro loose mean mg mb dp un gd cn cs a ccd cl outer A₀ base h₀ L m s Q E X wd x dx dd ow od k1 k2 k3 k4 k5 tc tn rest B F N T hk hoff l1 l2 l3 hW hD hF hdp hun hret
  obtain ⟨nw, wt, t2, t3, t4, hW⟩ := hW
  refine wpAny_call ?_
  (first | k_dflt cell_enter | fail "not entered")
  k_steps
  all_goals (
    (refine' ev_end hret ?k1 ?k2 ?k3 ?k4 ?k5 ?k6 ?k7 ?k8 ?kc ?ke ?k9 ?kf sameSt ?k10 ?k11)
    (case k1 => k_asm)
    (case k2 => k_asm)
    (case k3 => k_mem)
    (case k4 => k_mem)
    (case k5 => k_mem)
    (case k6 => k_mem)
    (case k7 => (intro p hp; k_ownIn))
    (case k8 => assumption)
    (case kc => first | rfl | ((try simp only [eq_cc, ne_oc, ne_dc, ne_kc, Bool.false_eq_true, if_false, if_true]); omega))
    (case ke => first | exact sameEn0 | exact sameEn rfl)
    (case k9 => assumption)
    (case kf => first | assumption)
    (case k10 => first | exact sta_draining (by omega) (by omega) | exact sta_closed (by omega) (by omega) | exact sta_open rfl rfl | exact sta_closing (by omega) (by omega) (by assumption))
    (case k11 => first | rfl | decide | (simp only [eq_oo, eq_cc, eq_dd, eq_kk, ne_oc, ne_ok, ne_dc, ne_do, ne_dk, ne_co, ne_ck, ne_ko, ne_kc]; done)))
/-! part T5d -/
set_option maxRecDepth 100000 in
set_option maxHeartbeats 8000000 in
theorem ev_closed {w : World} : ∀ ts tu f (c r : Int) (n : Nat), 0 ≤ c → c ≤ n → n < 16 → EvClaim w (.str (Str.ofString "closed") ts) (.str (Str.ofString "closed") tu) f .none .none c r n := by
  unfold EvClaim
  intro ts tu f c r n hc0 hcn hn
  k_with_none
  k_with "execs nil" => (refine wpAny_execs_nil ?_)
  k_with "callWith ref" => (k_here; k_dflt (refine' callWith_K0 ?k1 ?k2 ?_; (case k1 => first | (with_reducible assumption) | exact Frag.In.keeps (by k_asm) (Fr.keep (by k_asm))); (case k2 => k_is); k_whole; (try dsimp only [List.nil_append, List.cons_append])))
  k_with "call ref" => (k_here; refine wpAny_call ?_; k_dflt (refine' code_def ?k1 ?k2 ?k3 ?k4 ?k5 ?kA ?kF ?kK ?k6 ?k7 ?k8 ?k9 ?kB ?_ ?c2 ?c3 ?c4 ?c5; (case kA => exact rfl); (case kF => exact rfl); (case kK => first | exact rfl | assumption); (case k1 => k_asm); (case k2 => k_asm); (case k3 => k_asm); (case k4 => k_asm); (case k5 => k_asm); (case k6 => k_is); (case k7 => k_is); (case k8 => ktr_room); (case k9 => exact BindsTo.of_eq rfl); (case c5 => decide); (case kB => exact locs rfl); (case c2 => exact rfl); (case c3 => exact rfl); (case c4 => exact rfl); k_whole; intro g' L' h' FG' F' N' B' X' T'; (try dsimp only); (try k_lift B'); (try k_fold)); walk_say "ENTER")
  k_with "call ref" => (k_here; k_dflt ( (refine' take_use ?k1 ?k2 ?k3 ?k4 ?k5 ?kK ?kU ?kD ?kp ?kq ?kd ?ku ?_); (case k1 => k_asm); (case k2 => k_asm); (case k3 => k_asm); (case k4 => k_asm); (case k5 => k_asm); (case kK => first | exact rfl | assumption); (case kU => k_updF); (case kD => first | assumption | exact draws_mk (by assumption) (by omega) (by omega)); (case kp => decide); (case kq => decide); (case kd => ktr_room); (case ku => ktr_units); k_whole); intro v9 tv9 od9 h9 tk9 hv9 hw9 hD9 F9 N9; (try dsimp only at N9); (try k_sweep); (try dsimp only); (try k_fold); walk_say "TAKE")
  k_fill
  intro loose mean mg mb dp un gd cn cs a ccd cl outer A₀ base h₀ L m s Q E X wd x dx dd ow od k1 k2 k3 k4 k5 tc tn rest B F N T hk hoff l1 l2 l3 hW hD hF hdp hun hret
  obtain ⟨nw, wt, t2, t3, t4, hW⟩ := hW
  refine wpAny_call ?_
  (first | k_dflt cell_enter | fail "not entered")
  k_steps
  all_goals (
    (refine' ev_end hret ?k1 ?k2 ?k3 ?k4 ?k5 ?k6 ?k7 ?k8 ?kc ?ke ?k9 ?kf sameSt ?k10 ?k11)
    (case k1 => k_asm)
    (case k2 => k_asm)
    (case k3 => k_mem)
    (case k4 => k_mem)
    (case k5 => k_mem)
    (case k6 => k_mem)
    (case k7 => (intro p hp; k_ownIn))
    (case k8 => assumption)
    (case kc => first | rfl | ((try simp only [eq_cc, ne_oc, ne_dc, ne_kc, Bool.false_eq_true, if_false, if_true]); omega))
    (case ke => first | exact sameEn0 | exact sameEn rfl)
    (case k9 => assumption)
    (case kf => first | assumption)
    (case k10 => first | exact sta_draining (by omega) (by omega) | exact sta_closed (by omega) (by omega) | exact sta_open rfl rfl | exact sta_closing (by omega) (by omega) (by assumption))
    (case k11 => first | rfl | decide | (simp only [eq_oo, eq_cc, eq_dd, eq_kk, ne_oc, ne_ok, ne_dc, ne_do, ne_dk, ne_co, ne_ck, ne_ko, ne_kc]; done)))
/-! part T6 -/
def TurnEnd (h₀ : Heap) (L : Addr) (x : Str) (m₀ : Str → Option Value) (own : List (Addr × Obj)) (J : List (Addr × Obj) → Prop) (s : Shared) (f : Flow) (s₂ : Shared) : Prop :=
  f = .next ∧ ∃ (h' : Heap) (tk' : Nat) (u : Str → Option Value) (nx' : List (Addr × Obj)), s₂ = { s with heap := h', toks := tk' } ∧ Fr h₀ L h' (fun y => if y = x then u y else m₀ y) ∧ News h₀ L h' (nx' ++ own) ∧ (∀ p ∈ nx', ∀ q ∈ own, p.1 ≠ q.1) ∧ J nx'
section
variable {prog : Program} {w : World} {A : Around} {E : Value → Shared → Prop} {s : Shared} {env : Env} {h₀ : Heap} {x : Str} {body : List Stmt} {Q : Flow → Shared → Prop}
theorem eta_at {m : Str → Option Value} : (fun y => if y = x then m y else m y) = m := by
  funext y
  by_cases h : y = x <;> simp [h]
/-- a loop over a range, upon a ledger that may grow -/
theorem turns_range {r : Addr} {a₀ b₀ : Int} {t₀ u₀ v₀ : Tok} {n : Nat} {m₀ : Str → Option Value} {news : List (Addr × Obj)} (I : Nat → List (Addr × Obj) → Prop)
    (hh : A.handled = none) (hr : IsRange s.heap r a₀ b₀ 1 t₀ u₀ v₀) (hsmall : Builtin.Range.small a₀ b₀ 1 = true) (hn : Builtin.Range.rangeSize a₀ b₀ 1 = (n : Int)) (F : Fr h₀ env.locals s.heap m₀) (N : News h₀ env.locals s.heap news) (hI : I 0 news)
    (turn : ∀ i nx own k t h tk, i < n → I i nx → (∀ p ∈ nx, ∀ q ∈ own, p.1 ≠ q.1) → (∀ q ∈ own, q.2.cls = .type "range_iterator") → Fr h₀ env.locals h (fun y => if y = x then some (.int k t) else m₀ y) → News h₀ env.locals h (nx ++ own) →
      wpAny (model prog w) A (execs body env) (TurnEnd h₀ env.locals x m₀ own (I (i + 1)) { s with heap := h, toks := tk }) E { s with heap := h, toks := tk })
    (done : ∀ (u : Str → Option Value) nx h tk, I n nx → Fr h₀ env.locals h (fun y => if y = x then u y else m₀ y) → News h₀ env.locals h nx → Q .next { s with heap := h, toks := tk }) :
    wpAny (model prog w) A (pyIter (.ref r)) (fun it s₂ => LoopAtV prog w A h₀ env x body Q E it s₂) E s := by
  refine wpAny_pyIter_range hr hsmall ?_
  have W : Walks prog w A s.heap.objs.size [s.heap.objs.size] [s.heap.objs.size] n (fun i v => i < n ∧ ∃ t, v = .int (a₀ + i * 1) t)
      (fun i h => IsRangeIter h s.heap.objs.size (a₀ + (i : Nat) * 1) ((n : Int) - (i : Nat)) 1) := (Walks.range hh _ a₀ 1 n).bound
  refine ⟨s.heap.objs.size, _, _, n, _, _, m₀, news, (fun i m nx => (∀ y, y ≠ x → m y = m₀ y) ∧ I i nx), rfl, W, ?_, ?_, ?_, (by show IsRangeIter _ _ _ _ _; rw [hn]; simpa using Heap.get?_push_size _ rfl), F.push _, (fun p hp => ⟨Heap.get?_push_of_some _ (N p hp).1, (N p hp).2⟩), ⟨fun _ _ => rfl, hI⟩, ?_, ?_⟩
  · intro hm
    exact absurd F.ns.lt ((List.mem_singleton.mp hm) ▸ Nat.lt_irrefl _)
  · intro b hb
    rw [List.mem_singleton.mp hb]
    exact next_is_new F
  · intro p hp hI
    exact absurd (Heap.lt_size (N p hp).1) ((List.mem_singleton.mp hI) ▸ Nat.lt_irrefl _)
  · rintro i v m₁ nx s₁ own ⟨h, tk, rfl⟩ hi ⟨_, t, rfl⟩ ⟨hm, hJ⟩ hoff hown hget hall hst F₁ N₁
    have em : (fun y => if y = x then some (Value.int (a₀ + (i : Int) * 1) t) else m₁ y) = fun y => if y = x then some (Value.int (a₀ + (i : Int) * 1) t) else m₀ y := by
      funext y
      by_cases hy : y = x
      · rw [if_pos hy, if_pos hy]
      · rw [if_neg hy, if_neg hy]; exact hm y hy
    rw [em] at F₁
    have N₂ : News h₀ env.locals h (nx ++ own) := fun p hp => N₁ p ((List.mem_append.mp hp).elim (fun q => List.mem_append.mpr (.inr q)) fun q => List.mem_append.mpr (.inl q))
    have hne : ∀ p ∈ nx, ∀ q ∈ own, p.1 ≠ q.1 := fun p hp q hq e => hoff p hp (e ▸ hown q hq)
    have hcls : ∀ q ∈ own, q.2.cls = .type "range_iterator" := by
      intro q hq
      have e1 := hget q hq
      rw [List.mem_singleton.mp (hown q hq)] at e1
      have e2 : h.get? s.heap.objs.size = some _ := hst
      rw [e2] at e1
      rw [← Option.some.inj e1]
    refine wpAny_mono (turn i nx own _ t h tk hi hJ hne hcls F₁ N₂) (fun f s₂ p => ?_) fun _ _ e => e
    obtain ⟨rfl, h', tk', u, nx', e, F', N', hn', hJ'⟩ := p
    have hI9 : (s.heap.objs.size, _) ∈ own := hall s.heap.objs.size (.head _) (next_is_new F) _ hst
    refine .next ⟨rfl, h', tk', _, nx', e, F', fun p hp => N' p ((List.mem_append.mp hp).elim (fun q => List.mem_append.mpr (.inr q)) fun q => List.mem_append.mpr (.inl q)), fun p hp hq => ?_, ?_, hJ'⟩
    · exact hn' p hp _ hI9 (List.mem_singleton.mp hq)
    · intro y hy
      exact if_neg hy
  · rintro h' tk m' nx F' N' _ ⟨hm, hJ⟩
    refine done m' nx h' tk hJ ?_ N'
    have em : (fun y => if y = x then m' y else m₀ y) = m' := by
      funext y
      by_cases hy : y = x
      · rw [if_pos hy]
      · rw [if_neg hy]; exact (hm y hy).symm
    rw [em]
    exact F'
end
/-! part T7a -/
/-- what one draw below 256 within a comprehension hands back -/
def DrawEl (w : World) (g : Obj → List (Addr × Obj)) (y : Value) (nw : List (Addr × Obj)) : Prop := ∃ a t od, y = .int a t ∧ 0 ≤ a ∧ a < 256 ∧ Draws w od ∧ nw = g od
def Small (y : Value) : Prop := ∃ a t, y = .int a t ∧ 0 ≤ a ∧ a < 256
section
variable {prog : Program} {w : World} {A : Around} {h₀ : Heap} {L : Addr} {m : Str → Option Value} {env : Env} {elt : PySem.Expr} {x : Str} {scope : Scope} {cl : List (Str × Addr)} {s : Shared} {S : List (Addr × Obj) → Prop} {PP : Nat → Value → Prop} {Fin : List Value → List (Addr × Obj) → Prop}
theorem off_any {I C D d : Addr} {o : Obj} {news : List (Addr × Obj)} {g : Obj → List (Addr × Obj)} (U : UpdF d o news g) (h : LCg.Off3 I C D (g o)) (o' : Obj) : LCg.Off3 I C D (g o') := by
  obtain ⟨pre, post, -, hg, -, -⟩ := U.split
  have hm := h.mem
  refine LCg.Off3.of fun p hp => ?_
  rw [hg] at hp
  rw [hg] at hm
  rcases List.mem_append.mp hp with h1 | h1
  · exact hm p (List.mem_append.mpr (.inl h1))
  · rcases List.mem_cons.mp h1 with h2 | h2
    · rw [h2]
      exact hm (d, o) (List.mem_append.mpr (.inr (.head _)))
    · exact hm p (List.mem_append.mpr (.inr (.tail _ h2)))
theorem draws_rest {n : Nat} {dd : Addr} {od : Obj} {news : List (Addr × Obj)} {g : Obj → List (Addr × Obj)} (hm : (dd, od) ∈ news) (U : UpdF dd od news g) (hD : Draws w od) (hS : ∀ o, S (g o))
    (turn : ∀ v I oI C oC D m₂ ys h tk (E' : Value → Shared → Prop) o, Draws w o → LCg.NsObj oC m₂ → m₂ x = some v → Fr h₀ L h m → News h₀ L h ((I, oI) :: (C, oC) :: (D, LCg.lst ys) :: g o) → LCg.Off3 I C D (g o) → (∀ o', LCg.Off3 I C D (g o')) → ((@Ne Nat I C) ∧ (@Ne Nat I D) ∧ (@Ne Nat C D)) →
      wpAny (model prog w) A (eval elt (compEnvC scope cl C env)) (LCg.CompEnd h₀ L m { s with heap := h, toks := tk } I oI C oC D (LCg.lst ys) S (fun y nw => DrawEl w g y nw)) E' { s with heap := h, toks := tk })
    (fin : ∀ ys o, ys.length = n → (∀ y ∈ ys, Small y) → Draws w o → Fin ys (g o)) : LCg.CompRest prog w A h₀ L m env elt x scope cl s S PP Fin n 0 [] news := by
  have e : news = g od := by
    obtain ⟨pre, post, e, hg, -, -⟩ := U.split
    rw [e, hg]
  have U' : ∀ o I C D, LCg.Off3 I C D (g o) → ∀ o', LCg.Off3 I C D (g o') := by
    obtain ⟨pre, post, e, hg, a, b⟩ := U.split
    intro o I C D h o'
    have hm := h.mem
    refine LCg.Off3.of fun p hp => ?_
    rw [hg] at hp hm
    rcases List.mem_append.mp hp with h1 | h1
    · exact hm p (List.mem_append.mpr (.inl h1))
    · rcases List.mem_cons.mp h1 with h2 | h2
      · rw [h2]
        exact hm (dd, o) (List.mem_append.mpr (.inr (.head _)))
      · exact hm p (List.mem_append.mpr (.inr (.tail _ h2)))
  have key : ∀ (j i : Nat) (ys : List Value) (o : Obj), i + j = n → ys.length = i → (∀ y ∈ ys, Small y) → Draws w o → LCg.CompRest prog w A h₀ L m env elt x scope cl s S PP Fin j i ys (g o) := by
    intro j
    induction j with
    | zero => exact fun i ys o hi hl hy ho => LCg.CompRest.zero (fin ys o (by omega) hy ho)
    | succ j ih =>
      intro i ys o hi hl hy ho
      refine LCg.CompRest.succ ?_
      intro v I oI C oC D m₂ h tk E' _ hC hx F N off ne
      refine wpAny_mono (turn v I oI C oC D m₂ ys h tk E' o ho hC hx F N off (U' o I C D off) ne) (fun y s₂ hq => ?_) fun _ _ e => e
      obtain ⟨h', tk', nw, e, F', N', off', hS', a, t, o', hy', h0, h1, hD', hn⟩ := hq
      refine ⟨h', tk', nw, e, F', N', off', hS', ?_⟩
      rw [hn]
      refine ih (i + 1) _ o' (by omega) (by rw [List.length_append, List.length_singleton, hl]) (fun z hz => ?_) hD'
      rcases List.mem_append.mp hz with hz | hz
      · exact hy z hz
      · rw [List.mem_singleton.mp hz]
        exact ⟨a, t, hy', h0, h1⟩
  rw [e]
  exact key n 0 [] od (by omega) rfl (fun _ h => nomatch h) hD
theorem draw_end {I C D : Addr} {oI oC oD : Obj} {g : Obj → List (Addr × Obj)} {od : Obj} {s₁ : Shared} {a : Int} {t : Tok} {h' : Heap} {tk : Nat} (F : Fr h₀ L h' m) (N : News h₀ L h' ((I, oI) :: (C, oC) :: (D, oD) :: g od)) (off : ∀ o, LCg.Off3 I C D (g o)) (hS : S (g od)) (hD : Draws w od) (h0 : 0 ≤ a) (h1 : a < 256) :
    LCg.CompEnd h₀ L m s₁ I oI C oC D oD S (fun y nw => DrawEl w g y nw) (.int a t) { s₁ with heap := h', toks := tk } := ⟨h', tk, g od, rfl, F, N, off od, hS, ⟨a, t, od, rfl, h0, h1, hD, rfl⟩⟩
/-- the four draws, written out -/
theorem four {ys : List Value} (h : ys.length = 4) (hs : ∀ y ∈ ys, Small y) : ∃ a b c d ta tb tc td, ys = [.int a ta, .int b tb, .int c tc, .int d td] ∧ (0 ≤ a ∧ a < 256) ∧ (0 ≤ b ∧ b < 256) ∧ (0 ≤ c ∧ c < 256) ∧ (0 ≤ d ∧ d < 256) := by
  match ys, h, hs with
  | [y1, y2, y3, y4], _, hs =>
    obtain ⟨a, ta, rfl, a0, a1⟩ := hs y1 (.head _)
    obtain ⟨b, tb, rfl, b0, b1⟩ := hs y2 (.tail _ (.head _))
    obtain ⟨c, tc, rfl, c0, c1⟩ := hs y3 (.tail _ (.tail _ (.head _)))
    obtain ⟨d, td, rfl, d0, d1⟩ := hs y4 (.tail _ (.tail _ (.tail _ (.head _))))
    exact ⟨a, b, c, d, ta, tb, tc, td, rfl, ⟨a0, a1⟩, ⟨b0, b1⟩, ⟨c0, c1⟩, ⟨d0, d1⟩⟩
end
/-! part T8 -/
theorem or_fact : ∀ x : Fin 256, Builtin.bitOr 64 (Builtin.bitAnd (x.val : Int) 63) = 64 + ((x.val % 64 : Nat) : Int) := by decide +kernel
theorem and_fact : ∀ y : Fin 64, Builtin.bitAnd (64 + (y.val : Int)) 192 = 64 := by decide +kernel
theorem bInts_inj {a b : Array UInt8} (h : KBw.bInts a = KBw.bInts b) : a.toList = b.toList := by
  unfold KBw.bInts at h
  refine List.map_inj_right (f := fun c : UInt8 => (c.toNat : Int)) (fun x y e => ?_) |>.mp h
  exact UInt8.toNat_inj.mp (Int.ofNat.inj e)
theorem clip_some {n d : Nat} {x : Int} (h0 : 0 ≤ x) (h1 : x ≤ n) : (some x).elim d (clipAt n) = x.toNat := clipAt_in h0 h1
theorem clip_none {n d : Nat} : (none : Option Int).elim d (clipAt n) = d := rfl
/-- what or-ing the mark of a short header onto a byte gives -/
structure Mark (x y : Int) : Prop where
  lo : 64 ≤ y
  hi : y < 128
  fd : y.fdiv 64 = 1
  fm : y.fmod 64 = x.fmod 64
  an : Builtin.bitAnd y 192 = 64
theorem mark_of {x : Int} (h0 : 0 ≤ x) (h1 : x < 256) : Mark x (Builtin.bitOr 64 (Builtin.bitAnd x 63)) := by
  have e := or_fact ⟨x.toNat, by omega⟩
  have ex : ((x.toNat : Nat) : Int) = x := by omega
  simp only [ex] at e
  have e2 := and_fact ⟨x.toNat % 64, by omega⟩
  simp only at e2
  rw [e]
  refine ⟨by omega, by omega, ?_, ?_, e2⟩
  · rw [Int.fdiv_eq_ediv_of_nonneg _ (by decide)]; omega
  · rw [Int.fmod_eq_emod_of_nonneg _ (by decide), Int.fmod_eq_emod_of_nonneg _ (by decide)]; omega
structure Cut (ks : List Int) (p q : Nat) (zs : List Int) : Prop where
  eq : zs = (ks.drop p).take (q - p)
/-- the reset's bytes -/
structure Told (fl tk : List Int) (W x y : Int) (bs : List Int) : Prop where
  parts : ∃ mid, bs = y :: (mid ++ tk) ∧ mid = (fl.drop 1).take ((W - 16).toNat - 1) ∧ mid.length = (W - 16).toNat - 1
  head : x = fl.getD 0 0
  mark : Mark x y
section
variable {prog : Program} {w : World} {A : Around} {E : Value → Shared → Prop} {s : Shared} {h₀ : Heap} {L : Addr} {m : Str → Option Value} {news : List (Addr × Obj)} {b c : Array UInt8} {ks ls : List Int} {t u : Tok} {Q : Value → Shared → Prop} {value slice : PySem.Expr}
theorem or_abs {x : Int} (h0 : 0 ≤ x) (h1 : x < 256) (h : ∀ y t' k, Mark x y → Q (.int y t') { s with toks := k }) : wpAny (model prog w) A (binaryOp .BitOr (.int 64 t) (.int (Builtin.bitAnd x 63) u)) Q E s :=
  or_int (h _ _ _ (mark_of h0 h1))
theorem cut_abs {l v : Value} {lo hi : Option Int} {p q : Nat} (F : Fr h₀ L s.heap m) (N : News h₀ L s.heap news) (hk : KBw.bInts b = ks) (hl : IsPart l lo) (hu : IsPart v hi) (hz : ks.length ≤ 16777216) (e1 : lo.elim 0 (clipAt ks.length) = p) (e2 : hi.elim ks.length (clipAt ks.length) = q)
    (h : ∀ R zs h' t' k, Fr h₀ L h' m → News h₀ L h' news → KBw.bInts R = zs → Cut ks p q zs → zs.length = min (q - p) (ks.length - p) → Q (.bytes R t') { s with heap := h', toks := k })
    (hs : subscripted slice false (.bytes b t) (.ref s.heap.objs.size) = operate [.ref s.heap.objs.size, .bytes b t] (getItem (.bytes b t) (.ref s.heap.objs.size)) := by with_unfolding_all rfl)
    (ht : ∀ r, letTemporaryGo value (.bytes b t) r = pure () := by intro _; with_unfolding_all rfl) :
    wpAny (model prog w) A (subscriptTail value slice (.bytes b t) (.ref s.heap.objs.size)) Q E { s with heap := s.heap.push { cls := .type "slice", data := .fields #[l, v, .none] } } :=
  KBc.slice_K F N hk hl hu hz (fun h' t' k F' N' e => h _ _ h' t' k F' N' e ⟨by rw [e1, e2]⟩ (by rw [e1, e2, List.length_take, List.length_drop])) hs ht
theorem add_abs (hb : KBw.bInts b = ks) (hc : KBw.bInts c = ls) (hz : ks.length + ls.length ≤ 16777216) (h : ∀ R zs t' k, KBw.bInts R = zs → zs = ks ++ ls → zs.length = ks.length + ls.length → Q (.bytes R t') { s with toks := k }) : wpAny (model prog w) A (binaryOp .Add (.bytes b t) (.bytes c u)) Q E s :=
  KBa.add_K hb hc hz fun t' k e => h _ _ t' k e rfl List.length_append
theorem make_abs {D : Addr} {n : Int} {tn : Tok} {j : Nat} (F : Fr h₀ L s.heap m) (N : News h₀ L s.heap news) (hh : A.handled = none) (hl : (D, PySem.W.listOf #[Value.int n tn] j) ∈ news) (h0 : 0 ≤ n) (h1 : n < 256)
    (h : ∀ R zs h' t' k, Fr h₀ L h' m → News h₀ L h' news → KBw.bInts R = zs → zs = [n] → zs.length = 1 → Q (.bytes R t') { s with heap := h', toks := k }) : wpAny (model prog w) A (call (.type "bytes") [.ref D]) Q E s := by
  have hi : KBa.In [n] := by
    intro k hk
    rw [List.mem_singleton.mp hk]
    exact ⟨h0, h1⟩
  refine KBa.make_K (vs := [Value.int n tn]) (ns := [n]) F N hh (News.isList N hl) (.cons n tn .nil) hi (by simp) fun h' t' k F' N' _ => h _ [n] h' t' k F' N' (KBa.ints_make hi) rfl rfl
theorem item_abs {i : Int} {ui : Tok} (hk : KBw.bInts b = ks) (hfit : ks.length ≤ 1099511627776) (h0 : 0 ≤ i) (h1 : i < (ks.length : Int))
    (h : ∀ z t' k, z = ks.getD i.toNat 0 → 0 ≤ z → z < 256 → Q (.int z t') { s with toks := k })
    (hs : subscripted slice false (.bytes b t) (.int i ui) = operate [.bytes b t, .int i ui] (getItem (.bytes b t) (.int i ui)) := by with_unfolding_all rfl)
    (ht : ∀ r, letTemporaryGo value (.bytes b t) r = pure () := by intro _; with_unfolding_all rfl) : wpAny (model prog w) A (subscriptTail value slice (.bytes b t) (.int i ui)) Q E s :=
  KBw.item_K hk hfit h0 h1 (fun t' k a b => h _ t' k rfl a b) hs ht
theorem mul_abs {bs : List UInt8} {n : Int} {c : Nat} (hb : bs ≠ []) (hlo : -1048576 ≤ n) (hn : n ≤ 1048576) (hs : bs.length ≤ 16) (hc : n.toNat * bs.length = c) (h : ∀ R zs t' k, KBw.bInts R = zs → zs.length = c → Q (.bytes R t') { s with toks := k }) : wpAny (model prog w) A (binaryOp .Mult (.bytes bs.toArray t) (.int n u)) Q E s :=
  bytes_mul_any hb hlo hn hs fun t' k => h _ _ t' k rfl (by rw [← hc, KBw.ints_length]; simp)
theorem ne_abs (hb : KBw.bInts b = ks) (hc : KBw.bInts c = ls) (e : ks = ls) (h : Q (.bool false) s) : wpAny (model prog w) A (compareOp .NotEq (.bytes b t) (.bytes c u)) Q E s := by
  refine ne_bytes ?_
  have e2 : b.toList = c.toList := bInts_inj (by rw [hb, hc, e])
  have e3 : (b.toList != c.toList) = false := by rw [e2]; exact bne_self_eq_false _
  rw [e3]
  exact h
end
section
variable {bs tk fl zs zs2 : List Int} {x y W : Int} {p q p2 q2 : Nat}
theorem tail_eq (hT : Told fl tk W x y bs) (hC : Cut bs p q zs) (hW : 17 ≤ W) (hp : p = (W - 16).toNat) (hq : q = bs.length) : zs = tk := by
  obtain ⟨mid, hbs, -, hm⟩ := hT.parts
  have hm1 : mid.length + 1 = p := by omega
  have hz := hC.eq
  subst hbs hq
  rw [hz, ← hm1, List.drop_succ_cons, List.drop_left, List.take_of_length_le]
  simp only [List.length_cons, List.length_append]
  omega
theorem mid_eq (hT : Told fl tk W x y bs) (hC : Cut bs p q zs) (hC2 : Cut fl p2 q2 zs2) (hp : p = 1) (hp2 : p2 = 1) (hq : q = (W - 16).toNat) (hq2 : q2 = (W - 16).toNat) : zs = zs2 := by
  obtain ⟨mid, hbs, hm, hl⟩ := hT.parts
  subst hp hp2 hq hq2
  rw [hC.eq, hC2.eq, hbs, ← hm, ← hl]
  simp
theorem head_eq {z : Int} (hT : Told fl tk W x y bs) (hz : z = bs.getD (Int.toNat 0) 0) : z = y := by
  obtain ⟨mid, hbs, -, -⟩ := hT.parts
  rw [hz, hbs]
  rfl
theorem told_mark (hT : Told fl tk W x y bs) : Builtin.bitAnd (bs.getD 0 0) 192 = 64 := by
  obtain ⟨mid, hbs, -, -⟩ := hT.parts
  rw [hbs]
  exact hT.mark.an
theorem told_fd {z : Int} (hT : Told fl tk W x y bs) (hz : z = bs.getD (Int.toNat 0) 0) (h : z.fdiv 64 ≠ 1) : False := h (by rw [head_eq hT hz]; exact hT.mark.fd)
theorem told_fm {z z2 : Int} (hT : Told fl tk W x y bs) (hz : z = bs.getD (Int.toNat 0) 0) (hz2 : z2 = fl.getD (Int.toNat 0) 0) (h : z.fmod 64 ≠ z2.fmod 64) : False := h (by
  have e : z2 = x := hz2.trans hT.head.symm
  rw [head_eq hT hz, e]
  exact hT.mark.fm)
theorem news_two {h₀ h : Heap} {L d : Addr} {o : Obj} {all rest : List (Addr × Obj)} (N : News h₀ L h all) (h1 : (d, o) ∈ all) (h2 : ∀ p ∈ rest, p ∈ all) : News h₀ L h ((d, o) :: rest) := by
  intro p hp
  rcases List.mem_cons.mp hp with rfl | hp
  · exact N _ h1
  · exact N p (h2 p hp)
end
/-! part T9 -/
theorem rf_fin {zM zC zA zB tk fl : List Int} {x y W : Int} (hB : zB = zA ++ tk) (hA : zA = zM ++ zC) (hM : zM = [y]) (hC : Cut fl (Int.toNat 1) (W - 16).toNat zC) (hx : x = fl.getD (Int.toNat 0) 0) (hK : Mark x y) (hl : fl.length = 30) (h2 : 21 ≤ W ∧ W ≤ 42) : Told fl tk W x y zB := by
  have e := hC.eq
  refine ⟨⟨zC, ?_, e, ?_⟩, hx, hK⟩
  · subst hM hA hB
    rfl
  · rw [e, List.length_take, List.length_drop]
    show min ((W - 16).toNat - 1) (fl.length - 1) = _
    omega
set_option maxRecDepth 100000 in
set_option maxHeartbeats 8000000 in
theorem rf_call : ∀ {w : World} {loose : List Str} {mean : ExcName → Option Value} {mg mb : Str → Option Value} {dp un : Nat} {gd : Option (List Code)} {cn : Str} {cs : Scope} {a : Addr} {ccd : Value} {cl : List (Str × Addr)} {outer : List Env} {A₀ : Around} {base h₀ : Heap} {L : Addr} {m : Str → Option Value} {s : Shared} {Q E : Value → Shared → Prop}
    {news : List (Addr × Obj)} {n : Int} {tn t1 t2 : Tok} {TK FL : Array UInt8} {tk fl : List Int}
    (B : Below A₀ base outer h₀) (F : Fr h₀ L s.heap m) (X : (hd.heap_39 w.params).In h₀) (N : News h₀ L s.heap news) (T : Top hd.view_39 loose mean mg mb h₀) (hk : cs.kind = .function)
    (hTK : KBw.bInts TK = tk) (hTKl : tk.length = 16) (hFL : KBw.bInts FL = fl) (hFLl : fl.length = 30) (hn0 : 0 ≤ n) (hn1 : n < 1000) (hdp : dp + 1 < recursionLimit) (hun : un + 8 < cLine)
    (hret0 : n - 1 < 21 → ∀ h' tk', Fr h₀ L h' m → News h₀ L h' news → Q .none { s with heap := h', toks := tk' })
    (hret1 : ∀ W : Int, W = (if 42 < n - 1 then 42 else n - 1) → 21 ≤ W → W ≤ 42 → ∀ (B : Array UInt8) (bs : List Int) (y x : Int) t' h' tk', KBw.bInts B = bs → Told fl tk W x y bs → (bs.length : Int) = W → Fr h₀ L h' m → News h₀ L h' news → Q (.bytes B t') { s with heap := h', toks := tk' }),
    wpAny (model PySem.Challenge.rw_no0063_01.row.prog w) (ktrTop dp un gd cn cs L a ccd cl outer) (call (.ref 105) [.int n tn, .bytes TK t1, .bytes FL t2]) Q E s := by
  k_with_none
  k_with "call ref" => (k_here; refine wpAny_call ?_; k_dflt (refine' code_def ?k1 ?k2 ?k3 ?k4 ?k5 ?kA ?kF ?kK ?k6 ?k7 ?k8 ?k9 ?kB ?_ ?c2 ?c3 ?c4 ?c5; (case kA => exact rfl); (case kF => exact rfl); (case kK => first | exact rfl | assumption); (case k1 => k_asm); (case k2 => k_asm); (case k3 => k_asm); (case k4 => k_asm); (case k5 => k_asm); (case k6 => k_is); (case k7 => k_is); (case k8 => ktr_room); (case k9 => exact BindsTo.of_eq rfl); (case c5 => decide); (case kB => exact locs rfl); (case c2 => exact rfl); (case c3 => exact rfl); (case c4 => exact rfl); k_whole; intro g' L' h' FG' F' N' B' X' T'; (try dsimp only); (try k_lift B'); (try k_fold)); walk_say "ENTER")
  k_with "subscriptTail" => (k_here; (with_reducible show wpAny _ _ (subscriptTail _ _ (Value.bytes _ _) (Value.int _ _)) _ _ _); (refine item_abs (by kba_ints) (by omega) (by omega) (by omega) ?_); intro z9 tz9 tkz9 hz9 zlo9 zhi9; walk_say "ITEM")
  k_with "subscriptTail" => (k_here; (with_reducible show wpAny _ _ (subscriptTail _ (Expr.Slice _ _ none _) (Value.bytes _ _) (Value.ref _)) _ _ _); (with_reducible rename Fr _ _ _ _ => F'); (with_reducible rename News _ _ _ _ => N'); (refine cut_abs (s := ⟨_, _, _, _, _⟩) F' N' (by kba_ints) (by constructor) (by constructor) (by omega) (by first | exact clip_some (by omega) (by omega) | exact clip_none) (by first | exact clip_some (by omega) (by omega) | exact clip_none) ?_); intro R9 zs9 h9 t9 tk9 F9 N9 hR9 hzs9 hln9; walk_say "CUT")
  k_with "call type:bytes" => (k_here; (with_reducible show wpAny _ _ (call (Value.type "bytes") [Value.ref _]) _ _ _); k_dflt (refine' make_abs ?k1 ?k2 ?k3 ?k4 ?k5 ?k6 ?_; (case k1 => k_asm); (case k2 => k_asm); (case k3 => exact rfl); (case k4 => k_mem); (case k5 => omega); (case k6 => omega)); intro R9 zs9 h9 t9 tk9 F9 N9 hR9 hzs9 hln9; walk_say "MAKE")
  k_with "binaryOp BitOr int int" => (k_here; (refine or_abs (by omega) (by omega) ?_); intro y9 ty9 tky9 hM9; (have hMlo9 := hM9.lo); (have hMhi9 := hM9.hi); walk_say "MARK")
  k_with "binaryOp Add bytes bytes" => (k_here; (refine add_abs (by kba_ints) (by kba_ints) (by omega) ?_); intro R9 zs9 t9 tk9 hR9 hzs9 hln9; walk_say "ADD")
  k_fill
  intro w loose mean mg mb dp un gd cn cs a ccd cl outer A₀ base h₀ L m s Q E news n tn t1 t2 TK FL tk fl B F X N T hk hTK hTKl hFL hFLl hn0 hn1 hdp hun hret0 hret1
  refine wpAny_call ?_
  (first | k_dflt cell_enter | fail "not entered")
  k_steps
  · exact hret0 (by omega) _ _ (by k_asm) (by k_asm)
  · exfalso; omega
  · refine hret1 _ rfl (by omega) (by omega) _ _ _ _ _ _ _ (by assumption) (rf_fin (by assumption) (by assumption) (by assumption) (by assumption) (by assumption) (by assumption) (by omega) (by omega)) (by omega) (by k_asm) (drop1 (by k_asm))
/-! part T10 -/
def RtOut (ks : List Int) (r : Value) : Prop := (r = .none ∧ (ks.length < 21 ∨ Builtin.bitAnd (ks.getD 0 0) 192 ≠ 64)) ∨ ∃ R t, r = .bytes R t ∧ 21 ≤ ks.length ∧ Builtin.bitAnd (ks.getD 0 0) 192 = 64 ∧ KBw.bInts R = (ks.drop (ks.length - 16)).take (ks.length - (ks.length - 16))
section
variable {ks zs : List Int} {z : Int} {R : Array UInt8} {t : Tok}
theorem rt_short (h : (ks.length : Int) < 21) : RtOut ks .none := .inl ⟨rfl, .inl (by omega)⟩
theorem rt_other (hz : z = ks.getD (Int.toNat 0) 0) (h : Builtin.bitAnd z 192 ≠ 64) : RtOut ks .none := .inl ⟨rfl, .inr (by rw [hz] at h; exact h)⟩
theorem rt_good (hR : KBw.bInts R = zs) (hzs : Cut ks ((ks.length : Int) - 16).toNat ks.length zs) (h : ¬ (ks.length : Int) < 21) (hz : z = ks.getD (Int.toNat 0) 0) (h2 : Builtin.bitAnd z 192 = 64) : RtOut ks (.bytes R t) :=
  .inr ⟨R, t, rfl, by omega, by rw [hz] at h2; exact h2, by rw [hR, hzs.eq, show ((ks.length : Int) - 16).toNat = ks.length - 16 from by omega]⟩
end
set_option maxRecDepth 100000 in
set_option maxHeartbeats 8000000 in
theorem rt_call : ∀ {w : World} {loose : List Str} {mean : ExcName → Option Value} {mg mb : Str → Option Value} {dp un : Nat} {gd : Option (List Code)} {cn : Str} {cs : Scope} {a : Addr} {ccd : Value} {cl : List (Str × Addr)} {outer : List Env} {A₀ : Around} {base h₀ : Heap} {L : Addr} {m : Str → Option Value} {s : Shared} {Q E : Value → Shared → Prop}
    {news : List (Addr × Obj)} {t1 : Tok} {D : Array UInt8} {ks : List Int}
    (B : Below A₀ base outer h₀) (F : Fr h₀ L s.heap m) (X : (hd.heap_39 w.params).In h₀) (N : News h₀ L s.heap news) (T : Top hd.view_39 loose mean mg mb h₀) (hk : cs.kind = .function)
    (hD : KBw.bInts D = ks) (hl : ks.length < 1000) (hdp : dp + 1 < recursionLimit) (hun : un + 8 < cLine)
    (hret : ∀ r h' tk', RtOut ks r → Fr h₀ L h' m → News h₀ L h' news → Q r { s with heap := h', toks := tk' }),
    wpAny (model PySem.Challenge.rw_no0063_01.row.prog w) (ktrTop dp un gd cn cs L a ccd cl outer) (call (.ref 112) [.bytes D t1]) Q E s := by
  k_with_none
  k_with "call ref" => (k_here; refine wpAny_call ?_; k_dflt (refine' code_def ?k1 ?k2 ?k3 ?k4 ?k5 ?kA ?kF ?kK ?k6 ?k7 ?k8 ?k9 ?kB ?_ ?c2 ?c3 ?c4 ?c5; (case kA => exact rfl); (case kF => exact rfl); (case kK => first | exact rfl | assumption); (case k1 => k_asm); (case k2 => k_asm); (case k3 => k_asm); (case k4 => k_asm); (case k5 => k_asm); (case k6 => k_is); (case k7 => k_is); (case k8 => ktr_room); (case k9 => exact BindsTo.of_eq rfl); (case c5 => decide); (case kB => exact locs rfl); (case c2 => exact rfl); (case c3 => exact rfl); (case c4 => exact rfl); k_whole; intro g' L' h' FG' F' N' B' X' T'; (try dsimp only); (try k_lift B'); (try k_fold)); walk_say "ENTER")
  k_with "subscriptTail" => (k_here; (with_reducible show wpAny _ _ (subscriptTail _ _ (Value.bytes _ _) (Value.int _ _)) _ _ _); (refine item_abs (by kba_ints) (by omega) (by omega) (by omega) ?_); intro z9 tz9 tkz9 hz9 zlo9 zhi9; walk_say "ITEM")
  k_with "subscriptTail" => (k_here; (with_reducible show wpAny _ _ (subscriptTail _ (Expr.Slice _ _ none _) (Value.bytes _ _) (Value.ref _)) _ _ _); (with_reducible rename Fr _ _ _ _ => F'); (with_reducible rename News _ _ _ _ => N'); (refine cut_abs (s := ⟨_, _, _, _, _⟩) F' N' (by kba_ints) (by constructor) (by constructor) (by omega) (by first | exact clip_some (by omega) (by omega) | exact clip_none) (by first | exact clip_some (by omega) (by omega) | exact clip_none) ?_); intro R9 zs9 h9 t9 tk9 F9 N9 hR9 hzs9 hln9; walk_say "CUT")
  k_with "call type:bytes" => (k_here; (with_reducible show wpAny _ _ (call (Value.type "bytes") [Value.ref _]) _ _ _); k_dflt (refine' make_abs ?k1 ?k2 ?k3 ?k4 ?k5 ?k6 ?_; (case k1 => k_asm); (case k2 => k_asm); (case k3 => exact rfl); (case k4 => k_mem); (case k5 => omega); (case k6 => omega)); intro R9 zs9 h9 t9 tk9 F9 N9 hR9 hzs9 hln9; walk_say "MAKE")
  k_with "binaryOp BitOr int int" => (k_here; (refine or_abs (by omega) (by omega) ?_); intro y9 ty9 tky9 hM9; (have hMlo9 := hM9.lo); (have hMhi9 := hM9.hi); walk_say "MARK")
  k_with "binaryOp Add bytes bytes" => (k_here; (refine add_abs (by kba_ints) (by kba_ints) (by omega) ?_); intro R9 zs9 t9 tk9 hR9 hzs9 hln9; walk_say "ADD")
  k_fill
  intro w loose mean mg mb dp un gd cn cs a ccd cl outer A₀ base h₀ L m s Q E news t1 D ks B F X N T hk hD hl hdp hun hret
  refine wpAny_call ?_
  (first | k_dflt cell_enter | fail "not entered")
  k_steps
  · exact hret _ _ _ (rt_short (by assumption)) (by k_asm) (by k_asm)
  · exact hret _ _ _ (rt_other (by assumption) (by assumption)) (by k_asm) (by k_asm)
  · exact hret _ _ _ (rt_good (by assumption) (by assumption) (by assumption) (by assumption) (by assumption)) (by k_asm) (by k_asm)
section
variable {w : World} {loose : List Str} {mean : ExcName → Option Value} {mg mb : Str → Option Value} {dp un : Nat} {gd : Option (List Code)} {cn : Str} {cs : Scope} {a : Addr} {ccd : Value} {cl : List (Str × Addr)} {outer : List Env} {A₀ : Around} {base h₀ : Heap} {L : Addr} {m : Str → Option Value} {s : Shared} {Q E : Value → Shared → Prop}
    {news : List (Addr × Obj)} {t1 : Tok} {D : Array UInt8} {ks : List Int}
theorem rt_none (B : Below A₀ base outer h₀) (F : Fr h₀ L s.heap m) (X : (hd.heap_39 w.params).In h₀) (N : News h₀ L s.heap news) (T : Top hd.view_39 loose mean mg mb h₀) (hk : cs.kind = .function)
    (hD : KBw.bInts D = ks) (hl : ks.length < 1000) (hdp : dp + 1 < recursionLimit) (hun : un + 8 < cLine) (hc : ks.length < 21 ∨ Builtin.bitAnd (ks.getD 0 0) 192 ≠ 64)
    (hret : ∀ h' tk', Fr h₀ L h' m → News h₀ L h' news → Q .none { s with heap := h', toks := tk' }) :
    wpAny (model PySem.Challenge.rw_no0063_01.row.prog w) (ktrTop dp un gd cn cs L a ccd cl outer) (call (.ref 112) [.bytes D t1]) Q E s := by
  refine rt_call B F X N T hk hD hl hdp hun fun r h' tk' hr F' N' => ?_
  rcases hr with ⟨rfl, _⟩ | ⟨R, t, rfl, h1, h2, _⟩
  · exact hret h' tk' F' N'
  · exact absurd h2 (hc.elim (fun h => by omega) fun h => h)
theorem rt_some (B : Below A₀ base outer h₀) (F : Fr h₀ L s.heap m) (X : (hd.heap_39 w.params).In h₀) (N : News h₀ L s.heap news) (T : Top hd.view_39 loose mean mg mb h₀) (hk : cs.kind = .function)
    (hD : KBw.bInts D = ks) (hl : ks.length < 1000) (hdp : dp + 1 < recursionLimit) (hun : un + 8 < cLine) (hc : 21 ≤ ks.length) (hc2 : Builtin.bitAnd (ks.getD 0 0) 192 = 64)
    (hret : ∀ R zs t h' tk', KBw.bInts R = zs → Cut ks (ks.length - 16) ks.length zs → Fr h₀ L h' m → News h₀ L h' news → Q (.bytes R t) { s with heap := h', toks := tk' }) :
    wpAny (model PySem.Challenge.rw_no0063_01.row.prog w) (ktrTop dp un gd cn cs L a ccd cl outer) (call (.ref 112) [.bytes D t1]) Q E s := by
  refine rt_call B F X N T hk hD hl hdp hun fun r h' tk' hr F' N' => ?_
  rcases hr with ⟨rfl, h1 | h1⟩ | ⟨R, t, rfl, h1, h2, h3⟩
  · omega
  · exact absurd hc2 h1
  · exact hret R _ t h' tk' h3 ⟨rfl⟩ F' N'
end
/-! part T11 -/
theorem other_mark {bs z r : List Int} (h : bs = z ++ r) (hz : z = [200]) : Builtin.bitAnd (bs.getD 0 0) 192 ≠ 64 := by
  rw [h, hz]
  show Builtin.bitAnd 200 192 ≠ 64
  decide

abbrev RrClaim (w : World) : Prop :=
  ∀ (loose : List Str) (mean : ExcName → Option Value) (mg mb : Str → Option Value) (dp un : Nat) (gd : Option (List Code)) (cn : Str) (cs : Scope) (a : Addr) (ccd : Value) (cl : List (Str × Addr)) (outer : List Env) (A₀ : Around) (base h₀ : Heap) (L : Addr) (m : Str → Option Value) (s : Shared) (Q E : Value → Shared → Prop)
    (X : (hd.heap_39 w.params).In h₀) (dd : Addr) (od : Obj) (rest : List (Addr × Obj)),
    Below A₀ base outer h₀ → Fr h₀ L s.heap m → News h₀ L s.heap ((dd, od) :: rest) → Top hd.view_39 loose mean mg mb h₀ → cs.kind = .function →
    OwnOff rest [dd] → Draws w od → dp + 4 < recursionLimit → un + 32 < cLine →
    (∀ (od' : Obj) (h' : Heap) (tk' : Nat), Draws w od' → Fr h₀ L h' m → News h₀ L h' ((dd, od') :: rest) → Q (.bool true) { s with heap := h', toks := tk' }) →
    wpAny (model PySem.Challenge.rw_no0063_01.row.prog w) (ktrTop dp un gd cn cs L a ccd cl outer) (call (.ref 136) [.ref dd]) Q E s
set_option maxRecDepth 100000 in
set_option maxHeartbeats 8000000 in
theorem rr {w : World} : RrClaim w := by
  unfold RrClaim
  k_with_none
  k_with "call ref" => (k_here; refine wpAny_call ?_; k_dflt (refine' code_def ?k1 ?k2 ?k3 ?k4 ?k5 ?kA ?kF ?kK ?k6 ?k7 ?k8 ?k9 ?kB ?_ ?c2 ?c3 ?c4 ?c5; (case kA => exact rfl); (case kF => exact rfl); (case kK => first | exact rfl | assumption); (case k1 => k_asm); (case k2 => k_asm); (case k3 => k_asm); (case k4 => k_asm); (case k5 => k_asm); (case k6 => k_is); (case k7 => k_is); (case k8 => ktr_room); (case k9 => exact BindsTo.of_eq rfl); (case c5 => decide); (case kB => exact locs rfl); (case c2 => exact rfl); (case c3 => exact rfl); (case c4 => exact rfl); k_whole; intro g' L' h' FG' F' N' B' X' T'; (try dsimp only); (try k_lift B'); (try k_fold)); walk_say "ENTER")
  k_with "subscriptTail" => (k_here; (with_reducible show wpAny _ _ (subscriptTail _ _ (Value.bytes _ _) (Value.int _ _)) _ _ _); (refine item_abs (by kba_ints) (by omega) (by omega) (by omega) ?_); intro z9 tz9 tkz9 hz9 zlo9 zhi9; (try dsimp only); walk_say "ITEM")
  k_with "subscriptTail" => (k_here; (with_reducible show wpAny _ _ (subscriptTail _ (Expr.Slice _ _ none _) (Value.bytes _ _) (Value.ref _)) _ _ _); (with_reducible rename Fr _ _ _ _ => F'); (with_reducible rename News _ _ _ _ => N'); (refine cut_abs (s := ⟨_, _, _, _, _⟩) F' N' (by kba_ints) (by constructor) (by constructor) (by omega) (by first | exact clip_some (by omega) (by omega) | exact clip_none) (by first | exact clip_some (by omega) (by omega) | exact clip_none) ?_); intro R9 zs9 h9 t9 tk9 F9 N9 hR9 hzs9 hln9; (try dsimp only); walk_say "CUT")
  k_with "call type:bytes" => (k_here; (with_reducible show wpAny _ _ (call (Value.type "bytes") [Value.ref _]) _ _ _); k_dflt (refine' make_abs ?k1 ?k2 ?k3 ?k4 ?k5 ?k6 ?_; (case k1 => k_asm); (case k2 => k_asm); (case k3 => exact rfl); (case k4 => k_mem); (case k5 => omega); (case k6 => omega)); intro R9 zs9 h9 t9 tk9 F9 N9 hR9 hzs9 hln9; (try dsimp only); walk_say "MAKE")
  k_with "binaryOp BitOr int int" => (k_here; (refine or_abs (by omega) (by omega) ?_); intro y9 ty9 tky9 hM9; (have hMlo9 := hM9.lo); (have hMhi9 := hM9.hi); (try dsimp only); walk_say "MARK")
  k_with "binaryOp Add bytes bytes" => (k_here; (refine add_abs (by kba_ints) (by kba_ints) (by omega) ?_); intro R9 zs9 t9 tk9 hR9 hzs9 hln9; (try dsimp only); walk_say "ADD")
  k_with "call ref" => (k_here; k_dflt ( (refine' take_use ?k1 ?k2 ?k3 ?k4 ?k5 ?kK ?kU ?kD ?kp ?kq ?kd ?ku ?_); (case k1 => k_asm); (case k2 => k_asm); (case k3 => k_asm); (case k4 => k_asm); (case k5 => k_asm); (case kK => first | exact rfl | assumption); (case kU => k_updF); (case kD => first | assumption | exact draws_mk (by assumption) (by omega) (by omega)); (case kp => decide); (case kq => decide); (case kd => ktr_room); (case ku => ktr_units); k_whole); intro v9 tv9 od9 h9 tk9 hv9 hw9 hD9 F9 N9; (try dsimp only at N9); (try k_sweep); (try dsimp only); (try k_fold); walk_say "TAKE")
  k_with "CompSrc" => (k_here; k_dflt (refine LCg.CompSrc.range (n := 4) (by rfl) (by k_asm) (by k_asm) (by assumption) (by first | decide | rfl) (by first | rfl | decide) (by first | size_fits | exact Nat.le_of_ble_eq_true rfl) ?_; intro g'; refine' draws_rest ?kM ?kU ?kD ?kS ?kT ?kN; (case kD => assumption); (case kM => k_mem); (case kU => k_updF); (case kS => exact fun _ => True.intro); (case' kT => (intro v' I' oI' C' oC' D' m' ys' h' tk' E' o' hD' hC' hx' F' N' off' offA' ne'; (try simp only [LCg.Off3, and_true] at off'); (try dsimp only at N'); (try dsimp only))); (case' kN => (intro ys' o' hl' hs' hD'; obtain ⟨a8, b8, c8, d8, ta8, tb8, tc8, td8, hys, ⟨a80, a81⟩, ⟨b80, b81⟩, ⟨c80, c81⟩, ⟨d80, d81⟩⟩ := four hl' hs'; subst hys; clear hl' hs'; (try dsimp only)))); walk_say "FOUR")
  k_with "CompEnd" => (refine draw_end (by assumption) (by assumption) (by assumption) True.intro (by assumption) (by assumption) (by assumption))
  k_with "binaryOp Mult bytes int" => (k_here; k_dflt (first | (refine mul_abs (c := 16) (List.cons_ne_nil _ _) (by decide) (by decide) (by with_unfolding_all exact Nat.le_of_ble_eq_true rfl) (by rfl) ?_) | (refine mul_abs (c := 30) (List.cons_ne_nil _ _) (by decide) (by decide) (by with_unfolding_all exact Nat.le_of_ble_eq_true rfl) (by rfl) ?_)); intro R9 zs9 t9 tk9 hR9 hln9; (try dsimp only); walk_say "MUL")
  k_with "compareOp NotEq bytes bytes" => (k_here; (refine' ne_abs ?k1 ?k2 ?k3 ?_; (case k1 => kba_ints); (case k2 => kba_ints); (case k3 => first | exact tail_eq (by assumption) (by assumption) (by omega) (by omega) (by omega) | exact mid_eq (by assumption) (by assumption) (by assumption) (by omega) (by omega) (by omega) (by omega))); (try dsimp only); walk_say "SAME")
  k_with "call ref" => (k_here; k_dflt (refine' rf_call ?k1 ?k2 ?k3 ?k4 ?k5 ?kK ?a1 ?a2 ?a3 ?a4 ?a5 ?a6 ?kd ?ku ?r0 ?r1; (case k1 => k_asm); (case k2 => k_asm); (case k3 => k_asm); (case k4 => k_asm); (case k5 => k_asm); (case kK => first | exact rfl | assumption); (case a1 => assumption); (case a2 => assumption); (case a3 => assumption); (case a4 => assumption); (case a5 => omega); (case a6 => omega); (case kd => ktr_room); (case ku => ktr_units); (case' r0 => (intro hsz9 h9 tk9 F9 N9; (try k_sweep); (try dsimp only); (try k_fold))); (case' r1 => (intro W9 hW9 hW90 hW91 B9 bs9 y9 x9 t9 h9 tk9 hB9 hT9 hbl9 F9 N9; (have hMk9 := hT9.mark); (have hfd9 := hMk9.fd); (have hfm9 := hMk9.fm); (try k_sweep); (try dsimp only); (try k_fold)))); walk_say "RESET")
  k_with "call ref" => (k_here; k_dflt (refine' rt_some ?k1 ?k2 ?k3 ?k4 ?k5 ?kK ?a1 ?a2 ?kd ?ku ?a3 ?a4 ?_; (case k1 => k_asm); (case k2 => k_asm); (case k3 => k_asm); (case k4 => k_asm); (case k5 => k_asm); (case kK => first | exact rfl | assumption); (case a1 => kba_ints); (case a2 => omega); (case kd => ktr_room); (case ku => ktr_units); (case a3 => omega); (case a4 => exact told_mark (by assumption)); intro R9 zs9 t9 h9 tk9 hR9 hzs9 F9 N9; (try k_sweep); (try dsimp only); (try k_fold)); walk_say "TOKEN")
  k_with "call ref" => (k_here; k_dflt (refine' rt_none ?k1 ?k2 ?k3 ?k4 ?k5 ?kK ?a1 ?a2 ?kd ?ku ?a3 ?_; (case k1 => k_asm); (case k2 => k_asm); (case k3 => k_asm); (case k4 => k_asm); (case k5 => k_asm); (case kK => first | exact rfl | assumption); (case a1 => kba_ints); (case a2 => omega); (case kd => ktr_room); (case ku => ktr_units); (case a3 => first | exact .inl (by omega) | exact .inr (other_mark (by assumption) (by assumption))); intro h9 tk9 F9 N9; (try k_sweep); (try dsimp only); (try k_fold)); walk_say "NO TOKEN")
  k_fill
  intro loose mean mg mb dp un gd cn cs a ccd cl outer A₀ base h₀ L m s Q E X dd od rest B F N T hk hoff hD hdp hun hret
  refine wpAny_call ?_
  (first | k_dflt (refine' code_defC ?k1 ?k2 ?k3 ?k4 ?k5 ?kA ?kF ?kK ?k6 ?k7 ?k8 ?k9 ?kB ?kD ?_ ?c2 ?c3 ?c4; (case kA => exact rfl); (case kF => exact rfl); (case kK => first | exact rfl | assumption); (case k1 => k_asm); (case k2 => k_asm); (case k3 => k_asm); (case k4 => k_asm); (case k5 => k_asm); (case k6 => k_is); (case k7 => k_is); (case k8 => ktr_room); (case k9 => exact BindsTo.of_eq rfl); (case kB => exact rfl); (case kD => decide +kernel); (case c2 => exact rfl); (case c3 => exact rfl); (case c4 => exact rfl); k_whole; intro g' L' h' tk' cells' FG' F' N' Y' B' X' T' l1; (try k_lt l1); k_cells Y'; (try simp only [List.cons_append, List.nil_append] at N'); (try dsimp only); (try k_lift B'); (try k_fold)) | fail "not entered")
  k_steps
  all_goals (first
    | (exfalso; omega)
    | exact (told_fd (by assumption) (by assumption) (by assumption)).elim
    | exact (told_fm (by assumption) (by assumption) (by assumption) (by assumption)).elim
    | exact hret _ _ _ (by assumption) (by k_asm) (news_two (by k_asm) (by k_mem) (by intro p hp; k_ownIn)))
/-! part T12 -/
theorem ev_call {w : World} {loose : List Str} {mean : ExcName → Option Value} {mg mb : Str → Option Value} {dp un : Nat} {gd : Option (List Code)} {cn : Str} {cs : Scope} {a : Addr} {ccd : Value} {cl : List (Str × Addr)} {outer : List Env} {A₀ : Around} {base h₀ : Heap} {L : Addr} {m : Str → Option Value} {s : Shared} {Q E : Value → Shared → Prop}
    {wd x dx dd : Addr} {rest nx : List (Addr × Obj)} {n : Nat}
    (B : Below A₀ base outer h₀) (F : Fr h₀ L s.heap m) (X : (hd.heap_39 w.params).In h₀) (N : News h₀ L s.heap nx) (T : Top hd.view_39 loose mean mg mb h₀) (hk : cs.kind = .function)
    (hO : Okay w wd x dx dd rest n nx) (hoff : OwnOff rest [wd, x, dx, dd]) (l1 : @LT.lt Nat _ dd dx) (l2 : @LT.lt Nat _ dx x) (l3 : @LT.lt Nat _ x wd) (hn : n < 16) (hdp : dp + 3 < recursionLimit) (hun : un + 24 < cLine)
    (hret : EvBack w h₀ L m s wd x dx dd rest n Q) :
    wpAny (model PySem.Challenge.rw_no0063_01.row.prog w) (ktrTop dp un gd cn cs L a ccd cl outer) (call (.ref 131) [.ref wd, .ref x, .ref dd]) Q E s := by
  obtain ⟨ow, od, k1, k2, k3, k4, k5, st, st', f, en, en', cm, tc, nr, tn, rfl, hW, hD, ⟨sx, st1, st2, e1, e2⟩, he, ⟨hc0, hcn, t, hS⟩, hF⟩ := hO
  rcases hS with ⟨h1, h2, h3, h4, h5⟩ | ⟨h1, ⟨i, u, h2⟩, h3⟩ | ⟨h1, ⟨i, u, h2⟩⟩ | ⟨h1, h2⟩
  · subst h2 h3 h4 h5 e2
    rw [h1] at e1
    injection e1 with e3 e4
    subst e3 h1
    rcases he with ⟨-, he⟩ | ⟨_, _, _, he, _⟩
    · subst he
      exact ev_open _ _ _ _ _ _ _ _ _ _ _ _ _ _ _ _ _ _ _ _ _ _ _ _ X _ _ _ _ _ _ _ _ _ _ _ _ _ _ B F N T hk hoff l1 l2 l3 hW hD hF hdp hun hret
    · cases he
  · subst h2 e2
    rw [h1] at e1
    injection e1 with e3 e4
    subst e3 h1
    rcases he with ⟨he, -⟩ | ⟨i2, _, _, he, he2⟩
    · cases he
    · injection he with e5 e6
      subst he2 e5
      exact ev_closing _ _ _ _ _ _ _ _ _ h3 hc0 hcn hn _ _ _ _ _ _ _ _ _ _ _ _ _ _ _ _ _ _ _ _ _ X _ _ _ _ _ _ _ _ _ _ _ _ _ _ B F N T hk hoff l1 l2 l3 hW hD hF hdp hun hret
  · subst h2 e2
    rw [h1] at e1
    injection e1 with e3 e4
    subst e3 h1
    rcases he with ⟨he, -⟩ | ⟨i2, _, _, he, he2⟩
    · cases he
    · injection he with e5 e6
      subst he2 e5
      exact ev_draining _ _ _ _ _ _ _ _ _ hc0 hcn hn _ _ _ _ _ _ _ _ _ _ _ _ _ _ _ _ _ _ _ _ _ X _ _ _ _ _ _ _ _ _ _ _ _ _ _ B F N T hk hoff l1 l2 l3 hW hD hF hdp hun hret
  · subst h2 e2
    rw [h1] at e1
    injection e1 with e3 e4
    subst e3 h1
    rcases he with ⟨-, he⟩ | ⟨_, _, _, he, _⟩
    · subst he
      exact ev_closed _ _ _ _ _ _ hc0 hcn hn _ _ _ _ _ _ _ _ _ _ _ _ _ _ _ _ _ _ _ _ _ X _ _ _ _ _ _ _ _ _ _ _ _ _ _ B F N T hk hoff l1 l2 l3 hW hD hF hdp hun hret
    · cases he
/-! part T13 -/
def TurnBack (w : World) (h₀ : Heap) (L : Addr) (x : Str) (m₀ : Str → Option Value) (wd xx dx dd : Addr) (R : List (Addr × Obj)) (i : Nat) (s : Shared) (f : Flow) (s₂ : Shared) : Prop :=
  f = .next ∧ ∃ (h' : Heap) (tk' : Nat) (u : Str → Option Value) (new nx' : List (Addr × Obj)), s₂ = { s with heap := h', toks := tk' } ∧ Fr h₀ L h' (fun y => if y = x then u y else m₀ y) ∧ Okay w wd xx dx dd (new ++ R) (i + 1) nx' ∧ OwnOff new [wd, xx, dx, dd] ∧ (∀ p ∈ new, ∀ q ∈ R, p.1 ≠ q.1) ∧ News h₀ L h' nx'
section
variable {w : World} {wd xx dx dd : Addr} {rest own new nx : List (Addr × Obj)} {i : Nat}
theorem okay_more (h : Okay w wd xx dx dd rest i nx) : Okay w wd xx dx dd (rest ++ own) i (nx ++ own) := by
  obtain ⟨ow, od, k1, k2, k3, k4, k5, st, st', f, en, en', cm, tc, nr, tn, rfl, hW, hD, hs, he, hS, hF⟩ := h
  exact ⟨ow, od, k1, k2, k3, k4, k5, st, st', f, en, en', cm, tc, nr, tn, rfl, hW, hD, hs, he, hS, hF.mono fun p hp => List.mem_append.mpr (.inl hp)⟩
theorem okay_four (h : Okay w wd xx dx dd rest i nx) : ∃ ow oc od, nx = (wd, ow) :: (xx, instObj 94 dx) :: (dx, oc) :: (dd, od) :: rest := by
  obtain ⟨ow, od, k1, k2, k3, k4, k5, st, st', f, en, en', cm, tc, nr, tn, rfl, hW, hD, hs, he, hS, hF⟩ := h
  exact ⟨ow, _, od, rfl⟩
theorem okay_less (h : Okay w wd xx dx dd (new ++ (rest ++ own)) i nx) (hc : ∀ q ∈ own, q.2.cls = .type "range_iterator") :
    ∃ nx' ow oc od, nx' = (wd, ow) :: (xx, instObj 94 dx) :: (dx, oc) :: (dd, od) :: (new ++ rest) ∧ nx = nx' ++ own ∧ Okay w wd xx dx dd (new ++ rest) i nx' := by
  obtain ⟨ow, od, k1, k2, k3, k4, k5, st, st', f, en, en', cm, tc, nr, tn, rfl, hW, hD, hs, he, hS, hF⟩ := h
  refine ⟨_, ow, _, od, rfl, by simp only [List.cons_append, List.append_assoc], ⟨ow, od, k1, k2, k3, k4, k5, st, st', f, en, en', cm, tc, nr, tn, rfl, hW, hD, hs, he, hS, ?_⟩⟩
  rcases hF with hF | ⟨a, v, j, t1, t2, t3, hF, hm⟩
  · exact .inl hF
  · refine .inr ⟨a, v, j, t1, t2, t3, hF, ?_⟩
    rw [← List.append_assoc] at hm
    rcases List.mem_append.mp hm with hm | hm
    · exact hm
    · have h9 : Value.type "tuple" = Value.type "range_iterator" := hc _ hm
      injection h9 with h9
      exact absurd h9 (by decide)
end
section
variable {prog : Program} {w : World} {A : Around} {E : Value → Shared → Prop} {s : Shared} {env : Env} {h₀ : Heap} {x : Str} {body : List Stmt} {Q : Flow → Shared → Prop}
theorem law_loop {r : Addr} {t₀ u₀ v₀ : Tok} {m₀ : Str → Option Value} {all : List (Addr × Obj)} {wd xx dx dd : Addr} {ow od : Obj} {k1 k2 k3 k4 k5 ts tu tc tn t2 t3 t4 : Tok} {wt : Int}
    (hh : A.handled = none) (hr : IsRange s.heap r 0 16 1 t₀ u₀ v₀) (F : Fr h₀ env.locals s.heap m₀) (N : News h₀ env.locals s.heap all) (h1 : (wd, ow) ∈ all) (h2 : (xx, instObj 94 dx) ∈ all) (h3 : (dx, clo w k1 k2 k3 k4 k5 (.str (Str.ofString "open") ts) .none .none 0 tc 1 tn) ∈ all) (h4 : (dd, od) ∈ all)
    (hW : ow.IsDictOf (strKind P w) [(Str.ofString "state", .str (Str.ofString "open") tu), (Str.ofString "end", .none), (Str.ofString "frame", .none), (Str.ofString "came", Value.int 0 t2), (Str.ofString "now", Value.int 0 t3), (Str.ofString "wait", Value.int wt t4)]) (hD : Draws w od)
    (turn : ∀ i nx R k t h tk, i < 16 → Okay w wd xx dx dd R i nx → OwnOff R [wd, xx, dx, dd] → Fr h₀ env.locals h (fun y => if y = x then some (.int k t) else m₀ y) → News h₀ env.locals h nx →
      wpAny (model prog w) A (execs body env) (TurnBack w h₀ env.locals x m₀ wd xx dx dd R i { s with heap := h, toks := tk }) E { s with heap := h, toks := tk })
    (done : ∀ (u : Str → Option Value) nx R h tk, Okay w wd xx dx dd R 16 nx → OwnOff R [wd, xx, dx, dd] → Fr h₀ env.locals h (fun y => if y = x then u y else m₀ y) → News h₀ env.locals h nx → Q .next { s with heap := h, toks := tk }) :
    wpAny (model prog w) A (pyIter (.ref r)) (fun it s₂ => LoopAtV prog w A h₀ env x body Q E it s₂) E s := by
  have N₀ : News h₀ env.locals s.heap [(wd, ow), (xx, instObj 94 dx), (dx, clo w k1 k2 k3 k4 k5 (.str (Str.ofString "open") ts) .none .none 0 tc 1 tn), (dd, od)] := by
    intro p hp
    refine N p ?_
    simp only [List.mem_cons, List.not_mem_nil, or_false] at hp
    rcases hp with rfl | rfl | rfl | rfl <;> assumption
  refine turns_range (n := 16) (fun i nx => ∃ rest, Okay w wd xx dx dd rest i nx ∧ OwnOff rest [wd, xx, dx, dd]) hh hr (by decide) (by rfl) F N₀ ?_ ?_ ?_
  · exact ⟨[], ⟨ow, od, k1, k2, k3, k4, k5, _, _, .none, .none, .none, 0, tc, 1, tn, rfl, world_mk hW, hD, sameSt, sameEn0, sta_open rfl rfl, .inl rfl⟩, fun _ h => nomatch h⟩
  · rintro i nx own k t h tk hi ⟨rest, hO, hoff⟩ hne hcls F₁ N₁
    obtain ⟨ow₁, oc₁, od₁, e1⟩ := okay_four hO
    have hoff2 : OwnOff (rest ++ own) [wd, xx, dx, dd] := by
      intro p hp b hb
      rcases List.mem_append.mp hp with hp | hp
      · exact hoff p hp b hb
      · simp only [List.mem_cons, List.not_mem_nil, or_false] at hb
        rw [e1] at hne
        rcases hb with rfl | rfl | rfl | rfl
        · exact Ne.symm (hne _ (.head _) p hp)
        · exact Ne.symm (hne _ (.tail _ (.head _)) p hp)
        · exact Ne.symm (hne _ (.tail _ (.tail _ (.head _))) p hp)
        · exact Ne.symm (hne _ (.tail _ (.tail _ (.tail _ (.head _)))) p hp)
    refine wpAny_mono (turn i (nx ++ own) (rest ++ own) k t h tk hi (okay_more hO) hoff2 F₁ N₁) (fun f s₂ hq => ?_) fun _ _ e => e
    obtain ⟨rfl, h', tk', u, new, nx', e2, F₂, hO₂, hnew, hsep, N₂⟩ := hq
    obtain ⟨nx2, ow₂, oc₂, od₂, e3, e4, hO₃⟩ := okay_less hO₂ hcls
    refine ⟨rfl, h', tk', u, nx2, e2, F₂, e4 ▸ N₂, ?_, ⟨new ++ rest, hO₃, ?_⟩⟩
    · intro p hp q hq
      rw [e3] at hp
      rw [e1] at hne
      rcases List.mem_cons.mp hp with rfl | hp
      · exact hne _ (.head _) q hq
      rcases List.mem_cons.mp hp with rfl | hp
      · exact hne _ (.tail _ (.head _)) q hq
      rcases List.mem_cons.mp hp with rfl | hp
      · exact hne (dx, oc₁) (.tail _ (.tail _ (.head _))) q hq
      rcases List.mem_cons.mp hp with rfl | hp
      · exact hne (dd, od₁) (.tail _ (.tail _ (.tail _ (.head _)))) q hq
      rcases List.mem_append.mp hp with hp | hp
      · exact hsep p hp q (List.mem_append.mpr (.inr hq))
      · exact hne p (.tail _ (.tail _ (.tail _ (.tail _ hp)))) q hq
    · intro p hp b hb
      rcases List.mem_append.mp hp with hp | hp
      · exact hnew p hp b hb
      · exact hoff p hp b hb
  · rintro u nx h tk ⟨rest, hO, hoff⟩ F₁ N₁
    exact done u nx rest h tk hO hoff F₁ N₁
end
/-! part T15 -/
/-- from the turn's ledger to the turn's end -/
abbrev BackTo (w : World) (h₀ : Heap) (L : Addr) (wd xx dx dd : Addr) (R : List (Addr × Obj)) (i : Nat) (ow oc od : Obj) (rest : List (Addr × Obj)) : Prop :=
  ∀ (x : Str) (m₀ : Str → Option Value) (s₀ : Shared) (v : Option Value) (h' : Heap) (tk' : Nat) (all : List (Addr × Obj)), Fr h₀ L h' (fun y => if y = x then v else m₀ y) → News h₀ L h' all →
    (wd, ow) ∈ all → (xx, instObj 94 dx) ∈ all → (dx, oc) ∈ all → (dd, od) ∈ all → (∀ p ∈ rest, p ∈ all) → TurnBack w h₀ L x m₀ wd xx dx dd R i s₀ .next { s₀ with heap := h', toks := tk' }
/-- what stands behind an event, with no frame sent -/
abbrev EvTurn (w : World) (h₀ : Heap) (L : Addr) (m : Str → Option Value) (s : Shared) (wd x dx dd : Addr) (R : List (Addr × Obj)) (i : Nat) (Q : Value → Shared → Prop) (st st' en en' : Value) : Prop :=
  ∀ (ow od : Obj) (k1 k2 k3 k4 k5 tc tn t2 t3 t4 : Tok) (cm nr nw wt : Int) (rest : List (Addr × Obj)) (h' : Heap) (tk' : Nat), OwnOff rest [wd, x, dx, dd] →
    ow.IsDictOf (strKind P w) [(Str.ofString "state", st'), (Str.ofString "end", en'), (Str.ofString "frame", .none), (Str.ofString "came", Value.int cm t2), (Str.ofString "now", Value.int nw t3), (Str.ofString "wait", Value.int wt t4)] →
    Fr h₀ L h' m → News h₀ L h' ((wd, ow) :: (x, instObj 94 dx) :: (dx, clo w k1 k2 k3 k4 k5 st .none en cm tc nr tn) :: (dd, od) :: rest) →
    BackTo w h₀ L wd x dx dd R i ow (clo w k1 k2 k3 k4 k5 st .none en cm tc nr tn) od rest → Q (.bool true) { s with heap := h', toks := tk' }
/-- the same with the frame -/
abbrev EvTurnF (w : World) (h₀ : Heap) (L : Addr) (m : Str → Option Value) (s : Shared) (wd x dx dd : Addr) (R : List (Addr × Obj)) (i : Nat) (Q : Value → Shared → Prop) (st st' en en' : Value) : Prop :=
  ∀ (ow od : Obj) (k1 k2 k3 k4 k5 tc tn t2 t3 t4 t5 t6 t7 : Tok) (cm nr nw wt v : Int) (j : Nat) (a : Addr) (rest : List (Addr × Obj)) (h' : Heap) (tk' : Nat), OwnOff rest [wd, x, dx, dd] →
    ow.IsDictOf (strKind P w) [(Str.ofString "state", st'), (Str.ofString "end", en'), (Str.ofString "frame", .ref a), (Str.ofString "came", Value.int cm t2), (Str.ofString "now", Value.int nw t3), (Str.ofString "wait", Value.int wt t4)] →
    Fr h₀ L h' m → News h₀ L h' ((wd, ow) :: (x, instObj 94 dx) :: (dx, clo w k1 k2 k3 k4 k5 st (.ref a) en cm tc nr tn) :: (dd, od) :: (a, frameObj v j t5 t6 t7) :: rest) →
    BackTo w h₀ L wd x dx dd R i ow (clo w k1 k2 k3 k4 k5 st (.ref a) en cm tc nr tn) od rest → Q (.bool true) { s with heap := h', toks := tk' }
theorem back_to {w : World} {h₀ : Heap} {L : Addr} {wd xx dx dd : Addr} {R new rest : List (Addr × Obj)} {i : Nat} {ow oc od : Obj} (hr : rest = new ++ R) (hO : Okay w wd xx dx dd rest (i + 1) ((wd, ow) :: (xx, instObj 94 dx) :: (dx, oc) :: (dd, od) :: rest)) (hnew : OwnOff new [wd, xx, dx, dd]) (hsep : ∀ p ∈ new, ∀ q ∈ R, p.1 ≠ q.1) : BackTo w h₀ L wd xx dx dd R i ow oc od rest := by
  intro x m₀ s₀ v h' tk' all F N h1 h2 h3 h4 h5
  subst hr
  refine ⟨rfl, h', tk', fun _ => v, new, _, rfl, F, hO, hnew, hsep, ?_⟩
  intro p hp
  refine N p ?_
  rcases List.mem_cons.mp hp with rfl | hp
  · exact h1
  rcases List.mem_cons.mp hp with rfl | hp
  · exact h2
  rcases List.mem_cons.mp hp with rfl | hp
  · exact h3
  rcases List.mem_cons.mp hp with rfl | hp
  · exact h4
  · exact h5 p hp
theorem news_frame {h₀ h : Heap} {L : Addr} {p1 p2 p3 p4 q : Addr × Obj} {rest : List (Addr × Obj)} (N : News h₀ L h (p1 :: p2 :: p3 :: p4 :: rest)) (hq : q ∈ rest) : News h₀ L h (p1 :: p2 :: p3 :: p4 :: q :: rest) := by
  intro p hp
  refine N p ?_
  simp only [List.mem_cons] at hp ⊢
  rcases hp with rfl | rfl | rfl | rfl | rfl | hp
  · exact .inl rfl
  · exact .inr (.inl rfl)
  · exact .inr (.inr (.inl rfl))
  · exact .inr (.inr (.inr (.inl rfl)))
  · exact .inr (.inr (.inr (.inr hq)))
  · exact .inr (.inr (.inr (.inr hp)))
theorem ev_turn {w : World} {loose : List Str} {mean : ExcName → Option Value} {mg mb : Str → Option Value} {dp un : Nat} {gd : Option (List Code)} {cn : Str} {cs : Scope} {a : Addr} {ccd : Value} {cl : List (Str × Addr)} {outer : List Env} {A₀ : Around} {base h₀ : Heap} {L : Addr} {m : Str → Option Value} {s : Shared} {Q E : Value → Shared → Prop}
    {wd x dx dd : Addr} {R nx : List (Addr × Obj)} {n : Nat}
    (B : Below A₀ base outer h₀) (F : Fr h₀ L s.heap m) (X : (hd.heap_39 w.params).In h₀) (N : News h₀ L s.heap nx) (T : Top hd.view_39 loose mean mg mb h₀) (hk : cs.kind = .function)
    (hO : Okay w wd x dx dd R n nx) (hoff : OwnOff R [wd, x, dx, dd]) (l1 : @LT.lt Nat _ dd dx) (l2 : @LT.lt Nat _ dx x) (l3 : @LT.lt Nat _ x wd) (hn : n < 16) (hdp : dp + 3 < recursionLimit) (hun : un + 24 < cLine)
    (e1 : ∀ t u, EvTurn w h₀ L m s wd x dx dd R n Q (.str (Str.ofString "open") t) (.str (Str.ofString "open") u) .none .none)
    (e2 : ∀ t u i b c, EvTurn w h₀ L m s wd x dx dd R n Q (.str (Str.ofString "closing") t) (.str (Str.ofString "closing") u) (.int i b) (.int i c))
    (e3 : ∀ t u i b c, EvTurn w h₀ L m s wd x dx dd R n Q (.str (Str.ofString "draining") t) (.str (Str.ofString "draining") u) (.int i b) (.int i c))
    (e4 : ∀ t u, EvTurn w h₀ L m s wd x dx dd R n Q (.str (Str.ofString "closed") t) (.str (Str.ofString "closed") u) .none .none)
    (e5 : ∀ t u i b c, EvTurnF w h₀ L m s wd x dx dd R n Q (.str (Str.ofString "closing") t) (.str (Str.ofString "closing") u) (.int i b) (.int i c))
    (e6 : ∀ t u i b c, EvTurnF w h₀ L m s wd x dx dd R n Q (.str (Str.ofString "draining") t) (.str (Str.ofString "draining") u) (.int i b) (.int i c))
    (e7 : ∀ t u, EvTurnF w h₀ L m s wd x dx dd R n Q (.str (Str.ofString "closed") t) (.str (Str.ofString "closed") u) .none .none) :
    wpAny (model PySem.Challenge.rw_no0063_01.row.prog w) (ktrTop dp un gd cn cs L a ccd cl outer) (call (.ref 131) [.ref wd, .ref x, .ref dd]) Q E s := by
  refine ev_call B F X N T hk hO hoff l1 l2 l3 hn hdp hun ?_
  intro new h' tk' nx' hO' hnew hsep F' N'
  have hoff' : OwnOff (new ++ R) [wd, x, dx, dd] := by
    intro p hp b hb
    rcases List.mem_append.mp hp with hp | hp
    · exact hnew p hp b hb
    · exact hoff p hp b hb
  obtain ⟨rest, hr⟩ : ∃ rest, rest = new ++ R := ⟨_, rfl⟩
  rw [← hr] at hO' hoff'
  have hO2 := hO'
  obtain ⟨ow, od, k1, k2, k3, k4, k5, st, st', f, en, en', cm, tc, nr, tn, rfl, ⟨nw, wt, t2, t3, t4, hW⟩, hD, ⟨sx, st1, st2, g1, g2⟩, he, ⟨hc0, hcn, t, hS⟩, hF⟩ := hO2
  have hB := back_to (h₀ := h₀) (L := L) hr hO' hnew hsep
  subst g2
  rcases hS with ⟨h1, h2, h3, h4, h5⟩ | ⟨h1, ⟨i, u, h2⟩, h3⟩ | ⟨h1, ⟨i, u, h2⟩⟩ | ⟨h1, h2⟩
  · subst h2 h3
    rw [h1] at g1
    injection g1 with g3 g4
    subst g3 h1
    rcases he with ⟨-, he⟩ | ⟨_, _, _, he, _⟩
    · subst he
      exact e1 _ _ _ _ _ _ _ _ _ _ _ _ _ _ _ _ _ _ _ _ _ hoff' hW F' N' hB
    · cases he
  · subst h2
    rw [h1] at g1
    injection g1 with g3 g4
    subst g3 h1
    rcases he with ⟨he, -⟩ | ⟨i2, _, _, he, he2⟩
    · cases he
    · injection he with e5' e6'
      subst he2 e5'
      rcases hF with hF | ⟨a9, v9, j9, t5, t6, t7, hF, hm⟩
      · subst hF
        exact e2 _ _ _ _ _ _ _ _ _ _ _ _ _ _ _ _ _ _ _ _ _ _ _ _ hoff' hW F' N' hB
      · subst hF
        exact e5 _ _ _ _ _ _ _ _ _ _ _ _ _ _ _ _ _ t5 t6 t7 _ _ _ _ v9 j9 _ _ _ _ hoff' hW F' (news_frame N' hm) hB
  · subst h2
    rw [h1] at g1
    injection g1 with g3 g4
    subst g3 h1
    rcases he with ⟨he, -⟩ | ⟨i2, _, _, he, he2⟩
    · cases he
    · injection he with e5' e6'
      subst he2 e5'
      rcases hF with hF | ⟨a9, v9, j9, t5, t6, t7, hF, hm⟩
      · subst hF
        exact e3 _ _ _ _ _ _ _ _ _ _ _ _ _ _ _ _ _ _ _ _ _ _ _ _ hoff' hW F' N' hB
      · subst hF
        exact e6 _ _ _ _ _ _ _ _ _ _ _ _ _ _ _ _ _ t5 t6 t7 _ _ _ _ v9 j9 _ _ _ _ hoff' hW F' (news_frame N' hm) hB
  · subst h2
    rw [h1] at g1
    injection g1 with g3 g4
    subst g3 h1
    rcases he with ⟨-, he⟩ | ⟨_, _, _, he, _⟩
    · subst he
      rcases hF with hF | ⟨a9, v9, j9, t5, t6, t7, hF, hm⟩
      · subst hF
        exact e4 _ _ _ _ _ _ _ _ _ _ _ _ _ _ _ _ _ _ _ _ _ hoff' hW F' N' hB
      · subst hF
        exact e7 _ _ _ _ _ _ _ _ _ _ _ _ _ _ t5 t6 t7 _ _ _ _ v9 j9 _ _ _ _ hoff' hW F' (news_frame N' hm) hB
    · cases he
section
variable {prog : Program} {w : World} {A : Around} {E : Value → Shared → Prop} {s : Shared} {env : Env} {h₀ : Heap} {x : Str} {body : List Stmt} {Q : Flow → Shared → Prop}
/-- the loop of the turns; behind it the ledger stands written out -/
theorem law_turns {r : Addr} {t₀ u₀ v₀ : Tok} {m₀ : Str → Option Value} {all : List (Addr × Obj)} {wd xx dx dd : Addr} {ow od : Obj} {k1 k2 k3 k4 k5 ts tu tc tn t2 t3 t4 : Tok} {wt : Int}
    (hh : A.handled = none) (hr : IsRange s.heap r 0 16 1 t₀ u₀ v₀) (F : Fr h₀ env.locals s.heap m₀) (N : News h₀ env.locals s.heap all) (h1 : (wd, ow) ∈ all) (h2 : (xx, instObj 94 dx) ∈ all) (h3 : (dx, clo w k1 k2 k3 k4 k5 (.str (Str.ofString "open") ts) .none .none 0 tc 1 tn) ∈ all) (h4 : (dd, od) ∈ all)
    (hW : ow.IsDictOf (strKind P w) [(Str.ofString "state", .str (Str.ofString "open") tu), (Str.ofString "end", .none), (Str.ofString "frame", .none), (Str.ofString "came", Value.int 0 t2), (Str.ofString "now", Value.int 0 t3), (Str.ofString "wait", Value.int wt t4)]) (hD : Draws w od)
    (turn : ∀ i nx R k t h tk, i < 16 → Okay w wd xx dx dd R i nx → OwnOff R [wd, xx, dx, dd] → Fr h₀ env.locals h (fun y => if y = x then some (.int k t) else m₀ y) → News h₀ env.locals h nx →
      wpAny (model prog w) A (execs body env) (TurnBack w h₀ env.locals x m₀ wd xx dx dd R i { s with heap := h, toks := tk }) E { s with heap := h, toks := tk })
    (done : ∀ (u : Str → Option Value) (ow od : Obj) (k1 k2 k3 k4 k5 tc tn : Tok) (st f en : Value) (cm nr : Int) (h : Heap) (tk : Nat), Draws w od → Fr h₀ env.locals h (fun y => if y = x then u y else m₀ y) →
      News h₀ env.locals h [(wd, ow), (xx, instObj 94 dx), (dx, clo w k1 k2 k3 k4 k5 st f en cm tc nr tn), (dd, od)] → Q .next { s with heap := h, toks := tk }) :
    wpAny (model prog w) A (pyIter (.ref r)) (fun it s₂ => LoopAtV prog w A h₀ env x body Q E it s₂) E s := by
  refine law_loop hh hr F N h1 h2 h3 h4 hW hD turn ?_
  intro u nx R h tk hO hoff F' N'
  obtain ⟨ow, od, k1, k2, k3, k4, k5, st, st', f, en, en', cm, tc, nr, tn, rfl, hW, hD, hs, he, hS, hF⟩ := hO
  refine done u ow od k1 k2 k3 k4 k5 tc tn st f en cm nr h tk hD F' ?_
  intro p hp
  refine N' p ?_
  simp only [List.mem_cons, List.not_mem_nil, or_false] at hp ⊢
  rcases hp with h | h | h | h <;> simp [h]
end
section
variable {h₀ h' : Heap} {L : Addr} {m : Str → Option Value} {s₁ : Shared} {I C D : Addr} {oI oC oD : Obj} {S : List (Addr × Obj) → Prop} {news : List (Addr × Obj)} {l : List Int} {k : Int} {t : Tok} {tk : Nat}
theorem abs_if : (if k < 0 then -k else k) = (k.natAbs : Int) := by split <;> omega
/-- the great cells: taken -/
theorem great_yes (F : Fr h₀ L h' m) (N : News h₀ L h' ((I, oI) :: (C, oC) :: (D, oD) :: news)) (off : LCg.Off3 I C D news) (hS : S news) (hc : 1000000000 < (if k < 0 then -k else k)) :
    LCg.CompEnd h₀ L m s₁ I oI C oC D oD S (fun y news' => KCiEl news l (if 1000000000 < (k.natAbs : Int) then l ++ [(k.natAbs : Int)] else l) y news') (.int (if k < 0 then -k else k) t) { s₁ with heap := h', toks := tk } := by
  rw [abs_if] at hc ⊢
  rw [if_pos hc]
  exact ⟨h', tk, news, rfl, F, N, off, hS, rfl, _, t, rfl, rfl⟩
/-- the great cells: passed by -/
theorem great_no (F : Fr h₀ L h' m) (N : News h₀ L h' ((I, oI) :: (C, oC) :: (D, oD) :: news)) (off : LCg.Off3 I C D news) (hS : S news) (hc : ¬ 1000000000 < (if k < 0 then -k else k)) :
    LCg.CompEnd h₀ L m s₁ I oI C oC D oD S (fun _ news' => KCiNo news l (if 1000000000 < (k.natAbs : Int) then l ++ [(k.natAbs : Int)] else l) news') .none { s₁ with heap := h', toks := tk } := by
  rw [abs_if] at hc
  rw [if_neg hc]
  exact ⟨h', tk, news, rfl, F, N, off, hS, rfl, rfl⟩
end
/-! part T16 -/
theorem rr_use {w : World} {loose : List Str} {mean : ExcName → Option Value} {mg mb : Str → Option Value} {dp un : Nat} {gd : Option (List Code)} {cn : Str} {cs : Scope} {a : Addr} {ccd : Value} {cl : List (Str × Addr)} {outer : List Env} {A₀ : Around} {base h₀ : Heap} {L : Addr} {m : Str → Option Value} {s : Shared} {Q E : Value → Shared → Prop}
    {d : Addr} {od : Obj} {news : List (Addr × Obj)} {g : Obj → List (Addr × Obj)}
    (B : Below A₀ base outer h₀) (F : Fr h₀ L s.heap m) (X : (hd.heap_39 w.params).In h₀) (N : News h₀ L s.heap news) (T : Top hd.view_39 loose mean mg mb h₀) (hk : cs.kind = .function)
    (U : UpdF d od news g) (hD : Draws w od) (hdp : dp + 4 < recursionLimit) (hun : un + 32 < cLine)
    (hret : ∀ (od' : Obj) (h' : Heap) (tk' : Nat), Draws w od' → Fr h₀ L h' m → News h₀ L h' (g od') → Q (.bool true) { s with heap := h', toks := tk' }) :
    wpAny (model PySem.Challenge.rw_no0063_01.row.prog w) (ktrTop dp un gd cn cs L a ccd cl outer) (call (.ref 136) [.ref d]) Q E s := by
  obtain ⟨pre, post, rfl, hg, h1, h2⟩ := U.split
  refine rr _ _ _ _ _ _ _ _ _ _ _ _ _ _ _ _ _ _ _ _ _ X d od (pre ++ post) B F ?_ T hk ?_ hD hdp hun ?_
  · intro p hp
    refine N p ?_
    simp only [List.mem_cons, List.mem_append] at hp ⊢
    rcases hp with h | h | h <;> simp [h]
  · intro p hp b hb
    rw [List.mem_singleton.mp hb]
    rcases List.mem_append.mp hp with h | h
    · exact h1 p h
    · exact h2 p h
  · intro od' h' tk' a3 a4 a5
    refine hret od' h' tk' a3 a4 ?_
    rw [hg]
    intro p hp
    refine a5 p ?_
    simp only [List.mem_cons, List.mem_append] at hp ⊢
    rcases hp with h | h | h <;> simp [h]
/-! part T17 -/
section
open PySem.SeqAt
/-- two items that a tuple's comparison finds equal -/
inductive Alike : Value → Value → Prop where
  | same (v : Value) : Alike v v
  | str (x : Str) (t u : Tok) : Alike (.str x t) (.str x u)
  | int (i : Int) (t u : Tok) : Alike (.int i t) (.int i u)
  | bytes (b : Array UInt8) (t u : Tok) : Alike (.bytes b t) (.bytes b u)
theorem alike_at {A : Around} {s : Shared} {v u : Value} (h : Alike v u) : EqAt A s v u true := by
  cases h with
  | same v => exact EqAt.same v
  | str x t u => simpa using EqAt.str_str (A := A) (s := s) x t x u
  | int i t u => simpa using EqAt.int_int (A := A) (s := s) i t i u
  | bytes b t u =>
    intro prog w E Q h
    unfold eqBool
    refine wpAny_holding ?_
    refine wpAny_ite_split (fun hab => ?_) (fun _ => ?_)
    · exact wpAny_bind (wpAny_rule (wpAny_pure h))
    · exact wpAny_bind (eq_bytes (wpAny_truthy_bool (by rw [beq_self_eq_true]; exact h)))
section
variable {prog : Program} {w : World} {A : Around} {E : Value → Shared → Prop} {s : Shared} {h₀ : Heap} {L a b : Addr} {news : List (Addr × Obj)} {x1 x2 x3 x4 y1 y2 y3 y4 : Value} {n k : Nat} {Q : Value → Shared → Prop}
abbrev tup4 (x1 x2 x3 x4 : Value) (n : Nat) : Obj := { cls := .type "tuple", data := .seq #[x1, x2, x3, x4] n }
theorem four_items (e1 : Alike x1 y1) (e2 : Alike x2 y2) (e3 : Alike x3 y3) (e4 : Alike x4 y4) : ∀ j (h1 : j < #[x1, x2, x3, x4].size) (h2 : j < #[y1, y2, y3, y4].size), EqAt A s #[x1, x2, x3, x4][j] #[y1, y2, y3, y4][j] ((fun _ => true) j) := by
  intro j h1 h2
  match j, h1, h2 with
  | 0, _, _ => exact alike_at e1
  | 1, _, _ => exact alike_at e2
  | 2, _, _ => exact alike_at e3
  | 3, _, _ => exact alike_at e4
theorem four_eq (N : News h₀ L s.heap news) (ha : (a, tup4 x1 x2 x3 x4 n) ∈ news) (hb : (b, tup4 y1 y2 y3 y4 k) ∈ news) (e1 : Alike x1 y1) (e2 : Alike x2 y2) (e3 : Alike x3 y3) (e4 : Alike x4 y4) (hu : A.units + 64 < cLine) (h : Q (.bool true) s) :
    wpAny (model prog w) A (compareOp .Eq (.ref a) (.ref b)) Q E s :=
  eq_tupleAt (e := fun _ => true) ⟨_, N.get ha, rfl, n, rfl⟩ ⟨_, N.get hb, rfl, k, rfl⟩ (by omega) (four_items e1 e2 e3 e4) h
theorem four_ne (N : News h₀ L s.heap news) (ha : (a, tup4 x1 x2 x3 x4 n) ∈ news) (hb : (b, tup4 y1 y2 y3 y4 k) ∈ news) (e1 : Alike x1 y1) (e2 : Alike x2 y2) (e3 : Alike x3 y3) (e4 : Alike x4 y4) (hu : A.units + 64 < cLine) (h : Q (.bool false) s) :
    wpAny (model prog w) A (compareOp .NotEq (.ref a) (.ref b)) Q E s :=
  RcNeAt.tuples (e := fun _ => true) ⟨_, N.get ha, rfl, n, rfl⟩ ⟨_, N.get hb, rfl, k, rfl⟩ (by omega) (four_items e1 e2 e3 e4) prog w E Q h
theorem ne_int_same {i : Int} {t u : Tok} (h : Q (.bool false) s) : wpAny (model prog w) A (compareOp .NotEq (.int i t) (.int i u)) Q E s :=
  PyProof.Rows.ne_int (by rw [bne_self_eq_false]; exact h)
end
end
/-! part T18 -/
theorem fr_drop {h₀ h : Heap} {L : Addr} {l l' : List (Addr × Obj)} (N : News h₀ L h l) (hs : ∀ p ∈ l', p ∈ l) : News h₀ L h l' := fun p hp => N p (hs p hp)
abbrev FrClaim (w : World) : Prop :=
  ∀ (loose : List Str) (mean : ExcName → Option Value) (mg mb : Str → Option Value) (dp un : Nat) (gd : Option (List Code)) (cn : Str) (cs : Scope) (a : Addr) (ccd : Value) (cl : List (Str × Addr)) (outer : List Env) (A₀ : Around) (base h₀ : Heap) (L : Addr) (m : Str → Option Value) (s : Shared) (Q E : Value → Shared → Prop)
    (X : (hd.heap_39 w.params).In h₀) (a1 a2 a3 a4 : Addr) (o1 o2 o3 o4 : Obj),
    Below A₀ base outer h₀ → Fr h₀ L s.heap m → News h₀ L s.heap [(a1, o1), (a2, o2), (a3, o3), (a4, o4)] → Top hd.view_39 loose mean mg mb h₀ → cs.kind = .function →
    dp + 4 < recursionLimit → un + 100 < cLine →
    (∀ (h' : Heap) (tk' : Nat), Fr h₀ L h' m → News h₀ L h' [(a1, o1), (a2, o2), (a3, o3), (a4, o4)] → Q (.bool true) { s with heap := h', toks := tk' }) →
    wpAny (model PySem.Challenge.rw_no0063_01.row.prog w) (ktrTop dp un gd cn cs L a ccd cl outer) (call (.ref 143) []) Q E s
set_option maxRecDepth 100000 in
set_option maxHeartbeats 8000000 in
theorem fr {w : World} : FrClaim w := by
  unfold FrClaim
  k_with_none
  k_with "compareOp NotEq ref ref" => (k_here; k_dflt (refine' four_ne ?iN ?iA ?iB ?i1 ?i2 ?i3 ?i4 ?iU ?_; (case iN => k_asm); (case iA => k_mem); (case iB => k_mem); (case i1 => first | exact Alike.same _ | exact Alike.str _ _ _); (case i2 => first | exact Alike.same _ | exact Alike.int _ _ _); (case i3 => first | exact Alike.same _ | exact Alike.int _ _ _); (case i4 => first | exact Alike.same _ | exact Alike.bytes _ _ _); (case iU => ke_room)); (try dsimp only))
  k_with "compareOp Eq ref ref" => (k_here; k_dflt (refine' four_eq ?iN ?iA ?iB ?i1 ?i2 ?i3 ?i4 ?iU ?_; (case iN => k_asm); (case iA => k_mem); (case iB => k_mem); (case i1 => first | exact Alike.same _ | exact Alike.str _ _ _); (case i2 => first | exact Alike.same _ | exact Alike.int _ _ _); (case i3 => first | exact Alike.same _ | exact Alike.int _ _ _); (case i4 => first | exact Alike.same _ | exact Alike.bytes _ _ _); (case iU => ke_room)); (try dsimp only))
  k_with "call ref" => (k_here; refine wpAny_call ?_; k_dflt (refine' code_def ?k1 ?k2 ?k3 ?k4 ?k5 ?kA ?kF ?kK ?k6 ?k7 ?k8 ?k9 ?kB ?_ ?c2 ?c3 ?c4 ?c5; (case kA => exact rfl); (case kF => exact rfl); (case kK => first | exact rfl | assumption); (case k1 => k_asm); (case k2 => k_asm); (case k3 => k_asm); (case k4 => k_asm); (case k5 => k_asm); (case k6 => k_is); (case k7 => k_is); (case k8 => ktr_room); (case k9 => exact BindsTo.of_eq rfl); (case c5 => decide); (case kB => exact locs rfl); (case c2 => exact rfl); (case c3 => exact rfl); (case c4 => exact rfl); k_whole; intro g' L' h' FG' F' N' B' X' T'; (try dsimp only); (try k_lift B'); (try k_fold)); walk_say "ENTER")
  k_fill
  intro loose mean mg mb dp un gd cn cs a ccd cl outer A₀ base h₀ L m s Q E X a1 a2 a3 a4 o1 o2 o3 o4 B F N T hk hdp hun hret
  refine wpAny_call ?_
  (first | k_dflt cell_enter | fail "not entered")
  k_steps
  all_goals exact hret _ _ (by k_asm) (fr_drop (by k_asm) (by k_allIn))
theorem fr_use {w : World} {loose : List Str} {mean : ExcName → Option Value} {mg mb : Str → Option Value} {dp un : Nat} {gd : Option (List Code)} {cn : Str} {cs : Scope} {a : Addr} {ccd : Value} {cl : List (Str × Addr)} {outer : List Env} {A₀ : Around} {base h₀ : Heap} {L : Addr} {m : Str → Option Value} {s : Shared} {Q E : Value → Shared → Prop} {a1 a2 a3 a4 : Addr} {o1 o2 o3 o4 : Obj}
    (B : Below A₀ base outer h₀) (F : Fr h₀ L s.heap m) (X : (hd.heap_39 w.params).In h₀) (N : News h₀ L s.heap [(a1, o1), (a2, o2), (a3, o3), (a4, o4)]) (T : Top hd.view_39 loose mean mg mb h₀) (hk : cs.kind = .function) (hdp : dp + 4 < recursionLimit) (hun : un + 100 < cLine)
    (hret : ∀ (h' : Heap) (tk' : Nat), Fr h₀ L h' m → News h₀ L h' [(a1, o1), (a2, o2), (a3, o3), (a4, o4)] → Q (.bool true) { s with heap := h', toks := tk' }) :
    wpAny (model PySem.Challenge.rw_no0063_01.row.prog w) (ktrTop dp un gd cn cs L a ccd cl outer) (call (.ref 143) []) Q E s :=
  fr _ _ _ _ _ _ _ _ _ _ _ _ _ _ _ _ _ _ _ _ _ X _ _ _ _ _ _ _ _ B F N T hk hdp hun hret
/-! part LF -/
set_option maxRecDepth 100000 in
set_option maxHeartbeats 8000000 in
theorem law_holds : PySem.Challenge.rw_no0063_01.Holds := hd (by
  k_with_none
  k_with "call ref" => (k_here; (with_reducible show wpAny _ _ (call (Value.ref 119) _) _ _ _); k_dflt ( (refine' take_use ?k1 ?k2 ?k3 ?k4 ?k5 ?kK ?kU ?kD ?kp ?kq ?kd ?ku ?_); (case k1 => k_asm); (case k2 => k_asm); (case k3 => k_asm); (case k4 => k_asm); (case k5 => k_asm); (case kK => first | exact rfl | assumption); (case kU => k_updF); (case kD => first | assumption | exact draws_mk (by assumption) (by omega) (by omega)); (case kp => decide); (case kq => decide); (case kd => ktr_room); (case ku => ktr_units); k_whole); intro v9 tv9 od9 h9 tk9 hv9 hw9 hD9 F9 N9; (try dsimp only at N9); (try k_sweep); (try dsimp only); (try k_fold); walk_say "TAKE")
  k_with "call ref" => (k_here; (with_reducible show wpAny _ _ (call (Value.ref 136) _) _ _ _); k_dflt (refine' rr_use ?k1 ?k2 ?k3 ?k4 ?k5 ?kK ?kU ?kD ?kd ?ku ?_; (case k1 => k_asm); (case k2 => k_asm); (case k3 => k_asm); (case k4 => k_asm); (case k5 => k_asm); (case kK => first | exact rfl | assumption); (case kU => k_updF); (case kD => assumption); (case kd => ktr_room); (case ku => ktr_units); k_whole); intro od9 h9 tk9 hD9 F9 N9; (try dsimp only at N9); (try k_sweep); (try dsimp only); (try k_fold); walk_say "RIGHT")
  k_with "callWith ref" => (k_here; k_dflt (refine' callWith_K0 ?k1 ?k2 ?_; (case k1 => first | (with_reducible assumption) | exact Frag.In.keeps (by k_asm) (Fr.keep (by k_asm))); (case k2 => k_is); k_whole; (try dsimp only [List.nil_append, List.cons_append])))
  k_with "TurnBack" => (k_dflt (refine' (by assumption : BackTo _ _ _ _ _ _ _ _ _ _ _ _ _) _ _ _ _ _ _ _ ?f ?n ?h1 ?h2 ?h3 ?h4 ?h5; (case f => k_asm); (case n => k_asm); (case h1 => k_mem); (case h2 => k_mem); (case h3 => k_mem); (case h4 => k_mem); (case h5 => (intro p hp; k_ownIn))))
  k_with "CompEnd" => (first | (k_dflt (refine' great_yes ?f ?n ?o ?s ?c; (case f => assumption); (case n => assumption); (case o => assumption); (case c => first | assumption | omega); (case s => lcg_src))) | (k_dflt (refine' great_no ?f ?n ?o ?s ?c; (case f => assumption); (case n => assumption); (case o => assumption); (case c => first | assumption | omega); (case s => lcg_src))))
  k_with "eval ListComp" => (k_here; lct_look; k_dflt (refine LCt.ListComp_T (F₀ := by k_asm) (by with_unfolding_all rfl) (by decide) (by rfl) (by decide) (by rfl) ?_))
  k_with "CompSrcT" => (k_here; k_dflt (refine LCt.CompSrcT.ledger (by rfl) (by k_asm) (by k_asm) (by k_mem) (by size_fits) ?_; intro g'; (refine' kci_list (fun l k => if 1000000000 < (k.natAbs : Int) then l ++ [(k.natAbs : Int)] else l) (by assumption) (fun k' t' I' oI' C' oC' D' m' ys' l' h' tk' E' hk' hI' hC' hx' F' N' off' ne' => ?_) ?_ ?_)))
  k_with "compareOp NotEq int int" => (k_here; (refine ne_int_same ?_))
  k_with "compareOp NotEq ref ref" => (k_here; k_dflt (refine' four_ne ?iN ?iA ?iB ?i1 ?i2 ?i3 ?i4 ?iU ?_; (case iN => k_asm); (case iA => k_mem); (case iB => k_mem); (case i1 => first | exact Alike.same _ | exact Alike.str _ _ _); (case i2 => first | exact Alike.same _ | exact Alike.int _ _ _); (case i3 => first | exact Alike.same _ | exact Alike.int _ _ _); (case i4 => first | exact Alike.same _ | exact Alike.bytes _ _ _); (case iU => ke_room)); (try dsimp only))
  k_with "call ref" => (k_here; (with_reducible show wpAny _ _ (call (Value.ref 143) _) _ _ _); k_dflt (refine' fr_use ?k1 ?k2 ?k3 ?k4 ?k5 ?kK ?kd ?ku ?_; (case k1 => k_asm); (case k2 => k_asm); (case k3 => k_asm); (case k4 => k_asm); (case k5 => k_asm); (case kK => first | exact rfl | assumption); (case kd => ktr_room); (case ku => ktr_units); k_whole); intro h9 tk9 F9 N9; (try k_sweep); (try dsimp only); (try k_fold); walk_say "FRAMES")
  k_with "pyIter ref" => (k_here; (with_reducible rename Fr _ _ _ _ => lF'); (with_reducible rename News _ _ _ _ => lN'); (with_reducible rename IsRange _ _ _ _ _ _ _ _ => rgX); (k_dflt (refine' law_turns (by rfl) (by first | exact rgX | assumption) lF' lN' ?m1 ?m2 ?m3 ?m4 ?kW ?kD ?turn ?done)); (case kW => with_unfolding_all assumption); (case kD => assumption); (k_dflt (case m1 => exact List.Mem.head _)); (k_dflt (case m2 => exact List.Mem.tail _ (List.Mem.head _))); (k_dflt (case m3 => exact List.Mem.tail _ (List.Mem.tail _ (List.Mem.head _)))); (k_dflt (case m4 => k_mem)); (case' turn => (intro i' nx' R' k' t' h' tk' hi' hO' hoff' F' N'; clear lF' lN')); (case' done => (intro u' ow' od' k1' k2' k3' k4' k5' tc' tn' st' f' en' cm' nr' h' tk' hD' F' N'; clear lF' lN')); all_goals ((try dsimp only); (try k_fold)); walk_say "TURNS")
  k_with "call ref" => (k_here; (with_reducible show wpAny _ _ (call (Value.ref 131) _) _ _ _); (k_dflt (refine' ev_turn ?k1 ?k2 ?k3 ?k4 ?k5 ?kK ?kO ?ko ?l1 ?l2 ?l3 ?kn ?kd ?ku ?e1 ?e2 ?e3 ?e4 ?e5 ?e6 ?e7; (case k1 => k_asm); (case k2 => k_asm); (case k3 => k_asm); (case k4 => k_asm); (case k5 => k_asm); (case kK => first | exact rfl | assumption); (case kO => assumption))); (k_dflt ((case ko => assumption); (case l1 => omega); (case l2 => omega); (case l3 => omega); (case kn => assumption); (case kd => ktr_room); (case ku => ktr_units))); (case' e1 => (intro ts' tu' ow' od' k1' k2' k3' k4' k5' tc' tn' t2' t3' t4' cm' nr' nw' wt' rest' h' tk' hoff' hW' F' N' hB')); (case' e2 => (intro ts' tu' i' b' c' ow' od' k1' k2' k3' k4' k5' tc' tn' t2' t3' t4' cm' nr' nw' wt' rest' h' tk' hoff' hW' F' N' hB')); (case' e3 => (intro ts' tu' i' b' c' ow' od' k1' k2' k3' k4' k5' tc' tn' t2' t3' t4' cm' nr' nw' wt' rest' h' tk' hoff' hW' F' N' hB')); (case' e4 => (intro ts' tu' ow' od' k1' k2' k3' k4' k5' tc' tn' t2' t3' t4' cm' nr' nw' wt' rest' h' tk' hoff' hW' F' N' hB')); (case' e5 => (intro ts' tu' i' b' c' ow' od' k1' k2' k3' k4' k5' tc' tn' t2' t3' t4' t5' t6' t7' cm' nr' nw' wt' v' j' a' rest' h' tk' hoff' hW' F' N' hB')); (case' e6 => (intro ts' tu' i' b' c' ow' od' k1' k2' k3' k4' k5' tc' tn' t2' t3' t4' t5' t6' t7' cm' nr' nw' wt' v' j' a' rest' h' tk' hoff' hW' F' N' hB')); (case' e7 => (intro ts' tu' ow' od' k1' k2' k3' k4' k5' tc' tn' t2' t3' t4' t5' t6' t7' cm' nr' nw' wt' v' j' a' rest' h' tk' hoff' hW' F' N' hB')); all_goals ((try dsimp only); (try k_fold)); walk_say "EVENT")
  k_with "pyIter ref" => k_of "cell" => k_state (fun pre m => 0 ≤ m ∧ m < 2147483647) "mixed_here"
  k_go0
  all_goals (try k_fold)
  k_steps
  all_goals (try k_data)
  all_goals (fail "left"))
end Mine
theorem PySem.Challenge.cw_no0063_01_holds : PySem.Challenge.rw_no0063_01.Holds :=
  Mine.law_holds
