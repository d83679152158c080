import PyProof.Rows.All
import Wide.All
import OpenK.AllK
import Wide.FinOn
import PySem.Challenge.RW_no0152_01
set_option Elab.async false

section
open PySem PySem.W PyProof.Rows
namespace Mine
set_option maxRecDepth 100000 in
set_option maxHeartbeats 8000000 in
open_top hd for PySem.Challenge.rw_no0152_01
end Mine
end
theorem Mine.walk_off : True := by
  w_top off
  trivial

section
open PySem PySem.W PyProof.Rows
set_option maxRecDepth 100000
namespace Mine

/-- what a call of f on vs hands back, and what it leaves of the ledger -/
def Says (w : World) (f : Addr) (vs : List Value) (dN uN : Nat) (news : List (Addr × Obj)) (Out : Value → List (Addr × Obj) → Prop) : Prop :=
  ∀ (loose : List Str) (mean : ExcName → Option Value) (mg mb : Str → Option Value) (dp un : Nat) (gd : Option (List Code)) (cn : Str) (cs : Scope) (a : Addr) (ccd : Value) (cl : List (Str × Addr)) (outer : List Env) (A₀ : Around) (base h₀ : Heap) (L : Addr) (m : Str → Option Value) (s : Shared)
    (Q E : Value → Shared → Prop),
    Below A₀ base outer h₀ → Fr h₀ L s.heap m → (hd.heap_39 w.params).In h₀ → News h₀ L s.heap news → Top hd.view_39 loose mean mg mb h₀ → cs.kind = .function → dp + dN < recursionLimit → un + uN < cLine →
    (∀ r news' h' tk', Fr h₀ L h' m → News h₀ L h' news' → Out r news' → Q r { s with heap := h', toks := tk' }) →
    wpAny (model PySem.Challenge.pw_no0152_01 w) (ktrTop dp un gd cn cs L a ccd cl outer) (call (.ref f) vs) Q E s

abbrev handO (C : Addr) (pos cur seed bud : Int) (t1 t2 t3 t4 : Tok) (n : Nat) : Obj := listOf #[.ref C, .int pos t1, .int cur t2, .int seed t3, .int bud t4] n

structure HandOk (ns : List Int) (pos cur seed bud : Int) : Prop where
  p0 : 0 ≤ pos
  p1 : pos ≤ (ns.length : Int)
  c0 : 0 ≤ cur
  s0 : 0 ≤ seed
  s1 : seed < 2147483647
  b0 : 0 ≤ bud
  b1 : bud ≤ 11
end Mine
end

section
open PySem PySem.W PyProof.Rows
local macro_rules | `(tactic| k_all) => `(tactic| assumption)

section
open PySem PySem.W PyProof.Rows
set_option maxRecDepth 100000
namespace Mine
theorem fill2 : PySem.Challenge.rw_no0152_01 = PySem.Challenge.rw_no0152_01 ∧ hd.heap_39 = hd.heap_39 := by k_fill; exact ⟨rfl, rfl⟩
set_option maxHeartbeats 4000000 in
theorem pick_says (w : World) {H C : Addr} {lim pos cur seed bud : Int} {tl t1 t2 t3 t4 : Tok} {n cn : Nat} {cv : List Value} {ns : List Int} {rest : List (Addr × Obj)}
    (hc : IntsAre cv ns) (hCH : @LT.lt Nat _ C H) (hr : ∀ p ∈ rest, p.1 ≠ H) (ok : HandOk ns pos cur seed bud) (hl : 0 < lim) (hl2 : lim < 100) (hlen : ns.length ≤ 63) :
    Says w 147 [.ref H, .int lim tl] 2 60 ((H, handO C pos cur seed bud t1 t2 t3 t4 n) :: (C, listOf cv.toArray cn) :: rest)
      (fun r news' => ∃ d tk pos' cur' seed' t1' t2' t3' n', r = .int d tk ∧ 0 ≤ d ∧ d < lim ∧ HandOk ns pos' cur' seed' bud ∧
        news' = (H, handO C pos' cur' seed' bud t1' t2' t3' t4 n') :: (C, listOf cv.toArray cn) :: rest) := by
  obtain ⟨p0, p1, c0, s0, s1, b0, b1⟩ := ok
  intro loose mean mg mb dp un gd cn cs a ccd cl outer A₀ base h₀ L m s Q E B F X N T hk hdp hun hret
  refine wpAny_call ?_
  k_dflt ktr_enter
  k_steps
  all_goals (refine hret _ _ _ _ (by k_asm) (by k_asm) ⟨_, _, _, _, _, _, _, _, _, rfl, ?_, ?_, ⟨?_, ?_, ?_, ?_, ?_, ?_, ?_⟩, rfl⟩)
  all_goals first
    | assumption
    | omega
    | exact Int.fmod_nonneg_of_pos _ hl
    | exact Int.fmod_lt_of_pos _ hl
    | exact Int.fdiv_nonneg (by omega) (by omega)
    | exact Int.fmod_nonneg_of_pos _ (by decide)
    | exact Int.fmod_lt_of_pos _ (by decide)
end Mine
end

section
open PySem PySem.W PyProof.Rows
set_option maxRecDepth 100000
namespace Mine

inductive Tr where
  | v (n : Int)
  | a (n : Int)
  | i (n : Int)
  | no (x : Tr)
  | ca (x : Tr)
  | hd (n : Int) (x : Tr)
  | bin (f : Int) (x y : Tr)
namespace Tr
def dep : Tr → Nat
  | .v _ => 1
  | .a _ => 1
  | .i _ => 1
  | .no x => x.dep + 1
  | .ca x => x.dep + 1
  | .hd _ x => x.dep + 1
  | .bin _ x y => max x.dep y.dep + 1
/-- the body as it is kept -/
def keep : Tr → Tr
  | .v n => .ca (.v n)
  | .a n => .a n
  | .i n => .i n
  | .no x => .no x
  | .ca x => .ca x
  | .hd n x => .hd n x
  | .bin f x y => if f = 1 ∨ f = 2 ∨ f = 3 then .bin f x.keep y.keep else .bin f x y
theorem keep_keep : ∀ t : Tr, t.keep.keep = t.keep
  | .v _ => rfl
  | .a _ => rfl
  | .i _ => rfl
  | .no _ => rfl
  | .ca _ => rfl
  | .hd _ _ => rfl
  | .bin f x y => by
    by_cases h : f = 1 ∨ f = 2 ∨ f = 3
    · simp only [keep, if_pos h, keep_keep x, keep_keep y]
    · simp only [keep, if_neg h]
theorem keep_dep : ∀ t : Tr, t.keep.dep ≤ t.dep + 1
  | .v _ => by simp [keep, dep]
  | .a _ => by simp [keep, dep]
  | .i _ => by simp [keep, dep]
  | .no _ => by simp [keep, dep]
  | .ca _ => by simp [keep, dep]
  | .hd _ _ => by simp [keep, dep]
  | .bin f x y => by
    have h1 := keep_dep x
    have h2 := keep_dep y
    by_cases h : f = 1 ∨ f = 2 ∨ f = 3
    · simp only [keep, if_pos h, dep]; omega
    · simp only [keep, if_neg h, dep]; omega
end Tr

abbrev tup (vs : Array Value) (k : Nat) : Obj := { cls := .type "tuple", data := .seq vs k }

/-- the ledger bears the tree at the value -/
inductive TrIn (news : List (Addr × Obj)) : Value → Tr → Prop where
  | v {a : Addr} {n : Int} {t u : Tok} {k : Nat} : (a, tup #[.str (Str.ofString "v") t, .int n u] k) ∈ news → TrIn news (.ref a) (.v n)
  | a {a : Addr} {n : Int} {t u : Tok} {k : Nat} : (a, tup #[.str (Str.ofString "a") t, .int n u] k) ∈ news → TrIn news (.ref a) (.a n)
  | i {a : Addr} {n : Int} {t u : Tok} {k : Nat} : (a, tup #[.str (Str.ofString "i") t, .int n u] k) ∈ news → TrIn news (.ref a) (.i n)
  | no {a b : Addr} {t u : Tok} {k k' : Nat} {vx : Value} {x : Tr} : (a, tup #[.str (Str.ofString "s") t, .int 4 u, .ref b] k) ∈ news → (b, tup #[vx] k') ∈ news → TrIn news vx x → TrIn news (.ref a) (.no x)
  | ca {a b : Addr} {t u : Tok} {k k' : Nat} {vx : Value} {x : Tr} : (a, tup #[.str (Str.ofString "s") t, .int 24 u, .ref b] k) ∈ news → (b, tup #[vx] k') ∈ news → TrIn news vx x → TrIn news (.ref a) (.ca x)
  | hd {a b : Addr} {n : Int} {t u : Tok} {k k' : Nat} {vx : Value} {x : Tr} : (n ≠ 1 ∧ n ≠ 2 ∧ n ≠ 3 ∧ n ≠ 5) → (a, tup #[.str (Str.ofString "s") t, .int n u, .ref b] k) ∈ news → (b, tup #[vx] k') ∈ news → TrIn news vx x → TrIn news (.ref a) (.hd n x)
  | bin {a b : Addr} {f : Int} {t u : Tok} {k k' : Nat} {vx vy : Value} {x y : Tr} : (a, tup #[.str (Str.ofString "s") t, .int f u, .ref b] k) ∈ news → (b, tup #[vx, vy] k') ∈ news → TrIn news vx x → TrIn news vy y → TrIn news (.ref a) (.bin f x y)

theorem TrIn.mono {news news' : List (Addr × Obj)} {v : Value} {t : Tr} (h : TrIn news v t) (hs : ∀ p ∈ news, p ∈ news') : TrIn news' v t := by
  induction h with
  | v h => exact .v (hs _ h)
  | a h => exact .a (hs _ h)
  | i h => exact .i (hs _ h)
  | no h g _ ih => exact .no (hs _ h) (hs _ g) ih
  | ca h g _ ih => exact .ca (hs _ h) (hs _ g) ih
  | hd c h g _ ih => exact .hd c (hs _ h) (hs _ g) ih
  | bin h g _ _ ih ih' => exact .bin (hs _ h) (hs _ g) ih ih'

/-- all but what lies at one address -/
def off (H : Addr) (l : List (Addr × Obj)) : List (Addr × Obj) := l.filter fun p => decide (p.1 ≠ H)
theorem off_ne {H : Addr} {l : List (Addr × Obj)} : ∀ p ∈ off H l, p.1 ≠ H := fun p hp => of_decide_eq_true (List.mem_filter.mp hp).2
theorem off_sub {H : Addr} {l : List (Addr × Obj)} : ∀ p ∈ off H l, p ∈ l := fun p hp => (List.mem_filter.mp hp).1
theorem off_mem {H : Addr} {l : List (Addr × Obj)} {p : Addr × Obj} (h : p ∈ l) (hne : p.1 ≠ H) : p ∈ off H l := List.mem_filter.mpr ⟨h, decide_eq_true hne⟩

theorem tup_ne {h₀ h : Heap} {L H a : Addr} {big : List (Addr × Obj)} {o : Obj} {vs : Array Value} {k : Nat} (N : News h₀ L h big) (hH : (H, o) ∈ big) (ho : o.cls ≠ .type "tuple") (ha : (a, tup vs k) ∈ big) : a ≠ H := by
  rintro rfl
  have e := (N.get ha).symm.trans (N.get hH)
  exact ho (by rw [← Option.some.inj e])
theorem TrIn.off {h₀ h : Heap} {L H : Addr} {big : List (Addr × Obj)} {o : Obj} {v : Value} {t : Tr} (N : News h₀ L h big) (hH : (H, o) ∈ big) (ho : o.cls ≠ .type "tuple") (R : TrIn big v t) : TrIn (off H big) v t := by
  induction R with
  | v h => exact .v (off_mem h (tup_ne N hH ho h))
  | a h => exact .a (off_mem h (tup_ne N hH ho h))
  | i h => exact .i (off_mem h (tup_ne N hH ho h))
  | no h g _ ih => exact .no (off_mem h (tup_ne N hH ho h)) (off_mem g (tup_ne N hH ho g)) ih
  | ca h g _ ih => exact .ca (off_mem h (tup_ne N hH ho h)) (off_mem g (tup_ne N hH ho g)) ih
  | hd c h g _ ih => exact .hd c (off_mem h (tup_ne N hH ho h)) (off_mem g (tup_ne N hH ho g)) ih
  | bin h g _ _ ih ih' => exact .bin (off_mem h (tup_ne N hH ho h)) (off_mem g (tup_ne N hH ho g)) ih ih'

theorem news_sub {h₀ h : Heap} {L : Addr} {big small : List (Addr × Obj)} (N : News h₀ L h big) (hs : ∀ p ∈ small, p ∈ big) : News h₀ L h small := fun p hp => N p (hs p hp)
theorem news_tl {h₀ h : Heap} {L : Addr} {q : Addr × Obj} {small : List (Addr × Obj)} (N : News h₀ L h (q :: small)) : News h₀ L h small := fun p hp => N p (.tail _ hp)

theorem Says.use {w : World} {f : Addr} {vs : List Value} {dN uN : Nat} {news : List (Addr × Obj)} {Out : Value → List (Addr × Obj) → Prop} (S : Says w f vs dN uN news Out)
    {loose : List Str} {mean : ExcName → Option Value} {mg mb : Str → Option Value} {dp un : Nat} {gd : Option (List Code)} {cn : Str} {cs : Scope} {a : Addr} {ccd : Value} {cl : List (Str × Addr)} {outer : List Env} {A₀ : Around} {base h₀ : Heap} {L : Addr} {m : Str → Option Value} {s : Shared} {Q E : Value → Shared → Prop}
    (B : Below A₀ base outer h₀) (F : Fr h₀ L s.heap m) (X : (hd.heap_39 w.params).In h₀) (N : News h₀ L s.heap news) (T : Top hd.view_39 loose mean mg mb h₀) (hk : cs.kind = .function) (hd' : dp + dN < recursionLimit) (hu : un + uN < cLine)
    (ret : ∀ r news' h' tk', Fr h₀ L h' m → News h₀ L h' news' → Out r news' → Q r { s with heap := h', toks := tk' }) :
    wpAny (model PySem.Challenge.pw_no0152_01 w) (ktrTop dp un gd cn cs L a ccd cl outer) (call (.ref f) vs) Q E s := S _ _ _ _ _ _ _ _ _ _ _ _ _ _ _ _ _ _ _ _ _ B F X N T hk hd' hu ret

theorem Says.go {w : World} {f : Addr} {vs : List Value} {dN uN : Nat} {news : List (Addr × Obj)} {Out : Value → List (Addr × Obj) → Prop}
    {loose : List Str} {mean : ExcName → Option Value} {mg mb : Str → Option Value} {dp un : Nat} {gd : Option (List Code)} {cn : Str} {cs : Scope} {a : Addr} {ccd : Value} {cl : List (Str × Addr)} {outer : List Env} {A₀ : Around} {base h₀ : Heap} {L : Addr} {m : Str → Option Value} {s : Shared} {Q E : Value → Shared → Prop}
    (N : News h₀ L s.heap news) (S : Says w f vs dN uN news Out) (B : Below A₀ base outer h₀ := by k_asm) (F : Fr h₀ L s.heap m := by k_asm) (X : (hd.heap_39 w.params).In h₀ := by k_asm) (T : Top hd.view_39 loose mean mg mb h₀ := by k_asm) (hk : cs.kind = .function := by first | exact rfl | assumption) (hd' : dp + dN < recursionLimit := by ktr_room) (hu : un + uN < cLine := by ktr_units)
    (ret : ∀ r news' h' tk', Fr h₀ L h' m → News h₀ L h' news' → Out r news' → Q r { s with heap := h', toks := tk' }) :
    wpAny (model PySem.Challenge.pw_no0152_01 w) (ktrTop dp un gd cn cs L a ccd cl outer) (call (.ref f) vs) Q E s := S _ _ _ _ _ _ _ _ _ _ _ _ _ _ _ _ _ _ _ _ _ B F X N T hk hd' hu ret

/-- what _law_pick hands back -/
def PickOut (ns : List Int) (H C : Addr) (lim bud : Int) (t4 : Tok) (cv : List Value) (cn : Nat) (rest : List (Addr × Obj)) (r : Value) (news' : List (Addr × Obj)) : Prop :=
  ∃ d tk pos' cur' seed' t1' t2' t3' n', r = .int d tk ∧ 0 ≤ d ∧ d < lim ∧ HandOk ns pos' cur' seed' bud ∧
        news' = (H, handO C pos' cur' seed' bud t1' t2' t3' t4 n') :: (C, listOf cv.toArray cn) :: rest

/-- what _law_body hands back -/
def BodyOut (ns : List Int) (H C : Addr) (z : Int) (cv : List Value) (cn : Nat) (rest : List (Addr × Obj)) (r : Value) (news' : List (Addr × Obj)) : Prop :=
  ∃ T tl pos' cur' seed' bud' t1' t2' t3' t4' n', TrIn tl r T ∧ (∀ p ∈ tl, p.1 ≠ H) ∧ T.dep ≤ z.toNat + 2 ∧ HandOk ns pos' cur' seed' bud' ∧
        news' = (H, handO C pos' cur' seed' bud' t1' t2' t3' t4' n') :: (C, listOf cv.toArray cn) :: (tl ++ rest)

theorem BodyOut.open {ns : List Int} {H C : Addr} {z : Int} {cv : List Value} {cn : Nat} {rest : List (Addr × Obj)} {r : Value} {news' : List (Addr × Obj)} (h : BodyOut ns H C z cv cn rest r news') :
    ∃ T tl a pos' cur' seed' bud' t1' t2' t3' t4' n', TrIn tl (.ref a) T ∧ (∀ p ∈ tl, p.1 ≠ H) ∧ T.dep ≤ z.toNat + 2 ∧ HandOk ns pos' cur' seed' bud' ∧ r = .ref a ∧
        news' = (H, handO C pos' cur' seed' bud' t1' t2' t3' t4' n') :: (C, listOf cv.toArray cn) :: (tl ++ rest) := by
  obtain ⟨T, tl, pos', cur', seed', bud', t1', t2', t3', t4', n', R, off, dep, ok, e⟩ := h
  obtain ⟨a, rfl⟩ : ∃ a, r = .ref a := by cases R <;> exact ⟨_, rfl⟩
  exact ⟨T, tl, a, pos', cur', seed', bud', t1', t2', t3', t4', n', R, off, dep, ok, rfl, e⟩
theorem body_end {ns : List Int} {H C : Addr} {z : Int} {cv : List Value} {cn : Nat} {rest big : List (Addr × Obj)} {r : Value} {h₀ h' : Heap} {L : Addr} {m : Str → Option Value} {s : Shared} {tk' : Nat} {Q : Value → Shared → Prop}
    {T : Tr} {pos' cur' seed' bud' : Int} {t1' t2' t3' t4' : Tok} {n' : Nat}
    (hret : ∀ r news' h' tk', Fr h₀ L h' m → News h₀ L h' news' → BodyOut ns H C z cv cn rest r news' → Q r { s with heap := h', toks := tk' })
    (F : Fr h₀ L h' m) (N : News h₀ L h' big) (hH : (H, handO C pos' cur' seed' bud' t1' t2' t3' t4' n') ∈ big) (hC : (C, listOf cv.toArray cn) ∈ big) (hr : ∀ p ∈ rest, p ∈ big)
    (R : TrIn big r T) (hd' : T.dep ≤ z.toNat + 2) (ok : HandOk ns pos' cur' seed' bud') : Q r { s with heap := h', toks := tk' } := by
  refine hret r ((H, handO C pos' cur' seed' bud' t1' t2' t3' t4' n') :: (C, listOf cv.toArray cn) :: (off H big ++ rest)) h' tk' F (news_sub N ?_)
    ⟨T, off H big, _, _, _, _, _, _, _, _, _, R.off N hH (by show Value.type "list" ≠ Value.type "tuple"; decide), off_ne, hd', ok, rfl⟩
  intro p hp
  rcases List.mem_cons.mp hp with rfl | hp
  · exact hH
  rcases List.mem_cons.mp hp with rfl | hp
  · exact hC
  rcases List.mem_append.mp hp with hp | hp
  · exact off_sub p hp
  · exact hr p hp
end Mine
end

section
local macro_rules | `(tactic| walk_at $s:str) => `(tactic| k_extra $s)

section
open PySem PySem.W PyProof.Rows
set_option maxRecDepth 100000
namespace Mine
theorem fill4 : PySem.Challenge.rw_no0152_01 = PySem.Challenge.rw_no0152_01 ∧ hd.heap_39 = hd.heap_39 := by k_fill; exact ⟨rfl, rfl⟩
theorem pick_use {w : World} {H C : Addr} {lim pos cur seed bud : Int} {tl t1 t2 t3 t4 : Tok} {n cn : Nat} {cv : List Value} {ns : List Int} {rest : List (Addr × Obj)}
    (hc : IntsAre cv ns) (hCH : @LT.lt Nat _ C H) (hr : ∀ p ∈ rest, p.1 ≠ H) (ok : HandOk ns pos cur seed bud) (hlen : ns.length ≤ 63) (hl : 0 < lim) (hl2 : lim < 100) :
    Says w 147 [.ref H, .int lim tl] 2 60 ((H, handO C pos cur seed bud t1 t2 t3 t4 n) :: (C, listOf cv.toArray cn) :: rest) (PickOut ns H C lim bud t4 cv cn rest) := pick_says w hc hCH hr ok hl hl2 hlen

theorem TrIn.isRef {l : List (Addr × Obj)} {v : Value} {t : Tr} (h : TrIn l v t) : ∃ a, v = .ref a := by cases h <;> exact ⟨_, rfl⟩
theorem HandOk.dec {ns : List Int} {p c s b : Int} (h : HandOk ns p c s b) (hb : b ≠ 0) : HandOk ns p c s (b - 1) := by
  obtain ⟨a1, a2, a3, a4, a5, a6, a7⟩ := h
  exact ⟨a1, a2, a3, a4, a5, by omega, by omega⟩
def BodyIH (w : World) (ns : List Int) (H C : Addr) (cv : List Value) (cn : Nat) (z : Int) : Prop :=
  ∀ z', 0 ≤ z' → z' < z → ∀ (tz t1 t2 t3 t4 : Tok) (pos cur seed bud : Int) (n : Nat) (rest : List (Addr × Obj)), (∀ p ∈ rest, p.1 ≠ H) → HandOk ns pos cur seed bud →
    Says w 154 [.ref H, .int z' tz] (z'.toNat + 4) (200 + 60 * z'.toNat) ((H, handO C pos cur seed bud t1 t2 t3 t4 n) :: (C, listOf cv.toArray cn) :: rest) (BodyOut ns H C z' cv cn rest)
theorem BodyIH.use {w : World} {ns : List Int} {H C : Addr} {cv : List Value} {cn : Nat} {z z' : Int} {tz t1 t2 t3 t4 : Tok} {pos cur seed bud : Int} {n : Nat} {rest : List (Addr × Obj)} (IH : BodyIH w ns H C cv cn z) (h0 : 0 ≤ z') (h1 : z' < z)
    (hr : ∀ p ∈ rest, p.1 ≠ H) (ok : HandOk ns pos cur seed bud) : Says w 154 [.ref H, .int z' tz] (z'.toNat + 4) (200 + 60 * z'.toNat) ((H, handO C pos cur seed bud t1 t2 t3 t4 n) :: (C, listOf cv.toArray cn) :: rest) (BodyOut ns H C z' cv cn rest) :=
  IH z' h0 h1 _ _ _ _ _ _ _ _ _ _ _ hr ok
theorem sub5 {prog : Program} {w : World} {A : Around} {E : Value → Shared → Prop} {s : Shared} {Q : Value → Shared → Prop} {value slice : PySem.Expr} {l : Addr} {k : Int} {t : Tok} (h0 : 0 ≤ k) (h1 : k < 5)
    (c0 : wpAny (model prog w) A (subscriptTail value slice (.ref l) (.int 0 t)) Q E s) (c1 : wpAny (model prog w) A (subscriptTail value slice (.ref l) (.int 1 t)) Q E s)
    (c2 : wpAny (model prog w) A (subscriptTail value slice (.ref l) (.int 2 t)) Q E s) (c3 : wpAny (model prog w) A (subscriptTail value slice (.ref l) (.int 3 t)) Q E s)
    (c4 : wpAny (model prog w) A (subscriptTail value slice (.ref l) (.int 4 t)) Q E s) : wpAny (model prog w) A (subscriptTail value slice (.ref l) (.int k t)) Q E s := by
  have h : k = 0 ∨ k = 1 ∨ k = 2 ∨ k = 3 ∨ k = 4 := by omega
  rcases h with rfl | rfl | rfl | rfl | rfl <;> assumption
local macro_rules | `(tactic| walk_at "last subscriptTail") => `(tactic| (k_here; (with_reducible show wpAny _ _ (subscriptTail _ _ (Value.ref _) (Value.int _ _)) _ _ _); refine' sub5 ?c0 ?c1 ?_ ?_ ?_ ?_ ?_; (case c0 => assumption); (case c1 => assumption)))
local macro_rules | `(tactic| tb_start) => `(tactic| (refine' body_end (T := ?T) ?h ?F ?N ?H ?C ?r ?R ?d ?o; (case h => assumption); (case F => k_asm); (case N => k_asm); (case H => k_extra "mem4"); (case C => k_extra "mem4"); (case r => k_extra "sub4"); (case R => first | (refine' TrIn.v ?m1; (case m1 => k_extra "mem4")) | (refine' TrIn.a ?m1; (case m1 => k_extra "mem4")) | (refine' TrIn.i ?m1; (case m1 => k_extra "mem4")) | (refine' TrIn.no ?m1 ?m2 ?m3; (case m1 => k_extra "mem4"); (case m2 => k_extra "mem4"); (case m3 => first | (refine' TrIn.v ?m4; (case m4 => k_extra "mem4")) | (refine' TrIn.mono ?m5 ?m6; (case m5 => with_reducible assumption); (case m6 => k_extra "sub4")))) | (refine' TrIn.bin ?m1 ?m2 ?m3 ?m4; (case m1 => k_extra "mem4"); (case m2 => k_extra "mem4"); (case m3 => (refine' TrIn.mono ?m5 ?m6; (case m5 => with_reducible assumption); (case m6 => k_extra "sub4"))); (case m4 => (refine' TrIn.mono ?m5 ?m6; (case m5 => with_reducible assumption); (case m6 => k_extra "sub4"))))); (case o => assumption); (case d => (simp only [Tr.dep]; omega))))
theorem wordsC4 : True := by
  k_with_none
  k_with "call ref" => k_here; (with_reducible show wpAny _ _ (call (Value.ref 147) _) _ _ _); k_dflt (refine Says.go (by k_asm) (pick_use (by assumption) (by assumption) (by assumption) (by assumption) (by assumption) (by decide) (by decide)) (ret := ?_)); intro _ _ _ _ _ _ ho9; obtain ⟨_, _, _, _, _, _, _, _, _, rfl, _, _, _, rfl⟩ := ho9; (try dsimp only); (try k_fold)
  k_with "call ref" => k_here; (with_reducible show wpAny _ _ (call (Value.ref 154) _) _ _ _); k_dflt (refine Says.go (by first | k_asm | exact news_tl (by k_asm) | exact news_tl (news_tl (by k_asm))) (BodyIH.use (by assumption) (by omega) (by omega) (by first | assumption | exact List.forall_mem_append.mpr ⟨by assumption, by assumption⟩) (by first | assumption | exact HandOk.dec (by assumption) (by assumption))) (ret := ?_)); intro _ _ _ _ _ _ ho9; obtain ⟨_, _, _, _, _, _, _, _, _, _, _, _, _, _, _, _, rfl, rfl⟩ := BodyOut.open ho9; (try dsimp only); (try k_fold)
  trivial
theorem words4 : True := by
  k_with "mem4" => (with_reducible (repeat (first | exact List.mem_cons_self | refine List.mem_cons_of_mem _ ?_))); done
  k_with "sub4" => (intro p hp; simp only [List.mem_cons, List.mem_append, hp, or_true, true_or])
  trivial
set_option maxHeartbeats 8000000 in
theorem body_step (w : World) {H C : Addr} {z pos cur seed bud : Int} {tz t1 t2 t3 t4 : Tok} {n cn : Nat} {cv : List Value} {ns : List Int} {rest : List (Addr × Obj)}
    (hc : IntsAre cv ns) (hCH : @LT.lt Nat _ C H) (hr : ∀ p ∈ rest, p.1 ≠ H) (ok : HandOk ns pos cur seed bud) (hlen : ns.length ≤ 63) (hz : 0 ≤ z) (IH : BodyIH w ns H C cv cn z) :
    Says w 154 [.ref H, .int z tz] (z.toNat + 4) (200 + 60 * z.toNat) ((H, handO C pos cur seed bud t1 t2 t3 t4 n) :: (C, listOf cv.toArray cn) :: rest) (BodyOut ns H C z cv cn rest) := by
  intro loose mean mg mb dp un gd cn cs a ccd cl outer A₀ base h₀ L m s Q E B F X N T hk hdp hun hret
  refine wpAny_call ?_
  k_dflt ktr_enter
  k_steps
  all_goals tb_start
theorem body_says (w : World) {H C : Addr} {cn : Nat} {cv : List Value} {ns : List Int} (hc : IntsAre cv ns) (hCH : @LT.lt Nat _ C H) (hlen : ns.length ≤ 63) : ∀ z, BodyIH w ns H C cv cn z := by
  have all : ∀ k : Nat, ∀ z : Int, z.toNat ≤ k → BodyIH w ns H C cv cn z := by
    intro k
    induction k with
    | zero => intro z h z' h0 h1; exfalso; omega
    | succ k ih => intro z h z' h0 h1 tz t1 t2 t3 t4 pos cur seed bud n rest hr ok; exact body_step w hc hCH hr ok hlen h0 (ih z' (by omega))
  exact fun z => all _ z (Nat.le_refl _)
end Mine
end

section
open PySem PySem.W PyProof.Rows
set_option maxRecDepth 100000
namespace Mine

/-- the work that is left, the top at the head -/
inductive WorkIn (l : List (Addr × Obj)) : List Value → List (Bool × Tr) → Prop where
  | nil : WorkIn l [] []
  | push {wv : List Value} {ws : List (Bool × Tr)} {a : Addr} {b : Bool} {vx : Value} {T : Tr} {k : Nat} : WorkIn l wv ws → (a, tup #[.bool b, vx] k) ∈ l → TrIn l vx T → WorkIn l (wv ++ [.ref a]) ((b, T) :: ws)
inductive DoneIn (l : List (Addr × Obj)) : List Value → List Tr → Prop where
  | nil : DoneIn l [] []
  | push {dv : List Value} {ds : List Tr} {v : Value} {T : Tr} : DoneIn l dv ds → TrIn l v T → DoneIn l (dv ++ [v]) (T :: ds)
theorem WorkIn.mono {l l' : List (Addr × Obj)} {wv : List Value} {ws : List (Bool × Tr)} (h : WorkIn l wv ws) (hs : ∀ p ∈ l, p ∈ l') : WorkIn l' wv ws := by
  induction h with
  | nil => exact .nil
  | push _ hm hT ih => exact .push ih (hs _ hm) (hT.mono hs)
theorem DoneIn.mono {l l' : List (Addr × Obj)} {dv : List Value} {ds : List Tr} (h : DoneIn l dv ds) (hs : ∀ p ∈ l, p ∈ l') : DoneIn l' dv ds := by
  induction h with
  | nil => exact .nil
  | push _ hT ih => exact .push ih (hT.mono hs)
theorem WorkIn.length {l : List (Addr × Obj)} {wv : List Value} {ws : List (Bool × Tr)} (h : WorkIn l wv ws) : wv.length = ws.length := by
  induction h with
  | nil => rfl
  | push _ _ _ ih => rw [List.length_append, ih]; rfl
theorem DoneIn.length {l : List (Addr × Obj)} {dv : List Value} {ds : List Tr} (h : DoneIn l dv ds) : dv.length = ds.length := by
  induction h with
  | nil => rfl
  | push _ _ ih => rw [List.length_append, ih]; rfl
theorem WorkIn.off {h₀ h : Heap} {L H : Addr} {big : List (Addr × Obj)} {o : Obj} {wv : List Value} {ws : List (Bool × Tr)} (N : News h₀ L h big) (hH : (H, o) ∈ big) (ho : o.cls ≠ .type "tuple") (R : WorkIn big wv ws) : WorkIn (off H big) wv ws := by
  induction R with
  | nil => exact .nil
  | push _ hm hT ih => exact .push ih (off_mem hm (tup_ne N hH ho hm)) (hT.off N hH ho)
theorem DoneIn.off {h₀ h : Heap} {L H : Addr} {big : List (Addr × Obj)} {o : Obj} {dv : List Value} {ds : List Tr} (N : News h₀ L h big) (hH : (H, o) ∈ big) (ho : o.cls ≠ .type "tuple") (R : DoneIn big dv ds) : DoneIn (off H big) dv ds := by
  induction R with
  | nil => exact .nil
  | push _ hT ih => exact .push ih (hT.off N hH ho)

def Canon (D W : Addr) (u : Str → Option Value) : Str → Option Value := fun y => if y = Str.ofString "done" then some (.ref D) else if y = Str.ofString "work" then some (.ref W) else u y
theorem canon_of {D W : Addr} {m : Str → Option Value} (h1 : m (Str.ofString "done") = some (.ref D)) (h2 : m (Str.ofString "work") = some (.ref W)) : m = Canon D W m := by
  funext y
  unfold Canon
  by_cases a : y = Str.ofString "done"
  · rw [if_pos a, a, h1]
  · rw [if_neg a]
    by_cases b : y = Str.ofString "work"
    · rw [if_pos b, b, h2]
    · rw [if_neg b]

section
variable {prog : Program} {w : World} {A : Around} {env : Env} {test : PySem.Expr} {body orelse : List Stmt} {Q : Flow → Shared → Prop} {s : Shared} {h₀ : Heap} {L D W : Addr} {news : List (Addr × Obj)}

/-- from every state whose lists say ws and ds the loop goes well -/
def LoopOk (prog : Program) (w : World) (A : Around) (env : Env) (test : PySem.Expr) (body orelse : List Stmt) (Q : Flow → Shared → Prop) (s : Shared) (h₀ : Heap) (L D W : Addr) (news : List (Addr × Obj)) (ws : List (Bool × Tr)) (ds : List Tr) : Prop :=
  ∀ (h : Heap) (tk : Nat) (u : Str → Option Value) (wv dv : List Value) (nw nd : Nat) (l : List (Addr × Obj)), Fr h₀ L h (Canon D W u) → News h₀ L h ((W, listOf wv.toArray nw) :: (D, listOf dv.toArray nd) :: l) → (∀ p ∈ l, p.1 ≠ D) → (∀ p ∈ l, p.1 ≠ W) → D ≠ W →
    (∀ p ∈ news, p ∈ l) → WorkIn l wv ws → DoneIn l dv ds → WhlRest prog w A (fun _ _ => False) env test body orelse Q 0 { s with heap := h, toks := tk }

/-- what one turn has to show -/
def Turn (prog : Program) (w : World) (A : Around) (env : Env) (test : PySem.Expr) (body orelse : List Stmt) (Q : Flow → Shared → Prop) (s : Shared) : Prop :=
  wpAny (model prog w) A (isTrue test env (eval test env)) (fun b s₂ => WhlIf b (wpAny (model prog w) A (execs body env) (WhlPost prog w A (fun _ _ => False) env test body orelse Q 0) (fun _ _ => False) s₂) (wpAny (model prog w) A (execs orelse env) Q (fun _ _ => False) s₂)) (fun _ _ => False) s
theorem Turn.rest (h : Turn prog w A env test body orelse Q s) : WhlRest prog w A (fun _ _ => False) env test body orelse Q 0 s := whl_turn PassesOwn.never h

theorem LoopOk.go {ws : List (Bool × Tr)} {ds : List Tr} (K : LoopOk prog w A env test body orelse Q s h₀ L D W news ws ds) {h : Heap} {tk : Nat} {m : Str → Option Value} {big : List (Addr × Obj)} {wa da : Array Value} {nw nd : Nat}
    (F : Fr h₀ L h m) (h1 : m (Str.ofString "done") = some (.ref D)) (h2 : m (Str.ofString "work") = some (.ref W)) (N : News h₀ L h big) (hW : (W, listOf wa nw) ∈ big) (hD : (D, listOf da nd) ∈ big) (hDW : D ≠ W)
    (hn : ∀ p ∈ news, p ∈ big) (hnD : ∀ p ∈ news, p.1 ≠ D) (hnW : ∀ p ∈ news, p.1 ≠ W) (R : WorkIn big wa.toList ws) (S : DoneIn big da.toList ds) : WhlRest prog w A (fun _ _ => False) env test body orelse Q 0 { s with heap := h, toks := tk } := by
  have c : Value.type "list" ≠ Value.type "tuple" := by decide
  rw [canon_of h1 h2] at F
  have NW : News h₀ L h (off W big) := news_sub N off_sub
  have hD' : (D, listOf da nd) ∈ off W big := off_mem hD hDW
  refine K h tk m wa.toList da.toList nw nd (off D (off W big)) F ?_ off_ne (fun p hp => off_ne p (off_sub p hp)) hDW (fun p hp => off_mem (off_mem (hn p hp) (hnW p hp)) (hnD p hp)) ((R.off N hW c).off NW hD' c) ((S.off N hW c).off NW hD' c)
  intro p hp
  rcases List.mem_cons.mp hp with rfl | hp
  · exact N _ hW
  rcases List.mem_cons.mp hp with rfl | hp
  · exact N _ hD
  · exact N p (off_sub p (off_sub p hp))

def wt : Tr → Nat
  | .v _ => 3
  | .a _ => 3
  | .i _ => 3
  | .no _ => 3
  | .ca _ => 3
  | .hd _ _ => 3
  | .bin _ x y => wt x + wt y + 4
theorem wt_pos : ∀ t : Tr, 3 ≤ wt t
  | .v _ => Nat.le_refl _
  | .a _ => Nat.le_refl _
  | .i _ => Nat.le_refl _
  | .no _ => Nat.le_refl _
  | .ca _ => Nat.le_refl _
  | .hd _ _ => Nat.le_refl _
  | .bin _ x y => by simp only [wt]; omega
theorem wt_dep : ∀ t : Tr, wt t + 4 ≤ 7 * 2 ^ t.dep
  | .v _ => by simp [wt, Tr.dep]
  | .a _ => by simp [wt, Tr.dep]
  | .i _ => by simp [wt, Tr.dep]
  | .no x => by
    have := Nat.one_le_two_pow (n := x.dep)
    simp only [wt, Tr.dep, Nat.pow_succ]; omega
  | .ca x => by
    have := Nat.one_le_two_pow (n := x.dep)
    simp only [wt, Tr.dep, Nat.pow_succ]; omega
  | .hd _ x => by
    have := Nat.one_le_two_pow (n := x.dep)
    simp only [wt, Tr.dep, Nat.pow_succ]; omega
  | .bin _ x y => by
    have h1 := wt_dep x
    have h2 := wt_dep y
    have a1 : 2 ^ x.dep ≤ 2 ^ max x.dep y.dep := Nat.pow_le_pow_right (by decide) (Nat.le_max_left ..)
    have a2 : 2 ^ y.dep ≤ 2 ^ max x.dep y.dep := Nat.pow_le_pow_right (by decide) (Nat.le_max_right ..)
    simp only [wt, Tr.dep, Nat.pow_succ]; omega

def plainT : Tr → Prop
  | .v _ => False
  | .bin f _ _ => ¬(f = 1 ∨ f = 2 ∨ f = 3)
  | _ => True

theorem loop_push
    (turnV : ∀ n ws ds, ws.length + ds.length ≤ 100000 → LoopOk prog w A env test body orelse Q s h₀ L D W news ws (.ca (.v n) :: ds) → LoopOk prog w A env test body orelse Q s h₀ L D W news ((false, .v n) :: ws) ds)
    (turnP : ∀ T ws ds, plainT T → ws.length + ds.length ≤ 100000 → LoopOk prog w A env test body orelse Q s h₀ L D W news ws (T :: ds) → LoopOk prog w A env test body orelse Q s h₀ L D W news ((false, T) :: ws) ds)
    (turnC : ∀ f x y ws ds, (f = 1 ∨ f = 2 ∨ f = 3) → ws.length + ds.length ≤ 100000 → LoopOk prog w A env test body orelse Q s h₀ L D W news ((false, x) :: (false, y) :: (true, .bin f x y) :: ws) ds → LoopOk prog w A env test body orelse Q s h₀ L D W news ((false, .bin f x y) :: ws) ds)
    (turnR : ∀ f x y x' y' ws ds, ws.length + ds.length ≤ 100000 → LoopOk prog w A env test body orelse Q s h₀ L D W news ws (.bin f x' y' :: ds) → LoopOk prog w A env test body orelse Q s h₀ L D W news ((true, .bin f x y) :: ws) (y' :: x' :: ds)) :
    ∀ (T : Tr) ws ds, ws.length + ds.length + wt T ≤ 100000 → LoopOk prog w A env test body orelse Q s h₀ L D W news ws (T.keep :: ds) → LoopOk prog w A env test body orelse Q s h₀ L D W news ((false, T) :: ws) ds
  | .v n, ws, ds, hb, K => turnV n ws ds (by omega) K
  | .a n, ws, ds, hb, K => turnP _ ws ds trivial (by omega) K
  | .i n, ws, ds, hb, K => turnP _ ws ds trivial (by omega) K
  | .no x, ws, ds, hb, K => turnP _ ws ds trivial (by omega) K
  | .ca x, ws, ds, hb, K => turnP _ ws ds trivial (by omega) K
  | .hd n x, ws, ds, hb, K => turnP _ ws ds trivial (by omega) K
  | .bin f x y, ws, ds, hb, K => by
    have hx := wt_pos x
    have hy := wt_pos y
    simp only [wt] at hb
    by_cases h : f = 1 ∨ f = 2 ∨ f = 3
    · simp only [Tr.keep, if_pos h] at K
      refine turnC f x y ws ds h (by omega) (loop_push turnV turnP turnC turnR x _ ds (by simp only [List.length_cons]; omega) (loop_push turnV turnP turnC turnR y _ _ (by simp only [List.length_cons]; omega) ?_))
      exact turnR f x y _ _ ws ds (by omega) K
    · simp only [Tr.keep, if_neg h] at K
      exact turnP _ ws ds h (by omega) K
end
end Mine
end

section
local macro_rules | `(tactic| k_mem) => `(tactic| first | exact List.mem_cons_self | (refine List.mem_cons_of_mem _ ?_; k_mem) | (with_reducible assumption))

section
open PySem PySem.W PyProof.Rows
set_option maxRecDepth 100000
namespace Mine
theorem fill6 : PySem.Challenge.rw_no0152_01 = PySem.Challenge.rw_no0152_01 ∧ hd.heap_39 = hd.heap_39 := by k_fill; exact ⟨rfl, rfl⟩
def Hold (P : Prop) : Prop := P
theorem hold_of {P : Prop} (h : Hold P) : P := h
local macro_rules | `(tactic| walk_at "exec While Compare cons nil") => `(tactic| (refine hold_of ?_))

theorem hold_in {P : Prop} (h : P) : Hold P := h
section
variable {prog : Program} {w : World} {A : Around} {E : Value → Shared → Prop} {s : Shared} {h₀ : Heap} {L D : Addr} {m : Str → Option Value} {news news' : List (Addr × Obj)} {n : Nat}
theorem len_snoc {p : List Value} {y : Value} {Q : Value → Shared → Prop} (N : News h₀ L s.heap news) (hm : (D, listOf (p ++ [y]).toArray n) ∈ news) (hb : p.length ≤ 100000)
    (h : Q (.int ((p.length : Int) + 1) (s.toks + 1)) { s with toks := s.toks + 1 + 1 }) : wpAny (model prog w) A (call (.builtin "len") [.ref D]) Q E s := by
  have hl : s.heap.IsList D (p ++ [y]).toArray := ⟨_, (N _ hm).1, rfl, n, rfl⟩
  have e : (((p ++ [y]).toArray.size : Nat) : Int) = (p.length : Int) + 1 := by simp
  exact len_list hl (by rw [e]; omega) (by rw [e]; exact h)
theorem pop_snoc {p : List Value} {y : Value} {Q : Value → Shared → Prop} (F : Fr h₀ L s.heap m) (N : News h₀ L s.heap news) (U : Upd D (listOf (p ++ [y]).toArray n) (listOf p.toArray (n + 1)) news news') (hb : p.length ≤ 200000)
    (h : ∀ h', Fr h₀ L h' m → News h₀ L h' news' → Q y { s with heap := h' }) : wpAny (model prog w) A (call (.builtin "list.pop") [.ref D]) Q E s :=
  kl_pop F N (kpa_last y p) U (by show (p ++ [y]).length ≤ sizeLine; rw [List.length_append, PySem.sizeLine_eq]; simp only [List.length_cons, List.length_nil]; omega) h
theorem append_any {its : Array Value} {x : Value} {Q : Value → Shared → Prop} (F : Fr h₀ L s.heap m) (N : News h₀ L s.heap news) (U : Upd D (listOf its n) (listOf (its.push x) (n + 1)) news news') (hb : its.size ≤ 200000)
    (h : ∀ h', Fr h₀ L h' m → News h₀ L h' news' → Q .none { s with heap := h' }) : wpAny (model prog w) A (call (.builtin "list.append") [.ref D, x]) Q E s :=
  append_K F N U h (by rw [PySem.sizeLine_eq]; omega)
end
local macro_rules | `(tactic| walk_at "WhlRest") => `(tactic| (refine hold_of ?_))
local macro_rules | `(tactic| walk_at "WhlIf") => `(tactic| first | (refine WhlIf.yes (decide_eq_true (by omega)) ?_) | (refine WhlIf.no (decide_eq_false (by omega)) ?_))
theorem wordsC6 : True := by
  k_with_none
  k_with "call builtin:len" => k_here; (with_reducible show wpAny _ _ (call (Value.builtin "len") [Value.ref _]) _ _ _); k_dflt (refine len_snoc (by k_asm) (by k_mem) (by omega) ?_)
  k_with "call builtin:list.pop" => k_here; (with_reducible show wpAny _ _ (call (Value.builtin "list.pop") [Value.ref _]) _ _ _); k_dflt (refine pop_snoc (by k_asm) (by k_asm) (by k_upd) (by first | omega | (simp only [List.length_append, List.length_cons, List.length_nil]; omega)) ?_); intro _ _ _
  k_with "call builtin:list.append" => k_here; (with_reducible show wpAny _ _ (call (Value.builtin "list.append") [Value.ref _, _]) _ _ _); k_dflt (refine append_any (by k_asm) (by k_asm) (by k_upd) (by simp only [Array.size_push, List.size_toArray]; omega) ?_); intro _ _ _
  trivial
set_option maxHeartbeats 4000000 in
theorem sbody_says (w : World) {a0 : Addr} {T0 : Tr} {news : List (Addr × Obj)} (R0 : TrIn news (.ref a0) T0) (hT : T0.dep ≤ 12) :
    Says w 133 [.ref a0] 4 300 news (fun r news' => ∃ tl, news' = tl ++ news ∧ TrIn news' r T0.keep) := by
  intro loose mean mg mb dp un gd cn cs a ccd cl outer A₀ base h₀ L m s Q E B F X N T hk hdp hun hret
  refine wpAny_call ?_
  k_dflt ktr_enter
  k_steps
  rename_i Da _ lD _ _ It _ lI Wa _ lW h1 F1 N1
  refine hold_in (wpAny_noRaise (whl_start 0 ?_))
  have hnD : ∀ p ∈ news, p.1 ≠ Da := fun p hp => Nat.ne_of_lt (lD p hp)
  have hnW : ∀ p ∈ news, p.1 ≠ Wa := fun p hp => Nat.ne_of_lt (tb_ltOf lW.2.2 p hp)
  have hDW : Da ≠ Wa := Nat.ne_of_lt lW.2.1
  refine LoopOk.go (ds := []) (ws := [(false, T0)]) (s := s) (loop_push ?tV ?tP ?tC ?tR T0 [] [] ?hb ?fin) F1 rfl rfl (news := news) N1 (.head _) (.tail _ (.tail _ (.head _))) hDW (fun p hp => .tail _ (.tail _ (.tail _ hp))) hnD hnW (WorkIn.push (wv := []) .nil (.tail _ (.head _)) (R0.mono fun p hp => .tail _ (.tail _ (.tail _ hp)))) .nil
  case hb => 
    have := wt_dep T0
    have h2 : 2 ^ T0.dep ≤ 2 ^ 12 := Nat.pow_le_pow_right (by decide) hT
    simp only [List.length_nil]; omega
  case tV =>
    clear F1 N1 lD lI lW
    intro n ws ds hb K h tk u wv dv nw nd l F N hD hW hDW' sub RW RD
    have hDW2 : @Ne Nat Da Wa := hDW'
    have e1 := RW.length
    have e2 := RD.length
    simp only [List.length_cons] at e1
    cases RW with
    | push RW hm RT =>
      simp only [List.length_append, List.length_cons, List.length_nil] at e1
      cases RT with
      | v hx =>
        refine Turn.rest ?_
        unfold Turn
        k_steps
        all_goals (refine hold_in (LoopOk.go K (by k_asm) (by exact rfl) (by exact rfl) (by k_asm) (by k_mem) (by k_mem) hDW (fun p hp => by have h9 := sub p hp; simp only [List.mem_cons, h9, or_true]) hnD hnW (by exact RW.mono (fun p hp => by simp only [List.mem_cons, hp, or_true])) (by simp only [Array.toList_push]; exact DoneIn.push (RD.mono (fun p hp => by simp only [List.mem_cons, hp, or_true])) (TrIn.ca (by k_mem) (by k_mem) (TrIn.v (by k_mem))))))
  case tP =>
    clear F1 N1 lD lI lW
    intro T ws ds hT hb K h tk u wv dv nw nd l F N hD hW hDW' sub RW RD
    have hDW2 : @Ne Nat Da Wa := hDW'
    have e1 := RW.length
    have e2 := RD.length
    simp only [List.length_cons] at e1
    cases RW with
    | push RW hm RT =>
      simp only [List.length_append, List.length_cons, List.length_nil] at e1
      have RT' := RT
      cases RT with
      | v hx => exact hT.elim
      | a hx =>
        refine Turn.rest ?_
        unfold Turn
        k_steps
        all_goals first | (exfalso; rename (List.any _ _ = _) => hx9; simp only [List.any_cons, List.any_nil, Bool.or_false, Bool.or_eq_true, beq_iff_eq, Bool.or_eq_false_iff, beq_eq_false_iff_ne] at hx9; omega) | (refine hold_in (LoopOk.go K (by k_asm) (by exact rfl) (by exact rfl) (by k_asm) (by k_mem) (by k_mem) hDW (fun p hp => by have h9 := sub p hp; simp only [List.mem_cons, h9, or_true]) hnD hnW (by exact RW.mono (fun p hp => by simp only [List.mem_cons, hp, or_true])) (by simp only [Array.toList_push]; exact DoneIn.push (RD.mono (fun p hp => by simp only [List.mem_cons, hp, or_true])) (RT'.mono (fun p hp => by simp only [List.mem_cons, hp, or_true])))))
      | i hx =>
        refine Turn.rest ?_
        unfold Turn
        k_steps
        all_goals first | (exfalso; rename (List.any _ _ = _) => hx9; simp only [List.any_cons, List.any_nil, Bool.or_false, Bool.or_eq_true, beq_iff_eq, Bool.or_eq_false_iff, beq_eq_false_iff_ne] at hx9; omega) | (refine hold_in (LoopOk.go K (by k_asm) (by exact rfl) (by exact rfl) (by k_asm) (by k_mem) (by k_mem) hDW (fun p hp => by have h9 := sub p hp; simp only [List.mem_cons, h9, or_true]) hnD hnW (by exact RW.mono (fun p hp => by simp only [List.mem_cons, hp, or_true])) (by simp only [Array.toList_push]; exact DoneIn.push (RD.mono (fun p hp => by simp only [List.mem_cons, hp, or_true])) (RT'.mono (fun p hp => by simp only [List.mem_cons, hp, or_true])))))
      | no hx hy R1 =>
        refine Turn.rest ?_
        unfold Turn
        k_steps
        all_goals first | (exfalso; rename (List.any _ _ = _) => hx9; simp only [List.any_cons, List.any_nil, Bool.or_false, Bool.or_eq_true, beq_iff_eq, Bool.or_eq_false_iff, beq_eq_false_iff_ne] at hx9; omega) | (refine hold_in (LoopOk.go K (by k_asm) (by exact rfl) (by exact rfl) (by k_asm) (by k_mem) (by k_mem) hDW (fun p hp => by have h9 := sub p hp; simp only [List.mem_cons, h9, or_true]) hnD hnW (by exact RW.mono (fun p hp => by simp only [List.mem_cons, hp, or_true])) (by simp only [Array.toList_push]; exact DoneIn.push (RD.mono (fun p hp => by simp only [List.mem_cons, hp, or_true])) (RT'.mono (fun p hp => by simp only [List.mem_cons, hp, or_true])))))
      | ca hx hy R1 =>
        refine Turn.rest ?_
        unfold Turn
        k_steps
        all_goals first | (exfalso; rename (List.any _ _ = _) => hx9; simp only [List.any_cons, List.any_nil, Bool.or_false, Bool.or_eq_true, beq_iff_eq, Bool.or_eq_false_iff, beq_eq_false_iff_ne] at hx9; omega) | (refine hold_in (LoopOk.go K (by k_asm) (by exact rfl) (by exact rfl) (by k_asm) (by k_mem) (by k_mem) hDW (fun p hp => by have h9 := sub p hp; simp only [List.mem_cons, h9, or_true]) hnD hnW (by exact RW.mono (fun p hp => by simp only [List.mem_cons, hp, or_true])) (by simp only [Array.toList_push]; exact DoneIn.push (RD.mono (fun p hp => by simp only [List.mem_cons, hp, or_true])) (RT'.mono (fun p hp => by simp only [List.mem_cons, hp, or_true])))))
      | hd hn hx hy R1 =>
        refine Turn.rest ?_
        unfold Turn
        k_steps
        all_goals first | (exfalso; rename (List.any _ _ = _) => hx9; simp only [List.any_cons, List.any_nil, Bool.or_false, Bool.or_eq_true, beq_iff_eq, Bool.or_eq_false_iff, beq_eq_false_iff_ne] at hx9; omega) | (refine hold_in (LoopOk.go K (by k_asm) (by exact rfl) (by exact rfl) (by k_asm) (by k_mem) (by k_mem) hDW (fun p hp => by have h9 := sub p hp; simp only [List.mem_cons, h9, or_true]) hnD hnW (by exact RW.mono (fun p hp => by simp only [List.mem_cons, hp, or_true])) (by simp only [Array.toList_push]; exact DoneIn.push (RD.mono (fun p hp => by simp only [List.mem_cons, hp, or_true])) (RT'.mono (fun p hp => by simp only [List.mem_cons, hp, or_true])))))
      | bin hx hy R1 R2 =>
        simp only [plainT] at hT
        refine Turn.rest ?_
        unfold Turn
        k_steps
        all_goals first | (exfalso; rename (List.any _ _ = _) => hx9; simp only [List.any_cons, List.any_nil, Bool.or_false, Bool.or_eq_true, beq_iff_eq, Bool.or_eq_false_iff, beq_eq_false_iff_ne] at hx9; omega) | (refine hold_in (LoopOk.go K (by k_asm) (by exact rfl) (by exact rfl) (by k_asm) (by k_mem) (by k_mem) hDW (fun p hp => by have h9 := sub p hp; simp only [List.mem_cons, h9, or_true]) hnD hnW (by exact RW.mono (fun p hp => by simp only [List.mem_cons, hp, or_true])) (by simp only [Array.toList_push]; exact DoneIn.push (RD.mono (fun p hp => by simp only [List.mem_cons, hp, or_true])) (RT'.mono (fun p hp => by simp only [List.mem_cons, hp, or_true])))))
  case tC =>
    clear F1 N1 lD lI lW
    intro f x y ws ds hf hb K h tk u wv dv nw nd l F N hD hW hDW' sub RW RD
    have hDW2 : @Ne Nat Da Wa := hDW'
    have e1 := RW.length
    have e2 := RD.length
    simp only [List.length_cons] at e1
    cases RW with
    | push RW hm RT =>
      simp only [List.length_append, List.length_cons, List.length_nil] at e1
      have RT' := RT
      cases RT with
      | bin hx hy R1 R2 =>
        refine Turn.rest ?_
        unfold Turn
        k_steps
        all_goals first | (exfalso; rename (List.any _ _ = _) => hx9; simp only [List.any_cons, List.any_nil, Bool.or_false, Bool.or_eq_true, beq_iff_eq, Bool.or_eq_false_iff, beq_eq_false_iff_ne] at hx9; omega) | (refine hold_in (LoopOk.go K (by k_asm) (by exact rfl) (by exact rfl) (by k_asm) (by k_mem) (by k_mem) hDW (fun p hp => by have h9 := sub p hp; simp only [List.mem_cons, h9, or_true]) hnD hnW (by simp only [Array.toList_push]; exact WorkIn.push (WorkIn.push (WorkIn.push (RW.mono (fun p hp => by simp only [List.mem_cons, hp, or_true])) (by k_mem) (RT'.mono (fun p hp => by simp only [List.mem_cons, hp, or_true]))) (by k_mem) (R2.mono (fun p hp => by simp only [List.mem_cons, hp, or_true]))) (by k_mem) (R1.mono (fun p hp => by simp only [List.mem_cons, hp, or_true]))) (by exact RD.mono (fun p hp => by simp only [List.mem_cons, hp, or_true]))))
  case tR =>
    clear F1 N1 lD lI lW
    intro f x y x' y' ws ds hb K h tk u wv dv nw nd l F N hD hW hDW' sub RW RD
    have hDW2 : @Ne Nat Da Wa := hDW'
    have e1 := RW.length
    have e2 := RD.length
    simp only [List.length_cons] at e1
    cases RW with
    | push RW hm RT =>
      simp only [List.length_append, List.length_cons, List.length_nil] at e1
      cases RD with
      | push RD R2 =>
        cases RD with
        | push RD R1 =>
          simp only [List.length_append, List.length_cons, List.length_nil] at e2
          cases RT with
          | bin hx hy _ _ =>
            refine Turn.rest ?_
            unfold Turn
            k_steps
            all_goals (refine hold_in (LoopOk.go K (by k_asm) (by exact rfl) (by exact rfl) (by k_asm) (by k_mem) (by k_mem) hDW (fun p hp => by have h9 := sub p hp; simp only [List.mem_cons, h9, or_true]) hnD hnW (by exact RW.mono (fun p hp => by simp only [List.mem_cons, hp, or_true])) (by simp only [Array.toList_push]; exact DoneIn.push (RD.mono (fun p hp => by simp only [List.mem_cons, hp, or_true])) (TrIn.bin (by k_mem) (by k_mem) (R1.mono (fun p hp => by simp only [List.mem_cons, hp, or_true])) (R2.mono (fun p hp => by simp only [List.mem_cons, hp, or_true]))))))
  case fin =>
    clear F1 N1 lD lI lW
    intro h tk u wv dv nw nd l F N hD hW hDW' sub RW RD
    have hDW2 : @Ne Nat Da Wa := hDW'
    cases RW with
    | nil =>
      cases RD with
      | push RD R1 =>
        cases RD with
        | nil =>
          obtain ⟨r1, er1⟩ := TrIn.isRef R1
          subst er1
          simp only [List.nil_append] at N
          refine Turn.rest ?_
          unfold Turn
          k_steps
          refine hret _ (l ++ news) _ _ (by k_asm) (news_sub (big := (Wa, listOf #[] nw) :: (Da, listOf #[Value.ref r1] nd) :: l) (by k_asm) ?_) ⟨l, rfl, R1.mono fun p hp => List.mem_append.mpr (.inl hp)⟩
          intro p hp
          rcases List.mem_append.mp hp with hp | hp
          · exact .tail _ (.tail _ hp)
          · exact .tail _ (.tail _ (sub p hp))
end Mine
end

section
open PySem PySem.W PyProof.Rows PySem.Spec PySem.Calls
set_option maxRecDepth 100000
namespace Mine

section
variable {prog : Program} {w : World} {A : Around} {E : Value → Shared → Prop} {s : Shared} {h₀ : Heap} {L : Addr} {m : Str → Option Value} {env : Env}
def TupHere (ax : Addr) (its : Array Value) (k : Nat) (news : List (Addr × Obj)) : Prop := (ax, tup its k) ∈ news
theorem TupHere.isTuple {h : Heap} {ax : Addr} {its : Array Value} {k : Nat} {news : List (Addr × Obj)} (x : TupHere ax its k news) (N : News h₀ L h news) : h.IsTuple ax its := N.isTup x
/-- what stands when the iterable of a comprehension over a tuple is reached -/
def TupSrc (prog : Program) (w : World) (A : Around) (h₀ : Heap) (L : Addr) (m : Str → Option Value) (env : Env) (elt : PySem.Expr) (x : Str) (scope : Scope) (cl : List (Str × Addr)) (Q : Value → Shared → Prop) (xv : Value) (s₁ : Shared) : Prop :=
  ∃ ax its k news, xv = .ref ax ∧ A.handled = none ∧ Fr h₀ L s₁.heap m ∧ News h₀ L s₁.heap news ∧ TupHere ax its k news ∧ its.size ≤ sizeLine ∧
    ∀ g : Heap, LCg.CompRest prog w A h₀ L m env elt x scope cl { s₁ with heap := g } (TupHere ax its k) (fun i v => its[i]? = some v) (LCg.FinE h₀ L m { s₁ with heap := g } Q) its.size 0 [] news

theorem tup_st {ax I : Addr} {its : Array Value} {k : Nat} : ∀ i (h h' : Heap) (o : Obj) (nw : List (Addr × Obj)), (h.IsTupleIter I ax i ∧ h.IsTuple ax its) → h.get? I = some o → h'.get? I = some o → (∀ b o, h₀.get? b = some o → h'.get? b = some o) → News h₀ L h' nw → TupHere ax its k nw → (h'.IsTupleIter I ax i ∧ h'.IsTuple ax its) :=
  fun i h h' o nw st e e' _ N S => ⟨by obtain ⟨o', q, r⟩ := st.1; rw [e] at q; cases q; exact ⟨o, e', r⟩, S.isTuple N⟩

theorem ListComp_tup {elt iter : PySem.Expr} {x : Str} {px : Pos} {scope : Scope} {cl : List (Str × Addr)} {pos : Pos} {Q : Value → Shared → Prop} (_F₀ : Fr h₀ L s.heap m)
    (hclos : closureFor scope env = pure cl) (hcell : ∀ y ∈ scope.names, y.2 ≠ .cell) (hkind : scope.kind = .function)
    (hnames : ∀ y ∈ scope.names, y.2 = .local → scope.names.lookup y.1 = some .local) (hx : scope.names.lookup x = some .local)
    (h : wpAny (model prog w) A (eval iter env) (TupSrc prog w A h₀ L m env elt x scope cl Q) E s)
    (hs : ∀ x, foldedSetIterable iter env x = pure x := by intro _; rfl) :
    wpAny (model prog w) A (eval (.ListComp elt [⟨.Name x px, iter, [], 0⟩] scope pos) env) Q E s := by
  rw [eval_ListComp]
  refine wpAny_comprehension_free (use := none) rfl hs hclos hkind hnames (wpAny_mono h (fun xv s₁ h₁ => ?_) fun _ _ e => e)
  obtain ⟨ax, its, k, news, rfl, hh, F, N, S, hsz, R⟩ := h₁
  have hl := S.isTuple N
  have hlt : ax < s₁.heap.objs.size := by obtain ⟨_, e, _⟩ := hl; exact Heap.lt_size e
  refine wpAny_pyIter_tuple hl ?_
  have up : ∀ b o, s₁.heap.get? b = some o → (s₁.heap.push { cls := .type "tuple_iterator", data := .fields #[.ref ax, .int 0 0] }).get? b = some o := fun b o e => Heap.get?_push_of_some _ e
  refine LCg.block_U (Walks.tuple hh s₁.heap.objs.size ax (Nat.ne_of_lt hlt) its) hsz (fun i h st => by obtain ⟨o, e, _⟩ := st.1; exact ⟨o, e⟩) tup_st hcell hkind hx ⟨⟨_, Heap.get?_push_size _ rfl, rfl, rfl⟩, hl.at fun o e => up _ o e⟩ (fun b hb => ?_)
    (F.keeps up) (N.grown up) (Nat.ne_of_lt F.ns.lt) (next_is_new F) (fun p hp => Nat.ne_of_lt (Heap.lt_size (N p hp).1)) S (R _) ?_
  · show b < (s₁.heap.push _).objs.size
    rw [Heap.size_push]
    rcases List.mem_cons.mp hb with rfl | hb
    · exact Nat.lt_succ_self _
    · rw [List.mem_singleton.mp hb]; exact Nat.lt_succ_of_lt hlt
  · intro D C h tk m' ys news' F' N' o1 hn hC₀ hD₀ hCL hDL hCD offC fin
    refine ⟨m', hn, fun h'' hs'' => fin D h'' tk (F'.change hs'' hCL hC₀) (fun p hp => ?_) o1⟩
    refine ⟨hs''.extBut _ _ ?_ (N' p hp).1, (N' p hp).2⟩
    rcases List.mem_cons.mp hp with rfl | hp
    · exact Ne.symm hCD
    · exact offC p hp
end

/-- what was made lies above what stood -/
def Fresh (tl news : List (Addr × Obj)) : Prop := ∀ q ∈ news, ∀ p ∈ tl, @LT.lt Nat _ q.1 p.1
def KeptOut (T : Tr) (base news : List (Addr × Obj)) (r : Value) (news' : List (Addr × Obj)) : Prop := ∃ tl, news' = tl ++ news ∧ Fresh tl news ∧ TrIn (tl ++ base) r T.keep
def KeptP (w : World) (T : Tr) : Prop := ∀ (a : Addr) (base news : List (Addr × Obj)), TrIn base (.ref a) T → (∀ p ∈ base, p ∈ news) → Says w 159 [.ref a] (T.dep + 4) (300 + 60 * T.dep) news (KeptOut T base news)
theorem KeptP.use {w : World} {T : Tr} {a : Addr} {base news : List (Addr × Obj)} (K : KeptP w T) (R : TrIn base (.ref a) T) (hs : ∀ p ∈ base, p ∈ news) : Says w 159 [.ref a] (T.dep + 4) (300 + 60 * T.dep) news (KeptOut T base news) := K a base news R hs
theorem KeptP.use2 {w : World} {T : Tr} {a : Addr} {base news₀ news : List (Addr × Obj)} (K : KeptP w T) (R : TrIn base (.ref a) T) (hs : ∀ p ∈ base, p ∈ news₀) (hs2 : ∀ p ∈ news₀, p ∈ news) : Says w 159 [.ref a] (T.dep + 4) (300 + 60 * T.dep) news (KeptOut T base news) := K a base news R fun p hp => hs2 p (hs p hp)
theorem KeptP.use3 {w : World} {T : Tr} {a : Addr} {base news₀ news : List (Addr × Obj)} (R : TrIn base (.ref a) T) (K : KeptP w T) (hs : ∀ p ∈ base, p ∈ news₀) (hs2 : ∀ p ∈ news₀, p ∈ news) : Says w 159 [.ref a] (T.dep + 4) (300 + 60 * T.dep) news (KeptOut T base news) := K.use2 R hs hs2
theorem KeptOut.open {T : Tr} {base news : List (Addr × Obj)} {r : Value} {news' : List (Addr × Obj)} (h : KeptOut T base news r news') : ∃ tl a, Fresh tl news ∧ TrIn (tl ++ base) (.ref a) T.keep ∧ r = .ref a ∧ news' = tl ++ news := by
  obtain ⟨tl, e, f, R⟩ := h
  obtain ⟨a, rfl⟩ := TrIn.isRef R
  exact ⟨tl, a, f, R, rfl, e⟩
theorem sbody_open {T : Tr} {news : List (Addr × Obj)} {r : Value} {news' : List (Addr × Obj)} (h : ∃ tl, news' = tl ++ news ∧ TrIn news' r T.keep) : ∃ tl a, TrIn (tl ++ news) (.ref a) T.keep ∧ r = .ref a ∧ news' = tl ++ news := by
  obtain ⟨tl, rfl, R⟩ := h
  obtain ⟨a, rfl⟩ := TrIn.isRef R
  exact ⟨tl, a, R, rfl, rfl⟩
theorem sub3 {x y z : Addr × Obj} {tl l : List (Addr × Obj)} : ∀ p ∈ x :: y :: z :: (tl ++ l), p ∈ tl ++ (x :: y :: z :: l) := by
  intro p hp
  simp only [List.mem_cons, List.mem_append] at hp ⊢
  rcases hp with h | h | h | h | h
  · exact .inr (.inl h)
  · exact .inr (.inr (.inl h))
  · exact .inr (.inr (.inr (.inl h)))
  · exact .inl h
  · exact .inr (.inr (.inr (.inr h)))
theorem off3_of {I C D : Addr} {l : List (Addr × Obj)} (h : LCg.Off3 I C D l) : ∀ p ∈ l, p.1 ≠ I ∧ p.1 ≠ C ∧ p.1 ≠ D := h.mem
theorem off3_tl {I C D : Addr} {oI oC oD : Obj} {tl l : List (Addr × Obj)} (h : LCg.Off3 I C D l) (f : Fresh tl ((I, oI) :: (C, oC) :: (D, oD) :: l)) : LCg.Off3 I C D (tl ++ l) := by
  refine LCg.Off3.of fun p hp => ?_
  rcases List.mem_append.mp hp with hp | hp
  · exact ⟨Nat.ne_of_gt (f (I, oI) (.head _) p hp), Nat.ne_of_gt (f (C, oC) (.tail _ (.head _)) p hp), Nat.ne_of_gt (f (D, oD) (.tail _ (.tail _ (.head _))) p hp)⟩
  · exact off3_of h p hp
end Mine
end

section
open PySem PySem.W PyProof.Rows
set_option maxRecDepth 100000
namespace Mine
theorem fill8 : PySem.Challenge.rw_no0152_01 = PySem.Challenge.rw_no0152_01 ∧ hd.heap_39 = hd.heap_39 := by k_fill; exact ⟨rfl, rfl⟩
local macro_rules | `(tactic| walk_at "eval ListComp") => `(tactic| (refine hold_of ?_))
theorem wordsC8 : True := by
  k_with_none
  k_with "call ref" => k_here; (with_reducible show wpAny _ _ (call (Value.ref 159) _) _ _ _); k_dflt (refine Says.go (by k_asm) (KeptP.use3 (by assumption) (by assumption) (by assumption) (by intro p hp; simp only [List.mem_cons, List.mem_append, hp, or_true, true_or])) (hd' := by simp only [Tr.dep] at *; ktr_room) (hu := by simp only [Tr.dep] at *; ktr_units) (ret := ?_)); intro _ _ _ _ _ _ ho9; obtain ⟨_, _, _, _, rfl, rfl⟩ := KeptOut.open ho9; (try dsimp only); (try k_fold)
  trivial
theorem fresh2 {T1 T2 : Addr} {o1 o2 : Obj} {x y z x' y' z' : Addr × Obj} {tl1 tl2 news : List (Addr × Obj)} (h2 : AllLt T2 (tl2 ++ (tl1 ++ news))) (h1 : AllLt T1 (tl2 ++ (tl1 ++ news))) (f1 : Fresh tl1 (x :: y :: z :: news)) (f2 : Fresh tl2 (x' :: y' :: z' :: (tl1 ++ news))) : Fresh ((T2, o2) :: (T1, o1) :: (tl2 ++ tl1)) news := by
  intro q hq p hp
  have hq' : q ∈ tl2 ++ (tl1 ++ news) := List.mem_append.mpr (.inr (List.mem_append.mpr (.inr hq)))
  rcases List.mem_cons.mp hp with rfl | hp
  · exact tb_ltOf h2 q hq'
  rcases List.mem_cons.mp hp with rfl | hp
  · exact tb_ltOf h1 q hq'
  rcases List.mem_append.mp hp with hp | hp
  · exact f2 q (.tail _ (.tail _ (.tail _ (List.mem_append.mpr (.inr hq))))) p hp
  · exact f1 q (.tail _ (.tail _ (.tail _ hq))) p hp
theorem kept_sub {p2 p1 d : Addr × Obj} {tl1 tl2 news : List (Addr × Obj)} : ∀ p ∈ (p2 :: p1 :: (tl2 ++ tl1)) ++ news, p ∈ p2 :: p1 :: d :: (tl2 ++ (tl1 ++ news)) := by
  intro p hp
  simp only [List.mem_cons, List.mem_append] at hp ⊢
  rcases hp with (h | h | h | h) | h <;> simp only [h, true_or, or_true]
theorem kept_m1 {p2 p1 : Addr × Obj} {tl1 tl2 base : List (Addr × Obj)} : ∀ p ∈ tl1 ++ base, p ∈ (p2 :: p1 :: (tl2 ++ tl1)) ++ base := by
  intro p hp
  simp only [List.mem_cons, List.mem_append] at hp ⊢
  rcases hp with h | h <;> simp only [h, true_or, or_true]
theorem kept_m2 {p2 p1 : Addr × Obj} {tl1 tl2 base : List (Addr × Obj)} : ∀ p ∈ tl2 ++ base, p ∈ (p2 :: p1 :: (tl2 ++ tl1)) ++ base := by
  intro p hp
  simp only [List.mem_cons, List.mem_append] at hp ⊢
  rcases hp with h | h <;> simp only [h, true_or, or_true]
theorem fresh_two {T1 T2 : Addr} {o1 o2 : Obj} {news : List (Addr × Obj)} (h2 : AllLt T2 news) (h1 : ∀ p ∈ news, p.1 < T1) : Fresh [(T2, o2), (T1, o1)] news := by
  intro q hq p hp
  rcases List.mem_cons.mp hp with rfl | hp
  · exact tb_ltOf h2 q hq
  rcases List.mem_cons.mp hp with rfl | hp
  · exact h1 q hq
  · exact nomatch hp
set_option maxHeartbeats 4000000 in
theorem kept_bin (w : World) {f : Int} {x y : Tr} (hf : f = 1 ∨ f = 2 ∨ f = 3) (IHx : KeptP w x) (IHy : KeptP w y) : KeptP w (.bin f x y) := by
  intro a0 base news R0 hs0
  cases R0 with
  | bin hx hy R1 R2 =>
    obtain ⟨a1, e1⟩ := R1.isRef
    obtain ⟨a2, e2⟩ := R2.isRef
    subst e1
    subst e2
    have hx' := hs0 _ hx
    have hy' := hs0 _ hy
    intro loose mean mg mb dp un gd cn cs a ccd cl outer A₀ hb h₀ L m s Q E B F X N T hk hdp hun hret
    refine wpAny_call ?_
    k_dflt ktr_enter
    k_steps
    · refine hold_in (ListComp_tup (by k_asm) (by rfl) (by decide) (by rfl) (by decide) (by rfl) ?_)
      k_steps
      refine ⟨_, _, _, news, rfl, rfl, by k_asm, news_tl (by k_asm), hy', Nat.le_of_ble_eq_true rfl, fun g => ?_⟩
      refine LCg.CompRest.succ (k := 1) ?_
      intro v I oI C oC D m2 h1 tk1 E1 hv hC hxm F1 N1 off1 ne1
      have ev : v = .ref a1 := (Option.some.inj (show some (Value.ref a1) = some v from hv)).symm
      subst ev
      k_steps
      rename_i h2 tk2 F2 tl1 r1 fr1 Rk1 N2
      refine LCg.CompEnd.intro (by k_asm) N2 (tl1 ++ news) sub3 (off3_tl off1 fr1) (List.mem_append.mpr (.inr hy')) ?_
      clear F1 N1 F2 N2 hv
      refine LCg.CompRest.succ (k := 0) ?_
      intro v I2 oI2 C2 oC2 D2 m3 h3 tk3 E3 hv hC3 hxm3 F3 N3 off3 ne3
      have ev : v = .ref a2 := (Option.some.inj (show some (Value.ref a2) = some v from hv)).symm
      subst ev
      k_steps
      rename_i h4 tk4 F4 tl2 r2 fr2 Rk2 N4
      refine LCg.CompEnd.intro (by k_asm) N4 (tl2 ++ (tl1 ++ news)) sub3 (off3_tl off3 fr2) (List.mem_append.mpr (.inr (List.mem_append.mpr (.inr hy')))) ?_
      clear F3 N3 F4 N4 hv
      refine LCg.CompRest.zero ?_
      unfold LCg.FinE
      intro D3 h5 tk5 F5 N5 o5
      dsimp only [List.nil_append, List.cons_append] at N5
      k_steps
      rename_i T1 hh1 lT1 T2 hh2 F6 N6 lT2 kF kN Tc kX
      refine hret _ _ _ _ (by k_asm) (news_sub kN kept_sub) ⟨_, rfl, fresh2 lT2.2.2 lT1.2 fr1 fr2, ?_⟩
      · simp only [Tr.keep, if_pos hf]
        exact TrIn.bin (.head _) (.tail _ (.head _)) (Rk1.mono kept_m1) (Rk2.mono kept_m2)
    · exfalso; rename (List.any _ _ = _) => hx9; simp only [List.any_cons, List.any_nil, Bool.or_false, Bool.or_eq_true, beq_iff_eq, Bool.or_eq_false_iff, beq_eq_false_iff_ne] at hx9; omega

set_option maxHeartbeats 4000000 in
theorem kept_leaf (w : World) {t : Tr} (ht : plainT t ∨ ∃ n, t = .v n) : KeptP w t := by
  intro a0 base news R0 hs0
  have R1 := R0
  cases R0 with
  | v hx =>
    have hx' := hs0 _ hx
    intro loose mean mg mb dp un gd cn cs a ccd cl outer A₀ hb h₀ L m s Q E B F X N T hk hdp hun hret
    refine wpAny_call ?_
    k_dflt ktr_enter
    k_steps
    rename_i T1 hh1 lT1 T2 hh2 F6 N6 lT2 kF kN Tc kX
    refine hret _ ([(T2, _), (T1, _)] ++ news) _ _ (by k_asm) kN ⟨_, rfl, fresh_two lT2.2 lT1, ?_⟩
    exact TrIn.ca (.head _) (.tail _ (.head _)) (R1.mono fun p hp => .tail _ (.tail _ hp))
  | a hx =>
    have hx' := hs0 _ hx
    intro loose mean mg mb dp un gd cn cs a ccd cl outer A₀ hb h₀ L m s Q E B F X N T hk hdp hun hret
    refine wpAny_call ?_
    k_dflt ktr_enter
    k_steps
    all_goals first
      | (exfalso; rename (List.any _ _ = _) => hx9; simp only [List.any_cons, List.any_nil, Bool.or_false, Bool.or_eq_true, beq_iff_eq, Bool.or_eq_false_iff, beq_eq_false_iff_ne] at hx9; omega)
      | exact hret _ news _ _ (by k_asm) (by first | k_asm | exact news_tl (by k_asm)) ⟨[], rfl, (fun _ _ _ hp => nomatch hp), by exact R1⟩
  | i hx =>
    have hx' := hs0 _ hx
    intro loose mean mg mb dp un gd cn cs a ccd cl outer A₀ hb h₀ L m s Q E B F X N T hk hdp hun hret
    refine wpAny_call ?_
    k_dflt ktr_enter
    k_steps
    all_goals first
      | (exfalso; rename (List.any _ _ = _) => hx9; simp only [List.any_cons, List.any_nil, Bool.or_false, Bool.or_eq_true, beq_iff_eq, Bool.or_eq_false_iff, beq_eq_false_iff_ne] at hx9; omega)
      | exact hret _ news _ _ (by k_asm) (by first | k_asm | exact news_tl (by k_asm)) ⟨[], rfl, (fun _ _ _ hp => nomatch hp), by exact R1⟩
  | no hx hy _ =>
    have hx' := hs0 _ hx
    intro loose mean mg mb dp un gd cn cs a ccd cl outer A₀ hb h₀ L m s Q E B F X N T hk hdp hun hret
    refine wpAny_call ?_
    k_dflt ktr_enter
    k_steps
    all_goals first
      | (exfalso; rename (List.any _ _ = _) => hx9; simp only [List.any_cons, List.any_nil, Bool.or_false, Bool.or_eq_true, beq_iff_eq, Bool.or_eq_false_iff, beq_eq_false_iff_ne] at hx9; omega)
      | exact hret _ news _ _ (by k_asm) (by first | k_asm | exact news_tl (by k_asm)) ⟨[], rfl, (fun _ _ _ hp => nomatch hp), by exact R1⟩
  | ca hx hy _ =>
    have hx' := hs0 _ hx
    intro loose mean mg mb dp un gd cn cs a ccd cl outer A₀ hb h₀ L m s Q E B F X N T hk hdp hun hret
    refine wpAny_call ?_
    k_dflt ktr_enter
    k_steps
    all_goals first
      | (exfalso; rename (List.any _ _ = _) => hx9; simp only [List.any_cons, List.any_nil, Bool.or_false, Bool.or_eq_true, beq_iff_eq, Bool.or_eq_false_iff, beq_eq_false_iff_ne] at hx9; omega)
      | exact hret _ news _ _ (by k_asm) (by first | k_asm | exact news_tl (by k_asm)) ⟨[], rfl, (fun _ _ _ hp => nomatch hp), by exact R1⟩
  | hd hn hx hy _ =>
    have hx' := hs0 _ hx
    intro loose mean mg mb dp un gd cn cs a ccd cl outer A₀ hb h₀ L m s Q E B F X N T hk hdp hun hret
    refine wpAny_call ?_
    k_dflt ktr_enter
    k_steps
    all_goals first
      | (exfalso; rename (List.any _ _ = _) => hx9; simp only [List.any_cons, List.any_nil, Bool.or_false, Bool.or_eq_true, beq_iff_eq, Bool.or_eq_false_iff, beq_eq_false_iff_ne] at hx9; omega)
      | exact hret _ news _ _ (by k_asm) (by first | k_asm | exact news_tl (by k_asm)) ⟨[], rfl, (fun _ _ _ hp => nomatch hp), by exact R1⟩
  | bin hx hy _ _ =>
    have hf := ht.elim (fun h => h) (fun ⟨_, e⟩ => nomatch e)
    simp only [plainT] at hf
    have hx' := hs0 _ hx
    intro loose mean mg mb dp un gd cn cs a ccd cl outer A₀ hb h₀ L m s Q E B F X N T hk hdp hun hret
    refine wpAny_call ?_
    k_dflt ktr_enter
    k_steps
    all_goals first
      | (exfalso; rename (List.any _ _ = _) => hx9; simp only [List.any_cons, List.any_nil, Bool.or_false, Bool.or_eq_true, beq_iff_eq, Bool.or_eq_false_iff, beq_eq_false_iff_ne] at hx9; omega)
      | exact hret _ news _ _ (by k_asm) (by first | k_asm | exact news_tl (by k_asm)) ⟨[], rfl, (fun _ _ _ hp => nomatch hp), by simp only [Tr.keep, if_neg hf]; exact R1⟩
theorem kept_says (w : World) : ∀ t : Tr, KeptP w t
  | .v n => kept_leaf w (.inr ⟨n, rfl⟩)
  | .a n => kept_leaf w (.inl trivial)
  | .i n => kept_leaf w (.inl trivial)
  | .no x => kept_leaf w (.inl trivial)
  | .ca x => kept_leaf w (.inl trivial)
  | .hd n x => kept_leaf w (.inl trivial)
  | .bin f x y => if h : f = 1 ∨ f = 2 ∨ f = 3 then kept_bin w h (kept_says w x) (kept_says w y) else kept_leaf w (.inl h)
end Mine
end

section
open PySem PySem.W PyProof.Rows PySem.Spec PySem.Calls PyProof.V
set_option maxRecDepth 100000
namespace Mine

section
variable {K : Type} [DecidableEq K]
/-- a table that numbers the items of a list -/
def tabOf (enc : K → PyData) : Nat → List K → List (PyData × PyData)
  | _, [] => []
  | n, k :: r => (enc k, .int n) :: tabOf enc (n + 1) r
/-- the item's place -/
def ix (l : List K) (x : K) : Nat := l.idxOf x
/-- the list with the item, once -/
def ins (l : List K) (x : K) : List K := if x ∈ l then l else l ++ [x]
theorem tab_lookup {enc : K → PyData} (henc : ∀ a b, Spec.same (enc a) (enc b) = decide (a = b)) (x : K) : ∀ (l : List K) (n : Nat), Spec.lookup (enc x) (tabOf enc n l) = if x ∈ l then some (.int ((n + ix l x : Nat) : Int)) else none
  | [], n => by simp [tabOf, Spec.lookup]
  | k :: r, n => by
    rw [tabOf, Spec.lookup, henc]
    by_cases h : k = x
    · subst h
      simp [ix]
    · have h' : ¬ x = k := fun e => h e.symm
      have hb : (k == x) = false := beq_eq_false_iff_ne.mpr h
      rw [if_neg (by simp [h]), tab_lookup henc x r (n + 1)]
      by_cases m : x ∈ r
      · rw [if_pos m, if_pos (List.mem_cons_of_mem _ m)]
        unfold ix
        rw [List.idxOf_cons, hb]
        simp only [cond_false]
        congr 2
        omega
      · rw [if_neg m, if_neg (by simp [h', m])]
theorem tab_snoc {enc : K → PyData} (x : K) : ∀ (l : List K) (n : Nat), tabOf enc n (l ++ [x]) = tabOf enc n l ++ [(enc x, .int ((n + l.length : Nat) : Int))]
  | [], n => by simp [tabOf]
  | k :: r, n => by
    rw [List.cons_append, tabOf, tab_snoc x r (n + 1), tabOf, List.cons_append, List.length_cons]
    rw [show n + 1 + r.length = n + (r.length + 1) from by omega]
theorem tab_length {enc : K → PyData} : ∀ (l : List K) (n : Nat), (tabOf enc n l).length = l.length
  | [], _ => rfl
  | k :: r, n => by rw [tabOf, List.length_cons, List.length_cons, tab_length r]
theorem tab_there {enc : K → PyData} (henc : ∀ a b, Spec.same (enc a) (enc b) = decide (a = b)) {x : K} {l : List K} (h : x ∈ l) : Spec.lookup (enc x) (tabOf enc 0 l) = some (.int (ix l x : Nat)) := by rw [tab_lookup henc, if_pos h, Nat.zero_add]
theorem tab_none {enc : K → PyData} (henc : ∀ a b, Spec.same (enc a) (enc b) = decide (a = b)) {x : K} {l : List K} (h : x ∉ l) : Spec.lookup (enc x) (tabOf enc 0 l) = none := by rw [tab_lookup henc, if_neg h]
theorem tab_put {enc : K → PyData} (henc : ∀ a b, Spec.same (enc a) (enc b) = decide (a = b)) {x : K} {l : List K} (h : x ∉ l) : putD (enc x) (.int (l.length : Nat)) (tabOf enc 0 l) = tabOf enc 0 (l ++ [x]) := by
  rw [putD_absent (tab_none henc h), tab_snoc, Nat.zero_add]
theorem ins_there {l : List K} {x : K} (h : x ∈ l) : ins l x = l := if_pos h
theorem ins_new {l : List K} {x : K} (h : x ∉ l) : ins l x = l ++ [x] := if_neg h
theorem idx_new {l : List K} {x : K} (h : x ∉ l) : ix l x = l.length := List.idxOf_eq_length h
theorem ins_le {l : List K} {x : K} : (ins l x).length ≤ l.length + 1 := by
  unfold ins
  split
  · omega
  · rw [List.length_append]; exact Nat.le_refl _
end

/-- the dict of the atoms' numbers -/
def AtomObj (w : World) (o : Obj) (T : List Str) : Prop := ∃ kvs, o.IsDictOf (PySem.strKind PySem.Challenge.pw_no0152_01 w) kvs ∧ FlatPairs PyData.str kvs (tabOf PyData.str 0 T)
def AtomOut (w : World) (X dx lt da lf df : Addr) (k1 k2 k3 k4 : Tok) (x : Str) (T : List Str) (fv : List Value) (nf : Nat) (of : Obj) (tl : List (Addr × Obj)) (r : Value) (news' : List (Addr × Obj)) : Prop :=
  ∃ (tv : List Value) (nt : Nat) (oa : Obj) (tk : Tok), r = .int (ix T x : Nat) tk ∧ tv.length = (ins T x).length ∧ AtomObj w oa (ins T x) ∧ news' = ((X, instObj 122 dx) :: (dx, dictOf [⟨PyData.keyHash w.params (Str.ofString "texts"), .str (Str.ofString "texts") k1, .ref lt⟩, ⟨PyData.keyHash w.params (Str.ofString "atom_numbers"), .str (Str.ofString "atom_numbers") k2, .ref da⟩, ⟨PyData.keyHash w.params (Str.ofString "functors"), .str (Str.ofString "functors") k3, .ref lf⟩, ⟨PyData.keyHash w.params (Str.ofString "functor_numbers"), .str (Str.ofString "functor_numbers") k4, .ref df⟩] 4) :: (lt, listOf tv.toArray nt) :: (da, oa) :: (lf, listOf fv.toArray nf) :: (df, of) :: tl)

theorem len_any {prog : Program} {w : World} {A : Around} {E : Value → Shared → Prop} {s : Shared} {h₀ : Heap} {L D : Addr} {news : List (Addr × Obj)} {n : Nat} {p : List Value} {Q : Value → Shared → Prop} (N : News h₀ L s.heap news) (hm : (D, listOf p.toArray n) ∈ news) (hb : p.length ≤ 1000)
    (h : Q (.int (p.length : Nat) (s.toks + 1)) { s with toks := s.toks + 1 + 1 }) : wpAny (model prog w) A (call (.builtin "len") [.ref D]) Q E s := by
  have hl : s.heap.IsList D p.toArray := ⟨_, (N _ hm).1, rfl, n, rfl⟩
  have e : ((p.toArray.size : Nat) : Int) = (p.length : Int) := by simp
  exact len_list hl (by rw [e]; omega) (by rw [e]; exact h)
end Mine
end

section
open PySem PySem.W PyProof.Rows PySem.Spec PySem.Calls PyProof.V
set_option maxRecDepth 100000
namespace Mine
theorem fill10 : PySem.Challenge.rw_no0152_01 = PySem.Challenge.rw_no0152_01 ∧ hd.heap_39 = hd.heap_39 := by k_fill; exact ⟨rfl, rfl⟩
theorem wordsC10 : True := by
  k_with_none
  k_with "call builtin:len" => k_here; (with_reducible show wpAny _ _ (call (Value.builtin "len") [Value.ref _]) _ _ _); k_dflt (refine len_any (by k_asm) (by k_mem) (by omega) ?_)
  k_with "call builtin:list.append" => k_here; (with_reducible show wpAny _ _ (call (Value.builtin "list.append") [Value.ref _, _]) _ _ _); k_dflt (refine append_any (by k_asm) (by k_asm) (by k_upd) (by simp only [Array.size_push, List.size_toArray]; omega) ?_); intro _ _ _
  k_with "setItem ref str" => k_here; k_dflt (refine setItem_K PyProof.V.same_str (strKind_is _ _ _ _) (PyProof.V.Flat.int _ _) (by k_asm) (by k_asm) (by k_updF) (by k_asm) (by k_asm) ?_ (by rw [tab_length, PySem.sizeLine_eq]; omega)); intro _ _ _ N9 _ _; (try dsimp only at N9)
  trivial
set_option maxHeartbeats 4000000 in
theorem atom_says (w : World) {X dx lt da lf df : Addr} {k1 k2 k3 k4 tx : Tok} {nt nf : Nat} {tv fv : List Value} {oa of : Obj} {T : List Str} {x : Str} {tl : List (Addr × Obj)}
    (o1 : @LT.lt Nat _ dx X) (o2 : @LT.lt Nat _ X lt) (o3 : @LT.lt Nat _ lt da) (o4 : @LT.lt Nat _ da lf) (o5 : @LT.lt Nat _ lf df) (lo : (da == sysModules) = false)
    (f1 : ∀ p ∈ tl, p.1 ≠ lt) (f2 : ∀ p ∈ tl, p.1 ≠ da) (hl : tv.length = T.length) (hb : T.length ≤ 500) (ha : AtomObj w oa T) :
    Says w 56 [.ref X, .str x tx] 3 200 ((X, instObj 122 dx) :: (dx, dictOf [⟨PyData.keyHash w.params (Str.ofString "texts"), .str (Str.ofString "texts") k1, .ref lt⟩, ⟨PyData.keyHash w.params (Str.ofString "atom_numbers"), .str (Str.ofString "atom_numbers") k2, .ref da⟩, ⟨PyData.keyHash w.params (Str.ofString "functors"), .str (Str.ofString "functors") k3, .ref lf⟩, ⟨PyData.keyHash w.params (Str.ofString "functor_numbers"), .str (Str.ofString "functor_numbers") k4, .ref df⟩] 4) :: (lt, listOf tv.toArray nt) :: (da, oa) :: (lf, listOf fv.toArray nf) :: (df, of) :: tl) (AtomOut w X dx lt da lf df k1 k2 k3 k4 x T fv nf of tl) := by
  obtain ⟨kvs, hd, hf⟩ := ha
  intro loose mean mg mb dp un gd cn cs a ccd cl outer A₀ base h₀ L m s Q E B F X0 N T0 hk hdp hun hret
  by_cases hx : x ∈ T
  · have hlk := tab_there PyProof.V.same_str hx
    refine wpAny_call ?_
    k_dflt ktr_enter
    k_steps
    refine hret _ _ _ _ (by k_asm) (by k_asm) ⟨tv, nt, oa, _, rfl, by rw [ins_there hx, hl], ⟨kvs, hd, by rw [ins_there hx]; exact hf⟩, rfl⟩
  · have hlk := tab_none PyProof.V.same_str hx
    refine wpAny_call ?_
    k_dflt ktr_enter
    k_steps
    rename FlatPairs _ _ (putD _ _ _) => hf9
    have hp9 := tab_put PyProof.V.same_str hx
    rw [← hl] at hp9
    rw [hp9] at hf9
    rename Obj.IsDictOf _ _ (stored _ _ _) => hd9
    refine hret _ _ _ _ (by k_asm) (by k_asm) ⟨_, _, _, _, by rw [idx_new hx, ← hl], ?_, ⟨_, hd9, by rw [ins_new hx]; exact hf9⟩, rfl⟩
    rw [ins_new hx, Array.toList_push, List.length_append, List.length_append, ← hl]; rfl
end Mine
end

section
open PySem PySem.W PyProof.Rows PySem.Spec PySem.Calls PyProof.V
set_option maxRecDepth 100000
namespace Mine
theorem fill11 : PySem.Challenge.rw_no0152_01 = PySem.Challenge.rw_no0152_01 ∧ hd.heap_39 = hd.heap_39 := by k_fill; exact ⟨rfl, rfl⟩

abbrev PW := PySem.Challenge.pw_no0152_01
abbrev eT : List Int → PyData := encTuple PyData.int
theorem eT_same (a b : List Int) : Spec.same (eT a) (eT b) = decide (a = b) := same_encTuple PyProof.V.same_int a b
/-- the dict of the functors' numbers, its keys pairs of the ledger -/
def FunObj (w : World) (o : Obj) (keys : List (Addr × Obj)) (G : List (List Int)) : Prop :=
  o.ExactDict ∧ ∃ es ep xs, o.data = .dict es ep ∧ es.toList = xs.map (entryOfKey (tupleKind (intKind PW w))) ∧ (xs.map (·.1)).Nodup ∧
    (∀ x ∈ xs, ∃ ok, (x.2.1, ok) ∈ keys ∧ TupKeyObj (intKind PW w) x.1 ok) ∧ FlatPairs eT (kvsOf xs) (tabOf eT 0 G)
theorem FunObj.mono {w : World} {o : Obj} {keys keys' : List (Addr × Obj)} {G : List (List Int)} (h : FunObj w o keys G) (hs : ∀ p ∈ keys, p ∈ keys') : FunObj w o keys' G := by
  obtain ⟨hc, es, ep, xs, hd, he, hn, hk, hf⟩ := h
  exact ⟨hc, es, ep, xs, hd, he, hn, fun x hx => let ⟨ok, hm, t⟩ := hk x hx; ⟨ok, hs _ hm, t⟩, hf⟩
theorem FunObj.empty {w : World} {o : Obj} {keys : List (Addr × Obj)} (hd : o.IsDictOf (intKind PW w) []) : FunObj w o keys [] := by
  obtain ⟨es, ep, hc, hdat, _, hp, _⟩ := hd
  have he : es.toList = [] := List.length_eq_zero_iff.mp hp.length
  exact ⟨hc, es, ep, [], hdat, he, List.nodup_nil, fun _ hx => by simp at hx, .nil⟩
theorem FunObj.at {w : World} {h₀ h : Heap} {L d : Addr} {news keys : List (Addr × Obj)} {o : Obj} {G : List (List Int)} (h1 : FunObj w o keys G) (N : News h₀ L h news) (hm : (d, o) ∈ news) (hk : ∀ p ∈ keys, p ∈ news) (lo : (d == sysModules) = false) :
    TabAtH (tupleKind (intKind PW w)) eT h d (tabOf eT 0 G) := by
  obtain ⟨hc, es, ep, xs, hd, he, hn, hx, hf⟩ := h1
  exact ⟨lo, xs, ⟨o, es, ep, N.get hm, hc, hd, he, fun x hx' => let ⟨ok, hmk, t⟩ := hx x hx'; t.key (N.get (hk _ hmk)), hn⟩, hf⟩
theorem pairKey {w : World} {h₀ h : Heap} {L a : Addr} {news : List (Addr × Obj)} {x y : Int} {tx ty : Tok} {kk : Nat} (N : News h₀ L h news) (hK : (a, tup #[.int x tx, .int y ty] kk) ∈ news) : IsTupleKey (intKind PW w) h [x, y] a :=
  ⟨_, _, _, N.get hK, rfl, rfl, .cons (intKind_is _ _ _ _) (.cons (intKind_is _ _ _ _) .nil)⟩
section
variable {w : World} {A : Around} {E : Value → Shared → Prop} {s : Shared} {h₀ : Heap} {L d a : Addr} {m : Str → Option Value} {news keys : List (Addr × Obj)} {o : Obj} {G : List (List Int)} {x y : Int} {tx ty : Tok} {kk : Nat}
theorem funMethod {name : Str} {id : String} {pl : Sem Bool} {Q : Value × List Value → Shared → Prop} (slot : Slot "dict" name id) (hty : typeOf (.builtin id) = pure (.type "method_descriptor"))
    (N : News h₀ L s.heap news) (hm : (d, o) ∈ news) (h1 : FunObj w o keys G) (h : Q (.builtin id, [.ref d]) s) : wpAny (model PW w) A (getMethod (.ref d) name pl) Q E s :=
  getMethod_builtin ⟨_, N.get hm, h1.1.1⟩ PySem.F.plainAttrs_dict slot hty (fun b e => by cases e; exact ⟨_, N.get hm, h1.1.2.1⟩) h
theorem funGet {i : Int} {t0 : Tok} {Q : Value → Shared → Prop} (hu : A.units + 1 < cLine) (N : News h₀ L s.heap news) (hm : (d, o) ∈ news) (h1 : FunObj w o keys G) (hk : ∀ p ∈ keys, p ∈ news) (lo : (d == sysModules) = false)
    (hK : (a, tup #[.int x tx, .int y ty] kk) ∈ news) (hl : (Spec.lookup (eT [x, y]) (tabOf eT 0 G)).getD (.int (-1)) = .int i) (h : ∀ t tk, Q (.int i t) { s with toks := tk }) :
    wpAny (model PW w) A (call (.builtin "dict.get") [.ref d, .ref a, .int (-1) t0]) Q E s := by
  refine call_get2_tabH (knd := tupleKind (intKind PW w)) (k := [x, y]) eT_same (tupleKind_room_in1 hu) (pairKey N hK) (h1.at N hm hk lo) (PyProof.V.Flat.int _ _) fun v hv => ?_
  rw [hl] at hv
  obtain ⟨t, rfl⟩ := hv.int_inv
  exact h t _
theorem funSet {g : Obj → List (Addr × Obj)} {i : Int} {v : Tok} {Q : Unit → Shared → Prop} (hu : A.units + 1 < cLine) (F : Fr h₀ L s.heap m) (N : News h₀ L s.heap news) (U : UpdF d o news g) (h1 : FunObj w o keys G) (hk : ∀ p ∈ keys, p ∈ news)
    (hK : (a, tup #[.int x tx, .int y ty] kk) ∈ news) (hx : [x, y] ∉ G) (hb : G.length ≤ 500) (hi : i = ((G.length : Nat) : Int))
    (h : ∀ h' o' tk, Fr h₀ L h' m → News h₀ L h' (g o') → FunObj w o' ((a, tup #[.int x tx, .int y ty] kk) :: keys) (G ++ [[x, y]]) → Q () { s with heap := h', toks := tk }) :
    wpAny (model PW w) A (setItem (.ref d) (.ref a) (.int i v)) Q E s := by
  subst hi
  obtain ⟨pre, post, rfl, hg, hpre, hpost⟩ := U.split
  have hm : (d, o) ∈ pre ++ (d, o) :: post := List.mem_append.mpr (.inr (.head _))
  obtain ⟨hc, es, ep, xs, hd, he, hn, hx', hf⟩ := h1
  have hD : s.heap.DictOfH (tupleKind (intKind PW w)) d xs := ⟨o, es, ep, N.get hm, hc, hd, he, fun x hx => let ⟨_, hmk, t⟩ := hx' x hx; t.key (N.get (hk _ hmk)), hn⟩
  have hlen : xs.length ≤ sizeLine := by
    have e := hf.length
    rw [tab_length] at e
    simp only [kvsOf, List.length_map] at e
    rw [PySem.sizeLine_eq]; omega
  refine wpAny_setItem_heap (hsz := hlen) (knd := tupleKind (intKind PW w)) (k := [x, y]) (tupleKind_room_in1 hu) (pairKey N hK) hD fun h' hm' hs => ?_
  obtain ⟨o', es', ep', ho', hc', hd', he', _, hn'⟩ := hm'
  refine h h' o' _ (F.change hs (N _ hm).2.1 (N.fresh hm)) (by rw [hg]; exact news_set N hpre hpost hs ho') ⟨hc', es', ep', _, hd', he', hn', fun z hz => ?_, ?_⟩
  · rcases mem_storedH hz with ⟨u, hu', e1, e2⟩ | ⟨e1, e2⟩
    · obtain ⟨ok, hmk, t⟩ := hx' u hu'
      exact ⟨ok, by rw [e2]; exact .tail _ hmk, by rw [e1]; exact t⟩
    · exact ⟨_, by rw [e2]; exact .head _, by rw [e1]; exact ⟨rfl, _, _, rfl, .cons (intKind_is _ _ _ _) (.cons (intKind_is _ _ _ _) .nil)⟩⟩
  · rw [kvsOf_storedH, ← tab_put eT_same hx]
    exact hf.stored eT_same [x, y] (PyProof.V.Flat.int _ _)
end

theorem perm7 {a b c d e f g : Addr × Obj} {tl : List (Addr × Obj)} : ∀ p ∈ b :: c :: d :: e :: f :: g :: a :: tl, p ∈ a :: b :: c :: d :: e :: f :: g :: tl := by
  intro p hp
  simp only [List.mem_cons] at hp ⊢
  rcases hp with h | h | h | h | h | h | h | h <;> simp only [h, true_or, or_true]
def FunOut (w : World) (X dx lt da lf df : Addr) (k1 k2 k3 k4 : Tok) (key : List Int) (G : List (List Int)) (tv : List Value) (nt : Nat) (oa : Obj) (tl : List (Addr × Obj)) (r : Value) (news' : List (Addr × Obj)) : Prop :=
  ∃ (fv : List Value) (nf : Nat) (of : Obj) (tl' : List (Addr × Obj)) (tk : Tok), r = .int (ix G key : Nat) tk ∧ fv.length = (ins G key).length ∧ FunObj w of tl' (ins G key) ∧ (∀ p ∈ tl, p ∈ tl') ∧ (∀ p ∈ tl', p.1 ≠ lt ∧ p.1 ≠ da ∧ p.1 ≠ lf ∧ p.1 ≠ df) ∧ news' = ((X, instObj 122 dx) :: (dx, dictOf [⟨PyData.keyHash w.params (Str.ofString "texts"), .str (Str.ofString "texts") k1, .ref lt⟩, ⟨PyData.keyHash w.params (Str.ofString "atom_numbers"), .str (Str.ofString "atom_numbers") k2, .ref da⟩, ⟨PyData.keyHash w.params (Str.ofString "functors"), .str (Str.ofString "functors") k3, .ref lf⟩, ⟨PyData.keyHash w.params (Str.ofString "functor_numbers"), .str (Str.ofString "functor_numbers") k4, .ref df⟩] 4) :: (lt, listOf tv.toArray nt) :: (da, oa) :: (lf, listOf fv.toArray nf) :: (df, of) :: tl')

theorem wordsC11 : True := by
  k_with_none
  k_with "call builtin:len" => k_here; (with_reducible show wpAny _ _ (call (Value.builtin "len") [Value.ref _]) _ _ _); k_dflt (refine len_any (by k_asm) (by k_mem) (by omega) ?_)
  k_with "call builtin:list.append" => k_here; (with_reducible show wpAny _ _ (call (Value.builtin "list.append") [Value.ref _, _]) _ _ _); k_dflt (refine append_any (by k_asm) (by k_asm) (by k_upd) (by simp only [Array.size_push, List.size_toArray]; omega) ?_); intro _ _ _
  k_with "getMethod ref" => k_here; (with_reducible show wpAny _ _ (getMethod (Value.ref _) (PySem.Str.ofString "get") _) _ _ _); k_dflt (refine funMethod PySem.F.slot_dict_get PySem.F.type_dict_get (by k_asm) (by k_mem) (by assumption) ?_)
  k_with "call builtin:dict.get" => k_here; (with_reducible show wpAny _ _ (call (Value.builtin "dict.get") [Value.ref _, Value.ref _, _]) _ _ _); k_dflt (refine funGet (by ktr_units) (by k_asm) (by k_mem) (by assumption) (by intro p hp; simp only [List.mem_cons, hp, or_true]) (by assumption) (by k_mem) (by assumption) ?_); intro _ _
  k_with "setItem ref ref" => k_here; k_dflt (refine funSet (by ktr_units) (by k_asm) (by k_asm) (by k_updF) (by assumption) (by intro p hp; simp only [List.mem_cons, hp, or_true]) (by k_mem) (by assumption) (by assumption) (by omega) ?_); intro _ _ _ _ N9 _; (try dsimp only at N9)
  trivial
set_option maxHeartbeats 4000000 in
theorem functor_says (w : World) {X dx lt da lf df : Addr} {k1 k2 k3 k4 ta tn : Tok} {nt nf : Nat} {tv fv : List Value} {oa of : Obj} {G : List (List Int)} {x y : Int} {tl : List (Addr × Obj)}
    (o1 : @LT.lt Nat _ dx X) (o2 : @LT.lt Nat _ X lt) (o3 : @LT.lt Nat _ lt da) (o4 : @LT.lt Nat _ da lf) (o5 : @LT.lt Nat _ lf df) (lo : (df == sysModules) = false)
    (f1 : ∀ p ∈ tl, p.1 ≠ lt) (f2 : ∀ p ∈ tl, p.1 ≠ da) (f3 : ∀ p ∈ tl, p.1 ≠ lf) (f4 : ∀ p ∈ tl, p.1 ≠ df) (hl : fv.length = G.length) (hb : G.length ≤ 500) (ha : FunObj w of tl G) :
    Says w 70 [.ref X, .int x ta, .int y tn] 3 200 ((X, instObj 122 dx) :: (dx, dictOf [⟨PyData.keyHash w.params (Str.ofString "texts"), .str (Str.ofString "texts") k1, .ref lt⟩, ⟨PyData.keyHash w.params (Str.ofString "atom_numbers"), .str (Str.ofString "atom_numbers") k2, .ref da⟩, ⟨PyData.keyHash w.params (Str.ofString "functors"), .str (Str.ofString "functors") k3, .ref lf⟩, ⟨PyData.keyHash w.params (Str.ofString "functor_numbers"), .str (Str.ofString "functor_numbers") k4, .ref df⟩] 4) :: (lt, listOf tv.toArray nt) :: (da, oa) :: (lf, listOf fv.toArray nf) :: (df, of) :: tl) (FunOut w X dx lt da lf df k1 k2 k3 k4 [x, y] G tv nt oa tl) := by
  intro loose mean mg mb dp un gd cn cs a ccd cl outer A₀ base h₀ L m s Q E B F X0 N T0 hk hdp hun hret
  by_cases hx : [x, y] ∈ G
  · have hlk : (Spec.lookup (eT [x, y]) (tabOf eT 0 G)).getD (.int (-1)) = .int (ix G [x, y] : Nat) := by rw [tab_there eT_same hx]; rfl
    refine wpAny_call ?_
    k_dflt ktr_enter
    k_steps
    refine hret _ _ _ _ (by k_asm) (news_tl (by k_asm)) ⟨fv, nf, of, tl, _, rfl, by rw [ins_there hx, hl], by rw [ins_there hx]; exact ha, fun _ h => h, fun p hp => ⟨f1 p hp, f2 p hp, f3 p hp, f4 p hp⟩, rfl⟩
  · have hlk : (Spec.lookup (eT [x, y]) (tabOf eT 0 G)).getD (.int (-1)) = .int (-1) := by rw [tab_none eT_same hx]; rfl
    refine wpAny_call ?_
    k_dflt ktr_enter
    k_steps
    rename FunObj _ _ _ (_ ++ _) => hd9
    rename News h₀ _ _ _ => kN
    refine hret _ _ _ _ (by k_asm) (news_sub kN perm7) ⟨_, _, _, _, _, by rw [idx_new hx, ← hl], ?_, by rw [ins_new hx]; exact hd9, fun _ h => .tail _ h, ?_, rfl⟩
    · rw [ins_new hx]; simp only [Array.toList_push, List.concat_eq_append, List.length_append, ← hl]; rfl
    · intro p hp
      rcases List.mem_cons.mp hp with rfl | hp
      · refine ⟨?_, ?_, ?_, ?_⟩ <;> (refine neN ?_; omega)
      · exact ⟨f1 p hp, f2 p hp, f3 p hp, f4 p hp⟩
end Mine
end

section
open PySem PySem.W PyProof.Rows PySem.Spec PySem.Calls PyProof.V
set_option maxRecDepth 100000
namespace Mine
theorem fill12 : PySem.Challenge.rw_no0152_01 = PySem.Challenge.rw_no0152_01 ∧ hd.heap_39 = hd.heap_39 := by k_fill; exact ⟨rfl, rfl⟩
/-- what lies apart from the four that turn -/
def Apart (lt da lf df : Addr) (tl : List (Addr × Obj)) : Prop := ∀ p ∈ tl, p.1 ≠ lt ∧ p.1 ≠ da ∧ p.1 ≠ lf ∧ p.1 ≠ df
theorem Apart.a1 {lt da lf df : Addr} {tl : List (Addr × Obj)} (h : Apart lt da lf df tl) : ∀ p ∈ tl, p.1 ≠ lt := fun p hp => (h p hp).1
theorem Apart.a2 {lt da lf df : Addr} {tl : List (Addr × Obj)} (h : Apart lt da lf df tl) : ∀ p ∈ tl, p.1 ≠ da := fun p hp => (h p hp).2.1
theorem Apart.a3 {lt da lf df : Addr} {tl : List (Addr × Obj)} (h : Apart lt da lf df tl) : ∀ p ∈ tl, p.1 ≠ lf := fun p hp => (h p hp).2.2.1
theorem Apart.a4 {lt da lf df : Addr} {tl : List (Addr × Obj)} (h : Apart lt da lf df tl) : ∀ p ∈ tl, p.1 ≠ df := fun p hp => (h p hp).2.2.2
structure Ord (X dx lt da lf df : Addr) : Prop where
  o1 : @LT.lt Nat _ dx X
  o2 : @LT.lt Nat _ X lt
  o3 : @LT.lt Nat _ lt da
  o4 : @LT.lt Nat _ da lf
  o5 : @LT.lt Nat _ lf df
  l1 : (da == sysModules) = false
  l2 : (df == sysModules) = false
theorem atom_use (w : World) {X dx lt da lf df : Addr} {k1 k2 k3 k4 tx : Tok} {nt nf : Nat} {tv fv : List Value} {oa of : Obj} {T : List Str} {x : Str} {tl : List (Addr × Obj)}
    (o : Ord X dx lt da lf df) (ap : Apart lt da lf df tl) (hl : tv.length = T.length) (hb : T.length ≤ 500) (ha : AtomObj w oa T) :
    Says w 56 [.ref X, .str x tx] 3 200 ((X, instObj 122 dx) :: (dx, dictOf [⟨PyData.keyHash w.params (Str.ofString "texts"), .str (Str.ofString "texts") k1, .ref lt⟩, ⟨PyData.keyHash w.params (Str.ofString "atom_numbers"), .str (Str.ofString "atom_numbers") k2, .ref da⟩, ⟨PyData.keyHash w.params (Str.ofString "functors"), .str (Str.ofString "functors") k3, .ref lf⟩, ⟨PyData.keyHash w.params (Str.ofString "functor_numbers"), .str (Str.ofString "functor_numbers") k4, .ref df⟩] 4) :: (lt, listOf tv.toArray nt) :: (da, oa) :: (lf, listOf fv.toArray nf) :: (df, of) :: tl) (AtomOut w X dx lt da lf df k1 k2 k3 k4 x T fv nf of tl) := atom_says w o.o1 o.o2 o.o3 o.o4 o.o5 o.l1 ap.a1 ap.a2 hl hb ha
theorem functor_use (w : World) {X dx lt da lf df : Addr} {k1 k2 k3 k4 ta tn : Tok} {nt nf : Nat} {tv fv : List Value} {oa of : Obj} {G : List (List Int)} {x y : Int} {tl : List (Addr × Obj)}
    (o : Ord X dx lt da lf df) (ap : Apart lt da lf df tl) (hl : fv.length = G.length) (hb : G.length ≤ 500) (ha : FunObj w of tl G) :
    Says w 70 [.ref X, .int x ta, .int y tn] 3 200 ((X, instObj 122 dx) :: (dx, dictOf [⟨PyData.keyHash w.params (Str.ofString "texts"), .str (Str.ofString "texts") k1, .ref lt⟩, ⟨PyData.keyHash w.params (Str.ofString "atom_numbers"), .str (Str.ofString "atom_numbers") k2, .ref da⟩, ⟨PyData.keyHash w.params (Str.ofString "functors"), .str (Str.ofString "functors") k3, .ref lf⟩, ⟨PyData.keyHash w.params (Str.ofString "functor_numbers"), .str (Str.ofString "functor_numbers") k4, .ref df⟩] 4) :: (lt, listOf tv.toArray nt) :: (da, oa) :: (lf, listOf fv.toArray nf) :: (df, of) :: tl) (FunOut w X dx lt da lf df k1 k2 k3 k4 [x, y] G tv nt oa tl) := functor_says w o.o1 o.o2 o.o3 o.o4 o.o5 o.l2 ap.a1 ap.a2 ap.a3 ap.a4 hl hb ha
def FuncOut (w : World) (X dx lt da lf df : Addr) (k1 k2 k3 k4 : Tok) (x : Str) (y : Int) (T : List Str) (G : List (List Int)) (tl : List (Addr × Obj)) (r : Value) (news' : List (Addr × Obj)) : Prop :=
  ∃ (tv : List Value) (nt : Nat) (oa : Obj) (fv : List Value) (nf : Nat) (of : Obj) (tl' : List (Addr × Obj)) (tk : Tok), r = .int (ix G [(ix T x : Nat), y] : Nat) tk ∧ tv.length = (ins T x).length ∧ AtomObj w oa (ins T x) ∧
    fv.length = (ins G [(ix T x : Nat), y]).length ∧ FunObj w of tl' (ins G [(ix T x : Nat), y]) ∧ (∀ p ∈ tl, p ∈ tl') ∧ Apart lt da lf df tl' ∧ news' = ((X, instObj 122 dx) :: (dx, dictOf [⟨PyData.keyHash w.params (Str.ofString "texts"), .str (Str.ofString "texts") k1, .ref lt⟩, ⟨PyData.keyHash w.params (Str.ofString "atom_numbers"), .str (Str.ofString "atom_numbers") k2, .ref da⟩, ⟨PyData.keyHash w.params (Str.ofString "functors"), .str (Str.ofString "functors") k3, .ref lf⟩, ⟨PyData.keyHash w.params (Str.ofString "functor_numbers"), .str (Str.ofString "functor_numbers") k4, .ref df⟩] 4) :: (lt, listOf tv.toArray nt) :: (da, oa) :: (lf, listOf fv.toArray nf) :: (df, of) :: tl')
theorem wordsC12 : True := by
  k_with_none
  k_with "call ref" => k_here; (with_reducible show wpAny _ _ (call (Value.ref 56) _) _ _ _); k_dflt (refine Says.go (by k_asm) (atom_use _ (by assumption) (by assumption) (by assumption) (by assumption) (by assumption)) (ret := ?_)); intro _ _ _ _ _ _ ho9; obtain ⟨_, _, _, _, rfl, _, _, rfl⟩ := ho9; (try dsimp only); (try k_fold)
  k_with "call ref" => k_here; (with_reducible show wpAny _ _ (call (Value.ref 70) _) _ _ _); k_dflt (refine Says.go (by k_asm) (functor_use _ (by assumption) (by assumption) (by assumption) (by assumption) (by assumption)) (ret := ?_)); intro _ _ _ _ _ _ ho9; obtain ⟨_, _, _, _, _, rfl, _, _, _, _, rfl⟩ := ho9; (try dsimp only); (try k_fold)
  trivial
set_option maxHeartbeats 4000000 in
theorem func_says (w : World) {X dx lt da lf df : Addr} {k1 k2 k3 k4 tx ty : Tok} {nt nf : Nat} {tv fv : List Value} {oa of : Obj} {T : List Str} {G : List (List Int)} {x : Str} {y : Int} {tl : List (Addr × Obj)}
    (o : Ord X dx lt da lf df) (ap : Apart lt da lf df tl) (hl : tv.length = T.length) (hb : T.length ≤ 500) (ha : AtomObj w oa T) (hl2 : fv.length = G.length) (hb2 : G.length ≤ 500) (ha2 : FunObj w of tl G) :
    Says w 77 [.ref X, .str x tx, .int y ty] 5 400 ((X, instObj 122 dx) :: (dx, dictOf [⟨PyData.keyHash w.params (Str.ofString "texts"), .str (Str.ofString "texts") k1, .ref lt⟩, ⟨PyData.keyHash w.params (Str.ofString "atom_numbers"), .str (Str.ofString "atom_numbers") k2, .ref da⟩, ⟨PyData.keyHash w.params (Str.ofString "functors"), .str (Str.ofString "functors") k3, .ref lf⟩, ⟨PyData.keyHash w.params (Str.ofString "functor_numbers"), .str (Str.ofString "functor_numbers") k4, .ref df⟩] 4) :: (lt, listOf tv.toArray nt) :: (da, oa) :: (lf, listOf fv.toArray nf) :: (df, of) :: tl) (FuncOut w X dx lt da lf df k1 k2 k3 k4 x y T G tl) := by
  intro loose mean mg mb dp un gd cn cs a ccd cl outer A₀ base h₀ L m s Q E B F X0 N T0 hk hdp hun hret
  refine wpAny_call ?_
  k_dflt ktr_enter
  k_steps
  exact hret _ _ _ _ (by k_asm) (by k_asm) ⟨_, _, _, _, _, _, _, _, rfl, by assumption, by assumption, by assumption, by assumption, by assumption, by assumption, rfl⟩
end Mine
end

section
open PySem PySem.W PyProof.Rows PySem.Spec PySem.Calls PyProof.V
set_option maxRecDepth 100000
namespace Mine
theorem fill13 : PySem.Challenge.rw_no0152_01 = PySem.Challenge.rw_no0152_01 ∧ hd.heap_39 = hd.heap_39 := by k_fill; exact ⟨rfl, rfl⟩
inductive Strs : List Value → List Str → Prop where
  | nil : Strs [] []
  | cons {x : Str} {t : Tok} {vs : List Value} {xs : List Str} : Strs vs xs → Strs (.str x t :: vs) (x :: xs)
inductive Rows2 (l : List (Addr × Obj)) : List Value → List (Str × Int) → Prop where
  | nil : Rows2 l [] []
  | cons {a : Addr} {x : Str} {n : Int} {t u : Tok} {k : Nat} {vs : List Value} {xs : List (Str × Int)} : (a, tup #[.str x t, .int n u] k) ∈ l → Rows2 l vs xs → Rows2 l (.ref a :: vs) ((x, n) :: xs)
def atomNames : List Str := ["[]", ".", "{}", "-", "+", "*", "/", ",", "|", ";", "->", "\\+", ":-", "?-", "-->", "!", "true", "fail", "false", "call", "=", "^", "error", "", "end_of_file", "system", "$VAR", "catch", "throw"].map Str.ofString
def funRows : List (Str × Int) := [(".", 2), (",", 2), (";", 2), ("->", 2), ("\\+", 1), (":-", 2), (":-", 1), ("?-", 1), ("-->", 2), ("{}", 1), ("=", 2), ("^", 2), ("-", 1), ("-", 2), ("+", 2), ("/", 2), ("error", 2), ("$VAR", 1), ("catch", 3), ("throw", 1), ("!", 0), ("true", 0), ("fail", 0), ("false", 0), ("call", 1), ("call", 2), ("call", 3), ("call", 4), ("call", 5), ("call", 6), ("call", 7), ("call", 8)].map fun p => (Str.ofString p.1, p.2)
/-- the tuple that a table's def hands back -/
def AtomsOut (news : List (Addr × Obj)) (r : Value) (news' : List (Addr × Obj)) : Prop := ∃ ax vs k, r = .ref ax ∧ Strs vs atomNames ∧ news' = (ax, tup vs.toArray k) :: news
def RowsOut (news : List (Addr × Obj)) (r : Value) (news' : List (Addr × Obj)) : Prop := ∃ ax vs k tl, r = .ref ax ∧ (∀ p ∈ tl, p.2.cls = .type "tuple") ∧ Rows2 tl vs funRows ∧ news' = (ax, tup vs.toArray k) :: (tl ++ news)
set_option maxHeartbeats 4000000 in
theorem atoms_says (w : World) (news : List (Addr × Obj)) : Says w 28 [] 3 100 news (AtomsOut news) := by
  intro loose mean mg mb dp un gd cn cs a ccd cl outer A₀ base h₀ L m s Q E B F X0 N T0 hk hdp hun hret
  refine wpAny_call ?_
  k_dflt ktr_enter
  k_steps
  refine hret _ _ _ _ (by k_asm) (by k_asm) ⟨_, _, _, rfl, ?_, rfl⟩
  repeat (first | exact Strs.nil | refine Strs.cons ?_)
set_option maxHeartbeats 8000000 in
theorem rows_says (w : World) (news : List (Addr × Obj)) : Says w 35 [] 3 100 news (RowsOut news) := by
  intro loose mean mg mb dp un gd cn cs a ccd cl outer A₀ base h₀ L m s Q E B F X0 N T0 hk hdp hun hret
  refine wpAny_call ?_
  k_dflt ktr_enter
  k_steps
  rename News h₀ _ _ _ => kN
  refine hret _ _ _ _ (by k_asm) kN ?_
  refine ⟨_, _, _, [_, _, _, _, _, _, _, _, _, _, _, _, _, _, _, _, _, _, _, _, _, _, _, _, _, _, _, _, _, _, _, _], rfl, ?_, ?_, rfl⟩
  · repeat (first | exact List.forall_mem_nil _ | refine List.forall_mem_cons.mpr ⟨rfl, ?_⟩)
  · repeat (first | exact Rows2.nil | refine Rows2.cons (by k_mem) ?_)
end Mine
end

section
open PySem PySem.W PyProof.Rows PySem.Spec PySem.Calls PyProof.V
set_option maxRecDepth 100000
namespace Mine
section
variable {prog : Program} {w : World} {A : Around} {E : Value → Shared → Prop} {s : Shared} {env : Env} {h₀ : Heap} {x : Str} {body : List Stmt} {Q : Flow → Shared → Prop}
/-- the end of a turn of a loop over a tuple -/
def TupEnd (h₀ : Heap) (L : Addr) (m : Str → Option Value) (I : Addr) (oI : Obj) (q : Addr × Obj) (J : List (Addr × Obj) → Prop) (s : Shared) (f : Flow) (s₂ : Shared) : Prop :=
  f = .next ∧ ∃ h' tk' nx', s₂ = { s with heap := h', toks := tk' } ∧ Fr h₀ L h' m ∧ News h₀ L h' ((I, oI) :: nx') ∧ (∀ p ∈ nx', p.1 ≠ I) ∧ q ∈ nx' ∧ J nx'
theorem TupEnd.intro {L : Addr} {m : Str → Option Value} {I : Addr} {oI : Obj} {q : Addr × Obj} {J : List (Addr × Obj) → Prop} {h' : Heap} {tk' : Nat} {nx' big : List (Addr × Obj)} (F : Fr h₀ L h' m) (N : News h₀ L h' big) (hs : ∀ p ∈ (I, oI) :: nx', p ∈ big) (hI : ∀ p ∈ nx', p.1 ≠ I) (hq : q ∈ nx') (hJ : J nx') :
    TupEnd h₀ L m I oI q J s .next { s with heap := h', toks := tk' } := ⟨rfl, h', tk', nx', rfl, F, news_sub N hs, hI, hq, hJ⟩
theorem tup_iter {ax : Addr} {vs : List Value} {k : Nat} {m₀ : Str → Option Value} {base : List (Addr × Obj)} (J : Nat → List (Addr × Obj) → Prop)
    (hh : A.handled = none) (F : Fr h₀ env.locals s.heap m₀) (N : News h₀ env.locals s.heap base) (hm : (ax, tup vs.toArray k) ∈ base) (hj : J 0 base)
    (turn : ∀ i v nx h tk I oI, oI.cls ≠ .type "tuple" → vs[i]? = some v → (∀ p ∈ nx, p.1 ≠ I) → J i nx → (ax, tup vs.toArray k) ∈ nx → Fr h₀ env.locals h (fun y => if y = x then some v else m₀ y) → News h₀ env.locals h ((I, oI) :: nx) →
      wpAny (model prog w) A (execs body env) (TupEnd h₀ env.locals (fun y => if y = x then some v else m₀ y) I oI (ax, tup vs.toArray k) (J (i + 1)) s) E { s with heap := h, toks := tk })
    (done : ∀ (u : Option Value) nx h tk, J vs.length nx → Fr h₀ env.locals h (fun y => if y = x then u else m₀ y) → News h₀ env.locals h nx → Q .next { s with heap := h, toks := tk }) :
    wpAny (model prog w) A (pyIter (.ref ax)) (fun it s₂ => LoopAtV prog w A h₀ env x body Q E it s₂) E s := by
  have hT : s.heap.IsTuple ax vs.toArray := N.isTup hm
  have hlt : ax < s.heap.objs.size := Heap.lt_size (N _ hm).1
  have hne : ax ≠ s.heap.objs.size := Nat.ne_of_lt hlt
  have hI0 : h₀.get? s.heap.objs.size = none := next_is_new F
  refine wpAny_pyIter_tuple hT ?_
  have W := Walks.tuple (prog := prog) (w := w) hh s.heap.objs.size ax hne vs.toArray
  have hlen : vs.toArray.size = vs.length := by simp
  rw [hlen] at W
  refine ⟨s.heap.objs.size, _, _, vs.length, _, _, m₀, base, (fun i m nx => (∀ z, z ≠ x → m z = m₀ z) ∧ (ax, tup vs.toArray k) ∈ nx ∧ J i nx), rfl, W, ?_, ?_, ?_, ⟨⟨_, Heap.get?_push_size _ rfl, rfl, rfl⟩, hT.at fun o e => Heap.get?_push_of_some _ e⟩, F.push _, (fun p hp => ⟨Heap.get?_push_of_some _ (N p hp).1, (N p hp).2⟩), ⟨fun _ _ => rfl, hm, hj⟩, ?_, ?_⟩
  · intro hmem
    rcases List.mem_cons.mp hmem with e | hmem
    · exact absurd F.ns.lt (e ▸ Nat.lt_irrefl _)
    · exact (N _ hm).2.1 (List.mem_singleton.mp hmem).symm
  · intro b hb
    rw [List.mem_singleton.mp hb]
    exact hI0
  · intro p hp hI
    exact absurd (Heap.lt_size (N p hp).1) ((List.mem_singleton.mp hI) ▸ Nat.lt_irrefl _)
  · rintro i v m₁ nx s₁ own ⟨h1, tk1, rfl⟩ hin hP ⟨hm1, hax, hJ⟩ hoff hown hget hfp hst F₁ N₁
    obtain ⟨⟨oI, hoI, hcI⟩, _⟩ := id hst
    have hcI : oI.cls ≠ .type "tuple" := by rw [hcI.1]; decide
    have hI : (s.heap.objs.size, oI) ∈ own := hfp _ (.head _) hI0 _ hoI
    have hne' : ∀ p ∈ nx, p.1 ≠ s.heap.objs.size := fun p hp e => hoff p hp (List.mem_singleton.mpr e)
    have ef : (fun y => if y = x then some v else m₁ y) = fun y => if y = x then some v else m₀ y := by
      funext y
      by_cases h : y = x
      · simp only [if_pos h]
      · simp only [if_neg h]; exact hm1 y h
    rw [ef] at F₁
    have N₂ : News h₀ env.locals h1 ((s.heap.objs.size, oI) :: nx) := fun p hp => by
      rcases List.mem_cons.mp hp with rfl | hp
      · exact N₁ _ (List.mem_append.mpr (.inl hI))
      · exact N₁ _ (List.mem_append.mpr (.inr hp))
    have hv : vs[i]? = some v := by simpa using hP
    refine wpAny_mono (turn i v nx h1 tk1 _ oI hcI hv hne' hJ hax F₁ N₂) (fun f s₂ p => ?_) fun _ _ e => e
    obtain ⟨rfl, h', tk', nx', rfl, F', N', hI', hq, hJ'⟩ := p
    refine .next ⟨rfl, h', tk', _, nx', rfl, F', fun p hp => ?_, fun p hp hq' => hI' p hp (List.mem_singleton.mp hq'), fun z hz => if_neg hz, hq, hJ'⟩
    rcases List.mem_append.mp hp with h | h
    · have hg := hget p h
      rcases List.mem_cons.mp (hown p h) with e | e
      · have e2 : p = (s.heap.objs.size, oI) := Prod.ext e (Option.some.inj (hg.symm.trans (e ▸ hoI)))
        rw [e2]; exact N' _ (.head _)
      · have e3 := List.mem_singleton.mp e
        have e4 : h1.get? ax = some (tup vs.toArray k) := (N₂ _ (.tail _ hax)).1
        have e2 : p = (ax, tup vs.toArray k) := Prod.ext e3 (Option.some.inj (hg.symm.trans (e3 ▸ e4)))
        rw [e2]; exact N' _ (.tail _ hq)
    · exact N' _ (.tail _ h)
  · rintro h' tk m' nx F' N' _ ⟨hm1, _, hJ⟩
    have ef : m' = fun y => if y = x then m' x else m₀ y := by
      funext y
      by_cases h : y = x
      · rw [if_pos h, h]
      · rw [if_neg h]; exact hm1 y h
    rw [ef] at F'
    exact done _ nx h' tk hJ F' N'
end
end Mine
end

section
open PySem PySem.W PyProof.Rows PySem.Spec PySem.Calls PyProof.V
set_option maxRecDepth 100000
namespace Mine
theorem fill15 : PySem.Challenge.rw_no0152_01 = PySem.Challenge.rw_no0152_01 ∧ hd.heap_39 = hd.heap_39 := by k_fill; exact ⟨rfl, rfl⟩
/-- the texts after the first n atoms -/
def TT (n : Nat) : List Str := (atomNames.take n).foldl ins []
/-- texts and keys after the first n functors -/
def stepF (p : List Str × List (List Int)) (r : Str × Int) : List Str × List (List Int) := (ins p.1 r.1, ins p.2 [(ix p.1 r.1 : Nat), r.2])
def FF (n : Nat) : List Str × List (List Int) := (funRows.take n).foldl stepF (TT 29, [])
theorem strs_get {vs : List Value} {xs : List Str} (h : Strs vs xs) : ∀ {i : Nat} {v : Value}, vs[i]? = some v → ∃ x t, v = .str x t ∧ xs[i]? = some x := by
  induction h with
  | nil => intro i v hv; simp at hv
  | cons _ ih =>
    intro i v hv
    cases i with
    | zero => exact ⟨_, _, (Option.some.inj (by simpa using hv)).symm, rfl⟩
    | succ i => exact ih (by simpa using hv)
theorem strs_len {vs : List Value} {xs : List Str} (h : Strs vs xs) : vs.length = xs.length := by
  induction h with
  | nil => rfl
  | cons _ ih => rw [List.length_cons, List.length_cons, ih]
theorem rows_get {l : List (Addr × Obj)} {vs : List Value} {xs : List (Str × Int)} (h : Rows2 l vs xs) : ∀ {i : Nat} {v : Value}, vs[i]? = some v → ∃ a x n t u k, v = .ref a ∧ (a, tup #[.str x t, .int n u] k) ∈ l ∧ xs[i]? = some (x, n) := by
  induction h with
  | nil => intro i v hv; simp at hv
  | cons hm _ ih =>
    intro i v hv
    cases i with
    | zero => exact ⟨_, _, _, _, _, _, (Option.some.inj (by simpa using hv)).symm, hm, rfl⟩
    | succ i => exact ih (by simpa using hv)
theorem rows_len {l : List (Addr × Obj)} {vs : List Value} {xs : List (Str × Int)} (h : Rows2 l vs xs) : vs.length = xs.length := by
  induction h with
  | nil => rfl
  | cons _ _ ih => rw [List.length_cons, List.length_cons, ih]
theorem take_snoc {α : Type} {l : List α} {i : Nat} {x : α} (h : l[i]? = some x) : l.take (i + 1) = l.take i ++ [x] := by rw [List.take_add_one, h]; rfl
theorem TT_succ {i : Nat} {x : Str} (h : atomNames[i]? = some x) : TT (i + 1) = ins (TT i) x := by unfold TT; rw [take_snoc h, List.foldl_append]; rfl
theorem FF_succ {i : Nat} {x : Str} {n : Int} (h : funRows[i]? = some (x, n)) : FF (i + 1) = stepF (FF i) (x, n) := by unfold FF; rw [take_snoc h, List.foldl_append]; rfl
theorem foldl_ins_le {K : Type} [DecidableEq K] : ∀ (l : List K) (T : List K), (l.foldl ins T).length ≤ T.length + l.length
  | [], T => Nat.le_refl _
  | x :: r, T => by
    have h1 := foldl_ins_le r (ins T x)
    have h2 := ins_le (l := T) (x := x)
    rw [List.foldl_cons, List.length_cons]; omega
theorem TT_le (n : Nat) : (TT n).length ≤ n := by
  have h := foldl_ins_le (atomNames.take n) []
  have h2 : (atomNames.take n).length ≤ n := List.length_take_le ..
  unfold TT
  simp only [List.length_nil] at h
  omega
theorem foldl_step_le : ∀ (l : List (Str × Int)) (p : List Str × List (List Int)), (l.foldl stepF p).1.length ≤ p.1.length + l.length ∧ (l.foldl stepF p).2.length ≤ p.2.length + l.length
  | [], p => ⟨Nat.le_refl _, Nat.le_refl _⟩
  | x :: r, p => by
    have h1 := foldl_step_le r (stepF p x)
    have h2 : (stepF p x).1.length ≤ p.1.length + 1 := ins_le
    have h3 : (stepF p x).2.length ≤ p.2.length + 1 := ins_le
    rw [List.foldl_cons, List.length_cons]; omega
theorem FF_le (n : Nat) : (FF n).1.length ≤ 29 + n ∧ (FF n).2.length ≤ n := by
  have h := foldl_step_le (funRows.take n) (TT 29, [])
  have h2 : (funRows.take n).length ≤ n := List.length_take_le ..
  have h3 := TT_le 29
  unfold FF
  simp only [List.length_nil] at h
  omega
abbrev cMake : Code := Code.builtin "type.__call__" ⟨[.ref 122], []⟩
theorem cMake_w : cMake.weight = 1 := by decide +kernel
theorem cMake_u : cMake.cUnits = 1 := by decide +kernel
theorem cMake_e : cMake.envs = [] := by rfl
theorem cMake_g : cMake.guards = [] := by rfl
theorem under_make {dp un : Nat} {gd : Option (List Code)} {cn : Str} {cs : Scope} {L a : Addr} {ccd : Value} {cl : List (Str × Addr)} {outer : List Env} :
    (ktrTop dp un gd cn cs L a ccd cl outer).under cMake = ktrTop (dp + 1) (un + 1) gd cn cs L a ccd cl outer := by
  show ({ handled := none, depth := dp + cMake.weight, frames := pushEnvs cMake.envs (some (envX cn cs L a ccd cl :: outer)), guards := pushGuards cMake.guards gd, units := un + cMake.cUnits } : Around) = _
  rw [cMake_w, cMake_u, cMake_e, cMake_g]
  rfl
theorem code_make {M : Model} {dp un : Nat} {gd : Option (List Code)} {cn : Str} {cs : Scope} {L a : Addr} {ccd : Value} {cl : List (Str × Addr)} {outer : List Env} {c : Code} {R : Result → Shared → Prop} {s : Shared}
    (h : codeAny M (ktrTop (dp + 1) (un + 1) gd cn cs L a ccd cl outer) c R s) : codeAny M ((ktrTop dp un gd cn cs L a ccd cl outer).under cMake) c R s := by rw [under_make]; exact h
def SymOut (w : World) (news : List (Addr × Obj)) (r : Value) (news' : List (Addr × Obj)) : Prop :=
  ∃ (X dx lt da lf df : Addr) (k1 k2 k3 k4 : Tok) (tv : List Value) (nt : Nat) (oa : Obj) (fv : List Value) (nf : Nat) (of : Obj) (tl : List (Addr × Obj)), r = .ref X ∧ Ord X dx lt da lf df ∧ Apart lt da lf df tl ∧ tv.length = (FF 32).1.length ∧ AtomObj w oa (FF 32).1 ∧
    fv.length = (FF 32).2.length ∧ FunObj w of tl (FF 32).2 ∧ (∀ p ∈ news, p ∈ tl) ∧ news' = ((X, instObj 122 dx) :: (dx, dictOf [⟨PyData.keyHash w.params (Str.ofString "texts"), .str (Str.ofString "texts") k1, .ref lt⟩, ⟨PyData.keyHash w.params (Str.ofString "atom_numbers"), .str (Str.ofString "atom_numbers") k2, .ref da⟩, ⟨PyData.keyHash w.params (Str.ofString "functors"), .str (Str.ofString "functors") k3, .ref lf⟩, ⟨PyData.keyHash w.params (Str.ofString "functor_numbers"), .str (Str.ofString "functor_numbers") k4, .ref df⟩] 4) :: (lt, listOf tv.toArray nt) :: (da, oa) :: (lf, listOf fv.toArray nf) :: (df, of) :: tl)
local macro_rules | `(tactic| tb_start) => `(tactic| (refine' call_cls ?k1 ?k2 ?k3 ?k4 ?k5 ?k6 ?_; (case k1 => k_asm); (case k2 => k_asm); (case k3 => k_asm); (case k4 => k_is); (case k5 => k_is); (case k6 => k_is); k_whole; intro x' d' h' F' N' l1 l2; (try k_lt l1); (try k_lt2 l2); (refine code_make ?_); ktr_enter))
local macro_rules | `(tactic| walk_at "pyIter ref") => `(tactic| (refine hold_of ?_))
def Self (X : Addr) (u : Str → Option Value) : Str → Option Value := fun y => if y = Str.ofString "self" then some (.ref X) else u y
theorem self_of {X : Addr} {m : Str → Option Value} (h : m (Str.ofString "self") = some (.ref X)) : m = Self X m := by
  funext y
  unfold Self
  by_cases a : y = Str.ofString "self"
  · rw [if_pos a, a, h]
  · rw [if_neg a]
theorem frame_self {X : Addr} {h₀ h : Heap} {L : Addr} {m : Str → Option Value} (F : Fr h₀ L h m) (e : m (Str.ofString "self") = some (.ref X)) : ∃ u, Fr h₀ L h (Self X u) := ⟨m, self_of e ▸ F⟩
theorem led_perm {h₀ h : Heap} {L : Addr} {w : World} {X dx lt da lf df : Addr} {k1 k2 k3 k4 : Tok} {oa of : Obj} {q : Addr × Obj} {news : List (Addr × Obj)} (N : News h₀ L h (q :: (df, of) :: (lf, listOf #[] 0) :: (da, oa) :: (lt, listOf #[] 0) :: (X, instObj 122 dx) :: (dx, dictOf [⟨PyData.keyHash w.params (Str.ofString "texts"), .str (Str.ofString "texts") k1, .ref lt⟩, ⟨PyData.keyHash w.params (Str.ofString "atom_numbers"), .str (Str.ofString "atom_numbers") k2, .ref da⟩, ⟨PyData.keyHash w.params (Str.ofString "functors"), .str (Str.ofString "functors") k3, .ref lf⟩, ⟨PyData.keyHash w.params (Str.ofString "functor_numbers"), .str (Str.ofString "functor_numbers") k4, .ref df⟩] 4) :: news)) : ∃ k1 k2 k3 k4, News h₀ L h ((X, instObj 122 dx) :: (dx, dictOf [⟨PyData.keyHash w.params (Str.ofString "texts"), .str (Str.ofString "texts") k1, .ref lt⟩, ⟨PyData.keyHash w.params (Str.ofString "atom_numbers"), .str (Str.ofString "atom_numbers") k2, .ref da⟩, ⟨PyData.keyHash w.params (Str.ofString "functors"), .str (Str.ofString "functors") k3, .ref lf⟩, ⟨PyData.keyHash w.params (Str.ofString "functor_numbers"), .str (Str.ofString "functor_numbers") k4, .ref df⟩] 4) :: (lt, listOf #[] 0) :: (da, oa) :: (lf, listOf #[] 0) :: (df, of) :: q :: news) := by
  refine ⟨k1, k2, k3, k4, news_sub N ?_⟩
  intro p hp
  simp only [List.mem_cons] at hp ⊢
  rcases hp with h | h | h | h | h | h | h | h <;> simp only [h, true_or, or_true]
theorem cls_ne {h₀ h : Heap} {L H : Addr} {big : List (Addr × Obj)} {o : Obj} (N : News h₀ L h big) (hH : (H, o) ∈ big) (ho : o.cls ≠ .type "tuple") {p : Addr × Obj} (hp : p ∈ big) (hc : p.2.cls = .type "tuple") : p.1 ≠ H := by
  obtain ⟨a, q⟩ := p
  rintro rfl
  have e := (N.get hp).symm.trans (N.get hH)
  exact ho (by rw [← Option.some.inj e]; exact hc)
theorem list_cls {vs : Array Value} {n : Nat} : (listOf vs n).cls ≠ .type "tuple" := by show Value.type "list" ≠ Value.type "tuple"; decide
theorem AtomObj.cls {w : World} {o : Obj} {T : List Str} (h : AtomObj w o T) : o.cls ≠ .type "tuple" := by
  obtain ⟨kvs, ⟨es, ep, hc, _⟩, _⟩ := h
  rw [hc.1]; decide
theorem FunObj.cls {w : World} {o : Obj} {keys : List (Addr × Obj)} {G : List (List Int)} (h : FunObj w o keys G) : o.cls ≠ .type "tuple" := by
  rw [h.1.1]; decide
theorem perm8 {a b c d e f g : Addr × Obj} {tl : List (Addr × Obj)} : ∀ p ∈ a :: b :: c :: d :: e :: f :: g :: tl, p ∈ b :: c :: d :: e :: f :: g :: a :: tl := by
  intro p hp
  simp only [List.mem_cons] at hp ⊢
  rcases hp with h | h | h | h | h | h | h | h <;> simp only [h, true_or, or_true]
theorem off6 {I : Addr} {p1 p2 p3 p4 p5 p6 q1 q2 q3 q4 q5 q6 : Addr × Obj} {tl tl' : List (Addr × Obj)} (h : ∀ p ∈ p1 :: p2 :: p3 :: p4 :: p5 :: p6 :: tl, p.1 ≠ I) (e1 : q1.1 = p1.1) (e2 : q2.1 = p2.1) (e3 : q3.1 = p3.1) (e4 : q4.1 = p4.1) (e5 : q5.1 = p5.1) (e6 : q6.1 = p6.1) (ht : ∀ p ∈ tl', p.1 ≠ I) : ∀ p ∈ q1 :: q2 :: q3 :: q4 :: q5 :: q6 :: tl', p.1 ≠ I := by
  intro p hp
  rcases List.mem_cons.mp hp with rfl | hp
  · rw [e1]; exact h _ (.head _)
  rcases List.mem_cons.mp hp with rfl | hp
  · rw [e2]; exact h _ (.tail _ (.head _))
  rcases List.mem_cons.mp hp with rfl | hp
  · rw [e3]; exact h _ (.tail _ (.tail _ (.head _)))
  rcases List.mem_cons.mp hp with rfl | hp
  · rw [e4]; exact h _ (.tail _ (.tail _ (.tail _ (.head _))))
  rcases List.mem_cons.mp hp with rfl | hp
  · rw [e5]; exact h _ (.tail _ (.tail _ (.tail _ (.tail _ (.head _)))))
  rcases List.mem_cons.mp hp with rfl | hp
  · rw [e6]; exact h _ (.tail _ (.tail _ (.tail _ (.tail _ (.tail _ (.head _))))))
  · exact ht p hp
theorem off6_tl {I : Addr} {p1 p2 p3 p4 p5 p6 : Addr × Obj} {tl : List (Addr × Obj)} (h : ∀ p ∈ p1 :: p2 :: p3 :: p4 :: p5 :: p6 :: tl, p.1 ≠ I) : ∀ p ∈ tl, p.1 ≠ I := fun p hp => h p (.tail _ (.tail _ (.tail _ (.tail _ (.tail _ (.tail _ hp))))))
theorem Apart.cons {I lt da lf df : Addr} {oI : Obj} {p1 p2 p3 p4 p5 p6 : Addr × Obj} {tl tl' : List (Addr × Obj)} (ap : Apart lt da lf df tl) (h : ∀ p ∈ p1 :: p2 :: p3 :: p4 :: p5 :: p6 :: tl', p.1 ≠ I) (e3 : p3.1 = lt) (e4 : p4.1 = da) (e5 : p5.1 = lf) (e6 : p6.1 = df) : Apart lt da lf df ((I, oI) :: tl) := by
  intro p hp
  rcases List.mem_cons.mp hp with rfl | hp
  · refine ⟨?_, ?_, ?_, ?_⟩
    · rw [← e3]; exact (h _ (.tail _ (.tail _ (.head _)))).symm
    · rw [← e4]; exact (h _ (.tail _ (.tail _ (.tail _ (.head _))))).symm
    · rw [← e5]; exact (h _ (.tail _ (.tail _ (.tail _ (.tail _ (.head _)))))).symm
    · rw [← e6]; exact (h _ (.tail _ (.tail _ (.tail _ (.tail _ (.tail _ (.head _))))))).symm
  · exact ap p hp
theorem TT_le2 (n : Nat) : (TT n).length ≤ 500 := by
  have h := foldl_ins_le (atomNames.take n) []
  have h2 : (atomNames.take n).length ≤ 29 := List.length_take_le' ..
  unfold TT
  simp only [List.length_nil] at h
  omega
theorem FF_le2 (n : Nat) : (FF n).1.length ≤ 500 ∧ (FF n).2.length ≤ 500 := by
  have h := foldl_step_le (funRows.take n) (TT 29, [])
  have h2 : (funRows.take n).length ≤ 32 := List.length_take_le' ..
  have h3 := TT_le 29
  unfold FF
  simp only [List.length_nil] at h
  omega
theorem perm_rows {a b c d e f g : Addr × Obj} {tl2 tl : List (Addr × Obj)} : ∀ p ∈ b :: c :: d :: e :: f :: g :: a :: (tl2 ++ tl), p ∈ a :: (tl2 ++ (b :: c :: d :: e :: f :: g :: tl)) := by
  intro p hp
  simp only [List.mem_cons, List.mem_append] at hp ⊢
  rcases hp with h | h | h | h | h | h | h | h | h <;> simp only [h, true_or, or_true]
theorem Apart.rows {h₀ h : Heap} {L lt da lf df ax : Addr} {p1 p2 : Addr × Obj} {v1 v2 v3 : Array Value} {n1 n2 n3 : Nat} {oa of : Obj} {tl2 tl : List (Addr × Obj)} (ap : Apart lt da lf df tl) (N : News h₀ L h (p1 :: p2 :: (lt, listOf v1 n1) :: (da, oa) :: (lf, listOf v2 n2) :: (df, of) :: (ax, tup v3 n3) :: (tl2 ++ tl)))
    (al : ∀ p ∈ tl2, p.2.cls = .type "tuple") (ca : oa.cls ≠ .type "tuple") (cf : of.cls ≠ .type "tuple") : Apart lt da lf df ((ax, tup v3 n3) :: (tl2 ++ tl)) := by
  have one : ∀ p ∈ p1 :: p2 :: (lt, listOf v1 n1) :: (da, oa) :: (lf, listOf v2 n2) :: (df, of) :: (ax, tup v3 n3) :: (tl2 ++ tl), p.2.cls = .type "tuple" → p.1 ≠ lt ∧ p.1 ≠ da ∧ p.1 ≠ lf ∧ p.1 ≠ df := fun p hp hc =>
    ⟨cls_ne N (.tail _ (.tail _ (.head _))) list_cls hp hc, cls_ne N (.tail _ (.tail _ (.tail _ (.head _)))) ca hp hc, cls_ne N (.tail _ (.tail _ (.tail _ (.tail _ (.head _))))) list_cls hp hc, cls_ne N (.tail _ (.tail _ (.tail _ (.tail _ (.tail _ (.head _)))))) cf hp hc⟩
  intro p hp
  rcases List.mem_cons.mp hp with rfl | hp
  · exact one _ (.tail _ (.tail _ (.tail _ (.tail _ (.tail _ (.tail _ (.head _))))))) rfl
  rcases List.mem_append.mp hp with hp | hp
  · exact one p (.tail _ (.tail _ (.tail _ (.tail _ (.tail _ (.tail _ (.tail _ (List.mem_append.mpr (.inl hp))))))))) (al p hp)
  · exact ap p hp
theorem FunObj.off {w : World} {h₀ h : Heap} {L I : Addr} {oI o : Obj} {big keys : List (Addr × Obj)} {G : List (List Int)} (h1 : FunObj w o keys G) (N : News h₀ L h big) (hI : (I, oI) ∈ big) (ho : oI.cls ≠ .type "tuple") (hs : ∀ p ∈ keys, p ∈ big) : FunObj w o (off I keys) G := by
  obtain ⟨hc, es, ep, xs, hd, he, hn, hk, hf⟩ := h1
  exact ⟨hc, es, ep, xs, hd, he, hn, fun x hx => let ⟨ok, hm, t⟩ := hk x hx; ⟨ok, off_mem hm (cls_ne N hI ho (hs _ hm) t.1), t⟩, hf⟩
/-- what stands between the turns of the first loop, of the second -/
def J1 (w : World) (X dx lt da lf df : Addr) (k1 k2 k3 k4 : Tok) (of : Obj) (tl : List (Addr × Obj)) (i : Nat) (nx : List (Addr × Obj)) : Prop :=
  ∃ (tv : List Value) (nt : Nat) (oa : Obj), tv.length = (TT i).length ∧ AtomObj w oa (TT i) ∧ nx = ((X, instObj 122 dx) :: (dx, dictOf [⟨PyData.keyHash w.params (Str.ofString "texts"), .str (Str.ofString "texts") k1, .ref lt⟩, ⟨PyData.keyHash w.params (Str.ofString "atom_numbers"), .str (Str.ofString "atom_numbers") k2, .ref da⟩, ⟨PyData.keyHash w.params (Str.ofString "functors"), .str (Str.ofString "functors") k3, .ref lf⟩, ⟨PyData.keyHash w.params (Str.ofString "functor_numbers"), .str (Str.ofString "functor_numbers") k4, .ref df⟩] 4) :: (lt, listOf tv.toArray nt) :: (da, oa) :: (lf, listOf ([] : List Value).toArray 0) :: (df, of) :: tl)
def J2 (w : World) (X dx lt da lf df : Addr) (k1 k2 k3 k4 : Tok) (keep : List (Addr × Obj)) (i : Nat) (nx : List (Addr × Obj)) : Prop :=
  ∃ (tv : List Value) (nt : Nat) (oa : Obj) (fv : List Value) (nf : Nat) (of : Obj) (tl : List (Addr × Obj)), tv.length = (FF i).1.length ∧ AtomObj w oa (FF i).1 ∧ fv.length = (FF i).2.length ∧ FunObj w of tl (FF i).2 ∧ (∀ p ∈ keep, p ∈ tl) ∧ Apart lt da lf df tl ∧ nx = ((X, instObj 122 dx) :: (dx, dictOf [⟨PyData.keyHash w.params (Str.ofString "texts"), .str (Str.ofString "texts") k1, .ref lt⟩, ⟨PyData.keyHash w.params (Str.ofString "atom_numbers"), .str (Str.ofString "atom_numbers") k2, .ref da⟩, ⟨PyData.keyHash w.params (Str.ofString "functors"), .str (Str.ofString "functors") k3, .ref lf⟩, ⟨PyData.keyHash w.params (Str.ofString "functor_numbers"), .str (Str.ofString "functor_numbers") k4, .ref df⟩] 4) :: (lt, listOf tv.toArray nt) :: (da, oa) :: (lf, listOf fv.toArray nf) :: (df, of) :: tl)
theorem J2_end {w : World} {X dx lt da lf df : Addr} {k1 k2 k3 k4 : Tok} {keep tl tl9 : List (Addr × Obj)} {i : Nat} {x : Str} {n : Int} {tv9 fv9 : List Value} {nt9 nf9 tk : Nat} {oa9 of9 oI : Obj} {I : Addr} {h₀ h : Heap} {L : Addr} {m : Str → Option Value} {s : Shared} {q : Addr × Obj} {o3 o4 o5 o6 : Obj}
    (hx : funRows[i]? = some (x, n)) (l9 : tv9.length = (ins (FF i).1 x).length) (a9 : AtomObj w oa9 (ins (FF i).1 x)) (l29 : fv9.length = (ins (FF i).2 [(ix (FF i).1 x : Nat), n]).length) (a29 : FunObj w of9 tl9 (ins (FF i).2 [(ix (FF i).1 x : Nat), n]))
    (s9 : ∀ p ∈ (I, oI) :: tl, p ∈ tl9) (ap9 : Apart lt da lf df tl9) (F : Fr h₀ L h m) (N : News h₀ L h ((X, instObj 122 dx) :: (dx, dictOf [⟨PyData.keyHash w.params (Str.ofString "texts"), .str (Str.ofString "texts") k1, .ref lt⟩, ⟨PyData.keyHash w.params (Str.ofString "atom_numbers"), .str (Str.ofString "atom_numbers") k2, .ref da⟩, ⟨PyData.keyHash w.params (Str.ofString "functors"), .str (Str.ofString "functors") k3, .ref lf⟩, ⟨PyData.keyHash w.params (Str.ofString "functor_numbers"), .str (Str.ofString "functor_numbers") k4, .ref df⟩] 4) :: (lt, listOf tv9.toArray nt9) :: (da, oa9) :: (lf, listOf fv9.toArray nf9) :: (df, of9) :: tl9)) (hI : ∀ p ∈ (X, instObj 122 dx) :: (dx, dictOf [⟨PyData.keyHash w.params (Str.ofString "texts"), .str (Str.ofString "texts") k1, .ref lt⟩, ⟨PyData.keyHash w.params (Str.ofString "atom_numbers"), .str (Str.ofString "atom_numbers") k2, .ref da⟩, ⟨PyData.keyHash w.params (Str.ofString "functors"), .str (Str.ofString "functors") k3, .ref lf⟩, ⟨PyData.keyHash w.params (Str.ofString "functor_numbers"), .str (Str.ofString "functor_numbers") k4, .ref df⟩] 4) :: (lt, o3) :: (da, o4) :: (lf, o5) :: (df, o6) :: tl, p.1 ≠ I)
    (hc : oI.cls ≠ .type "tuple") (hk : ∀ p ∈ keep, p ∈ tl) (hq : q ∈ keep) : TupEnd h₀ L m I oI q (J2 w X dx lt da lf df k1 k2 k3 k4 keep (i + 1)) s .next { s with heap := h, toks := tk } := by
  have hN9 : ∀ p ∈ tl9, p ∈ ((X, instObj 122 dx) :: (dx, dictOf [⟨PyData.keyHash w.params (Str.ofString "texts"), .str (Str.ofString "texts") k1, .ref lt⟩, ⟨PyData.keyHash w.params (Str.ofString "atom_numbers"), .str (Str.ofString "atom_numbers") k2, .ref da⟩, ⟨PyData.keyHash w.params (Str.ofString "functors"), .str (Str.ofString "functors") k3, .ref lf⟩, ⟨PyData.keyHash w.params (Str.ofString "functor_numbers"), .str (Str.ofString "functor_numbers") k4, .ref df⟩] 4) :: (lt, listOf tv9.toArray nt9) :: (da, oa9) :: (lf, listOf fv9.toArray nf9) :: (df, of9) :: tl9) := fun p hp => .tail _ (.tail _ (.tail _ (.tail _ (.tail _ (.tail _ hp)))))
  have hI9 := s9 _ (.head _)
  have ht := off6_tl hI
  have hkk : ∀ p ∈ keep, p ∈ Mine.off I tl9 := fun p hp => off_mem (s9 _ (.tail _ (hk p hp))) (ht p (hk p hp))
  have hfun := a29.off N (hN9 _ hI9) hc hN9
  refine TupEnd.intro F N (nx' := ((X, instObj 122 dx) :: (dx, dictOf [⟨PyData.keyHash w.params (Str.ofString "texts"), .str (Str.ofString "texts") k1, .ref lt⟩, ⟨PyData.keyHash w.params (Str.ofString "atom_numbers"), .str (Str.ofString "atom_numbers") k2, .ref da⟩, ⟨PyData.keyHash w.params (Str.ofString "functors"), .str (Str.ofString "functors") k3, .ref lf⟩, ⟨PyData.keyHash w.params (Str.ofString "functor_numbers"), .str (Str.ofString "functor_numbers") k4, .ref df⟩] 4) :: (lt, listOf tv9.toArray nt9) :: (da, oa9) :: (lf, listOf fv9.toArray nf9) :: (df, of9) :: Mine.off I tl9)) ?_ (off6 hI rfl rfl rfl rfl rfl rfl off_ne) (.tail _ (.tail _ (.tail _ (.tail _ (.tail _ (.tail _ (hkk _ hq))))))) ⟨tv9, nt9, oa9, fv9, nf9, of9, Mine.off I tl9, by rw [FF_succ hx]; exact l9, by rw [FF_succ hx]; exact a9, by rw [FF_succ hx]; exact l29, by rw [FF_succ hx]; exact hfun, hkk, fun p hp => ap9 p (off_sub p hp), rfl⟩
  intro p hp
  rcases List.mem_cons.mp hp with rfl | hp
  · exact hN9 _ hI9
  rcases List.mem_cons.mp hp with rfl | hp
  · exact .head _
  rcases List.mem_cons.mp hp with rfl | hp
  · exact .tail _ (.head _)
  rcases List.mem_cons.mp hp with rfl | hp
  · exact .tail _ (.tail _ (.head _))
  rcases List.mem_cons.mp hp with rfl | hp
  · exact .tail _ (.tail _ (.tail _ (.head _)))
  rcases List.mem_cons.mp hp with rfl | hp
  · exact .tail _ (.tail _ (.tail _ (.tail _ (.head _))))
  rcases List.mem_cons.mp hp with rfl | hp
  · exact .tail _ (.tail _ (.tail _ (.tail _ (.tail _ (.head _)))))
  · exact hN9 p (off_sub p hp)
theorem J1_end {w : World} {X dx lt da lf df : Addr} {k1 k2 k3 k4 : Tok} {tl : List (Addr × Obj)} {i : Nat} {x : Str} {tv9 : List Value} {nt9 tk : Nat} {oa9 of oI : Obj} {I : Addr} {h₀ h : Heap} {L : Addr} {m : Str → Option Value} {s : Shared} {q : Addr × Obj} {o3 o4 o5 o6 : Obj}
    (hx : atomNames[i]? = some x) (l9 : tv9.length = (ins (TT i) x).length) (a9 : AtomObj w oa9 (ins (TT i) x))
    (F : Fr h₀ L h m) (N : News h₀ L h ((X, instObj 122 dx) :: (dx, dictOf [⟨PyData.keyHash w.params (Str.ofString "texts"), .str (Str.ofString "texts") k1, .ref lt⟩, ⟨PyData.keyHash w.params (Str.ofString "atom_numbers"), .str (Str.ofString "atom_numbers") k2, .ref da⟩, ⟨PyData.keyHash w.params (Str.ofString "functors"), .str (Str.ofString "functors") k3, .ref lf⟩, ⟨PyData.keyHash w.params (Str.ofString "functor_numbers"), .str (Str.ofString "functor_numbers") k4, .ref df⟩] 4) :: (lt, listOf tv9.toArray nt9) :: (da, oa9) :: (lf, listOf ([] : List Value).toArray 0) :: (df, of) :: (I, oI) :: tl)) (hI : ∀ p ∈ (X, instObj 122 dx) :: (dx, dictOf [⟨PyData.keyHash w.params (Str.ofString "texts"), .str (Str.ofString "texts") k1, .ref lt⟩, ⟨PyData.keyHash w.params (Str.ofString "atom_numbers"), .str (Str.ofString "atom_numbers") k2, .ref da⟩, ⟨PyData.keyHash w.params (Str.ofString "functors"), .str (Str.ofString "functors") k3, .ref lf⟩, ⟨PyData.keyHash w.params (Str.ofString "functor_numbers"), .str (Str.ofString "functor_numbers") k4, .ref df⟩] 4) :: (lt, o3) :: (da, o4) :: (lf, o5) :: (df, o6) :: tl, p.1 ≠ I)
    (hq : q ∈ tl) : TupEnd h₀ L m I oI q (J1 w X dx lt da lf df k1 k2 k3 k4 of tl (i + 1)) s .next { s with heap := h, toks := tk } :=
  TupEnd.intro F N (nx' := ((X, instObj 122 dx) :: (dx, dictOf [⟨PyData.keyHash w.params (Str.ofString "texts"), .str (Str.ofString "texts") k1, .ref lt⟩, ⟨PyData.keyHash w.params (Str.ofString "atom_numbers"), .str (Str.ofString "atom_numbers") k2, .ref da⟩, ⟨PyData.keyHash w.params (Str.ofString "functors"), .str (Str.ofString "functors") k3, .ref lf⟩, ⟨PyData.keyHash w.params (Str.ofString "functor_numbers"), .str (Str.ofString "functor_numbers") k4, .ref df⟩] 4) :: (lt, listOf tv9.toArray nt9) :: (da, oa9) :: (lf, listOf ([] : List Value).toArray 0) :: (df, of) :: tl)) perm8 (off6 hI rfl rfl rfl rfl rfl rfl (off6_tl hI)) (.tail _ (.tail _ (.tail _ (.tail _ (.tail _ (.tail _ hq)))))) ⟨tv9, nt9, oa9, by rw [TT_succ hx]; exact l9, by rw [TT_succ hx]; exact a9, rfl⟩
theorem atom_empty {w : World} {o : Obj} (hd : o.IsDictOf (PySem.strKind PySem.Challenge.pw_no0152_01 w) []) (hf : FlatPairs PyData.str [] []) : AtomObj w o [] := ⟨[], hd, hf⟩
theorem wordsC15 : True := by
  k_with_none
  k_with "call ref" => k_here; (with_reducible show wpAny _ _ (call (Value.ref 28) _) _ _ _); k_dflt (refine Says.go (by k_asm) (atoms_says _ _) (ret := ?_)); intro _ _ _ _ _ _ ho9; obtain ⟨_, _, _, rfl, _, rfl⟩ := ho9; (try dsimp only); (try k_fold)
  k_with "call ref" => k_here; (with_reducible show wpAny _ _ (call (Value.ref 35) _) _ _ _); k_dflt (refine Says.go (by k_asm) (rows_says _ _) (ret := ?_)); intro _ _ _ _ _ _ ho9; obtain ⟨_, _, _, _, rfl, _, _, rfl⟩ := ho9; (try dsimp only); (try k_fold)
  k_with "call ref" => k_here; (with_reducible show wpAny _ _ (call (Value.ref 56) _) _ _ _); k_dflt (refine Says.go (by k_asm) (atom_use _ (by assumption) (by assumption) (by assumption) (by assumption) (by assumption)) (ret := ?_)); intro _ _ _ _ _ _ ho9; obtain ⟨_, _, _, _, rfl, _, _, rfl⟩ := ho9; (try dsimp only); (try k_fold)
  k_with "call ref" => k_here; (with_reducible show wpAny _ _ (call (Value.ref 77) _) _ _ _); k_dflt (refine Says.go (by k_asm) (func_says _ (by assumption) (by assumption) (by assumption) (by assumption) (by assumption) (by assumption) (by assumption) (by assumption)) (ret := ?_)); intro _ _ _ _ _ _ ho9; obtain ⟨_, _, _, _, _, _, _, _, rfl, _, _, _, _, _, _, rfl⟩ := ho9; (try dsimp only); (try k_fold)
  trivial
set_option maxHeartbeats 8000000 in
theorem sym_says (w : World) (news : List (Addr × Obj)) : Says w 122 [] 8 900 news (SymOut w news) := by
  intro loose mean mg mb dp un gd cn cs a ccd cl outer A₀ base h₀ L m s Q E B F X0 N T0 hk hdp hun hret
  k_dflt tb_start
  k_steps
  rename_i X dx hA FA NA lA1 lA2 g' L' hB FG' B' X' T' qk0 ek0 tkA lt hC lC hD tkB da hE oa loA hsA fsA hiA fiA lD hF lf hG lE hH df hI of loF hsF fsF hiF fiF lH hJ lF' N' h9 tk9 F9 ax vs kk st N9
  have o : Ord X dx lt da lf df := ⟨lA2, lC.1, lD.1, lE.1, lH.1, loA, loF⟩
  have aA : AtomObj w oa [] := atom_empty hsA fsA
  have aF : ∀ k, FunObj w of k [] := fun k => FunObj.empty hiF
  obtain ⟨k1, k2, k3, k4, N1⟩ := led_perm N9
  have ap1 : Apart lt da lf df ((ax, tup vs.toArray kk) :: news) := by
    intro p hp
    rcases List.mem_cons.mp hp with rfl | hp
    · exact ⟨cls_ne N1 (H := lt) (by k_mem) list_cls (p := (ax, tup vs.toArray kk)) (by k_mem) rfl, cls_ne N1 (H := da) (by k_mem) aA.cls (p := (ax, tup vs.toArray kk)) (by k_mem) rfl, cls_ne N1 (H := lf) (by k_mem) list_cls (p := (ax, tup vs.toArray kk)) (by k_mem) rfl, cls_ne N1 (H := df) (by k_mem) (aF []).cls (p := (ax, tup vs.toArray kk)) (by k_mem) rfl⟩
    · exact ⟨Nat.ne_of_lt (tb_ltOf lC.2.2 p hp), Nat.ne_of_lt (tb_ltOf lD.2.2.2 p hp), Nat.ne_of_lt (tb_ltOf lE.2.2.2.2 p hp), Nat.ne_of_lt (tb_ltOf lH.2.2.2.2.2 p hp)⟩
  obtain ⟨m9, F1⟩ := frame_self (X := X) F9 (by exact rfl)
  clear F9 N9 N' lF' lH lE lD lC fsA fsF hiA hsA hsF hiF NA FA lA1 lA2
  refine hold_in (tup_iter (vs := vs) (k := kk) (J1 w X dx lt da lf df k1 k2 k3 k4 of ((ax, tup vs.toArray kk) :: news)) rfl F1 (base := ((X, instObj 122 dx) :: (dx, dictOf [⟨PyData.keyHash w.params (Str.ofString "texts"), .str (Str.ofString "texts") k1, .ref lt⟩, ⟨PyData.keyHash w.params (Str.ofString "atom_numbers"), .str (Str.ofString "atom_numbers") k2, .ref da⟩, ⟨PyData.keyHash w.params (Str.ofString "functors"), .str (Str.ofString "functors") k3, .ref lf⟩, ⟨PyData.keyHash w.params (Str.ofString "functor_numbers"), .str (Str.ofString "functor_numbers") k4, .ref df⟩] 4) :: (lt, listOf ([] : List Value).toArray 0) :: (da, oa) :: (lf, listOf ([] : List Value).toArray 0) :: (df, of) :: (ax, tup vs.toArray kk) :: news)) N1 (by k_mem) ⟨[], 0, oa, rfl, aA, rfl⟩ ?turn ?done)
  case turn =>
    clear F1 N1
    intro i v nx h tk I oI hcI hv hI hJ hm F1 N1
    obtain ⟨tv, nt, oa, hl, ha, rfl⟩ := hJ
    obtain ⟨x, t, rfl, hx⟩ := strs_get st hv
    have N2 := news_sub N1 perm7
    have ap2 := ap1.cons (oI := oI) hI rfl rfl rfl rfl
    have hb := TT_le2 i
    clear N1 hm
    k_steps
    exact J1_end hx (by assumption) (by assumption) (by k_asm) (by k_asm) hI (.head _)
  case done =>
    clear F1 N1
    intro u nx h tk hJ F1 N1
    obtain ⟨tv, nt, oa, hl, ha, rfl⟩ := hJ
    have hv : vs.length = 29 := strs_len st
    rw [hv] at hl ha
    k_steps
    rename_i h2 tk2 F2 ax2 vs2 kk2 tl2 al2 st2 N2
    have N3 := news_sub N2 perm_rows
    clear N2 N1
    have ap3 := ap1.rows N3 al2 ha.cls (aF []).cls
    refine hold_in (tup_iter (vs := vs2) (k := kk2) (J2 w X dx lt da lf df k1 k2 k3 k4 ((ax2, tup vs2.toArray kk2) :: (tl2 ++ ((ax, tup vs.toArray kk) :: news)))) rfl F2 (base := ((X, instObj 122 dx) :: (dx, dictOf [⟨PyData.keyHash w.params (Str.ofString "texts"), .str (Str.ofString "texts") k1, .ref lt⟩, ⟨PyData.keyHash w.params (Str.ofString "atom_numbers"), .str (Str.ofString "atom_numbers") k2, .ref da⟩, ⟨PyData.keyHash w.params (Str.ofString "functors"), .str (Str.ofString "functors") k3, .ref lf⟩, ⟨PyData.keyHash w.params (Str.ofString "functor_numbers"), .str (Str.ofString "functor_numbers") k4, .ref df⟩] 4) :: (lt, listOf tv.toArray nt) :: (da, oa) :: (lf, listOf ([] : List Value).toArray 0) :: (df, of) :: (ax2, tup vs2.toArray kk2) :: (tl2 ++ ((ax, tup vs.toArray kk) :: news)))) N3 (by k_mem) ⟨tv, nt, oa, [], 0, of, _, hl, ha, rfl, aF _, fun _ h => h, ap3, rfl⟩ ?turn ?done)
    case turn =>
      clear F2 N3
      intro i v nx h tk I oI hcI hv hI hJ hm F1 N1
      obtain ⟨tv, nt, oa, fv, nf, of, tl, hl, ha, hl2, ha2, hk, ap, rfl⟩ := hJ
      obtain ⟨a, x, n, t, u, kq, rfl, hr, hx⟩ := rows_get st2 hv
      have hr2 := hk _ (.tail _ (List.mem_append.mpr (.inl hr)))
      have N2 := news_sub N1 perm7
      have ap2 := ap.cons (oI := oI) hI rfl rfl rfl rfl
      have ha3 := ha2.mono (keys' := (I, oI) :: tl) fun p hp => .tail _ hp
      obtain ⟨hb, hb2⟩ := FF_le2 i
      clear N1 hm ha2 hr
      k_steps
      exact J2_end hx (by assumption) (by assumption) (by assumption) (by assumption) (by assumption) (by assumption) (by k_asm) (by k_asm) hI hcI hk (.head _)
    case done =>
      clear F2 N3
      intro u2 nx h tk hJ F1 N1
      obtain ⟨tv, nt, oa, fv, nf, of, tl, hl, ha, hl2, ha2, hk, ap, rfl⟩ := hJ
      have hv : vs2.length = 32 := rows_len st2
      rw [hv] at hl ha hl2 ha2
      k_steps
      exact hret _ _ _ _ (by k_asm) (by k_asm) ⟨X, dx, lt, da, lf, df, k1, k2, k3, k4, tv, nt, oa, fv, nf, of, tl, rfl, o, ap, hl, ha, hl2, ha2, fun p hp => hk _ (.tail _ (List.mem_append.mpr (.inr (.tail _ hp)))), rfl⟩

end Mine
end

section
open PySem PySem.W PyProof.Rows PySem.Spec PySem.Calls PyProof.V
set_option maxRecDepth 100000
namespace Mine
theorem fill16 : PySem.Challenge.rw_no0152_01 = PySem.Challenge.rw_no0152_01 ∧ hd.heap_39 = hd.heap_39 := by k_fill; exact ⟨rfl, rfl⟩
/-- the tree as plain data -/
def pd : Tr → PyData
  | .v n => .tuple [.str (Str.ofString "v"), .int n]
  | .a n => .tuple [.str (Str.ofString "a"), .int n]
  | .i n => .tuple [.str (Str.ofString "i"), .int n]
  | .no x => .tuple [.str (Str.ofString "s"), .int 4, .tuple [pd x]]
  | .ca x => .tuple [.str (Str.ofString "s"), .int 24, .tuple [pd x]]
  | .hd n x => .tuple [.str (Str.ofString "s"), .int n, .tuple [pd x]]
  | .bin f x y => .tuple [.str (Str.ofString "s"), .int f, .tuple [pd x, pd y]]
theorem sV : PyData.strOk (Str.ofString "v") = true := by decide +kernel
theorem sA : PyData.strOk (Str.ofString "a") = true := by decide +kernel
theorem sI : PyData.strOk (Str.ofString "i") = true := by decide +kernel
theorem sS : PyData.strOk (Str.ofString "s") = true := by decide +kernel
theorem pd_ok : ∀ t : Tr, (pd t).canLay0 = true ∧ (pd t).depth ≤ 2 * t.dep
  | .v n => by simp [pd, PyData.canLay0, PyData.canLayAll0, PyData.depth, PyData.depthAll, Tr.dep, sV]
  | .a n => by simp [pd, PyData.canLay0, PyData.canLayAll0, PyData.depth, PyData.depthAll, Tr.dep, sA]
  | .i n => by simp [pd, PyData.canLay0, PyData.canLayAll0, PyData.depth, PyData.depthAll, Tr.dep, sI]
  | .no x => by
    obtain ⟨h1, h2⟩ := pd_ok x
    simp only [pd, PyData.canLay0, PyData.canLayAll0, PyData.depth, PyData.depthAll, Tr.dep, sS, h1, Bool.and_self, true_and]
    omega
  | .ca x => by
    obtain ⟨h1, h2⟩ := pd_ok x
    simp only [pd, PyData.canLay0, PyData.canLayAll0, PyData.depth, PyData.depthAll, Tr.dep, sS, h1, Bool.and_self, true_and]
    omega
  | .hd n x => by
    obtain ⟨h1, h2⟩ := pd_ok x
    simp only [pd, PyData.canLay0, PyData.canLayAll0, PyData.depth, PyData.depthAll, Tr.dep, sS, h1, Bool.and_self, true_and]
    omega
  | .bin f x y => by
    obtain ⟨h1, h2⟩ := pd_ok x
    obtain ⟨h3, h4⟩ := pd_ok y
    simp only [pd, PyData.canLay0, PyData.canLayAll0, PyData.depth, PyData.depthAll, Tr.dep, sS, h1, h3, Bool.and_self, true_and]
    omega
section
variable {h₀ h : Heap} {L : Addr} {news : List (Addr × Obj)}
theorem TrIn.reads (N : News h₀ L h news) {v : Value} {t : Tr} (R : TrIn news v t) : ∃ as, Reads h v (pd t) as := by
  induction R with
  | v hm => exact ⟨_, reads_tuple_at (N.get hm) rfl rfl (.cons (Reads.str _ _) (.cons (Reads.int _ _) .nil))⟩
  | a hm => exact ⟨_, reads_tuple_at (N.get hm) rfl rfl (.cons (Reads.str _ _) (.cons (Reads.int _ _) .nil))⟩
  | i hm => exact ⟨_, reads_tuple_at (N.get hm) rfl rfl (.cons (Reads.str _ _) (.cons (Reads.int _ _) .nil))⟩
  | no hm hb _ ih =>
    obtain ⟨as, q⟩ := ih
    exact ⟨_, reads_tuple_at (N.get hm) rfl rfl (.cons (Reads.str _ _) (.cons (Reads.int _ _) (.cons (reads_tuple_at (N.get hb) rfl rfl (.cons q .nil)) .nil)))⟩
  | ca hm hb _ ih =>
    obtain ⟨as, q⟩ := ih
    exact ⟨_, reads_tuple_at (N.get hm) rfl rfl (.cons (Reads.str _ _) (.cons (Reads.int _ _) (.cons (reads_tuple_at (N.get hb) rfl rfl (.cons q .nil)) .nil)))⟩
  | hd _ hm hb _ ih =>
    obtain ⟨as, q⟩ := ih
    exact ⟨_, reads_tuple_at (N.get hm) rfl rfl (.cons (Reads.str _ _) (.cons (Reads.int _ _) (.cons (reads_tuple_at (N.get hb) rfl rfl (.cons q .nil)) .nil)))⟩
  | bin hm hb _ _ ih ih' =>
    obtain ⟨as, q⟩ := ih
    obtain ⟨bs, q'⟩ := ih'
    exact ⟨_, reads_tuple_at (N.get hm) rfl rfl (.cons (Reads.str _ _) (.cons (Reads.int _ _) (.cons (reads_tuple_at (N.get hb) rfl rfl (.cons q (.cons q' .nil))) .nil)))⟩
end
theorem tr_eq {prog : Program} {w : World} {A : Around} {E : Value → Shared → Prop} {s : Shared} {h₀ : Heap} {L a b : Addr} {news : List (Addr × Obj)} {T : Tr} {Q : Value → Shared → Prop}
    (N : News h₀ L s.heap news) (Ra : TrIn news (.ref a) T) (Rb : TrIn news (.ref b) T) (hT : T.dep ≤ 32) (hu : A.units + 64 < cLine) (h : Q (.bool true) s) : wpAny (model prog w) A (compareOp .Eq (.ref a) (.ref b)) Q E s := by
  obtain ⟨as, ra⟩ := Ra.reads N
  obtain ⟨bs, rb⟩ := Rb.reads N
  obtain ⟨c, d⟩ := pd_ok T
  have sh : SeqAt.shaped (pd T) = true := by unfold SeqAt.shaped; rw [c, Bool.true_and]; exact decide_eq_true (by omega)
  exact eq_dataH ra rb sh sh hu (by rw [SeqAt.eqv_refl _ c]; exact h)
def neckT : Tr → Prop
  | .bin f _ _ => f = 5
  | _ => False
theorem wordsC16 : True := by
  k_with_none
  k_with "call ref" => k_here; (with_reducible show wpAny _ _ (call (Value.ref 133) _) _ _ _); k_dflt (refine Says.go (by k_asm) (sbody_says _ (by assumption) (by assumption)) (ret := ?_)); intro _ _ _ _ _ _ ho9; obtain ⟨_, _, _, rfl, rfl⟩ := sbody_open ho9; (try dsimp only); (try k_fold)
  trivial
set_option maxHeartbeats 4000000 in
theorem clause_same (w : World) {a0 : Addr} {T : Tr} {news : List (Addr × Obj)} (R0 : TrIn news (.ref a0) T) (hT : ¬ neckT T) : Says w 140 [.ref a0] 6 500 news (fun r news' => r = .ref a0 ∧ news' = news) := by
  cases R0 with
  | v hx =>
    intro loose mean mg mb dp un gd cn cs a ccd cl outer A₀ hb h₀ L m s Q E B F X N T hk hdp hun hret
    refine wpAny_call ?_
    k_dflt ktr_enter
    k_steps
    all_goals first
      | (exfalso; omega)
      | exact hret _ news _ _ (by k_asm) (by k_asm) ⟨rfl, rfl⟩
  | a hx =>
    intro loose mean mg mb dp un gd cn cs a ccd cl outer A₀ hb h₀ L m s Q E B F X N T hk hdp hun hret
    refine wpAny_call ?_
    k_dflt ktr_enter
    k_steps
    all_goals first
      | (exfalso; omega)
      | exact hret _ news _ _ (by k_asm) (by k_asm) ⟨rfl, rfl⟩
  | i hx =>
    intro loose mean mg mb dp un gd cn cs a ccd cl outer A₀ hb h₀ L m s Q E B F X N T hk hdp hun hret
    refine wpAny_call ?_
    k_dflt ktr_enter
    k_steps
    all_goals first
      | (exfalso; omega)
      | exact hret _ news _ _ (by k_asm) (by k_asm) ⟨rfl, rfl⟩
  | no hx hy _ =>
    intro loose mean mg mb dp un gd cn cs a ccd cl outer A₀ hb h₀ L m s Q E B F X N T hk hdp hun hret
    refine wpAny_call ?_
    k_dflt ktr_enter
    k_steps
    all_goals first
      | (exfalso; omega)
      | exact hret _ news _ _ (by k_asm) (by k_asm) ⟨rfl, rfl⟩
  | ca hx hy _ =>
    intro loose mean mg mb dp un gd cn cs a ccd cl outer A₀ hb h₀ L m s Q E B F X N T hk hdp hun hret
    refine wpAny_call ?_
    k_dflt ktr_enter
    k_steps
    all_goals first
      | (exfalso; omega)
      | exact hret _ news _ _ (by k_asm) (by k_asm) ⟨rfl, rfl⟩
  | hd hn hx hy _ =>
    intro loose mean mg mb dp un gd cn cs a ccd cl outer A₀ hb h₀ L m s Q E B F X N T hk hdp hun hret
    refine wpAny_call ?_
    k_dflt ktr_enter
    k_steps
    all_goals first
      | (exfalso; omega)
      | exact hret _ news _ _ (by k_asm) (by k_asm) ⟨rfl, rfl⟩
  | bin hx hy _ _ =>
    simp only [neckT] at hT
    intro loose mean mg mb dp un gd cn cs a ccd cl outer A₀ hb h₀ L m s Q E B F X N T hk hdp hun hret
    refine wpAny_call ?_
    k_dflt ktr_enter
    k_steps
    all_goals first
      | (exfalso; omega)
      | exact hret _ news _ _ (by k_asm) (by k_asm) ⟨rfl, rfl⟩
set_option maxHeartbeats 4000000 in
theorem clause_neck (w : World) {a0 : Addr} {x y : Tr} {news : List (Addr × Obj)} (R0 : TrIn news (.ref a0) (.bin 5 x y)) (hy : y.dep ≤ 12) : Says w 140 [.ref a0] 6 500 news (fun r news' => ∃ tl, news' = tl ++ news ∧ TrIn news' r (.bin 5 x y.keep)) := by
  cases R0 with
  | bin hx hb R1 R2 =>
    obtain ⟨a1, e1⟩ := R1.isRef
    obtain ⟨a2, e2⟩ := R2.isRef
    subst e1
    subst e2
    intro loose mean mg mb dp un gd cn cs a ccd cl outer A₀ hb0 h₀ L m s Q E B F X N T hk hdp hun hret
    refine wpAny_call ?_
    k_dflt ktr_enter
    k_steps
    rename_i h9 tk9 tl9 ra9 R9 D1 h1 l1 D2 h2 F2 N2 l2 kF kN kT kX
    refine hret _ _ _ _ (by k_asm) kN ⟨_ :: _ :: tl9, rfl, TrIn.bin (.head _) (.tail _ (.head _)) (R1.mono fun p hp => ?_) (R9.mono fun p hp => .tail _ (.tail _ hp))⟩
    exact .tail _ (.tail _ (List.mem_append.mpr (.inr hp)))
end Mine
end

section
open PySem PySem.W PyProof.Rows PySem.Spec PySem.Calls PyProof.V
set_option maxRecDepth 100000
namespace Mine
theorem func_ix : ix (FF 32).2 [((ix (FF 32).1 (Str.ofString "p") : Nat) : Int), 1] = 32 := by decide +kernel
/-- a head: no neck, not deep -/
def HeadT (T : Tr) : Prop := ¬ neckT T ∧ T.dep ≤ 3
theorem heads_sub {prog : Program} {w : World} {A : Around} {E : Value → Shared → Prop} {s : Shared} {Q : Value → Shared → Prop} {value slice : PySem.Expr} {h₀ : Heap} {L l a0 a1 a2 : Addr} {n : Nat} {k : Int} {t : Tok} {news base : List (Addr × Obj)} {T0 T1 T2 : Tr} (h0 : 0 ≤ k) (h1 : k < 3)
    (N : News h₀ L s.heap news) (hl : (l, listOf #[.ref a0, .ref a1, .ref a2] n) ∈ news) (R0 : TrIn base (.ref a0) T0) (R1 : TrIn base (.ref a1) T1) (R2 : TrIn base (.ref a2) T2) (b0 : HeadT T0) (b1 : HeadT T1) (b2 : HeadT T2)
    (c : ∀ a T, TrIn base (.ref a) T → HeadT T → Q (.ref a) s) (hs : ∀ k, subscripted slice false (.ref l) (.int k t) = operate [.ref l, .int k t] (getItem (.ref l) (.int k t)) := by with_unfolding_all (intro _; rfl)) : wpAny (model prog w) A (subscriptTail value slice (.ref l) (.int k t)) Q E s := by
  have hL : s.heap.IsList l #[.ref a0, .ref a1, .ref a2] := ⟨_, (N _ hl).1, rfl, n, rfl⟩
  have h : k = 0 ∨ k = 1 ∨ k = 2 := by omega
  rcases h with rfl | rfl | rfl
  · exact tail_any hL.typeIs slot_list_getitem.lookup (wpAny_getItem_list hL (by decide) (by decide) rfl (c _ _ R0 b0)) (hs _)
  · exact tail_any hL.typeIs slot_list_getitem.lookup (wpAny_getItem_list hL (by decide) (by decide) rfl (c _ _ R1 b1)) (hs _)
  · exact tail_any hL.typeIs slot_list_getitem.lookup (wpAny_getItem_list hL (by decide) (by decide) rfl (c _ _ R2 b2)) (hs _)
end Mine
end

section
open PySem PySem.W PyProof.Rows PySem.Spec PySem.Calls PyProof.V
set_option maxRecDepth 100000
namespace Mine
local macro_rules | `(tactic| walk_at "call ref") => `(tactic| (refine hold_of ?_))
theorem Apart.cons1 {t lt da lf df : Addr} {o : Obj} {tl : List (Addr × Obj)} (ap : Apart lt da lf df tl) (h1 : @LT.lt Nat _ lt t) (h2 : @LT.lt Nat _ da t) (h3 : @LT.lt Nat _ lf t) (h4 : @LT.lt Nat _ df t) : Apart lt da lf df ((t, o) :: tl) := by
  intro p hp
  rcases List.mem_cons.mp hp with rfl | hp
  · exact ⟨Nat.ne_of_gt h1, Nat.ne_of_gt h2, Nat.ne_of_gt h3, Nat.ne_of_gt h4⟩
  · exact ap p hp
theorem led_in {p1 p2 p3 p4 p5 p6 p : Addr × Obj} {tl : List (Addr × Obj)} (h : p ∈ tl) : p ∈ p1 :: p2 :: p3 :: p4 :: p5 :: p6 :: tl := .tail _ (.tail _ (.tail _ (.tail _ (.tail _ (.tail _ h)))))
theorem ready1 {h₀ h : Heap} {L H C : Addr} {oH oC : Obj} {big : List (Addr × Obj)} (N : News h₀ L h big) (hH : (H, oH) ∈ big) (hC : (C, oC) ∈ big) : ∃ rest, News h₀ L h ((H, oH) :: (C, oC) :: rest) ∧ (∀ p ∈ rest, p.1 ≠ H) ∧ rest = off H big := by
  refine ⟨off H big, fun p hp => ?_, off_ne, rfl⟩
  rcases List.mem_cons.mp hp with rfl | hp
  · exact N _ hH
  rcases List.mem_cons.mp hp with rfl | hp
  · exact N _ hC
  · exact N p (off_sub p hp)
theorem m8 {p1 p2 p3 p4 p5 p6 p7 p8 p : Addr × Obj} {tl : List (Addr × Obj)} (h : p ∈ tl) : p ∈ p1 :: p2 :: p3 :: p4 :: p5 :: p6 :: p7 :: p8 :: tl := .tail _ (.tail _ (led_in h))
theorem ready0 {h₀ h : Heap} {L H C HL a0 a1 a2 : Addr} {vH vC : Array Value} {nH nC nL : Nat} {big : List (Addr × Obj)} {T0 T1 T2 : Tr} (N : News h₀ L h big) (hH : (H, listOf vH nH) ∈ big) (hC : (C, listOf vC nC) ∈ big) (hl : (HL, listOf #[.ref a0, .ref a1, .ref a2] nL) ∈ big) (hne : HL ≠ H)
    (R0 : TrIn big (.ref a0) T0) (R1 : TrIn big (.ref a1) T1) (R2 : TrIn big (.ref a2) T2) :
    ∃ rest, News h₀ L h ((H, listOf vH nH) :: (C, listOf vC nC) :: rest) ∧ (∀ p ∈ rest, p.1 ≠ H) ∧ (HL, listOf #[.ref a0, .ref a1, .ref a2] nL) ∈ rest ∧ TrIn rest (.ref a0) T0 ∧ TrIn rest (.ref a1) T1 ∧ TrIn rest (.ref a2) T2 := by
  refine ⟨off H big, fun p hp => ?_, off_ne, off_mem hl hne, R0.off N hH list_cls, R1.off N hH list_cls, R2.off N hH list_cls⟩
  rcases List.mem_cons.mp hp with rfl | hp
  · exact N _ hH
  rcases List.mem_cons.mp hp with rfl | hp
  · exact N _ hC
  · exact N p (off_sub p hp)
theorem headA : HeadT (.a 16) := ⟨fun h => h, by decide⟩
theorem headH {n : Int} : HeadT (.hd n (.v 0)) := ⟨fun h => h, Nat.le_of_ble_eq_true rfl⟩
theorem headB : HeadT (.bin 1 (.v 0) (.v 1)) := ⟨by show ¬ ((1 : Int) = 5); decide, Nat.le_of_ble_eq_true rfl⟩
local macro_rules | `(tactic| walk_at "subscriptTail") => `(tactic| (k_here; (with_reducible show wpAny _ _ (subscriptTail _ _ (Value.ref _) (Value.int _ _)) _ _ _); k_dflt (refine' heads_sub ?c0 ?c1 ?cN ?cl ?R0 ?R1 ?R2 ?b0 ?b1 ?b2 ?_; (case c0 => assumption); (case c1 => assumption); (case cN => k_asm); (case cl => k_mem); (case R0 => assumption); (case R1 => assumption); (case R2 => assumption); (case b0 => exact headA); (case b1 => exact headH); (case b2 => exact headB)); intro a9 T9 R9 b9))
local macro_rules | `(tactic| walk_at "compareOp Eq ref ref") => `(tactic| (refine hold_of ?_))
theorem neck_mk {K1 K2 a b : Addr} {t u : Tok} {k k' : Nat} {X T : Tr} {led : List (Addr × Obj)} (RH : TrIn led (.ref a) X) (RT : TrIn led (.ref b) T) : TrIn ((K2, tup #[.str (Str.ofString "s") t, .int 5 u, .ref K1] k) :: (K1, tup #[.ref a, .ref b] k') :: led) (.ref K2) (.bin 5 X T) :=
  TrIn.bin (.head _) (.tail _ (.head _)) (RH.mono fun p hp => .tail _ (.tail _ hp)) (RT.mono fun p hp => .tail _ (.tail _ hp))
theorem fold_led2 {h₀ h : Heap} {L : Addr} {p q : Addr × Obj} {tl led : List (Addr × Obj)} {r v v' : Value} {S T T' : Tr} (N : News h₀ L h (tl ++ p :: q :: led)) (R : TrIn (tl ++ p :: q :: led) r S) (RT : TrIn led v T) (RH : TrIn led v' T') : ∃ led2, News h₀ L h led2 ∧ TrIn led2 r S ∧ TrIn led2 v T ∧ TrIn led2 v' T' :=
  ⟨_, N, R, RT.mono fun p hp => List.mem_append.mpr (.inr (.tail _ (.tail _ hp))), RH.mono fun p hp => List.mem_append.mpr (.inr (.tail _ (.tail _ hp)))⟩
theorem fold_led3 {h₀ h : Heap} {L : Addr} {tl led : List (Addr × Obj)} {r v v' : Value} {S T T' : Tr} (N : News h₀ L h (tl ++ led)) (R : TrIn (tl ++ led) r S) (RT : TrIn led v T) (RH : TrIn led v' T') : ∃ led2, News h₀ L h led2 ∧ TrIn led2 r S ∧ TrIn led2 v T ∧ TrIn led2 v' T' :=
  ⟨_, N, R, RT.mono fun p hp => List.mem_append.mpr (.inr hp), RH.mono fun p hp => List.mem_append.mpr (.inr hp)⟩
theorem fold_led4 {h₀ h : Heap} {L K1 K2 a b c : Addr} {t u : Tok} {k k' : Nat} {X T S : Tr} {led : List (Addr × Obj)} (N : News h₀ L h ((K2, tup #[.str (Str.ofString "s") t, .int 5 u, .ref K1] k) :: (K1, tup #[.ref a, .ref b] k') :: led)) (RH : TrIn led (.ref a) X) (RT : TrIn led (.ref b) T) (RS : TrIn led (.ref c) S) :
    ∃ led2, News h₀ L h led2 ∧ TrIn led2 (.ref K2) (.bin 5 X T) ∧ TrIn led2 (.ref c) S := ⟨_, N, neck_mk RH RT, RS.mono fun p hp => .tail _ (.tail _ hp)⟩
theorem fold_led {h₀ h : Heap} {L : Addr} {p q : Addr × Obj} {tl rest : List (Addr × Obj)} {v v' : Value} {T T' : Tr} (N : News h₀ L h (p :: q :: (tl ++ rest))) (RT : TrIn tl v T) (RH : TrIn rest v' T') : ∃ led, News h₀ L h led ∧ TrIn led v T ∧ TrIn led v' T' :=
  ⟨_, N, RT.mono fun p hp => .tail _ (.tail _ (List.mem_append.mpr (.inl hp))), RH.mono fun p hp => .tail _ (.tail _ (List.mem_append.mpr (.inr hp)))⟩
set_option maxHeartbeats 8000000 in
theorem law_t : PySem.Challenge.rw_no0152_01.Holds := hd (by
  k_go0
  all_goals try k_fold
  k_steps
  refine hold_in ?_
  rename_i hp1 C cv hp2 hI hC hL lT hp3 hp4 tk0 t0 H hp5 lCH hp6 F1 N1
  generalize hns : List.take 63 _ = ns at hI hC hL N1
  have hlen : ns.length ≤ 63 := by omega
  clear hC hL hns lT
  refine' Says.use (vs := []) (sym_says _ _) ?k1 ?k2 ?k3 ?k4 ?k5 ?kK ?kd ?ku ?_
  case k4 => k_asm
  case k1 => k_asm
  case k2 => k_asm
  case k3 => k_asm
  case k5 => k_asm
  case kK => first | exact rfl | assumption
  case kd => ktr_room
  case ku => ktr_units
  intro r9 n9 h9 tk9 F9 N9 ho9
  obtain ⟨X9, dx9, lt9, da9, lf9, df9, k19, k29, k39, k49, tv9, nt9, oa9, fv9, nf9, of9, tl9, e9, o9, ap9, l19, a19, l29, a29, s9, en9⟩ := ho9
  subst e9
  subst en9
  clear F1 N1
  k_steps
  rename_i hp7 T1 hp8 F1 N1 l1
  have ap1 := fun o => ap9.cons1 (o := o) l1.2.2.1 l1.2.2.2.1 l1.2.2.2.2.1 l1.2.2.2.2.2.1
  have N2 := news_sub N1 perm7
  refine hold_in ?_
  refine' Says.use (func_says _ o9 (ap1 _) l19 (FF_le2 32).1 a19 l29 (FF_le2 32).2 (a29.mono fun p hp => .tail _ hp)) ?k1 ?k2 ?k3 ?k4 ?k5 ?kK ?kd ?ku ?_
  case k4 => exact N2
  case k1 => k_asm
  case k2 => k_asm
  case k3 => k_asm
  case k5 => k_asm
  case kK => first | exact rfl | assumption
  case kd => ktr_room
  case ku => ktr_units
  clear F1 N1 N2
  intro r9 n9 h9 tk9 F1 N1 ho9
  obtain ⟨tv8, nt8, oa8, fv8, nf8, of8, tl8, tk8, e8, _, _, _, _, s8, ap8, en8⟩ := ho9
  rw [func_ix] at e8
  subst e8
  subst en8
  have N2 : News _ _ _ tl8 := news_sub N1 fun p hp => led_in hp
  have mH := s8 _ (.tail _ (s9 _ (.head _)))
  have mC := s8 _ (.tail _ (s9 _ (.tail _ (.head _))))
  have R1 := TrIn.a (s8 _ (.head _))
  have ok1 : HandOk ns 0 0 (ns.sum.fmod 100003 * 7) 4 := by
    have q1 := Int.fmod_nonneg_of_pos ns.sum (b := 100003) (by decide)
    have q2 := Int.fmod_lt_of_pos ns.sum (b := 100003) (by decide)
    exact ⟨by decide, by omega, by decide, by omega, by omega, by decide, by decide⟩
  clear N1 s8 s9 ap8 ap1 ap9 a29 a19 l29 l19 o9 l1
  generalize hsd : ns.sum.fmod 100003 * 7 = sd at mH ok1
  clear hsd
  k_steps
  refine hold_in ?_
  rename_i B0 hb0 lb0 B1 hb1 lb1 T2 hb2 lb2 V0 hb3 lb3 V1 hb4 lb4 PP hb5 lb5 T3 hb6 lb6 HL hb7 lb7 hb8 F1 N1
  have hHL : HL ≠ H := Nat.ne_of_gt (tb_ltOf lb7.2.2.2.2.2.2.2 _ mH)
  obtain ⟨rest, N2, hr, mHL, RA, RB, RC⟩ := ready0 N1 (m8 mH) (m8 mC) (.head _) hHL (R1.mono fun p hp => m8 hp) (TrIn.hd (n := ((32 : Nat) : Int)) (by decide) (by k_mem) (by k_mem) (TrIn.v (n := 0) (by k_mem))) (TrIn.bin (f := 1) (by k_mem) (by k_mem) (TrIn.v (n := 0) (by k_mem)) (TrIn.v (n := 1) (by k_mem)))
  clear N1 R1 mH mC lb0 lb1 lb2 lb3 lb4 lb5 lb6 lb7
  refine' Says.use (pick_use hI lCH hr ok1 hlen (by decide) (by decide)) ?k1 ?k2 ?k3 ?k4 ?k5 ?kK ?kd ?ku ?_
  case k4 => exact N2
  case k1 => k_asm
  case k2 => k_asm
  case k3 => k_asm
  case k5 => k_asm
  case kK => first | exact rfl | assumption
  case kd => ktr_room
  case ku => ktr_units
  clear F1 N2
  intro r9 n9 h9 tk9 F1 N1 ho9
  obtain ⟨d1, td1, pos1, cur1, sd1, t11, t21, t31, nn1, e9, d1l, d1h, ok2, en9⟩ := ho9
  subst e9
  subst en9
  k_steps
  refine hold_in ?_
  rename_i F1 N1
  refine' Says.use (pick_use hI lCH hr ok2 hlen (by decide) (by decide)) ?k1 ?k2 ?k3 ?k4 ?k5 ?kK ?kd ?ku ?_
  case k4 => k_asm
  case k1 => k_asm
  case k2 => k_asm
  case k3 => k_asm
  case k5 => k_asm
  case kK => first | exact rfl | assumption
  case kd => ktr_room
  case ku => ktr_units
  clear F1 N1
  intro r9 n9 h9 tk9 F1 N1 ho9
  obtain ⟨d2, td2, pos2, cur2, sd2, t12, t22, t32, nn2, e9, d2l, d2h, ok3, en9⟩ := ho9
  subst e9
  subst en9
  k_steps
  · refine hold_in ?_
    rename_i a9 T9 RH b9 hc1 F1 N1 tk1 hd1
    refine' Says.use (BodyIH.use (body_says _ hI lCH hlen 4) (z' := 3) (by decide) (by decide) hr ok3) ?k1 ?k2 ?k3 ?k4 ?k5 ?kK ?kd ?ku ?_
    case k4 => k_asm
    case k1 => k_asm
    case k2 => k_asm
    case k3 => k_asm
    case k5 => k_asm
    case kK => first | exact rfl | assumption
    case kd => ktr_room
    case ku => ktr_units
    clear F1 N1
    intro r9 n9 h9 tk9 F1 N1 ho9
    obtain ⟨T, tl, pos3, cur3, sd3, bud3, t13, t23, t33, t43, nn3, RT, off3, hdT, ok4, en9⟩ := ho9
    obtain ⟨b, eb⟩ := RT.isRef
    subst eb
    subst en9
    obtain ⟨led, N2, RT', RH'⟩ := fold_led N1 RT RH
    clear N1 RT RH off3
    have RH := RH'
    clear RH'
    have RT := RT'
    have hdT : T.dep ≤ 32 := Nat.le_trans hdT (by decide)
    have hdH : T9.dep ≤ 32 := Nat.le_trans b9.2 (by decide)
    cases RT with
    | v hx =>
      k_steps
      all_goals (refine hold_in ?_)
      all_goals first
        | (refine' Says.use (clause_same _ RT' ?nk) ?k1 ?k2 ?k3 ?k4 ?k5 ?kK ?kd ?ku ?_; (case k4 => k_asm); (case nk => first | exact (fun h => h) | (show ¬ ((_ : Int) = 5); assumption)); (case k1 => k_asm); (case k2 => k_asm); (case k3 => k_asm); (case k5 => k_asm); (case kK => first | exact rfl | assumption); (case kd => ktr_room); (case ku => ktr_units))
        | (refine' Says.use (clause_same _ RH b9.1) ?k1 ?k2 ?k3 ?k4 ?k5 ?kK ?kd ?ku ?_; (case k4 => k_asm); (case k1 => k_asm); (case k2 => k_asm); (case k3 => k_asm); (case k5 => k_asm); (case kK => first | exact rfl | assumption); (case kd => ktr_room); (case ku => ktr_units))
      all_goals (intro r9 n9 h9 tk9 F9 N9 ho9; obtain ⟨er9, en9⟩ := ho9; subst er9; subst en9; k_steps; refine hold_in ?_)
      all_goals first
        | refine tr_eq N9 RT' RT' hdT (by ke_room) ?_
        | refine tr_eq N9 RH RH hdH (by ke_room) ?_
      all_goals k_steps
    | a hx =>
      k_steps
      all_goals (refine hold_in ?_)
      all_goals first
        | (refine' Says.use (clause_same _ RT' ?nk) ?k1 ?k2 ?k3 ?k4 ?k5 ?kK ?kd ?ku ?_; (case k4 => k_asm); (case nk => first | exact (fun h => h) | (show ¬ ((_ : Int) = 5); assumption)); (case k1 => k_asm); (case k2 => k_asm); (case k3 => k_asm); (case k5 => k_asm); (case kK => first | exact rfl | assumption); (case kd => ktr_room); (case ku => ktr_units))
        | (refine' Says.use (clause_same _ RH b9.1) ?k1 ?k2 ?k3 ?k4 ?k5 ?kK ?kd ?ku ?_; (case k4 => k_asm); (case k1 => k_asm); (case k2 => k_asm); (case k3 => k_asm); (case k5 => k_asm); (case kK => first | exact rfl | assumption); (case kd => ktr_room); (case ku => ktr_units))
      all_goals (intro r9 n9 h9 tk9 F9 N9 ho9; obtain ⟨er9, en9⟩ := ho9; subst er9; subst en9; k_steps; refine hold_in ?_)
      all_goals first
        | refine tr_eq N9 RT' RT' hdT (by ke_room) ?_
        | refine tr_eq N9 RH RH hdH (by ke_room) ?_
      all_goals k_steps
    | i hx =>
      k_steps
      all_goals (refine hold_in ?_)
      all_goals first
        | (refine' Says.use (clause_same _ RT' ?nk) ?k1 ?k2 ?k3 ?k4 ?k5 ?kK ?kd ?ku ?_; (case k4 => k_asm); (case nk => first | exact (fun h => h) | (show ¬ ((_ : Int) = 5); assumption)); (case k1 => k_asm); (case k2 => k_asm); (case k3 => k_asm); (case k5 => k_asm); (case kK => first | exact rfl | assumption); (case kd => ktr_room); (case ku => ktr_units))
        | (refine' Says.use (clause_same _ RH b9.1) ?k1 ?k2 ?k3 ?k4 ?k5 ?kK ?kd ?ku ?_; (case k4 => k_asm); (case k1 => k_asm); (case k2 => k_asm); (case k3 => k_asm); (case k5 => k_asm); (case kK => first | exact rfl | assumption); (case kd => ktr_room); (case ku => ktr_units))
      all_goals (intro r9 n9 h9 tk9 F9 N9 ho9; obtain ⟨er9, en9⟩ := ho9; subst er9; subst en9; k_steps; refine hold_in ?_)
      all_goals first
        | refine tr_eq N9 RT' RT' hdT (by ke_room) ?_
        | refine tr_eq N9 RH RH hdH (by ke_room) ?_
      all_goals k_steps
    | no hx hy R1 =>
      k_steps
      all_goals (refine hold_in ?_)
      all_goals first
        | (refine' Says.use (clause_same _ RT' ?nk) ?k1 ?k2 ?k3 ?k4 ?k5 ?kK ?kd ?ku ?_; (case k4 => k_asm); (case nk => first | exact (fun h => h) | (show ¬ ((_ : Int) = 5); assumption)); (case k1 => k_asm); (case k2 => k_asm); (case k3 => k_asm); (case k5 => k_asm); (case kK => first | exact rfl | assumption); (case kd => ktr_room); (case ku => ktr_units))
        | (refine' Says.use (clause_same _ RH b9.1) ?k1 ?k2 ?k3 ?k4 ?k5 ?kK ?kd ?ku ?_; (case k4 => k_asm); (case k1 => k_asm); (case k2 => k_asm); (case k3 => k_asm); (case k5 => k_asm); (case kK => first | exact rfl | assumption); (case kd => ktr_room); (case ku => ktr_units))
      all_goals (intro r9 n9 h9 tk9 F9 N9 ho9; obtain ⟨er9, en9⟩ := ho9; subst er9; subst en9; k_steps; refine hold_in ?_)
      all_goals first
        | refine tr_eq N9 RT' RT' hdT (by ke_room) ?_
        | refine tr_eq N9 RH RH hdH (by ke_room) ?_
      all_goals k_steps
    | ca hx hy R1 =>
      k_steps
      all_goals (refine hold_in ?_)
      all_goals first
        | (refine' Says.use (clause_same _ RT' ?nk) ?k1 ?k2 ?k3 ?k4 ?k5 ?kK ?kd ?ku ?_; (case k4 => k_asm); (case nk => first | exact (fun h => h) | (show ¬ ((_ : Int) = 5); assumption)); (case k1 => k_asm); (case k2 => k_asm); (case k3 => k_asm); (case k5 => k_asm); (case kK => first | exact rfl | assumption); (case kd => ktr_room); (case ku => ktr_units))
        | (refine' Says.use (clause_same _ RH b9.1) ?k1 ?k2 ?k3 ?k4 ?k5 ?kK ?kd ?ku ?_; (case k4 => k_asm); (case k1 => k_asm); (case k2 => k_asm); (case k3 => k_asm); (case k5 => k_asm); (case kK => first | exact rfl | assumption); (case kd => ktr_room); (case ku => ktr_units))
      all_goals (intro r9 n9 h9 tk9 F9 N9 ho9; obtain ⟨er9, en9⟩ := ho9; subst er9; subst en9; k_steps; refine hold_in ?_)
      all_goals first
        | refine tr_eq N9 RT' RT' hdT (by ke_room) ?_
        | refine tr_eq N9 RH RH hdH (by ke_room) ?_
      all_goals k_steps
    | hd hn hx hy R1 =>
      k_steps
      all_goals (refine hold_in ?_)
      all_goals first
        | (refine' Says.use (clause_same _ RT' ?nk) ?k1 ?k2 ?k3 ?k4 ?k5 ?kK ?kd ?ku ?_; (case k4 => k_asm); (case nk => first | exact (fun h => h) | (show ¬ ((_ : Int) = 5); assumption)); (case k1 => k_asm); (case k2 => k_asm); (case k3 => k_asm); (case k5 => k_asm); (case kK => first | exact rfl | assumption); (case kd => ktr_room); (case ku => ktr_units))
        | (refine' Says.use (clause_same _ RH b9.1) ?k1 ?k2 ?k3 ?k4 ?k5 ?kK ?kd ?ku ?_; (case k4 => k_asm); (case k1 => k_asm); (case k2 => k_asm); (case k3 => k_asm); (case k5 => k_asm); (case kK => first | exact rfl | assumption); (case kd => ktr_room); (case ku => ktr_units))
      all_goals (intro r9 n9 h9 tk9 F9 N9 ho9; obtain ⟨er9, en9⟩ := ho9; subst er9; subst en9; k_steps; refine hold_in ?_)
      all_goals first
        | refine tr_eq N9 RT' RT' hdT (by ke_room) ?_
        | refine tr_eq N9 RH RH hdH (by ke_room) ?_
      all_goals k_steps
    | bin hx hy R1 R2 =>
      k_steps
      all_goals (refine hold_in ?_)
      all_goals first
        | (refine' Says.use (clause_same _ RT' ?nk) ?k1 ?k2 ?k3 ?k4 ?k5 ?kK ?kd ?ku ?_; (case k4 => k_asm); (case nk => first | exact (fun h => h) | (show ¬ ((_ : Int) = 5); assumption)); (case k1 => k_asm); (case k2 => k_asm); (case k3 => k_asm); (case k5 => k_asm); (case kK => first | exact rfl | assumption); (case kd => ktr_room); (case ku => ktr_units))
        | (refine' Says.use (clause_same _ RH b9.1) ?k1 ?k2 ?k3 ?k4 ?k5 ?kK ?kd ?ku ?_; (case k4 => k_asm); (case k1 => k_asm); (case k2 => k_asm); (case k3 => k_asm); (case k5 => k_asm); (case kK => first | exact rfl | assumption); (case kd => ktr_room); (case ku => ktr_units))
      all_goals (intro r9 n9 h9 tk9 F9 N9 ho9; obtain ⟨er9, en9⟩ := ho9; subst er9; subst en9; k_steps; refine hold_in ?_)
      all_goals first
        | refine tr_eq N9 RT' RT' hdT (by ke_room) ?_
        | refine tr_eq N9 RH RH hdH (by ke_room) ?_
      all_goals k_steps
  · refine hold_in ?_
    rename_i a9 T9 RH b9 hc1 F1 N1 tk1 hd1 hc2 F2 N2
    have ok5 : HandOk ns pos2 cur2 sd2 11 := by
      obtain ⟨q1, q2, q3, q4, q5, q6, q7⟩ := ok3
      exact ⟨q1, q2, q3, q4, q5, by decide, by decide⟩
    refine' Says.use (BodyIH.use (body_says _ hI lCH hlen 7) (z' := 6) (by decide) (by decide) hr ok5) ?k1 ?k2 ?k3 ?k4 ?k5 ?kK ?kd ?ku ?_
    case k4 => k_asm
    case k1 => k_asm
    case k2 => k_asm
    case k3 => k_asm
    case k5 => k_asm
    case kK => first | exact rfl | assumption
    case kd => ktr_room
    case ku => ktr_units
    clear F1 N1 F2 N2
    intro r9 n9 h9 tk9 F1 N1 ho9
    obtain ⟨T, tl, pos3, cur3, sd3, bud3, t13, t23, t33, t43, nn3, RT, off3, hdT, ok4, en9⟩ := ho9
    obtain ⟨b, eb⟩ := RT.isRef
    subst eb
    subst en9
    obtain ⟨led, N2, RT', RH'⟩ := fold_led N1 RT RH
    clear N1 RT RH off3
    have hdT : T.dep ≤ 8 := Nat.le_trans hdT (by decide)
    have hdH : T9.dep ≤ 3 := b9.2
    k_steps
    refine hold_in ?_
    rename_i K1 hc3 lk1 K2 hc4 F2 N3 lk2
    refine' Says.use (clause_neck _ (neck_mk RH' RT') (by omega)) ?k1 ?k2 ?k3 ?k4 ?k5 ?kK ?kd ?ku ?_
    case k4 => k_asm
    case k1 => k_asm
    case k2 => k_asm
    case k3 => k_asm
    case k5 => k_asm
    case kK => first | exact rfl | assumption
    case kd => ktr_room
    case ku => ktr_units
    clear F2 N3
    intro r9 n9 h9 tk9 F1 N1 ho9
    obtain ⟨tl2, en9, R2⟩ := ho9
    subst en9
    obtain ⟨b2, eb2⟩ := R2.isRef
    subst eb2
    obtain ⟨led2, N2, R3, RT2, RH2⟩ := fold_led2 N1 R2 RT' RH'
    clear N1 R2 RT' RH'
    k_steps
    refine hold_in ?_
    rename_i F2 N3
    refine' Says.use (KeptP.use (kept_says _ T) RT2 (fun p hp => hp)) ?k1 ?k2 ?k3 ?k4 ?k5 ?kK ?kd ?ku ?_
    case k4 => k_asm
    case k1 => k_asm
    case k2 => k_asm
    case k3 => k_asm
    case k5 => k_asm
    case kK => first | exact rfl | assumption
    case kd => ktr_room
    case ku => ktr_units
    clear F2 N3
    intro r9 n9 h9 tk9 F1 N1 ho9
    obtain ⟨tl3, en9, fr3, Rk⟩ := ho9
    subst en9
    obtain ⟨b3, eb3⟩ := Rk.isRef
    subst eb3
    obtain ⟨led3, N2, Rk3, RS3, RH3⟩ := fold_led3 N1 Rk R3 RH2
    clear N1 Rk R3 RH2 RT2 fr3
    have hkd := Tr.keep_dep T
    have hTd : (Tr.bin 5 T9 T.keep).dep ≤ 32 := by simp only [Tr.dep]; omega
    k_steps
    refine hold_in ?_
    rename_i K3 hc5 lk3 K4 hc6 F2 N3 lk4
    obtain ⟨led4, N4, RN4, RS4⟩ := fold_led4 N3 RH3 Rk3 RS3
    refine tr_eq N4 RS4 RN4 hTd (by ke_room) ?_
    clear N3 lk3 lk4
    k_steps
    refine hold_in ?_
    refine' Says.use (clause_neck _ RS4 (by omega)) ?k1 ?k2 ?k3 ?k4 ?k5 ?kK ?kd ?ku ?_
    case k4 => k_asm
    case k1 => k_asm
    case k2 => k_asm
    case k3 => k_asm
    case k5 => k_asm
    case kK => first | exact rfl | assumption
    case kd => ktr_room
    case ku => ktr_units
    clear F2 N4
    intro r9 n9 h9 tk9 F1 N1 ho9
    obtain ⟨tl5, en9, R5⟩ := ho9
    subst en9
    rw [Tr.keep_keep] at R5
    obtain ⟨b5, eb5⟩ := R5.isRef
    subst eb5
    obtain ⟨led5, N2, RA5, RB5, _⟩ := fold_led3 N1 R5 RS4 RN4
    clear N1 R5 RS4 RN4
    k_steps
    refine hold_in ?_
    refine tr_eq N2 RA5 RB5 hTd (by ke_room) ?_
    k_steps)
end Mine
end
end
end
end

theorem PySem.Challenge.cw_no0152_01_holds : PySem.Challenge.rw_no0152_01.Holds :=
  Mine.law_t
