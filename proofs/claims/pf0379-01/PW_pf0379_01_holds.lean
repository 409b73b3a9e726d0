import PyProof.Rows.All
import Wide.All
import OpenK.AllK
import Wide.FinOn
import PySem.Challenge.RW_pf0379_01
open PySem PySem.W PyProof.Rows PySem.Spec PySem.Calls PyProof.V
set_option Elab.async false
namespace Mine
/- the head -/
set_option maxRecDepth 100000 in
set_option maxHeartbeats 8000000 in
open_top hd for PySem.Challenge.rw_pf0379_01
theorem menuA (i : Nat) : 0 ≤ [0, 7, 50, 100, 333].getD i (0 : Int) ∧ [0, 7, 50, 100, 333].getD i (0 : Int) < 10000 := by
  match i with
  | 0 | 1 | 2 | 3 | 4 => simp
  | _ + 5 => simp
theorem menuB {i : Nat} (h : i < 3) : 0 < [1, 4, 20].getD i (0 : Int) ∧ [1, 4, 20].getD i (0 : Int) < 100 := by
  match i, h with
  | 0, _ | 1, _ | 2, _ => simp
theorem menuC (i : Nat) : 0 ≤ [0, 1, 4, 15, 50].getD i (0 : Int) := by
  match i with
  | 0 | 1 | 2 | 3 | 4 => simp
  | _ + 5 => simp

local macro_rules | `(tactic| ktn_open) => `(tactic| first | omega | assumption | decide | exact (menuA _).1 | exact (menuA _).2 | exact (menuB (by omega)).1 | exact (menuB (by omega)).2)
local macro_rules | `(tactic| ktr_unf) => `(tactic| all_goals ((try dsimp only); (try k_fold); (try k_sweep)))

/- part C -/
/- the frame in which a def is called -/
section
variable (w : World) (mg mb : Str → Option Value) (mean : ExcName → Option Value) (dp un : Nat) (cs : Scope) (outer : List Env) (A₀ : Around) (base h₀ : Heap) (L : Addr) (m : Str → Option Value) (h : Heap) (news : List (Addr × Obj)) (k : Nat)
structure Ctx : Prop where
  B : Below A₀ base outer h₀
  F : Fr h₀ L h m
  X : (hd.heap_39 w.params).In h₀
  N : News h₀ L h news
  T : Top hd.view_39 (looseW hd.view_39 [Str.ofString "SettingError"]) mean mg mb h₀
  hk : cs.kind = .function
  hd : dp + k < recursionLimit
  hu : un + 8 * k < cLine
end

/-- what a call of a def at address f yields, in any frame -/
def Claim (w : World) (k : Nat) (f : Addr) (vs : List Value) (news : List (Addr × Obj)) (Post : Value → List (Addr × Obj) → Prop) : Prop :=
  ∀ (mg mb : Str → Option Value) (mean : ExcName → Option Value) (dp un : Nat) (gd : Option (List Code)) (cn : Str) (cs : Scope) (a : Addr) (ccd : Value) (cl : List (Str × Addr)) (outer : List Env) (A₀ : Around) (base h₀ : Heap) (L : Addr) (m : Str → Option Value) (s : Shared) (Q E : Value → Shared → Prop),
    Ctx w mg mb mean dp un cs outer A₀ base h₀ L m s.heap news k →
    (∀ (v : Value) (news' : List (Addr × Obj)) (h' : Heap) (tk' : Nat), Post v news' → Fr h₀ L h' m → News h₀ L h' news' → Q v { s with heap := h', toks := tk' }) →
    wpAny (model (OpenLaw.row PySem.Challenge.rw_pf0379_01).prog w) (ktrTop dp un gd cn cs L a ccd cl outer) (call (.ref f) vs) Q E s

/- lists of objects -/
theorem upd_news {h₀ h : Heap} {L c : Addr} {o o' : Obj} {news news' : List (Addr × Obj)} (U : Upd c o o' news news')
    (N : News h₀ L h ((c, o') :: news.filter (fun p => !(p.1 == c)))) : News h₀ L h news' := by
  obtain ⟨pre, post, rfl, rfl, h1, h2⟩ := U.split
  intro p hp
  rcases List.mem_append.mp hp with hp | hp
  · exact N p (.tail _ (List.mem_filter.mpr ⟨List.mem_append.mpr (.inl hp), by simpa using h1 p hp⟩))
  · rcases List.mem_cons.mp hp with rfl | hp
    · exact N _ (.head _)
    · exact N p (.tail _ (List.mem_filter.mpr ⟨List.mem_append.mpr (.inr (.tail _ hp)), by simpa using h2 p hp⟩))
theorem news_at {h₀ h : Heap} {L c : Addr} {o : Obj} {news : List (Addr × Obj)} (N : News h₀ L h news) (hc : (c, o) ∈ news) :
    News h₀ L h ((c, o) :: news.filter (fun p => !(p.1 == c))) := by
  intro p hp
  rcases List.mem_cons.mp hp with rfl | hp
  · exact N _ hc
  · exact N p (List.mem_filter.mp hp).1
theorem off_at {c : Addr} {news : List (Addr × Obj)} : ∀ p ∈ news.filter (fun p => !(p.1 == c)), p.1 ≠ c := by
  intro p hp
  simpa using (List.mem_filter.mp hp).2
theorem news_ne {h₀ h : Heap} {L a b : Addr} {o o' : Obj} {news : List (Addr × Obj)} (N : News h₀ L h news) (ha : (a, o) ∈ news) (hb : (b, o') ∈ news) (hc : o.cls ≠ o'.cls) : a ≠ b := by
  rintro rfl
  have h1 := (N _ ha).1
  have h2 := (N _ hb).1
  rw [h1] at h2
  cases h2
  exact hc rfl
theorem news_cons {h₀ h : Heap} {L a : Addr} {o : Obj} {news news' : List (Addr × Obj)} (N : News h₀ L h news) (ha : (a, o) ∈ news) (N' : News h₀ L h news') : News h₀ L h ((a, o) :: news') := by
  intro p hp
  rcases List.mem_cons.mp hp with rfl | hp
  · exact N _ ha
  · exact N' p hp
theorem news_tail {h₀ h : Heap} {L : Addr} {q : Addr × Obj} {news : List (Addr × Obj)} (N : News h₀ L h (q :: news)) : News h₀ L h news := fun p hp => N p (.tail _ hp)
theorem nx {P : Prop} {h₀ h : Heap} {L c : Addr} {o o' : Obj} {news news' : List (Addr × Obj)} (hN : ∀ news', Upd c o o' news news' → News h₀ L h news') (U : Upd c o o' news news') (k : News h₀ L h news' → P) : P := k (hN _ U)

theorem fm0 (a : Int) {b : Int} (h : 0 < b) : 0 ≤ a.fmod b := Int.fmod_nonneg_of_pos a h
theorem fm1 (a : Int) {b : Int} (h : 0 < b) : a.fmod b < b := Int.fmod_lt_of_pos a h
theorem mul_mod_ok (z z' : Int) : IntMulOk (z.fmod 2147483647) z' :=
  IntMulOk.of_left (intBits_le_64 (by have := fm0 z (b := 2147483647) (by decide); omega) (by have := fm1 z (b := 2147483647) (by decide); omega))

/- the bucket's dict -/
abbrev bkD (hr hb hg hn : Int) (kr kb kg kn : Tok) (tr tb : Tok) (rate burst : Int) (grains : Int) (tg : Tok) (time : Int) (tn : Tok) : Obj :=
  dictOf [⟨hr, .str (Str.ofString "rate") kr, .int rate tr⟩, ⟨hb, .str (Str.ofString "burst") kb, .int burst tb⟩, ⟨hg, .str (Str.ofString "grains") kg, .int grains tg⟩, ⟨hn, .str (Str.ofString "time") kn, .int time tn⟩] 4
def fillG (r b g t n : Int) : Int := if n ≤ t then g else if b * 100 < g + r * (n - t) then b * 100 else g + r * (n - t)
def fillT (t n : Int) : Int := if n ≤ t then t else n

def asked (size burst : Int) : Int := if burst < size then burst else size
def takenG (size G : Int) : Int := if size * 100 ≤ G then G - size * 100 else G
def sentG (size ask G : Int) : Int := if ask * 100 ≤ G then G - size * 100 else G

/- the book -/
abbrev bookKV (tr tb : Tok) (rate burst : Int) (lack : Int) (tl : Tok) (since : Int) (ts : Tok) : List (Str × Value) :=
  [(Str.ofString "rate", .int rate tr), (Str.ofString "burst", .int burst tb), (Str.ofString "lack", .int lack tl), (Str.ofString "since", .int since ts)]
def IsBook (w : World) (o : Obj) (kv : List (Str × Value)) : Prop := o.IsDictOf (PySem.strKind (OpenLaw.row PySem.Challenge.rw_pf0379_01).prog w) kv
theorem bookFlat (tr tb : Tok) (rate burst : Int) (lack : Int) (tl : Tok) (since : Int) (ts : Tok) :
   FlatPairs PyData.str (bookKV tr tb rate burst lack tl since ts) [(PyData.str (Str.ofString "rate"), PyData.int rate), (PyData.str (Str.ofString "burst"), PyData.int burst), (PyData.str (Str.ofString "lack"), PyData.int lack), (PyData.str (Str.ofString "since"), PyData.int since)] :=
  .cons (.int _ _) (.cons (.int _ _) (.cons (.int _ _) (.cons (.int _ _) .nil)))
theorem stored_lack {tr tb : Tok} {rate burst lack : Int} {tl : Tok} {since : Int} {ts : Tok} {v : Int} {t : Tok} :
   stored (bookKV tr tb rate burst lack tl since ts) (Str.ofString "lack") (.int v t) = bookKV tr tb rate burst v t since ts := rfl
theorem stored_since {tr tb : Tok} {rate burst lack : Int} {tl : Tok} {since : Int} {ts : Tok} {v : Int} {t : Tok} :
   stored (bookKV tr tb rate burst lack tl since ts) (Str.ofString "since") (.int v t) = bookKV tr tb rate burst lack tl v t := rfl
theorem isBook_of {w : World} {o : Obj} {kv kv' : List (Str × Value)} (h : o.IsDictOf (PySem.strKind (OpenLaw.row PySem.Challenge.rw_pf0379_01).prog w) kv) (e : kv = kv') : IsBook w o kv' := e ▸ h
def shr (r l s n : Int) : Int := if l - r * (n - s) > 0 then l - r * (n - s) else 0

/- part D -/
local macro_rules | `(tactic| k_all) => `(tactic| assumption)
local macro_rules | `(tactic| k_room) => `(tactic| ((try simp only [depth_under_make, depth_under_kw, depth_in1, depth_deeper, depth_caller]); (try dsimp only [ktrTop]); omega))
local macro_rules | `(tactic| k_units) => `(tactic| ((have hcL9 := cLine_is); (try simp only [units_in1, units_deeper, Around.mark_units, units_caller]); (try dsimp only [ktrTop]); omega))
section
local macro_rules | `(tactic| walk_at "binaryOp Mult int int") => `(tactic| (k_here; with_unfolding_all refine mul_int ?_ (mul_mod_ok _ _)))
set_option maxRecDepth 100000 in
set_option maxHeartbeats 8000000 in
theorem draw_claim (w : World) (c : Addr) (x y top : Int) (tx ty tt : Tok) (n : Nat) (rest : List (Addr × Obj))
    (hx : 0 ≤ x) (hy : 0 ≤ y) (hy2 : y < 2147483647) (ht : 0 < top) (ht2 : top < 1000) (hoff : ∀ p ∈ rest, p.1 ≠ c) :
    Claim w 2 187 [.ref c, .int top tt] ((c, listOf #[.int x tx, .int y ty] n) :: rest)
      (fun v news' => ∃ r t x' tx' y' ty', v = .int r t ∧ 0 ≤ r ∧ r < top ∧ 0 ≤ x' ∧ 0 ≤ y' ∧ y' < 2147483647 ∧ news' = (c, listOf #[.int x' tx', .int y' ty'] n) :: rest) := by
  unfold Claim

  rintro mg mb mean dp un gd cn cs a ccd cl outer A₀ base h₀ L m s Q E ⟨B, F, X, N, T, hk, hd, hu⟩ hret
  revert X; k_fill; intro X
  w_top off
  refine wpAny_call ?_
  k_dflt cell_enter
  k_steps
  all_goals refine hret _ _ _ _ ?_ (by k_asm) (by k_asm)
  · exact ⟨_, _, _, _, _, _, rfl, fm0 _ ht, fm1 _ ht, Int.fdiv_nonneg hx (Int.le_of_lt ht), hy, hy2, rfl⟩
  · exact ⟨_, _, _, _, _, _, rfl, fm0 _ ht, fm1 _ ht, hx, fm0 _ (by decide), fm1 _ (by decide), rfl⟩
end
section
variable {w : World} {mg mb : Str → Option Value} {mean : ExcName → Option Value} {dp un : Nat} {gd : Option (List Code)} {cn : Str} {cs : Scope} {a : Addr} {ccd : Value} {cl : List (Str × Addr)} {outer : List Env} {A₀ : Around} {base h₀ : Heap} {L : Addr} {m : Str → Option Value} {s : Shared} {Q E : Value → Shared → Prop} {news : List (Addr × Obj)}
theorem draw_use {c : Addr} {x y top : Int} {tx ty tt : Tok} {n : Nat} (C : Ctx w mg mb mean dp un cs outer A₀ base h₀ L m s.heap news 2) (hc : (c, listOf #[.int x tx, .int y ty] n) ∈ news)
    (hx : 0 ≤ x) (hy : 0 ≤ y) (hy2 : y < 2147483647) (ht : 0 < top) (ht2 : top < 1000)
    (ret : ∀ (r : Int) (t : Tok) (x' : Int) (tx' : Tok) (y' : Int) (ty' : Tok) (h' : Heap) (tk' : Nat), 0 ≤ r → r < top → 0 ≤ x' → 0 ≤ y' → y' < 2147483647 → Fr h₀ L h' m →
      (∀ news', Upd c (listOf #[.int x tx, .int y ty] n) (listOf #[.int x' tx', .int y' ty'] n) news news' → News h₀ L h' news') → Q (.int r t) { s with heap := h', toks := tk' }) :
    wpAny (model (OpenLaw.row PySem.Challenge.rw_pf0379_01).prog w) (ktrTop dp un gd cn cs L a ccd cl outer) (call (.ref 187) [.ref c, .int top tt]) Q E s := by
  refine draw_claim w c x y top tx ty tt n (news.filter (fun p => !(p.1 == c))) hx hy hy2 ht ht2 off_at mg mb mean dp un gd cn cs a ccd cl outer A₀ base h₀ L m s Q E { C with N := news_at C.N hc } ?_
  rintro v news' h' tk' ⟨r, t, x', tx', y', ty', rfl, h1, h2, h3, h4, h5, rfl⟩ F' N'
  exact ret r t x' tx' y' ty' h' tk' h1 h2 h3 h4 h5 F' fun _ U => upd_news U N'
end
set_option maxRecDepth 100000 in
set_option maxHeartbeats 8000000 in
theorem shrunk_claim (w : World) (k : Addr) (ob : Obj) (tr tb : Tok) (rate burst lack : Int) (tl : Tok) (since : Int) (ts : Tok) (now : Int) (t0 : Tok) (rest : List (Addr × Obj))
    (hD : IsBook w ob (bookKV tr tb rate burst lack tl since ts)) (hsm : (k == sysModules) = false)
    (hoff : ∀ p ∈ rest, p.1 ≠ k) (hr0 : 0 ≤ rate) (hr1 : rate < 10000) :
    Claim w 2 194 [.ref k, .int now t0] ((k, ob) :: rest)
      (fun v news' => ∃ (t tl' ts' : Tok) (ob' : Obj), v = .int (shr rate lack since now) t ∧ IsBook w ob' (bookKV tr tb rate burst (shr rate lack since now) tl' now ts') ∧ news' = (k, ob') :: rest) := by
  unfold Claim

  rintro mg mb mean dp un gd cn cs a ccd cl outer A₀ base h₀ L m s Q E ⟨B, F, X, N, T, hk, hd, hu⟩ hret
  revert X; k_fill; intro X
  w_top off
  have hF := bookFlat tr tb rate burst lack tl since ts
  dsimp only [bookKV, IsBook] at hD hF
  refine wpAny_call ?_
  k_dflt cell_enter
  k_steps
  all_goals refine hret _ _ _ _ ?_ (by k_asm) (by k_asm)
  · (rename Obj.IsDictOf _ _ _ => hd9)
    exact ⟨_, _, _, _, rfl, isBook_of hd9 (by first | rfl | (rw [stored_lack, stored_since])), rfl⟩
section
variable {w : World} {mg mb : Str → Option Value} {mean : ExcName → Option Value} {dp un : Nat} {gd : Option (List Code)} {cn : Str} {cs : Scope} {a : Addr} {ccd : Value} {cl : List (Str × Addr)} {outer : List Env} {A₀ : Around} {base h₀ : Heap} {L : Addr} {m : Str → Option Value} {s : Shared} {Q E : Value → Shared → Prop} {news : List (Addr × Obj)}
theorem shrunk_use {k : Addr} {ob : Obj} {tr tb : Tok} {rate burst lack : Int} {tl : Tok} {since : Int} {ts : Tok} {now : Int} {t0 : Tok} (C : Ctx w mg mb mean dp un cs outer A₀ base h₀ L m s.heap news 2)
    (hc : (k, ob) ∈ news) (hD : IsBook w ob (bookKV tr tb rate burst lack tl since ts)) (hsm : (k == sysModules) = false) (hr0 : 0 ≤ rate) (hr1 : rate < 10000)
    (ret : ∀ (t tl' ts' : Tok) (ob' : Obj) (h' : Heap) (tk' : Nat), IsBook w ob' (bookKV tr tb rate burst (shr rate lack since now) tl' now ts') → Fr h₀ L h' m →
      (∀ news', Upd k ob ob' news news' → News h₀ L h' news') → Q (.int (shr rate lack since now) t) { s with heap := h', toks := tk' }) :
    wpAny (model (OpenLaw.row PySem.Challenge.rw_pf0379_01).prog w) (ktrTop dp un gd cn cs L a ccd cl outer) (call (.ref 194) [.ref k, .int now t0]) Q E s := by
  refine shrunk_claim w k ob tr tb rate burst lack tl since ts now t0 (news.filter (fun p => !(p.1 == k))) hD hsm off_at hr0 hr1 mg mb mean dp un gd cn cs a ccd cl outer A₀ base h₀ L m s Q E { C with N := news_at C.N hc } ?_
  rintro v news' h' tk' ⟨t, tl', ts', ob', rfl, h1, rfl⟩ F' N'
  exact ret t tl' ts' ob' h' tk' h1 F' fun _ U => upd_news U N'
end
theorem mul_lt_ok {a b : Int} (h1 : 0 ≤ a) (h2 : a < 10000) : IntMulOk a b := IntMulOk.of_left (intBits_le_64 (by omega) (by omega))
set_option maxRecDepth 100000 in
set_option maxHeartbeats 8000000 in
theorem fill_claim (w : World) (b d : Addr) (hr hb hg hn : Int) (kr kb kg kn : Tok) (tr tb : Tok) (rate burst grains : Int) (tg : Tok) (time : Int) (tn : Tok) (now : Int) (t0 : Tok) (rest : List (Addr × Obj))
    (hbd : b ≠ d) (hoff : ∀ p ∈ rest, p.1 ≠ d) (hr0 : 0 ≤ rate) (hr1 : rate < 10000) (hb0 : 0 < burst) (hb1 : burst < 10000) :
    Claim w 2 82 [.ref b, .int now t0] ((b, instObj 127 d) :: (d, bkD hr hb hg hn kr kb kg kn tr tb rate burst grains tg time tn) :: rest)
      (fun v news' => ∃ (i : Int) (t tg' tn' : Tok), v = .int i t ∧ news' = (b, instObj 127 d) :: (d, bkD hr hb hg hn kr kb kg kn tr tb rate burst (fillG rate burst grains time now) tg' (fillT time now) tn') :: rest) := by
  unfold Claim

  rintro mg mb mean dp un gd cn cs a ccd cl outer A₀ base h₀ L m s Q E ⟨B, F, X, N, T, hk, hd, hu⟩ hret
  revert X; k_fill; intro X
  w_top off
  dsimp only [bkD] at *
  refine wpAny_call ?_
  k_dflt cell_enter
  k_steps
  all_goals refine hret _ _ _ _ ?_ (by k_asm) (by k_asm)
  · (have h9 : now ≤ time := by omega)
    exact ⟨_, _, tg, tn, rfl, by rw [fillG, fillT, if_pos h9, if_pos h9]⟩
  · (have h9 : ¬ now ≤ time := by omega)
    exact ⟨_, _, _, _, rfl, by rw [fillG, fillT, if_neg h9, if_neg h9]⟩
section
variable {w : World} {mg mb : Str → Option Value} {mean : ExcName → Option Value} {dp un : Nat} {gd : Option (List Code)} {cn : Str} {cs : Scope} {a : Addr} {ccd : Value} {cl : List (Str × Addr)} {outer : List Env} {A₀ : Around} {base h₀ : Heap} {L : Addr} {m : Str → Option Value} {s : Shared} {Q E : Value → Shared → Prop} {news : List (Addr × Obj)}
theorem fill_use {b d : Addr} {hr hb hg hn : Int} {kr kb kg kn : Tok} {tr tb : Tok} {rate burst grains : Int} {tg : Tok} {time : Int} {tn : Tok} {now : Int} {t0 : Tok} (C : Ctx w mg mb mean dp un cs outer A₀ base h₀ L m s.heap news 2)
    (hI : (b, instObj 127 d) ∈ news) (hD : (d, bkD hr hb hg hn kr kb kg kn tr tb rate burst grains tg time tn) ∈ news) (hr0 : 0 ≤ rate) (hr1 : rate < 10000) (hb0 : 0 < burst) (hb1 : burst < 10000)
    (ret : ∀ (i : Int) (t tg' tn' : Tok) (h' : Heap) (tk' : Nat), Fr h₀ L h' m →
      (∀ news', Upd d (bkD hr hb hg hn kr kb kg kn tr tb rate burst grains tg time tn) (bkD hr hb hg hn kr kb kg kn tr tb rate burst (fillG rate burst grains time now) tg' (fillT time now) tn') news news' → News h₀ L h' news') → Q (.int i t) { s with heap := h', toks := tk' }) :
    wpAny (model (OpenLaw.row PySem.Challenge.rw_pf0379_01).prog w) (ktrTop dp un gd cn cs L a ccd cl outer) (call (.ref 82) [.ref b, .int now t0]) Q E s := by
  refine fill_claim w b d hr hb hg hn kr kb kg kn tr tb rate burst grains tg time tn now t0 (news.filter (fun p => !(p.1 == d))) (news_ne C.N hI hD (by intro e; cases e)) off_at hr0 hr1 hb0 hb1 mg mb mean dp un gd cn cs a ccd cl outer A₀ base h₀ L m s Q E { C with N := news_cons C.N hI (news_at C.N hD) } ?_
  rintro v news' h' tk' ⟨i, t, tg', tn', rfl, rfl⟩ F' N'
  exact ret i t tg' tn' h' tk' F' fun _ U => upd_news U (news_tail N')
end

/- part E -/
local macro_rules | `(tactic| k_ne) => `(tactic| first | assumption | exact Ne.symm (by assumption))
local macro_rules | `(tactic| ktr_rel) => `(tactic| exact ⟨by k_asm, by k_asm, by k_asm, by k_asm, by k_asm, by first | rfl | assumption, by k_room, by k_units⟩)
theorem news_neO {h₀ h : Heap} {L a b : Addr} {o o' : Obj} {news : List (Addr × Obj)} (N : News h₀ L h news) (ha : (a, o) ∈ news) (hb : (b, o') ∈ news) (hc : o ≠ o') : a ≠ b := by
  rintro rfl
  have h1 := (N _ ha).1
  have h2 := (N _ hb).1
  rw [h1] at h2
  cases h2
  exact hc rfl
def waitV (size burst rate G from_ : Int) (v : Value) : Prop :=
  (size * 100 - G ≤ 0 ∧ ∃ t, v = .int from_ t) ∨ (0 < size * 100 - G ∧ (burst < size ∨ rate = 0) ∧ v = .none) ∨
    (0 < size * 100 - G ∧ size ≤ burst ∧ rate ≠ 0 ∧ ∃ t, v = .int (from_ + (size * 100 - G + rate - 1).fdiv rate) t)
local macro_rules | `(tactic| walk_at "call ref") => `(tactic| (k_here; (with_reducible show wpAny _ _ (call (Value.ref 82) [_, _]) _ _ _); k_dflt ((refine fill_use (by ktr_rel) (by k_mem) (by k_mem) (by ktn_open) (by ktn_open) (by ktn_open) (by ktn_open) ?_); intro i' t' tg' tn' h' tk' F' hN'; (refine nx hN' (by k_upd) ?_); clear hN'; intro N'; ktr_unf)))
set_option maxRecDepth 100000 in
set_option maxHeartbeats 8000000 in
theorem level_claim (w : World) (b d : Addr) (hr hb hg hn : Int) (kr kb kg kn : Tok) (tr tb : Tok) (rate burst grains : Int) (tg : Tok) (time : Int) (tn : Tok) (now : Int) (t0 : Tok) (rest : List (Addr × Obj))
    (hbd : b ≠ d) (hoff : ∀ p ∈ rest, p.1 ≠ d) (hr0 : 0 ≤ rate) (hr1 : rate < 10000) (hb0 : 0 < burst) (hb1 : burst < 10000) :
    Claim w 4 89 [.ref b, .int now t0] ((b, instObj 127 d) :: (d, bkD hr hb hg hn kr kb kg kn tr tb rate burst grains tg time tn) :: rest)
      (fun v news' => ∃ (t : Tok) (tg' tn' : Tok), v = .int ((fillG rate burst grains time now).fdiv 100) t ∧ news' = (b, instObj 127 d) :: (d, bkD hr hb hg hn kr kb kg kn tr tb rate burst (fillG rate burst grains time now) tg' (fillT time now) tn') :: rest) := by
  unfold Claim
  rintro mg mb mean dp un gd cn cs a ccd cl outer A₀ base h₀ L m s Q E ⟨B, F, X, N, T, hk, hd, hu⟩ hret
  revert X; k_fill; intro X
  w_top off
  refine wpAny_call ?_
  k_dflt cell_enter
  k_steps
  all_goals refine hret _ _ _ _ ?_ (by k_asm) (by k_asm)
  · exact ⟨_, _, _, rfl, rfl⟩

section
variable {w : World} {mg mb : Str → Option Value} {mean : ExcName → Option Value} {dp un : Nat} {gd : Option (List Code)} {cn : Str} {cs : Scope} {a : Addr} {ccd : Value} {cl : List (Str × Addr)} {outer : List Env} {A₀ : Around} {base h₀ : Heap} {L : Addr} {m : Str → Option Value} {s : Shared} {Q E : Value → Shared → Prop} {news : List (Addr × Obj)}
theorem level_use {b d : Addr} {hr hb hg hn : Int} {kr kb kg kn : Tok} {tr tb : Tok} {rate burst grains : Int} {tg : Tok} {time : Int} {tn : Tok} {now : Int} {t0 : Tok} (C : Ctx w mg mb mean dp un cs outer A₀ base h₀ L m s.heap news 4)
    (hI : (b, instObj 127 d) ∈ news) (hD : (d, bkD hr hb hg hn kr kb kg kn tr tb rate burst grains tg time tn) ∈ news) (hr0 : 0 ≤ rate) (hr1 : rate < 10000) (hb0 : 0 < burst) (hb1 : burst < 10000)
    (ret : ∀ (t : Tok) (tg' tn' : Tok) (h' : Heap) (tk' : Nat), Fr h₀ L h' m →
      (∀ news', Upd d (bkD hr hb hg hn kr kb kg kn tr tb rate burst grains tg time tn) (bkD hr hb hg hn kr kb kg kn tr tb rate burst (fillG rate burst grains time now) tg' (fillT time now) tn') news news' → News h₀ L h' news') → Q (.int ((fillG rate burst grains time now).fdiv 100) t) { s with heap := h', toks := tk' }) :
    wpAny (model (OpenLaw.row PySem.Challenge.rw_pf0379_01).prog w) (ktrTop dp un gd cn cs L a ccd cl outer) (call (.ref 89) [.ref b, .int now t0]) Q E s := by
  refine level_claim w b d hr hb hg hn kr kb kg kn tr tb rate burst grains tg time tn now t0 (news.filter (fun p => !(p.1 == d))) (news_ne C.N hI hD (by intro e; cases e)) off_at hr0 hr1 hb0 hb1 mg mb mean dp un gd cn cs a ccd cl outer A₀ base h₀ L m s Q E { C with N := news_cons C.N hI (news_at C.N hD) } ?_
  rintro v news' h' tk' ⟨t, tg', tn', rfl, rfl⟩ F' N'
  exact ret t tg' tn' h' tk' F' (fun _ U => upd_news U (news_tail N')) 
end
set_option maxRecDepth 100000 in
set_option maxHeartbeats 8000000 in
theorem has_claim (w : World) (b d : Addr) (hr hb hg hn : Int) (kr kb kg kn : Tok) (tr tb : Tok) (rate burst grains : Int) (tg : Tok) (time : Int) (tn : Tok) (size : Int) (ts : Tok) (now : Int) (t0 : Tok) (rest : List (Addr × Obj))
    (hbd : b ≠ d) (hoff : ∀ p ∈ rest, p.1 ≠ d) (hr0 : 0 ≤ rate) (hr1 : rate < 10000) (hb0 : 0 < burst) (hb1 : burst < 10000) :
    Claim w 4 96 [.ref b, .int size ts, .int now t0] ((b, instObj 127 d) :: (d, bkD hr hb hg hn kr kb kg kn tr tb rate burst grains tg time tn) :: rest)
      (fun v news' => ∃ (tg' tn' : Tok), v = .bool (decide (size * 100 ≤ fillG rate burst grains time now)) ∧ news' = (b, instObj 127 d) :: (d, bkD hr hb hg hn kr kb kg kn tr tb rate burst (fillG rate burst grains time now) tg' (fillT time now) tn') :: rest) := by
  unfold Claim
  rintro mg mb mean dp un gd cn cs a ccd cl outer A₀ base h₀ L m s Q E ⟨B, F, X, N, T, hk, hd, hu⟩ hret
  revert X; k_fill; intro X
  w_top off
  refine wpAny_call ?_
  k_dflt cell_enter
  k_steps
  all_goals refine hret _ _ _ _ ?_ (by k_asm) (by k_asm)
  · exact ⟨_, _, rfl, rfl⟩

section
variable {w : World} {mg mb : Str → Option Value} {mean : ExcName → Option Value} {dp un : Nat} {gd : Option (List Code)} {cn : Str} {cs : Scope} {a : Addr} {ccd : Value} {cl : List (Str × Addr)} {outer : List Env} {A₀ : Around} {base h₀ : Heap} {L : Addr} {m : Str → Option Value} {s : Shared} {Q E : Value → Shared → Prop} {news : List (Addr × Obj)}
theorem has_use {b d : Addr} {hr hb hg hn : Int} {kr kb kg kn : Tok} {tr tb : Tok} {rate burst grains : Int} {tg : Tok} {time : Int} {tn : Tok} {size : Int} {ts : Tok} {now : Int} {t0 : Tok} (C : Ctx w mg mb mean dp un cs outer A₀ base h₀ L m s.heap news 4)
    (hI : (b, instObj 127 d) ∈ news) (hD : (d, bkD hr hb hg hn kr kb kg kn tr tb rate burst grains tg time tn) ∈ news) (hr0 : 0 ≤ rate) (hr1 : rate < 10000) (hb0 : 0 < burst) (hb1 : burst < 10000)
    (ret : ∀ (tg' tn' : Tok) (h' : Heap) (tk' : Nat), Fr h₀ L h' m →
      (∀ news', Upd d (bkD hr hb hg hn kr kb kg kn tr tb rate burst grains tg time tn) (bkD hr hb hg hn kr kb kg kn tr tb rate burst (fillG rate burst grains time now) tg' (fillT time now) tn') news news' → News h₀ L h' news') → Q (.bool (decide (size * 100 ≤ fillG rate burst grains time now))) { s with heap := h', toks := tk' }) :
    wpAny (model (OpenLaw.row PySem.Challenge.rw_pf0379_01).prog w) (ktrTop dp un gd cn cs L a ccd cl outer) (call (.ref 96) [.ref b, .int size ts, .int now t0]) Q E s := by
  refine has_claim w b d hr hb hg hn kr kb kg kn tr tb rate burst grains tg time tn size ts now t0 (news.filter (fun p => !(p.1 == d))) (news_ne C.N hI hD (by intro e; cases e)) off_at hr0 hr1 hb0 hb1 mg mb mean dp un gd cn cs a ccd cl outer A₀ base h₀ L m s Q E { C with N := news_cons C.N hI (news_at C.N hD) } ?_
  rintro v news' h' tk' ⟨tg', tn', rfl, rfl⟩ F' N'
  exact ret tg' tn' h' tk' F' (fun _ U => upd_news U (news_tail N')) 
end
local macro_rules | `(tactic| walk_at "call ref") => `(tactic| (k_here; (with_reducible show wpAny _ _ (call (Value.ref 96) [_, _, _]) _ _ _); k_dflt ((refine has_use (by ktr_rel) (by k_mem) (by k_mem) (by ktn_open) (by ktn_open) (by ktn_open) (by ktn_open) ?_); intro tg' tn' h' tk' F' hN'; (refine nx hN' (by k_upd) ?_); clear hN'; intro N'; ktr_unf)))
set_option maxRecDepth 100000 in
set_option maxHeartbeats 8000000 in
theorem take_claim (w : World) (b d : Addr) (hr hb hg hn : Int) (kr kb kg kn : Tok) (tr tb : Tok) (rate burst grains : Int) (tg : Tok) (time : Int) (tn : Tok) (size : Int) (ts : Tok) (now : Int) (t0 : Tok) (rest : List (Addr × Obj))
    (hbd : b ≠ d) (hoff : ∀ p ∈ rest, p.1 ≠ d) (hr0 : 0 ≤ rate) (hr1 : rate < 10000) (hb0 : 0 < burst) (hb1 : burst < 10000) :
    Claim w 6 110 [.ref b, .int size ts, .int now t0] ((b, instObj 127 d) :: (d, bkD hr hb hg hn kr kb kg kn tr tb rate burst grains tg time tn) :: rest)
      (fun v news' => ∃ (tg' tn' : Tok), v = .bool (decide (size * 100 ≤ fillG rate burst grains time now)) ∧ news' = (b, instObj 127 d) :: (d, bkD hr hb hg hn kr kb kg kn tr tb rate burst (takenG size (fillG rate burst grains time now)) tg' (fillT time now) tn') :: rest) := by
  unfold Claim
  rintro mg mb mean dp un gd cn cs a ccd cl outer A₀ base h₀ L m s Q E ⟨B, F, X, N, T, hk, hd, hu⟩ hret
  revert X; k_fill; intro X
  w_top off
  refine wpAny_call ?_
  k_dflt cell_enter
  k_steps
  all_goals refine hret _ _ _ _ ?_ (by k_asm) (by k_asm)
  · (have h9 : size * 100 ≤ fillG rate burst grains time now := by assumption)
    exact ⟨_, _, by rw [decide_eq_true h9], by rw [takenG, if_pos h9]⟩
  · (have h9 : ¬ size * 100 ≤ fillG rate burst grains time now := by assumption)
    exact ⟨_, _, by rw [decide_eq_false h9], by rw [takenG, if_neg h9]⟩

section
variable {w : World} {mg mb : Str → Option Value} {mean : ExcName → Option Value} {dp un : Nat} {gd : Option (List Code)} {cn : Str} {cs : Scope} {a : Addr} {ccd : Value} {cl : List (Str × Addr)} {outer : List Env} {A₀ : Around} {base h₀ : Heap} {L : Addr} {m : Str → Option Value} {s : Shared} {Q E : Value → Shared → Prop} {news : List (Addr × Obj)}
theorem take_use {b d : Addr} {hr hb hg hn : Int} {kr kb kg kn : Tok} {tr tb : Tok} {rate burst grains : Int} {tg : Tok} {time : Int} {tn : Tok} {size : Int} {ts : Tok} {now : Int} {t0 : Tok} (C : Ctx w mg mb mean dp un cs outer A₀ base h₀ L m s.heap news 6)
    (hI : (b, instObj 127 d) ∈ news) (hD : (d, bkD hr hb hg hn kr kb kg kn tr tb rate burst grains tg time tn) ∈ news) (hr0 : 0 ≤ rate) (hr1 : rate < 10000) (hb0 : 0 < burst) (hb1 : burst < 10000)
    (ret : ∀ (tg' tn' : Tok) (h' : Heap) (tk' : Nat), Fr h₀ L h' m →
      (∀ news', Upd d (bkD hr hb hg hn kr kb kg kn tr tb rate burst grains tg time tn) (bkD hr hb hg hn kr kb kg kn tr tb rate burst (takenG size (fillG rate burst grains time now)) tg' (fillT time now) tn') news news' → News h₀ L h' news') → Q (.bool (decide (size * 100 ≤ fillG rate burst grains time now))) { s with heap := h', toks := tk' }) :
    wpAny (model (OpenLaw.row PySem.Challenge.rw_pf0379_01).prog w) (ktrTop dp un gd cn cs L a ccd cl outer) (call (.ref 110) [.ref b, .int size ts, .int now t0]) Q E s := by
  refine take_claim w b d hr hb hg hn kr kb kg kn tr tb rate burst grains tg time tn size ts now t0 (news.filter (fun p => !(p.1 == d))) (news_ne C.N hI hD (by intro e; cases e)) off_at hr0 hr1 hb0 hb1 mg mb mean dp un gd cn cs a ccd cl outer A₀ base h₀ L m s Q E { C with N := news_cons C.N hI (news_at C.N hD) } ?_
  rintro v news' h' tk' ⟨tg', tn', rfl, rfl⟩ F' N'
  exact ret tg' tn' h' tk' F' (fun _ U => upd_news U (news_tail N')) 
end
set_option maxRecDepth 100000 in
set_option maxHeartbeats 8000000 in
theorem wait_claim (w : World) (b d : Addr) (hr hb hg hn : Int) (kr kb kg kn : Tok) (tr tb : Tok) (rate burst grains : Int) (tg : Tok) (time : Int) (tn : Tok) (size : Int) (ts : Tok) (now : Int) (t0 : Tok) (rest : List (Addr × Obj))
    (hbd : b ≠ d) (hoff : ∀ p ∈ rest, p.1 ≠ d) (hr0 : 0 ≤ rate) (hr1 : rate < 10000) (hb0 : 0 < burst) (hb1 : burst < 10000) :
    Claim w 4 124 [.ref b, .int size ts, .int now t0] ((b, instObj 127 d) :: (d, bkD hr hb hg hn kr kb kg kn tr tb rate burst grains tg time tn) :: rest)
      (fun v news' => ∃ (tg' tn' : Tok), waitV size burst rate (fillG rate burst grains time now) 0 v ∧ news' = (b, instObj 127 d) :: (d, bkD hr hb hg hn kr kb kg kn tr tb rate burst (fillG rate burst grains time now) tg' (fillT time now) tn') :: rest) := by
  unfold Claim
  rintro mg mb mean dp un gd cn cs a ccd cl outer A₀ base h₀ L m s Q E ⟨B, F, X, N, T, hk, hd, hu⟩ hret
  revert X; k_fill; intro X
  w_top off
  refine wpAny_call ?_
  k_dflt cell_enter
  k_steps
  all_goals refine hret _ _ _ _ ?_ (by k_asm) (by k_asm)
  · exact ⟨_, _, .inl ⟨by omega, _, rfl⟩, rfl⟩
  · exact ⟨_, _, .inr (.inl ⟨by omega, .inl (by omega), rfl⟩), rfl⟩
  · exact ⟨_, _, .inr (.inl ⟨by omega, .inr (by omega), rfl⟩), rfl⟩
  · exact ⟨_, _, .inr (.inr ⟨by omega, by omega, by omega, _, by rw [Int.zero_add]⟩), rfl⟩

section
variable {w : World} {mg mb : Str → Option Value} {mean : ExcName → Option Value} {dp un : Nat} {gd : Option (List Code)} {cn : Str} {cs : Scope} {a : Addr} {ccd : Value} {cl : List (Str × Addr)} {outer : List Env} {A₀ : Around} {base h₀ : Heap} {L : Addr} {m : Str → Option Value} {s : Shared} {Q E : Value → Shared → Prop} {news : List (Addr × Obj)}
theorem wait_use {b d : Addr} {hr hb hg hn : Int} {kr kb kg kn : Tok} {tr tb : Tok} {rate burst grains : Int} {tg : Tok} {time : Int} {tn : Tok} {size : Int} {ts : Tok} {now : Int} {t0 : Tok} (C : Ctx w mg mb mean dp un cs outer A₀ base h₀ L m s.heap news 4)
    (hI : (b, instObj 127 d) ∈ news) (hD : (d, bkD hr hb hg hn kr kb kg kn tr tb rate burst grains tg time tn) ∈ news) (hr0 : 0 ≤ rate) (hr1 : rate < 10000) (hb0 : 0 < burst) (hb1 : burst < 10000)
    (ret : ∀ (v : Value) (tg' tn' : Tok) (h' : Heap) (tk' : Nat), Fr h₀ L h' m →
      (∀ news', Upd d (bkD hr hb hg hn kr kb kg kn tr tb rate burst grains tg time tn) (bkD hr hb hg hn kr kb kg kn tr tb rate burst (fillG rate burst grains time now) tg' (fillT time now) tn') news news' → News h₀ L h' news') → waitV size burst rate (fillG rate burst grains time now) 0 v → Q (v) { s with heap := h', toks := tk' }) :
    wpAny (model (OpenLaw.row PySem.Challenge.rw_pf0379_01).prog w) (ktrTop dp un gd cn cs L a ccd cl outer) (call (.ref 124) [.ref b, .int size ts, .int now t0]) Q E s := by
  refine wait_claim w b d hr hb hg hn kr kb kg kn tr tb rate burst grains tg time tn size ts now t0 (news.filter (fun p => !(p.1 == d))) (news_ne C.N hI hD (by intro e; cases e)) off_at hr0 hr1 hb0 hb1 mg mb mean dp un gd cn cs a ccd cl outer A₀ base h₀ L m s Q E { C with N := news_cons C.N hI (news_at C.N hD) } ?_
  rintro v news' h' tk' ⟨tg', tn', hv, rfl⟩ F' N'
  exact ret v tg' tn' h' tk' F' (fun _ U => upd_news U (news_tail N')) hv
end
local macro_rules | `(tactic| walk_at "call ref") => `(tactic| (k_here; (with_reducible show wpAny _ _ (call (Value.ref 124) [_, _, _]) _ _ _); k_dflt ((refine wait_use (by ktr_rel) (by k_mem) (by k_mem) (by ktn_open) (by ktn_open) (by ktn_open) (by ktn_open) ?_); intro v' tg' tn' h' tk' F' hN' hv'; (refine nx hN' (by k_upd) ?_); clear hN'; intro N'; (rcases hv' with ⟨_, _, e'⟩ | ⟨_, _, e'⟩ | ⟨_, _, _, _, e'⟩); all_goals subst e'; ktr_unf)))
set_option maxRecDepth 100000 in
set_option maxHeartbeats 8000000 in
theorem when_claim (w : World) (sh dsh : Addr) (hq : Int) (kq : Tok) (b d : Addr) (hr hb hg hn : Int) (kr kb kg kn : Tok) (tr tb : Tok) (rate burst grains : Int) (tg : Tok) (time : Int) (tn : Tok) (size : Int) (ts : Tok) (now : Int) (t0 : Tok) (rest : List (Addr × Obj))
    (hbd : b ≠ d) (hsd : sh ≠ d) (hdd : dsh ≠ d) (hoff : ∀ p ∈ rest, p.1 ≠ d) (hr0 : 0 ≤ rate) (hr1 : rate < 10000) (hb0 : 0 < burst) (hb1 : burst < 10000) :
    Claim w 8 159 [.ref sh, .int size ts, .int now t0] ((sh, instObj 169 dsh) :: (dsh, dictOf [⟨hq, .str (Str.ofString "bucket") kq, .ref b⟩] 1) :: (b, instObj 127 d) :: (d, bkD hr hb hg hn kr kb kg kn tr tb rate burst grains tg time tn) :: rest)
      (fun v news' => ∃ (tg' tn' : Tok), waitV (asked size burst) burst rate (fillG rate burst grains time now) now v ∧ news' = (sh, instObj 169 dsh) :: (dsh, dictOf [⟨hq, .str (Str.ofString "bucket") kq, .ref b⟩] 1) :: (b, instObj 127 d) :: (d, bkD hr hb hg hn kr kb kg kn tr tb rate burst (fillG rate burst grains time now) tg' (fillT time now) tn') :: rest) := by
  unfold Claim
  rintro mg mb mean dp un gd cn cs a ccd cl outer A₀ base h₀ L m s Q E ⟨B, F, X, N, T, hk, hd, hu⟩ hret
  revert X; k_fill; intro X
  w_top off
  refine wpAny_call ?_
  k_dflt cell_enter
  k_steps
  all_goals refine hret _ _ _ _ ?_ (by k_asm) (by k_asm)
  · exact ⟨_, _, .inl ⟨by assumption, _, by rw [Int.add_zero]⟩, rfl⟩
  · exact ⟨_, _, .inr (.inl ⟨by assumption, by assumption, rfl⟩), rfl⟩
  · exact ⟨_, _, .inr (.inr ⟨by assumption, by assumption, by assumption, _, by (simp only [Int.zero_add, asked]; rfl)⟩), rfl⟩

section
variable {w : World} {mg mb : Str → Option Value} {mean : ExcName → Option Value} {dp un : Nat} {gd : Option (List Code)} {cn : Str} {cs : Scope} {a : Addr} {ccd : Value} {cl : List (Str × Addr)} {outer : List Env} {A₀ : Around} {base h₀ : Heap} {L : Addr} {m : Str → Option Value} {s : Shared} {Q E : Value → Shared → Prop} {news : List (Addr × Obj)}
theorem when_use {sh dsh : Addr} {hq : Int} {kq : Tok} {b d : Addr} {hr hb hg hn : Int} {kr kb kg kn : Tok} {tr tb : Tok} {rate burst grains : Int} {tg : Tok} {time : Int} {tn : Tok} {size : Int} {ts : Tok} {now : Int} {t0 : Tok} (C : Ctx w mg mb mean dp un cs outer A₀ base h₀ L m s.heap news 8)
    (hS : (sh, instObj 169 dsh) ∈ news) (hT : (dsh, dictOf [⟨hq, .str (Str.ofString "bucket") kq, .ref b⟩] 1) ∈ news) (hI : (b, instObj 127 d) ∈ news) (hD : (d, bkD hr hb hg hn kr kb kg kn tr tb rate burst grains tg time tn) ∈ news) (hr0 : 0 ≤ rate) (hr1 : rate < 10000) (hb0 : 0 < burst) (hb1 : burst < 10000)
    (ret : ∀ (v : Value) (tg' tn' : Tok) (h' : Heap) (tk' : Nat), Fr h₀ L h' m →
      (∀ news', Upd d (bkD hr hb hg hn kr kb kg kn tr tb rate burst grains tg time tn) (bkD hr hb hg hn kr kb kg kn tr tb rate burst (fillG rate burst grains time now) tg' (fillT time now) tn') news news' → News h₀ L h' news') → waitV (asked size burst) burst rate (fillG rate burst grains time now) now v → Q (v) { s with heap := h', toks := tk' }) :
    wpAny (model (OpenLaw.row PySem.Challenge.rw_pf0379_01).prog w) (ktrTop dp un gd cn cs L a ccd cl outer) (call (.ref 159) [.ref sh, .int size ts, .int now t0]) Q E s := by
  refine when_claim w sh dsh hq kq b d hr hb hg hn kr kb kg kn tr tb rate burst grains tg time tn size ts now t0 (news.filter (fun p => !(p.1 == d))) (news_ne C.N hI hD (by intro e; cases e)) (news_ne C.N hS hD (by intro e; cases e)) (news_neO C.N hT hD (by intro e; cases e)) off_at hr0 hr1 hb0 hb1 mg mb mean dp un gd cn cs a ccd cl outer A₀ base h₀ L m s Q E { C with N := news_cons C.N hS (news_cons C.N hT (news_cons C.N hI (news_at C.N hD))) } ?_
  rintro v news' h' tk' ⟨tg', tn', hv, rfl⟩ F' N'
  exact ret v tg' tn' h' tk' F' (fun _ U => upd_news U (news_tail (news_tail (news_tail N')))) hv
end
set_option maxRecDepth 100000 in
set_option maxHeartbeats 8000000 in
theorem sent_claim (w : World) (sh dsh : Addr) (hq : Int) (kq : Tok) (b d : Addr) (hr hb hg hn : Int) (kr kb kg kn : Tok) (tr tb : Tok) (rate burst grains : Int) (tg : Tok) (time : Int) (tn : Tok) (size : Int) (ts : Tok) (now : Int) (t0 : Tok) (rest : List (Addr × Obj))
    (hbd : b ≠ d) (hsd : sh ≠ d) (hdd : dsh ≠ d) (hoff : ∀ p ∈ rest, p.1 ≠ d) (hr0 : 0 ≤ rate) (hr1 : rate < 10000) (hb0 : 0 < burst) (hb1 : burst < 10000) :
    Claim w 8 166 [.ref sh, .int size ts, .int now t0] ((sh, instObj 169 dsh) :: (dsh, dictOf [⟨hq, .str (Str.ofString "bucket") kq, .ref b⟩] 1) :: (b, instObj 127 d) :: (d, bkD hr hb hg hn kr kb kg kn tr tb rate burst grains tg time tn) :: rest)
      (fun v news' => ∃ (tg' tn' : Tok), v = .bool (decide (asked size burst * 100 ≤ fillG rate burst grains time now)) ∧ news' = (sh, instObj 169 dsh) :: (dsh, dictOf [⟨hq, .str (Str.ofString "bucket") kq, .ref b⟩] 1) :: (b, instObj 127 d) :: (d, bkD hr hb hg hn kr kb kg kn tr tb rate burst (sentG size (asked size burst) (fillG rate burst grains time now)) tg' (fillT time now) tn') :: rest) := by
  unfold Claim
  rintro mg mb mean dp un gd cn cs a ccd cl outer A₀ base h₀ L m s Q E ⟨B, F, X, N, T, hk, hd, hu⟩ hret
  revert X; k_fill; intro X
  w_top off
  refine wpAny_call ?_
  k_dflt cell_enter
  k_steps
  all_goals refine hret _ _ _ _ ?_ (by k_asm) (by k_asm)
  · (have h9 : asked size burst * 100 ≤ fillG rate burst grains time now := by assumption)
    exact ⟨_, _, by rw [decide_eq_true h9], by rw [sentG, if_pos h9]⟩
  · (have h9 : ¬ asked size burst * 100 ≤ fillG rate burst grains time now := by assumption)
    exact ⟨_, _, by rw [decide_eq_false h9], by rw [sentG, if_neg h9]⟩

section
variable {w : World} {mg mb : Str → Option Value} {mean : ExcName → Option Value} {dp un : Nat} {gd : Option (List Code)} {cn : Str} {cs : Scope} {a : Addr} {ccd : Value} {cl : List (Str × Addr)} {outer : List Env} {A₀ : Around} {base h₀ : Heap} {L : Addr} {m : Str → Option Value} {s : Shared} {Q E : Value → Shared → Prop} {news : List (Addr × Obj)}
theorem sent_use {sh dsh : Addr} {hq : Int} {kq : Tok} {b d : Addr} {hr hb hg hn : Int} {kr kb kg kn : Tok} {tr tb : Tok} {rate burst grains : Int} {tg : Tok} {time : Int} {tn : Tok} {size : Int} {ts : Tok} {now : Int} {t0 : Tok} (C : Ctx w mg mb mean dp un cs outer A₀ base h₀ L m s.heap news 8)
    (hS : (sh, instObj 169 dsh) ∈ news) (hT : (dsh, dictOf [⟨hq, .str (Str.ofString "bucket") kq, .ref b⟩] 1) ∈ news) (hI : (b, instObj 127 d) ∈ news) (hD : (d, bkD hr hb hg hn kr kb kg kn tr tb rate burst grains tg time tn) ∈ news) (hr0 : 0 ≤ rate) (hr1 : rate < 10000) (hb0 : 0 < burst) (hb1 : burst < 10000)
    (ret : ∀ (tg' tn' : Tok) (h' : Heap) (tk' : Nat), Fr h₀ L h' m →
      (∀ news', Upd d (bkD hr hb hg hn kr kb kg kn tr tb rate burst grains tg time tn) (bkD hr hb hg hn kr kb kg kn tr tb rate burst (sentG size (asked size burst) (fillG rate burst grains time now)) tg' (fillT time now) tn') news news' → News h₀ L h' news') → Q (.bool (decide (asked size burst * 100 ≤ fillG rate burst grains time now))) { s with heap := h', toks := tk' }) :
    wpAny (model (OpenLaw.row PySem.Challenge.rw_pf0379_01).prog w) (ktrTop dp un gd cn cs L a ccd cl outer) (call (.ref 166) [.ref sh, .int size ts, .int now t0]) Q E s := by
  refine sent_claim w sh dsh hq kq b d hr hb hg hn kr kb kg kn tr tb rate burst grains tg time tn size ts now t0 (news.filter (fun p => !(p.1 == d))) (news_ne C.N hI hD (by intro e; cases e)) (news_ne C.N hS hD (by intro e; cases e)) (news_neO C.N hT hD (by intro e; cases e)) off_at hr0 hr1 hb0 hb1 mg mb mean dp un gd cn cs a ccd cl outer A₀ base h₀ L m s Q E { C with N := news_cons C.N hS (news_cons C.N hT (news_cons C.N hI (news_at C.N hD))) } ?_
  rintro v news' h' tk' ⟨tg', tn', rfl, rfl⟩ F' N'
  exact ret tg' tn' h' tk' F' (fun _ U => upd_news U (news_tail (news_tail (news_tail N')))) 
end

/- part L -/
theorem step_nonneg {r s n : Int} (h0 : 0 ≤ r) (h : s ≤ n) : 0 ≤ r * (n - s) := Int.mul_nonneg h0 (by omega)
theorem fill_eq {rate burst grains time lack since now : Int} (hg : grains = burst * 100 - lack) (ht : time = since) (hl : 0 ≤ lack) (hn : since ≤ now) (hr : 0 ≤ rate) :
    fillG rate burst grains time now = burst * 100 - shr rate lack since now := by
  subst hg ht
  have hP := step_nonneg hr hn
  unfold fillG shr
  by_cases h : now ≤ time
  · have e : now - time = 0 := by omega
    rw [if_pos h, e, Int.mul_zero]
    split <;> omega
  · rw [if_neg h]
    generalize rate * (now - time) = P at *
    split <;> split <;> omega
theorem fillT_eq {time since now : Int} (ht : time = since) (hn : since ≤ now) : fillT time now = now := by
  subst ht
  unfold fillT
  split <;> omega
theorem shr_nonneg (r l s n : Int) : 0 ≤ shr r l s n := by
  unfold shr
  split <;> omega
theorem ceil_eq (o : Int) {r : Int} (hr : 0 < r) : (o + r - 1).fdiv r = o.fdiv r + (if o.fmod r > 0 then 1 else 0) := by
  have h1 := Int.mul_fdiv_add_fmod o r
  have h2 := fm0 o hr
  have h3 := fm1 o hr
  generalize o.fdiv r = q at *
  generalize o.fmod r = m at *
  rw [Int.fdiv_eq_ediv_of_nonneg _ (Int.le_of_lt hr)]
  subst h1
  by_cases hm : m > 0
  · rw [if_pos hm, show r * q + m + r - 1 = (m - 1) + r * (q + 1) by rw [Int.mul_add]; omega, Int.add_mul_ediv_left _ _ (by omega), Int.ediv_eq_zero_of_lt (by omega) (by omega)]
    omega
  · rw [if_neg hm, show r * q + m + r - 1 = (r - 1) + r * q by omega, Int.add_mul_ediv_left _ _ (by omega), Int.ediv_eq_zero_of_lt (by omega) (by omega)]
    omega
theorem wait_both {f many G S burst rate : Int} (hG : G = burst * 100 - S) (h0 : 0 ≤ rate) (h1 : rate ≠ 0) :
    f + (many * 100 - G + rate - 1).fdiv rate = f + ((S - 100 * (burst - many)).fdiv rate + (if (S - 100 * (burst - many)).fmod rate > 0 then 1 else 0)) := by
  rw [← ceil_eq _ (by omega : 0 < rate), show many * 100 - G + rate - 1 = S - 100 * (burst - many) + rate - 1 by omega]
theorem wait_v0 {many G S burst rate : Int} (hG : G = burst * 100 - S) (h0 : 0 ≤ rate) (h1 : rate ≠ 0) :
    Value.bool (0 + (many * 100 - G + rate - 1).fdiv rate == (S - 100 * (burst - many)).fdiv rate + (if (S - 100 * (burst - many)).fmod rate > 0 then 1 else 0)) = Value.bool true := by
  rw [wait_both hG h0 h1, Int.zero_add]; exact congrArg _ (beq_self_eq_true _)
theorem wait_v1 {many G S burst rate now : Int} (hG : G = burst * 100 - S) (h0 : 0 ≤ rate) (h1 : rate ≠ 0) :
    Value.bool (now + (many * 100 - G + rate - 1).fdiv rate == now + ((S - 100 * (burst - many)).fdiv rate + (if (S - 100 * (burst - many)).fmod rate > 0 then 1 else 0))) = Value.bool true := by
  rw [wait_both hG h0 h1]; exact congrArg _ (beq_self_eq_true _)
theorem has_both {many G S burst : Int} (hG : G = burst * 100 - S) : decide (many * 100 ≤ G) = decide (S ≤ 100 * (burst - many)) := by
  rw [decide_eq_decide]; omega
theorem has_v {c c' : Prop} [Decidable c] [Decidable c'] (h : c ↔ c') : Value.bool (decide c == decide c') = Value.bool true := by
  rw [decide_eq_decide.mpr h]; exact congrArg _ (beq_self_eq_true _)
theorem taken_eq {many G S burst : Int} (hG : G = burst * 100 - S) : takenG many G = burst * 100 - (S + 100 * many * (if decide (S ≤ 100 * (burst - many)) = true then 1 else 0)) := by
  unfold takenG
  simp only [decide_eq_true_eq]
  by_cases h : many * 100 ≤ G
  · rw [if_pos h, if_pos (by omega)]; omega
  · rw [if_neg h, if_neg (by omega)]; omega
theorem sent_eq {many ask G S burst : Int} (hG : G = burst * 100 - S) : sentG many ask G = burst * 100 - (S + 100 * many * (if decide (S ≤ 100 * (burst - ask)) = true then 1 else 0)) := by
  unfold sentG
  simp only [decide_eq_true_eq]
  by_cases h : ask * 100 ≤ G
  · rw [if_pos h, if_pos (by omega)]; omega
  · rw [if_neg h, if_neg (by omega)]; omega
theorem gone_nonneg {S many : Int} {c : Prop} [Decidable c] (hS : 0 ≤ S) (hm : 0 ≤ many) : 0 ≤ S + 100 * many * (if c then 1 else 0) := by
  split <;> omega
theorem menu6 {burst : Int} (hb : 0 < burst) (i : Nat) : 0 ≤ [0, 1, 3, burst.fdiv 2, burst, burst + 1].getD i 0 := by
  have h := Int.fdiv_nonneg (Int.le_of_lt hb) (by decide : (0 : Int) ≤ 2)
  match i with
  | 0 | 1 | 2 => simp
  | 3 => simpa using h
  | 4 | 5 => simp; omega
  | _ + 6 => simp
theorem menu5 {burst : Int} (hb : 0 < burst) (i : Nat) : 0 ≤ [1, 2, burst, burst + 1, 2 * burst + 3].getD i 0 := by
  match i with
  | 0 | 1 => simp
  | 2 | 3 | 4 => simp; omega
  | _ + 5 => simp

/- part G -/
theorem book_dict {w : World} {o : Obj} {kv : List (Str × Value)} (h : IsBook w o kv) : o.IsDictOf (PySem.strKind (OpenLaw.row PySem.Challenge.rw_pf0379_01).prog w) kv := h
theorem book_flat {w : World} {o : Obj} {tr tb : Tok} {rate burst lack : Int} {tl : Tok} {since : Int} {ts : Tok} (_ : IsBook w o (bookKV tr tb rate burst lack tl since ts)) :
   FlatPairs PyData.str (bookKV tr tb rate burst lack tl since ts) [(PyData.str (Str.ofString "rate"), PyData.int rate), (PyData.str (Str.ofString "burst"), PyData.int burst), (PyData.str (Str.ofString "lack"), PyData.int lack), (PyData.str (Str.ofString "since"), PyData.int since)] := bookFlat ..
local macro_rules | `(tactic| walk_at "call ref") => `(tactic| (k_here; (with_reducible show wpAny _ _ (call (Value.ref 194) [_, _]) _ _ _); k_dflt ((refine shrunk_use (by ktr_rel) (by k_mem) (by k_asm) (by k_asm) (by ktn_open) (by ktn_open) ?_); intro t' tl' ts' ob' h' tk' hB' F' hN'; (refine nx hN' (by k_upd) ?_); clear hN'; intro N'; (have hB0 := book_dict hB'); (have hF0 := book_flat hB'); (dsimp only [bookKV] at hB0 hF0); ktr_unf)))
def waitLV (many burst rate S : Int) (v : Value) : Prop :=
  (S - 100 * (burst - many) ≤ 0 ∧ ∃ t, v = .int 0 t) ∨ (0 < S - 100 * (burst - many) ∧ (100 * (burst - many) < 0 ∨ rate = 0) ∧ v = .none) ∨
    (0 < S - 100 * (burst - many) ∧ ¬ 100 * (burst - many) < 0 ∧ rate ≠ 0 ∧ ∃ t, v = .int ((S - 100 * (burst - many)).fdiv rate + (if (S - 100 * (burst - many)).fmod rate > 0 then 1 else 0)) t)
set_option maxRecDepth 100000 in
set_option maxHeartbeats 8000000 in
theorem waiting_claim (w : World) (k : Addr) (ob : Obj) (tr tb : Tok) (rate burst lack : Int) (tl : Tok) (since : Int) (ts : Tok) (many : Int) (tm : Tok) (now : Int) (t0 : Tok) (rest : List (Addr × Obj))
    (hD : IsBook w ob (bookKV tr tb rate burst lack tl since ts)) (hsm : (k == sysModules) = false)
    (hoff : ∀ p ∈ rest, p.1 ≠ k) (hr0 : 0 ≤ rate) (hr1 : rate < 10000) :
    Claim w 4 201 [.ref k, .int many tm, .int now t0] ((k, ob) :: rest)
      (fun v news' => ∃ (tl' ts' : Tok) (ob' : Obj), waitLV many burst rate (shr rate lack since now) v ∧ IsBook w ob' (bookKV tr tb rate burst (shr rate lack since now) tl' now ts') ∧ news' = (k, ob') :: rest) := by
  unfold Claim
  rintro mg mb mean dp un gd cn cs a ccd cl outer A₀ base h₀ L m s Q E ⟨B, F, X, N, T, hk, hd, hu⟩ hret
  revert X; k_fill; intro X
  w_top off
  have hD0 := book_dict hD
  have hF := book_flat hD
  dsimp only [bookKV] at hD0 hF
  refine wpAny_call ?_
  k_dflt cell_enter
  k_steps
  all_goals refine hret _ _ _ _ ?_ (by k_asm) (by k_asm)
  · exact ⟨_, _, _, .inl ⟨by omega, _, rfl⟩, by k_asm, rfl⟩
  · exact ⟨_, _, _, .inr (.inl ⟨by omega, .inl (by omega), rfl⟩), by k_asm, rfl⟩
  · exact ⟨_, _, _, .inr (.inl ⟨by omega, .inr (by omega), rfl⟩), by k_asm, rfl⟩
  · exact ⟨_, _, _, .inr (.inr ⟨by omega, by omega, by omega, _, by simp only [decide_eq_true_eq, gt_iff_lt]; rfl⟩), by k_asm, rfl⟩
section
variable {w : World} {mg mb : Str → Option Value} {mean : ExcName → Option Value} {dp un : Nat} {gd : Option (List Code)} {cn : Str} {cs : Scope} {a : Addr} {ccd : Value} {cl : List (Str × Addr)} {outer : List Env} {A₀ : Around} {base h₀ : Heap} {L : Addr} {m : Str → Option Value} {s : Shared} {Q E : Value → Shared → Prop} {news : List (Addr × Obj)}
theorem waiting_use {k : Addr} {ob : Obj} {tr tb : Tok} {rate burst lack : Int} {tl : Tok} {since : Int} {ts : Tok} {many : Int} {tm : Tok} {now : Int} {t0 : Tok} (C : Ctx w mg mb mean dp un cs outer A₀ base h₀ L m s.heap news 4)
    (hc : (k, ob) ∈ news) (hD : IsBook w ob (bookKV tr tb rate burst lack tl since ts)) (hsm : (k == sysModules) = false) (hr0 : 0 ≤ rate) (hr1 : rate < 10000)
    (ret : ∀ (v : Value) (tl' ts' : Tok) (ob' : Obj) (h' : Heap) (tk' : Nat), IsBook w ob' (bookKV tr tb rate burst (shr rate lack since now) tl' now ts') → Fr h₀ L h' m →
      (∀ news', Upd k ob ob' news news' → News h₀ L h' news') → waitLV many burst rate (shr rate lack since now) v → Q v { s with heap := h', toks := tk' }) :
    wpAny (model (OpenLaw.row PySem.Challenge.rw_pf0379_01).prog w) (ktrTop dp un gd cn cs L a ccd cl outer) (call (.ref 201) [.ref k, .int many tm, .int now t0]) Q E s := by
  refine waiting_claim w k ob tr tb rate burst lack tl since ts many tm now t0 (news.filter (fun p => !(p.1 == k))) hD hsm off_at hr0 hr1 mg mb mean dp un gd cn cs a ccd cl outer A₀ base h₀ L m s Q E { C with N := news_at C.N hc } ?_
  rintro v news' h' tk' ⟨tl', ts', ob', hv, h1, rfl⟩ F' N'
  exact ret v tl' ts' ob' h' tk' h1 F' (fun _ U => upd_news U N') hv
end
set_option maxRecDepth 100000 in
set_option maxHeartbeats 8000000 in
theorem book_claim (w : World) (tr tb : Tok) (rate burst : Int) (news : List (Addr × Obj)) :
    Claim w 2 222 [.int rate tr, .int burst tb] news
      (fun v news' => ∃ (k : Addr) (ob : Obj) (tl ts : Tok), v = .ref k ∧ IsBook w ob (bookKV tr tb rate burst 0 tl 0 ts) ∧ (k == sysModules) = false ∧ (∀ p ∈ news, p.1 < k) ∧ news' = (k, ob) :: news) := by
  unfold Claim
  rintro mg mb mean dp un gd cn cs a ccd cl outer A₀ base h₀ L m s Q E ⟨B, F, X, N, T, hk, hd, hu⟩ hret
  revert X; k_fill; intro X
  w_top off
  refine wpAny_call ?_
  k_dflt cell_enter
  k_steps
  all_goals refine hret _ _ _ _ ?_ (by k_asm) (by k_asm)
  · (rename Obj.IsDictOf _ _ _ => hd9)
    exact ⟨_, _, _, _, rfl, isBook_of hd9 (by first | rfl | with_unfolding_all rfl), by assumption, by assumption, rfl⟩
set_option maxRecDepth 100000 in
set_option maxHeartbeats 8000000 in
theorem bucket_claim (w : World) (tr tb : Tok) (rate burst : Int) (news : List (Addr × Obj)) (hr0 : 0 ≤ rate) (hb0 : 0 < burst) :
    Claim w 4 127 [.int rate tr, .int burst tb] news
      (fun v news' => ∃ (b d : Addr) (hr hb hg hn : Int) (kr kb kg kn tg tn : Tok), v = .ref b ∧ (∀ p ∈ news, p.1 < d) ∧ @LT.lt Nat _ d b ∧ news' = (b, instObj 127 d) :: (d, bkD hr hb hg hn kr kb kg kn tr tb rate burst (burst * 100) tg 0 tn) :: news) := by
  unfold Claim
  rintro mg mb mean dp un gd cn cs a ccd cl outer A₀ base h₀ L m s Q E ⟨B, F, X, N, T, hk, hd, hu⟩ hret
  revert X; k_fill; intro X
  w_top off
  obtain ⟨ckd, cnm, cgen, cco, cmore⟩ := cs
  (have hk' : ckd = .function := hk)
  subst hk'
  k_steps
  all_goals refine hret _ _ _ _ ?_ (by k_asm) (by k_asm)
  · exact ⟨_, _, _, _, _, _, _, _, _, _, _, _, rfl, by assumption, by assumption, rfl⟩
set_option maxRecDepth 100000 in
set_option maxHeartbeats 8000000 in
theorem shaper_claim (w : World) (tr tb : Tok) (rate burst : Int) (news : List (Addr × Obj)) (hr0 : 0 ≤ rate) (hb0 : 0 < burst) :
    Claim w 6 169 [.int rate tr, .int burst tb] news
      (fun v news' => ∃ (sh dsh : Addr) (hq : Int) (kq : Tok) (b d : Addr) (hr hb hg hn : Int) (kr kb kg kn tg tn : Tok), v = .ref sh ∧ (∀ p ∈ news, p.1 < dsh) ∧ @LT.lt Nat _ dsh sh ∧ @LT.lt Nat _ sh d ∧ @LT.lt Nat _ d b ∧
        news' = (b, instObj 127 d) :: (d, bkD hr hb hg hn kr kb kg kn tr tb rate burst (burst * 100) tg 0 tn) :: (sh, instObj 169 dsh) :: (dsh, dictOf [⟨hq, .str (Str.ofString "bucket") kq, .ref b⟩] 1) :: news) := by
  unfold Claim
  rintro mg mb mean dp un gd cn cs a ccd cl outer A₀ base h₀ L m s Q E ⟨B, F, X, N, T, hk, hd, hu⟩ hret
  revert X; k_fill; intro X
  w_top off
  obtain ⟨ckd, cnm, cgen, cco, cmore⟩ := cs
  (have hk' : ckd = .function := hk)
  subst hk'
  k_steps
  all_goals refine hret _ _ _ _ ?_ (by k_asm) (by k_asm)
  · exact ⟨_, _, _, _, _, _, _, _, _, _, _, _, _, _, _, _, rfl, by assumption, by assumption, by omega, by assumption, rfl⟩

/- part H -/
local macro_rules | `(tactic| walk_at "call ref") => `(tactic| (k_here; (with_reducible show wpAny _ _ (call (Value.ref 187) [_, _]) _ _ _); k_dflt ((refine draw_use (by ktr_rel) (by k_mem) (by ktn_open) (by ktn_open) (by ktn_open) (by ktn_open) (by ktn_open) ?_); intro r' t' x' tx' y' ty' h' tk' hr' hr1' hx' hy' hy1' F' hN'; (refine nx hN' (by k_upd) ?_); clear hN'; intro N'; ktr_unf)))
local macro_rules | `(tactic| walk_at "call ref") => `(tactic| (k_here; (with_reducible show wpAny _ _ (call (Value.ref 89) [_, _]) _ _ _); k_dflt ((refine level_use (by ktr_rel) (by k_mem) (by k_mem) (by ktn_open) (by ktn_open) (by ktn_open) (by ktn_open) ?_); intro t' tg' tn' h' tk' F' hN'; (refine nx hN' (by k_upd) ?_); clear hN'; intro N'; ktr_unf)))
local macro_rules | `(tactic| walk_at "call ref") => `(tactic| (k_here; (with_reducible show wpAny _ _ (call (Value.ref 110) [_, _, _]) _ _ _); k_dflt ((refine take_use (by ktr_rel) (by k_mem) (by k_mem) (by ktn_open) (by ktn_open) (by ktn_open) (by ktn_open) ?_); intro tg' tn' h' tk' F' hN'; (refine nx hN' (by k_upd) ?_); clear hN'; intro N'; ktr_unf)))
local macro_rules | `(tactic| walk_at "call ref") => `(tactic| (k_here; (with_reducible show wpAny _ _ (call (Value.ref 201) [_, _, _]) _ _ _); k_dflt ((refine waiting_use (by ktr_rel) (by k_mem) (by k_asm) (by k_asm) (by ktn_open) (by ktn_open) ?_); intro v' tl' ts' ob' h' tk' hB' F' hN' hv'; (refine nx hN' (by k_upd) ?_); clear hN'; intro N'; (have hB0 := book_dict hB'); (have hF0 := book_flat hB'); (dsimp only [bookKV] at hB0 hF0); (rcases hv' with ⟨_, _, e'⟩ | ⟨_, _, e'⟩ | ⟨_, _, _, _, e'⟩); all_goals subst e'; ktr_unf)))
set_option maxRecDepth 100000 in
set_option maxHeartbeats 8000000 in
theorem bright_claim (w : World) (c : Addr) (x y : Int) (tx ty : Tok) (n : Nat) (b d : Addr) (hr hb hg hn : Int) (kr kb kg kn : Tok) (tr tb : Tok) (rate burst grains : Int) (tg : Tok) (time : Int) (tn : Tok) (k : Addr) (ob : Obj) (tr2 tb2 : Tok) (lack : Int) (tl : Tok) (since : Int) (ts : Tok) (now : Int) (t0 : Tok) (rest : List (Addr × Obj))
    (hx : 0 ≤ x) (hy : 0 ≤ y) (hy2 : y < 2147483647) (hr0 : 0 ≤ rate) (hr1 : rate < 10000) (hb0 : 0 < burst) (hb1 : burst < 100) (hD : IsBook w ob (bookKV tr2 tb2 rate burst lack tl since ts)) (hsm : (k == sysModules) = false)
    (hg0 : grains = burst * 100 - lack) (ht0 : time = since) (hl0 : 0 ≤ lack) (hnow : since ≤ now)
    (hcb : c ≠ b) (hcd : c ≠ d) (hck : c ≠ k) (hbd : b ≠ d) (hbk : b ≠ k) (hdk : d ≠ k) (hoc : ∀ p ∈ rest, p.1 ≠ c) (hod : ∀ p ∈ rest, p.1 ≠ d) (hok : ∀ p ∈ rest, p.1 ≠ k) :
    Claim w 10 208 [.ref c, .ref b, .ref k, .int now t0] ((c, listOf #[.int x tx, .int y ty] n) :: (b, instObj 127 d) :: (d, bkD hr hb hg hn kr kb kg kn tr tb rate burst grains tg time tn) :: (k, ob) :: rest)
      (fun v news' => ∃ (x' y' : Int) (tx' ty' : Tok) (lack' : Int) (tg' tn' tl' ts' : Tok) (ob' : Obj), v = .bool true ∧ 0 ≤ x' ∧ 0 ≤ y' ∧ y' < 2147483647 ∧ 0 ≤ lack' ∧ IsBook w ob' (bookKV tr2 tb2 rate burst lack' tl' now ts') ∧
        news' = (c, listOf #[.int x' tx', .int y' ty'] n) :: (b, instObj 127 d) :: (d, bkD hr hb hg hn kr kb kg kn tr tb rate burst (burst * 100 - lack') tg' now tn') :: (k, ob') :: rest) := by
  unfold Claim
  rintro mg mb mean dp un gd cn cs a ccd cl outer A₀ base h₀ L m s Q E ⟨B, F, X, N, T, hk, hd, hu⟩ hret
  revert X; k_fill; intro X
  w_top off
  have hD0 := book_dict hD
  have hF := book_flat hD
  dsimp only [bookKV] at hD0 hF
  have hG := fill_eq (rate := rate) hg0 ht0 hl0 hnow hr0
  have hT := fillT_eq ht0 hnow
  have hS := shr_nonneg rate lack since now
  refine wpAny_call ?_
  k_dflt cell_enter
  k_steps
  all_goals (rename News _ _ _ _ => kN9)
  all_goals (try rw [hG, hT] at kN9)
  all_goals first
    | (exfalso; omega)
    | (refine hret _ _ _ _ ?_ (by k_asm) (news_tail kN9); exact ⟨_, _, _, _, _, _, _, _, _, _, by first | rfl | (rw [hG, Int.mul_comm 100 burst]; exact congrArg _ (beq_self_eq_true _)) | exact has_v (by omega) | exact wait_v0 hG hr0 (by assumption), by assumption, by assumption, by assumption, by assumption, by k_asm, rfl⟩)
    | (rw [taken_eq (S := shr rate lack since now) (burst := burst) rfl] at kN9; (rename Obj.IsDictOf _ _ _ => hd9); refine hret _ _ _ _ ?_ (by k_asm) (news_tail kN9); exact ⟨_, _, _, _, _, _, _, _, _, _, by exact has_v (by omega), by assumption, by assumption, by assumption, gone_nonneg hS (menu6 hb0 _), isBook_of hd9 rfl, rfl⟩)

/- part I -/
local macro_rules | `(tactic| walk_at "call ref") => `(tactic| (k_here; (with_reducible show wpAny _ _ (call (Value.ref 159) [_, _, _]) _ _ _); k_dflt ((refine when_use (by ktr_rel) (by k_mem) (by k_mem) (by k_mem) (by k_mem) (by ktn_open) (by ktn_open) (by ktn_open) (by ktn_open) ?_); intro v' tg' tn' h' tk' F' hN' hv'; (refine nx hN' (by k_upd) ?_); clear hN'; intro N'; (dsimp only [waitV, asked] at hv'); (rcases hv' with ⟨_, _, e'⟩ | ⟨_, _, e'⟩ | ⟨_, _, _, _, e'⟩); all_goals subst e'; ktr_unf)))
local macro_rules | `(tactic| walk_at "call ref") => `(tactic| (k_here; (with_reducible show wpAny _ _ (call (Value.ref 166) [_, _, _]) _ _ _); k_dflt ((refine sent_use (by ktr_rel) (by k_mem) (by k_mem) (by k_mem) (by k_mem) (by ktn_open) (by ktn_open) (by ktn_open) (by ktn_open) ?_); intro tg' tn' h' tk' F' hN'; (refine nx hN' (by k_upd) ?_); clear hN'; intro N'; (try dsimp only [asked] at N'); (try dsimp only [asked]); ktr_unf)))
set_option maxRecDepth 100000 in
set_option maxHeartbeats 8000000 in
theorem sright_claim (w : World) (c : Addr) (x y : Int) (tx ty : Tok) (n : Nat) (sh dsh : Addr) (hq : Int) (kq : Tok) (b d : Addr) (hr hb hg hn : Int) (kr kb kg kn : Tok) (tr tb : Tok) (rate burst grains : Int) (tg : Tok) (time : Int) (tn : Tok) (k : Addr) (ob : Obj) (tr2 tb2 : Tok) (lack : Int) (tl : Tok) (since : Int) (ts : Tok) (now : Int) (t0 : Tok) (rest : List (Addr × Obj))
    (hx : 0 ≤ x) (hy : 0 ≤ y) (hy2 : y < 2147483647) (hr0 : 0 ≤ rate) (hr1 : rate < 10000) (hb0 : 0 < burst) (hb1 : burst < 100) (hD : IsBook w ob (bookKV tr2 tb2 rate burst lack tl since ts)) (hsm : (k == sysModules) = false)
    (hg0 : grains = burst * 100 - lack) (ht0 : time = since) (hl0 : 0 ≤ lack) (hnow : since ≤ now)
    (hcb : c ≠ b) (hcd : c ≠ d) (hck : c ≠ k) (hbd : b ≠ d) (hbk : b ≠ k) (hdk : d ≠ k) (hoc : ∀ p ∈ rest, p.1 ≠ c) (hod : ∀ p ∈ rest, p.1 ≠ d) (hok : ∀ p ∈ rest, p.1 ≠ k) (hcs : c ≠ sh) (hcs2 : c ≠ dsh) (hks : k ≠ sh) (hks2 : k ≠ dsh) (hds : d ≠ sh) (hds2 : d ≠ dsh) :
    Claim w 14 215 [.ref c, .ref sh, .ref k, .int now t0] ((c, listOf #[.int x tx, .int y ty] n) :: (sh, instObj 169 dsh) :: (dsh, dictOf [⟨hq, .str (Str.ofString "bucket") kq, .ref b⟩] 1) :: (b, instObj 127 d) :: (d, bkD hr hb hg hn kr kb kg kn tr tb rate burst grains tg time tn) :: (k, ob) :: rest)
      (fun v news' => ∃ (x' y' : Int) (tx' ty' : Tok) (lack' : Int) (tg' tn' tl' ts' : Tok) (ob' : Obj), v = .bool true ∧ 0 ≤ x' ∧ 0 ≤ y' ∧ y' < 2147483647 ∧ 0 ≤ lack' ∧ IsBook w ob' (bookKV tr2 tb2 rate burst lack' tl' now ts') ∧
        news' = (c, listOf #[.int x' tx', .int y' ty'] n) :: (sh, instObj 169 dsh) :: (dsh, dictOf [⟨hq, .str (Str.ofString "bucket") kq, .ref b⟩] 1) :: (b, instObj 127 d) :: (d, bkD hr hb hg hn kr kb kg kn tr tb rate burst (burst * 100 - lack') tg' now tn') :: (k, ob') :: rest) := by
  unfold Claim
  rintro mg mb mean dp un gd cn cs a ccd cl outer A₀ base h₀ L m s Q E ⟨B, F, X, N, T, hk, hd, hu⟩ hret
  revert X; k_fill; intro X
  w_top off
  have hD0 := book_dict hD
  have hF := book_flat hD
  dsimp only [bookKV] at hD0 hF
  have hG := fill_eq (rate := rate) hg0 ht0 hl0 hnow hr0
  have hT := fillT_eq ht0 hnow
  have hS := shr_nonneg rate lack since now
  refine wpAny_call ?_
  k_dflt cell_enter
  k_steps
  all_goals (rename News _ _ _ _ => kN9)
  all_goals (try rw [hG, hT] at kN9)
  all_goals first
    | (exfalso; omega)
    | (refine hret _ _ _ _ ?_ (by k_asm) (news_tail kN9); exact ⟨_, _, _, _, _, _, _, _, _, _, by first | rfl | (rw [Int.add_zero]; exact congrArg _ (beq_self_eq_true _)) | exact wait_v1 hG hr0 (by assumption), by assumption, by assumption, by assumption, by assumption, by k_asm, rfl⟩)
    | (rw [sent_eq (S := shr rate lack since now) (burst := burst) rfl] at kN9; (rename Obj.IsDictOf _ _ _ => hd9); refine hret _ _ _ _ ?_ (by k_asm) (news_tail kN9); exact ⟨_, _, _, _, _, _, _, _, _, _, by exact has_v (by omega), by assumption, by assumption, by assumption, gone_nonneg hS (menu5 hb0 _), isBook_of hd9 rfl, rfl⟩)

/- part O -/
/-- what a turn of the law's loop changes -/
structure St where
  x : Int
  tx : Tok
  y : Int
  ty : Tok
  l1 : Int
  s1 : Int
  tg1 : Tok
  tn1 : Tok
  tl1 : Tok
  ts1 : Tok
  o1 : Obj
  l2 : Int
  s2 : Int
  tg2 : Tok
  tn2 : Tok
  tl2 : Tok
  ts2 : Tok
  o2 : Obj
  now : Int
  t : Tok

section
variable {w : World} {A : Around} {E : Value → Shared → Prop} {s : Shared} {env : Env} {h₀ : Heap} {body : List Stmt} {Q : Flow → Shared → Prop}
  {r : Addr} {a₀ b₀ : Int} {t₀ u₀ v₀ : Tok} {n : Nat} {m₀ : Str → Option Value} {news : List (Addr × Obj)}
  {c b1 d1 k1 sh dsh b2 d2 k2 lb : Addr} {n0 nn : Nat} {x0 y0 : Int} {tx0 ty0 : Tok} {rate burst : Int} {tr tb : Tok}
  {hr1 hb1 hg1 hn1 : Int} {kr1 kb1 kg1 kn1 : Tok} {tr1 tb1 : Tok} {tg1 tn1 : Tok} {hr2 hb2 hg2 hn2 : Int} {kr2 kb2 kg2 kn2 : Tok} {tr2 tb2 : Tok} {tg2 tn2 : Tok}
  {hq : Int} {kq : Tok} {o1 o2 : Obj} {tr3 tb3 tl3 ts3 tr4 tb4 tl4 ts4 : Tok} {now0 : Int} {tw0 : Tok}
set_option maxHeartbeats 3200000 in
theorem loop_rule (hh : A.handled = none) (hr : IsRange s.heap r a₀ b₀ 1 t₀ u₀ v₀) (hsmall : Builtin.Range.small a₀ b₀ 1 = true) (hn : Builtin.Range.rangeSize a₀ b₀ 1 = (n : Int)) (F : Fr h₀ env.locals s.heap m₀) (N : News h₀ env.locals s.heap news)
    (hm : m₀ (Str.ofString "now") = some (.int now0 tw0))
    (hm1 : m₀ (Str.ofString "cells") = some (.ref c)) (hm2 : m₀ (Str.ofString "bucket") = some (.ref b1)) (hm3 : m₀ (Str.ofString "shaper") = some (.ref sh)) (hm4 : m₀ (Str.ofString "books") = some (.ref lb))
    (hc : (c, listOf #[.int x0 tx0, .int y0 ty0] n0) ∈ news)
    (hI1 : (b1, instObj 127 d1) ∈ news) (hD1 : (d1, bkD hr1 hb1 hg1 hn1 kr1 kb1 kg1 kn1 tr1 tb1 rate burst (burst * 100) tg1 0 tn1) ∈ news)
    (hS : (sh, instObj 169 dsh) ∈ news) (hT : (dsh, dictOf [⟨hq, .str (Str.ofString "bucket") kq, .ref b2⟩] 1) ∈ news)
    (hI2 : (b2, instObj 127 d2) ∈ news) (hD2 : (d2, bkD hr2 hb2 hg2 hn2 kr2 kb2 kg2 kn2 tr2 tb2 rate burst (burst * 100) tg2 0 tn2) ∈ news)
    (hL : (lb, listOf #[.ref k1, .ref k2] nn) ∈ news) (hK1 : (k1, o1) ∈ news) (hK2 : (k2, o2) ∈ news)
    (hB1 : IsBook w o1 (bookKV tr3 tb3 rate burst 0 tl3 0 ts3)) (hB2 : IsBook w o2 (bookKV tr4 tb4 rate burst 0 tl4 0 ts4))
    (hx : 0 ≤ x0) (hy : 0 ≤ y0) (hy2 : y0 < 2147483647) (hnow : 0 ≤ now0)
    (turn : ∀ (x : Int) (tx : Tok) (y : Int) (ty : Tok) (l1 s1 : Int) (tg1 tn1 tl1 ts1 : Tok) (o1 : Obj) (l2 s2 : Int) (tg2 tn2 tl2 ts2 : Tok) (o2 : Obj) (now : Int) (tw : Tok) (kk : Int) (t : Tok) (u : Str → Option Value) (h : Heap) (tk : Nat) (own : List (Addr × Obj)) (R : Flow → Shared → Prop),
      0 ≤ x → 0 ≤ y → y < 2147483647 → 0 ≤ l1 → s1 ≤ now → 0 ≤ l2 → s2 ≤ now → IsBook w o1 (bookKV tr3 tb3 rate burst l1 tl1 s1 ts1) → IsBook w o2 (bookKV tr4 tb4 rate burst l2 tl2 s2 ts2) →
      (∀ p ∈ own, p.1 ≠ c) → (∀ p ∈ own, p.1 ≠ d1) → (∀ p ∈ own, p.1 ≠ k1) → (∀ p ∈ own, p.1 ≠ d2) → (∀ p ∈ own, p.1 ≠ k2) →
      Fr h₀ env.locals h (fun z => if z = Str.ofString "turn" then some (.int kk t) else if z = Str.ofString "now" then some (.int now tw) else if [Str.ofString "is_right"].contains z then u z else m₀ z) →
      News h₀ env.locals h ((c, listOf #[.int x tx, .int y ty] n0) :: (b1, instObj 127 d1) :: (d1, bkD hr1 hb1 hg1 hn1 kr1 kb1 kg1 kn1 tr1 tb1 rate burst (burst * 100 - l1) tg1 s1 tn1) :: (k1, o1) ::
        (sh, instObj 169 dsh) :: (dsh, dictOf [⟨hq, .str (Str.ofString "bucket") kq, .ref b2⟩] 1) :: (b2, instObj 127 d2) :: (d2, bkD hr2 hb2 hg2 hn2 kr2 kb2 kg2 kn2 tr2 tb2 rate burst (burst * 100 - l2) tg2 s2 tn2) :: (k2, o2) :: (lb, listOf #[.ref k1, .ref k2] nn) :: own) →
      (∀ (x : Int) (tx : Tok) (y : Int) (ty : Tok) (l1 s1 : Int) (tg1 tn1 tl1 ts1 : Tok) (o1 : Obj) (l2 s2 : Int) (tg2 tn2 tl2 ts2 : Tok) (o2 : Obj) (now : Int) (tw : Tok) (m' : Str → Option Value) (h : Heap) (tk : Nat),
        0 ≤ x → 0 ≤ y → y < 2147483647 → 0 ≤ l1 → s1 ≤ now → 0 ≤ l2 → s2 ≤ now → IsBook w o1 (bookKV tr3 tb3 rate burst l1 tl1 s1 ts1) → IsBook w o2 (bookKV tr4 tb4 rate burst l2 tl2 s2 ts2) →
        Fr h₀ env.locals h m' → m' (Str.ofString "now") = some (.int now tw) → (∀ z, z ≠ Str.ofString "turn" → z ≠ Str.ofString "now" → [Str.ofString "is_right"].contains z = false → m' z = m₀ z) →
        News h₀ env.locals h ((c, listOf #[.int x tx, .int y ty] n0) :: (b1, instObj 127 d1) :: (d1, bkD hr1 hb1 hg1 hn1 kr1 kb1 kg1 kn1 tr1 tb1 rate burst (burst * 100 - l1) tg1 s1 tn1) :: (k1, o1) ::
          (sh, instObj 169 dsh) :: (dsh, dictOf [⟨hq, .str (Str.ofString "bucket") kq, .ref b2⟩] 1) :: (b2, instObj 127 d2) :: (d2, bkD hr2 hb2 hg2 hn2 kr2 kb2 kg2 kn2 tr2 tb2 rate burst (burst * 100 - l2) tg2 s2 tn2) :: (k2, o2) :: (lb, listOf #[.ref k1, .ref k2] nn) :: own) →
        R .next { s with heap := h, toks := tk }) →
      wpAny (model (OpenLaw.row PySem.Challenge.rw_pf0379_01).prog w) A (execs body env) R E { s with heap := h, toks := tk })
    (done : ∀ (m' : Str → Option Value) (h : Heap) (tk : Nat), Fr h₀ env.locals h m' → News h₀ env.locals h [] → Q .next { s with heap := h, toks := tk }) :
    wpAny (model (OpenLaw.row PySem.Challenge.rw_pf0379_01).prog w) A (pyIter (.ref r)) (fun it s₂ => LoopAtV (OpenLaw.row PySem.Challenge.rw_pf0379_01).prog w A h₀ env (Str.ofString "turn") body Q E it s₂) E s := by
  refine kst_range (σ := St)
    (fun z => (c, listOf #[.int z.x z.tx, .int z.y z.ty] n0) :: (b1, instObj 127 d1) :: (d1, bkD hr1 hb1 hg1 hn1 kr1 kb1 kg1 kn1 tr1 tb1 rate burst (burst * 100 - z.l1) z.tg1 z.s1 z.tn1) :: (k1, z.o1) ::
        (sh, instObj 169 dsh) :: (dsh, dictOf [⟨hq, .str (Str.ofString "bucket") kq, .ref b2⟩] 1) :: (b2, instObj 127 d2) :: (d2, bkD hr2 hb2 hg2 hn2 kr2 kb2 kg2 kn2 tr2 tb2 rate burst (burst * 100 - z.l2) z.tg2 z.s2 z.tn2) :: (k2, z.o2) :: (lb, listOf #[.ref k1, .ref k2] nn) :: [])
    (fun z => [(Str.ofString "now", .int z.now z.t)])
    (fun z => IsBook w z.o1 (bookKV tr3 tb3 rate burst z.l1 z.tl1 z.s1 z.ts1) ∧ IsBook w z.o2 (bookKV tr4 tb4 rate burst z.l2 z.tl2 z.s2 z.ts2))
    [Str.ofString "is_right"]
    (fun _ z => 0 ≤ z.x ∧ 0 ≤ z.y ∧ z.y < 2147483647 ∧ 0 ≤ z.l1 ∧ z.s1 ≤ z.now ∧ 0 ≤ z.l2 ∧ z.s2 ≤ z.now)
    ⟨x0, tx0, y0, ty0, 0, 0, tg1, tn1, tl3, ts3, o1, 0, 0, tg2, tn2, tl4, ts4, o2, now0, tw0⟩
    hh hr hsmall hn F ?_ ⟨hB1, hB2⟩ ?_ ⟨hx, hy, hy2, Int.le_refl _, hnow, Int.le_refl _, hnow⟩ ?_ ?_
  · simp only [Int.sub_zero]
    refine news_cons N hc (news_cons N hI1 (news_cons N hD1 (news_cons N hK1 (news_cons N hS (news_cons N hT (news_cons N hI2 (news_cons N hD2 (news_cons N hK2 (news_cons N hL News.nil)))))))))
  · intro p hp
    rw [List.mem_singleton.mp hp]
    exact hm
  · rintro ⟨x, tx, y, ty, l1, s1, tg1, tn1, tl1, ts1, o1, l2, s2, tg2, tn2, tl2, ts2, o2, now, tw⟩ pre k t u h tk own hk hlt hoff ⟨f1, f2⟩ ⟨p1, p2, p3, p4, p5, p6, p7⟩ F₁ N₁
    refine turn x tx y ty l1 s1 tg1 tn1 tl1 ts1 o1 l2 s2 tg2 tn2 tl2 ts2 o2 now tw k t u h tk own _ p1 p2 p3 p4 p5 p6 p7 f1 f2
      (fun p hp => hoff p hp _ (by simp)) (fun p hp => hoff p hp _ (by simp)) (fun p hp => hoff p hp _ (by simp)) (fun p hp => hoff p hp _ (by simp)) (fun p hp => hoff p hp _ (by simp)) F₁ N₁ ?_
    intro x' tx' y' ty' l1' s1' tg1' tn1' tl1' ts1' o1' l2' s2' tg2' tn2' tl2' ts2' o2' now' tw' m' h' tk' q1 q2 q3 q4 q5 q6 q7 g1 g2 F' hm' hr' N'
    exact kst_end (s₁ := { s with heap := h, toks := tk }) (St.mk x' tx' y' ty' l1' s1' tg1' tn1' tl1' ts1' o1' l2' s2' tg2' tn2' tl2' ts2' o2' now' tw') F' N'
      (fun p hp => List.mem_append_left own hp) (fun p hp => .tail _ (.tail _ (.tail _ (.tail _ (.tail _ (.tail _ (.tail _ (.tail _ (.tail _ (.tail _ (hp))))))))))) rfl ⟨g1, g2⟩ (fun p hp => by rw [List.mem_singleton.mp hp]; exact hm')
      (fun z z1 z2 z3 => hr' z z1 (z2 _ (.head _)) z3) ⟨q1, q2, q3, q4, q5, q6, q7⟩
  · rintro z u h tk _ _ F₁ N₁
    exact done _ h tk F₁ News.nil
end

/- part J -/
section
variable {w : World} {mg mb : Str → Option Value} {mean : ExcName → Option Value} {dp un : Nat} {gd : Option (List Code)} {cn : Str} {cs : Scope} {a : Addr} {ccd : Value} {cl : List (Str × Addr)} {outer : List Env} {A₀ : Around} {base h₀ : Heap} {L : Addr} {m : Str → Option Value} {s : Shared} {Q E : Value → Shared → Prop} {news : List (Addr × Obj)}
theorem bucket_use {tr tb : Tok} {rate burst : Int} (C : Ctx w mg mb mean dp un cs outer A₀ base h₀ L m s.heap news 4) (hr0 : 0 ≤ rate) (hb0 : 0 < burst)
    (ret : ∀ (b d : Addr) (hr hb hg hn : Int) (kr kb kg kn tg tn : Tok) (h' : Heap) (tk' : Nat), (∀ p ∈ news, p.1 < d) → @LT.lt Nat _ d b → Fr h₀ L h' m →
      News h₀ L h' ((b, instObj 127 d) :: (d, bkD hr hb hg hn kr kb kg kn tr tb rate burst (burst * 100) tg 0 tn) :: news) → Q (.ref b) { s with heap := h', toks := tk' }) :
    wpAny (model (OpenLaw.row PySem.Challenge.rw_pf0379_01).prog w) (ktrTop dp un gd cn cs L a ccd cl outer) (call (.ref 127) [.int rate tr, .int burst tb]) Q E s := by
  refine bucket_claim w tr tb rate burst news hr0 hb0 mg mb mean dp un gd cn cs a ccd cl outer A₀ base h₀ L m s Q E C ?_
  rintro v news' h' tk' ⟨b, d, hr, hb, hg, hn, kr, kb, kg, kn, tg, tn, rfl, h1, h2, rfl⟩ F' N'
  exact ret b d hr hb hg hn kr kb kg kn tg tn h' tk' h1 h2 F' N'
theorem shaper_use {tr tb : Tok} {rate burst : Int} (C : Ctx w mg mb mean dp un cs outer A₀ base h₀ L m s.heap news 6) (hr0 : 0 ≤ rate) (hb0 : 0 < burst)
    (ret : ∀ (sh dsh : Addr) (hq : Int) (kq : Tok) (b d : Addr) (hr hb hg hn : Int) (kr kb kg kn tg tn : Tok) (h' : Heap) (tk' : Nat), (∀ p ∈ news, p.1 < dsh) → @LT.lt Nat _ dsh sh → @LT.lt Nat _ sh d → @LT.lt Nat _ d b → Fr h₀ L h' m →
      News h₀ L h' ((b, instObj 127 d) :: (d, bkD hr hb hg hn kr kb kg kn tr tb rate burst (burst * 100) tg 0 tn) :: (sh, instObj 169 dsh) :: (dsh, dictOf [⟨hq, .str (Str.ofString "bucket") kq, .ref b⟩] 1) :: news) → Q (.ref sh) { s with heap := h', toks := tk' }) :
    wpAny (model (OpenLaw.row PySem.Challenge.rw_pf0379_01).prog w) (ktrTop dp un gd cn cs L a ccd cl outer) (call (.ref 169) [.int rate tr, .int burst tb]) Q E s := by
  refine shaper_claim w tr tb rate burst news hr0 hb0 mg mb mean dp un gd cn cs a ccd cl outer A₀ base h₀ L m s Q E C ?_
  rintro v news' h' tk' ⟨sh, dsh, hq, kq, b, d, hr, hb, hg, hn, kr, kb, kg, kn, tg, tn, rfl, h1, h2, h3, h4, rfl⟩ F' N'
  exact ret sh dsh hq kq b d hr hb hg hn kr kb kg kn tg tn h' tk' h1 h2 h3 h4 F' N'
theorem book_use {tr tb : Tok} {rate burst : Int} (C : Ctx w mg mb mean dp un cs outer A₀ base h₀ L m s.heap news 2)
    (ret : ∀ (k : Addr) (ob : Obj) (tl ts : Tok) (h' : Heap) (tk' : Nat), (∀ p ∈ news, p.1 < k) → (k == sysModules) = false → IsBook w ob (bookKV tr tb rate burst 0 tl 0 ts) → Fr h₀ L h' m →
      News h₀ L h' ((k, ob) :: news) → Q (.ref k) { s with heap := h', toks := tk' }) :
    wpAny (model (OpenLaw.row PySem.Challenge.rw_pf0379_01).prog w) (ktrTop dp un gd cn cs L a ccd cl outer) (call (.ref 222) [.int rate tr, .int burst tb]) Q E s := by
  refine book_claim w tr tb rate burst news mg mb mean dp un gd cn cs a ccd cl outer A₀ base h₀ L m s Q E C ?_
  rintro v news' h' tk' ⟨k, ob, tl, ts, rfl, h1, h2, h3, rfl⟩ F' N'
  exact ret k ob tl ts h' tk' h3 h2 h1 F' N'
theorem level_fix {b d : Addr} {hr hb hg hn : Int} {kr kb kg kn : Tok} {tr tb : Tok} {rate burst grains : Int} {tg : Tok} {time : Int} {tn : Tok} {now : Int} {t0 : Tok} {g' t' : Int} {iv : Int} (C : Ctx w mg mb mean dp un cs outer A₀ base h₀ L m s.heap news 4)
    (hI : (b, instObj 127 d) ∈ news) (hD : (d, bkD hr hb hg hn kr kb kg kn tr tb rate burst grains tg time tn) ∈ news) (hr0 : 0 ≤ rate) (hr1 : rate < 10000) (hb0 : 0 < burst) (hb1 : burst < 10000) (hg' : fillG rate burst grains time now = g') (ht' : fillT time now = t') (hv : (fillG rate burst grains time now).fdiv 100 = iv)
    (ret : ∀ (t : Tok) (tg' tn' : Tok) (h' : Heap) (tk' : Nat), Fr h₀ L h' m →
      (∀ news', Upd d (bkD hr hb hg hn kr kb kg kn tr tb rate burst grains tg time tn) (bkD hr hb hg hn kr kb kg kn tr tb rate burst g' tg' t' tn') news news' → News h₀ L h' news') → Q (.int iv t) { s with heap := h', toks := tk' }) :
    wpAny (model (OpenLaw.row PySem.Challenge.rw_pf0379_01).prog w) (ktrTop dp un gd cn cs L a ccd cl outer) (call (.ref 89) [.ref b, .int now t0]) Q E s := by
  subst hg' ht' hv
  exact level_use C hI hD hr0 hr1 hb0 hb1 ret
theorem take_fix {b d : Addr} {hr hb hg hn : Int} {kr kb kg kn : Tok} {tr tb : Tok} {rate burst grains : Int} {tg : Tok} {time : Int} {tn : Tok} {size : Int} {tsz : Tok} {now : Int} {t0 : Tok} {g' t' : Int} {bv : Bool} (C : Ctx w mg mb mean dp un cs outer A₀ base h₀ L m s.heap news 6)
    (hI : (b, instObj 127 d) ∈ news) (hD : (d, bkD hr hb hg hn kr kb kg kn tr tb rate burst grains tg time tn) ∈ news) (hr0 : 0 ≤ rate) (hr1 : rate < 10000) (hb0 : 0 < burst) (hb1 : burst < 10000) (hg' : takenG size (fillG rate burst grains time now) = g') (ht' : fillT time now = t') (hv : decide (size * 100 ≤ fillG rate burst grains time now) = bv)
    (ret : ∀ (tg' tn' : Tok) (h' : Heap) (tk' : Nat), Fr h₀ L h' m →
      (∀ news', Upd d (bkD hr hb hg hn kr kb kg kn tr tb rate burst grains tg time tn) (bkD hr hb hg hn kr kb kg kn tr tb rate burst g' tg' t' tn') news news' → News h₀ L h' news') → Q (.bool bv) { s with heap := h', toks := tk' }) :
    wpAny (model (OpenLaw.row PySem.Challenge.rw_pf0379_01).prog w) (ktrTop dp un gd cn cs L a ccd cl outer) (call (.ref 110) [.ref b, .int size tsz, .int now t0]) Q E s := by
  subst hg' ht' hv
  exact take_use C hI hD hr0 hr1 hb0 hb1 ret
theorem wait_fix {b d : Addr} {hr hb hg hn : Int} {kr kb kg kn : Tok} {tr tb : Tok} {rate burst grains : Int} {tg : Tok} {time : Int} {tn : Tok} {size : Int} {tsz : Tok} {now : Int} {t0 : Tok} {g' t' : Int} {iv : Int} (C : Ctx w mg mb mean dp un cs outer A₀ base h₀ L m s.heap news 4)
    (hI : (b, instObj 127 d) ∈ news) (hD : (d, bkD hr hb hg hn kr kb kg kn tr tb rate burst grains tg time tn) ∈ news) (hr0 : 0 ≤ rate) (hr1 : rate < 10000) (hb0 : 0 < burst) (hb1 : burst < 10000) (hg' : fillG rate burst grains time now = g') (ht' : fillT time now = t') (hw : 0 < size * 100 - fillG rate burst grains time now ∧ size ≤ burst ∧ rate ≠ 0) (hv : 0 + (size * 100 - fillG rate burst grains time now + rate - 1).fdiv rate = iv)
    (ret : ∀ (t : Tok) (tg' tn' : Tok) (h' : Heap) (tk' : Nat), Fr h₀ L h' m →
      (∀ news', Upd d (bkD hr hb hg hn kr kb kg kn tr tb rate burst grains tg time tn) (bkD hr hb hg hn kr kb kg kn tr tb rate burst g' tg' t' tn') news news' → News h₀ L h' news') → Q (.int iv t) { s with heap := h', toks := tk' }) :
    wpAny (model (OpenLaw.row PySem.Challenge.rw_pf0379_01).prog w) (ktrTop dp un gd cn cs L a ccd cl outer) (call (.ref 124) [.ref b, .int size tsz, .int now t0]) Q E s := by
  subst hg' ht'
  refine wait_use C hI hD hr0 hr1 hb0 hb1 fun v tg' tn' h' tk' F' hN' hw' => ?_
  obtain ⟨h1, h2, h3⟩ := hw
  rcases hw' with ⟨h4, _⟩ | ⟨_, h4, _⟩ | ⟨_, _, _, t, rfl⟩
  · omega
  · omega
  · exact hv ▸ ret t tg' tn' h' tk' F' hN'
theorem when_fix {sh dsh : Addr} {hq : Int} {kq : Tok} {b d : Addr} {hr hb hg hn : Int} {kr kb kg kn : Tok} {tr tb : Tok} {rate burst grains : Int} {tg : Tok} {time : Int} {tn : Tok} {size : Int} {tsz : Tok} {now : Int} {t0 : Tok} {g' t' : Int} {iv : Int} (C : Ctx w mg mb mean dp un cs outer A₀ base h₀ L m s.heap news 8)
    (hS : (sh, instObj 169 dsh) ∈ news) (hT : (dsh, dictOf [⟨hq, .str (Str.ofString "bucket") kq, .ref b⟩] 1) ∈ news) (hI : (b, instObj 127 d) ∈ news) (hD : (d, bkD hr hb hg hn kr kb kg kn tr tb rate burst grains tg time tn) ∈ news) (hr0 : 0 ≤ rate) (hr1 : rate < 10000) (hb0 : 0 < burst) (hb1 : burst < 10000) (hg' : fillG rate burst grains time now = g') (ht' : fillT time now = t') (hw : 0 < (asked size burst) * 100 - fillG rate burst grains time now ∧ (asked size burst) ≤ burst ∧ rate ≠ 0) (hv : now + ((asked size burst) * 100 - fillG rate burst grains time now + rate - 1).fdiv rate = iv)
    (ret : ∀ (t : Tok) (tg' tn' : Tok) (h' : Heap) (tk' : Nat), Fr h₀ L h' m →
      (∀ news', Upd d (bkD hr hb hg hn kr kb kg kn tr tb rate burst grains tg time tn) (bkD hr hb hg hn kr kb kg kn tr tb rate burst g' tg' t' tn') news news' → News h₀ L h' news') → Q (.int iv t) { s with heap := h', toks := tk' }) :
    wpAny (model (OpenLaw.row PySem.Challenge.rw_pf0379_01).prog w) (ktrTop dp un gd cn cs L a ccd cl outer) (call (.ref 159) [.ref sh, .int size tsz, .int now t0]) Q E s := by
  subst hg' ht'
  refine when_use C hS hT hI hD hr0 hr1 hb0 hb1 fun v tg' tn' h' tk' F' hN' hw' => ?_
  obtain ⟨h1, h2, h3⟩ := hw
  rcases hw' with ⟨h4, _⟩ | ⟨_, h4, _⟩ | ⟨_, _, _, t, rfl⟩
  · omega
  · omega
  · exact hv ▸ ret t tg' tn' h' tk' F' hN'
theorem sent_fix {sh dsh : Addr} {hq : Int} {kq : Tok} {b d : Addr} {hr hb hg hn : Int} {kr kb kg kn : Tok} {tr tb : Tok} {rate burst grains : Int} {tg : Tok} {time : Int} {tn : Tok} {size : Int} {tsz : Tok} {now : Int} {t0 : Tok} {g' t' : Int} {bv : Bool} (C : Ctx w mg mb mean dp un cs outer A₀ base h₀ L m s.heap news 8)
    (hS : (sh, instObj 169 dsh) ∈ news) (hT : (dsh, dictOf [⟨hq, .str (Str.ofString "bucket") kq, .ref b⟩] 1) ∈ news) (hI : (b, instObj 127 d) ∈ news) (hD : (d, bkD hr hb hg hn kr kb kg kn tr tb rate burst grains tg time tn) ∈ news) (hr0 : 0 ≤ rate) (hr1 : rate < 10000) (hb0 : 0 < burst) (hb1 : burst < 10000) (hg' : sentG size (asked size burst) (fillG rate burst grains time now) = g') (ht' : fillT time now = t') (hv : decide (asked size burst * 100 ≤ fillG rate burst grains time now) = bv)
    (ret : ∀ (tg' tn' : Tok) (h' : Heap) (tk' : Nat), Fr h₀ L h' m →
      (∀ news', Upd d (bkD hr hb hg hn kr kb kg kn tr tb rate burst grains tg time tn) (bkD hr hb hg hn kr kb kg kn tr tb rate burst g' tg' t' tn') news news' → News h₀ L h' news') → Q (.bool bv) { s with heap := h', toks := tk' }) :
    wpAny (model (OpenLaw.row PySem.Challenge.rw_pf0379_01).prog w) (ktrTop dp un gd cn cs L a ccd cl outer) (call (.ref 166) [.ref sh, .int size tsz, .int now t0]) Q E s := by
  subst hg' ht' hv
  exact sent_use C hS hT hI hD hr0 hr1 hb0 hb1 ret
end
local macro_rules | `(tactic| walk_at "call ref") => `(tactic| (k_here; (with_reducible show wpAny _ _ (call (Value.ref 127) [_, _]) _ _ _); k_dflt ((refine bucket_use (by ktr_rel) (by ktn_open) (by ktn_open) ?_); intro b' d' hr' hb' hg' hn' kr' kb' kg' kn' tg' tn' h' tk' l1 l2 F' N'; (try k_lt l1); (try k_lt2 l2); ktr_unf)))
local macro_rules | `(tactic| walk_at "call ref") => `(tactic| (k_here; (with_reducible show wpAny _ _ (call (Value.ref 169) [_, _]) _ _ _); k_dflt ((refine shaper_use (by ktr_rel) (by ktn_open) (by ktn_open) ?_); intro sh' dsh' hq' kq' b' d' hr' hb' hg' hn' kr' kb' kg' kn' tg' tn' h' tk' l1 l2 l3 l4 F' N'; (try k_lt l1); (try k_lt2 l2); (try k_lt2 l3); (try k_lt2 l4); ktr_unf)))
local macro_rules | `(tactic| walk_at "call ref") => `(tactic| (k_here; (with_reducible show wpAny _ _ (call (Value.ref 110) [Value.ref _, Value.int 2 _, Value.int 0 _]) _ _ _); k_dflt ((refine take_fix (g' := 0) (t' := 0) (bv := true) (by ktr_rel) (by k_mem) (by k_mem) (by decide) (by decide) (by decide) (by decide) (by decide) (by decide) (by decide) ?_); intro tg' tn' h' tk' F' hN'; (refine nx hN' (by k_upd) ?_); clear hN'; intro N'; ktr_unf)))
local macro_rules | `(tactic| walk_at "call ref") => `(tactic| (k_here; (with_reducible show wpAny _ _ (call (Value.ref 89) [Value.ref _, Value.int 4 _]) _ _ _); k_dflt ((refine level_fix (g' := 120) (t' := 4) (iv := 1) (by ktr_rel) (by k_mem) (by k_mem) (by decide) (by decide) (by decide) (by decide) (by decide) (by decide) (by decide) ?_); intro t' tg' tn' h' tk' F' hN'; (refine nx hN' (by k_upd) ?_); clear hN'; intro N'; ktr_unf)))
local macro_rules | `(tactic| walk_at "call ref") => `(tactic| (k_here; (with_reducible show wpAny _ _ (call (Value.ref 110) [Value.ref _, Value.int 3 _, Value.int 1 _]) _ _ _); k_dflt ((refine take_fix (g' := 0) (t' := 1) (bv := true) (by ktr_rel) (by k_mem) (by k_mem) (by decide) (by decide) (by decide) (by decide) (by decide) (by decide) (by decide) ?_); intro tg' tn' h' tk' F' hN'; (refine nx hN' (by k_upd) ?_); clear hN'; intro N'; ktr_unf)))
local macro_rules | `(tactic| walk_at "call ref") => `(tactic| (k_here; (with_reducible show wpAny _ _ (call (Value.ref 124) [Value.ref _, Value.int 2 _, Value.int 3 _]) _ _ _); k_dflt ((refine wait_fix (g' := 100) (t' := 3) (iv := 2) (by ktr_rel) (by k_mem) (by k_mem) (by decide) (by decide) (by decide) (by decide) (by decide) (by decide) (by decide) (by decide) ?_); intro t' tg' tn' h' tk' F' hN'; (refine nx hN' (by k_upd) ?_); clear hN'; intro N'; ktr_unf)))
local macro_rules | `(tactic| walk_at "call ref") => `(tactic| (k_here; (with_reducible show wpAny _ _ (call (Value.ref 166) [Value.ref _, Value.int 1 _, Value.int 0 _]) _ _ _); k_dflt ((refine sent_fix (g' := 300) (t' := 0) (bv := true) (by ktr_rel) (by k_mem) (by k_mem) (by k_mem) (by k_mem) (by decide) (by decide) (by decide) (by decide) (by decide) (by decide) (by decide) ?_); intro tg' tn' h' tk' F' hN'; (refine nx hN' (by k_upd) ?_); clear hN'; intro N'; ktr_unf)))
local macro_rules | `(tactic| walk_at "call ref") => `(tactic| (k_here; (with_reducible show wpAny _ _ (call (Value.ref 166) [Value.ref _, Value.int 9 _, Value.int 0 _]) _ _ _); k_dflt ((refine sent_fix (g' := 300) (t' := 0) (bv := false) (by ktr_rel) (by k_mem) (by k_mem) (by k_mem) (by k_mem) (by decide) (by decide) (by decide) (by decide) (by decide) (by decide) (by decide) ?_); intro tg' tn' h' tk' F' hN'; (refine nx hN' (by k_upd) ?_); clear hN'; intro N'; ktr_unf)))
local macro_rules | `(tactic| walk_at "call ref") => `(tactic| (k_here; (with_reducible show wpAny _ _ (call (Value.ref 159) [Value.ref _, Value.int 9 _, Value.int 4 _]) _ _ _); k_dflt ((refine when_fix (g' := 340) (t' := 4) (iv := 10) (by ktr_rel) (by k_mem) (by k_mem) (by k_mem) (by k_mem) (by decide) (by decide) (by decide) (by decide) (by decide) (by decide) (by decide) (by decide) ?_); intro t' tg' tn' h' tk' F' hN'; (refine nx hN' (by k_upd) ?_); clear hN'; intro N'; ktr_unf)))
local macro_rules | `(tactic| walk_at "call ref") => `(tactic| (k_here; (with_reducible show wpAny _ _ (call (Value.ref 166) [Value.ref _, Value.int 9 _, Value.int 10 _]) _ _ _); k_dflt ((refine sent_fix (g' := -500) (t' := 10) (bv := true) (by ktr_rel) (by k_mem) (by k_mem) (by k_mem) (by k_mem) (by decide) (by decide) (by decide) (by decide) (by decide) (by decide) (by decide) ?_); intro tg' tn' h' tk' F' hN'; (refine nx hN' (by k_upd) ?_); clear hN'; intro N'; ktr_unf)))
local macro_rules | `(tactic| walk_at "call ref") => `(tactic| (k_here; (with_reducible show wpAny _ _ (call (Value.ref 159) [Value.ref _, Value.int 1 _, Value.int 20 _]) _ _ _); k_dflt ((refine when_fix (g' := -400) (t' := 20) (iv := 70) (by ktr_rel) (by k_mem) (by k_mem) (by k_mem) (by k_mem) (by decide) (by decide) (by decide) (by decide) (by decide) (by decide) (by decide) (by decide) ?_); intro t' tg' tn' h' tk' F' hN'; (refine nx hN' (by k_upd) ?_); clear hN'; intro N'; ktr_unf)))
set_option maxRecDepth 100000 in
set_option maxHeartbeats 8000000 in
theorem fixed_claim (w : World) : Claim w 12 229 [] [] (fun v news' => v = .bool true ∧ news' = []) := by
  unfold Claim
  rintro mg mb mean dp un gd cn cs a ccd cl outer A₀ base h₀ L m s Q E ⟨B, F, X, N, T, hk, hd, hu⟩ hret
  revert X; k_fill; intro X
  w_top off
  refine wpAny_call ?_
  k_dflt cell_enter
  k_steps
  all_goals exact hret _ _ _ _ ⟨rfl, rfl⟩ (by k_asm) News.nil
section
variable {w : World} {mg mb : Str → Option Value} {mean : ExcName → Option Value} {dp un : Nat} {gd : Option (List Code)} {cn : Str} {cs : Scope} {a : Addr} {ccd : Value} {cl : List (Str × Addr)} {outer : List Env} {A₀ : Around} {base h₀ : Heap} {L : Addr} {m : Str → Option Value} {s : Shared} {Q E : Value → Shared → Prop} {news : List (Addr × Obj)}
theorem fixed_use (C : Ctx w mg mb mean dp un cs outer A₀ base h₀ L m s.heap [] 12)
    (ret : ∀ (h' : Heap) (tk' : Nat), Fr h₀ L h' m → News h₀ L h' [] → Q (.bool true) { s with heap := h', toks := tk' }) :
    wpAny (model (OpenLaw.row PySem.Challenge.rw_pf0379_01).prog w) (ktrTop dp un gd cn cs L a ccd cl outer) (call (.ref 229) []) Q E s := by
  refine fixed_claim w mg mb mean dp un gd cn cs a ccd cl outer A₀ base h₀ L m s Q E C ?_
  rintro v news' h' tk' ⟨rfl, rfl⟩ F' N'
  exact ret h' tk' F' N'
end

/- part M -/
local macro_rules | `(tactic| units_room) => `(tactic| k_units)
theorem news_drop2 {h₀ h : Heap} {L : Addr} {q r : Addr × Obj} {news : List (Addr × Obj)} (N : News h₀ L h (q :: r :: news)) : News h₀ L h (q :: news) := fun p hp => N p ((List.mem_cons.mp hp).elim (fun e => e ▸ .head _) fun h => .tail _ (.tail _ h))
set_option maxRecDepth 100000 in
set_option maxHeartbeats 8000000 in
theorem cells_claim (w : World) (l : Addr) (vs : List Value) (ns : List Int) (hi : IntsAre vs ns) (hlen : ns.length < 1000) (news : List (Addr × Obj)) :
  ∀ (mg mb : Str → Option Value) (mean : ExcName → Option Value) (dp un : Nat) (gd : Option (List Code)) (cn : Str) (cs : Scope) (a : Addr) (ccd : Value) (cl : List (Str × Addr)) (outer : List Env) (A₀ : Around) (base h₀ : Heap) (L : Addr) (m : Str → Option Value) (s : Shared) (Q E : Value → Shared → Prop),
    base.IsList l vs.toArray → Ctx w mg mb mean dp un cs outer A₀ base h₀ L m s.heap news 20 →
    (∀ (c : Addr) (x y : Int) (tx ty : Tok) (h' : Heap) (tk' : Nat), 0 ≤ x → 0 ≤ y → y < 2147483647 → (∀ p ∈ news, p.1 < c) → Fr h₀ L h' m → News h₀ L h' ((c, listOf #[.int x tx, .int y ty] 0) :: news) → Q (.ref c) { s with heap := h', toks := tk' }) →
    wpAny (model (OpenLaw.row PySem.Challenge.rw_pf0379_01).prog w) (ktrTop dp un gd cn cs L a ccd cl outer) (call (.ref 180) [.ref l]) Q E s := by
  rintro mg mb mean dp un gd cn cs a ccd cl outer A₀ base h₀ L m s Q E hl ⟨B, F, X, N, T, hk, hd, hu⟩ hret
  revert X; k_fill; intro X
  w_top off
  cases hi
  all_goals refine wpAny_call ?_
  all_goals k_dflt cell_enter
  all_goals k_steps
  all_goals (rename News _ _ _ _ => kN9)
  all_goals (rename _ ∧ AllLt _ _ => l9)
  all_goals refine hret _ _ _ _ _ _ _ ?_ (fm0 _ (by decide)) (fm1 _ (by decide)) (kst_ltOf l9.2) (by k_asm) (news_drop2 kN9)
  all_goals first | omega | (split <;> omega)
theorem upd_in {d : Addr} {o o' : Obj} {l l' : List (Addr × Obj)} (U : Upd d o o' l l') {p : Addr × Obj} (hp : p ∈ l') : p = (d, o') ∨ (p ∈ l ∧ p.1 ≠ d) := by
  obtain ⟨pre, post, rfl, rfl, h1, h2⟩ := U.split
  rcases List.mem_append.mp hp with hp | hp
  · exact .inr ⟨List.mem_append.mpr (.inl hp), h1 p hp⟩
  · rcases List.mem_cons.mp hp with rfl | hp
    · exact .inl rfl
    · exact .inr ⟨List.mem_append.mpr (.inr (.tail _ hp)), h2 p hp⟩
def off3 (c d k : Addr) (news : List (Addr × Obj)) : List (Addr × Obj) := news.filter (fun p => !(p.1 == c) && (!(p.1 == d) && !(p.1 == k)))
theorem off3_in {c d k : Addr} {news : List (Addr × Obj)} {p : Addr × Obj} : p ∈ off3 c d k news ↔ p ∈ news ∧ p.1 ≠ c ∧ p.1 ≠ d ∧ p.1 ≠ k := by
  unfold off3
  simp [List.mem_filter]
theorem upd3 {h₀ h : Heap} {L c d k : Addr} {oc oc' od od' ok ok' : Obj} {news n1 n2 n3 big : List (Addr × Obj)} (hc : (c, oc') ∈ big) (hd : (d, od') ∈ big) (hk : (k, ok') ∈ big) (hr : ∀ p ∈ off3 c d k news, p ∈ big)
    (N : News h₀ L h big) (U1 : Upd c oc oc' news n1) (U2 : Upd d od od' n1 n2) (U3 : Upd k ok ok' n2 n3) : News h₀ L h n3 := by
  intro p hp
  refine N p ?_
  rcases upd_in U3 hp with rfl | ⟨hp, h3⟩
  · exact hk
  rcases upd_in U2 hp with rfl | ⟨hp, h2⟩
  · exact hd
  rcases upd_in U1 hp with rfl | ⟨hp, h1⟩
  · exact hc
  exact hr p (off3_in.mpr ⟨hp, h1, h2, h3⟩)
theorem off3_news {h₀ h : Heap} {L c d k : Addr} {news : List (Addr × Obj)} (N : News h₀ L h news) : News h₀ L h (off3 c d k news) := fun p hp => N p (off3_in.mp hp).1
section
variable {w : World} {mg mb : Str → Option Value} {mean : ExcName → Option Value} {dp un : Nat} {gd : Option (List Code)} {cn : Str} {cs : Scope} {a : Addr} {ccd : Value} {cl : List (Str × Addr)} {outer : List Env} {A₀ : Around} {base h₀ : Heap} {L : Addr} {m : Str → Option Value} {s : Shared} {Q E : Value → Shared → Prop} {news : List (Addr × Obj)}
theorem bright_use {c : Addr} {x y : Int} {tx ty : Tok} {n : Nat} {b d : Addr} {hr hb hg hn : Int} {kr kb kg kn : Tok} {tr tb : Tok} {rate burst grains : Int} {tg : Tok} {time : Int} {tn : Tok} {k : Addr} {ob : Obj} {tr2 tb2 : Tok} {lack : Int} {tl : Tok} {since : Int} {ts : Tok} {now : Int} {t0 : Tok} (C : Ctx w mg mb mean dp un cs outer A₀ base h₀ L m s.heap news 10)
    (hM : (c, listOf #[.int x tx, .int y ty] n) ∈ news) (hI : (b, instObj 127 d) ∈ news) (hJ : (d, bkD hr hb hg hn kr kb kg kn tr tb rate burst grains tg time tn) ∈ news) (hK : (k, ob) ∈ news)
    (hx : 0 ≤ x) (hy : 0 ≤ y) (hy2 : y < 2147483647) (hr0 : 0 ≤ rate) (hr1 : rate < 10000) (hb0 : 0 < burst) (hb1 : burst < 100) (hD : IsBook w ob (bookKV tr2 tb2 rate burst lack tl since ts)) (hsm : (k == sysModules) = false)
    (hg0 : grains = burst * 100 - lack) (ht0 : time = since) (hl0 : 0 ≤ lack) (hnow : since ≤ now) (hck : c ≠ k) (hbk : b ≠ k) (hdk : d ≠ k)
    (ret : ∀ (x' y' : Int) (tx' ty' : Tok) (lack' : Int) (tg' tn' tl' ts' : Tok) (ob' : Obj) (h' : Heap) (tk' : Nat), 0 ≤ x' → 0 ≤ y' → y' < 2147483647 → 0 ≤ lack' → IsBook w ob' (bookKV tr2 tb2 rate burst lack' tl' now ts') → Fr h₀ L h' m →
      (∀ n1 n2 n3, Upd c (listOf #[.int x tx, .int y ty] n) (listOf #[.int x' tx', .int y' ty'] n) news n1 → Upd d (bkD hr hb hg hn kr kb kg kn tr tb rate burst grains tg time tn) (bkD hr hb hg hn kr kb kg kn tr tb rate burst (burst * 100 - lack') tg' now tn') n1 n2 → Upd k ob ob' n2 n3 → News h₀ L h' n3) → Q (.bool true) { s with heap := h', toks := tk' }) :
    wpAny (model (OpenLaw.row PySem.Challenge.rw_pf0379_01).prog w) (ktrTop dp un gd cn cs L a ccd cl outer) (call (.ref 208) [.ref c, .ref b, .ref k, .int now t0]) Q E s := by
  refine bright_claim w c x y tx ty n b d hr hb hg hn kr kb kg kn tr tb rate burst grains tg time tn k ob tr2 tb2 lack tl since ts now t0 (off3 c d k (news.filter (fun p => !(p.1 == b)))) hx hy hy2 hr0 hr1 hb0 hb1 hD hsm hg0 ht0 hl0 hnow
    (news_ne C.N hM hI (by intro e; cases e)) (news_ne C.N hM hJ (by intro e; injection e with e; revert e; decide)) hck (news_ne C.N hI hJ (by intro e; cases e)) hbk hdk
    (fun p hp => (off3_in.mp hp).2.1) (fun p hp => (off3_in.mp hp).2.2.1) (fun p hp => (off3_in.mp hp).2.2.2)
    mg mb mean dp un gd cn cs a ccd cl outer A₀ base h₀ L m s Q E { C with N := news_cons C.N hM (news_cons C.N hI (news_cons C.N hJ (news_cons C.N hK (off3_news (fun p hp => C.N p (List.mem_filter.mp hp).1))))) } ?_
  rintro v news' h' tk' ⟨x', y', tx', ty', lack', tg', tn', tl', ts', ob', rfl, h1, h2, h3, h4, h5, rfl⟩ F' N'
  refine ret x' y' tx' ty' lack' tg' tn' tl' ts' ob' h' tk' h1 h2 h3 h4 h5 F' fun n1 n2 n3 U1 U2 U3 => ?_
  refine upd3 (big := _) (.head _) (.tail _ (.tail _ (.head _))) (.tail _ (.tail _ (.tail _ (.head _)))) (fun p hp => ?_) N' U1 U2 U3
  obtain ⟨hp1, hp2⟩ := off3_in.mp hp
  by_cases e : p.1 = b
  · have e2 := (C.N p hp1).1
    have e3 := (C.N _ hI).1
    rw [e, e3] at e2
    rw [show p = (b, instObj 127 d) from Prod.ext e (Option.some.inj e2).symm]
    exact .tail _ (.head _)
  · exact .tail _ (.tail _ (.tail _ (.tail _ (off3_in.mpr ⟨List.mem_filter.mpr ⟨hp1, by simpa using e⟩, hp2⟩))))
theorem sright_use {c : Addr} {x y : Int} {tx ty : Tok} {n : Nat} {sh dsh : Addr} {hq : Int} {kq : Tok} {b d : Addr} {hr hb hg hn : Int} {kr kb kg kn : Tok} {tr tb : Tok} {rate burst grains : Int} {tg : Tok} {time : Int} {tn : Tok} {k : Addr} {ob : Obj} {tr2 tb2 : Tok} {lack : Int} {tl : Tok} {since : Int} {ts : Tok} {now : Int} {t0 : Tok} (C : Ctx w mg mb mean dp un cs outer A₀ base h₀ L m s.heap news 14)
    (hM : (c, listOf #[.int x tx, .int y ty] n) ∈ news) (hS : (sh, instObj 169 dsh) ∈ news) (hT : (dsh, dictOf [⟨hq, .str (Str.ofString "bucket") kq, .ref b⟩] 1) ∈ news) (hI : (b, instObj 127 d) ∈ news) (hJ : (d, bkD hr hb hg hn kr kb kg kn tr tb rate burst grains tg time tn) ∈ news) (hK : (k, ob) ∈ news)
    (hx : 0 ≤ x) (hy : 0 ≤ y) (hy2 : y < 2147483647) (hr0 : 0 ≤ rate) (hr1 : rate < 10000) (hb0 : 0 < burst) (hb1 : burst < 100) (hD : IsBook w ob (bookKV tr2 tb2 rate burst lack tl since ts)) (hsm : (k == sysModules) = false)
    (hg0 : grains = burst * 100 - lack) (ht0 : time = since) (hl0 : 0 ≤ lack) (hnow : since ≤ now) (hck : c ≠ k) (hbk : b ≠ k) (hdk : d ≠ k) (hks : k ≠ sh) (hks2 : k ≠ dsh)
    (ret : ∀ (x' y' : Int) (tx' ty' : Tok) (lack' : Int) (tg' tn' tl' ts' : Tok) (ob' : Obj) (h' : Heap) (tk' : Nat), 0 ≤ x' → 0 ≤ y' → y' < 2147483647 → 0 ≤ lack' → IsBook w ob' (bookKV tr2 tb2 rate burst lack' tl' now ts') → Fr h₀ L h' m →
      (∀ n1 n2 n3, Upd c (listOf #[.int x tx, .int y ty] n) (listOf #[.int x' tx', .int y' ty'] n) news n1 → Upd d (bkD hr hb hg hn kr kb kg kn tr tb rate burst grains tg time tn) (bkD hr hb hg hn kr kb kg kn tr tb rate burst (burst * 100 - lack') tg' now tn') n1 n2 → Upd k ob ob' n2 n3 → News h₀ L h' n3) → Q (.bool true) { s with heap := h', toks := tk' }) :
    wpAny (model (OpenLaw.row PySem.Challenge.rw_pf0379_01).prog w) (ktrTop dp un gd cn cs L a ccd cl outer) (call (.ref 215) [.ref c, .ref sh, .ref k, .int now t0]) Q E s := by
  refine sright_claim w c x y tx ty n sh dsh hq kq b d hr hb hg hn kr kb kg kn tr tb rate burst grains tg time tn k ob tr2 tb2 lack tl since ts now t0 (off3 c d k (news.filter (fun p => !(p.1 == b) && (!(p.1 == sh) && !(p.1 == dsh))))) hx hy hy2 hr0 hr1 hb0 hb1 hD hsm hg0 ht0 hl0 hnow
    (news_ne C.N hM hI (by intro e; cases e)) (news_ne C.N hM hJ (by intro e; injection e with e; revert e; decide)) hck (news_ne C.N hI hJ (by intro e; cases e)) hbk hdk
    (fun p hp => (off3_in.mp hp).2.1) (fun p hp => (off3_in.mp hp).2.2.1) (fun p hp => (off3_in.mp hp).2.2.2)
    (news_ne C.N hM hS (by intro e; cases e)) (news_ne C.N hM hT (by intro e; injection e with e; revert e; decide)) hks hks2 (news_ne C.N hJ hS (by intro e; cases e)) (news_neO C.N hJ hT (by intro e; cases e))
    mg mb mean dp un gd cn cs a ccd cl outer A₀ base h₀ L m s Q E { C with N := news_cons C.N hM (news_cons C.N hS (news_cons C.N hT (news_cons C.N hI (news_cons C.N hJ (news_cons C.N hK (off3_news (fun p hp => C.N p (List.mem_filter.mp hp).1))))))) } ?_
  rintro v news' h' tk' ⟨x', y', tx', ty', lack', tg', tn', tl', ts', ob', rfl, h1, h2, h3, h4, h5, rfl⟩ F' N'
  refine ret x' y' tx' ty' lack' tg' tn' tl' ts' ob' h' tk' h1 h2 h3 h4 h5 F' fun n1 n2 n3 U1 U2 U3 => ?_
  refine upd3 (big := _) (.head _) (.tail _ (.tail _ (.tail _ (.tail _ (.head _))))) (.tail _ (.tail _ (.tail _ (.tail _ (.tail _ (.head _)))))) (fun p hp => ?_) N' U1 U2 U3
  obtain ⟨hp1, hp2⟩ := off3_in.mp hp
  by_cases e : p.1 = b
  · have e2 := (C.N p hp1).1
    rw [e, (C.N _ hI).1] at e2
    rw [show p = (b, instObj 127 d) from Prod.ext e (Option.some.inj e2).symm]
    exact .tail _ (.tail _ (.tail _ (.head _)))
  by_cases f : p.1 = sh
  · have e2 := (C.N p hp1).1
    rw [f, (C.N _ hS).1] at e2
    rw [show p = (sh, instObj 169 dsh) from Prod.ext f (Option.some.inj e2).symm]
    exact .tail _ (.head _)
  by_cases g : p.1 = dsh
  · have e2 := (C.N p hp1).1
    rw [g, (C.N _ hT).1] at e2
    rw [show p = (dsh, dictOf [⟨hq, .str (Str.ofString "bucket") kq, .ref b⟩] 1) from Prod.ext g (Option.some.inj e2).symm]
    exact .tail _ (.tail _ (.head _))
  · exact .tail _ (.tail _ (.tail _ (.tail _ (.tail _ (.tail _ (off3_in.mpr ⟨List.mem_filter.mpr ⟨hp1, by simp [e, f, g]⟩, hp2⟩))))))
end

/- part N -/
local macro_rules | `(tactic| walk_at "call ref") => `(tactic| (k_here; (k_dflt (show wpAny _ _ (call (Value.ref 229) []) _ _ _)); k_dflt ((refine fixed_use (by ktr_rel) ?_); intro h' tk' F' N'; ktr_unf)))
local macro_rules | `(tactic| walk_at "call ref") => `(tactic| (k_here; (with_reducible show wpAny _ _ (call (Value.ref 222) [_, _]) _ _ _); k_dflt ((refine book_use (by ktr_rel) ?_); intro k' ob' tl' ts' h' tk' l1 hsm' hB' F' N'; (try k_lt l1); (have hB0 := book_dict hB'); (have hF0 := book_flat hB'); (dsimp only [bookKV] at hB0 hF0); ktr_unf)))
local macro_rules | `(tactic| walk_at "call ref") => `(tactic| (k_here; (with_reducible show wpAny _ _ (call (Value.ref 180) [_]) _ _ _); k_dflt ((refine cells_claim _ _ _ _ (by k_asm) (by omega) _ _ _ _ _ _ _ _ _ _ _ _ _ _ _ _ _ _ _ _ _ (by k_asm) (by ktr_rel) ?_); intro c' x' y' tx' ty' h' tk' hx' hy' hy1' l1 F' N'; (try k_lt l1); ktr_unf)))
theorem nx3 {P : Prop} {h₀ h : Heap} {L c d k : Addr} {oc oc' od od' ok ok' : Obj} {news n1 n2 n3 : List (Addr × Obj)} (hN : ∀ n1 n2 n3, Upd c oc oc' news n1 → Upd d od od' n1 n2 → Upd k ok ok' n2 n3 → News h₀ L h n3)
    (U1 : Upd c oc oc' news n1) (U2 : Upd d od od' n1 n2) (U3 : Upd k ok ok' n2 n3) (f : News h₀ L h n3 → P) : P := f (hN _ _ _ U1 U2 U3)
local macro_rules | `(tactic| walk_at "call ref") => `(tactic| (k_here; (with_reducible show wpAny _ _ (call (Value.ref 208) [_, _, _, _]) _ _ _); k_dflt ((refine bright_use (by ktr_rel) (by k_mem) (by k_mem) (by k_mem) (by k_mem) (by ktn_open) (by ktn_open) (by ktn_open) (by ktn_open) (by ktn_open) (by ktn_open) (by ktn_open) (by k_asm) (by k_asm) rfl rfl (by ktn_open) (by ktn_open) (by k_ne) (by k_ne) (by k_ne) ?_); intro x' y' tx' ty' lack' tg' tn' tl' ts' ob' h' tk' q1' q2' q3' q4' hB' F' hN'; (refine nx3 hN' (by k_upd) (by k_upd) (by k_upd) ?_); clear hN'; intro N'; ktr_unf)))
local macro_rules | `(tactic| walk_at "call ref") => `(tactic| (k_here; (with_reducible show wpAny _ _ (call (Value.ref 215) [_, _, _, _]) _ _ _); k_dflt ((refine sright_use (by ktr_rel) (by k_mem) (by k_mem) (by k_mem) (by k_mem) (by k_mem) (by k_mem) (by ktn_open) (by ktn_open) (by ktn_open) (by ktn_open) (by ktn_open) (by ktn_open) (by ktn_open) (by k_asm) (by k_asm) rfl rfl (by ktn_open) (by ktn_open) (by k_ne) (by k_ne) (by k_ne) (by k_ne) (by k_ne) ?_); intro x' y' tx' ty' lack' tg' tn' tl' ts' ob' h' tk' q1' q2' q3' q4' hB' F' hN'; (refine nx3 hN' (by k_upd) (by k_upd) (by k_upd) ?_); clear hN'; intro N'; ktr_unf)))
def Hold (P : Prop) : Prop := P
theorem hold_of {P : Prop} (h : Hold P) : P := h
local macro_rules | `(tactic| walk_at "exec For Name Call cons nil") => `(tactic| (k_here; (rename Fr _ _ _ _ => lF'); (with_unfolding_all refine' For_invVF lF' ?k1 ?k2 ?_; (case k1 => exact rfl); (case k2 => exact rfl); k_whole)))
local macro_rules | `(tactic| walk_at "pyIter ref") => `(tactic| ((with_reducible show wpAny _ _ (pyIter (Value.ref _)) (fun it s₂ => LoopAtV _ _ _ _ _ _ _ _ _ it s₂) _ _); refine hold_of ?_))
set_option maxRecDepth 100000 in
set_option maxHeartbeats 8000000 in
theorem law_holds : PySem.Challenge.rw_pf0379_01.Holds := Mine.hd (by
  k_go0
  (all_goals try k_fold)
  k_steps
  all_goals unfold Hold
  all_goals (rename IsRange _ _ _ _ _ _ _ _ => rgX)
  all_goals (rename News _ _ _ _ => lN')
  all_goals (rename Fr _ _ _ _ => lF')
  k_dflt (refine' loop_rule ?hh rgX ?hsm ?hn lF' lN' ?hm ?m1 ?m2 ?m3 ?m4 ?hc ?hI1 ?hD1 ?hS ?hT ?hI2 ?hD2 ?hL ?hK1 ?hK2 ?hB1 ?hB2 ?hx ?hy ?hy2 ?hnow ?turn ?done)
  case hh => k_dflt (exact rfl)
  case hsm => first | exact small_one (by omega) (by omega) (by omega) (by omega)
  case hn => exact rangeSize_nat _ _
  case hm => k_dflt (exact rfl)
  case m1 => k_dflt (exact rfl)
  case m2 => k_dflt (exact rfl)
  case m3 => k_dflt (exact rfl)
  case m4 => k_dflt (exact rfl)
  case hc => k_dflt k_mem
  case hI1 => k_dflt k_mem
  case hD1 => k_dflt k_mem
  case hS => k_dflt k_mem
  case hT => k_dflt k_mem
  case hI2 => k_dflt k_mem
  case hD2 => k_dflt k_mem
  case hL => k_dflt k_mem
  case hK1 => k_dflt k_mem
  case hK2 => k_dflt k_mem
  case hB1 => k_dflt k_asm
  case hB2 => k_dflt k_asm
  case hx => first | assumption | omega
  case hy => first | assumption | omega
  case hy2 => first | assumption | omega
  case hnow => first | assumption | omega
  case done =>
    intro m' h tk F N
    clear lF' lN'
    (try k_fold)
    k_steps
  case turn =>
    intro x tx y ty l1 s1 tg1 tn1 tl1 ts1 o1 l2 s2 tg2 tn2 tl2 ts2 o2 now tw kk t u h tk own R p1 p2 p3 p4 p5 p6 p7 f1 f2 e1 e2 e3 e4 e5 F N hR
    clear lF' lN'
    (try k_fold)
    k_steps
    all_goals (rename News _ _ _ _ => kN9)
    all_goals (rename Fr _ _ _ _ => kF9)
    all_goals exact hR _ _ _ _ _ _ _ _ _ _ _ _ _ _ _ _ _ _ _ _ _ _ _ (by assumption) (by assumption) (by assumption) (by assumption) (by first | exact Int.le_add_of_nonneg_right (menuC _) | exact Int.le_trans (by assumption) (Int.le_add_of_nonneg_right (menuC _))) (by assumption) (by first | exact Int.le_add_of_nonneg_right (menuC _) | exact Int.le_trans (by assumption) (Int.le_add_of_nonneg_right (menuC _))) (by k_asm) (by k_asm) kF9 rfl (by kst_same) (news_tail kN9))
end Mine

set_option maxRecDepth 100000 in
set_option maxHeartbeats 8000000 in
theorem PySem.Challenge.cw_pf0379_01_holds : PySem.Challenge.rw_pf0379_01.Holds := by
  exact Mine.law_holds
