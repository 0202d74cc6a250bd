import PyProof.Rows.All
import Wide.All
import OpenK.AllK
import Wide.FinOn
import PyProof.InstStoreFacts
import PyProof.ExcAttrAll.Exception
import PyProof.ExcInit
import PySem.Challenge.RW_xm0706_01
set_option Elab.async false

section
open PySem PySem.W PyProof.Rows
set_option maxRecDepth 100000
set_option maxHeartbeats 8000000
namespace Mine
open_top hd for PySem.Challenge.rw_xm0706_01
end Mine
end

section
open PySem PySem.W PyProof.Rows
set_option maxRecDepth 100000
set_option maxHeartbeats 8000000
namespace Mine
/-- a goal at which the walk stops, so that it is gone on with by hand -/
def Hold (P : Prop) : Prop := P
theorem hold {P : Prop} (h : Hold P) : P := h
theorem hold_out {P : Prop} (h : P) : Hold P := h

section
variable {prog : Program} {w : World} {A : Around} {h₀ : Heap} {L : Addr} {m : Str → Option Value} {env : Env} {elt : Expr} {x : Str} {scope : Scope} {cl : List (Str × Addr)} {s : Shared} {S : List (Addr × Obj) → Prop} {P : Nat → Value → Prop} {Fin : List Value → List (Addr × Obj) → Prop} {news : List (Addr × Obj)}
/-- a comprehension by what holds of the list so far and of the ledger -/
theorem comp_inv {n : Nat} (J : Nat → List Value → List (Addr × Obj) → Prop) (h0 : J 0 [] news)
    (turn : ∀ i v I oI C oC D m₂ ys news₁ h tk (E' : Value → Shared → Prop), i < n → P i v → J i ys news₁ → LCg.NsObj oC m₂ → m₂ x = some v → Fr h₀ L h m → News h₀ L h ((I, oI) :: (C, oC) :: (D, LCg.lst ys) :: news₁) → LCg.Off3 I C D news₁ → ((@Ne Nat I C) ∧ (@Ne Nat I D) ∧ (@Ne Nat C D)) →
      wpAny (model prog w) A (eval elt (compEnvC scope cl C env)) (LCg.CompEnd h₀ L m { s with heap := h, toks := tk } I oI C oC D (LCg.lst ys) S (fun y news' => J (i + 1) (ys ++ [y]) news')) E' { s with heap := h, toks := tk })
    (fin : ∀ ys news₁, J n ys news₁ → Fin ys news₁) : LCg.CompRest prog w A h₀ L m env elt x scope cl s S P Fin n 0 [] news := by
  have key : ∀ (j i : Nat) (ys : List Value) (news₁ : List (Addr × Obj)), i + j = n → J i ys news₁ → LCg.CompRest prog w A h₀ L m env elt x scope cl s S P Fin j i ys news₁ := by
    intro j
    induction j with
    | zero =>
      intro i ys news₁ hi hJ
      have e : i = n := by omega
      subst e
      exact LCg.CompRest.zero (fin ys news₁ hJ)
    | succ j ih =>
      intro i ys news₁ hi hJ
      refine LCg.CompRest.succ ?_
      intro v I oI C oC D m₂ h tk E' hv hC hx F N off ne
      refine wpAny_mono (turn i v I oI C oC D m₂ ys news₁ h tk E' (by omega) hv hJ hC hx F N off ne) (fun y s₂ hq => ?_) fun _ _ e => e
      obtain ⟨h', tk', nw, e, F', N', off', hS, hJ'⟩ := hq
      exact ⟨h', tk', nw, e, F', N', off', hS, ih (i + 1) _ nw (by omega) hJ'⟩
  exact key n 0 [] news (by omega) h0
end

/-- what `source` holds between the draws: two ints, the second within the generator's bound -/
def Pool (o : Obj) : Prop := ∃ (x y : Int) (t u : Tok) (n : Nat), o = { cls := .type "list", data := .seq #[.int x t, .int y u] n } ∧ 0 ≤ y ∧ y < 2147483647

/-- the others of a ledger beside `d` -/
theorem updf_head {d : Addr} {o : Obj} {news : List (Addr × Obj)} {f : Obj → List (Addr × Obj)} (U : UpdF d o news f) :
    ∃ rest : List (Addr × Obj), (∀ p ∈ rest, p.1 ≠ d) ∧ (∀ p ∈ (d, o) :: rest, p ∈ news) ∧ (∀ o', ∀ p ∈ f o', p ∈ (d, o') :: rest) := by
  obtain ⟨pre, post, rfl, hf, a, b⟩ := U.split
  refine ⟨pre ++ post, ?_, ?_, ?_⟩
  · intro p hp
    rcases List.mem_append.mp hp with h | h
    · exact a p h
    · exact b p h
  · intro p hp
    rcases List.mem_cons.mp hp with rfl | hp
    · simp
    · rcases List.mem_append.mp hp with h | h <;> simp [h]
  · intro o' p hp
    rw [hf] at hp
    rcases List.mem_append.mp hp with h | h
    · simp [h]
    · rcases List.mem_cons.mp h with rfl | h
      · simp
      · simp [h]
end Mine
end

section
open PySem PySem.W PyProof.Rows
set_option maxRecDepth 100000
set_option maxHeartbeats 8000000
namespace Mine

local macro_rules | `(tactic| k_all) => `(tactic| with_reducible assumption)
local macro_rules | `(tactic| mul_fits) => `(tactic| exact PySem.IntMulOk.of_left (PySem.intBits_le_64 (by simp only [Int.toNat_one, List.getD_cons_succ, List.getD_cons_zero]; exact Int.lt_of_lt_of_le (by decide) (fmod_lo _ (by decide))) (by simp only [Int.toNat_one, List.getD_cons_succ, List.getD_cons_zero]; exact Int.lt_of_lt_of_le (fmod_hi _ (by decide)) (by decide))))

theorem take_head (w : World) :
  ∀ (p : Program) (loose : List Str) (mean : ExcName → Option Value) (mg mb : Str → Option Value) (dp un : Nat) (gd : Option (List Code)) (cn : Str) (cs : Scope) (a : Addr) (ccd : Value) (cl : List (Str × Addr)) (outer : List Env) (A₀ : Around) (base h₀ : Heap) (L : Addr) (m : Str → Option Value) (s : Shared) (Q E : Value → Shared → Prop)
    (src : Addr) (rest : List (Addr × Obj)) (x y top : Int) (t u tt : Tok) (n : Nat),
    Below A₀ base outer h₀ → Fr h₀ L s.heap m → (Mine.hd.heap_39 w.params).In h₀ → News h₀ L s.heap ((src, { cls := .type "list", data := .seq #[.int x t, .int y u] n }) :: rest) → (∀ p ∈ rest, p.1 ≠ src) → Top p loose mean mg mb h₀ → cs.kind = .function →
    0 ≤ y → y < 2147483647 → 0 < top → top ≤ 100000 → dp + 1 < recursionLimit → un + 8 < cLine →
    (∀ (v : Int) (o' : Obj) (tv : Tok) (h' : Heap) (tk' : Nat), 0 ≤ v → v < top → Pool o' → Fr h₀ L h' m → News h₀ L h' ((src, o') :: rest) → Q (.int v tv) { s with heap := h', toks := tk' }) →
    wpAny (model PySem.Challenge.rw_xm0706_01.row.prog w) (ktrTop dp un gd cn cs L a ccd cl outer) (call (.ref 68) [.ref src, .int top tt]) Q E s := by
  w_top off
  k_fill
  intro p loose mean mg mb dp un gd cn cs a ccd cl outer A₀ base h₀ L m s Q E src rest x y top t u tt n B F X N hr T hk hy0 hy1 ht0 ht1 hd hu hret
  refine wpAny_call ?_
  k_dflt cell_enter
  k_steps
  · exact hret _ _ _ _ _ (fmod_lo _ ht0) (fmod_hi _ ht0) ⟨_, _, _, _, _, rfl, hy0, hy1⟩ (by k_asm) (by k_asm)
  · exact hret _ _ _ _ _ (fmod_lo _ ht0) (fmod_hi _ ht0) ⟨_, _, _, _, _, rfl, fmod_lo _ (n := 2147483647) (by decide), fmod_hi _ (n := 2147483647) (by decide)⟩ (by k_asm) (by k_asm)

section
variable {w : World} {p : Program} {loose : List Str} {mean : ExcName → Option Value} {mg mb : Str → Option Value} {dp un : Nat} {gd : Option (List Code)} {cn : Str} {cs : Scope} {a : Addr} {ccd : Value} {cl : List (Str × Addr)} {outer : List Env} {A₀ : Around} {base h₀ : Heap} {L : Addr} {m : Str → Option Value} {s : Shared} {Q E : Value → Shared → Prop}
  {src : Addr} {news : List (Addr × Obj)} {f : Obj → List (Addr × Obj)} {o : Obj}

theorem take_use {top : Int} {tt : Tok} (B : Below A₀ base outer h₀) (F : Fr h₀ L s.heap m) (X : (Mine.hd.heap_39 w.params).In h₀) (N : News h₀ L s.heap news) (U : UpdF src o news f) (P : Pool o) (T : Top p loose mean mg mb h₀) (hk : cs.kind = .function)
    (ht0 : 0 < top) (ht1 : top ≤ 100000) (hd : dp + 1 < recursionLimit) (hu : un + 8 < cLine)
    (hret : ∀ (v : Int) (o' : Obj) (tv : Tok) (h' : Heap) (tk' : Nat), 0 ≤ v → v < top → Pool o' → Fr h₀ L h' m → News h₀ L h' (f o') → Q (.int v tv) { s with heap := h', toks := tk' }) :
    wpAny (model PySem.Challenge.rw_xm0706_01.row.prog w) (ktrTop dp un gd cn cs L a ccd cl outer) (call (.ref 68) [.ref src, .int top tt]) Q E s := by
  obtain ⟨rest, hr, h1, h2⟩ := updf_head U
  obtain ⟨x, y, t, u, n, rfl, hy0, hy1⟩ := P
  refine take_head w p loose mean mg mb dp un gd cn cs a ccd cl outer A₀ base h₀ L m s Q E src rest x y top t u tt n B F X (fun q hq => N q (h1 q hq)) hr T hk hy0 hy1 ht0 ht1 hd hu ?_
  intro v o' tv h' tk' hv0 hv1 hP F' N'
  exact hret v o' tv h' tk' hv0 hv1 hP F' fun q hq => N' q (h2 o' q hq)
end
end Mine
end

section
open PySem PySem.W PyProof.Rows
set_option maxRecDepth 100000
set_option maxHeartbeats 8000000
namespace Mine
local macro_rules | `(tactic| k_all) => `(tactic| with_reducible assumption)
local macro_rules | `(tactic| walk_at "call ref") => `(tactic| (k_here; (with_reducible show wpAny _ _ (PySem.call (Value.ref 68) _) _ _ _); k_dflt (refine' take_use ?k1 ?k2 ?k3 ?k4 ?k5 ?k6 ?k7 ?k8 ?k9 ?k10 ?k11 ?k12 ?_; (case k1 => k_asm); (case k2 => k_asm); (case k3 => k_asm); (case k4 => k_asm); (case k5 => k_updF); (case k6 => assumption); (case k7 => k_asm); (case k8 => first | exact rfl | assumption); (case k9 => first | decide | omega); (case k10 => first | decide | omega); (case k11 => ktr_room); (case k12 => ktr_units)); intro v9 o9 tv9 h9 tk9 hv9 hw9 hP9 F9 N9; (try dsimp only at N9)))

theorem getD_in {l : List Int} {k : Int} (h : k.toNat < l.length) : l.getD k.toNat 0 ∈ l := by
  rw [List.getD_eq_getElem?_getD, List.getElem?_eq_getElem h]
  exact List.getElem_mem h

theorem one_blanks_head (w : World) :
  ∀ (p : Program) (loose : List Str) (mean : ExcName → Option Value) (mg mb : Str → Option Value) (dp un : Nat) (gd : Option (List Code)) (cn : Str) (cs : Scope) (a : Addr) (ccd : Value) (cl : List (Str × Addr)) (outer : List Env) (A₀ : Around) (base h₀ : Heap) (L : Addr) (m : Str → Option Value) (s : Shared) (Q E : Value → Shared → Prop)
    (src : Addr) (rest : List (Addr × Obj)) (o : Obj),
    Below A₀ base outer h₀ → Fr h₀ L s.heap m → (Mine.hd.heap_39 w.params).In h₀ → News h₀ L s.heap ((src, o) :: rest) → (∀ p ∈ rest, p.1 ≠ src) → Pool o → Top p loose mean mg mb h₀ → cs.kind = .function →
    dp + 2 < recursionLimit → un + 16 < cLine →
    (∀ (v : Int) (o' : Obj) (tv : Tok) (h' : Heap) (tk' : Nat), v ∈ [32, 10, 9, 13] → Pool o' → Fr h₀ L h' m → News h₀ L h' ((src, o') :: rest) → Q (.int v tv) { s with heap := h', toks := tk' }) →
    wpAny (model PySem.Challenge.rw_xm0706_01.row.prog w) (ktrTop dp un gd cn cs L a ccd cl outer) (call (.ref 75) [.ref src, .ref 54]) Q E s := by
  w_top off
  k_fill
  intro p loose mean mg mb dp un gd cn cs a ccd cl outer A₀ base h₀ L m s Q E src rest o B F X N hr hP T hk hd hu hret
  refine wpAny_call ?_
  k_dflt cell_enter
  k_steps
  exact hret _ _ _ _ _ (getD_in (l := [32, 10, 9, 13]) (by simp only [List.length_cons, List.length_nil]; omega)) (by assumption) (by k_asm) (by k_asm)

theorem one_list_head (w : World) :
  ∀ (p : Program) (loose : List Str) (mean : ExcName → Option Value) (mg mb : Str → Option Value) (dp un : Nat) (gd : Option (List Code)) (cn : Str) (cs : Scope) (a : Addr) (ccd : Value) (cl : List (Str × Addr)) (outer : List Env) (A₀ : Around) (base h₀ : Heap) (L : Addr) (m : Str → Option Value) (s : Shared) (Q E : Value → Shared → Prop)
    (src d : Addr) (rest : List (Addr × Obj)) (o : Obj) (vs : List Value) (ns : List Int) (c : Nat),
    Below A₀ base outer h₀ → Fr h₀ L s.heap m → (Mine.hd.heap_39 w.params).In h₀ → News h₀ L s.heap ((src, o) :: (d, { cls := .type "list", data := .seq vs.toArray c }) :: rest) → (∀ p ∈ ((d, { cls := .type "list", data := .seq vs.toArray c }) :: rest : List (Addr × Obj)), p.1 ≠ src) → Pool o → Top p loose mean mg mb h₀ → cs.kind = .function →
    IntsAre vs ns → 0 < ns.length → ns.length ≤ 1000 →
    dp + 2 < recursionLimit → un + 16 < cLine →
    (∀ (v : Int) (o' : Obj) (tv : Tok) (h' : Heap) (tk' : Nat), v ∈ ns → Pool o' → Fr h₀ L h' m → News h₀ L h' ((src, o') :: (d, { cls := .type "list", data := .seq vs.toArray c }) :: rest) → Q (.int v tv) { s with heap := h', toks := tk' }) →
    wpAny (model PySem.Challenge.rw_xm0706_01.row.prog w) (ktrTop dp un gd cn cs L a ccd cl outer) (call (.ref 75) [.ref src, .ref d]) Q E s := by
  w_top off
  k_fill
  intro p loose mean mg mb dp un gd cn cs a ccd cl outer A₀ base h₀ L m s Q E src d rest o vs ns c B F X N hr hP T hk hI hn0 hn1 hd hu hret
  refine wpAny_call ?_
  k_dflt cell_enter
  k_steps
  exact hret _ _ _ _ _ (getD_in (by omega)) (by assumption) (by k_asm) (by k_asm)

section
variable {w : World} {p : Program} {loose : List Str} {mean : ExcName → Option Value} {mg mb : Str → Option Value} {dp un : Nat} {gd : Option (List Code)} {cn : Str} {cs : Scope} {a : Addr} {ccd : Value} {cl : List (Str × Addr)} {outer : List Env} {A₀ : Around} {base h₀ : Heap} {L : Addr} {m : Str → Option Value} {s : Shared} {Q E : Value → Shared → Prop}
  {src : Addr} {news : List (Addr × Obj)} {f : Obj → List (Addr × Obj)} {o : Obj}

theorem one_blanks_use (B : Below A₀ base outer h₀) (F : Fr h₀ L s.heap m) (X : (Mine.hd.heap_39 w.params).In h₀) (N : News h₀ L s.heap news) (U : UpdF src o news f) (P : Pool o) (T : Top p loose mean mg mb h₀) (hk : cs.kind = .function)
    (hd : dp + 2 < recursionLimit) (hu : un + 16 < cLine)
    (hret : ∀ (v : Int) (o' : Obj) (tv : Tok) (h' : Heap) (tk' : Nat), v ∈ [32, 10, 9, 13] → Pool o' → Fr h₀ L h' m → News h₀ L h' (f o') → Q (.int v tv) { s with heap := h', toks := tk' }) :
    wpAny (model PySem.Challenge.rw_xm0706_01.row.prog w) (ktrTop dp un gd cn cs L a ccd cl outer) (call (.ref 75) [.ref src, .ref 54]) Q E s := by
  obtain ⟨rest, hr, h1, h2⟩ := updf_head U
  refine one_blanks_head w p loose mean mg mb dp un gd cn cs a ccd cl outer A₀ base h₀ L m s Q E src rest o B F X (fun q hq => N q (h1 q hq)) hr P T hk hd hu ?_
  intro v o' tv h' tk' hv hP F' N'
  exact hret v o' tv h' tk' hv hP F' fun q hq => N' q (h2 o' q hq)

theorem one_list_use {d : Addr} {vs : List Value} {ns : List Int} {c : Nat} (B : Below A₀ base outer h₀) (F : Fr h₀ L s.heap m) (X : (Mine.hd.heap_39 w.params).In h₀) (N : News h₀ L s.heap news) (U : UpdF src o news f) (P : Pool o) (T : Top p loose mean mg mb h₀) (hk : cs.kind = .function)
    (hm : (d, ({ cls := .type "list", data := .seq vs.toArray c } : Obj)) ∈ news) (hne : @Ne Nat d src) (hI : IntsAre vs ns) (hn0 : 0 < ns.length) (hn1 : ns.length ≤ 1000)
    (hd : dp + 2 < recursionLimit) (hu : un + 16 < cLine)
    (hret : ∀ (v : Int) (o' : Obj) (tv : Tok) (h' : Heap) (tk' : Nat), v ∈ ns → Pool o' → Fr h₀ L h' m → News h₀ L h' (f o') → Q (.int v tv) { s with heap := h', toks := tk' }) :
    wpAny (model PySem.Challenge.rw_xm0706_01.row.prog w) (ktrTop dp un gd cn cs L a ccd cl outer) (call (.ref 75) [.ref src, .ref d]) Q E s := by
  obtain ⟨rest, hr, h1, h2⟩ := updf_head U
  refine one_list_head w p loose mean mg mb dp un gd cn cs a ccd cl outer A₀ base h₀ L m s Q E src d rest o vs ns c B F X ?_ ?_ P T hk hI hn0 hn1 hd hu ?_
  · intro q hq
    rcases List.mem_cons.mp hq with rfl | hq
    · exact N _ (h1 _ (List.mem_cons_self ..))
    · rcases List.mem_cons.mp hq with rfl | hq
      · exact N _ hm
      · exact N _ (h1 _ (List.mem_cons_of_mem _ hq))
  · intro q hq
    rcases List.mem_cons.mp hq with rfl | hq
    · exact hne
    · exact hr q hq
  · intro v o' tv h' tk' hv hP F' N'
    refine hret v o' tv h' tk' hv hP F' fun q hq => N' q ?_
    rcases List.mem_cons.mp (h2 o' q hq) with rfl | h
    · exact List.mem_cons_self ..
    · exact List.mem_cons_of_mem _ (List.mem_cons_of_mem _ h)
end
end Mine
end

section
open PySem PySem.W PyProof.Rows
set_option maxRecDepth 100000
set_option maxHeartbeats 8000000
namespace Mine
local macro_rules | `(tactic| k_all) => `(tactic| with_reducible assumption)
local macro_rules | `(tactic| walk_at "call ref") => `(tactic| (k_here; (with_reducible show wpAny _ _ (PySem.call (Value.ref 68) _) _ _ _); k_dflt (refine' take_use ?k1 ?k2 ?k3 ?k4 ?k5 ?k6 ?k7 ?k8 ?k9 ?k10 ?k11 ?k12 ?_; (case k1 => k_asm); (case k2 => k_asm); (case k3 => k_asm); (case k4 => k_asm); (case k5 => k_updF); (case k6 => assumption); (case k7 => k_asm); (case k8 => first | exact rfl | assumption); (case k9 => first | decide | omega); (case k10 => first | decide | omega); (case k11 => ktr_room); (case k12 => ktr_units)); intro v9 o9 tv9 h9 tk9 hv9 hw9 hP9 F9 N9; (try dsimp only at N9)))
local macro_rules | `(tactic| walk_at "call ref") => `(tactic| (k_here; (with_reducible show wpAny _ _ (PySem.call (Value.ref 75) [_, Value.ref 54]) _ _ _); k_dflt (refine' one_blanks_use ?k1 ?k2 ?k3 ?k4 ?k5 ?k6 ?k7 ?k8 ?k9 ?k10 ?_; (case k1 => k_asm); (case k2 => k_asm); (case k3 => k_asm); (case k4 => k_asm); (case k5 => k_updF); (case k6 => assumption); (case k7 => k_asm); (case k8 => first | exact rfl | assumption); (case k9 => ktr_room); (case k10 => ktr_units)); intro v9 o9 tv9 h9 tk9 hv9 hP9 F9 N9; (try dsimp only at N9)))

local macro_rules | `(tactic| walk_at "CompSrc") => `(tactic| (k_here; refine hold ?_))
local macro_rules | `(tactic| walk_at "CompEnd") => `(tactic| (k_here; refine hold ?_))

theorem off1_mem {D : Addr} : ∀ {news : List (Addr × Obj)}, LCg.Off1 D news → ∀ p ∈ news, p.1 ≠ D
  | [], _, _, h => nomatch h
  | _ :: _, x, p, h => by
    rcases List.mem_cons.mp h with rfl | h
    · exact x.1
    · exact off1_mem x.2 p h

theorem gap_head (w : World) :
  ∀ (p : Program) (loose : List Str) (mean : ExcName → Option Value) (mg mb : Str → Option Value) (dp un : Nat) (gd : Option (List Code)) (cn : Str) (cs : Scope) (a : Addr) (ccd : Value) (cl : List (Str × Addr)) (outer : List Env) (A₀ : Around) (base h₀ : Heap) (L : Addr) (m : Str → Option Value) (s : Shared) (Q E : Value → Shared → Prop)
    (src : Addr) (rest : List (Addr × Obj)) (o : Obj),
    Below A₀ base outer h₀ → Fr h₀ L s.heap m → (Mine.hd.heap_39 w.params).In h₀ → News h₀ L s.heap ((src, o) :: rest) → (∀ p ∈ rest, p.1 ≠ src) → Pool o → Top p loose mean mg mb h₀ → cs.kind = .function →
    dp + 3 < recursionLimit → un + 24 < cLine →
    (∀ (o' : Obj) (D : Addr) (vs : List Value) (ns : List Int) (h' : Heap) (tk' : Nat), IntsAre vs ns → ns.length ≤ 2 → (∀ n ∈ ns, n ∈ [32, 10, 9, 13]) → Pool o' → Fr h₀ L h' m → News h₀ L h' ((D, { cls := .type "list", data := .seq vs.toArray vs.length }) :: (src, o') :: rest) → (∀ p ∈ ((src, o') :: rest : List (Addr × Obj)), p.1 ≠ D) → Q (.ref D) { s with heap := h', toks := tk' }) →
    wpAny (model PySem.Challenge.rw_xm0706_01.row.prog w) (ktrTop dp un gd cn cs L a ccd cl outer) (call (.ref 85) [.ref src]) Q E s := by
  w_top off
  k_fill
  intro p loose mean mg mb dp un gd cn cs a ccd cl outer A₀ base h₀ L m s Q E src rest o B F X N hr hP T hk hd hu hret
  refine wpAny_call ?_
  k_dflt (refine' code_defC ?k1 ?k2 ?k3 ?k4 ?k5 ?kA ?kF ?kK ?k6 ?k7 ?k8 ?k9 ?kB ?kD ?_ ?c2 ?c3 ?c4; (case kA => exact rfl); (case kF => exact rfl); (case kK => assumption); (case k1 => k_asm); (case k2 => k_asm); (case k3 => k_asm); (case k4 => k_asm); (case k5 => k_asm); (case k6 => k_is); (case k7 => k_is); (case k8 => ktr_room); (case k9 => exact BindsTo.of_eq rfl); (case kB => exact rfl); (case kD => decide +kernel); (case c2 => exact rfl); (case c3 => exact rfl); (case c4 => exact rfl); k_whole; intro g' L' h' tk' cells' FG' F' N' Y' B' X' T' l1; obtain ⟨oc, hE', d1⟩ := CellsAre.one Y'; subst hE'; clear Y'; have hlt := ltN (l1 _ (List.mem_cons_self ..)); dsimp only at hlt; (try simp only [List.cons_append, List.nil_append] at N'); (try dsimp only); (try k_lift B'); (try k_fold))
  k_steps
  refine hold_out ?_
  refine LCg.CompSrc.range (by rfl) (by k_asm) (by k_asm) (by assumption) (small_one (by omega) (by omega) (by omega) (by omega)) (rangeSize_nat _ _) (by rw [PySem.sizeLine_eq]; omega) ?_
  intro gg
  refine comp_inv (fun i ys nw => ∃ (o' : Obj) (ns : List Int), Pool o' ∧ IntsAre ys ns ∧ ns.length = i ∧ (∀ n ∈ ns, n ∈ [32, 10, 9, 13]) ∧ nw = (L' + 1, oc) :: (src, o') :: rest) ⟨_, [], by assumption, .nil, rfl, by simp, rfl⟩ ?_ ?_
  · rintro i v I oI C oC D m₂ ys nw h tk E' hi hv ⟨o', ns, hP1, hI1, hl2, hb1, rfl⟩ hC hx F2 N2 off ne
    simp only [LCg.Off3] at off
    obtain ⟨off1, off2, off3⟩ := off
    (try k_fold)
    k_steps
    refine hold_out (LCg.CompEnd.intro (by k_asm) (by assumption) ((L' + 1, oc) :: (src, _) :: rest) (fun _ hp => hp) ⟨off1, off2, off3⟩ trivial ⟨_, ns ++ [_], by assumption, hI1.append (.cons _ _ .nil), by rw [List.length_append, hl2]; rfl, ?_, rfl⟩)
    intro n hn
    rcases List.mem_append.mp hn with h9 | h9
    · exact hb1 n h9
    · rw [List.mem_singleton.mp h9]; assumption
  · rintro ys nw ⟨o', ns, hP1, hI1, hl2, hb1, rfl⟩
    k_steps
    rename_i D9 h9 tk9 F9 N9 ho9 kF kN Tc kX
    have ho := off1_mem (news := (src, o') :: rest) (D := D9) ⟨ho9.2.1, ho9.2.2⟩
    exact hret o' D9 ys ns _ _ hI1 (by omega) hb1 hP1 kF (fun q hq => kN q (by rcases List.mem_cons.mp hq with rfl | hq; exact List.mem_cons_self ..; exact List.mem_cons_of_mem _ (List.mem_cons_of_mem _ hq))) ho

section
variable {w : World} {p : Program} {loose : List Str} {mean : ExcName → Option Value} {mg mb : Str → Option Value} {dp un : Nat} {gd : Option (List Code)} {cn : Str} {cs : Scope} {a : Addr} {ccd : Value} {cl : List (Str × Addr)} {outer : List Env} {A₀ : Around} {base h₀ : Heap} {L : Addr} {m : Str → Option Value} {s : Shared} {Q E : Value → Shared → Prop}
  {src : Addr} {news : List (Addr × Obj)} {f : Obj → List (Addr × Obj)} {o : Obj}

theorem off1_sub {D : Addr} : ∀ {l l' : List (Addr × Obj)}, (∀ p ∈ l, p.1 ≠ D) → (∀ p ∈ l', p ∈ l) → LCg.Off1 D l'
  | _, [], _, _ => trivial
  | _, q :: _, h, hs => ⟨h q (hs q (List.mem_cons_self ..)), off1_sub h fun p hp => hs p (List.mem_cons_of_mem _ hp)⟩

theorem gap_use (B : Below A₀ base outer h₀) (F : Fr h₀ L s.heap m) (X : (Mine.hd.heap_39 w.params).In h₀) (N : News h₀ L s.heap news) (U : UpdF src o news f) (P : Pool o) (T : Top p loose mean mg mb h₀) (hk : cs.kind = .function)
    (hd : dp + 3 < recursionLimit) (hu : un + 24 < cLine)
    (hret : ∀ (o' : Obj) (D : Addr) (vs : List Value) (ns : List Int) (h' : Heap) (tk' : Nat), IntsAre vs ns → ns.length ≤ 2 → (∀ n ∈ ns, n ∈ [32, 10, 9, 13]) → Pool o' → Fr h₀ L h' m → News h₀ L h' ((D, { cls := .type "list", data := .seq vs.toArray vs.length }) :: f o') → LCg.Off1 D (f o') → Q (.ref D) { s with heap := h', toks := tk' }) :
    wpAny (model PySem.Challenge.rw_xm0706_01.row.prog w) (ktrTop dp un gd cn cs L a ccd cl outer) (call (.ref 85) [.ref src]) Q E s := by
  obtain ⟨rest, hr, h1, h2⟩ := updf_head U
  refine gap_head w p loose mean mg mb dp un gd cn cs a ccd cl outer A₀ base h₀ L m s Q E src rest o B F X (fun q hq => N q (h1 q hq)) hr P T hk hd hu ?_
  intro o' D vs ns h' tk' hI hl hb hP F' N' hD
  refine hret o' D vs ns h' tk' hI hl hb hP F' (fun q hq => N' q ?_) (off1_sub hD (h2 o'))
  rcases List.mem_cons.mp hq with rfl | hq
  · exact List.mem_cons_self ..
  · exact List.mem_cons_of_mem _ (h2 o' q hq)
end
end Mine
end

section
open PySem PySem.W PyProof.Rows
set_option maxRecDepth 100000
set_option maxHeartbeats 8000000
namespace Mine
local macro_rules | `(tactic| k_all) => `(tactic| with_reducible assumption)
local macro_rules | `(tactic| walk_at "call ref") => `(tactic| (k_here; (with_reducible show wpAny _ _ (PySem.call (Value.ref 68) _) _ _ _); k_dflt (refine' take_use ?k1 ?k2 ?k3 ?k4 ?k5 ?k6 ?k7 ?k8 ?k9 ?k10 ?k11 ?k12 ?_; (case k1 => k_asm); (case k2 => k_asm); (case k3 => k_asm); (case k4 => k_asm); (case k5 => k_updF); (case k6 => assumption); (case k7 => k_asm); (case k8 => first | exact rfl | assumption); (case k9 => first | decide | omega); (case k10 => first | decide | omega); (case k11 => ktr_room); (case k12 => ktr_units)); intro v9 o9 tv9 h9 tk9 hv9 hw9 hP9 F9 N9; (try dsimp only at N9)))
local macro_rules | `(tactic| walk_at "call ref") => `(tactic| (k_here; (with_reducible show wpAny _ _ (PySem.call (Value.ref 75) [_, _]) _ _ _); k_dflt (refine' one_list_use (vs := [_, _, _, _, _, _, _]) ?k1 ?k2 ?k3 ?k4 ?k5 ?k6 ?k7 ?k8 ?k9 ?k10 ?k11 ?k12 ?k13 ?k14 ?k15 ?_; (case k1 => k_asm); (case k2 => k_asm); (case k3 => k_asm); (case k4 => k_asm); (case k5 => k_updF); (case k6 => assumption); (case k7 => k_asm); (case k8 => first | exact rfl | assumption); (case k9 => k_mem); (case k10 => k_ne); (case k11 => exact .cons _ _ (.cons _ _ (.cons _ _ (.cons _ _ (.cons _ _ (.cons _ _ (.cons _ _ .nil))))))); (case k12 => exact Nat.le_of_ble_eq_true rfl); (case k13 => exact Nat.le_of_ble_eq_true rfl); (case k14 => ktr_room); (case k15 => ktr_units)); intro v9 o9 tv9 h9 tk9 hv9 hP9 F9 N9; (try dsimp only at N9)))
local macro_rules | `(tactic| walk_at "CompSrc") => `(tactic| (k_here; refine hold ?_))
local macro_rules | `(tactic| walk_at "CompEnd") => `(tactic| (k_here; refine hold ?_))

theorem blanks_in {w : World} {A : Around} {E Q : Value → Shared → Prop} {s : Shared} {h₀ : Heap} {L : Addr} {m : Str → Option Value} {x : Int} {u : Tok} (F : Fr h₀ L s.heap m) (X : (Mine.hd.heap_39 w.params).In h₀)
    (h : Q (.bool (([32, 10, 9, 13] : List Int).any (· == x))) s) : wpAny (model PySem.Challenge.rw_xm0706_01.row.prog w) A (compareOp .In (.int x u) (.ref 54)) Q E s :=
  in_tuple_ints (items := #[.int 32 250, .int 10 251, .int 9 252, .int 13 253]) ⟨_, F.keep _ _ (X 54 _ rfl), rfl, _, rfl⟩ (.cons _ _ (.cons _ _ (.cons _ _ (.cons _ _ .nil)))) h
local macro_rules | `(tactic| walk_at "compareOp In int ref") => `(tactic| (k_here; refine blanks_in (by k_asm) (by k_asm) ?_))

theorem word_head (w : World) :
  ∀ (p : Program) (loose : List Str) (mean : ExcName → Option Value) (mg mb : Str → Option Value) (dp un : Nat) (gd : Option (List Code)) (cn : Str) (cs : Scope) (a : Addr) (ccd : Value) (cl : List (Str × Addr)) (outer : List Env) (A₀ : Around) (base h₀ : Heap) (L : Addr) (m : Str → Option Value) (s : Shared) (Q E : Value → Shared → Prop)
    (src : Addr) (rest : List (Addr × Obj)) (o : Obj),
    Below A₀ base outer h₀ → Fr h₀ L s.heap m → (Mine.hd.heap_39 w.params).In h₀ → News h₀ L s.heap ((src, o) :: rest) → (∀ p ∈ rest, p.1 ≠ src) → Pool o → Top p loose mean mg mb h₀ → cs.kind = .function →
    dp + 3 < recursionLimit → un + 24 < cLine →
    (∀ (o' : Obj) (D : Addr) (vs : List Value) (ns : List Int) (h' : Heap) (tk' : Nat), IntsAre vs ns → 1 ≤ ns.length → ns.length ≤ 3 → (∀ n ∈ ns, 0 ≤ n ∧ n < 256 ∧ n ∉ [32, 10, 9, 13]) → Pool o' → Fr h₀ L h' m → News h₀ L h' ((D, { cls := .type "list", data := .seq vs.toArray vs.length }) :: (src, o') :: rest) → (∀ p ∈ ((src, o') :: rest : List (Addr × Obj)), p.1 ≠ D) → Q (.ref D) { s with heap := h', toks := tk' }) →
    wpAny (model PySem.Challenge.rw_xm0706_01.row.prog w) (ktrTop dp un gd cn cs L a ccd cl outer) (call (.ref 80) [.ref src]) Q E s := by
  w_top off
  k_fill
  intro p loose mean mg mb dp un gd cn cs a ccd cl outer A₀ base h₀ L m s Q E src rest o B F X N hr hP T hk hd hu hret
  refine wpAny_call ?_
  k_dflt (refine' code_defC ?k1 ?k2 ?k3 ?k4 ?k5 ?kA ?kF ?kK ?k6 ?k7 ?k8 ?k9 ?kB ?kD ?_ ?c2 ?c3 ?c4; (case kA => exact rfl); (case kF => exact rfl); (case kK => assumption); (case k1 => k_asm); (case k2 => k_asm); (case k3 => k_asm); (case k4 => k_asm); (case k5 => k_asm); (case k6 => k_is); (case k7 => k_is); (case k8 => ktr_room); (case k9 => exact BindsTo.of_eq rfl); (case kB => exact rfl); (case kD => decide +kernel); (case c2 => exact rfl); (case c3 => exact rfl); (case c4 => exact rfl); k_whole; intro g' L' h' tk' cells' FG' F' N' Y' B' X' T' l1; obtain ⟨oc, hE', d1⟩ := CellsAre.one Y'; subst hE'; clear Y'; have hlt := ltN (l1 _ (List.mem_cons_self ..)); dsimp only at hlt; (try simp only [List.cons_append, List.nil_append] at N'); (try dsimp only); (try k_lift B'); (try k_fold))
  k_steps
  refine hold_out ?_
  refine LCg.CompSrc.range (by rfl) (by k_asm) (by k_asm) (by assumption) (small_one (by omega) (by omega) (by omega) (by omega)) (rangeSize_nat _ _) (by rw [PySem.sizeLine_eq]; omega) ?_
  intro gg
  refine comp_inv (fun i ys nw => ∃ (o' : Obj) (ns : List Int), Pool o' ∧ IntsAre ys ns ∧ ns.length = i ∧ (∀ n ∈ ns, 0 ≤ n ∧ n < 256) ∧ nw = (L' + 1, oc) :: (src, o') :: rest) ⟨_, [], by assumption, .nil, rfl, by simp, rfl⟩ ?_ ?_
  · rintro i v I oI C oC D m₂ ys nw h tk E' hi hv ⟨o', ns, hP1, hI1, hl2, hb1, rfl⟩ hC hx F2 N2 off ne
    simp only [LCg.Off3] at off
    obtain ⟨off1, off2, off3⟩ := off
    (try k_fold)
    k_steps
    refine hold_out (LCg.CompEnd.intro (by k_asm) (by assumption) ((L' + 1, oc) :: (src, _) :: rest) ?_ ⟨off1, off2, off3⟩ trivial ⟨_, ns ++ [_], by assumption, hI1.append (.cons _ _ .nil), by rw [List.length_append, hl2]; rfl, ?_, rfl⟩)
    · intro q hq
      first | exact hq | exact List.mem_cons_of_mem _ hq
    intro n hn
    rcases List.mem_append.mp hn with h9 | h9
    · exact hb1 n h9
    · rw [List.mem_singleton.mp h9]
      rename_i hv9 _ _ _
      simp only [List.mem_cons, List.not_mem_nil, or_false] at hv9
      omega
  · rintro ys nw ⟨o', ns, hP1, hI1, hl2, hb1, rfl⟩
    k_steps
    refine hold_out ?_
    rename_i D9 h9 tk9 F9 N9 ho9
    refine LCg.CompSrc.ledger (by rfl) (by k_asm) (by k_asm) (by k_mem) (by rw [PySem.sizeLine_eq]; simp only [List.size_toArray, hI1.length]; omega) ?_
    intro gg
    refine comp_inv (fun i zs nw => ∃ (ms : List Int), IntsAre zs ms ∧ ms.length = i ∧ (∀ n ∈ ms, 0 ≤ n ∧ n < 256 ∧ n ∉ [32, 10, 9, 13]) ∧ nw = (D9, LCg.lst ys) :: (L' + 1, oc) :: (src, o') :: rest) ⟨[], .nil, rfl, by simp, rfl⟩ ?_ ?_
    · rintro i v I oI C oC D m₂ zs nw h tk E' hi hv ⟨ms, hJ1, hl3, hb3, rfl⟩ hC hx F2 N2 off ne
      simp only [LCg.Off3] at off
      obtain ⟨off0, off1, off2, off3⟩ := off
      obtain ⟨k, t, rfl, hk9⟩ := IntsAre.at hI1 i v (by simpa using hv)
      have hkb := hb1 k (List.mem_of_getElem? hk9)
      (try k_fold)
      k_steps
      · refine hold_out (LCg.CompEnd.intro (by k_asm) (by assumption) ((D9, LCg.lst ys) :: (L' + 1, oc) :: (src, o') :: rest) (fun _ hp => hp) ⟨off0, off1, off2, off3⟩ (Or.inr ⟨_, by k_mem, rfl, _, rfl⟩) ⟨ms ++ [65], hJ1.append (.cons _ _ .nil), by rw [List.length_append, hl3]; rfl, ?_, rfl⟩)
        intro n hn
        rcases List.mem_append.mp hn with h9 | h9
        · exact hb3 n h9
        · rw [List.mem_singleton.mp h9]
          decide
      · refine hold_out (LCg.CompEnd.intro (by k_asm) (by assumption) ((D9, LCg.lst ys) :: (L' + 1, oc) :: (src, o') :: rest) (fun _ hp => hp) ⟨off0, off1, off2, off3⟩ (Or.inr ⟨_, by k_mem, rfl, _, rfl⟩) ⟨ms ++ [k], hJ1.append (.cons _ _ .nil), by rw [List.length_append, hl3]; rfl, ?_, rfl⟩)
        intro n hn
        rcases List.mem_append.mp hn with h9 | h9
        · exact hb3 n h9
        · rw [List.mem_singleton.mp h9]
          rename_i hno
          refine ⟨hkb.1, hkb.2, fun hc => ?_⟩
          have hyes : (([32, 10, 9, 13] : List Int).any (· == k)) = true := List.any_eq_true.mpr ⟨k, hc, beq_self_eq_true k⟩
          rw [hno] at hyes
          cases hyes
    · rintro zs nw ⟨ms, hJ1, hl3, hb3, rfl⟩
      k_steps
      rename_i D8 h8 tk8 F8 N8 ho8 kF kN Tc kX
      have hz : zs.length = ns.length := by rw [hJ1.length, hl3, List.size_toArray, hI1.length]
      have ho := off1_mem (news := (src, o') :: rest) (D := D8) ⟨ho8.2.2.1, ho8.2.2.2⟩
      refine hret o' D8 zs ms _ _ hJ1 (by have := hJ1.length; omega) (by have := hJ1.length; omega) hb3 hP1 kF (fun q hq => kN q ?_) ho
      rcases List.mem_cons.mp hq with rfl | hq
      · exact List.mem_cons_self ..
      · exact List.mem_cons_of_mem _ (List.mem_cons_of_mem _ (List.mem_cons_of_mem _ hq))

section
variable {w : World} {p : Program} {loose : List Str} {mean : ExcName → Option Value} {mg mb : Str → Option Value} {dp un : Nat} {gd : Option (List Code)} {cn : Str} {cs : Scope} {a : Addr} {ccd : Value} {cl : List (Str × Addr)} {outer : List Env} {A₀ : Around} {base h₀ : Heap} {L : Addr} {m : Str → Option Value} {s : Shared} {Q E : Value → Shared → Prop}
  {src : Addr} {news : List (Addr × Obj)} {f : Obj → List (Addr × Obj)} {o : Obj}

theorem word_use (B : Below A₀ base outer h₀) (F : Fr h₀ L s.heap m) (X : (Mine.hd.heap_39 w.params).In h₀) (N : News h₀ L s.heap news) (U : UpdF src o news f) (P : Pool o) (T : Top p loose mean mg mb h₀) (hk : cs.kind = .function)
    (hd : dp + 3 < recursionLimit) (hu : un + 24 < cLine)
    (hret : ∀ (o' : Obj) (D : Addr) (vs : List Value) (ns : List Int) (h' : Heap) (tk' : Nat), IntsAre vs ns → 1 ≤ ns.length → ns.length ≤ 3 → (∀ n ∈ ns, 0 ≤ n ∧ n < 256 ∧ n ∉ [32, 10, 9, 13]) → Pool o' → Fr h₀ L h' m → News h₀ L h' ((D, { cls := .type "list", data := .seq vs.toArray vs.length }) :: f o') → LCg.Off1 D (f o') → Q (.ref D) { s with heap := h', toks := tk' }) :
    wpAny (model PySem.Challenge.rw_xm0706_01.row.prog w) (ktrTop dp un gd cn cs L a ccd cl outer) (call (.ref 80) [.ref src]) Q E s := by
  obtain ⟨rest, hr, h1, h2⟩ := updf_head U
  refine word_head w p loose mean mg mb dp un gd cn cs a ccd cl outer A₀ base h₀ L m s Q E src rest o B F X (fun q hq => N q (h1 q hq)) hr P T hk hd hu ?_
  intro o' D vs ns h' tk' hI hl0 hl hb hP F' N' hD
  refine hret o' D vs ns h' tk' hI hl0 hl hb hP F' (fun q hq => N' q ?_) (off1_sub hD (h2 o'))
  rcases List.mem_cons.mp hq with rfl | hq
  · exact List.mem_cons_self ..
  · exact List.mem_cons_of_mem _ (h2 o' q hq)
end
end Mine
end

section
open PySem PySem.W PyProof.Rows
set_option maxRecDepth 100000
set_option maxHeartbeats 8000000
namespace Mine

/-- is the sign a blank -/
def isB (c : Int) : Bool := ([32, 10, 9, 13] : List Int).any (· == c)
/-- what read_head finds from here on -/
def scan (many : Nat) : List Int → List Str → Str → Nat → Option (List Str × Nat)
  | [], ws, _, k => if ws.length < many then none else some (ws, k)
  | c :: r, ws, wd, k => if ws.length < many then
      (if isB c then (if wd = ⟨#[]⟩ then scan many r ws wd (k + 1) else scan many r (ws ++ [wd]) ⟨#[]⟩ (k + 1))
       else scan many r ws (wd ++ ⟨#[c.toNat]⟩) (k + 1))
    else some (ws, k)

local macro_rules | `(tactic| k_all) => `(tactic| with_reducible assumption)
local macro_rules | `(tactic| walk_at "exec While Compare cons nil") => `(tactic| (k_here; refine hold ?_))
local macro_rules | `(tactic| walk_at "WhileStep2") => `(tactic| (k_here; refine hold ?_))

theorem occ_blank_all : ∀ n : Fin 256, (Builtin.Str.occurrences (Str.ofString " \n\t\x0d") ⟨#[n.val]⟩ 0 (Str.ofString " \n\t\x0d").length 1).isEmpty = !isB (n.val : Int) := by decide +kernel
theorem occ_blank {c : Int} (h0 : 0 ≤ c) (h1 : c < 256) : (Builtin.Str.occurrences (Str.ofString " \n\t\x0d") ⟨#[c.toNat]⟩ 0 (Str.ofString " \n\t\x0d").length 1).isEmpty = !isB c := by
  have h := occ_blank_all ⟨c.toNat, by omega⟩
  have e : ((c.toNat : Nat) : Int) = c := Int.toNat_of_nonneg h0
  simpa only [e] using h
theorem strs_append : ∀ {vs ws : List Value} {xs ys : List Str}, StrsAre vs xs → StrsAre ws ys → StrsAre (vs ++ ws) (xs ++ ys)
  | _, _, _, _, .nil, h => h
  | _, _, _, _, .cons y t h, h' => .cons y t (strs_append h h')
theorem off1_allLt {D : Addr} : ∀ {l : List (Addr × Obj)}, AllLt D l → LCg.Off1 D l
  | [], _ => trivial
  | _ :: _, h => ⟨Nat.ne_of_lt h.1, off1_allLt h.2⟩
theorem fr_kst {h₀ h : Heap} {L : Addr} {m : Str → Option Value} {ps : List (Str × Value)} (h1 : ∀ p ∈ ps, m p.1 = some p.2) (F : Fr h₀ L h m) : Fr h₀ L h (kstB m ps) := by
  have e : kstB m ps = m := by
    funext z
    exact kstB_eq h1 fun _ => rfl
  rw [e]; exact F
theorem off1_lt {D : Addr} : ∀ {l : List (Addr × Obj)}, (∀ p ∈ l, p.1 < D) → LCg.Off1 D l
  | [], _ => trivial
  | q :: _, h => ⟨Nat.ne_of_lt (h q (List.mem_cons_self ..)), off1_lt fun p hp => h p (List.mem_cons_of_mem _ hp)⟩

theorem read_ok_head (w : World) :
  ∀ (p : Program) (loose : List Str) (mean : ExcName → Option Value) (mg mb : Str → Option Value) (dp un : Nat) (gd : Option (List Code)) (cn : Str) (cs : Scope) (a : Addr) (ccd : Value) (cl : List (Str × Addr)) (outer : List Env) (A₀ : Around) (base h₀ : Heap) (L : Addr) (m : Str → Option Value) (s : Shared) (Q E : Value → Shared → Prop)
    (news : List (Addr × Obj)) (b : Array UInt8) (tb tm : Tok) (ks : List Int) (many : Nat) (ws : List Str) (e : Nat),
    Below A₀ base outer h₀ → Fr h₀ L s.heap m → (Mine.hd.heap_39 w.params).In h₀ → News h₀ L s.heap news → Top p loose mean mg mb h₀ → cs.kind = .function →
    KBw.bInts b = ks → ks.length ≤ 1000 → many ≤ 1000 → scan many ks [] ⟨#[]⟩ 0 = some (ws, e) →
    dp + 1 < recursionLimit → un + 8 < cLine →
    (∀ (D Tp : Addr) (vs : List Value) (t : Tok) (c c' : Nat) (h' : Heap) (tk' : Nat), StrsAre vs ws → Fr h₀ L h' m → News h₀ L h' ((Tp, { cls := .type "tuple", data := .seq #[.ref D, .int e t] c }) :: (D, { cls := .type "list", data := .seq vs.toArray c' }) :: news) → LCg.Off1 Tp ((D, { cls := .type "list", data := .seq vs.toArray c' }) :: news) → LCg.Off1 D news → Q (.ref Tp) { s with heap := h', toks := tk' }) →
    wpAny (model PySem.Challenge.rw_xm0706_01.row.prog w) (ktrTop dp un gd cn cs L a ccd cl outer) (call (.ref 53) [.bytes b tb, .int many tm]) Q E s := by
  w_top off
  k_fill
  intro p loose mean mg mb dp un gd cn cs a ccd cl outer A₀ base h₀ L m s Q E news b tb tm ks many ws e B F X N T hk hb hks hmany hscan hd hu hret
  refine wpAny_call ?_
  k_dflt cell_enter
  k_steps
  rename_i g L1 h1 FG B1 X1 T1 l hA l1 D hB lD hC hD hE hF F1 N1
  have l2 : LCg.Off1 l news := off1_lt l1
  refine hold_out (While_inv2 (fun n m1 nx => ∃ (rest : List Int) (ws1 : List Str) (wd : Str) (k : Nat) (vs : List Value) (c : Nat) (t1 t2 : Tok), n = rest.length ∧ rest = ks.drop k ∧ k ≤ ks.length ∧ scan many rest ws1 wd k = some (ws, e) ∧ StrsAre vs ws1 ∧ ws1.length ≤ k ∧ wd.length ≤ k ∧
    nx = (l, { cls := .type "list", data := .seq vs.toArray c }) :: news ∧ m1 (Str.ofString "words") = some (.ref l) ∧ m1 (Str.ofString "word") = some (.str wd t1) ∧ m1 (Str.ofString "at") = some (.int k t2) ∧ m1 (Str.ofString "octets") = some (.bytes b tb) ∧ m1 (Str.ofString "many") = some (.int many tm))
    (n₀ := ks.length) F1 (fun p hp => N1 p (List.mem_cons_of_mem _ hp)) ⟨ks, [], ⟨#[]⟩, 0, [], 0, _, _, rfl, rfl, Nat.zero_le _, hscan, .nil, Nat.zero_le _, Nat.le_refl _, rfl, rfl, rfl, rfl, rfl, rfl⟩ ?_)
  rintro n m1 nx h9 tk9 F9 N9 ⟨rest, ws1, wd, k, vs, c, t1, t2, rfl, hrest, hk1, hsc, hS, hwl, hdl, rfl, e1, e2, e3, e4, e5⟩
  have F8 := fr_kst (ps := [(Str.ofString "words", .ref l), (Str.ofString "word", .str wd t1), (Str.ofString "at", .int k t2), (Str.ofString "octets", .bytes b tb), (Str.ofString "many", .int many tm)]) (by simp only [List.forall_mem_cons, List.not_mem_nil, false_implies, implies_true, and_true]; exact ⟨e1, e2, e3, e4, e5⟩) F9
  clear F9
  by_cases hlt : ws1.length < many
  · cases rest with
    | nil => simp [scan, hlt] at hsc
    | cons kc r =>
      have hkl : k < ks.length := by
        rcases Nat.lt_or_ge k ks.length with h | h
        · exact h
        · rw [List.drop_eq_nil_of_le h] at hrest; cases hrest
      have hkr : ks.drop (k + 1) = r := by
        rw [List.drop_eq_getElem_cons hkl] at hrest; exact (List.cons.inj hrest).2.symm
      have hkc : ks.getD k 0 = kc := by
        rw [List.drop_eq_getElem_cons hkl] at hrest
        rw [List.getD_eq_getElem?_getD, List.getElem?_eq_getElem hkl]; exact (List.cons.inj hrest).1.symm
      (try k_fold)
      k_steps
      · exfalso
        omega
      · (rename (0 ≤ List.getD _ _ _) => hlo); (rename (List.getD _ _ _ < 256) => hhi); (rename ((Builtin.Str.occurrences _ _ _ _ _).isEmpty = _) => hocc); (rename Fr _ _ _ _ => FZ); (rename News _ _ _ _ => NZ); (rename (Str.length _ + Str.length _ ≤ _ ∧ _) => hlen)
        rw [Int.toNat_natCast, hkc] at hlo hhi hocc FZ hlen
        rw [occ_blank hlo hhi] at hocc
        have hB : isB kc = false := by simpa using hocc
        refine hold_out ⟨_, _, _, _, r.length, rfl, FZ, NZ, Nat.lt_succ_self _, r, ws1, wd ++ ⟨#[kc.toNat]⟩, k + 1, vs, c, _, _, rfl, hkr.symm, hkl, ?_, by assumption, by omega, ?_, rfl, rfl, rfl, rfl, rfl, rfl⟩
        · simpa [scan, hlt, hB] using hsc
        · have h1 : Str.length ⟨#[kc.toNat]⟩ = 1 := rfl
          omega
      · (rename (0 ≤ List.getD _ _ _) => hlo); (rename (List.getD _ _ _ < 256) => hhi); (rename ((Builtin.Str.occurrences _ _ _ _ _).isEmpty = _) => hocc); (rename Fr _ _ _ _ => FZ); (rename News _ _ _ _ => NZ); (rename ((_ != Str.ofString "") = _) => hwd)
        rw [Int.toNat_natCast, hkc] at hlo hhi hocc FZ
        rw [occ_blank hlo hhi] at hocc
        have hB : isB kc = true := by simpa using hocc
        have hW : wd ≠ ⟨#[]⟩ := by
          intro hc
          rw [hc] at hwd
          exact absurd hwd (by decide)
        refine hold_out ⟨_, _, _, _, r.length, rfl, FZ, NZ, Nat.lt_succ_self _, r, ws1 ++ [wd], ⟨#[]⟩, k + 1, vs ++ [.str wd t1], c + 1, _, _, rfl, hkr.symm, hkl, ?_, strs_append (by assumption) (.cons _ _ .nil), by rw [List.length_append]; exact Nat.succ_le_succ hwl, Nat.zero_le _, by rw [← List.push_toArray], rfl, rfl, rfl, rfl, rfl⟩
        simpa [scan, hlt, hB, hW] using hsc
      · (rename (0 ≤ List.getD _ _ _) => hlo); (rename (List.getD _ _ _ < 256) => hhi); (rename ((Builtin.Str.occurrences _ _ _ _ _).isEmpty = _) => hocc); (rename Fr _ _ _ _ => FZ); (rename News _ _ _ _ => NZ); (rename ((_ != Str.ofString "") = _) => hwd)
        rw [Int.toNat_natCast, hkc] at hlo hhi hocc FZ
        rw [occ_blank hlo hhi] at hocc
        have hB : isB kc = true := by simpa using hocc
        have hW : wd = ⟨#[]⟩ := by
          have : wd = Str.ofString "" := by simpa using hwd
          rw [this]; rfl
        refine hold_out ⟨_, _, _, _, r.length, rfl, FZ, NZ, Nat.lt_succ_self _, r, ws1, wd, k + 1, vs, c, _, _, rfl, hkr.symm, hkl, ?_, by assumption, by omega, by omega, rfl, rfl, rfl, rfl, rfl, rfl⟩
        simpa [scan, hlt, hB, hW] using hsc
  · have hx : ws1 = ws ∧ k = e := by
      cases rest <;> simpa [scan, hlt] using hsc
    obtain ⟨rfl, rfl⟩ := hx
    (try k_fold)
    k_steps
    rename_i T9 h8 F7 N7 l9 kF kN Tc kX
    exact hret l T9 vs t2 _ c _ _ (by assumption) kF kN ⟨Nat.ne_of_lt l9.1, off1_allLt l9.2⟩ l2
end Mine
end

section
open PySem PySem.W PyProof.Rows PySem.Calls Builtin Builtin.ObjectAttr
set_option maxRecDepth 100000
set_option maxHeartbeats 4000000
namespace Mine

/-- the fault's object, ahead of a dict of its own (none) or with it -/
abbrev faultO (d : Option Addr) (vs : Array Value) : Obj := { cls := .ref 44, dict := d, data := .fields vs }
abbrev msgDict (hs : Int) (tk : Tok) (v : Value) : Obj := { cls := .type "dict", data := .dict #[⟨hs, .str (Str.ofString "message") tk, v⟩] 1 }
abbrev faultMro : List Value := [.ref 44, .ref 31, .type "Exception", .type "BaseException", .type "object"]

theorem refuse_fault (self : Value) : refuseLoop self "__setattr__" faultMro = pure () := by
  rw [refuseLoop_ref, refuseLoop_ref]
  exact PySem.F.store_Exception.passes self

section
variable {w : World} {A : Around} {E : Value → Shared → Prop} {s : Shared} {h₀ : Heap} {L e : Addr} {m : Str → Option Value} {rest : List (Addr × Obj)} {vs : Array Value} {v : Value} {Q : Unit → Shared → Prop}

theorem k44 {h : Heap} (_ : (Mine.hd.heap_39 w.params).In h) : clsIn (Mine.hd.heap_39 w.params) 44 = some { name := Str.ofString "SheetFault", bases := [.ref 31], mro := faultMro, ns := 43, qualname := Str.ofString "SheetFault" } := rfl

theorem set_msg (F : Fr h₀ L s.heap m) (X₀ : (Mine.hd.heap_39 w.params).In h₀) (N : News h₀ L s.heap ((e, faultO none vs) :: rest)) (hr : ∀ p ∈ rest, p.1 ≠ e)
    (hQ : ∀ h' dx hs tk tk', Fr h₀ L h' m → News h₀ L h' ((e, faultO (some dx) vs) :: (dx, msgDict hs tk v) :: rest) → dx ≠ e → (∀ p ∈ rest, p.1 ≠ dx) → Q () { s with heap := h', toks := tk' }) :
    wpAny (model PySem.Challenge.rw_xm0706_01.row.prog w) A (setAttr (.ref e) (Str.ofString "message") v) Q E s := by
  obtain ⟨hp, g, d, t, os⟩ := s
  dsimp only at F N hQ
  have X := X₀.keeps F.keep
  have he : hp.get? e = some (faultO none vs) := (N _ (List.mem_cons_self ..)).1
  have I : PySem.W.InstAt hp e (faultO none vs) 44 none := ⟨he, rfl, rfl, trivial⟩
  refine set_plain X I (by kernel_rfl) ?_
  have SF := PySem.F.store_Exception
  have Im : Looks (model PySem.Challenge.rw_xm0706_01.row.prog w) hp (mroOf (.ref 44)) faultMro := (looks_clsIn X (k44 X)).andThen .now
  have sub : Looks (model PySem.Challenge.rw_xm0706_01.row.prog w) hp (isInstance (.ref e) (.type "object")) true := I.type.andThen (looks_mroIn X (by kernel_rfl))
  refine codeAny_call_builtin SF.slot.plain SF.entry (@check_slot (model PySem.Challenge.rw_xm0706_01.row.prog w) _ _ _ "object.__setattr__" "object" "__setattr__" (.ref e) [.str (Str.ofString "message") t, v] [] _ SF.kind SF.split sub (SF.args (.ref e) (.str (Str.ofString "message") t) v) ?_)
  rw [osa_eq, refuse_eq]
  refine wpAny_bind (wpAny_bind (I.type.at (wpAny_bind (Im.at ?_))))
  rw [refuse_fault]
  refine wpAny_pure (wpAny_bind (I.type.at (wpAny_bind ((looks_findIn X (r := none) (by kernel_rfl)).at (wpAny_bind (Looks.now.at ?_))))))
  show wpAny _ _ (storeInOwnDict (.ref e) (.ref 44) _ _ _ false) _ _ _
  unfold storeInOwnDict ownDictForStores instanceDict
  refine wpAny_bind (wpAny_pure (wpAny_bind (wpAny_bind (wpAny_loadPart he (wpAny_bind ((looks_clsIn X (k44 X)).at ?_))))))
  have hne : hp.objs.size ≠ e := Nat.ne_of_gt (Heap.lt_size he)
  have he1 : (hp.push { cls := .type "dict", data := .dict #[] }).get? e = some (faultO none vs) := Heap.get?_push_of_some _ he
  refine wpAny_bind (wpAny_alloc' (wpAny_bind (wpAny_update' he1 (wpAny_pure ?_))))
  have hgd : ((hp.push { cls := .type "dict", data := .dict #[] }).update e fun o => { cls := o.cls, dict := some hp.objs.size, data := o.data, slots := o.slots }).get? hp.objs.size = some { cls := .type "dict", data := .dict #[] } :=
    (Heap.get?_update_other _ _ (Ne.symm hne)).trans (Heap.get?_push_size _ rfl)
  show wpAny _ _ (storeInDict hp.objs.size _ _ v) _ _ _
  unfold storeInDict newKeyGuard nsSet
  refine wpAny_bind (wpAny_pure (wpAny_bind (wpAny_bind (wpAny_bind (wpAny_askSetting (wpAny_pure (wpAny_bind (wpAny_mkText (wpAny_bind (wpAny_loadPart hgd ?_))))))))))
  dsimp only
  refine bm_if_false (by rfl) ?_
  refine wpAny_updatePart hgd ?_
  generalize hK : (if (Str.ofString "message").cps.isEmpty = true then (0 : Int) else _) = hs
  have hgd2 : (((hp.push { cls := .type "dict", data := .dict #[] }).update e fun o => { cls := o.cls, dict := some hp.objs.size, data := o.data, slots := o.slots }).update hp.objs.size (Obj.putName (Str.ofString "message") hs (.str (Str.ofString "message") (t + 1)) v)).get? hp.objs.size = some (msgDict hs (t + 1) v) :=
    Heap.get?_update_self _ hgd rfl
  have he2 : (((hp.push { cls := .type "dict", data := .dict #[] }).update e fun o => { cls := o.cls, dict := some hp.objs.size, data := o.data, slots := o.slots }).update hp.objs.size (Obj.putName (Str.ofString "message") hs (.str (Str.ofString "message") (t + 1)) v)).get? e = some (faultO (some hp.objs.size) vs) :=
    (Heap.get?_update_other _ _ hne).trans (Heap.get?_update_self _ he1 rfl)
  refine wpAny_bind (wpAny_lookBehind hgd2 rfl (wpAny_pure ?_))
  have hsz : ∀ p ∈ rest, p.1 ≠ hp.objs.size := fun p hp9 => Nat.ne_of_lt (Heap.lt_size (N p (List.mem_cons_of_mem _ hp9)).1)
  refine hQ _ hp.objs.size hs (t + 1) _ ?_ ?_ hne hsz
  · exact ((F.push _).change (Heap.SameBut.update ..) (N _ (List.mem_cons_self ..)).2.1 (N _ (List.mem_cons_self ..)).2.2).change (Heap.SameBut.update ..) (Nat.ne_of_gt F.ns.lt) (next_is_new F)
  · intro p hp9
    rcases List.mem_cons.mp hp9 with rfl | hp9
    · exact ⟨he2, (N _ (List.mem_cons_self ..)).2⟩
    · rcases List.mem_cons.mp hp9 with rfl | hp9
      · exact ⟨hgd2, Nat.ne_of_gt F.ns.lt, next_is_new F⟩
      · have z := N p (List.mem_cons_of_mem _ hp9)
        exact ⟨(Heap.get?_update_other _ _ (Ne.symm (hsz p hp9))).trans ((Heap.get?_update_other _ _ (Ne.symm (hr p hp9))).trans (Heap.get?_push_of_some _ z.1)), z.2⟩
end
end Mine
end

section
open PySem PySem.W PyProof.Rows PySem.Calls Builtin Builtin.ObjectAttr
set_option maxRecDepth 100000
set_option maxHeartbeats 400000
namespace Mine
section
variable {w : World} {A : Around} {E : Value → Shared → Prop} {s : Shared} {h₀ : Heap} {L e : Addr} {m : Str → Option Value} {rest : List (Addr × Obj)} {vs : Array Value} {v : Value} {Q : Unit → Shared → Prop}

theorem get_msg {x : Addr} {oe : Obj} {dx : Addr} {hs : Int} {tk : Tok} {ws : Array Value} {expr : Bool} {Q : Value → Shared → Prop} (X : (Mine.hd.heap_39 w.params).In s.heap) (he : s.heap.get? x = some oe) (hc : oe.cls = .ref 44) (hd : oe.dict = some dx) (hdt : oe.data = .fields ws)
    (hx : s.heap.get? dx = some (msgDict hs tk v)) (hv : handedIn v = true)
    (hQ : Q v { s with toks := s.toks + 1 }) : wpAny (model PySem.Challenge.rw_xm0706_01.row.prog w) A (getAttr (.ref x) (Str.ofString "message") expr) Q E s := by
  obtain ⟨hp, g, d, t, os⟩ := s
  obtain ⟨oc, od, oda, osl⟩ := oe
  dsimp only at X he hx hQ hc hd hdt
  subst hc hd hdt
  have I : PySem.W.InstAt hp x ⟨.ref 44, some dx, .fields ws, osl⟩ 44 (some (msgDict hs tk v)) := ⟨he, rfl, rfl, hx⟩
  have L0 : Looks (model PySem.Challenge.rw_xm0706_01.row.prog w) hp (typeOf (.ref x)) (.ref 44) := I.type
  have L1 : Looks (model PySem.Challenge.rw_xm0706_01.row.prog w) hp (typeLookup (.ref 44) (Str.ofString "__getattribute__")) (some (.builtin "BaseException.__getattribute__")) := looks_findIn X (by kernel_rfl)
  have L2 : Looks (model PySem.Challenge.rw_xm0706_01.row.prog w) hp (typeLookup (.ref 44) (Str.ofString "__getattr__")) none := looks_findIn X (by kernel_rfl)
  have L3 : Looks (model PySem.Challenge.rw_xm0706_01.row.prog w) hp (find (.ref x) (.ref 44) (Str.ofString "message")) (.value v) := looks_find X I (by kernel_rfl)
  have f3 := PySem.F.attr_Exception.ga.bind (.ref x)
  have hx0 : (expr && onTheHeap (Value.builtin "BaseException.__getattribute__")) = false := by cases expr <;> rfl
  have hx2 : (Value.builtin "BaseException.__getattribute__" == Value.builtin "object.__getattribute__") = false := by decide +kernel
  have hx1 : (onTheHeap (Value.ref 44) && Value.builtin "BaseException.__getattribute__" == Value.builtin "object.__getattribute__") = false := by rw [hx2]; rfl
  unfold getAttr
  refine wpAny_bind (wpAny_mkText ?_)
  show wpAny _ _ (getAttrBy _ _ _ _) _ _ _
  repeat (any_goals (first | assumption | with_reducible refine Looks.at L0 ?_ | with_reducible refine Looks.at L1 ?_ | with_reducible refine Looks.at L2 ?_ | wp_step))
  have sub : Looks (model PySem.Challenge.rw_xm0706_01.row.prog w) hp (isInstance (.ref x) (.type "BaseException")) true := I.type.andThen (looks_mroIn X (by kernel_rfl))
  have hkk : builtinKind "BaseException.__getattribute__" = some .slot := by decide +kernel
  have hss : splitId "BaseException.__getattribute__" = some ("BaseException", "__getattribute__") := by decide +kernel
  refine codeAny_call_builtin PySem.F.attr_Exception.ga.plain PySem.F.entry_bexc_ga (@check_slot (model PySem.Challenge.rw_xm0706_01.row.prog w) _ _ _ "BaseException.__getattribute__" "BaseException" "__getattribute__" (.ref x) [.str (Str.ofString "message") t] [] _ hkk hss sub (PySem.F.args_bexc_ga (.ref x) (.str (Str.ofString "message") t)) ?_)
  unfold Builtin.«object.__getattribute__»
  refine wpAny_bind (wpAny_pure (wpAny_bind (wpAny_pure (wpAny_bind (L0.at (wpAny_bind (L3.at ?_)))))))
  refine wpAny_pure ?_
  show wpAny _ _ (handedOut v) _ _ _
  rw [handedOut_of hv]
  exact wpAny_pure hQ
end
end Mine
end

section
open PySem PySem.W PyProof.Rows PySem.Calls Builtin
set_option maxRecDepth 100000
set_option maxHeartbeats 400000
namespace Mine
section
variable {w : World} {A : Around} {E : Value → Shared → Prop} {hp : Heap} {g : Array GenState} {d : Drawn} {t : Nat} {os : OsState} {rest : List Value}

/-- SheetFault's own object, as the class rules read it -/
abbrev cls44 : Obj := excClassObj (Str.ofString "SheetFault") (Str.ofString "SheetFault") 44 43 [.ref 31] [.ref 31, .type "Exception", .type "BaseException", .type "object"] true [] [] false none none (some (.ref 35)) none (some (.str (Str.ofString "SheetFault") 218)) (some (.str (Str.ofString "SheetFault") 226)) (some (.bool true)) "Exception.__new__"
theorem at44 (X : (Mine.hd.heap_39 w.params).In hp) : hp.get? 44 = some cls44 := X 44 _ (by kernel_rfl)

theorem fault_check {M : Model} {Q : Unit → Shared → Prop} (hC : hp.get? 44 = some cls44) (hq : Q () ⟨hp, g, d, t, os⟩) :
    wpAny M A (checkBuiltinCall "Exception.__new__" ⟨.ref 44 :: rest, []⟩) Q E ⟨hp, g, d, t, os⟩ := by
  have F := PySem.F.excBase_Exception
  have hcont : ([.ref 44, .ref 31, .type "Exception", .type "BaseException", .type "object"] : List Value).contains (.type "Exception") = true := by decide
  have hstar := F.noStar
  simp only [checkBuiltinCall, F.newKind, F.newSplit, F.newRow]
  repeat (first | refine wpAny_loadPart_at hC ?_ | (refine wpAny_isSubtype_exc hC ?_; rw [hcont]) | refine wpAny_staticBase_exc hC ?_ | refine wpAny_madeBy_exc hC ?_ | simp only [bne_self_eq_false, Bool.false_eq_true, if_false] | wp_step)
  exact hq

theorem fault_new {R : Result → Shared → Prop} (hC : hp.get? 44 = some cls44) (hrest : rest.length ≤ sizeLine)
    (hq : R (.ok (.ret (.ref (hp.objs.size + 1)))) ⟨(hp.push { cls := .type "tuple", data := .seq rest.toArray }).push { cls := .ref 44, data := .fields #[.ref hp.objs.size, .none, .none, .none, .bool false, .none] }, g, d, t, os⟩) :
    codeAny (model PySem.Challenge.rw_xm0706_01.row.prog w) A (.builtin "Exception.__new__" ⟨.ref 44 :: rest, []⟩) R ⟨hp, g, d, t, os⟩ := by
  have F := PySem.F.excBase_Exception
  have hends := F.ends
  have hcB : ([.ref 44, .ref 31, .type "Exception", .type "BaseException", .type "object"] : List Value).contains (.type "Exception") = true := by decide
  have hcA : ([.ref 44, .ref 31, .type "Exception", .type "BaseException", .type "object"] : List Value).contains (.type "AttributeError") = false := by decide
  have hcN : ([.ref 44, .ref 31, .type "Exception", .type "BaseException", .type "object"] : List Value).contains (.type "NameError") = false := by decide
  refine codeAny_builtinAt F.entry ?_
  unfold Builtin.«BaseException.__new__»
  refine PySem.wpAt_bind ?_
  show PySem.wpAt _ _ _ (stack >>= _) _ _ _
  refine PySem.wpAt_bind (PySem.wpAt_stack fun p below => PySem.wpAt_of_wpAny ?_)
  wp_walk
  refine PySem.wpAt_of_wpAny ?_
  rw [F.owner]
  repeat (first | with_reducible refine wpAny_madeHere_exc F.canon hC ?_ | with_reducible refine wpAny_loadPart_at hC ?_ | (with_reducible refine wpAny_isSubtype_exc hC ?_; first | rw [hcB] | rw [hcA] | rw [hcN]) | wp_step)
  show R _ _
  rw [Heap.size_push]
  exact hq
end
end Mine
end

section
open PySem PySem.W PyProof.Rows PySem.Calls Builtin
set_option maxRecDepth 100000
set_option maxHeartbeats 400000
namespace Mine
section
variable {w : World} {A : Around} {E : Value → Shared → Prop} {hp : Heap} {g : Array GenState} {d : Drawn} {t : Nat} {os : OsState} {rest : List Value}

theorem fault_typeCall {Q : PySem.Fin → Shared → Prop} (X : (Mine.hd.heap_39 w.params).In hp) (hrest : rest.length ≤ sizeLine)
    (hq : ∀ h' e, Heap.MadeExcOf hp h' e (.ref 44) rest →
      wpAny (model PySem.Challenge.rw_xm0706_01.row.prog w) A (call (.ref 28) (.ref e :: rest)) (fun r s' => r = .none ∧ Q (.done (.ret (.ref e))) s') E ⟨h', g, d, t, os⟩) :
    wpAny (model PySem.Challenge.rw_xm0706_01.row.prog w) A (Builtin.«type.__call__» ⟨.ref 44 :: rest, []⟩) Q E ⟨hp, g, d, t, os⟩ := by
  have F := PySem.F.excBase_Exception
  have hC := at44 X
  repeat (first | with_reducible refine wpAny_loadPart_at hC ?_ | with_reducible refine wpAny_madeBy_exc hC ?_ | wp_step)
  refine codeAny_call_builtin_code (Code.quiet_builtin _ F.quiet) (fault_check hC ?_)
  refine fault_new hC hrest ?_
  show wpAny _ _ _ _ _ _
  have up : ∀ b o, hp.get? b = some o → ((hp.push { cls := .type "tuple", data := .seq rest.toArray }).push { cls := .ref 44, data := .fields #[.ref hp.objs.size, .none, .none, .none, .bool false, .none] }).get? b = some o :=
    fun b o e => Heap.get?_push_of_some _ (Heap.get?_push_of_some _ e)
  have hC₁ := up _ _ hC
  have X₁ := X.keeps up
  have hfind : findIn (Mine.hd.heap_39 w.params) (.ref 44) (Str.ofString "__init__") = some (some (.ref 28)) := by kernel_rfl
  have hty : typeIn (Mine.hd.heap_39 w.params) (.ref 28) = some (.type "function") := by kernel_rfl
  have Li := looks_findIn (M := model PySem.Challenge.rw_xm0706_01.row.prog w) X₁ hfind
  have Lt := looks_typeIn (M := model PySem.Challenge.rw_xm0706_01.row.prog w) X₁ hty
  have hget : ((hp.push { cls := .type "tuple", data := .seq rest.toArray }).push { cls := .ref 44, data := .fields #[.ref hp.objs.size, .none, .none, .none, .bool false, .none] }).get? (hp.objs.size + 1) = some
      { cls := .ref 44, data := .fields #[.ref hp.objs.size, .none, .none, .none, .bool false, .none] } := by heap_get
  have hcC : ([.ref 44, .ref 31, .type "Exception", .type "BaseException", .type "object"] : List Value).contains (.ref 44) = true := by decide
  unfold isInstance
  repeat (first | with_reducible refine wpAny_loadPart_at hget ?_ | (with_reducible refine wpAny_isSubtype_exc hC₁ ?_; rw [hcC]) | wp_step)
  show wpAny _ _ (typeLookup (.ref 44) _) _ _ _
  refine Li.at ?_
  refine wpAny_holding (wpAny_bind ?_)
  unfold bindSpecial
  refine wpAny_bind (Lt.at ?_)
  rw [if_pos (by decide)]
  refine wpAny_pure (wpAny_bind (wpAny_mono (hq _ (hp.objs.size + 1) ⟨up, Heap.get?_none_of_le (Nat.le_succ _), hp.objs.size, hget, Heap.get?_none_of_le (Nat.le_refl _), ?_⟩) (fun r s' hr => ?_) fun _ _ x => x))
  · exact Heap.get?_push_of_some _ (Heap.get?_push_at rfl rfl)
  · obtain ⟨rfl, hQ⟩ := hr
    wp_walk
    exact hQ

theorem fault_call {Q : Value → Shared → Prop} (X : (Mine.hd.heap_39 w.params).In hp) (hrest : rest.length ≤ sizeLine)
    (hq : ∀ h' e, Heap.MadeExcOf hp h' e (.ref 44) rest →
      wpAny (model PySem.Challenge.rw_xm0706_01.row.prog w) (A.under (.builtin "type.__call__" ⟨.ref 44 :: rest, []⟩)) (call (.ref 28) (.ref e :: rest)) (fun r s' => r = .none ∧ Q (.ref e) s') E ⟨h', g, d, t, os⟩) :
    wpAny (model PySem.Challenge.rw_xm0706_01.row.prog w) A (call (.ref 44) rest) Q E ⟨hp, g, d, t, os⟩ := by
  have hC := at44 X
  have f1 := tc_lookup
  have f2 := tc_bind (.ref 44)
  have hT : (⟨hp, g, d, t, os⟩ : Shared).TypeIs (.ref 44) "type" := ⟨_, hC, rfl⟩
  refine wpAny_call (codeAny_of_tree ?_)
  show wpAny _ _ (callAny (.ref 44) _) _ _ _
  repeat (any_goals (first | assumption | with_reducible refine wpAny_loadPart_at hC ?_ | wp_step))
  refine ⟨rfl, ?_⟩
  refine codeAny_call_builtin_at (Code.quiet_builtin _ (by decide +kernel)) entry_typeCall (wpAny_check_type_call_sub hC (fault_typeCall X hrest fun h' e hm => ?_))
  exact hq h' e hm
end
end Mine
end

section
open PySem PySem.W PyProof.Rows PySem.Calls
set_option maxRecDepth 100000
set_option maxHeartbeats 400000
namespace Mine
section
variable {w : World} {A : Around} {E : Value → Shared → Prop} {s : Shared} {env : Env}

/-- a fault that is ready to be raised -/
def Ready (w : World) (E : Value → Shared → Prop) (v : Value) (s₁ : Shared) : Prop :=
  ∃ a ob vs, (Mine.hd.heap_39 w.params).In s₁.heap ∧ v = .ref a ∧ s₁.heap.get? a = some ob ∧ ob.cls = .ref 44 ∧ ob.data = .fields vs ∧ vs[1]? = some .none ∧ E (.ref a) s₁

theorem raise_fault {e : Expr} {pos : Pos} {Q : Flow → Shared → Prop} (hh : A.handled = none)
    (h : wpAny (model PySem.Challenge.rw_xm0706_01.row.prog w) A (eval e env) (Ready w E) E s) : wpAny (model PySem.Challenge.rw_xm0706_01.row.prog w) A (exec (.Raise (some e) none pos) env) Q E s := by
  show wpAny (model PySem.Challenge.rw_xm0706_01.row.prog w) A (do standAt pos; raiseStmt env (some (do let v ← eval e env; standAt pos; pure v)) none) Q E s
  refine wpAny_bind (wpAny_standAt ?_)
  unfold raiseStmt
  dsimp only
  refine wpAny_bind (wpAny_bind (wpAny_mono h (fun v s₁ h₁ => wpAny_bind (wpAny_standAt (wpAny_pure ?_))) fun _ _ x => x))
  obtain ⟨a, ob, vs, X, rfl, ha, hcls, hd, h1, hE⟩ := h₁
  obtain ⟨hp, g, d, t, os⟩ := s₁
  dsimp only at X ha
  have Lt : Looks (model PySem.Challenge.rw_xm0706_01.row.prog w) hp (typeOf (.ref a)) (.ref 44) := hcls ▸ (Looks.ld ha).andThen .now
  have sub : Looks (model PySem.Challenge.rw_xm0706_01.row.prog w) hp (isInstance (.ref a) (.type "BaseException")) true := Lt.andThen (looks_mroIn X (by kernel_rfl))
  have Lm : Looks (model PySem.Challenge.rw_xm0706_01.row.prog w) hp (typeOf (.ref 44)) (.type "type") := looks_typeIn X (by kernel_rfl)
  have hnt : ∀ {Q' : Bool → Shared → Prop}, Q' false ⟨hp, g, d, t, os⟩ → wpAny (model PySem.Challenge.rw_xm0706_01.row.prog w) A (isType (.ref a)) Q' E ⟨hp, g, d, t, os⟩ := by
    intro Q' hq
    simp only [isType, loadHead]
    refine wpAny_bind (wpAny_loadPart ha ?_)
    rw [hd]; exact wpAny_pure hq
  refine wpAny_bind (wpAny_pure ?_)
  dsimp only
  refine wpAny_bind (wpAny_holding ?_)
  unfold excFromValue isExcClass
  refine wpAny_bind (wpAny_bind (hnt ?_))
  simp only [Bool.false_eq_true, if_false]
  refine wpAny_pure ?_
  simp only [Bool.false_eq_true, if_false]
  refine wpAny_bind (sub.at ?_)
  simp only [if_true]
  refine wpAny_pure ?_
  refine wpAny_bind (hnt ?_)
  simp only [Bool.false_eq_true, if_false]
  unfold raisedInstance
  refine wpAny_bind (wpAny_bind (Lt.at (wpAny_bind (Lm.at ?_))))
  rw [if_pos (by decide)]
  refine wpAny_pure ?_
  unfold setFlight raiseNew
  refine wpAny_bind (wpAny_bind (wpAny_field ha hd h1 ?_))
  rw [if_neg (by decide)]
  refine wpAny_pure (wpAny_bind (wpAny_handled ?_))
  rw [hh]
  first
    | exact wpAny_throw hE
    | exact wpAny_bind (wpAny_pure (wpAny_throw hE))
end

/-- where the exception's trace stands: the object, its class and dict, its first entry with the flight mark -/
def Tr (B : Heap) (e : Addr) (dx : Addr) (fl : Value) (h : Heap) : Prop :=
  ∃ oe vs T oT ts, h.get? e = some oe ∧ oe.cls = .ref 44 ∧ oe.dict = some dx ∧ oe.data = .fields vs ∧ vs[1]? = some (.ref T) ∧ B.get? T = none ∧ T ≠ e ∧ h.get? T = some oT ∧ oT.data = .fields ts ∧ ts[3]? = some fl
/-- it flies above `B`, through the frames `l` -/
def Fly (B : Heap) (l : List Env) (e dx : Addr) (fl : Value) (h : Heap) : Prop := B.StaysIn h ∧ B.get? e = none ∧ h.FunFrames B l ∧ Tr B e dx fl h

section
variable {M : Model} {A : Around} {E : Value → Shared → Prop} {s : Shared} {B : Heap} {env : Env} {outer l : List Env} {L e dx : Addr} {oe : Obj} {vs : Array Value} {head fl : Value} {hadNext : Bool} {Q : Unit → Shared → Prop}

theorem fly_entry (hfr : A.frames = some (env :: outer)) (hl : s.heap.FunFrames B (env :: outer)) (hf : env.frame = some L)
    (he : s.heap.get? e = some oe) (hkb : B.StaysIn s.heap) (hen : B.get? e = none) (hc : oe.cls = .ref 44) (hdx : oe.dict = some dx) (hd : oe.data = .fields vs) (hsz : 1 < vs.size)
    (h : ∀ h', Fly B (env :: outer) e dx (rawInt L) h' → s.heap.UpToSlots h' → Q () { s with heap := h' }) :
    wpAny M A (do let a ← frameOf env; let pl ← entryPlaceOf L hadNext; let b ← EntryCells.newEntry head a .none (rawInt L) .none pl; setField (.ref e) 1 b) Q E s := by
  have hene : e ∉ (env :: outer).filterMap (·.frame) := fun hm => by
    obtain ⟨_, o, ho, hnf⟩ := hl.mem hm
    rw [he] at ho; cases ho; exact hnf vs hd
  refine wpAny_bind (wpAny_frameOf_fun hfr hl hf fun h₁ hs₁ => ?_)
  refine wpAny_bind (wpAny_entryPlaceOf fun pl hpl => ?_)
  unfold EntryCells.newEntry newFields
  refine wpAny_bind (wpAny_newObj_type ?_ (hpl.sizeOk5 _ _ _ _ _))
  have he₁ : h₁.get? e = some oe := (hs₁.2.1 e hene).trans he
  generalize hTo : ({ cls := .type "traceback", dict := none, data := .fields ([head, .ref L, .none, rawInt L, .none] ++ (if pl.isEmpty then List.replicate 6 Value.none else pl)).toArray } : Obj) = oT
  have hfT : oT.isFreed = false := by rw [← hTo]; rfl
  have hdT : ∃ ts, oT.data = .fields ts ∧ ts[3]? = some (rawInt L) := by
    rw [← hTo]
    exact ⟨_, rfl, by first | (simp; done) | (rcases hpl with rfl | ⟨_, _, _, _, _, _, _, rfl⟩ <;> simp)⟩
  have he₂ := Heap.get?_push_of_some oT he₁
  refine wpAny_setField he₂ hd hsz (h _ ?_ ?_)
  · have hTe : h₁.objs.size ≠ e := Nat.ne_of_gt (Heap.lt_size he₁)
    obtain ⟨oc, od, oda, osl⟩ := oe
    dsimp only at hc hdx hd
    subst hc hdx hd
    have he₃ : ((h₁.push oT).update e (Obj.mapFields (·.setIfInBounds 1 (Value.ref h₁.objs.size)))).get? e = some ⟨.ref 44, some dx, .fields (vs.setIfInBounds 1 (Value.ref h₁.objs.size)), osl⟩ := Heap.get?_update_self _ he₂ rfl
    have hT₃ : ((h₁.push oT).update e (Obj.mapFields (·.setIfInBounds 1 (Value.ref h₁.objs.size)))).get? h₁.objs.size = some oT := (Heap.get?_update_other _ _ (Ne.symm hTe)).trans (Heap.get?_push_size h₁ hfT)
    have kb₁ : B.StaysIn h₁ := fun b o hbo => (hs₁.2.1 b fun hm => by rw [(hl.mem hm).1] at hbo; cases hbo).trans (hkb b o hbo)
    have keep : ∀ b o, b ≠ e → h₁.get? b = some o → ((h₁.push oT).update e (Obj.mapFields (·.setIfInBounds 1 (Value.ref h₁.objs.size)))).get? b = some o :=
      fun b o hbe hb => (Heap.get?_update_other _ _ (Ne.symm hbe)).trans (Heap.get?_push_of_some _ hb)
    have hBT : B.get? h₁.objs.size = none := by
      cases q : B.get? h₁.objs.size with
      | none => rfl
      | some o => exact absurd (Heap.lt_size (kb₁ _ o q)) (Nat.lt_irrefl _)
    obtain ⟨ts, hts, h3⟩ := hdT
    refine ⟨fun b o hbo => keep b o (fun q => by rw [q, hen] at hbo; cases hbo) (kb₁ b o hbo), hen, hl.of_keeps fun b o hb hnf => ?_, ⟨_, _, h₁.objs.size, oT, ts, he₃, rfl, rfl, rfl, by simp [hsz], hBT, hTe, hT₃, hts, h3⟩⟩
    obtain ⟨sl, hs⟩ := hs₁.2.2 b o hb
    exact ⟨_, keep b _ (fun q => by rw [q, he] at hb; cases hb; exact hnf vs rfl) hs, rfl⟩
  · intro b o hb hnf
    obtain ⟨sl, hs⟩ := hs₁.2.2 b o hb
    exact ⟨sl, (Heap.get?_update_other _ _ (fun q : e = b => by rw [← q, he] at hb; cases hb; exact hnf vs hd)).trans (Heap.get?_push_of_some _ hs)⟩

theorem fly_flight (hl : Fly B l e dx fl s.heap) (h : ∀ h', Fly B l e dx .none h' → s.heap.UpToSlots h' → Q () { s with heap := h' }) : wpAny M A (setFlight (.ref e) none) Q E s := by
  obtain ⟨hkb, hen, hff, oe, vs, T, oT, ts, he, hc, hdx, hd, h1, hnT, hTe, hT, hdT, h3⟩ := hl
  have other : ∀ b, b ≠ T → (s.heap.update T (Obj.mapFields (·.setIfInBounds 3 ((none : Option Addr).elim Value.none fun f => rawInt f)))).get? b = s.heap.get? b := fun b hb => Heap.get?_update_other _ _ (Ne.symm hb)
  have notT : ∀ b o, s.heap.get? b = some o → (∀ vs, o.data ≠ .fields vs) → b ≠ T := fun b o hb hnf q => by rw [q, hT] at hb; cases hb; exact hnf ts hdT
  unfold setFlight
  refine wpAny_bind (wpAny_field he hd h1 ?_)
  rw [if_pos (show (Value.ref T != Value.none) = true from by simp)]
  have hsz3 := (Array.getElem?_eq_some_iff.mp h3).1
  refine wpAny_setField hT hdT hsz3 (h _ ⟨fun b o hbo => (other b fun q => by rw [q, hnT] at hbo; cases hbo).trans (hkb b o hbo), hen, hff.of_keeps fun b o hb hnf => ⟨o, (other b (notT b o hb hnf)).trans hb, rfl⟩, ?_⟩ fun b o hb hn => ⟨o.slots, (other b (notT b o hb hn)).trans hb⟩)
  exact ⟨oe, vs, T, _, _, (other e (Ne.symm hTe)).trans he, hc, hdx, hd, h1, hnT, hTe, Heap.get?_update_self _ hT (Obj.isFreed_of_fields (Obj.data_mapFields hdT _)), Obj.data_mapFields hdT _, by simp [hsz3]⟩

/-- the first frame that it leaves -/
theorem fly_first (hfr : A.frames = some (env :: outer)) (hl : s.heap.FunFrames B (env :: outer)) (hf : env.frame = some L)
    (he : s.heap.get? e = some oe) (hkb : B.StaysIn s.heap) (hen : B.get? e = none) (hc : oe.cls = .ref 44) (hdx : oe.dict = some dx) (hd : oe.data = .fields vs) (h1 : vs[1]? = some .none)
    (h : ∀ h', Fly B (env :: outer) e dx .none h' → s.heap.UpToSlots h' → Q () { s with heap := h' }) : wpAny M A (leaving env (.ref e)) Q E s := by
  unfold leaving noteFrame
  simp only [hf]
  refine wpAny_bind (wpAny_bind (wpAny_field he hd h1 ?_))
  rw [if_neg (by decide)]
  refine fly_entry hfr hl hf he hkb hen hc hdx hd (Array.getElem?_eq_some_iff.mp h1).1 fun h₁ f₁ u₁ => ?_
  exact fly_flight f₁ fun h₂ f₂ u₂ => h h₂ f₂ (u₁.trans u₂)

/-- a further frame notes it -/
theorem fly_note (hfr : A.frames = some (env :: outer)) (hf : env.frame = some L) (hl : Fly B (env :: outer) e dx .none s.heap)
    (h : ∀ h', Fly B (env :: outer) e dx (rawInt L) h' → s.heap.UpToSlots h' → Q () { s with heap := h' }) : wpAny M A (noteFrame (.ref e) env) Q E s := by
  obtain ⟨hkb, hen, hff, oe, vs, T, oT, ts, he, hc, hdx, hd, h1, hnT, hTe, hT, hdT, h3⟩ := hl
  unfold noteFrame
  simp only [hf]
  refine wpAny_bind (wpAny_field he hd h1 ?_)
  rw [if_pos (show (Value.ref T != Value.none) = true from by simp)]
  refine wpAny_bind (wpAny_field hT hdT h3 ?_)
  rw [if_neg (show ¬ ((Value.none == rawInt L) = true) from by simp [rawInt])]
  refine wpAny_bind (wpAny_setField hT hdT (Array.getElem?_eq_some_iff.mp h3).1 ?_)
  have other : ∀ b, b ≠ T → (s.heap.update T (Obj.mapFields (·.setIfInBounds 3 Value.none))).get? b = s.heap.get? b := fun b hb => Heap.get?_update_other _ _ (Ne.symm hb)
  have notT : ∀ b o, s.heap.get? b = some o → (∀ vs, o.data ≠ .fields vs) → b ≠ T := fun b o hb hnf q => by rw [q, hT] at hb; cases hb; exact hnf ts hdT
  refine fly_entry hfr (hff.of_keeps fun b o hb hnf => ⟨o, (other b (notT b o hb hnf)).trans hb, rfl⟩) hf ((other e (Ne.symm hTe)).trans he)
    (fun b o hbo => (other b fun q => by rw [q, hnT] at hbo; cases hbo).trans (hkb b o hbo)) hen hc hdx hd (Array.getElem?_eq_some_iff.mp h1).1
    fun h' f' u' => h h' f' fun b o hb hnf => u' b o ((other b (notT b o hb hnf)).trans hb) hnf
end
end Mine
end

section
open PySem PySem.W PyProof.Rows
set_option maxRecDepth 100000
set_option maxHeartbeats 8000000
namespace Mine
/-- the text that the fault tells -/
abbrev cutShort : Str := Str.ofString "a picture is cut short"
/-- the exception stands above the frames `env :: outer` and bears its text -/
def Flung (g : Heap) (l : List Env) (e : Addr) (h : Heap) : Prop :=
  ∃ B dx hs tk tm, Fly B l e dx .none h ∧ (∀ b o, g.get? b = some o → b ∉ l.filterMap (·.frame) → B.get? b = some o) ∧ B.get? dx = some (msgDict hs tk (.str cutShort tm))

local macro_rules | `(tactic| k_all) => `(tactic| with_reducible assumption)
local macro_rules | `(tactic| walk_at "exec While Compare cons nil") => `(tactic| (k_here; refine hold ?_))
local macro_rules | `(tactic| walk_at "WhileStep2") => `(tactic| (k_here; refine hold ?_))
local macro_rules | `(tactic| walk_at "exec Raise some none") => `(tactic| (k_here; k_dflt (refine' raise_fault ?h9 ?_; (case h9 => rfl))))
local macro_rules | `(tactic| walk_at "call ref") => `(tactic| (k_here; (with_reducible show wpAny _ _ (PySem.call (Value.ref 44) _) _ _ _); refine hold ?_))

local macro_rules | `(tactic| walk_at "setAttr ref") => `(tactic| (k_here; k_dflt (refine' set_msg ?k1 ?k2 ?k3 ?k4 ?_; (case k1 => k_asm); (case k2 => k_asm); (case k3 => k_asm); (case k4 => assumption)); intro h9 dx9 hs9 tk9 tk9' F9 N9 ne9 off9))

theorem fault_news {h h' g : Heap} {L e : Addr} {m : Str → Option Value} {news : List (Addr × Obj)} {args : List Value} (F : Fr g L h m) (N : News g L h news) (hm : Heap.MadeExcOf h h' e (.ref 44) args) :
    ∃ t, News g L h' ((e, faultO none #[.ref t, .none, .none, .none, .bool false, .none]) :: news) ∧ (∀ p ∈ news, p.1 ≠ e) ∧ e ≠ L := by
  obtain ⟨t, he, _, _⟩ := hm.there
  have hL : e ≠ L := fun q => by
    obtain ⟨o, es, ep, ho, _⟩ := F.ns
    rw [← q, hm.new] at ho; cases ho
  have hg : g.get? e = none := by
    cases q : g.get? e with
    | none => rfl
    | some o => have := F.keep _ _ q; rw [hm.new] at this; cases this
  refine ⟨t, fun p hp => ?_, fun p hp q => ?_, hL⟩
  · rcases List.mem_cons.mp hp with rfl | hp
    · exact ⟨he, hL, hg⟩
    · exact ⟨hm.keeps _ _ (N p hp).1, (N p hp).2⟩
  · have := (N p hp).1
    rw [q, hm.new] at this; cases this

theorem first_below {M : Model} {A₀ : Around} {base g : Heap} {outer : List Env} {L e dx : Addr} {m : Str → Option Value} {name : Str} {scope : Scope} {a : Addr} {cd : Value} {oe : Obj} {vs : Array Value} {Q : Unit → Shared → Prop} {E : Value → Shared → Prop} {s : Shared} {hs : Int} {tk tm : Tok}
    (K : Below A₀ base outer g) (F : Fr g L s.heap m) (hk : scope.kind = .function) (he : s.heap.get? e = some oe) (hd : s.heap.get? dx = some (msgDict hs tk (.str cutShort tm)))
    (hc : oe.cls = .ref 44) (hdx : oe.dict = some dx) (hdt : oe.data = .fields vs) (h1 : vs[1]? = some .none) (eL : e ≠ L) (eg : g.get? e = none) (dL : dx ≠ L) (dg : g.get? dx = none) (ne : dx ≠ e)
    (k : ∀ h', g.UpToSlots h' → Flung g outer e h' → Q () { s with heap := h' }) :
    wpAny M (A₀.deeper (envOf name scope L a cd)) (leaving (envOf name scope L a cd) (.ref e)) Q E s := by
  have K' := K.push (name := name) (scope := scope) (a := a) (cd := cd) F hk
  have hfm : ∀ b ∈ outer.filterMap (·.frame), g.get? b ≠ none := fun b hb q => by
    obtain ⟨_, o, ho, _⟩ := K.frames.mem hb
    rw [q] at ho; cases ho
  refine fly_first (B := hideAll s.heap (e :: (envOf name scope L a cd :: outer).filterMap (·.frame))) K'.stack (funFrames_hide K'.frames fun env q b z => List.mem_cons_of_mem _ (List.mem_filterMap.mpr ⟨env, q, z⟩)) rfl he (fun b o q => of_hideAll _ q) (hideAll_none _ (List.mem_cons_self ..)) hc hdx hdt h1 fun h' fl u => ?_
  obtain ⟨f1, f2, f3, f4⟩ := fl
  obtain ⟨_, _, f5⟩ := f3
  have hB : ∀ b o, s.heap.get? b = some o → b ≠ e → b ≠ L → b ∉ outer.filterMap (·.frame) → (hideAll s.heap (e :: (envOf name scope L a cd :: outer).filterMap (·.frame))).get? b = some o := fun b o q n1 n2 n3 => hideAll_get _ q fun hm => by
    rcases List.mem_cons.mp hm with z | z
    · exact n1 z
    · rcases kts_mem z with z | z
      · exact n2 z
      · exact n3 z
  refine k h' (fun b o q n => u b o (F.keep _ _ q) n) ⟨_, dx, hs, tk, tm, ⟨f1, f2, f5, f4⟩, fun b o q n => hB b o (F.keep _ _ q) (fun z => by rw [z, eg] at q; cases q) (fun z => by rw [z, kts_self F] at q; cases q) n, hB dx _ hd ne dL fun z => hfm _ z dg⟩

theorem read_fail_head (w : World) :
  ∀ (p : Program) (loose : List Str) (mean : ExcName → Option Value) (mg mb : Str → Option Value) (dp un : Nat) (gd : Option (List Code)) (cn : Str) (cs : Scope) (a : Addr) (ccd : Value) (cl : List (Str × Addr)) (outer : List Env) (A₀ : Around) (base h₀ : Heap) (L : Addr) (m : Str → Option Value) (s : Shared) (Q E : Value → Shared → Prop)
    (news : List (Addr × Obj)) (b : Array UInt8) (tb tm : Tok) (ks : List Int) (many : Nat),
    Below A₀ base outer h₀ → Fr h₀ L s.heap m → (Mine.hd.heap_39 w.params).In h₀ → News h₀ L s.heap news → Top p loose mean mg mb h₀ → cs.kind = .function →
    KBw.bInts b = ks → ks.length ≤ 1000 → many ≤ 1000 → scan many ks [] ⟨#[]⟩ 0 = none →
    dp + 3 < recursionLimit → un + 24 < cLine →
    (∀ (g : Heap) (e : Addr) (h' : Heap) (tk' : Nat), Fr h₀ L g m → g.UpToSlots h' → Flung g (envX cn cs L a ccd cl :: outer) e h' → E (.ref e) { s with heap := h', toks := tk' }) →
    wpAny (model PySem.Challenge.rw_xm0706_01.row.prog w) (ktrTop dp un gd cn cs L a ccd cl outer) (call (.ref 53) [.bytes b tb, .int many tm]) Q E s := by
  w_top off
  k_fill
  intro p loose mean mg mb dp un gd cn cs a ccd cl outer A₀ base h₀ L m s Q E news b tb tm ks many B F X N T hk hb hks hmany hscan hd hu hE
  refine wpAny_call ?_
  k_dflt cell_enter
  k_steps
  rename_i g L1 h1 FG B1 X1 T1 tk0 l hA l1 D hB lD hC hD hE1 hF F1 N1
  have l2 : LCg.Off1 l news := off1_lt l1
  refine hold_out (While_inv2 (fun n m1 nx => ∃ (rest : List Int) (ws1 : List Str) (wd : Str) (k : Nat) (vs : List Value) (c : Nat) (t1 t2 : Tok), n = rest.length ∧ rest = ks.drop k ∧ k ≤ ks.length ∧ scan many rest ws1 wd k = none ∧ StrsAre vs ws1 ∧ ws1.length ≤ k ∧ wd.length ≤ k ∧
    nx = (l, { cls := .type "list", data := .seq vs.toArray c }) :: news ∧ m1 (Str.ofString "words") = some (.ref l) ∧ m1 (Str.ofString "word") = some (.str wd t1) ∧ m1 (Str.ofString "at") = some (.int k t2) ∧ m1 (Str.ofString "octets") = some (.bytes b tb) ∧ m1 (Str.ofString "many") = some (.int many tm))
    (n₀ := ks.length) F1 (fun p hp => N1 p (List.mem_cons_of_mem _ hp)) ⟨ks, [], ⟨#[]⟩, 0, [], 0, _, _, rfl, rfl, Nat.zero_le _, hscan, .nil, Nat.zero_le _, Nat.le_refl _, rfl, rfl, rfl, rfl, rfl, rfl⟩ ?_)
  rintro n m1 nx h9 tk9 F9 N9 ⟨rest, ws1, wd, k, vs, c, t1, t2, rfl, hrest, hk1, hsc, hS, hwl, hdl, rfl, e1, e2, e3, e4, e5⟩
  have F8 := fr_kst (ps := [(Str.ofString "words", .ref l), (Str.ofString "word", .str wd t1), (Str.ofString "at", .int k t2), (Str.ofString "octets", .bytes b tb), (Str.ofString "many", .int many tm)]) (by simp only [List.forall_mem_cons, List.not_mem_nil, false_implies, implies_true, and_true]; exact ⟨e1, e2, e3, e4, e5⟩) F9
  clear F9
  by_cases hlt : ws1.length < many
  · cases rest with
    | nil =>
      have hkl : k = ks.length := by
        have : ks.length ≤ k := by
          rcases Nat.lt_or_ge k ks.length with h | h
          · rw [List.drop_eq_getElem_cons h] at hrest; cases hrest
          · exact h
        omega
      (try k_fold)
      k_steps
      · refine hold_out ?_
        refine fault_call (X1.keeps F8.keep) (by rw [PySem.sizeLine_eq]; exact Nat.le_of_ble_eq_true rfl) fun h2 e hm => ?_
        obtain ⟨t9, N2, hoff, hne⟩ := fault_news F8 N9 hm
        have F2 := F8.keeps hm.keeps
        refine wpAny_call ?_
        k_dflt (refine' code_def ?k1 ?k2 ?k3 ?k4 ?k5 ?kA ?kF ?kK ?k6 ?k7 ?k8 ?k9 ?kB ?_ ?c2 ?c3 ?c4 ?c5; (case kA => exact rfl); (case kF => exact rfl); (case kK => exact rfl); (case k1 => k_asm); (case k2 => k_asm); (case k3 => k_asm); (case k4 => k_asm); (case k5 => k_asm); (case k6 => k_is); (case k7 => k_is); (case k8 => ktr_room); (case k9 => exact BindsTo.of_eq rfl); (case c5 => decide); (case kB => exact locs rfl); (case c2 => exact rfl); (case c3 => exact rfl); (case c4 => exact rfl); k_whole; intro g' L' h' FG' F' N' B' X' T'; (try dsimp only); (try k_lift B'); (try k_fold))
        k_steps
        rename_i h9 dx9 hs9 tk9 tk9' F9 N9 ne9 off9 kF kN Tc' kX
        have he := (kN _ (List.mem_cons_self ..)).1
        have hdx := (kN _ (List.mem_cons_of_mem _ (List.mem_cons_self ..)))
        refine ⟨e, _, _, X1.keeps kF.keep, rfl, he, rfl, rfl, rfl, ?_⟩
        show wpAny _ _ (leaving _ _) _ _ _
        refine first_below B1 kF rfl he hdx.1 rfl rfl rfl rfl (kN _ (List.mem_cons_self ..)).2.1 (kN _ (List.mem_cons_self ..)).2.2 hdx.2.1 hdx.2.2 ne9 fun h' u fl => hE g e h' _ FG u fl
      · exfalso
        omega
    | cons kc r =>
      have hkl : k < ks.length := by
        rcases Nat.lt_or_ge k ks.length with h | h
        · exact h
        · rw [List.drop_eq_nil_of_le h] at hrest; cases hrest
      have hkr : ks.drop (k + 1) = r := by
        rw [List.drop_eq_getElem_cons hkl] at hrest; exact (List.cons.inj hrest).2.symm
      have hkc : ks.getD k 0 = kc := by
        rw [List.drop_eq_getElem_cons hkl] at hrest
        rw [List.getD_eq_getElem?_getD, List.getElem?_eq_getElem hkl]; exact (List.cons.inj hrest).1.symm
      (try k_fold)
      k_steps
      · exfalso
        omega
      · (rename (0 ≤ List.getD _ _ _) => hlo); (rename (List.getD _ _ _ < 256) => hhi); (rename ((Builtin.Str.occurrences _ _ _ _ _).isEmpty = _) => hocc); (rename Fr _ _ _ _ => FZ); (rename News _ _ _ _ => NZ); (rename (Str.length _ + Str.length _ ≤ _ ∧ _) => hlen)
        rw [Int.toNat_natCast, hkc] at hlo hhi hocc FZ hlen
        rw [occ_blank hlo hhi] at hocc
        have hB : isB kc = false := by simpa using hocc
        refine hold_out ⟨_, _, _, _, r.length, rfl, FZ, NZ, Nat.lt_succ_self _, r, ws1, wd ++ ⟨#[kc.toNat]⟩, k + 1, vs, c, _, _, rfl, hkr.symm, hkl, ?_, by assumption, by omega, ?_, rfl, rfl, rfl, rfl, rfl, rfl⟩
        · simpa [scan, hlt, hB] using hsc
        · have h1 : Str.length ⟨#[kc.toNat]⟩ = 1 := rfl
          omega
      · (rename (0 ≤ List.getD _ _ _) => hlo); (rename (List.getD _ _ _ < 256) => hhi); (rename ((Builtin.Str.occurrences _ _ _ _ _).isEmpty = _) => hocc); (rename Fr _ _ _ _ => FZ); (rename News _ _ _ _ => NZ); (rename ((_ != Str.ofString "") = _) => hwd)
        rw [Int.toNat_natCast, hkc] at hlo hhi hocc FZ
        rw [occ_blank hlo hhi] at hocc
        have hB : isB kc = true := by simpa using hocc
        have hW : wd ≠ ⟨#[]⟩ := by
          intro hc
          rw [hc] at hwd
          exact absurd hwd (by decide)
        refine hold_out ⟨_, _, _, _, r.length, rfl, FZ, NZ, Nat.lt_succ_self _, r, ws1 ++ [wd], ⟨#[]⟩, k + 1, vs ++ [.str wd t1], c + 1, _, _, rfl, hkr.symm, hkl, ?_, strs_append (by assumption) (.cons _ _ .nil), by rw [List.length_append]; exact Nat.succ_le_succ hwl, Nat.zero_le _, by rw [← List.push_toArray], rfl, rfl, rfl, rfl, rfl⟩
        simpa [scan, hlt, hB, hW] using hsc
      · (rename (0 ≤ List.getD _ _ _) => hlo); (rename (List.getD _ _ _ < 256) => hhi); (rename ((Builtin.Str.occurrences _ _ _ _ _).isEmpty = _) => hocc); (rename Fr _ _ _ _ => FZ); (rename News _ _ _ _ => NZ); (rename ((_ != Str.ofString "") = _) => hwd)
        rw [Int.toNat_natCast, hkc] at hlo hhi hocc FZ
        rw [occ_blank hlo hhi] at hocc
        have hB : isB kc = true := by simpa using hocc
        have hW : wd = ⟨#[]⟩ := by
          have : wd = Str.ofString "" := by simpa using hwd
          rw [this]; rfl
        refine hold_out ⟨_, _, _, _, r.length, rfl, FZ, NZ, Nat.lt_succ_self _, r, ws1, wd, k + 1, vs, c, _, _, rfl, hkr.symm, hkl, ?_, by assumption, by omega, by omega, rfl, rfl, rfl, rfl, rfl, rfl⟩
        simpa [scan, hlt, hB, hW] using hsc
  · exfalso
    cases rest <;> simp [scan, hlt] at hsc
end Mine
end

section
open PySem PySem.W PyProof.Rows PySem.Calls
set_option maxRecDepth 100000
set_option maxHeartbeats 1000000
namespace Mine
/-- the way out of a def that may have let an exception mark its caller's frame -/
def LeaveT (fs : List Addr) (h₀ : Heap) (L : Addr) (m : Str → Option Value) (g : Heap) (R : Result → Shared → Prop) (v : Value) (s' : Shared) : Prop :=
  ∃ g' L' m', KtsTurn fs g g' ∧ Fr g' L' s'.heap m' ∧ (Fr h₀ L s'.heap m → R (.ok (.ret v)) s')

section
variable {prog : Program} {w : World} {A₀ A : Around} {s : Shared} {base h₀ : Heap} {L : Addr} {m : Str → Option Value} {env : Env} {news : List (Addr × Obj)} {K : Frag} {p : Program} {loose : List Str} {mean : ExcName → Option Value} {mg mb : Str → Option Value}
    {R : Result → Shared → Prop} {name qual : Str} {params : Arguments} {body : List Stmt} {scope : Scope} {dV kV doc pm cdv ct oc : Value} {an od : Option Addr} {osl : Array (Option Value)} {f : Addr} {args : Args} {binds : List (Str × Value)}

theorem code_defT (B : Below A₀ base [] h₀) (F : Fr h₀ L s.heap m) (X₀ : K.In h₀) (N : News h₀ L s.heap news) (T : Top p loose mean mg mb h₀) (hA : A.frames = some [env]) (hf : env.frame = some L) (hke : env.scope.kind = .function)
    (ho : K.lookup f = some ⟨oc, od, .func (fnOf name qual params body scope dV kV doc pm an cdv ct), osl⟩) (hcd : codeIn K cdv qual = true) (hroom : A.depth < recursionLimit)
    (hbind : BindsTo s (fnOf name qual params body scope dV kV doc pm an cdv ct) args binds) (hloc : ∀ y ∈ binds, scope.names.lookup y.1 = some .local)
    (h : ∀ g L' h₁, Fr h₀ L g m → Fr g L' h₁ (fun y => binds.reverse.lookup y) → News g L' h₁ news → Below A base [env] g → K.In g → Top p loose mean mg mb g →
      wpAny (model prog w) (A.deeper (envOf qual scope L' f cdv)) (execs body (envOf qual scope L' f cdv))
        (fun fl s' => LeaveT [L] h₀ L m g R (match fl with | .ret v => v | _ => .none) s')
        (fun e s' => wpAny (model prog w) (A.deeper (envOf qual scope L' f cdv)) (leaving (envOf qual scope L' f cdv) e) (fun _ s'' => R (.error e) s'') (fun e' s'' => R (.error e') s'') s')
        { s with heap := h₁, toks := s.toks + binds.length })
    (hcell : ∀ x ∈ scope.names, x.2 ≠ .cell) (hco : scope.isCoroutine = false) (hgen : scope.isGenerator = false) (hk : scope.kind = .function) : codeAny (model prog w) A (.call (.ref f) args) R s := by
  have X := X₀.keeps F.keep
  refine codeAny_call_def (fd := fnOf name qual params body scope dV kV doc pm an cdv ct) (body := body) (binds := binds) hroom (X _ _ ho) rfl (T.nolimit.keeps F.keep) (codeRec_of X hcd) rfl hbind hcell hloc (fun h₁ hns hk₁ => ?_) hco hgen hk
  obtain ⟨FG, BG, st, _⟩ := groundX (R := R) B F N hA hf hke
  obtain ⟨oL, es, ep, hLg, hLd, hLk, hLf⟩ := FG.ns
  refine wpAny_mono (h _ s.heap.objs.size h₁ FG ⟨hns, fun b o e => hk₁ b o (of_hideAll _ e), Nat.le_of_eq (hideAll_size _ _)⟩
    (fun p hp => ⟨hk₁ _ _ (N p hp).1, Nat.ne_of_lt (Heap.lt_size (N p hp).1), hideAll_none _ (List.mem_map_of_mem hp)⟩) BG (X₀.keeps st) (T.keeps st)) (fun fl s' hl => ?_) fun _ _ y => y
  obtain ⟨g', L', m', T', F', k⟩ := hl
  have nL₀ : h₀.get? L = none := kts_self F
  obtain ⟨sl, hs⟩ := T'.up hLg
  refine k ⟨⟨_, es, ep, F'.keep _ _ hs, hLd, hLk, hLf⟩, fun b o e => F'.keep b o (T'.other b o (st b o e) (fun q => ?_)), F.above⟩
  obtain rfl := List.mem_singleton.mp q
  rw [nL₀] at e
  cases e
end

section
variable {w : World} {A₀ : Around} {E : Value → Shared → Prop} {s' : Shared} {base g G : Heap} {outer : List Env} {L a e : Addr} {m : Str → Option Value} {name : Str} {scope : Scope} {cd : Value}
  {n : Str} {b₀ : Stmt} {suite : List Stmt} {pos np : Pos} {rest : List ExceptHandler} {Q : Flow → Shared → Prop}
  {p : Program} {loose : List Str} {mean : ExcName → Option Value} {mg mb : Str → Option Value} {x : Str}

theorem caught_mine (R : Flung G (envOf name scope L a cd :: outer) e s'.heap) (F : Fr g L G m) (K : Below A₀ base outer g) (hsm : G.UpToSlots s'.heap) (XB : (Mine.hd.heap_39 w.params).In base) (TB : Top p loose mean mg mb base)
    (ex : nsIn (Mine.hd.heap_39 w.params) mainGlobals x = some (some (.ref 44)))
    (k : ∀ h' g' tk dx hs tk' tm oe vs, KtsTurn (outer.filterMap (·.frame)) g g' → Fr g' L h' (fun y => if y = n then some (.ref e) else m y) → Below A₀ base outer g' → (Mine.hd.heap_39 w.params).In g' → Top p loose mean mg mb g' →
      h'.get? e = some oe → oe.cls = .ref 44 → oe.dict = some dx → oe.data = .fields vs → h'.get? dx = some (msgDict hs tk' (.str cutShort tm)) →
      wpAny (model PySem.Challenge.rw_xm0706_01.row.prog w) ((A₀.deeper (envOf name scope L a cd)).mark (some (.ref e))) (execs (b₀ :: suite) (envOf name scope L a cd))
        (fun f s₄ => wpAny (model PySem.Challenge.rw_xm0706_01.row.prog w) (A₀.deeper (envOf name scope L a cd)) (do bindName (envOf name scope L a cd) n .none; unbindBehindTheSuite (envOf name scope L a cd) n pos) (fun _ s₅ => Q f s₅) E s₄)
        (AsSuiteRaised (model PySem.Challenge.rw_xm0706_01.row.prog w) ((A₀.deeper (envOf name scope L a cd)).mark (some (.ref e))) (envOf name scope L a cd) n pos (notedBy (model PySem.Challenge.rw_xm0706_01.row.prog w) ((A₀.deeper (envOf name scope L a cd)).mark (some (.ref e))) (envOf name scope L a cd) (cameBackBy (model PySem.Challenge.rw_xm0706_01.row.prog w) (A₀.deeper (envOf name scope L a cd)) (envOf name scope L a cd) E)))
        { s' with heap := h', toks := tk })
    (hk : scope.kind = .function := by rfl) (hlo : (envOf name scope L a cd).kindOf n = some .local := by rfl) (hx : (envOf name scope L a cd).kindOf x = some .globalImplicit := by rfl) (hd : (x == ("__debug__" : Str)) = false := by decide) :
    wpAny (model PySem.Challenge.rw_xm0706_01.row.prog w) (A₀.deeper (envOf name scope L a cd)) (noteFrame (.ref e) (envOf name scope L a cd))
      (fun _ s₂ => wpAny (model PySem.Challenge.rw_xm0706_01.row.prog w) (A₀.deeper (envOf name scope L a cd)) (setFlight (.ref e) none) (fun _ s₃ =>
        wpAny (model PySem.Challenge.rw_xm0706_01.row.prog w) (A₀.deeper (envOf name scope L a cd)) (handleBy (.ref e) (envOf name scope L a cd) (.ExceptHandler (some (.Name x np)) (some n) (b₀ :: suite) pos :: rest)) Q E s₃) E s₂) E s' := by
  obtain ⟨B, dx, hs, tk, tm, hfl, hBG, hdx⟩ := R
  refine fly_note (Around.frames_deeper K.stack) rfl hfl fun h₄ f₄ u₄ => ?_
  refine fly_flight f₄ fun h₅ f₅ u₅ => ?_
  obtain ⟨g₅, T₅, F₅, K₅⟩ := kts_ground K F hBG f₅.1 (hsm.trans (u₄.trans u₅))
  have X₅ : (Mine.hd.heap_39 w.params).In g₅ := XB.keeps K₅.stays
  have P₅ : TopRead p loose mg mb g₅ := topRead_of (TB.keeps K₅.stays)
  obtain ⟨nm, q', N, bs, bm, hdct, sn, sub, ab, col, dd, k0, k1, k2, k3, k5, newId, hC, hbase, hbT⟩ := kts_cls (T := "BaseException") X₅ (C := 44) (by kernel_rfl)
  have hC₅ := F₅.keep _ _ hC
  obtain ⟨oe₅, vs₅, _, _, _, he₅, hc₅, _⟩ := f₅.2.2.2
  refine wpAny_handleBy_cons (codeAny_handlers_test (name_K F₅ X₅ P₅ ex ?_ hk hx hd)) (by intro q; cases q)
  refine wpAny_excMatches_sub_self hC₅ he₅ hc₅ hbase (codeAny_handlers_suite_as ?_)
  refine fly_flight f₅ fun h₆ f₆ u₆ => ?_
  obtain ⟨g₆, T₆, F₆, K₆⟩ := kts_ground K F hBG f₆.1 ((hsm.trans (u₄.trans u₅)).trans u₆)
  have X₆ : (Mine.hd.heap_39 w.params).In g₆ := XB.keeps K₆.stays
  have P₆ : Top p loose mean mg mb g₆ := TB.keeps K₆.stays
  obtain ⟨hB₆, hen, hff, oe, vs, Tt, oT, ts, he, hc, hd', hdt, _⟩ := f₆
  have hL : B.get? L = none := by
    obtain ⟨_, ⟨L', _, hf, hn', _⟩, _⟩ := hff
    obtain rfl : L = L' := Option.some.inj hf
    exact hn'
  have heL : e ≠ L := fun q => by
    obtain ⟨o, es, ep, ho, hdd, _⟩ := F₆.ns
    rw [← q, he] at ho; cases ho; rw [hdt] at hdd; cases hdd
  have hdL : dx ≠ L := fun q => by rw [q, hL] at hdx; cases hdx
  refine wpAny_storeName_local hlo F₆.ns (fun h₇ hn hsb => ?_) (by show (scope.kind == .class || (scope.kind == .module && L != mainGlobals)) = false; rw [hk]; rfl)
  exact k h₇ g₆ _ dx hs tk tm oe vs T₆ (F₆.set hn hsb) K₆ X₆ P₆ ((hsb.2 _ heL).trans he) hc hd' hdt ((hsb.2 _ hdL).trans (hB₆ _ _ hdx))
end
end Mine
end

section
open PySem PySem.W PyProof.Rows
set_option maxRecDepth 100000
set_option maxHeartbeats 4000000
namespace Mine
local macro_rules | `(tactic| k_all) => `(tactic| with_reducible assumption)
local macro_rules | `(tactic| walk_at "call ref") => `(tactic| (k_here; (with_reducible show wpAny _ _ (PySem.call (Value.ref 53) _) _ _ _); refine hold ?_))
local macro_rules | `(tactic| walk_at "exec Try") => `(tactic| (k_here; refine wpAny_Try_except ?_))
local macro_rules | `(tactic| walk_at "bind") => `(tactic| (refine name_goes (by assumption) News.nil ?_; intro h9 m9 F9 N9))

theorem is_short_head (w : World) :
  ∀ (p : Program) (loose : List Str) (mean : ExcName → Option Value) (mg mb : Str → Option Value) (dp un : Nat) (gd : Option (List Code)) (cn : Str) (cs : Scope) (a : Addr) (ccd : Value) (cl : List (Str × Addr)) (A₀ : Around) (base h₀ : Heap) (L : Addr) (m : Str → Option Value) (s : Shared) (Q E : Value → Shared → Prop)
    (news : List (Addr × Obj)) (b : Array UInt8) (tb tm : Tok) (ks : List Int) (many : Nat),
    Below A₀ base [] h₀ → Fr h₀ L s.heap m → (Mine.hd.heap_39 w.params).In h₀ → News h₀ L s.heap news → Top p loose mean mg mb h₀ → cs.kind = .function →
    (Mine.hd.heap_39 w.params).In base → Top p loose mean mg mb base →
    KBw.bInts b = ks → ks.length ≤ 1000 → many ≤ 1000 → scan many ks [] ⟨#[]⟩ 0 = none →
    dp + 4 < recursionLimit → un + 32 < cLine →
    (∀ (h' : Heap) (tk' : Nat), Fr h₀ L h' m → Q (.bool true) { s with heap := h', toks := tk' }) →
    wpAny (model PySem.Challenge.rw_xm0706_01.row.prog w) (ktrTop dp un gd cn cs L a ccd cl []) (call (.ref 92) [.bytes b tb, .int many tm]) Q E s := by
  w_top off
  k_fill
  intro p loose mean mg mb dp un gd cn cs a ccd cl A₀ base h₀ L m s Q E news b tb tm ks many B F X N T hk XB TB hb hks hmany hscan hd hu hret
  refine wpAny_call ?_
  k_dflt (refine' code_defT ?k1 ?k2 ?k3 ?k4 ?k5 ?kA ?kF ?kK ?k6 ?k7 ?k8 ?k9 ?kB ?_ ?c5 ?c2 ?c3 ?c4; (case kA => exact rfl); (case kF => exact rfl); (case kK => assumption); (case k1 => k_asm); (case k2 => k_asm); (case k3 => exact X); (case k4 => k_asm); (case k5 => k_asm); (case k6 => k_is); (case k7 => k_is); (case k8 => ktr_room); (case k9 => exact BindsTo.of_eq rfl); (case c5 => decide); (case kB => exact locs rfl); (case c2 => exact rfl); (case c3 => exact rfl); (case c4 => exact rfl); k_whole; intro g' L' h' FG' F' N' B' X' T'; (try dsimp only); (try k_lift B'); (try k_fold))
  k_steps
  refine hold_out ?_
  k_dflt (refine' read_fail_head w _ _ _ _ _ _ _ _ _ _ _ _ _ _ _ _ _ _ _ _ _ _ _ _ _ _ _ _ B' F' X' N' T' ?k8 hb hks hmany hscan ?k11 ?k12 ?_; (case k8 => exact rfl); (case k11 => ktr_room); (case k12 => ktr_units))
  intro g₁ e h₁ tk₁ F₁ U₁ R₁
  refine caught_mine R₁ F₁ B' U₁ XB TB (by kernel_rfl) ?_
  intro h₂ g₂ tk₂ dx hs tk' tm' oe vs T₂ F₂ B₂ X₂ P₂ he hc hdx hdt hmsg
  k_steps
  refine get_msg (X₂.keeps F₂.keep) he hc hdx hdt hmsg rfl ?_
  k_steps
  rename_i h9 m9 F9 N9
  have hcs : (cutShort == Str.ofString "a picture is cut short") = true := by decide +kernel
  rw [hcs]
  exact ⟨g₂, L', m9, T₂, F9, fun FF => hret h9 _ FF⟩
end Mine
end

section
open PySem PySem.W PyProof.Rows
set_option maxRecDepth 100000
set_option maxHeartbeats 1000000
namespace Mine
section
variable {w : World} {p : Program} {loose : List Str} {mean : ExcName → Option Value} {mg mb : Str → Option Value} {dp un : Nat} {gd : Option (List Code)} {cn : Str} {cs : Scope} {a : Addr} {ccd : Value} {cl : List (Str × Addr)} {outer : List Env} {A₀ : Around} {base h₀ : Heap} {L : Addr} {m : Str → Option Value} {s : Shared} {Q E : Value → Shared → Prop}
  {news : List (Addr × Obj)} {b : Array UInt8} {tb tm : Tok} {ks : List Int} {many : Nat}
theorem read_use {ws : List Str} {e : Nat} (B : Below A₀ base outer h₀) (F : Fr h₀ L s.heap m) (X : (Mine.hd.heap_39 w.params).In h₀) (N : News h₀ L s.heap news) (T : Top p loose mean mg mb h₀) (hk : cs.kind = .function)
    (hb : KBw.bInts b = ks) (hks : ks.length ≤ 1000) (hmany : many ≤ 1000) (hscan : scan many ks [] ⟨#[]⟩ 0 = some (ws, e)) (hd : dp + 1 < recursionLimit) (hu : un + 8 < cLine)
    (hret : ∀ (D Tp : Addr) (vs : List Value) (t : Tok) (c c' : Nat) (h' : Heap) (tk' : Nat), StrsAre vs ws → Fr h₀ L h' m → News h₀ L h' ((Tp, { cls := .type "tuple", data := .seq #[.ref D, .int e t] c }) :: (D, { cls := .type "list", data := .seq vs.toArray c' }) :: news) → LCg.Off1 Tp ((D, { cls := .type "list", data := .seq vs.toArray c' }) :: news) → LCg.Off1 D news → Q (.ref Tp) { s with heap := h', toks := tk' }) :
    wpAny (model PySem.Challenge.rw_xm0706_01.row.prog w) (ktrTop dp un gd cn cs L a ccd cl outer) (call (.ref 53) [.bytes b tb, .int many tm]) Q E s :=
  read_ok_head w p loose mean mg mb dp un gd cn cs a ccd cl outer A₀ base h₀ L m s Q E news b tb tm ks many ws e B F X N T hk hb hks hmany hscan hd hu hret
theorem short_use (B : Below A₀ base [] h₀) (F : Fr h₀ L s.heap m) (X : (Mine.hd.heap_39 w.params).In h₀) (N : News h₀ L s.heap news) (T : Top p loose mean mg mb h₀) (hk : cs.kind = .function)
    (XB : (Mine.hd.heap_39 w.params).In base) (TB : Top p loose mean mg mb base)
    (hb : KBw.bInts b = ks) (hks : ks.length ≤ 1000) (hmany : many ≤ 1000) (hscan : scan many ks [] ⟨#[]⟩ 0 = none) (hd : dp + 4 < recursionLimit) (hu : un + 32 < cLine)
    (hret : ∀ (h' : Heap) (tk' : Nat), Fr h₀ L h' m → Q (.bool true) { s with heap := h', toks := tk' }) :
    wpAny (model PySem.Challenge.rw_xm0706_01.row.prog w) (ktrTop dp un gd cn cs L a ccd cl []) (call (.ref 92) [.bytes b tb, .int many tm]) Q E s :=
  is_short_head w p loose mean mg mb dp un gd cn cs a ccd cl A₀ base h₀ L m s Q E news b tb tm ks many B F X N T hk XB TB hb hks hmany hscan hd hu hret
end
end Mine
end

section
open PySem PySem.W PyProof.Rows
set_option maxRecDepth 100000
set_option maxHeartbeats 4000000
namespace Mine
local macro_rules | `(tactic| k_all) => `(tactic| with_reducible assumption)
theorem pool_head (w : World) :
  ∀ (p : Program) (loose : List Str) (mean : ExcName → Option Value) (mg mb : Str → Option Value) (dp un : Nat) (gd : Option (List Code)) (cn : Str) (cs : Scope) (a : Addr) (ccd : Value) (cl : List (Str × Addr)) (outer : List Env) (A₀ : Around) (base h₀ : Heap) (L : Addr) (m : Str → Option Value) (s : Shared) (Q E : Value → Shared → Prop)
    (news : List (Addr × Obj)) (l : Addr) (vs : List Value) (ns : List Int),
    Below A₀ base outer h₀ → Fr h₀ L s.heap m → (Mine.hd.heap_39 w.params).In h₀ → News h₀ L s.heap news → Top p loose mean mg mb h₀ → cs.kind = .function →
    h₀.IsList l vs.toArray → IntsAre vs ns → ns.length ≤ 63 →
    dp + 1 < recursionLimit → un + 8 < cLine →
    (∀ (o' : Obj) (D : Addr) (h' : Heap) (tk' : Nat), Pool o' → Fr h₀ L h' m → News h₀ L h' ((D, o') :: news) → LCg.Off1 D news → Q (.ref D) { s with heap := h', toks := tk' }) →
    wpAny (model PySem.Challenge.rw_xm0706_01.row.prog w) (ktrTop dp un gd cn cs L a ccd cl outer) (call (.ref 61) [.ref l]) Q E s := by
  w_top off
  k_fill
  intro p loose mean mg mb dp un gd cn cs a ccd cl outer A₀ base h₀ L m s Q E news l vs ns B F X N T hk hl hi hlen hd hu hret
  refine wpAny_call ?_
  k_dflt cell_enter
  rename_i g L1 h1 FG F1 N1 B1 X1 T1
  have hl1 : g.IsList l vs.toArray := hl.at fun o e => FG.keep l o e
  k_steps
  all_goals (
    rename_i D h9 F9 N9 l9 kF kN Tc kX
    exact hret _ D h9 _ ⟨_, _, _, _, _, rfl, Int.fmod_nonneg_of_pos _ (by decide), Int.fmod_lt_of_pos _ (by decide)⟩ kF kN (off1_lt l9))

section
variable {w : World} {p : Program} {loose : List Str} {mean : ExcName → Option Value} {mg mb : Str → Option Value} {dp un : Nat} {gd : Option (List Code)} {cn : Str} {cs : Scope} {a : Addr} {ccd : Value} {cl : List (Str × Addr)} {outer : List Env} {A₀ : Around} {base h₀ : Heap} {L : Addr} {m : Str → Option Value} {s : Shared} {Q E : Value → Shared → Prop}
  {news : List (Addr × Obj)}
theorem pool_use {l : Addr} {vs : List Value} {ns : List Int} (B : Below A₀ base outer h₀) (F : Fr h₀ L s.heap m) (X : (Mine.hd.heap_39 w.params).In h₀) (N : News h₀ L s.heap news) (T : Top p loose mean mg mb h₀) (hk : cs.kind = .function)
    (hl : h₀.IsList l vs.toArray) (hi : IntsAre vs ns) (hlen : ns.length ≤ 63) (hd : dp + 1 < recursionLimit) (hu : un + 8 < cLine)
    (hret : ∀ (o' : Obj) (D : Addr) (h' : Heap) (tk' : Nat), Pool o' → Fr h₀ L h' m → News h₀ L h' ((D, o') :: news) → LCg.Off1 D news → Q (.ref D) { s with heap := h', toks := tk' }) :
    wpAny (model PySem.Challenge.rw_xm0706_01.row.prog w) (ktrTop dp un gd cn cs L a ccd cl outer) (call (.ref 61) [.ref l]) Q E s :=
  pool_head w p loose mean mg mb dp un gd cn cs a ccd cl outer A₀ base h₀ L m s Q E news l vs ns B F X N T hk hl hi hlen hd hu hret
end
end Mine
end

section
open PySem PySem.W PyProof.Rows PySem.Calls PyProof.V
set_option maxRecDepth 100000
set_option maxHeartbeats 1000000
namespace Mine
theorem allObj_of : ∀ {ws : List (Addr × String)} {k : List (Addr × Obj) → Prop}, (∀ its, Objs ws its → k its) → AllObj ws k
  | [], _, h => h [] trivial
  | w :: _, _, h => fun o ho => allObj_of fun its hi => h ((w.1, o) :: its) ⟨⟨rfl, ho⟩, hi⟩

section
variable {prog : Program} {w : World} {A : Around} {E : Value → Shared → Prop} {s : Shared} {env : Env} {h₀ : Heap} {target : Expr} {body : List Stmt} {Q : Flow → Shared → Prop}

theorem unrPost_mono {L : Addr} {s₁ : Shared} {its : List (Addr × Obj)} {R R' : (Str → Option Value) → List (Addr × Obj) → Prop} (hR : ∀ m n, R m n → R' m n) {f : Flow} {s₂ : Shared} (h : UnrPostW h₀ L s₁ its R Q f s₂) : UnrPostW h₀ L s₁ its R' Q f s₂ := by
  have fin : UnrEndW h₀ L s₁ its R s₂ → UnrEndW h₀ L s₁ its R' s₂ := by
    rintro ⟨h', tk, m', news', e, F', N', off, r⟩
    exact ⟨h', tk, m', news', e, F', N', off, hR _ _ r⟩
  cases f with
  | ret v => exact h
  | brk => exact h
  | next => exact fin h
  | cont => exact fin h

/-- a for-loop by what holds of the frame's names and of the ledger at each turn -/
theorem turns_inv {ws : List (Addr × String)} {keep : List (Addr × Obj)} {xs : List Itm} {m₀ : Str → Option Value} {news : List (Addr × Obj)} (J : Nat → (Str → Option Value) → List (Addr × Obj) → Prop) (h0 : J 0 m₀ news)
    (turn : ∀ i a m₁ news₁ v h tk its, xs[i]? = some a → a.Is v h → J i m₁ news₁ → Objs ws its → Fr h₀ env.locals h m₁ → News h₀ env.locals h (its ++ news₁) →
      wpAny (model prog w) A (assign target env v) (fun _ s₂ => wpAny (model prog w) A (execs body env) (UnrPostW h₀ env.locals { s with heap := h, toks := tk } its (fun m' n' => SubL keep n' ∧ J (i + 1) m' n') Q) E s₂) E { s with heap := h, toks := tk })
    (done : ∀ m' n' h tk, J xs.length m' n' → Fr h₀ env.locals h m' → News h₀ env.locals h n' → Q .next { s with heap := h, toks := tk }) :
    ItemsRest prog w A E h₀ env target body Q s ws keep xs m₀ news := by
  have key : ∀ (rest : List Itm) (i : Nat) (m₁ : Str → Option Value) (news₁ : List (Addr × Obj)), xs.drop i = rest → i + rest.length = xs.length → J i m₁ news₁ → ItemsRest prog w A E h₀ env target body Q s ws keep rest m₁ news₁ := by
    intro rest
    induction rest with
    | nil =>
      intro i m₁ news₁ _ hl hJ
      have e : i = xs.length := by simpa using hl
      subst e
      exact ItemsRest.zero fun h tk F N => done m₁ news₁ h tk hJ F N
    | cons a r ih =>
      intro i m₁ news₁ hd hl hJ
      have hlt : i < xs.length := by simp only [List.length_cons] at hl; omega
      rw [List.drop_eq_getElem_cons hlt] at hd
      obtain ⟨ha, hr⟩ := List.cons.inj hd
      have hi : xs[i]? = some a := by rw [List.getElem?_eq_getElem hlt, ha]
      intro v h tk hv F
      refine allObj_of fun its hits N => ?_
      refine wpAny_mono (turn i a m₁ news₁ v h tk its hi hv hJ hits F N) (fun _ s₂ h₂ => wpAny_mono h₂ (fun f s₃ h₃ => ?_) fun _ _ e => e) fun _ _ e => e
      exact unrPost_mono (fun m n q => ⟨q.1, ih (i + 1) m n hr (by simp only [List.length_cons] at hl; omega) q.2⟩) h₃
  exact key xs 0 m₀ news List.drop_zero (Nat.zero_add _) h0

def rangeItems (a₀ : Int) (n : Nat) : List Itm := (List.range n).map fun (i : Nat) => Itm.tok (fun t => .int (a₀ + (i : Int)) t)
theorem rangeItems_length (a₀ : Int) (n : Nat) : (rangeItems a₀ n).length = n := by simp [rangeItems]
theorem rangeItems_get {a₀ : Int} {n i : Nat} (h : i < n) : (rangeItems a₀ n)[i]? = some (Itm.tok (fun t => .int (a₀ + (i : Int)) t)) := by simp [rangeItems, h]

theorem iter_rangeTurns {x : Str} {px : Pos} {r : Addr} {a₀ b₀ : Int} {t₀ u₀ v₀ : Tok} {n : Nat} {m₀ : Str → Option Value} {news : List (Addr × Obj)}
    (hh : A.handled = none) (hr : IsRange s.heap r a₀ b₀ 1 t₀ u₀ v₀) (hsmall : Builtin.Range.small a₀ b₀ 1 = true) (hn : Builtin.Range.rangeSize a₀ b₀ 1 = (n : Int)) (F : Fr h₀ env.locals s.heap m₀) (N : News h₀ env.locals s.heap news)
    (rest₀ : ∀ I : Addr, (∀ p ∈ news, p.1 < I) → ItemsRest prog w A E h₀ env (.Name x px) body Q s [(I, "range_iterator")] [] (rangeItems a₀ n) m₀ news) :
    wpAny (model prog w) A (pyIter (.ref r)) (fun it s₂ => TurnsAt prog w A h₀ env (.Name x px) body Q E it s₂) E s := by
  refine wpAny_pyIter_range hr hsmall ?_
  refine ktu_core (tk0 := s.toks) (keep := []) (KTurns.ofWalks ((Walks.range hh s.heap.objs.size a₀ 1 n).bound) fun i v s Q E st q => ?_) (rangeItems_length a₀ n).symm (fun i v h hp => ?_) (fun i h st => ?_) (fun b hb => ?_) (fun b hb => by simpa using hb) (fun b hb => .inl (by simpa using hb)) ?_ (fun p hp hI => ?_) ?_ (F.push _) (fun p hp => ⟨Heap.get?_push_of_some _ (N p hp).1, (N p hp).2⟩) trivial (rest₀ _ fun p hp => Heap.lt_size (N p hp).1)
  · exact wpAny_pure q
  · obtain ⟨hi, t, rfl⟩ := hp
    exact ⟨_, rangeItems_get hi, t, by simp⟩
  · exact ⟨[(s.heap.objs.size, _)], ⟨⟨rfl, rfl⟩, trivial⟩, fun p hp => by rw [List.mem_singleton.mp hp]; exact st⟩
  · have hb' : b = s.heap.objs.size := by simpa using hb
    rw [hb']
    exact ⟨List.mem_cons_self .., next_is_new F⟩
  · intro hI
    exact absurd F.ns.lt ((List.mem_singleton.mp hI) ▸ Nat.lt_irrefl _)
  · exact absurd (Heap.lt_size (N p hp).1) ((List.mem_singleton.mp hI) ▸ Nat.lt_irrefl _)
  · show IsRangeIter _ _ _ _ _
    rw [hn]
    simpa using Heap.get?_push_size _ rfl
end
end Mine
end

section
open PySem PySem.W PyProof.Rows
set_option maxRecDepth 100000
set_option maxHeartbeats 1000000
namespace Mine
def wordStr (ns : List Int) : Str := ⟨(ns.map Int.toNat).toArray⟩
theorem str_app_nil (a : Str) : a ++ (⟨#[]⟩ : Str) = a := by
  cases a; show (⟨_ ++ #[]⟩ : Str) = _; simp
theorem str_nil_app (a : Str) : (⟨#[]⟩ : Str) ++ a = a := by
  cases a; show (⟨#[] ++ _⟩ : Str) = _; simp
theorem str_app_assoc (a b c : Str) : a ++ b ++ c = a ++ (b ++ c) := by
  cases a; cases b; cases c; show (⟨(_ ++ _) ++ _⟩ : Str) = ⟨_ ++ (_ ++ _)⟩; simp
theorem wordStr_cons (c : Int) (ns : List Int) : wordStr (c :: ns) = (⟨#[c.toNat]⟩ : Str) ++ wordStr ns := by
  show (⟨_⟩ : Str) = ⟨#[c.toNat] ++ _⟩; simp [wordStr]

theorem scan_gap {many : Nat} : ∀ {xs ys : List Int} {ws : List Str} {k : Nat}, ws.length < many → (∀ x ∈ xs, isB x = true) → scan many (xs ++ ys) ws ⟨#[]⟩ k = scan many ys ws ⟨#[]⟩ (k + xs.length)
  | [], _, _, _, _, _ => rfl
  | x :: xs, ys, ws, k, h, hb => by
    have hx := hb x (List.mem_cons_self ..)
    rw [List.cons_append, scan, if_pos h, if_pos hx, if_pos rfl, scan_gap h fun y hy => hb y (List.mem_cons_of_mem _ hy)]
    congr 1
    simp only [List.length_cons]; omega
theorem scan_word {many : Nat} : ∀ {xs ys : List Int} {ws : List Str} {wd : Str} {k : Nat}, ws.length < many → (∀ x ∈ xs, isB x = false) → scan many (xs ++ ys) ws wd k = scan many ys ws (wd ++ wordStr xs) (k + xs.length)
  | [], ys, ws, wd, k, _, _ => by
    show scan many ys ws wd k = scan many ys ws (wd ++ ⟨#[]⟩) k
    rw [str_app_nil]
  | x :: xs, ys, ws, wd, k, h, hb => by
    have hx := hb x (List.mem_cons_self ..)
    rw [List.cons_append, scan, if_pos h, if_neg (by rw [hx]; decide), scan_word h fun y hy => hb y (List.mem_cons_of_mem _ hy), wordStr_cons, str_app_assoc]
    congr 1
    simp only [List.length_cons]; omega
theorem scan_done {many : Nat} {ys : List Int} {ws : List Str} {wd : Str} {k : Nat} (h : ¬ ws.length < many) : scan many ys ws wd k = some (ws, k) := by
  cases ys <;> simp [scan, h]
theorem scan_prefix {many : Nat} : ∀ {xs ys : List Int} {ws : List Str} {wd : Str} {k : Nat}, scan many (xs ++ ys) ws wd k = none → scan many xs ws wd k = none
  | [], ys, ws, wd, k, h => by
    by_cases hl : ws.length < many
    · simp [scan, hl]
    · rw [scan_done hl] at h; cases h
  | x :: xs, ys, ws, wd, k, h => by
    by_cases hl : ws.length < many
    · rw [List.cons_append, scan, if_pos hl] at h
      rw [scan, if_pos hl]
      split at h
      · rename_i hb
        rw [if_pos hb]
        split at h
        · rename_i hw
          rw [if_pos hw]; exact scan_prefix h
        · rename_i hw
          rw [if_neg hw]; exact scan_prefix h
      · rename_i hb
        rw [if_neg hb]; exact scan_prefix h
    · rw [scan_done hl] at h; cases h

theorem isB_mem {n : Int} (h : n ∈ ([32, 10, 9, 13] : List Int)) : isB n = true := by
  simp only [List.mem_cons, List.not_mem_nil, or_false] at h
  rcases h with rfl | rfl | rfl | rfl <;> rfl
theorem isB_not {n : Int} (h : n ∉ ([32, 10, 9, 13] : List Int)) : isB n = false := by
  simp only [List.mem_cons, List.not_mem_nil, or_false, not_or] at h
  simp [isB, Ne.symm h.1, Ne.symm h.2.1, Ne.symm h.2.2.1, Ne.symm h.2.2.2]

theorem wordStr_ok {ns : List Int} (h : ∀ n ∈ ns, 0 ≤ n ∧ n < 256) : PyData.strOk (wordStr ns) = true := by
  unfold PyData.strOk wordStr
  rw [Array.all_eq_true]
  intro i hi
  simp only [List.size_toArray, List.length_map] at hi
  simp only [List.getElem_toArray, List.getElem_map, decide_eq_true_eq]
  have := h _ (List.getElem_mem hi)
  omega

structure Built (row : List Int) (ws : List Str) (es : List Int) : Prop where
  elen : es.length = ws.length + 1
  all : ∀ many rest, ws.length < many → scan many (row ++ rest) [] ⟨#[]⟩ 0 = scan many rest ws ⟨#[]⟩ row.length
  told : ∀ many, many ≤ ws.length → ∃ e : Nat, es[many]? = some (e : Int) ∧ ∀ rest, scan many (row ++ rest) [] ⟨#[]⟩ 0 = some (ws.take many, e)
  last : ∃ e : Nat, es[ws.length]? = some (e : Int) ∧ e ≤ row.length ∧ (ws ≠ [] → 0 < e) ∧ ∀ c, c < e → scan ws.length (row.take c) [] ⟨#[]⟩ 0 = none
  octs : ∀ n ∈ row, 0 ≤ n ∧ n < 256
  ok : ∀ x ∈ ws, PyData.strOk x = true

theorem built_base {g : List Int} (hg : ∀ n ∈ g, n ∈ ([32, 10, 9, 13] : List Int)) : Built g [] [0] where
  elen := rfl
  all := fun many rest h => by rw [scan_gap h fun x hx => isB_mem (hg x hx), Nat.zero_add]
  told := fun many h => by
    obtain rfl : many = 0 := Nat.le_zero.mp h
    exact ⟨0, rfl, fun rest => scan_done (Nat.lt_irrefl 0)⟩
  last := ⟨0, rfl, Nat.zero_le _, fun h => absurd rfl h, fun c h => absurd h (Nat.not_lt_zero c)⟩
  octs := fun n hn => by
    have h := hg n hn
    simp only [List.mem_cons, List.not_mem_nil, or_false] at h
    omega
  ok := fun x hx => (nomatch hx)

theorem built_step {row : List Int} {ws : List Str} {es w g : List Int} {b : Int} (B : Built row ws es) (hw : ∀ n ∈ w, 0 ≤ n ∧ n < 256 ∧ n ∉ ([32, 10, 9, 13] : List Int)) (hw0 : 1 ≤ w.length) (hb : b ∈ ([32, 10, 9, 13] : List Int)) (hg : ∀ n ∈ g, n ∈ ([32, 10, 9, 13] : List Int)) :
    Built (row ++ w ++ [b] ++ g) (ws ++ [wordStr w]) (es ++ [((row ++ w ++ [b]).length : Int)]) := by
  have hwb : ∀ x ∈ w, isB x = false := fun x hx => isB_not (hw x hx).2.2
  have hne : wordStr w ≠ ⟨#[]⟩ := by
    intro h
    cases w with
    | nil => simp at hw0
    | cons x r =>
      have := congrArg (fun s : Str => s.cps.size) h
      simp [wordStr] at this
  have pass : ∀ many rest, ws.length < many → scan many (row ++ (w ++ (b :: rest))) [] ⟨#[]⟩ 0 = scan many rest (ws ++ [wordStr w]) ⟨#[]⟩ (row ++ w ++ [b]).length := by
    intro many rest h
    rw [B.all many _ h, scan_word h hwb, str_nil_app, scan, if_pos h, if_pos (isB_mem hb), if_neg hne]
    congr 1
    simp only [List.length_append, List.length_cons, List.length_nil]
  have hl : (ws ++ [wordStr w]).length = ws.length + 1 := by rw [List.length_append]; rfl
  refine ⟨by rw [List.length_append, B.elen, hl]; rfl, ?_, ?_, ?_, ?_, ?_⟩
  · intro many rest h
    rw [hl] at h
    have e : row ++ w ++ [b] ++ g ++ rest = row ++ (w ++ (b :: (g ++ rest))) := by simp [List.append_assoc]
    rw [e, pass many _ (by omega), scan_gap (by rw [hl]; exact h) fun x hx => isB_mem (hg x hx)]
    congr 1
    simp only [List.length_append, List.length_cons, List.length_nil]
  · intro many h
    rw [hl] at h
    by_cases hm : many ≤ ws.length
    · obtain ⟨e, he, ht⟩ := B.told many hm
      refine ⟨e, ?_, fun rest => ?_⟩
      · rw [List.getElem?_append_left (by rw [B.elen]; omega)]; exact he
      · have e' : row ++ w ++ [b] ++ g ++ rest = row ++ (w ++ [b] ++ g ++ rest) := by simp [List.append_assoc]
        rw [e', ht, List.take_append_of_le_length hm]
    · obtain rfl : many = ws.length + 1 := by omega
      refine ⟨(row ++ w ++ [b]).length, ?_, fun rest => ?_⟩
      · rw [List.getElem?_append_right (by rw [B.elen]; exact Nat.le_refl _), B.elen, Nat.sub_self]; rfl
      · have e : row ++ w ++ [b] ++ g ++ rest = row ++ (w ++ (b :: (g ++ rest))) := by simp [List.append_assoc]
        rw [e, pass _ _ (Nat.lt_succ_self _), scan_done (by rw [hl]; exact Nat.lt_irrefl _), ← hl, List.take_length]
  · refine ⟨(row ++ w ++ [b]).length, ?_, ?_, ?_, ?_⟩
    · rw [hl, List.getElem?_append_right (by rw [B.elen]; exact Nat.le_refl _), B.elen, Nat.sub_self]; rfl
    · rw [List.length_append (bs := g)]; omega
    · intro _
      simp only [List.length_append, List.length_cons, List.length_nil]; omega
    · intro c hc
      rw [hl]
      have hc' : c ≤ (row ++ w).length := by
        rw [List.length_append (bs := [b])] at hc
        simp only [List.length_cons, List.length_nil] at hc
        omega
      have e : (row ++ w ++ [b] ++ g).take c = (row ++ w).take c := by
        rw [List.append_assoc (row ++ w), List.take_append_of_le_length hc']
      rw [e]
      refine scan_prefix (ys := (row ++ w).drop c) ?_
      rw [List.take_append_drop, B.all _ _ (Nat.lt_succ_self _)]
      have e2 := scan_word (many := ws.length + 1) (xs := w) (ys := []) (ws := ws) (wd := ⟨#[]⟩) (k := row.length) (Nat.lt_succ_self _) hwb
      rw [List.append_nil] at e2
      rw [e2]
      simp [scan]
  · intro n hn
    rcases List.mem_append.mp hn with hn | hn
    · rcases List.mem_append.mp hn with hn | hn
      · rcases List.mem_append.mp hn with hn | hn
        · exact B.octs n hn
        · exact ⟨(hw n hn).1, (hw n hn).2.1⟩
      · rw [List.mem_singleton.mp hn]
        simp only [List.mem_cons, List.not_mem_nil, or_false] at hb
        omega
    · have h := hg n hn
      simp only [List.mem_cons, List.not_mem_nil, or_false] at h
      omega
  · intro x hx
    rcases List.mem_append.mp hx with hx | hx
    · exact B.ok x hx
    · rw [List.mem_singleton.mp hx]
      exact wordStr_ok fun n hn => ⟨(hw n hn).1, (hw n hn).2.1⟩
end Mine
end

section
open PySem PySem.W PyProof.Rows PySem.Spec
set_option maxRecDepth 100000
set_option maxHeartbeats 1000000
namespace Mine
/-- two addresses apart, told so that the arithmetic does not split on it -/
def Neq (a b : Nat) : Prop := a ≠ b
theorem Neq.ne {a b : Nat} (h : Neq a b) : @Ne Nat a b := h
theorem Neq.symm {a b : Nat} (h : Neq a b) : Neq b a := Ne.symm h
theorem neq_of {a b : Nat} (h : @Ne Nat a b) : Neq a b := h
def NeqAll (D : Nat) : List (Addr × Obj) → Prop
  | [] => True
  | q :: r => Neq q.1 D ∧ NeqAll D r
theorem neqAll {D : Addr} : ∀ {l : List (Addr × Obj)}, LCg.Off1 D l → NeqAll D l
  | [], _ => trivial
  | _ :: _, h => ⟨h.1, neqAll h.2⟩
abbrev lstO (vs : List Value) (c : Nat) : Obj := { cls := .type "list", data := .seq vs.toArray c }
/-- what stands at the head of each turn of the law's first loop -/
def Inv1 (el wl S Lc : Addr) (oc : Obj) (i : Nat) (m : Str → Option Value) (nx : List (Addr × Obj)) : Prop :=
  ∃ (r : Addr) (rvs : List Value) (rc : Nat) (rns : List Int) (wvs : List Value) (wc : Nat) (ws : List Str) (evs : List Value) (ec : Nat) (es : List Int) (o : Obj),
    nx = [(el, lstO evs ec), (wl, lstO wvs wc), (r, lstO rvs rc), (S, o), (Lc, oc)] ∧
    m (Str.ofString "row") = some (.ref r) ∧ m (Str.ofString "words") = some (.ref wl) ∧ m (Str.ofString "ends") = some (.ref el) ∧
    Pool o ∧ IntsAre rvs rns ∧ StrsAre wvs ws ∧ IntsAre evs es ∧ Built rns ws es ∧ ws.length = i ∧ rns.length ≤ 2 + 6 * i ∧
    Neq r el ∧ Neq r wl ∧ Neq r S ∧ Neq r Lc
theorem range_turn {n i : Nat} {a : Itm} {v : Value} {h : Heap} (hi : (rangeItems 0 n)[i]? = some a) (hv : a.Is v h) : i < n ∧ ∃ t, v = .int (i : Int) t := by
  have hlt : i < n := by
    have := (List.getElem?_eq_some_iff.mp hi).1
    rwa [rangeItems_length] at this
  rw [rangeItems_get hlt] at hi
  cases hi
  obtain ⟨t, rfl⟩ := hv
  exact ⟨hlt, t, by rw [Int.zero_add]⟩
theorem ne_cls {h₀ h : Heap} {L a b : Addr} {o p : Obj} {news : List (Addr × Obj)} {c d : String} (N : News h₀ L h news) (ha : (a, o) ∈ news) (hb : (b, p) ∈ news) (hc : o.cls = .type c) (hd : p.cls = .type d) (hn : (c == d) = false) : Neq a b := fun q => by
  have h1 := (N _ ha).1
  have h2 := (N _ hb).1
  rw [show a = b from q] at h1
  rw [h1] at h2
  cases h2
  rw [hc] at hd
  cases hd
  simp at hn
theorem off3_neq {I C D : Addr} : ∀ {l : List (Addr × Obj)}, LCg.Off3 I C D l → NeqAll I l ∧ NeqAll C l ∧ NeqAll D l
  | [], _ => ⟨trivial, trivial, trivial⟩
  | _ :: _, h => ⟨⟨h.1.1, (off3_neq h.2).1⟩, ⟨h.1.2.1, (off3_neq h.2).2.1⟩, ⟨h.1.2.2, (off3_neq h.2).2.2⟩⟩
def JTail (mk : Obj → List (Addr × Obj)) (i : Nat) (ys : List Value) (nw : List (Addr × Obj)) : Prop :=
  ∃ (o' : Obj) (ns : List Int), Pool o' ∧ IntsAre ys ns ∧ ns.length = i ∧ (∀ n ∈ ns, 0 ≤ n ∧ n < 256) ∧ nw = mk o'
theorem jtail_snoc {mk : Obj → List (Addr × Obj)} {i : Nat} {ys : List Value} {ns : List Int} {v : Int} {t : Tok} {o : Obj} (hP : Pool o) (hI : IntsAre ys ns) (hl : ns.length = i) (hb : ∀ n ∈ ns, 0 ≤ n ∧ n < 256) (h0 : 0 ≤ v) (h1 : v < 256) : JTail mk (i + 1) (ys ++ [.int v t]) (mk o) := by
  refine ⟨o, ns ++ [v], hP, hI.append (.cons _ _ .nil), by rw [List.length_append, hl]; rfl, ?_, rfl⟩
  intro n hn
  rcases List.mem_append.mp hn with h9 | h9
  · exact hb n h9
  · rw [List.mem_singleton.mp h9]; exact ⟨h0, h1⟩
theorem objs_two {I K : Addr} {c d : String} {its : List (Addr × Obj)} (h : Objs [(I, c), (K, d)] its) : ∃ io ko : Obj, its = [(I, io), (K, ko)] ∧ io.cls = .type c ∧ ko.cls = .type d := by
  cases its with
  | nil => exact h.elim
  | cons p r =>
    obtain ⟨⟨h1, h2⟩, h3⟩ := h
    cases r with
    | nil => exact h3.elim
    | cons q r =>
      obtain ⟨⟨h4, h5⟩, h6⟩ := h3
      cases r with
      | nil =>
        obtain ⟨a, o⟩ := p
        obtain ⟨b, p⟩ := q
        dsimp only at h1 h2 h4 h5
        subst h1 h4
        exact ⟨o, p, rfl, h2, h5⟩
      | cons _ _ => exact h6.elim
/-- what stands at the head of each turn of the law's second loop -/
def Inv2 (nx : List (Addr × Obj)) (wl el : Addr) (b : Array UInt8) (tb : Tok) (_ : Nat) (m : Str → Option Value) (n : List (Addr × Obj)) : Prop :=
  n = nx ∧ m (Str.ofString "words") = some (.ref wl) ∧ m (Str.ofString "ends") = some (.ref el) ∧ m (Str.ofString "octets") = some (.bytes b tb)
theorem enum_turn {evs : List Value} {es : List Int} {i : Nat} {a : Itm} {v : Value} {h : Heap} (hI : IntsAre evs es) (hi : (enumItems 0 evs)[i]? = some a) (hv : a.Is v h) :
    i < es.length ∧ ∃ k T t u, es[i]? = some k ∧ v = .ref T ∧ IsTup h T #[.int (i : Int) t, .int k u] := by
  have hlt : i < evs.length := by
    have := (List.getElem?_eq_some_iff.mp hi).1
    rwa [enumItems_length] at this
  have hx : evs[i]? = some evs[i] := List.getElem?_eq_getElem hlt
  have hg := enumItems_get evs 0 i hx
  rw [hi] at hg
  cases hg
  obtain ⟨k, u, hk, hke⟩ := IntsAre.at hI i _ hx
  obtain ⟨T, t, rfl, hT⟩ := hv
  refine ⟨by rw [← hI.length]; exact hlt, k, T, t, u, hke, rfl, ?_⟩
  rw [hk, Nat.zero_add] at hT
  exact hT
theorem strs_take : ∀ {vs : List Value} {ws : List Str} (i : Nat), StrsAre vs ws → StrsAre (vs.take i) (ws.take i)
  | _, _, 0, _ => by simp only [List.take_zero]; exact .nil
  | _, _, _ + 1, .nil => .nil
  | _, _, i + 1, .cons y t h => .cons y t (strs_take i h)
theorem pick_upto (vs : List Value) (i : Nat) : slicePick vs.toArray none (some (i : Int)) none = (vs.take i).toArray := by
  have e : sliceBounds none (some (i : Int)) none vs.toArray.size = (((0 : Nat) : Int), ((min i vs.toArray.size : Nat) : Int), 1) := by
    simp only [sliceBounds, Option.getD_none, show (1 : Int) > 0 by decide, if_true, if_neg (show ¬ ((i : Int) < 0) by omega)]
    congr 1
    congr 1
    omega
  rw [kmk_pick_nat _ e]
  show ((vs.drop 0).take (min i vs.toArray.size - 0)).toArray = _
  rw [List.drop_zero, Nat.sub_zero, List.size_toArray, kmk_take_min]
theorem strs_lay : ∀ {ws : List Str}, (∀ x ∈ ws, PyData.strOk x = true) → PyData.canLayAll0 (ws.map PyData.str) = true
  | [], _ => rfl
  | x :: r, h => by
    rw [List.map_cons, PyData.canLayAll0, PyData.canLay0, h x (List.mem_cons_self ..), strs_lay fun y hy => h y (List.mem_cons_of_mem _ hy)]; rfl
theorem strs_depth : ∀ ws : List Str, PyData.depthAll (ws.map PyData.str) = 0
  | [] => rfl
  | x :: r => by rw [List.map_cons, PyData.depthAll, strs_depth r]; rfl
theorem strs_eqv : ∀ ws : List Str, PyData.eqvAll (ws.map PyData.str) (ws.map PyData.str) = true
  | [] => rfl
  | x :: r => by rw [List.map_cons, PyData.eqvAll, strs_eqv r, PyData.eqv, beq_self_eq_true]; rfl
section
variable {prog : Program} {w : World} {A : Around} {E : Value → Shared → Prop} {s : Shared} {Q : Value → Shared → Prop}
/-- two tuples of a list of texts and an int, alike in all -/
theorem told_ne {h₀ : Heap} {L T D T' D' : Addr} {news : List (Addr × Obj)} {vs vs' : List Value} {ws : List Str} {e : Int} {t t' : Tok} {c c' k k' : Nat} (N : News h₀ L s.heap news)
    (hT : (T, ({ cls := .type "tuple", data := .seq #[.ref D, .int e t] c } : Obj)) ∈ news) (hD : (D, lstO vs k) ∈ news) (hT' : (T', ({ cls := .type "tuple", data := .seq #[.ref D', .int e t'] c' } : Obj)) ∈ news) (hD' : (D', lstO vs' k') ∈ news)
    (hS : StrsAre vs ws) (hS' : StrsAre vs' ws) (hok : ∀ x ∈ ws, PyData.strOk x = true) (hu : A.units + 64 < cLine) (h : Q (.bool false) s) : wpAny (model prog w) A (compareOp .NotEq (.ref T) (.ref T')) Q E s := by
  have hs : SeqAt.shaped (.tuple [.list (ws.map PyData.str), .int e]) = true := by
    unfold SeqAt.shaped
    have h1 : PyData.canLay0 (.tuple [.list (ws.map PyData.str), .int e]) = true := by
      show (PyData.canLayAll0 (ws.map PyData.str) && (true && true)) = true
      rw [strs_lay hok]; rfl
    have h2 : PyData.depth (.tuple [.list (ws.map PyData.str), .int e]) ≤ 64 := by
      show max (PyData.depthAll (ws.map PyData.str) + 1) (max 0 0) + 1 ≤ 64
      rw [strs_depth]; decide
    rw [h1, decide_eq_true h2]; rfl
  have r : ∀ {T D : Addr} {vs : List Value} {t : Tok} {c k : Nat}, (T, ({ cls := .type "tuple", data := .seq #[.ref D, .int e t] c } : Obj)) ∈ news → (D, lstO vs k) ∈ news → StrsAre vs ws → ∃ as, Reads s.heap (.ref T) (.tuple [.list (ws.map PyData.str), .int e]) as := fun hT hD hS =>
    ⟨_, reads_tuple_at (N.get hT) rfl rfl (.cons (reads_newData (News.isList N hD) hS.carried) (.cons (.int _ _) .nil))⟩
  obtain ⟨as, ra⟩ := r hT hD hS
  obtain ⟨bs, rb⟩ := r hT' hD' hS'
  refine ne_dataH ra rb hs hs hu ?_
  have e1 : PyData.eqv (.tuple [.list (ws.map PyData.str), .int e]) (.tuple [.list (ws.map PyData.str), .int e]) = true := by
    simp only [PyData.eqv, PyData.eqvAll, strs_eqv, beq_self_eq_true, Bool.and_true]
  rw [e1]
  exact h
end
theorem off_all {I : Nat} {io ko : Obj} : ∀ {nx : List (Addr × Obj)}, (∀ p ∈ nx, p.1 < I) → OffW [(I + 1, io), (I, ko)] nx
  | [], _ => trivial
  | p :: r, h => ⟨⟨.inl (Nat.ne_of_lt (Nat.lt_succ_of_lt (h p (List.mem_cons_self ..)))), .inl (Nat.ne_of_lt (h p (List.mem_cons_self ..))), trivial⟩, off_all fun q hq => h q (List.mem_cons_of_mem _ hq)⟩
theorem picked_upto {b : Array UInt8} {ks : List Int} (n : Nat) (h : KBw.bInts (KBy.picked b none (some (n : Int))) = (ks.drop ((none : Option Int).elim 0 (clipAt ks.length))).take ((some (n : Int)).elim ks.length (clipAt ks.length) - (none : Option Int).elim 0 (clipAt ks.length))) : KBw.bInts (KBy.picked b none (some (n : Int))) = ks.take n := by
  rw [h]
  simp only [Option.elim, clipAt_nat, List.drop_zero, Nat.sub_zero]
  exact kmk_take_min ks n
theorem news_tail {h₀ h : Heap} {L : Addr} {a : Addr × Obj} {l : List (Addr × Obj)} (N : News h₀ L h (a :: l)) : News h₀ L h l := fun q hq => N q (List.mem_cons_of_mem _ hq)
def chrS (k : Int) : Str := ⟨#[k.toNat]⟩
def JChr (nx : List (Addr × Obj)) (ns : List Int) (i : Nat) (ys : List Value) (nw : List (Addr × Obj)) : Prop := StrsAre ys ((ns.take i).map chrS) ∧ nw = nx
theorem jchr_snoc {nx : List (Addr × Obj)} {ns : List Int} {i : Nat} {ys : List Value} {k : Int} {t : Tok} (h : StrsAre ys ((ns.take i).map chrS)) (hk : ns[i]? = some k) : JChr nx ns (i + 1) (ys ++ [.str ⟨#[k.toNat]⟩ t]) nx := by
  refine ⟨?_, rfl⟩
  rw [List.take_add_one, hk, List.map_append]
  exact strs_append h (.cons _ _ .nil)
theorem join_chrs : ∀ ns : List Int, Txt.join (Str.ofString "") (ns.map chrS) = wordStr ns := by
  intro ns
  show Builtin.Str.glued (PySem.Str.ofString "") (ns.map chrS) = _
  rw [StrLaws.glued_eq_join]
  have he : PySem.Str.ofString "" = (⟨#[]⟩ : Str) := rfl
  rw [he]
  induction ns with
  | nil => rfl
  | cons a r ih =>
    rw [wordStr_cons]
    cases r with
    | nil => exact (str_app_nil _).symm
    | cons b r =>
      show chrS a ++ ⟨#[]⟩ ++ Str.join ⟨#[]⟩ ((b :: r).map chrS) = _
      rw [ih, str_app_nil]; rfl
theorem chrs_sum : ∀ ns : List Int, ((ns.map chrS).map (·.length)).sum = ns.length
  | [] => rfl
  | _ :: r => by
    rw [List.map_cons, List.map_cons, List.sum_cons, chrs_sum r, List.length_cons]
    show 1 + r.length = _
    omega
end Mine
end

section
open PySem PySem.W PyProof.Rows
set_option maxRecDepth 100000
set_option maxHeartbeats 8000000
namespace Mine
local macro_rules | `(tactic| k_all) => `(tactic| with_reducible assumption)
local macro_rules | `(tactic| walk_at "call ref") => `(tactic| (k_here; (with_reducible show wpAny _ _ (PySem.call (Value.ref 53) _) _ _ _); refine hold ?_))
local macro_rules | `(tactic| walk_at "call ref") => `(tactic| (k_here; (with_reducible show wpAny _ _ (PySem.call (Value.ref 61) _) _ _ _); refine hold ?_))
local macro_rules | `(tactic| walk_at "call ref") => `(tactic| (k_here; (with_reducible show wpAny _ _ (PySem.call (Value.ref 68) _) _ _ _); k_dflt (refine' take_use ?k1 ?k2 ?k3 ?k4 ?k5 ?k6 ?k7 ?k8 ?k9 ?k10 ?k11 ?k12 ?_; (case k1 => k_asm); (case k2 => k_asm); (case k3 => k_asm); (case k4 => k_asm); (case k5 => k_updF); (case k6 => assumption); (case k7 => k_asm); (case k8 => first | exact rfl | assumption); (case k9 => first | decide | omega); (case k10 => first | decide | omega); (case k11 => ktr_room); (case k12 => ktr_units)); intro v9 o9 tv9 h9 tk9 hv9 hw9 hP9 F9 N9; (try dsimp only at N9)))
local macro_rules | `(tactic| walk_at "call ref") => `(tactic| (k_here; (with_reducible show wpAny _ _ (PySem.call (Value.ref 75) [_, Value.ref 54]) _ _ _); k_dflt (refine' one_blanks_use ?k1 ?k2 ?k3 ?k4 ?k5 ?k6 ?k7 ?k8 ?k9 ?k10 ?_; (case k1 => k_asm); (case k2 => k_asm); (case k3 => k_asm); (case k4 => k_asm); (case k5 => k_updF); (case k6 => assumption); (case k7 => k_asm); (case k8 => first | exact rfl | assumption); (case k9 => ktr_room); (case k10 => ktr_units)); intro v9 o9 tv9 h9 tk9 hv9 hP9 F9 N9; (try dsimp only at N9)))
local macro_rules | `(tactic| walk_at "call ref") => `(tactic| (k_here; (with_reducible show wpAny _ _ (PySem.call (Value.ref 80) _) _ _ _); k_dflt (refine' word_use ?k1 ?k2 ?k3 ?k4 ?k5 ?k6 ?k7 ?k8 ?k9 ?k10 ?_; (case k1 => k_asm); (case k2 => k_asm); (case k3 => k_asm); (case k4 => k_asm); (case k5 => k_updF); (case k6 => assumption); (case k7 => k_asm); (case k8 => first | exact rfl | assumption); (case k9 => ktr_room); (case k10 => ktr_units)); intro o9 D9 vs9 ns9 h9 tk9 hI9 hl09 hl9 hb9 hP9 F9 N9 off9; (try dsimp only at N9); (replace off9 := neqAll off9); (simp only [NeqAll] at off9); (repeat (obtain ⟨x9, off9⟩ := off9))))
local macro_rules | `(tactic| walk_at "call ref") => `(tactic| (k_here; (with_reducible show wpAny _ _ (PySem.call (Value.ref 85) _) _ _ _); k_dflt (refine' gap_use ?k1 ?k2 ?k3 ?k4 ?k5 ?k6 ?k7 ?k8 ?k9 ?k10 ?_; (case k1 => k_asm); (case k2 => k_asm); (case k3 => k_asm); (case k4 => k_asm); (case k5 => k_updF); (case k6 => assumption); (case k7 => k_asm); (case k8 => first | exact rfl | assumption); (case k9 => ktr_room); (case k10 => ktr_units)); intro o9 D9 vs9 ns9 h9 tk9 hI9 hl9 hb9 hP9 F9 N9 off9; (try dsimp only at N9); (replace off9 := neqAll off9); (simp only [NeqAll] at off9); (repeat (obtain ⟨x9, off9⟩ := off9))))
local macro_rules | `(tactic| walk_at "call ref") => `(tactic| (k_here; (with_reducible show wpAny _ _ (PySem.call (Value.ref 92) _) _ _ _); refine hold ?_))
local macro_rules | `(tactic| walk_at "exec For Name Call cons nil") => `(tactic| (k_here; refine hold ?_))
local macro_rules | `(tactic| walk_at "exec For Tuple Call cons nil") => `(tactic| (k_here; refine hold ?_))
local macro_rules | `(tactic| k_ne) => `(tactic| ((refine Neq.ne ?_); (try dsimp only); first | assumption | (refine Neq.symm ?_; assumption)))
local macro_rules | `(tactic| walk_at "call builtin:list.append") => `(tactic| (k_here; refine hold ?_))
local macro_rules | `(tactic| walk_at "call type:enumerate") => `(tactic| (k_here; refine hold ?_))
local macro_rules | `(tactic| walk_at "subscriptTail Name Slice ref ref") => `(tactic| (k_here; refine hold ?_))
local macro_rules | `(tactic| walk_at "compareOp NotEq ref ref") => `(tactic| (k_here; (with_reducible rename LCg.Off1 _ _ => mk9); refine hold ?_))
local macro_rules | `(tactic| walk_at "subscriptTail Name UnaryOp ref int") => `(tactic| (k_here; refine hold ?_))
local macro_rules | `(tactic| walk_at "subscriptTail Name Slice bytes ref") => `(tactic| (k_here; refine hold ?_))
local macro_rules | `(tactic| walk_at "UnrEndW") => `(tactic| refine hold ?_)
local macro_rules | `(tactic| walk_at "CompSrc") => `(tactic| (k_here; refine hold ?_))
local macro_rules | `(tactic| walk_at "CompEnd") => `(tactic| (k_here; refine hold ?_))
local macro_rules | `(tactic| walk_at "pyIter ref") => `(tactic| (k_here; (with_reducible show wpAny _ _ (pyIter (Value.ref _)) (fun it s₂ => TurnsAt _ _ _ _ _ _ _ _ _ it s₂) _ _); refine hold ?_))
theorem strs_two {vs : List Value} {a b : Str} (h : StrsAre vs [a, b]) : ∃ t u, vs = [.str a t, .str b u] := by
  cases h with
  | cons a' t h => cases h with
    | cons b' u h => cases h; exact ⟨_, _, rfl⟩
theorem objs_one {I : Addr} {c : String} {its : List (Addr × Obj)} (h : Objs [(I, c)] its) : ∃ io : Obj, its = [(I, io)] ∧ io.cls = .type c := by
  cases its with
  | nil => exact h.elim
  | cons p r =>
    obtain ⟨⟨h1, h2⟩, h3⟩ := h
    cases r with
    | nil => obtain ⟨a, o⟩ := p; dsimp only at h1 h2; subst h1; exact ⟨o, rfl, h2⟩
    | cons _ _ => exact h3.elim
theorem pick7 {h₀ h : Heap} {L : Addr} {a b c d e f g : Addr × Obj} (N : News h₀ L h [a, b, c, d, e, f, g]) : News h₀ L h [a, g] := by
  intro q hq
  rcases List.mem_cons.mp hq with rfl | hq
  · exact N _ (by simp)
  · rw [List.mem_singleton.mp hq]; exact N _ (by simp)
theorem law_holds : PySem.Challenge.rw_xm0706_01.Holds := Mine.hd (by
  w_top off
  w_strict (
  k_go0; (all_goals try k_fold); k_steps
  refine hold_out ?_
  k_dflt (refine' read_use (ks := [65, 13, 66, 32, 67, 32]) (many := 2) (ws := [Str.ofString "A", Str.ofString "B"]) (e := 4) ?k1 ?k2 ?k3 ?k4 ?k5 ?k6 ?k7 ?k8 ?k9 ?k10 ?k11 ?k12 ?_; (case k1 => k_asm); (case k2 => k_asm); (case k3 => k_asm); (case k4 => k_asm); (case k5 => k_asm); (case k6 => exact rfl); (case k7 => kernel_rfl); (case k8 => decide); (case k9 => decide); (case k10 => first | rfl | decide +kernel); (case k11 => ktr_room); (case k12 => ktr_units))
  intro D Tp vs t c c' h9 tk9 hS F9 N9 off1 off2
  obtain ⟨t1, t2, rfl⟩ := strs_two hS
  simp only [LCg.Off1] at off1 off2
  obtain ⟨o1, o2, o3, _⟩ := off1
  obtain ⟨o4, o5, _⟩ := off2
  k_steps
  refine hold_out ?_
  k_dflt (refine' pool_use ?k1 ?k2 ?k3 ?k4 ?k5 ?k6 ?k7 ?k8 ?k9 ?k10 ?k11 ?_; (case k1 => k_asm); (case k2 => k_asm); (case k3 => k_asm); (case k4 => k_asm); (case k5 => k_asm); (case k6 => exact rfl); (case k7 => assumption); (case k8 => assumption); (case k9 => omega); (case k10 => ktr_room); (case k11 => ktr_units))
  intro o' S h8 tk8 hP F8 N8 off3
  simp only [LCg.Off1] at off3
  obtain ⟨_, _, _, _, _, nsc, _⟩ := off3
  have N7 := pick7 N8
  replace nsc := neq_of nsc
  clear N8 o1 o2 o3 o4 o5 hS
  refine storeX_C F8 N7 (by rfl) (by k_updF) (by assumption) ?_
  intro h7 oc F7 N6 hoc
  clear N7 F8
  k_steps
  refine hold_out ?_
  rename_i o9 gr vs9 ns9 ha9 tka9 hI9 hl9 hb9 hP9 q91 q92 wl hb1 lw el hc1 le D2 hd1 lD2 hh1 hh2 hh3 hh4 F9 N9
  (with_unfolding_all refine' For_turns F9 ?_; k_whole)
  k_steps
  refine hold_out ?_
  rename_i v0 o0 tv0 h0 tk0 hv0 hw0 hP0 F0 N0 h1 tk1 t₁ u₁ v₁ hR1 F1 N1 hk1
  have N1' := news_tail N1
  have nel : (Neq el wl) ∧ (Neq el S) ∧ (Neq el _) ∧ (Neq wl S) ∧ (Neq wl _) ∧ (Neq S _) := ⟨Nat.ne_of_gt le.1, Nat.ne_of_gt le.2.2.1, Nat.ne_of_gt le.2.2.2, Nat.ne_of_gt lw.2.1, Nat.ne_of_gt lw.2.2, Neq.symm nsc⟩
  clear F9 N9 F0 N0 N1 hk1 lD2
  refine iter_rangeTurns (by rfl) hR1 (small_one (by omega) (by omega) (by omega) (by omega)) (rangeSize_nat _ _) F1 N1' ?_
  intro I lI
  refine turns_inv (Inv1 el wl S _ oc) ⟨gr, vs9, _, ns9, [], 0, [], [_], 0, [0], o0, rfl, rfl, rfl, rfl, hP0, hI9, .nil, .cons _ _ .nil, built_base hb9, rfl, hl9, Nat.ne_of_lt le.2.1, Nat.ne_of_lt lw.1, Neq.symm q91, Neq.symm q92⟩ ?_ ?_
  · intro i a m₁ nx v h tk its hi hv hJ hits F N
    obtain ⟨hlt, tv, rfl⟩ := range_turn hi hv
    obtain ⟨io, rfl, hio⟩ := objs_one hits
    obtain ⟨r, rvs, rc, rns, wvs, wc, ws, evs, ec, es, o, rfl, e1, e2, e3, hP, hIr, hSw, hIe, hB, hwl, hrl, nr1, nr2, nr3, nr4⟩ := hJ
    obtain ⟨ne1, ne2, ne3, ne4, ne5, ne6⟩ := nel
    have F8 := fr_kst (ps := [(Str.ofString "row", .ref r), (Str.ofString "words", .ref wl), (Str.ofString "ends", .ref el)]) (by simp only [List.forall_mem_cons, List.not_mem_nil, false_implies, implies_true, and_true]; exact ⟨e1, e2, e3⟩) F
    clear F
    simp only [List.cons_append, List.nil_append] at N
    have i1 : Neq I el := Nat.ne_of_gt (lI _ (List.mem_cons_self ..))
    have i2 : Neq I wl := Nat.ne_of_gt (lI _ (List.mem_cons_of_mem _ (List.mem_cons_self ..)))
    have i4 : Neq I S := Nat.ne_of_gt (lI _ (List.mem_cons_of_mem _ (List.mem_cons_of_mem _ (List.mem_cons_of_mem _ (List.mem_cons_self ..)))))
    have i5 : Neq I _ := Nat.ne_of_gt (lI _ (List.mem_cons_of_mem _ (List.mem_cons_of_mem _ (List.mem_cons_of_mem _ (List.mem_cons_of_mem _ (List.mem_cons_self ..))))))
    have i3 : Neq I r := ne_cls (d := "list") N (List.mem_cons_self ..) (.tail _ (.tail _ (.tail _ (.head _)))) hio rfl (by decide)
    k_steps
    refine hold_out ?_
    rename_i h4 o6 wd vw nw h6 tk6 hIw hw0 hw3 hwb hP6 w1 w2 w3 w4 w5 w6 h5 F5 N5
    refine LCg.CompSrc.ledger (by rfl) (by k_asm) (by k_asm) (by k_mem) (by rw [PySem.sizeLine_eq]; simp only [List.size_toArray, hIw.length]; omega) ?_
    intro gg
    refine comp_inv (JChr _ nw) ⟨.nil, rfl⟩ ?_ ?_
    · rintro j v I oI C oC D m₂ ys nw h tk E' hj hv ⟨hS, rfl⟩ hC hx F2 N2 off ne
      have offK := off
      clear off ne
      obtain ⟨k, t, rfl, hk9⟩ := IntsAre.at hIw j v (by simpa using hv)
      have hkb := hwb k (List.mem_of_getElem? hk9)
      have hkb0 : 0 ≤ k := hkb.1
      have hkb1 : k < 256 := hkb.2.1
      (try k_fold)
      k_steps
      refine hold_out (LCg.CompEnd.intro (by k_asm) (by assumption) _ (fun _ hp => hp) offK (Or.inr ⟨_, by k_mem, rfl, _, rfl⟩) (jchr_snoc hS hk9))
    · rintro ys nz ⟨hS, rfl⟩
      rw [List.size_toArray, hIw.length, List.take_length] at hS
      k_steps
      rename_i dj hj tkj Fj Nj oj
      clear oj
      refine join_listW (x := Str.ofString "") (ys := nw.map chrS) (News.isList Nj (List.mem_cons_self ..)) hS (by decide) (by rw [chrs_sum, List.length_map]; omega) ?_
      intro tj kj
      rw [join_chrs]
      have Nj' := news_tail Nj
      clear Nj
      k_steps
      refine hold_out ?_
      k_dflt (refine' append_K ?k1 ?k2 ?k3 ?_ ?z; (case k1 => k_asm); (case k2 => k_asm); (case k3 => k_upd); (case z => rw [List.size_toArray, PyProof.Rows.StrsAre.length hSw, PySem.sizeLine_eq]; omega))
      intro hz Fz Nz
      simp only [List.push_toArray] at Nz
      clear Nj' Fj N5 F5 F8 N hI9 hS
      k_steps
      refine hold_out ?_
      have hel := hB.elen
      k_dflt (refine' append_K ?k1 ?k2 ?k3 ?_ ?z; (case k1 => k_asm); (case k2 => k_asm); (case k3 => k_upd); (case z => rw [List.size_toArray, PyProof.Rows.IntsAre.length hIe, PySem.sizeLine_eq]; omega))
      intro hy Fy Ny
      simp only [List.push_toArray] at Ny
      k_steps
      rename_i v9 o9 tv9 h9 tk9 hv9 hP9 l2 h2 l12 D3 ws3 h3 hI3 l13 h4 tkA tkB o5 D5 vs5 ns5 h5 tk5 hI5 hl5 hb5 hP5 x1 x2 x3 x4 x5 x6 x7 x8 x9 xa D6 ws6 h6 hI6 l16 h7 F7 N7
      obtain ⟨_, _, _, _, _, g1, g2, g3, _, g5, g6⟩ := l16
      have hB' := built_step hB hwb hw0 hv9 hb5
      have hlen : (rns ++ nw ++ [v9]).length = rns.length + nw.length + 1 := by simp only [List.length_append, List.length_cons, List.length_nil]
      rw [hlen] at hB'
      refine hold_out (UnrEndW.intro F7 N7 [(el, lstO (evs ++ [_]) (ec + 1)), (wl, lstO (wvs ++ [_]) (wc + 1)), (D6, lstO ws6 0), (S, o5), (_, oc)] ⟨(.tail _ (.tail _ (.tail _ (.tail _ (.tail _ (.tail _ (.head _))))))), trivial⟩ ⟨(.tail _ (.tail _ (.tail _ (.tail _ (.tail _ (.tail _ (.tail _ (.head _)))))))), (.tail _ (.tail _ (.tail _ (.tail _ (.tail _ (.tail _ (.tail _ (.tail _ (.head _))))))))), (.head _), (.tail _ (.tail _ (.tail _ (.tail _ (.tail _ (.tail _ (.tail _ (.tail _ (.tail _ (.tail _ (.head _))))))))))), (.tail _ (.tail _ (.tail _ (.tail _ (.tail _ (.tail _ (.tail _ (.tail _ (.tail _ (.tail _ (.tail _ (.head _)))))))))))), trivial⟩
        ⟨⟨.inl (Neq.symm i1), trivial⟩, ⟨.inl (Neq.symm i2), trivial⟩, ⟨.inl (Nat.ne_of_gt g1), trivial⟩, ⟨.inl (Neq.symm i4), trivial⟩, ⟨.inl (Neq.symm i5), trivial⟩, trivial⟩
        ⟨trivial, D6, ws6, 0, _, wvs ++ [_], wc + 1, _, evs ++ [_], ec + 1, _, o5, rfl, rfl, rfl, rfl, hP5, hI6, strs_append hSw (.cons _ _ .nil), hIe.append (.cons _ _ .nil), hB', ?_, ?_, Nat.ne_of_gt g2, Nat.ne_of_gt g3, Nat.ne_of_gt g5, Nat.ne_of_gt g6⟩)
      · rw [List.length_append, hwl]; rfl
      · simp only [List.length_append, List.length_cons, List.length_nil]; omega
  · intro m' n' h tk hJ F N
    rw [rangeItems_length] at hJ
    obtain ⟨r, rvs, rc, rns, wvs, wc, ws, evs, ec, es, o, rfl, e1, e2, e3, hP, hIr, hSw, hIe, hB, hwl, hrl, nr1, nr2, nr3, nr4⟩ := hJ
    obtain ⟨ne1, ne2, ne3, ne4, ne5, ne6⟩ := nel
    have F8 := fr_kst (ps := [(Str.ofString "row", .ref r), (Str.ofString "words", .ref wl), (Str.ofString "ends", .ref el)]) (by simp only [List.forall_mem_cons, List.not_mem_nil, false_implies, implies_true, and_true]; exact ⟨e1, e2, e3⟩) F
    clear F
    have hw1 : 1 ≤ ws.length := by omega
    have hw4 : ws.length ≤ 4 := by omega
    k_steps
    refine hold_out ?_
    rename_i v5 o5 tv5 h5 tk5 hv5 hw5 hP5 F5 N5 h6 tk6 t6 u6 w6 hR6 F6 N6 hk6
    refine LCg.CompSrc.range (by rfl) (by k_asm) (by k_asm) (by assumption) (small_one (by omega) (by omega) (by omega) (by omega)) (rangeSize_nat _ _) (by rw [PySem.sizeLine_eq]; omega) ?_
    intro gg
    refine comp_inv (JTail (fun o => [(el, lstO evs ec), (wl, lstO wvs wc), (r, lstO rvs rc), (S, o), (_, oc)])) ⟨o5, [], hP5, .nil, rfl, fun _ h => (nomatch h), rfl⟩ ?_ ?_
    · rintro j v I oI C oC D m₂ ys nw h tk E' hj hv ⟨o', ns, hPo, hIn, hln, hbn, rfl⟩ hC hx F2 N2 off ne
      obtain ⟨⟨i1, i2, i3, i4, i5, _⟩, ⟨c1, c2, c3, c4, c5, _⟩, ⟨d1, d2, d3, d4, d5, _⟩⟩ := off3_neq off
      have offK := off
      replace ne : Neq I C ∧ Neq I D ∧ Neq C D := ne
      obtain ⟨n1, n2, n3⟩ := ne
      clear off
      (try k_fold)
      k_steps
      rename_i v9 o9 tv9 h9 tk9 hv9 hw9 hP9 F9 N9
      exact hold_out (LCg.CompEnd.intro F9 N9 [(el, lstO evs ec), (wl, lstO wvs wc), (r, lstO rvs rc), (S, o9), (_, oc)] (fun _ hp => hp) offK trivial (jtail_snoc hP9 hIn hln hbn hv9 hw9))
    · rintro ys nz ⟨o', ns, hPo, hIn, hln, hbn, rfl⟩
      k_steps
      rename_i D7 h7 tk7 od7 D8 ws8 h8 F8 N8 hI8 l8
      clear od7
      have hoct : ∀ n ∈ rns ++ ns, 0 ≤ n ∧ n < 256 := fun n hn => (List.mem_append.mp hn).elim (hB.octs n) (hbn n)
      have hklen : (rns ++ ns).length ≤ 40 := by rw [List.length_append]; omega
      refine KBa.make_K F8 N8 rfl (News.isList N8 (List.mem_cons_self ..)) hI8 hoct (by omega) ?_
      intro h9 tb k9 F9 N9 hI9
      have hbk := KBa.ints_make hI9
      generalize byteArr (rns ++ ns) = b at hbk
      have N9' := news_tail (news_tail N9)
      clear N9 N8 F8
      k_steps
      refine hold_out ?_
      rename_i ho Fo No
      (with_unfolding_all refine' For_turns Fo ?_; k_whole)
      k_steps
      refine hold_out ?_
      refine ktu_enum (lo := lstO evs ec) (vs := evs) (n := ec) (by rfl) Fo No (List.mem_cons_self ..) rfl rfl rfl ?_
      intro I lI
      refine turns_inv (Inv2 _ wl el b tb) ⟨rfl, rfl, rfl, rfl⟩ ?_ ?_
      · intro i a m₁ nx v h tk its hi hv hJ hits F N
        obtain ⟨hlt, k, T, t, u, hke, rfl, hT⟩ := enum_turn hIe hi hv
        obtain ⟨io, ko, rfl, hio, hko⟩ := objs_two hits
        obtain ⟨rfl, f1, f2, f3⟩ := hJ
        have F8 := fr_kst (ps := [(Str.ofString "octets", .bytes b tb), (Str.ofString "words", .ref wl), (Str.ofString "ends", .ref el)]) (by simp only [List.forall_mem_cons, List.not_mem_nil, false_implies, implies_true, and_true]; exact ⟨f3, f1, f2⟩) F
        clear F
        simp only [List.cons_append, List.nil_append] at N
        have hel := hB.elen
        obtain ⟨e, hee, hsc⟩ := hB.told i (by omega)
        obtain rfl : k = (e : Int) := by rw [hke] at hee; exact Option.some.inj hee
        k_steps
        refine hold_out ?_
        k_dflt (refine' read_use (ks := rns ++ ns) (many := i) (ws := ws.take i) (e := e) ?k1 ?k2 ?k3 ?k4 ?k5 ?k6 ?k7 ?k8 ?k9 ?k10 ?k11 ?k12 ?_; (case k1 => k_asm); (case k2 => k_asm); (case k3 => k_asm); (case k4 => k_asm); (case k5 => k_asm); (case k6 => exact rfl); (case k7 => assumption); (case k8 => omega); (case k9 => omega); (case k10 => exact hsc ns); (case k11 => ktr_room); (case k12 => ktr_units))
        intro Dr Tr vr tr cr cr' hr tkr hSr Fr' Nr offr offs
        k_steps
        refine hold_out ?_
        k_dflt (refine' kmk_slice (its := wvs.toArray) Fr' Nr (News.isList Nr (.tail _ (.tail _ (.tail _ (.tail _ (.tail _ (.head _))))))) IsPart.none (IsPart.int _ _) ?_ ?s ?t ?z; (case s => with_unfolding_all rfl); (case t => intro _; with_unfolding_all rfl); (case z => rw [List.size_toArray, PyProof.Rows.StrsAre.length hSw, PySem.sizeLine_eq]; omega))
        intro Dl hl Fl Nl ll
        rw [pick_upto] at Nl
        k_steps
        rename_i T2 h2 F2 N2 l2
        refine hold_out (told_ne N2 (.tail _ (.tail _ (.head _))) (.tail _ (.tail _ (.tail _ (.head _)))) (.head _) (.tail _ (.head _)) hSr (strs_take i hSw) (fun x hx => hB.ok x (List.mem_of_mem_take hx)) (by ke_room) ?_)
        k_steps
        refine hold_out (UnrEndW.intro F2 N2 [(el, lstO evs ec), (wl, lstO wvs wc), (r, lstO rvs rc), (S, o'), (_, oc)] ⟨(.tail _ (.tail _ (.tail _ (.tail _ (.head _))))), (.tail _ (.tail _ (.tail _ (.tail _ (.tail _ (.head _)))))), trivial⟩ ⟨(.tail _ (.tail _ (.tail _ (.tail _ (.tail _ (.tail _ (.head _))))))), (.tail _ (.tail _ (.tail _ (.tail _ (.tail _ (.tail _ (.tail _ (.head _)))))))), (.tail _ (.tail _ (.tail _ (.tail _ (.tail _ (.tail _ (.tail _ (.tail _ (.head _))))))))), (.tail _ (.tail _ (.tail _ (.tail _ (.tail _ (.tail _ (.tail _ (.tail _ (.tail _ (.head _)))))))))), (.tail _ (.tail _ (.tail _ (.tail _ (.tail _ (.tail _ (.tail _ (.tail _ (.tail _ (.tail _ (.head _))))))))))), trivial⟩ (off_all lI) ⟨⟨(.head _), trivial⟩, rfl, rfl, rfl, rfl⟩)
      · rintro m₁ nx h tk ⟨rfl, f1, f2, f3⟩ F N
        have F8 := fr_kst (ps := [(Str.ofString "octets", .bytes b tb), (Str.ofString "words", .ref wl), (Str.ofString "ends", .ref el)]) (by simp only [List.forall_mem_cons, List.not_mem_nil, false_implies, implies_true, and_true]; exact ⟨f3, f1, f2⟩) F
        clear F
        have hel := hB.elen
        obtain ⟨e, hee, hle, he0, hcut⟩ := hB.last
        have he1 : 0 < e := he0 (fun q => by rw [q] at hw1; exact absurd hw1 (by decide))
        have hlast : es.getD ((-1 : Int) + es.length).toNat 0 = (e : Int) := by
          have q : ((-1 : Int) + es.length).toNat = ws.length := by omega
          rw [q, List.getD_eq_getElem?_getD, hee]; rfl
        k_steps
        refine hold_out ?_
        refine item_list_ints_neg (News.isList N (List.mem_cons_self ..)) hIe (by decide) (by omega) (by decide) ?_
        intro tl
        rw [hlast]
        k_steps
        rename_i v9 o9 tv9 h9 tk9 hv9 hw9 hP9 F9 N9
        obtain ⟨n, rfl⟩ := Int.eq_ofNat_of_zero_le hv9
        refine hold_out ?_
        k_dflt (refine' KBc.slice_K (s := ⟨_, _, _, _, _⟩) F9 N9 hbk IsPart.none (IsPart.int _ _) ?z ?_; (case z => omega))
        intro ha ta ka Fa Na hK
        replace hK := picked_upto n hK
        generalize KBy.picked b none (some (n : Int)) = b2 at hK ⊢
        have hne : n < e := by omega
        have htk : (rns ++ ns).take n = rns.take n := List.take_append_of_le_length (by omega)
        rw [htk] at hK
        have hscan := hcut n hne
        have hkn : (rns.take n).length ≤ 1000 := by rw [List.length_take]; omega
        k_steps
        refine hold_out ?_
        k_dflt (refine' short_use (ks := rns.take n) (many := ws.length) ?k1 ?k2 ?k3 ?k4 ?k5 ?k6 ?k7 ?k8 ?k9 ?k10 ?k11 ?k12 ?k13 ?k14 ?_; (case k1 => k_asm); (case k2 => k_asm); (case k3 => k_asm); (case k4 => k_asm); (case k5 => k_asm); (case k6 => exact rfl); (case k7 => k_asm); (case k8 => k_asm); (case k9 => assumption); (case k10 => assumption); (case k11 => omega); (case k12 => assumption); (case k13 => ktr_room); (case k14 => ktr_units))
        intro hf tkf Ff
        k_steps))
end Mine
end

theorem PySem.Challenge.cw_xm0706_01_holds : PySem.Challenge.rw_xm0706_01.Holds := by
  exact Mine.law_holds
