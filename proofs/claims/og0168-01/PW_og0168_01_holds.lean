import PyProof.Rows.All
import Wide.All
import OpenK.AllK
import Wide.FinOn
import PySem.Challenge.RW_og0168_01
open PySem PySem.W PyProof.Rows
set_option Elab.async false
namespace Mine
set_option maxRecDepth 100000
set_option maxHeartbeats 8000000
structure Wrap (P : Prop) : Prop where
  out : P
section
local macro_rules
  | `(tactic| refine $f:ident (q := $q) (loose := $l) (Xt := $x) (XP := $xp) (Yf := $yf) (Ya := $ya) (YP := $yp) (N := $n) $_:term $b*) =>
    `(tactic| (refine' $f (q := $q) (loose := $l) (Xt := $x) (XP := $xp) (Yf := $yf) (Ya := $ya) (YP := $yp) (N := $n) (‹∀ L : Prop, L› _) $b*; (case' hw => exact ‹∀ L : Prop, L› _); (case' hc => exact Wrap.out ‹_›)))
/-- the walk's goal (P), read off the kit's head with the top's run left out -/
noncomputable def hw : { P : Prop // (∀ L : Prop, L) → Wrap P → PySem.Challenge.rw_og0168_01.Holds } := ⟨_, fun hF _ => by
  (w_on; refine holds_law (hF _) fun said => ?_; k_head)⟩
end
open PySem.Calls PySem.Spec
local macro_rules | `(tactic| k_room) => `(tactic| ktr_room)
local macro_rules | `(tactic| k_units) => `(tactic| ktr_units)
local macro_rules | `(tactic| k_all) => `(tactic| assumption)
local macro_rules | `(tactic| k_mem) => `(tactic| kcf_m)
local macro_rules | `(tactic| walk_at "aDraw") => `(tactic| (intro r9 n9 h9 tk9 F9 N9 q9; obtain ⟨D9, M9, u9, v9, w9, c9, e9, lo9, hi9, p9, s9⟩ := q9; subst e9; subst s9; (try dsimp only at N9); (try dsimp only); (try k_fold)))
local macro_rules | `(tactic| walk_at "aTable") => `(tactic| (intro r9 n9 h9 tk9 F9 N9 q9; obtain ⟨d9, T9, M9, c9, u9, v9, w9, tl9, e9, p9, lo9, hi9, s9, o9, tb9, tn9, nd9⟩ := q9; subst e9; subst s9; (try dsimp only at N9); (try dsimp only); (try k_fold)))
local macro_rules | `(tactic| walk_at $s:str) => `(tactic| k_extra $s)
section
set_option maxRecDepth 100000
set_option maxHeartbeats 8000000

abbrev Led := List (Addr × Obj)

def Ctr (w : World) (f : Addr) (d : Nat) (vs : List Value) (news : Led) (Ret : Value → Led → Prop) : Prop :=
  ∀ (dp un : Nat) (gd : Option (List Code)) (cn : Str) (cs : Scope) (a : Addr) (ccd : Value) (cl : List (Str × Addr)) (outer : List Env) (A₀ : Around) (base h₀ : Heap) (L : Addr) (m : Str → Option Value) (s : Shared) (Q E : Value → Shared → Prop) (mean : ExcName → Option Value) (mg mb : Str → Option Value),
    Below A₀ base outer h₀ → Fr h₀ L s.heap m → (hw.heap_1 w.params).In h₀ → News h₀ L s.heap news → Top hw.view_1 (looseW hw.view_1 [Str.ofString "PaperError", Str.ofString "told_objects", Str.ofString "VIEWS"]) mean mg mb h₀ → cs.kind = .function →
    dp + d < recursionLimit → un + 16 * d < cLine →
    (∀ r news' h' tk', Fr h₀ L h' m → News h₀ L h' news' → Ret r news' → Q r { s with heap := h', toks := tk' }) →
    wpAny (model PySem.Challenge.rw_og0168_01.row.prog w) (ktrTop dp un gd cn cs L a ccd cl outer) (call (.ref f) vs) Q E s

theorem small_div {a b : Int} (h : b.natAbs < 2 ^ 30) : Builtin.divisionGoesByPylong a b = false := by
  unfold Builtin.divisionGoesByPylong
  have : (if b == 0 then 0 else b.natAbs.log2 / 30 + 1) ≤ 1 := by
    split
    · omega
    · rename_i hb
      have hb : b ≠ 0 := by simpa using hb
      have h2 : b.natAbs.log2 < 30 := (Nat.log2_lt (by omega)).mpr h
      omega
  simp only [Bool.and_eq_false_iff, decide_eq_false_iff_not]
  left
  omega

theorem mulOk {a b : Int} (h : a.natAbs < 2 ^ 40) : IntMulOk a b := by
  refine IntMulOk.of_left ?_
  unfold Builtin.Int.intBits
  first
    | (split
       · omega
       · rename_i hb
         have h2 : a.natAbs.log2 < 40 := (Nat.log2_lt (by intro h0; simp_all)).mpr h
         omega)
    | skip

theorem ctr_draw0 {w : World} {pen : Addr} {N c many : Int} {t t1 t2 : Tok} {n : Nat} {rest : Led} (hN : 0 ≤ N) (hm : 0 < many) (hm9 : many ≤ 9) (hc : 0 ≤ c) (hc9 : c < 1000000)
    (hoff : ∀ p ∈ rest, p.1 ≠ pen) :
    Ctr w 415 2 [.ref pen, .int many t] ((pen, W.listOf #[.int N t1, .int c t2] n) :: rest) (fun r news' => ∃ (D N' : Int) (tr t1' t2' : Tok) (n' : Nat), r = .int D tr ∧ 0 ≤ D ∧ D < many ∧ 0 ≤ N' ∧ news' = (pen, W.listOf #[.int N' t1', .int (c + 1) t2'] n') :: rest) := by
  k_with_none
  w_top off
  (k_with "binaryOp Mult int int" => (with_reducible refine mul_int ?_ (mulOk (by simp only [List.getD_cons_zero, List.getD_cons_succ, Int.toNat_one, Int.toNat_zero, List.getD_eq_getElem?_getD]; simp; omega))))
  (k_with "binaryOp FloorDiv int int" => (with_reducible refine floordiv_int (by omega) ?_ (Or.inl (small_div (by omega)))))
  (k_with "binaryOp Mod int int" => (with_reducible refine mod_int' (by omega) ?_))
  unfold Ctr
  k_fill
  intro dp un gd cn cs a ccd cl outer A₀ base h₀ L m s Q E mean mg mb B F X N T hk hd hu hret
  refine wpAny_call ?_
  k_dflt cell_enter
  k_steps
  all_goals (
    refine hret _ _ _ _ (by assumption) (by assumption) ⟨_, _, _, _, _, _, rfl, Int.fmod_nonneg_of_pos _ hm, Int.fmod_lt_of_pos _ hm, ?_, rfl⟩)
  all_goals first | exact hN | exact Int.fdiv_nonneg hN (by omega)
end
section
set_option maxRecDepth 100000
set_option maxHeartbeats 8000000

inductive It where
  | none
  | int (i : Int)
  | dec
  | name (x : Str)
  | ref (k : Int)
inductive ItIn (news : Led) : Value → It → Prop
  | none : ItIn news Value.none It.none
  | int {i : Int} {t : Tok} : ItIn news (Value.int i t) (It.int i)
  | dec {a dx : Addr} {h1 h2 : Int} {t1 t2 t3 t4 : Tok} {n : Nat} : (a, instObj 143 dx) ∈ news → (dx, dictOf [⟨h1, .str (Str.ofString "top") t1, .int 15 t2⟩, ⟨h2, .str (Str.ofString "places") t3, .int 1 t4⟩] n) ∈ news → ItIn news (Value.ref a) It.dec
  | name {a dx : Addr} {h1 : Int} {t1 t2 : Tok} {n : Nat} {x : Str} : (a, instObj 171 dx) ∈ news → (dx, dictOf [⟨h1, .str (Str.ofString "text") t1, .str x t2⟩] n) ∈ news → ItIn news (Value.ref a) (It.name x)
  | ref {a dx : Addr} {h1 h2 k : Int} {t1 t2 t3 t4 : Tok} {n : Nat} : (a, instObj 242 dx) ∈ news → (dx, dictOf [⟨h1, .str (Str.ofString "number") t1, .int k t2⟩, ⟨h2, .str (Str.ofString "generation") t3, .int 0 t4⟩] n) ∈ news → ItIn news (Value.ref a) (It.ref k)
theorem ItIn.mono {n1 n2 : Led} (hs : ∀ p ∈ n1, p ∈ n2) {v : Value} {it : It} (h : ItIn n1 v it) : ItIn n2 v it := by
  cases h with
  | none => exact .none
  | int => exact .int
  | dec a b => exact .dec (hs _ a) (hs _ b)
  | name a b => exact .name (hs _ a) (hs _ b)
  | ref a b => exact .ref (hs _ a) (hs _ b)
theorem ItIn.up {n1 n2 : Led} {v : Value} {it : It} (h : ItIn n1 v it) (hs : ∀ p ∈ n1, p ∈ n2) : ItIn n2 v it := h.mono hs
def It.kind : It → Str
  | .none => Str.ofString "null"
  | .int _ => Str.ofString "int"
  | .dec => Str.ofString "real"
  | .name _ => Str.ofString "name"
  | .ref _ => Str.ofString "ref"

theorem Ctr.use {w : World} {f : Addr} {d : Nat} {vs : List Value} {news : Led} {Ret : Value → Led → Prop} {dp un : Nat} {gd : Option (List Code)} {cn : Str} {cs : Scope} {a : Addr} {ccd : Value} {cl : List (Str × Addr)} {outer : List Env} {A₀ : Around} {base h₀ : Heap} {L : Addr} {m : Str → Option Value} {s : Shared} {Q E : Value → Shared → Prop} {mean : ExcName → Option Value} {mg mb : Str → Option Value}
    (C : Ctr w f d vs news Ret) (B : Below A₀ base outer h₀) (F : Fr h₀ L s.heap m) (X : (hw.heap_1 w.params).In h₀) (N : News h₀ L s.heap news) (T : Top hw.view_1 (looseW hw.view_1 [Str.ofString "PaperError", Str.ofString "told_objects", Str.ofString "VIEWS"]) mean mg mb h₀) (hk : cs.kind = .function)
    (hd : dp + d < recursionLimit) (hu : un + 16 * d < cLine) (h : ∀ r news' h' tk', Fr h₀ L h' m → News h₀ L h' news' → Ret r news' → Q r { s with heap := h', toks := tk' }) :
    wpAny (model PySem.Challenge.rw_og0168_01.row.prog w) (ktrTop dp un gd cn cs L a ccd cl outer) (call (.ref f) vs) Q E s := C _ _ _ _ _ _ _ _ _ _ _ _ _ _ _ _ _ _ _ _ B F X N T hk hd hu h


theorem ctr_kind {w : World} {v : Value} {it : It} {news : Led} (hv : ItIn news v it) :
    Ctr w 253 2 [v] news (fun r news' => news' = news ∧ ∃ t, r = .str it.kind t) := by
  k_with_none
  w_top off
  unfold Ctr
  k_fill
  intro dp un gd cn cs a ccd cl outer A₀ base h₀ L m s Q E mean mg mb B F X N T hk hd hu hret
  cases hv
  all_goals (
    refine wpAny_call ?_
    k_dflt cell_enter
    k_steps)
  all_goals exact hret _ _ _ _ (by assumption) (by assumption) ⟨rfl, _, rfl⟩
theorem ctr_kindL {w : World} {l : Addr} {vs : List Value} {n : Nat} {news : Led} (hv : (l, W.listOf vs.toArray n) ∈ news) :
    Ctr w 253 2 [.ref l] news (fun r news' => news' = news ∧ ∃ t, r = .str (Str.ofString "array") t) := by
  k_with_none
  w_top off
  unfold Ctr
  k_fill
  intro dp un gd cn cs a ccd cl outer A₀ base h₀ L m s Q E mean mg mb B F X N T hk hd hu hret
  all_goals (
    refine wpAny_call ?_
    k_dflt cell_enter
    k_steps)
  all_goals exact hret _ _ _ _ (by assumption) (by assumption) ⟨rfl, _, rfl⟩
end
local macro_rules | `(tactic| tb_rel) => `(tactic| first | assumption | exact ItIn.up (by assumption) (by kcf_all))
section
set_option maxRecDepth 100000
set_option maxHeartbeats 8000000

theorem ctr_fetch {w : World} {self v : Value} {it : It} {news : Led} (hv : ItIn news v it) (hn : ∀ k, it ≠ .ref k) :
    Ctr w 287 2 [self, v] news (fun r news' => news' = news ∧ r = v) := by
  k_with_none
  w_top off
  (k_with "call ref" => ((k_here; (with_reducible show wpAny _ _ (call (Value.ref 253) [_]) _ _ _); k_dflt (refine' Ctr.use (ctr_kind ?z9kr) ?z9k1 ?z9k2 ?z9k3 ?z9k4 ?z9k5 ?z9k6 ?z9k7 ?z9k8 ?_; (case z9k1 => k_asm); (case z9k2 => k_asm); (case z9k3 => k_asm); (case z9k4 => k_asm); (case z9k5 => k_asm); (case z9k6 => first | exact rfl | assumption); (case z9k7 => ktr_room); (case z9k8 => ktr_units); (case z9kr => tb_rel)); rintro _ _ _ _ _ _ ⟨e9, _, d9⟩; subst e9; subst d9; (try dsimp only [It.kind]); (try k_fold))))
  unfold Ctr
  k_fill
  intro dp un gd cn cs a ccd cl outer A₀ base h₀ L m s Q E mean mg mb B F X N T hk hd hu hret
  cases hv
  case ref => exact absurd rfl (hn _)
  all_goals (
    refine wpAny_call ?_
    k_dflt cell_enter
    (k_with "pyIter ref" => kf1_first)
    k_steps)
  k_with_none
  all_goals exact hret _ news _ _ (by assumption) (cb_drop (by assumption) (by kcf_all)) ⟨rfl, rfl⟩
def It.told : It → Dat
  | .none => .tuple [.str (Str.ofString "null")]
  | .int i => .tuple [.str (Str.ofString "int"), .int i]
  | .dec => .tuple [.str (Str.ofString "real"), .int 15, .int 1]
  | .name x => .tuple [.str (Str.ofString "name"), .str x]
  | .ref k => .tuple [.str (Str.ofString "ref"), .int k, .int 0]
abbrev Ord (tl news : Led) : Prop := ∀ p ∈ tl, ∀ q ∈ news, @LT.lt Nat _ q.1 p.1
theorem ord1 {a : Addr} {o : Obj} {news : Led} (h : AllLt a news) : Ord [(a, o)] news := fun p hp q hq => by
  rw [List.mem_singleton.mp hp]; exact ktn_ltOf h q hq
theorem ctr_told1 {w : World} {v : Value} {it : It} {news : Led} (hv : ItIn news v it) :
    Ctr w 265 4 [v] news (fun r news' => ∃ tl, news' = tl ++ news ∧ Ord tl news ∧ DatIn tl r it.told) := by
  k_with_none
  w_top off
  (k_with "call ref" => ((k_here; (with_reducible show wpAny _ _ (call (Value.ref 253) [_]) _ _ _); k_dflt (refine' Ctr.use (ctr_kind ?z9kr) ?z9k1 ?z9k2 ?z9k3 ?z9k4 ?z9k5 ?z9k6 ?z9k7 ?z9k8 ?_; (case z9k1 => k_asm); (case z9k2 => k_asm); (case z9k3 => k_asm); (case z9k4 => k_asm); (case z9k5 => k_asm); (case z9k6 => first | exact rfl | assumption); (case z9k7 => ktr_room); (case z9k8 => ktr_units); (case z9kr => tb_rel)); rintro _ _ _ _ _ _ ⟨e9, _, d9⟩; subst e9; subst d9; (try dsimp only [It.kind]); (try k_fold))))
  unfold Ctr
  k_fill
  intro dp un gd cn cs a ccd cl outer A₀ base h₀ L m s Q E mean mg mb B F X N T hk hd hu hret
  obtain ⟨kd, nm, ig, ic, mr⟩ := cs
  cases hk
  have hv' := hv
  cases hv'
  all_goals (
    refine wpAny_call ?_
    k_dflt k_enter
    k_steps)
  all_goals
    refine hret _ ((_, _) :: news) _ _ (by assumption) (cb_drop (by assumption) (List.forall_mem_cons.mpr ⟨List.Mem.head _, by kcf_all⟩)) ⟨[_], rfl, ?_, DatIn.tuple (List.Mem.head _) (by kqd_all)⟩
  all_goals first | exact ord1 (by assumption) | exact ord1 (And.right (by assumption))
end
section
set_option maxRecDepth 100000
set_option maxHeartbeats 8000000

inductive ItAll (news : Led) : List Value → List It → Prop
  | nil : ItAll news [] []
  | cons {v : Value} {vs : List Value} {it : It} {its : List It} : ItIn news v it → ItAll news vs its → ItAll news (v :: vs) (it :: its)
theorem ItAll.mono {n1 n2 : Led} (hs : ∀ p ∈ n1, p ∈ n2) : ∀ {vs : List Value} {its : List It}, ItAll n1 vs its → ItAll n2 vs its
  | _, _, .nil => .nil
  | _, _, .cons h r => .cons (h.mono hs) (r.mono hs)
theorem ItAll.up {n1 n2 : Led} {vs : List Value} {its : List It} (h : ItAll n1 vs its) (hs : ∀ p ∈ n1, p ∈ n2) : ItAll n2 vs its := h.mono hs
theorem ItAll.length {n1 : Led} : ∀ {vs : List Value} {its : List It}, ItAll n1 vs its → vs.length = its.length
  | _, _, .nil => rfl
  | _, _, .cons _ r => by simp [r.length]
theorem ItAll.get {n1 : Led} : ∀ {vs : List Value} {its : List It}, ItAll n1 vs its → ∀ {i : Nat} {v : Value}, vs[i]? = some v → ∃ it, its[i]? = some it ∧ ItIn n1 v it
  | _, _, .nil, i, v, h => by simp at h
  | _, _, .cons hv r, 0, v, h => by
    simp only [List.getElem?_cons_zero, Option.some.injEq] at h
    subst h; exact ⟨_, rfl, hv⟩
  | _, _, .cons hv r, i + 1, v, h => by
    simp only [List.getElem?_cons_succ] at h ⊢
    exact r.get h
theorem ItAll.append {n1 : Led} : ∀ {vs ws : List Value} {its jts : List It}, ItAll n1 vs its → ItAll n1 ws jts → ItAll n1 (vs ++ ws) (its ++ jts)
  | _, _, _, _, .nil, k => k
  | _, _, _, _, .cons h r, k => .cons h (r.append k)

theorem comp_map {prog : Program} {w : World} {A : Around} {h₀ : Heap} {L : Addr} {m : Str → Option Value} {env : Env} {elt : PySem.Expr} {x : Str} {scope : Scope} {cl : List (Str × Addr)} {s : Shared} {S : List (Addr × Obj) → Prop} {P : Nat → Value → Prop} {Fin : List Value → List (Addr × Obj) → Prop} {news : Led} {n : Nat}
    (J : Nat → List Value → Led → Prop)
    (turn : ∀ i ys nx v I oI C oC D m₂ h tk (E' : Value → Shared → Prop), i < n → J i ys nx → P i v → LCg.NsObj oC m₂ → m₂ x = some v → Fr h₀ L h m → News h₀ L h ((I, oI) :: (C, oC) :: (D, LCg.lst ys) :: nx) → LCg.Off3 I C D nx → ((@Ne Nat I C) ∧ (@Ne Nat I D) ∧ (@Ne Nat C D)) →
      wpAny (model prog w) A (eval elt (compEnvC scope cl C env)) (LCg.CompEnd h₀ L m { s with heap := h, toks := tk } I oI C oC D (LCg.lst ys) S (fun y nx' => J (i + 1) (ys ++ [y]) nx')) E' { s with heap := h, toks := tk })
    (fin : ∀ ys nx, J n ys nx → Fin ys nx) (h0 : J 0 [] news) : LCg.CompRest prog w A h₀ L m env elt x scope cl s S P Fin n 0 [] news := by
  have key : ∀ (j i : Nat) (ys : List Value) (nx : Led), i + j = n → J i ys nx → LCg.CompRest prog w A h₀ L m env elt x scope cl s S P Fin j i ys nx := by
    intro j
    induction j with
    | zero =>
      intro i ys nx hi hJ
      obtain rfl : i = n := hi
      exact LCg.CompRest.zero (fin ys nx hJ)
    | succ j ih =>
      intro i ys nx hi hJ
      refine LCg.CompRest.succ ?_
      intro v I oI C oC D m₂ h tk E' hv hC hx F N off ne
      refine wpAny_mono (turn i ys nx v I oI C oC D m₂ h tk E' (by omega) hJ hv hC hx F N off ne) (fun y s₂ hq => ?_) fun _ _ e => e
      obtain ⟨h', tk', nw, e, F', N', off', hS, hJ'⟩ := hq
      exact ⟨h', tk', nw, e, F', N', off', hS, ih (i + 1) _ _ (by omega) hJ'⟩
  exact key n 0 [] news (by omega) h0

theorem Ord.append {a b c : Led} (h : Ord a (b ++ c)) (k : Ord b c) : Ord (a ++ b) c := by
  intro p hp q hq
  rcases List.mem_append.mp hp with hp | hp
  · exact h p hp q (List.mem_append_right _ hq)
  · exact k p hp q hq
theorem Ord.of {a b c : Led} (h : Ord a b) (hs : ∀ p ∈ c, p ∈ b) : Ord a c := fun p hp q hq => h p hp q (hs q hq)
theorem Ord.cons {D : Addr} {o : Obj} {a b x : Led} (h : ∀ p ∈ x, @LT.lt Nat _ p.1 D) (hs : ∀ p ∈ b, p ∈ x) (k : Ord a b) : Ord ((D, o) :: a) b := by
  intro p hp q hq
  rcases List.mem_cons.mp hp with rfl | hp
  · exact h q (hs q hq)
  · exact k p hp q hq
theorem Ord.nil {b : Led} : Ord [] b := fun _ hp => nomatch hp

def DatTurn (h₀ : Heap) (L : Addr) (m : Str → Option Value) (s₁ : Shared) (old : Led) (d : Dat) (y : Value) (s₂ : Shared) : Prop :=
  ∃ tl h' tk', s₂ = { s₁ with heap := h', toks := tk' } ∧ Fr h₀ L h' m ∧ News h₀ L h' (tl ++ old) ∧ Ord tl old ∧ DatIn tl y d

theorem comp_dat {prog : Program} {w : World} {A : Around} {h₀ : Heap} {L : Addr} {m : Str → Option Value} {env : Env} {elt : PySem.Expr} {x : Str} {scope : Scope} {cl : List (Str × Addr)} {s : Shared} {Fin : List Value → List (Addr × Obj) → Prop} {news : Led} {ax : Addr} {vs : List Value} {its : List It} {k : Nat} (f : It → Dat)
    (hl : (ax, W.listOf vs.toArray k) ∈ news) (hi : ItAll news vs its)
    (turn : ∀ tl ys v it I oI C oC D m₂ h tk (E' : Value → Shared → Prop), it ∈ its → Ord tl news → ItIn news v it → LCg.NsObj oC m₂ → m₂ x = some v → Fr h₀ L h m → News h₀ L h ((I, oI) :: (C, oC) :: (D, LCg.lst ys) :: (tl ++ news)) →
      wpAny (model prog w) A (eval elt (compEnvC scope cl C env)) (DatTurn h₀ L m { s with heap := h, toks := tk } ((I, oI) :: (C, oC) :: (D, LCg.lst ys) :: (tl ++ news)) (f it)) E' { s with heap := h, toks := tk })
    (fin : ∀ ys tl, Ord tl news → DatAll tl ys (its.map f) → Fin ys (tl ++ news)) :
    LCg.CompRest prog w A h₀ L m env elt x scope cl s (LCg.SrcAt h₀ ax vs.toArray) (fun i v => vs.toArray[i]? = some v) Fin vs.toArray.size 0 [] news := by
  refine comp_map (fun i ys nx => ∃ tl, nx = tl ++ news ∧ Ord tl news ∧ DatAll tl ys ((its.take i).map f)) ?_ ?_ ⟨[], rfl, Ord.nil, by simpa using DatAll.nil⟩
  · rintro i ys nx v I oI C oC D m₂ h tk E' hi' ⟨tl, rfl, ho, hd⟩ hv hC hx F N off ne
    obtain ⟨it, hit, hin⟩ := hi.get (i := i) (v := v) (by simpa using hv)
    refine wpAny_mono (turn tl ys v it I oI C oC D m₂ h tk E' (List.mem_of_getElem? hit) ho hin hC hx F N) (fun y s₂ hq => ?_) fun _ _ e => e
    obtain ⟨tl', h', tk', rfl, F', N', ho', hd'⟩ := hq
    have hI : ∀ p ∈ tl', p.1 ≠ I ∧ p.1 ≠ C ∧ p.1 ≠ D := fun p hp =>
      ⟨Nat.ne_of_gt (ho' p hp (I, oI) (by simp)), Nat.ne_of_gt (ho' p hp (C, oC) (by simp)), Nat.ne_of_gt (ho' p hp (D, LCg.lst ys) (by simp))⟩
    refine LCg.CompEnd.intro F' N' ((tl' ++ tl) ++ news) (by kcf_all) (LCg.Off3.of fun p hp => ?_) (Or.inr ⟨_, List.mem_append_right _ hl, rfl, _, rfl⟩) ⟨tl' ++ tl, rfl, (ho'.of (by kcf_all)).append ho, ?_⟩
    · rw [List.append_assoc] at hp
      rcases List.mem_append.mp hp with hp | hp
      · exact hI p hp
      · exact off.mem p hp
    · rw [List.take_add_one, hit]
      simp only [Option.toList_some, List.map_append, List.map_cons, List.map_nil]
      exact (hd.mono (by kcf_all)).append (.one (hd'.mono (by kcf_all)))
  · rintro ys nx ⟨tl, rfl, ho, hd⟩
    refine fin ys tl ho ?_
    have e : its.take vs.toArray.size = its := List.take_of_length_le (by rw [List.size_toArray, hi.length]; exact Nat.le_refl _)
    rwa [e] at hd

theorem toList_to {ys : List Value} : ys.toArray.toList = ys := rfl
theorem ctr_toldL {w : World} {l : Addr} {vs : List Value} {its : List It} {n : Nat} {news : Led} (hl : (l, W.listOf vs.toArray n) ∈ news) (hi : ItAll news vs its) (hn : vs.length ≤ 1000) (h0 : its ≠ []) :
    Ctr w 265 8 [.ref l] news (fun r news' => ∃ tl, news' = tl ++ news ∧ Ord tl news ∧ DatIn tl r (.tuple (.str (Str.ofString "array") :: its.map It.told))) := by
  k_with_none
  w_top off
  (k_with "call ref" => ((k_here; (with_reducible show wpAny _ _ (call (Value.ref 253) [_]) _ _ _); k_dflt (refine' Ctr.use (ctr_kind ?z9kr) ?z9k1 ?z9k2 ?z9k3 ?z9k4 ?z9k5 ?z9k6 ?z9k7 ?z9k8 ?_; (case z9k1 => k_asm); (case z9k2 => k_asm); (case z9k3 => k_asm); (case z9k4 => k_asm); (case z9k5 => k_asm); (case z9k6 => first | exact rfl | assumption); (case z9k7 => ktr_room); (case z9k8 => ktr_units); (case z9kr => tb_rel)); rintro _ _ _ _ _ _ ⟨e9, _, d9⟩; replace e9 := Eq.symm e9; subst e9; subst d9; (try dsimp only [It.kind]); (try k_fold))))
  (k_with "call ref" => ((k_here; (with_reducible show wpAny _ _ (call (Value.ref 253) [_]) _ _ _); k_dflt (refine' Ctr.use (ctr_kindL ?z9kr) ?z9k1 ?z9k2 ?z9k3 ?z9k4 ?z9k5 ?z9k6 ?z9k7 ?z9k8 ?_; (case z9k1 => k_asm); (case z9k2 => k_asm); (case z9k3 => k_asm); (case z9k4 => k_asm); (case z9k5 => k_asm); (case z9k6 => first | exact rfl | assumption); (case z9k7 => ktr_room); (case z9k8 => ktr_units); (case z9kr => k_mem)); rintro _ _ _ _ _ _ ⟨e9, _, d9⟩; replace e9 := Eq.symm e9; subst e9; subst d9; (try dsimp only [It.kind]); (try k_fold))))
  (k_with "call ref" => ((k_here; (with_reducible show wpAny _ _ (call (Value.ref 265) [_]) _ _ _); k_dflt (refine' Ctr.use (ctr_told1 ?z9kr) ?z9k1 ?z9k2 ?z9k3 ?z9k4 ?z9k5 ?z9k6 ?z9k7 ?z9k8 ?_; (case z9k1 => k_asm); (case z9k2 => k_asm); (case z9k3 => k_asm); (case z9k4 => k_asm); (case z9k5 => k_asm); (case z9k6 => first | exact rfl | assumption); (case z9k7 => ktr_room); (case z9k8 => ktr_units); (case z9kr => tb_rel)); rintro _ _ _ _ _ _ ⟨_, e9, _, _⟩; subst e9; (try dsimp only); (try k_fold))))
  (k_with "eval ListComp" => ((k_here; k_dflt (refine LCg.ListComp_U (F₀ := by k_asm) (by with_unfolding_all rfl) (by decide) (by rfl) (by decide) (by rfl) ?_))))
  (k_with "call type:tuple" => ((k_here; (with_reducible show wpAny _ _ (call (Value.type _) [Value.ref _]) _ _ _); k_dflt (refine' kde_tupleOf ?z9k1 ?z9k2 ?z9k3 ?z9k4 ?z9k5 ?_; (case z9k1 => k_asm); (case z9k2 => k_asm); (case z9k3 => exact News.isList (by k_asm) (by k_mem)); (case z9k4 => (simp only [List.size_toArray]; omega)); (case z9k5 => exact toList_to); k_whole); intro _ _ _ _ _)))
  (k_with "binaryOp Add ref ref" => ((k_here; kde_tuple; k_dflt (refine' kde_addT ?z9k1 ?z9k2 ?z9k3 ?z9k4 ?z9k5 ?z9k6 ?z9k7 rfl ?_; (case z9k1 => k_asm); (case z9k2 => k_asm); (case z9k3 => exact News.isTup (by k_asm) (by k_mem)); (case z9k4 => exact News.isTup (by k_asm) (by k_mem)); (case z9k5 => exact List.cons_ne_nil _ _); (case z9k6 => assumption); (case z9k7 => (simp only [toList_to, List.length_cons, List.length_nil]; omega)); k_whole); intro _ _ _ _ _)))
  unfold Ctr
  k_fill
  intro dp un gd cn cs a ccd cl outer A₀ base h₀ L m s Q E mean mg mb B F X N T hk hd hu hret
  obtain ⟨kd, nm, ig, ic, mr⟩ := cs
  cases hk
  refine wpAny_call ?_
  k_dflt k_enter
  k_steps
  refine LCg.CompSrc.ledger (by rfl) (by k_asm) (by k_asm) (by k_mem) (by simp [sizeLine_eq]; omega) ?_
  intro g'
  refine comp_dat It.told (by k_mem) (hi.up (by kcf_all)) ?_ ?_
  · intro tl ys v it I oI C oC D m₂ h tk E' hit ho hv hC hx F N
    k_steps
    exact ⟨_, _, _, rfl, by assumption, by assumption, by assumption, by assumption⟩
  · intro ys tl ho hd
    unfold LCg.FinE
    intro D h tk F N off
    have hlen : ys.length = its.length := by rw [hd.length, List.length_map]
    have hlen2 := hi.length
    have hne : ys ≠ [] := by
      intro e; subst e
      exact h0 (List.length_eq_zero_iff.mp (by simpa using hlen.symm))
    k_steps
    refine hret _ (((_, _) :: tl) ++ news) _ _ (by assumption) (cb_drop (by assumption) (by kcf_all)) ⟨(_, _) :: tl, rfl, ?_, DatIn.tuple List.mem_cons_self (.cons (DatIn.str _ _) (hd.mono (by kcf_all)))⟩
    exact Ord.cons (by assumption) (by kcf_all) (ho.of (by kcf_all))
end
section
set_option maxRecDepth 100000
set_option maxHeartbeats 8000000

def VT : List (Str × Int) := [(Str.ofString "XYZ", 3), (Str.ofString "Fit", 0), (Str.ofString "FitH", 1), (Str.ofString "FitV", 1), (Str.ofString "FitR", 4), (Str.ofString "FitB", 0), (Str.ofString "FitBH", 1), (Str.ofString "FitBV", 1)]
theorem views_at {w : World} {x : Str} {most : Int} (h : (x, most) ∈ VT) : ∃ t, nsIn (hw.heap_1 w.params) 354 x = some (some (.int most t)) := by
  unfold VT at h
  simp only [List.mem_cons, List.not_mem_nil, or_false, Prod.mk.injEq] at h
  rcases h with ⟨rfl, rfl⟩ | ⟨rfl, rfl⟩ | ⟨rfl, rfl⟩ | ⟨rfl, rfl⟩ | ⟨rfl, rfl⟩ | ⟨rfl, rfl⟩ | ⟨rfl, rfl⟩ | ⟨rfl, rfl⟩
  all_goals exact ⟨_, by rfl⟩
theorem vt_pos {x : Str} {most : Int} (h : (x, most) ∈ VT) : 0 ≤ most ∧ most ≤ 4 := by
  unfold VT at h
  simp only [List.mem_cons, List.not_mem_nil, or_false, Prod.mk.injEq] at h
  omega
theorem views_tab {w : World} : ∃ es n, (hw.heap_1 w.params).lookup 354 = some ⟨.type "dict", none, .dict es n, #[]⟩ ∧ KeysLit w.params es.toList := ⟨_, _, by rfl, by k_keys⟩
section
variable {prog : Program} {w : World} {A : Around} {E : Value → Shared → Prop} {s : Shared} {h₀ : Heap} {L : Addr} {m : Str → Option Value} {x : Str} {most : Int} {t : Tok} {Q : Value → Shared → Prop}
theorem views_notin (hx : (x, most) ∈ VT) (F : Fr h₀ L s.heap m) (X₀ : (hw.heap_1 w.params).In h₀) (h : Q (.bool false) { s with toks := s.toks + 1 }) :
    wpAny (model prog w) A (compareOp .NotIn (.str x t) (.ref 354)) Q E s := by
  obtain ⟨es, n, hl, hk⟩ := views_tab (w := w)
  obtain ⟨t', e⟩ := views_at (w := w) hx
  exact wpAny_notIn_of (strKind_is prog w x t) (by decide) (mapOf_K (prog := prog) (X₀.keeps F.keep) hl hk) (by rw [find_K hl e]; exact h)
theorem views_item {value slice : PySem.Expr} (hx : (x, most) ∈ VT) (F : Fr h₀ L s.heap m) (X₀ : (hw.heap_1 w.params).In h₀) (h : ∀ t', Q (.int most t') { s with toks := s.toks + 1 })
    (hs : subscripted slice false (.ref 354) (.str x t) = operate [.ref 354, .str x t] (getItem (.ref 354) (.str x t)) := by with_unfolding_all rfl) :
    wpAny (model prog w) A (subscriptTail value slice (.ref 354) (.str x t)) Q E s := by
  obtain ⟨es, n, hl, hk⟩ := views_tab (w := w)
  obtain ⟨t', e⟩ := views_at (w := w) hx
  exact topItem_K F X₀ hl hk e (h t') hs
end
def It.num : It → Bool
  | .none => true
  | .int _ => true
  | .dec => true
  | _ => false
theorem It.num_ref {it : It} (h : it.num = true) : ∀ k, it ≠ .ref k := by
  rintro k rfl; cases h
inductive ShelfIn (news : Led) : Value → Prop
  | mk {sh sdx : Addr} {h1 h2 : Int} {t1 t2 : Tok} {v1 v2 : Value} {n : Nat} : (sh, instObj 351 sdx) ∈ news → (sdx, dictOf [⟨h1, .str (Str.ofString "table") t1, v1⟩, ⟨h2, .str (Str.ofString "trailer") t2, v2⟩] n) ∈ news → ShelfIn news (.ref sh)
theorem ShelfIn.up {n1 n2 : Led} {v : Value} (h : ShelfIn n1 v) (hs : ∀ p ∈ n1, p ∈ n2) : ShelfIn n2 v := by
  cases h with
  | mk a b => exact .mk (hs _ a) (hs _ b)
theorem ctr_isnum {w : World} {sh v : Value} {it : It} {news : Led} (hs : ShelfIn news sh) (hv : ItIn news v it) (hn : it.num = true) :
    Ctr w 382 4 [sh, v] news (fun r news' => news' = news ∧ r = .bool true) := by
  k_with_none
  w_top off
  (k_with "call ref" => ((k_here; (with_reducible show wpAny _ _ (call (Value.ref 253) [_]) _ _ _); k_dflt (refine' Ctr.use (ctr_kind ?z9kr) ?z9k1 ?z9k2 ?z9k3 ?z9k4 ?z9k5 ?z9k6 ?z9k7 ?z9k8 ?_; (case z9k1 => k_asm); (case z9k2 => k_asm); (case z9k3 => k_asm); (case z9k4 => k_asm); (case z9k5 => k_asm); (case z9k6 => first | exact rfl | assumption); (case z9k7 => ktr_room); (case z9k8 => ktr_units); (case z9kr => tb_rel)); rintro _ _ _ _ _ _ ⟨e9, _, d9⟩; replace e9 := Eq.symm e9; subst e9; subst d9; (try dsimp only [It.kind]); (try k_fold))))
  (k_with "call ref" => ((k_here; (with_reducible show wpAny _ _ (call (Value.ref 253) [_]) _ _ _); k_dflt (refine' Ctr.use (ctr_kindL ?z9kr) ?z9k1 ?z9k2 ?z9k3 ?z9k4 ?z9k5 ?z9k6 ?z9k7 ?z9k8 ?_; (case z9k1 => k_asm); (case z9k2 => k_asm); (case z9k3 => k_asm); (case z9k4 => k_asm); (case z9k5 => k_asm); (case z9k6 => first | exact rfl | assumption); (case z9k7 => ktr_room); (case z9k8 => ktr_units); (case z9kr => k_mem)); rintro _ _ _ _ _ _ ⟨e9, _, d9⟩; replace e9 := Eq.symm e9; subst e9; subst d9; (try dsimp only [It.kind]); (try k_fold))))
  (k_with "call ref" => ((k_here; (with_reducible show wpAny _ _ (call (Value.ref 287) [_, _]) _ _ _); k_dflt (refine' Ctr.use (ctr_fetch ?z9kr ?z9kn) ?z9k1 ?z9k2 ?z9k3 ?z9k4 ?z9k5 ?z9k6 ?z9k7 ?z9k8 ?_; (case z9k1 => k_asm); (case z9k2 => k_asm); (case z9k3 => k_asm); (case z9k4 => k_asm); (case z9k5 => k_asm); (case z9k6 => first | exact rfl | assumption); (case z9k7 => ktr_room); (case z9k8 => ktr_units); (case z9kr => tb_rel); (case z9kn => first | assumption | (intro _ hk9; cases hk9))); rintro _ _ _ _ _ _ ⟨e9, d9⟩; replace e9 := Eq.symm e9; subst e9; subst d9; (try dsimp only); (try k_fold))))
  unfold Ctr
  k_fill
  intro dp un gd cn cs a ccd cl outer A₀ base h₀ L m s Q E mean mg mb B F X N T hk hd hu hret
  have hnr := It.num_ref hn
  cases hs
  cases it
  case name => cases hn
  case ref => cases hn
  all_goals (
    refine wpAny_call ?_
    k_dflt cell_enter
    k_steps)
  all_goals exact hret _ news _ _ (by assumption) (cb_drop (by assumption) (by kcf_all)) ⟨rfl, by rfl⟩

section
variable {prog : Program} {w : World} {A : Around} {E : Value → Shared → Prop} {s : Shared} {h₀ : Heap} {L l : Addr} {m : Str → Option Value} {news : Led} {vs : List Value} {n : Nat} {Q : Value → Shared → Prop}
theorem len_at {k : Int} (N : News h₀ L s.heap news) (hl : (l, W.listOf vs.toArray n) ∈ news) (hf : vs.length ≤ 1000000) (hk : (vs.length : Int) = k) (h : Q (.int k (s.toks + 1)) { s with toks := s.toks + 1 + 1 }) :
    wpAny (model prog w) A (call (.builtin "len") [.ref l]) Q E s := by
  refine len_list (N.isList hl) (by rw [List.size_toArray]; omega) ?_
  rw [List.size_toArray, hk]
  exact h
end
section
variable {prog : Program} {w : World} {A : Around} {E : Value → Shared → Prop} {s : Shared} {h₀ : Heap} {L l : Addr} {m : Str → Option Value} {news : Led} {vs : List Value} {n : Nat} {Q : Value → Shared → Prop}
theorem item_at {value slice : PySem.Expr} {k : Int} {u : Tok} {x : Value} (N : News h₀ L s.heap news) (hl : (l, W.listOf vs.toArray n) ∈ news) (h0 : 0 ≤ k) (hf : k < 2 ^ 63) (hx : vs[k.toNat]? = some x) (h : Q x s)
    (hs : subscripted slice false (.ref l) (.int k u) = operate [.ref l, .int k u] (getItem (.ref l) (.int k u))) (hg : ∀ r, letTemporaryGo value (.ref l) r = pure ()) :
    wpAny (model prog w) A (subscriptTail value slice (.ref l) (.int k u)) Q E s :=
  item_list (N.isList hl) h0 hf (by simpa using hx) h hs hg
end
def SameTurn (h₀ : Heap) (L : Addr) (m : Str → Option Value) (s₁ : Shared) (old : Led) (v y : Value) (s₂ : Shared) : Prop :=
  ∃ h' tk', s₂ = { s₁ with heap := h', toks := tk' } ∧ Fr h₀ L h' m ∧ News h₀ L h' old ∧ y = v
theorem comp_same {prog : Program} {w : World} {A : Around} {h₀ : Heap} {L : Addr} {m : Str → Option Value} {env : Env} {elt : PySem.Expr} {x : Str} {scope : Scope} {cl : List (Str × Addr)} {s : Shared} {Fin : List Value → List (Addr × Obj) → Prop} {news : Led} {ax : Addr} {vs : List Value} {its : List It} {k : Nat}
    (hl : (ax, W.listOf vs.toArray k) ∈ news) (hi : ItAll news vs its)
    (turn : ∀ ys v it I oI C oC D m₂ h tk (E' : Value → Shared → Prop), it ∈ its → ItIn news v it → LCg.NsObj oC m₂ → m₂ x = some v → Fr h₀ L h m → News h₀ L h ((I, oI) :: (C, oC) :: (D, LCg.lst ys) :: news) →
      wpAny (model prog w) A (eval elt (compEnvC scope cl C env)) (SameTurn h₀ L m { s with heap := h, toks := tk } ((I, oI) :: (C, oC) :: (D, LCg.lst ys) :: news) v) E' { s with heap := h, toks := tk })
    (fin : Fin vs news) :
    LCg.CompRest prog w A h₀ L m env elt x scope cl s (LCg.SrcAt h₀ ax vs.toArray) (fun i v => vs.toArray[i]? = some v) Fin vs.toArray.size 0 [] news := by
  refine comp_map (fun i ys nx => nx = news ∧ ys = vs.take i) ?_ ?_ ⟨rfl, rfl⟩
  · rintro i ys nx v I oI C oC D m₂ h tk E' hi' ⟨rfl, rfl⟩ hv hC hx F N off ne
    have hv' : vs[i]? = some v := by simpa using hv
    obtain ⟨it, hit, hin⟩ := hi.get hv'
    refine wpAny_mono (turn _ v it I oI C oC D m₂ h tk E' (List.mem_of_getElem? hit) hin hC hx F N) (fun y s₂ hq => ?_) fun _ _ e => e
    obtain ⟨h', tk', rfl, F', N', rfl⟩ := hq
    refine LCg.CompEnd.intro F' N' nx (by kcf_all) off (Or.inr ⟨_, hl, rfl, _, rfl⟩) ⟨rfl, ?_⟩
    rw [List.take_add_one, hv']
    rfl
  · rintro ys nx ⟨rfl, rfl⟩
    rw [List.size_toArray, List.take_length]
    exact fin
def TestTurn (h₀ : Heap) (L : Addr) (m : Str → Option Value) (s₁ : Shared) (old : Led) (b ok : Bool) (s₂ : Shared) : Prop :=
  ok = b ∧ ∃ h' tk', s₂ = { s₁ with heap := h', toks := tk' } ∧ Fr h₀ L h' m ∧ News h₀ L h' old
theorem comp_none {prog : Program} {w : World} {A : Around} {h₀ : Heap} {L : Addr} {m : Str → Option Value} {env : Env} {ct elt : PySem.Expr} {x : Str} {scope : Scope} {cl : List (Str × Addr)} {s : Shared} {Fin : List Value → List (Addr × Obj) → Prop} {news : Led} {ax : Addr} {vs : List Value} {its : List It} {k : Nat}
    (hl : (ax, W.listOf vs.toArray k) ∈ news) (hi : ItAll news vs its)
    (turn : ∀ v it I oI C oC D m₂ h tk (E' : Value → Shared → Prop), it ∈ its → ItIn news v it → LCg.NsObj oC m₂ → m₂ x = some v → Fr h₀ L h m → News h₀ L h ((I, oI) :: (C, oC) :: (D, LCg.lst []) :: news) →
      wpAny (model prog w) A (isTrue ct (compEnvC scope cl C env) (eval ct (compEnvC scope cl C env))) (TestTurn h₀ L m { s with heap := h, toks := tk } ((I, oI) :: (C, oC) :: (D, LCg.lst []) :: news) false) E' { s with heap := h, toks := tk })
    (fin : Fin [] news) :
    LCt.CompRestT prog w A h₀ L m env ct elt x scope cl s (LCg.SrcAt h₀ ax vs.toArray) (fun i v => vs.toArray[i]? = some v) Fin vs.toArray.size 0 [] news := by
  have key : ∀ (j i : Nat), i + j = vs.toArray.size → LCt.CompRestT prog w A h₀ L m env ct elt x scope cl s (LCg.SrcAt h₀ ax vs.toArray) (fun i v => vs.toArray[i]? = some v) Fin j i [] news := by
    intro j
    induction j with
    | zero => intro i hi; exact LCt.CompRestT.zero fin
    | succ j ih =>
      intro i hij
      refine LCt.CompRestT.succ ?_
      intro v I oI C oC D m₂ h tk E' hv hC hx F N off ne
      have hv' : vs[i]? = some v := by simpa using hv
      obtain ⟨it, hit, hin⟩ := hi.get hv'
      refine wpAny_mono (turn v it I oI C oC D m₂ h tk E' (List.mem_of_getElem? hit) hin hC hx F N) (fun ok s₂ hq => ?_) fun _ _ e => e
      obtain ⟨rfl, h', tk', rfl, F', N'⟩ := hq
      rw [if_neg Bool.false_ne_true]
      exact LCg.CompEnd.intro F' N' news (by kcf_all) off (Or.inr ⟨_, hl, rfl, _, rfl⟩) (ih (i + 1) (by omega))
  exact key _ 0 (Nat.zero_add _)
theorem pick_from (vs : List Value) (a : Nat) : (slicePick vs.toArray (some (a : Int)) none none).toList = vs.drop a := by
  have e : sliceBounds (some (a : Int)) none none vs.toArray.size = (((min a vs.toArray.size : Nat) : Int), ((vs.toArray.size : Nat) : Int), 1) := by
    simp only [sliceBounds, Option.getD_none, show (1 : Int) > 0 by decide, if_true, if_neg (show ¬ ((a : Int) < 0) by omega)]
    congr 1
    omega
  rw [kmk_pick_nat _ e]
  show (vs.drop (min a vs.toArray.size)).take (vs.toArray.size - min a vs.toArray.size) = _
  rw [List.size_toArray, kmk_drop_min, List.take_of_length_le (by rw [List.length_drop]; omega)]
theorem pick1 {p : Value} {vs : List Value} : (slicePick (p :: vs).toArray (some 1) none none).toList = vs := pick_from (p :: vs) 1
theorem pick2 {p q : Value} {vs : List Value} : (slicePick (p :: q :: vs).toArray (some 2) none none).toList = vs := pick_from (p :: q :: vs) 2
theorem rep_one {k : Nat} : (List.replicate k [Value.none]).flatten = List.replicate k Value.none := lm_rep_flat_one _ k
theorem lt_sub {D : Addr} {b x : Led} (h : ∀ p ∈ x, @LT.lt Nat _ p.1 D) (hs : ∀ p ∈ b, p ∈ x) : ∀ p ∈ b, @LT.lt Nat _ p.1 D := fun p hp => h p (hs p hp)
theorem ctr_targetOf {w : World} {sh pv nv : Value} {rw : Addr} {vs : List Value} {its : List It} {pit : It} {x : Str} {most : Int} {nn : Nat} {news : Led} (hs : ShelfIn news sh) (hr : (rw, W.listOf (pv :: nv :: vs).toArray nn) ∈ news)
    (hp : ItIn news pv pit) (hpk : (∃ k, pit = .ref k) ∨ ∃ i, 0 ≤ i ∧ pit = .int i) (hv : ItIn news nv (.name x)) (hx : (x, most) ∈ VT) (hi : ItAll news vs its) (hn : ∀ it ∈ its, it.num = true) (hm : (vs.length : Int) ≤ most) :
    Ctr w 387 12 [sh, .ref rw] news (fun r news' => ∃ (tg dx nl : Addr) (h1 h2 h3 : Int) (t1 t2 t3 t4 : Tok) (n1 n2 : Nat), r = .ref tg ∧ dx < tg ∧ nl < dx ∧ (∀ p ∈ news, p.1 < nl) ∧
      news' = (tg, instObj 371 dx) :: (dx, dictOf [⟨h1, .str (Str.ofString "page") t1, pv⟩, ⟨h2, .str (Str.ofString "view") t2, .str x t3⟩, ⟨h3, .str (Str.ofString "numbers") t4, .ref nl⟩] n1) :: (nl, W.listOf (vs ++ List.replicate (most - vs.length).toNat Value.none).toArray n2) :: news) := by
  k_with_none
  w_top off
  (k_with "call ref" => ((k_here; (with_reducible show wpAny _ _ (call (Value.ref 253) [_]) _ _ _); k_dflt (refine' Ctr.use (ctr_kind ?z9kr) ?z9k1 ?z9k2 ?z9k3 ?z9k4 ?z9k5 ?z9k6 ?z9k7 ?z9k8 ?_; (case z9k1 => k_asm); (case z9k2 => k_asm); (case z9k3 => k_asm); (case z9k4 => k_asm); (case z9k5 => k_asm); (case z9k6 => first | exact rfl | assumption); (case z9k7 => ktr_room); (case z9k8 => ktr_units); (case z9kr => tb_rel)); rintro _ _ _ _ _ _ ⟨e9, _, d9⟩; replace e9 := Eq.symm e9; subst e9; subst d9; (try dsimp only [It.kind]); (try k_fold))))
  (k_with "call ref" => ((k_here; (with_reducible show wpAny _ _ (call (Value.ref 253) [_]) _ _ _); k_dflt (refine' Ctr.use (ctr_kindL ?z9kr) ?z9k1 ?z9k2 ?z9k3 ?z9k4 ?z9k5 ?z9k6 ?z9k7 ?z9k8 ?_; (case z9k1 => k_asm); (case z9k2 => k_asm); (case z9k3 => k_asm); (case z9k4 => k_asm); (case z9k5 => k_asm); (case z9k6 => first | exact rfl | assumption); (case z9k7 => ktr_room); (case z9k8 => ktr_units); (case z9kr => k_mem)); rintro _ _ _ _ _ _ ⟨e9, _, d9⟩; replace e9 := Eq.symm e9; subst e9; subst d9; (try dsimp only [It.kind]); (try k_fold))))
  (k_with "call ref" => ((k_here; (with_reducible show wpAny _ _ (call (Value.ref 287) [_, _]) _ _ _); k_dflt (refine' Ctr.use (ctr_fetch ?z9kr ?z9kn) ?z9k1 ?z9k2 ?z9k3 ?z9k4 ?z9k5 ?z9k6 ?z9k7 ?z9k8 ?_; (case z9k1 => k_asm); (case z9k2 => k_asm); (case z9k3 => k_asm); (case z9k4 => k_asm); (case z9k5 => k_asm); (case z9k6 => first | exact rfl | assumption); (case z9k7 => ktr_room); (case z9k8 => ktr_units); (case z9kr => tb_rel); (case z9kn => first | assumption | (intro _ hk9; cases hk9))); rintro _ _ _ _ _ _ ⟨e9, d9⟩; replace e9 := Eq.symm e9; subst e9; subst d9; (try dsimp only); (try k_fold))))
  (k_with "subscriptTail" => ((k_here; (with_reducible show wpAny _ _ (subscriptTail _ _ (Value.ref _) (Value.int _ _)) _ _ _); k_dflt (refine' item_at ?z9k1 ?z9k2 ?z9k3 ?z9k4 ?z9k5 ?_ ?z9k6 ?z9k7; (case z9k1 => k_asm); (case z9k2 => k_mem); (case z9k3 => decide); (case z9k4 => decide); (case z9k5 => exact rfl); (case z9k6 => with_unfolding_all rfl); (case z9k7 => (intro _; with_unfolding_all rfl)); k_whole))))
  (k_with "call builtin:len" => ((k_here; (with_reducible show wpAny _ _ (call (Value.builtin "len") [Value.ref _]) _ _ _); k_dflt (refine' len_at ?z9k1 ?z9k2 ?z9k3 ?z9k4 ?_; (case z9k1 => k_asm); (case z9k2 => k_mem); (case z9k3 => first | omega | (simp only [List.length_cons, List.length_append]; omega)); (case z9k4 => first | (simp only [List.length_cons, Int.natCast_add, Int.natCast_one]; exact rfl) | exact rfl); k_whole))))
  (k_with "subscriptTail Name Slice ref ref" => ((k_here; (with_reducible show wpAny _ _ (subscriptTail _ (PySem.Expr.Slice _ _ none _) (Value.ref _) (Value.ref _)) _ _ _); k_dflt (refine' kmk_slice_lit ?z9F ?z9N ?z9l ?z9p ?z9q ?z9e ?_ ?z9s ?z9t ?z9z; (case z9F => k_asm); (case z9N => k_asm); (case z9l => exact News.isList (by k_asm) (by k_mem)); (case z9p => kmk_part); (case z9q => kmk_part); (case z9e => first | exact pick2 | exact pick1); (case z9s => with_unfolding_all rfl); (case z9t => (intro _; with_unfolding_all rfl)); (case z9z => (rw [sizeLine_eq]; simp only [List.size_toArray, List.length_cons]; omega))); intro _ _ _ _ _)))
  (k_with "binaryOp Add ref ref" => ((k_here; (with_reducible show wpAny _ _ (binaryOp _ (Value.ref _) (Value.ref _)) _ _ _); (fail_if_success kde_tuple); k_dflt (refine' kmk_add_lit ?z9F ?z9N ?z9a ?z9b ?z9e ?_ ?z9z; (case z9F => k_asm); (case z9N => k_asm); (case z9a => exact News.isList (by k_asm) (by k_mem)); (case z9b => exact News.isList (by k_asm) (by k_mem)); (case z9e => exact rfl); (case z9z => (rw [sizeLine_eq]; simp only [List.length_cons, List.length_nil, List.length_replicate]; omega))); intro _ _ _ _ _)))
  (k_with "binaryOp Mult ref int" => ((k_here; (with_reducible show wpAny _ _ (binaryOp Operator.Mult (Value.ref _) (Value.int _ _)) _ _ _); k_dflt (refine' KMa.mul ?z9F ?z9N ?z9l ?z9lo ?z9hi ?z9z ?z9e ?_; (case z9F => k_asm); (case z9N => k_asm); (case z9l => exact News.isList (by k_asm) (by k_mem)); (case z9lo => omega); (case z9hi => omega); (case z9z => (simp only [List.length_cons, List.length_nil]; omega)); (case z9e => exact rep_one)); intro _ _ _ _ _)))
  (k_with "compareOp NotIn str ref" => ((k_here; k_dflt (refine' views_notin ?z9k1 ?z9k2 ?z9k3 ?_; (case z9k1 => assumption); (case z9k2 => k_asm); (case z9k3 => k_asm); k_whole))))
  (k_with "subscriptTail" => ((k_here; (with_reducible show wpAny _ _ (subscriptTail _ _ (Value.ref 354) (Value.str _ _)) _ _ _); k_dflt (refine' views_item ?z9k1 ?z9k2 ?z9k3 ?_; (case z9k1 => assumption); (case z9k2 => k_asm); (case z9k3 => k_asm); k_whole); intro _)))
  (k_with "call ref" => ((k_here; (with_reducible show wpAny _ _ (call (Value.ref 382) [_, _]) _ _ _); k_dflt (refine' Ctr.use (ctr_isnum ?z9kr ?z9ks ?z9kt) ?z9k1 ?z9k2 ?z9k3 ?z9k4 ?z9k5 ?z9k6 ?z9k7 ?z9k8 ?_; (case z9k1 => k_asm); (case z9k2 => k_asm); (case z9k3 => k_asm); (case z9k4 => k_asm); (case z9k5 => k_asm); (case z9k6 => first | exact rfl | assumption); (case z9k7 => ktr_room); (case z9k8 => ktr_units); (case z9ks => tb_rel); (case z9kr => exact ShelfIn.up (by assumption) (by kcf_all)); (case z9kt => assumption)); rintro _ _ _ _ _ _ ⟨e9, d9⟩; replace e9 := Eq.symm e9; subst e9; subst d9; (try dsimp only); (try k_fold))))
  (k_with "eval ListComp" => ((k_here; k_dflt (refine LCg.ListComp_U (F₀ := by k_asm) (by with_unfolding_all rfl) (by decide) (by rfl) (by decide) (by rfl) ?_))))
  (k_with "eval ListComp" => ((k_here; k_dflt (refine LCt.ListComp_T (F₀ := by k_asm) (by with_unfolding_all rfl) (by decide) (by rfl) (by decide) (by rfl) ?_))))
  (k_with "exec Assign cons ListComp" => ((k_here; k_dflt (refine LCg.Assign_ListComp_U (F₀ := by k_asm) (by rfl) (by with_unfolding_all rfl) (by with_unfolding_all rfl) (by decide) (by rfl) (by decide) (by rfl) (by rfl) (by rfl) ?_))))
  unfold Ctr
  k_fill
  intro dp un gd cn cs a ccd cl outer A₀ base h₀ L m s Q E mean mg mb B F X N T hk hd hu hret
  have hmost := vt_pos hx
  have hlen : vs.length ≤ 4 := by omega
  obtain ⟨kd, nm, ig, ic, mr⟩ := cs
  cases hk
  have hs' := hs
  cases hs'
  have hv' := hv
  cases hv'
  refine wpAny_call ?_
  k_dflt k_enter
  k_steps
  refine LCg.CompSrc.ledger (by rfl) (by k_asm) (by k_asm) (by k_mem) (by simp [sizeLine_eq]; omega) ?_
  intro g'
  refine comp_same (by k_mem) (hi.up (by kcf_all)) ?_ ?_
  · intro ys v it I oI C oC D m₂ h tk E' hit hvv hC hx F N
    have hnr := It.num_ref (hn it hit)
    k_steps
    exact (⟨_, _, rfl, by assumption, by assumption, rfl⟩ : SameTurn _ _ _ _ _ _ _ _)
  · unfold LCg.FinA
    intro D h tk F N off
    k_steps
    refine LCt.CompSrcT.ledger (by rfl) (by k_asm) (by k_asm) (by k_mem) (by simp [sizeLine_eq]; omega) ?_
    intro g'
    refine comp_none (by k_mem) (hi.up (by kcf_all)) ?_ ?_
    · intro v it I oI C oC D m₂ h tk E' hit hvv hC hx F N
      have hnr := hn it hit
      k_steps
      exact (⟨rfl, _, _, rfl, by assumption, by assumption⟩ : TestTurn _ _ _ _ _ _ _ _)
    · unfold LCg.FinE
      intro D h tk F N off
      have hp' := hp
      rcases hpk with ⟨k, rfl⟩ | ⟨i, hi0, rfl⟩
      all_goals cases hp'
      all_goals k_steps
      all_goals refine hret _ ((_, _) :: (_, _) :: (_, _) :: news) _ _ (by assumption) (cb_drop (by assumption) (List.forall_mem_cons.mpr ⟨.head _, List.forall_mem_cons.mpr ⟨.tail _ (.head _), List.forall_mem_cons.mpr ⟨.tail _ (.tail _ (.head _)), by kcf_all⟩⟩⟩)) ⟨_, _, _, _, _, _, _, _, _, _, _, _, rfl, ?_, ?_, ?_, rfl⟩
      all_goals first | assumption | exact And.left (by assumption) | exact lt_sub (by assumption) (by kcf_all)
end
section
set_option maxRecDepth 100000
set_option maxHeartbeats 8000000

def Stop (P : Prop) : Prop := P
theorem Stop.out {P : Prop} (h : Stop P) : P := h
def isNo : Value → Bool
  | .none => true
  | _ => false
def strip (vs : List Value) : List Value := (vs.reverse.dropWhile isNo).reverse
theorem strip_nil : strip [] = [] := rfl
theorem strip_none (p : List Value) : strip (p ++ [Value.none]) = strip p := by
  simp [strip, List.dropWhile_cons, isNo]
theorem strip_some (p : List Value) {y : Value} (h : isNo y = false) : strip (p ++ [y]) = p ++ [y] := by
  simp [strip, h]
def It.isNo : It → Bool
  | .none => true
  | _ => false
def stripI (vs : List It) : List It := (vs.reverse.dropWhile It.isNo).reverse
theorem ItIn.isNo {news : Led} {v : Value} {it : It} (h : ItIn news v it) : Mine.isNo v = it.isNo := by cases h <;> rfl
theorem ItAll.reverse {news : Led} : ∀ {vs : List Value} {its : List It}, ItAll news vs its → ItAll news vs.reverse its.reverse
  | _, _, .nil => .nil
  | _, _, .cons h r => by
    rw [List.reverse_cons, List.reverse_cons]
    exact r.reverse.append (.cons h .nil)
theorem ItAll.dropW {news : Led} : ∀ {vs : List Value} {its : List It}, ItAll news vs its → ItAll news (vs.dropWhile Mine.isNo) (its.dropWhile It.isNo)
  | _, _, .nil => .nil
  | _, _, .cons (v := v) (it := it) h r => by
    rw [List.dropWhile_cons, List.dropWhile_cons, ← h.isNo]
    cases Mine.isNo v with
    | true => exact r.dropW
    | false => exact .cons h r
theorem ItAll.strip {news : Led} {vs : List Value} {its : List It} (h : ItAll news vs its) : ItAll news (Mine.strip vs) (stripI its) := h.reverse.dropW.reverse
theorem dropW_len {α : Type} (f : α → Bool) : ∀ l : List α, (l.dropWhile f).length ≤ l.length
  | [] => Nat.le_refl _
  | x :: l => by
    rw [List.dropWhile_cons]
    split
    · exact Nat.le_succ_of_le (dropW_len f l)
    · exact Nat.le_refl _
theorem strip_len (vs : List Value) : (strip vs).length ≤ vs.length := by
  unfold strip
  rw [List.length_reverse]
  exact Nat.le_trans (dropW_len _ _) (by rw [List.length_reverse]; exact Nat.le_refl _)
theorem ItAll.snoc {news : Led} {p : List Value} {y : Value} {its : List It} (h : ItAll news (p ++ [y]) its) : ∃ jts jt, its = jts ++ [jt] ∧ ItAll news p jts ∧ ItIn news y jt := by
  induction p generalizing its with
  | nil =>
    cases h with
    | cons h r => cases r; exact ⟨[], _, rfl, .nil, h⟩
  | cons u vs ih =>
    cases h with
    | cons h r =>
      obtain ⟨es, d, rfl, hr, hd⟩ := ih r
      exact ⟨_ :: es, d, rfl, .cons h hr, hd⟩
section
variable {prog : Program} {w : World} {A : Around} {E : Value → Shared → Prop} {s : Shared} {h₀ : Heap} {L l b D : Addr} {m : Str → Option Value} {news news' : Led} {p : List Value} {y : Value} {n n' : Nat} {Q : Value → Shared → Prop}
theorem last_at {value slice : PySem.Expr} {u : Tok} (N : News h₀ L s.heap news) (hl : (l, W.listOf (p ++ [y]).toArray n) ∈ news) (hf : p.length ≤ 1000000) (h : Q y s)
    (hs : subscripted slice false (.ref l) (.int (-1) u) = operate [.ref l, .int (-1) u] (getItem (.ref l) (.int (-1) u))) :
    wpAny (model prog w) A (subscriptTail value slice (.ref l) (.int (-1) u)) Q E s := by
  refine kde_neg (j := p.length) (N.isList hl) (by decide) (by decide) ?_ ?_ h hs
  · rw [List.length_append, List.length_singleton]
    unfold seqIndex?
    simp only [show ((-1 : Int) < 0) by decide, if_true]
    rw [if_pos (by simp; omega)]
    congr 1
    omega
  · simp
theorem ne_nil (N : News h₀ L s.heap news) (hl : (l, W.listOf (p ++ [y]).toArray n) ∈ news) (hb : (b, W.listOf ([] : List Value).toArray n') ∈ news) (hu : A.units < cLine) (h : Q (.bool true) s) :
    wpAny (model prog w) A (compareOp .NotEq (.ref l) (.ref b)) Q E s :=
  PySem.SeqAt.RcNeAt.lists_lengths (N.isList hl) (N.isList hb) (by simp) hu prog w E Q h
theorem kl_last_snoc (p : List Value) (y : Value) : kl_last (p ++ [y]) = some (p, y) := by
  induction p with
  | nil => rfl
  | cons x p ih => rw [List.cons_append, kl_last, ih]
theorem pop_at (F : Fr h₀ L s.heap m) (N : News h₀ L s.heap news) (U : Upd D (W.listOf (p ++ [y]).toArray n) (W.listOf p.toArray (n + 1)) news news') (hf : p.length ≤ 1000000)
    (h : ∀ h', Fr h₀ L h' m → News h₀ L h' news' → Q y { s with heap := h' }) : wpAny (model prog w) A (call (.builtin "list.pop") [.ref D]) Q E s :=
  kl_pop F N (kl_last_snoc p y) U (by rw [sizeLine_eq]; simp; omega) h
end
theorem TestTurn.of {h₀ h' : Heap} {L : Addr} {m : Str → Option Value} {s₁ s₂ : Shared} {old : Led} {b ok : Bool} {tk' : Nat} (hb : ok = b) (e : s₂ = { s₁ with heap := h', toks := tk' }) (F : Fr h₀ L h' m) (N : News h₀ L h' old) : TestTurn h₀ L m s₁ old b ok s₂ := ⟨hb, h', tk', e, F, N⟩
def PopTurn (h₀ : Heap) (L : Addr) (m : Str → Option Value) (s₁ : Shared) (D : Addr) (p : List Value) (rest : Led) (f : Flow) (s₂ : Shared) : Prop :=
  f = .next ∧ ∃ h' tk' n', s₂ = { s₁ with heap := h', toks := tk' } ∧ Fr h₀ L h' m ∧ News h₀ L h' ((D, W.listOf p.toArray n') :: rest)
theorem while_strip {prog : Program} {w : World} {A : Around} {E : Value → Shared → Prop} {s : Shared} {env : Env} {h₀ : Heap} {L D : Addr} {m : Str → Option Value} {test : PySem.Expr} {body : List Stmt} {pos : Pos} {vs : List Value} {its : List It} {n : Nat} {rest : Led} {Q : Flow → Shared → Prop}
    (F : Fr h₀ L s.heap m) (N : News h₀ L s.heap ((D, W.listOf vs.toArray n) :: rest)) (hi : ItAll rest vs its)
    (nil : strip vs = [] → ∀ n' h tk, Fr h₀ L h m → News h₀ L h ((D, W.listOf ([] : List Value).toArray n') :: rest) →
      wpAny (model prog w) A (isTrue test env (eval test env)) (TestTurn h₀ L m { s with heap := h, toks := tk } ((D, W.listOf ([] : List Value).toArray n') :: rest) false) E { s with heap := h, toks := tk })
    (last : ∀ p y it n' h tk, p.length < vs.length → ItIn rest y it → Fr h₀ L h m → News h₀ L h ((D, W.listOf (p ++ [y]).toArray n') :: rest) →
      wpAny (model prog w) A (isTrue test env (eval test env)) (TestTurn h₀ L m { s with heap := h, toks := tk } ((D, W.listOf (p ++ [y]).toArray n') :: rest) (isNo y)) E { s with heap := h, toks := tk })
    (pop : ∀ p n' h tk, p.length < vs.length → Fr h₀ L h m → News h₀ L h ((D, W.listOf (p ++ [Value.none]).toArray n') :: rest) →
      wpAny (model prog w) A (execs body env) (PopTurn h₀ L m { s with heap := h, toks := tk } D p rest) E { s with heap := h, toks := tk })
    (done : ∀ n' h tk, Fr h₀ L h m → News h₀ L h ((D, W.listOf (strip vs).toArray n') :: rest) → Q .next { s with heap := h, toks := tk })
    (hE : PassesOwn (model prog w) A env E := by passes_own) :
    wpAny (model prog w) A (exec (.While test body [] pos) env) Q E s := by
  refine While_inv (n₀ := vs.length) (fun k m' nx => m' = m ∧ ∃ us n', nx = (D, W.listOf us.toArray n') :: rest ∧ strip us = strip vs ∧ us.length = k ∧ us.length ≤ vs.length ∧ ∃ its', ItAll rest us its') F N ⟨rfl, vs, n, rfl, rfl, rfl, Nat.le_refl _, its, hi⟩ ?_ hE
  rintro k m₁ nx h tk F₁ N₁ ⟨rfl, us, n', rfl, hst, rfl, hle, its', hi'⟩
  rcases List.eq_nil_or_concat us with rfl | ⟨p, y, rfl⟩
  · refine wpAny_mono (nil hst.symm n' h tk F₁ N₁) (fun b s₂ hq => ?_) fun _ _ e => e
    obtain ⟨rfl, h', tk', rfl, F', N'⟩ := hq
    rw [if_neg Bool.false_ne_true]
    refine done n' h' tk' F' ?_
    rw [← hst]; exact N'
  · rw [List.concat_eq_append] at *
    obtain ⟨jts, jt, rfl, hj, hy⟩ := hi'.snoc
    have hlt : p.length < vs.length := by rw [List.length_append, List.length_singleton] at hle; omega
    refine wpAny_mono (last p y jt n' h tk hlt hy F₁ N₁) (fun b s₂ hq => ?_) fun _ _ e => e
    obtain ⟨rfl, h', tk', rfl, F', N'⟩ := hq
    cases hb : isNo y with
    | false =>
      rw [if_neg Bool.false_ne_true]
      refine done n' h' tk' F' ?_
      rw [← hst, strip_some p hb]; exact N'
    | true =>
      rw [if_pos rfl]
      obtain rfl : y = Value.none := by cases y <;> first | rfl | cases hb
      refine wpAny_mono (pop p n' h' tk' hlt F' N') (fun f s₃ hq => ?_) fun _ _ e => e
      obtain ⟨rfl, h2, tk2, n2, rfl, F2, N2⟩ := hq
      refine WhileStep.intro F2 N2 (n' := p.length) (by rw [List.length_append, List.length_singleton]; omega) ⟨rfl, p, n2, rfl, ?_, rfl, by omega, jts, hj⟩
      rw [← hst, strip_none]
theorem lt_mem {D a : Addr} {o : Obj} {x : Led} (h : ∀ p ∈ x, @LT.lt Nat _ p.1 D) (hm : (a, o) ∈ x) : @LT.lt Nat _ a D := h _ hm
theorem ctr_targetRow {w : World} {pv : Value} {tg dx nl : Addr} {vs : List Value} {its : List It} {pit : It} {x : Str} {h1 h2 h3 : Int} {t1 t2 t3 t4 : Tok} {n1 n2 : Nat} {news : Led} (ht : (tg, instObj 371 dx) ∈ news) (hd1 : (dx, dictOf [⟨h1, .str (Str.ofString "page") t1, pv⟩, ⟨h2, .str (Str.ofString "view") t2, .str x t3⟩, ⟨h3, .str (Str.ofString "numbers") t4, .ref nl⟩] n1) ∈ news)
    (hl : (nl, W.listOf vs.toArray n2) ∈ news) (hp : ItIn news pv pit) (hi : ItAll news vs its) (hlen : vs.length ≤ 4) :
    Ctr w 394 12 [.ref tg] news (fun r news' => ∃ (rw nm ndx : Addr) (h4 : Int) (t5 t6 : Tok) (n3 n4 : Nat), r = .ref rw ∧ (∀ p ∈ news, @LT.lt Nat _ p.1 ndx) ∧ @LT.lt Nat _ ndx nm ∧ @LT.lt Nat _ nm rw ∧
      news' = (rw, W.listOf (pv :: .ref nm :: strip vs).toArray n3) :: (nm, instObj 171 ndx) :: (ndx, dictOf [⟨h4, .str (Str.ofString "text") t5, .str x t6⟩] n4) :: news) := by
  k_with_none
  w_top off
  (k_with "call type:list" => ((k_here; (with_reducible show wpAny _ _ (call (Value.type _) [Value.ref _]) _ _ _); k_dflt (refine' list_copyK ?z9k1 ?z9k2 ?z9k3 ?_ ?z9z; (case z9k1 => k_asm); (case z9k2 => k_asm); (case z9k3 => exact News.isList (by k_asm) (by k_mem)); (case z9z => (rw [sizeLine_eq]; simp only [List.size_toArray, List.length_cons]; omega)); k_whole); intro _ _ _ _ _ _)))
  (k_with "subscriptTail" => ((k_here; (with_reducible show wpAny _ _ (subscriptTail _ _ (Value.ref _) (Value.int _ _)) _ _ _); k_dflt (refine' item_at ?z9k1 ?z9k2 ?z9k3 ?z9k4 ?z9k5 ?_ ?z9k6 ?z9k7; (case z9k1 => k_asm); (case z9k2 => k_mem); (case z9k3 => decide); (case z9k4 => decide); (case z9k5 => exact rfl); (case z9k6 => with_unfolding_all rfl); (case z9k7 => (intro _; with_unfolding_all rfl)); k_whole))))
  (k_with "call builtin:len" => ((k_here; (with_reducible show wpAny _ _ (call (Value.builtin "len") [Value.ref _]) _ _ _); k_dflt (refine' len_at ?z9k1 ?z9k2 ?z9k3 ?z9k4 ?_; (case z9k1 => k_asm); (case z9k2 => k_mem); (case z9k3 => first | omega | (simp only [List.length_cons, List.length_append]; omega)); (case z9k4 => first | (simp only [List.length_cons, Int.natCast_add, Int.natCast_one]; exact rfl) | exact rfl); k_whole))))
  (k_with "subscriptTail Name Slice ref ref" => ((k_here; (with_reducible show wpAny _ _ (subscriptTail _ (PySem.Expr.Slice _ _ none _) (Value.ref _) (Value.ref _)) _ _ _); k_dflt (refine' kmk_slice_lit ?z9F ?z9N ?z9l ?z9p ?z9q ?z9e ?_ ?z9s ?z9t ?z9z; (case z9F => k_asm); (case z9N => k_asm); (case z9l => exact News.isList (by k_asm) (by k_mem)); (case z9p => kmk_part); (case z9q => kmk_part); (case z9e => first | exact pick2 | exact pick1); (case z9s => with_unfolding_all rfl); (case z9t => (intro _; with_unfolding_all rfl)); (case z9z => (rw [sizeLine_eq]; simp only [List.size_toArray, List.length_cons]; omega))); intro _ _ _ _ _)))
  (k_with "binaryOp Add ref ref" => ((k_here; (with_reducible show wpAny _ _ (binaryOp _ (Value.ref _) (Value.ref _)) _ _ _); (fail_if_success kde_tuple); k_dflt (refine' kmk_add_lit ?z9F ?z9N ?z9a ?z9b ?z9e ?_ ?z9z; (case z9F => k_asm); (case z9N => k_asm); (case z9a => exact News.isList (by k_asm) (by k_mem)); (case z9b => exact News.isList (by k_asm) (by k_mem)); (case z9e => exact rfl); (case z9z => (rw [sizeLine_eq]; simp only [List.length_cons, List.length_nil, List.length_replicate]; omega))); intro _ _ _ _ _)))
  (k_with "binaryOp Mult ref int" => ((k_here; (with_reducible show wpAny _ _ (binaryOp Operator.Mult (Value.ref _) (Value.int _ _)) _ _ _); k_dflt (refine' KMa.mul ?z9F ?z9N ?z9l ?z9lo ?z9hi ?z9z ?z9e ?_; (case z9F => k_asm); (case z9N => k_asm); (case z9l => exact News.isList (by k_asm) (by k_mem)); (case z9lo => omega); (case z9hi => omega); (case z9z => (simp only [List.length_cons, List.length_nil]; omega)); (case z9e => exact rep_one)); intro _ _ _ _ _)))
  (k_with "eval ListComp" => ((k_here; k_dflt (refine LCg.ListComp_U (F₀ := by k_asm) (by with_unfolding_all rfl) (by decide) (by rfl) (by decide) (by rfl) ?_))))
  (k_with "exec While" => ((with_reducible show wpAny _ _ (exec (Stmt.While _ _ _ _) _) _ _ _; refine Stop.out ?_)))
  (k_with "subscriptTail" => ((k_here; (with_reducible show wpAny _ _ (subscriptTail _ _ (Value.ref _) (Value.int (-1) _)) _ _ _); k_dflt (refine' last_at ?z9k1 ?z9k2 ?z9k3 ?_ ?z9k4; (case z9k1 => k_asm); (case z9k2 => k_mem); (case z9k3 => first | omega | (simp only [List.length_cons, List.length_append]; omega)); (case z9k4 => with_unfolding_all rfl); k_whole))))
  (k_with "compareOp NotEq ref ref" => ((k_here; (with_reducible show wpAny _ _ (compareOp CmpOp.NotEq (Value.ref _) (Value.ref _)) _ _ _); k_dflt (refine' ne_nil ?z9k1 ?z9k2 ?z9k3 ?z9k4 ?_; (case z9k1 => k_asm); (case z9k2 => k_mem); (case z9k3 => k_mem); (case z9k4 => ktr_units); k_whole))))
  (k_with "call builtin:list.pop" => ((k_here; (with_reducible show wpAny _ _ (call (Value.builtin _) [Value.ref _]) _ _ _); k_dflt (refine' pop_at ?z9k1 ?z9k2 ?z9k3 ?z9k4 ?_; (case z9k1 => k_asm); (case z9k2 => k_asm); (case z9k3 => k_upd); (case z9k4 => first | omega | (simp only [List.length_cons, List.length_append]; omega)); k_whole); intro _ _ _)))
  unfold Ctr
  k_fill
  intro dp un gd cn cs a ccd cl outer A₀ base h₀ L m s Q E mean mg mb B F X N T hk hd hu hret
  refine wpAny_call ?_
  k_dflt cell_enter
  k_steps
  unfold Stop
  refine while_strip (by k_asm) (by k_asm) (hi.up (by kcf_all)) ?_ ?_ ?_ ?_
  · intro _ n' h tk F N
    k_steps
    exact TestTurn.of (by rfl) (by rfl) (by assumption) (cb_drop (by assumption) (by kcf_all))
  · intro p y it n' h tk hp' hy F N
    have hy' := hy
    cases hy'
    all_goals k_steps
    all_goals exact TestTurn.of (by rfl) (by rfl) (by assumption) (cb_drop (by assumption) (by kcf_all))
  · intro p n' h tk hp' F N
    k_steps
    exact (⟨rfl, _, _, _, rfl, by assumption, by assumption⟩ : PopTurn _ _ _ _ _ _ _ _ _)
  · intro n' h tk F N
    have hsl := strip_len vs
    k_steps
    refine hret _ ((_, _) :: (_, _) :: (_, _) :: news) _ _ (by assumption) (cb_drop (by assumption) (List.forall_mem_cons.mpr ⟨.head _, List.forall_mem_cons.mpr ⟨.tail _ (.tail _ (.head _)), List.forall_mem_cons.mpr ⟨.tail _ (.tail _ (.tail _ (.head _))), by kcf_all⟩⟩⟩)) ⟨_, _, _, _, _, _, _, _, rfl, ?_, ?_, ?_, rfl⟩
    · first | exact ktn_ltOf (by assumption) | exact ktn_ltOf (And.right (by assumption))
    · assumption
    · exact lt_mem (by assumption) (List.Mem.tail _ (List.Mem.head _))
end
section
set_option maxRecDepth 100000
set_option maxHeartbeats 8000000

inductive TgtIn (news : Led) : Value → It → Str → List It → Prop
  | mk {tg dx nl : Addr} {pv : Value} {pit : It} {x : Str} {vs : List Value} {its : List It} {h1 h2 h3 : Int} {t1 t2 t3 t4 : Tok} {n1 n2 : Nat} :
      (tg, instObj 371 dx) ∈ news → (dx, dictOf [⟨h1, .str (Str.ofString "page") t1, pv⟩, ⟨h2, .str (Str.ofString "view") t2, .str x t3⟩, ⟨h3, .str (Str.ofString "numbers") t4, .ref nl⟩] n1) ∈ news →
      (nl, W.listOf vs.toArray n2) ∈ news → ItIn news pv pit → ItAll news vs its → TgtIn news (.ref tg) pit x its
theorem TgtIn.up {n1 n2 : Led} {v : Value} {pit : It} {x : Str} {its : List It} (h : TgtIn n1 v pit x its) (hs : ∀ p ∈ n1, p ∈ n2) : TgtIn n2 v pit x its := by
  cases h with
  | mk a b c d e => exact .mk (hs _ a) (hs _ b) (hs _ c) (d.up hs) (e.up hs)
def rowDat (pit : It) (x : Str) (its : List It) : Dat := .tuple (.str (Str.ofString "array") :: (pit :: It.name x :: stripI its).map It.told)
theorem ctr_toldRow {w : World} {l nm ndx : Addr} {pv : Value} {vs : List Value} {pit : It} {its : List It} {x : Str} {h4 : Int} {t5 t6 : Tok} {n4 n : Nat} {news : Led} (hl : (l, W.listOf (pv :: .ref nm :: strip vs).toArray n) ∈ news) (h1 : (nm, instObj 171 ndx) ∈ news)
    (h2 : (ndx, dictOf [⟨h4, .str (Str.ofString "text") t5, .str x t6⟩] n4) ∈ news) (hp : ItIn news pv pit) (hi : ItAll news vs its) (hn : vs.length ≤ 4) :
    Ctr w 265 8 [.ref l] news (fun r news' => ∃ tl, news' = tl ++ news ∧ Ord tl news ∧ DatIn tl r (rowDat pit x its)) :=
  ctr_toldL hl (.cons hp (.cons (.name h1 h2) hi.strip)) (by have := strip_len vs; simp only [List.length_cons]; omega) (List.cons_ne_nil _ _)
theorem ctr_seen {w : World} {v : Value} {pit : It} {x : Str} {its : List It} {news : Led} (ht : TgtIn news v pit x its) (hn : its.length ≤ 4) :
    Ctr w 427 20 [v] news (fun r news' => ∃ tl, news' = tl ++ news ∧ Ord tl news ∧ DatIn tl r (rowDat pit x its)) := by
  k_with_none
  w_top off
  (k_with "call ref" => ((k_here; (with_reducible show wpAny _ _ (call (Value.ref 394) [_]) _ _ _); k_dflt (refine' Ctr.use (ctr_targetRow ?z9kt ?z9kd ?z9kl ?z9kp ?z9ki ?z9kn) ?z9k1 ?z9k2 ?z9k3 ?z9k4 ?z9k5 ?z9k6 ?z9k7 ?z9k8 ?_; (case z9k1 => k_asm); (case z9k2 => k_asm); (case z9k3 => k_asm); (case z9k4 => k_asm); (case z9k5 => k_asm); (case z9k6 => first | exact rfl | assumption); (case z9k7 => ktr_room); (case z9k8 => ktr_units); (case z9kt => k_mem); (case z9kd => k_mem); (case z9kl => k_mem); (case z9kp => tb_rel); (case z9ki => exact ItAll.up (by assumption) (by kcf_all)); (case z9kn => assumption)); rintro _ _ _ _ _ _ ⟨_, _, _, _, _, _, _, _, d9, _, _, _, e9⟩; subst e9; subst d9; (try dsimp only); (try k_fold))))
  (k_with "call ref" => ((k_here; (with_reducible show wpAny _ _ (call (Value.ref 253) [_]) _ _ _); k_dflt (refine' Ctr.use (ctr_kindL ?z9kr) ?z9k1 ?z9k2 ?z9k3 ?z9k4 ?z9k5 ?z9k6 ?z9k7 ?z9k8 ?_; (case z9k1 => k_asm); (case z9k2 => k_asm); (case z9k3 => k_asm); (case z9k4 => k_asm); (case z9k5 => k_asm); (case z9k6 => first | exact rfl | assumption); (case z9k7 => ktr_room); (case z9k8 => ktr_units); (case z9kr => k_mem)); rintro _ _ _ _ _ _ ⟨e9, _, d9⟩; replace e9 := Eq.symm e9; subst e9; subst d9; (try dsimp only [It.kind]); (try k_fold))))
  (k_with "call ref" => ((k_here; (with_reducible show wpAny _ _ (call (Value.ref 265) [_]) _ _ _); k_dflt (refine' Ctr.use (ctr_toldRow ?z9ka ?z9kb ?z9kc ?z9kp ?z9ki ?z9kn) ?z9k1 ?z9k2 ?z9k3 ?z9k4 ?z9k5 ?z9k6 ?z9k7 ?z9k8 ?_; (case z9k1 => k_asm); (case z9k2 => k_asm); (case z9k3 => k_asm); (case z9k4 => k_asm); (case z9k5 => k_asm); (case z9k6 => first | exact rfl | assumption); (case z9k7 => ktr_room); (case z9k8 => ktr_units); (case z9ka => k_mem); (case z9kb => k_mem); (case z9kc => k_mem); (case z9kp => tb_rel); (case z9ki => exact ItAll.up (by assumption) (by kcf_all)); (case z9kn => assumption)); rintro _ _ _ _ _ _ ⟨_, e9, _, _⟩; subst e9; (try dsimp only); (try k_fold))))
  unfold Ctr
  k_fill
  intro dp un gd cn cs a ccd cl outer A₀ base h₀ L m s Q E mean mg mb B F X N T hk hd hu hret
  cases ht with
  | mk a b c d e =>
  have hlen := e.length
  rw [← hlen] at hn
  refine wpAny_call ?_
  k_dflt cell_enter
  k_steps
  refine hret _ (_ ++ news) _ _ ?_ ?_ ⟨_, rfl, ?_, by assumption⟩
  · assumption
  · exact cb_drop (by assumption) (by kcf_all)
  · exact Ord.of (by assumption) (by kcf_all)
theorem ctr_seenN {w : World} {news : Led} :
    Ctr w 427 20 [Value.none] news (fun r news' => news' = news ∧ r = .none) := by
  k_with_none
  w_top off
  (k_with "call ref" => ((k_here; (with_reducible show wpAny _ _ (call (Value.ref 394) [_]) _ _ _); k_dflt (refine' Ctr.use (ctr_targetRow ?z9kt ?z9kd ?z9kl ?z9kp ?z9ki ?z9kn) ?z9k1 ?z9k2 ?z9k3 ?z9k4 ?z9k5 ?z9k6 ?z9k7 ?z9k8 ?_; (case z9k1 => k_asm); (case z9k2 => k_asm); (case z9k3 => k_asm); (case z9k4 => k_asm); (case z9k5 => k_asm); (case z9k6 => first | exact rfl | assumption); (case z9k7 => ktr_room); (case z9k8 => ktr_units); (case z9kt => k_mem); (case z9kd => k_mem); (case z9kl => k_mem); (case z9kp => tb_rel); (case z9ki => exact ItAll.up (by assumption) (by kcf_all)); (case z9kn => assumption)); rintro _ _ _ _ _ _ ⟨_, _, _, _, _, _, _, _, d9, _, _, _, e9⟩; subst e9; subst d9; (try dsimp only); (try k_fold))))
  (k_with "call ref" => ((k_here; (with_reducible show wpAny _ _ (call (Value.ref 253) [_]) _ _ _); k_dflt (refine' Ctr.use (ctr_kindL ?z9kr) ?z9k1 ?z9k2 ?z9k3 ?z9k4 ?z9k5 ?z9k6 ?z9k7 ?z9k8 ?_; (case z9k1 => k_asm); (case z9k2 => k_asm); (case z9k3 => k_asm); (case z9k4 => k_asm); (case z9k5 => k_asm); (case z9k6 => first | exact rfl | assumption); (case z9k7 => ktr_room); (case z9k8 => ktr_units); (case z9kr => k_mem)); rintro _ _ _ _ _ _ ⟨e9, _, d9⟩; replace e9 := Eq.symm e9; subst e9; subst d9; (try dsimp only [It.kind]); (try k_fold))))
  (k_with "call ref" => ((k_here; (with_reducible show wpAny _ _ (call (Value.ref 265) [_]) _ _ _); k_dflt (refine' Ctr.use (ctr_toldRow ?z9ka ?z9kb ?z9kc ?z9kp ?z9ki ?z9kn) ?z9k1 ?z9k2 ?z9k3 ?z9k4 ?z9k5 ?z9k6 ?z9k7 ?z9k8 ?_; (case z9k1 => k_asm); (case z9k2 => k_asm); (case z9k3 => k_asm); (case z9k4 => k_asm); (case z9k5 => k_asm); (case z9k6 => first | exact rfl | assumption); (case z9k7 => ktr_room); (case z9k8 => ktr_units); (case z9ka => k_mem); (case z9kb => k_mem); (case z9kc => k_mem); (case z9kp => tb_rel); (case z9ki => exact ItAll.up (by assumption) (by kcf_all)); (case z9kn => assumption)); rintro _ _ _ _ _ _ ⟨_, e9, _, _⟩; subst e9; (try dsimp only); (try k_fold))))
  unfold Ctr
  k_fill
  intro dp un gd cn cs a ccd cl outer A₀ base h₀ L m s Q E mean mg mb B F X N T hk hd hu hret
  refine wpAny_call ?_
  k_dflt cell_enter
  k_steps
  exact hret _ news _ _ (by assumption) (cb_drop (by assumption) (by kcf_all)) ⟨rfl, rfl⟩
end
section
set_option maxRecDepth 100000
set_option maxHeartbeats 4000000
theorem entry_dict_update_loop : entryFor table "dict.update.loop" = some Builtin.«dict.update.loop» := entryFor_of_tree (by kernel_rfl)
theorem plain_dict_update_loop : plainId "dict.update.loop" = true := by decide +kernel

def PairAt (prog : Program) (w : World) (h : Heap) (p : Value) (x : List Int × Addr × Value) : Prop :=
  ∃ q o n, p = .ref q ∧ h.get? q = some o ∧ o.cls = .type "tuple" ∧ o.data = .seq #[.ref x.2.1, x.2.2] n ∧ IsTupleKey (intKind prog w) h x.1 x.2.1
theorem key_keeps {prog : Program} {w : World} {h h' : Heap} {k : List Int} {a : Addr} (x : IsTupleKey (intKind prog w) h k a) (hk : ∀ b o, h.get? b = some o → h'.get? b = some o) : IsTupleKey (intKind prog w) h' k a :=
  let ⟨o, items, n, ho, r⟩ := x
  ⟨o, items, n, hk _ _ ho, r⟩

theorem dictH_keeps {prog : Program} {w : World} {h h' : Heap} {d : Addr} {ys : List (List Int × Addr × Value)} (hm : h.DictOfH (tupleKind (intKind prog w)) d ys) (hkd : ∀ o, h.get? d = some o → h'.get? d = some o) (hks : ∀ x ∈ ys, IsTupleKey (intKind prog w) h' x.1 x.2.1) :
    h'.DictOfH (tupleKind (intKind prog w)) d ys :=
  let ⟨o, es, ep, ho, hc, hd, he, _, hn⟩ := hm
  ⟨o, es, ep, hkd o ho, hc, hd, he, hks, hn⟩
section
variable {prog : Program} {w : World} {A : Around} {E : Value → Shared → Prop}
theorem dict_loop {d I l : Addr} {items : Array Value} {xs : List (List Int × Addr × Value)} {h₁ : Heap} {R : Result → Shared → Prop}
    (hh : A.handled = none) (hu : A.units + 2 < cLine) (hne : l ≠ I) (hlen : items.size = xs.length) (hx : xs.length ≤ sizeLine) (hnd : (xs.map (·.1)).Nodup) (hI : h₁.get? I = none) (hd : h₁.get? d = none) (hdI : d ≠ I)
    (hp : ∀ (i : Nat) (p : Value) (x : List Int × Addr × Value), items[i]? = some p → xs[i]? = some x → PairAt prog w h₁ p x) (hl : h₁.IsList l items) :
    ∀ (k i : Nat) (s : Shared), items.size - i = k → i ≤ items.size → s.heap.IsListIter I l i → s.heap.DictOfH (tupleKind (intKind prog w)) d (xs.take i) → (∀ b o, h₁.get? b = some o → s.heap.get? b = some o) →
      (∀ h' tk, h'.DictOfH (tupleKind (intKind prog w)) d xs → (∀ b o, h₁.get? b = some o → h'.get? b = some o) → R (.ok (.ret .none)) { s with heap := h', toks := tk }) →
      codeAny (model prog w) A (.builtin "dict.update.loop" ⟨[.ref d, .ref I, rawInt i, .none], []⟩) R s := by
  have hh1 : A.in1.handled = none := hh
  have W : Walks prog w A.in1 I [I, l] [I] items.size (fun i v => items[i]? = some v) (fun i h => h.IsListIter I l i ∧ h.IsList l items) := Walks.list hh1 I l hne items
  have hkeys : ∀ x ∈ xs, IsTupleKey (intKind prog w) h₁ x.1 x.2.1 := by
    intro x hx'
    obtain ⟨j, hj⟩ := List.mem_iff_getElem?.mp hx'
    have hjl : j < xs.length := (List.getElem?_eq_some_iff.mp hj).1
    have hjs : j < items.size := by omega
    obtain ⟨_, _, _, _, _, _, _, hkey⟩ := hp j items[j] x (by simp [hjs]) hj
    exact hkey
  intro k
  induction k with
  | zero =>
    intro i s hk hi hit hm hkeep hR
    have hin : i = items.size := by omega
    subst hin
    refine codeAny_builtin entry_dict_update_loop ?_
    rw [Around.under_plainId plain_dict_update_loop _]
    show wpAny _ A.in1 (pyNext (.ref I) >>= _) _ _ s
    refine wpAny_bind (W.done s _ _ ⟨hit, hl.at fun o e => hkeep l o e⟩ fun h' tk' hk' => ?_)
    show wpAny _ A.in1 (Builtin.Dict.addKeywords d [] >>= _) _ _ _
    refine wpAny_bind (wpAny_pure ?_)
    refine wpAny_pure (hR h' tk' ?_ fun b o e => ?_)
    · refine dictH_keeps (by simpa [hlen] using hm) (fun o e => hk' d o (by simpa using hdI) e) fun x hx' => ?_
      exact key_keeps (hkeys x hx') fun b o e => hk' b o (by
        intro hm'
        rw [List.mem_singleton.mp hm', hI] at e
        cases e) (hkeep b o e)
    · exact hk' b o (by
        intro hm'
        rw [List.mem_singleton.mp hm', hI] at e
        cases e) (hkeep b o e)
  | succ k ih =>
    intro i s hk hi hit hm hkeep hR
    have hlt : i < items.size := by omega
    refine codeAny_builtin entry_dict_update_loop ?_
    rw [Around.under_plainId plain_dict_update_loop _]
    show wpAny _ A.in1 (pyNext (.ref I) >>= _) _ _ s
    refine wpAny_bind (W.item i s _ _ hlt ⟨hit, hl.at fun o e => hkeep l o e⟩ fun v h' tk' hP hst' hk' => ?_)
    obtain ⟨x, hxi⟩ : ∃ x, xs[i]? = some x := ⟨xs[i]'(by omega), by simp [hlen ▸ hlt]⟩
    obtain ⟨q, o, n, rfl, hq, hc, hdat, hkey⟩ := hp i v x hP hxi
    have hkeep' : ∀ b o, h₁.get? b = some o → h'.get? b = some o := fun b o e => hk' b o (by
      intro hm'
      rw [List.mem_singleton.mp hm', hI] at e
      cases e) (hkeep b o e)
    show wpAny _ A.in1 (holding [Value.ref q] _ >>= _) _ _ _
    refine wpAny_bind (wpAny_holding ?_)
    refine wpAny_bind (wpAny_tryCatch ?_)
    unfold Builtin.Dict.pairItems
    refine wpAny_bind (wpAny_typeOf (T := "tuple") ⟨o, hkeep' q o hq, hc⟩ ?_)
    rw [if_pos (by decide)]
    refine wpAny_bind (wpAny_seqItems (hkeep' q o hq) hdat ?_)
    refine wpAny_pure ?_
    show wpAny _ A.in1 (holding [Value.ref x.2.1, x.2.2] (dictSet d (.ref x.2.1) x.2.2)) _ _ _
    have hmem : ∀ y ∈ xs.take i, y ∈ xs := fun y hy => List.mem_of_mem_take hy
    have hm' : h'.DictOfH (tupleKind (intKind prog w)) d (xs.take i) :=
      dictH_keeps hm (fun o e => hk' d o (by simpa using hdI) e) fun y hy => key_keeps (hkeys y (hmem y hy)) hkeep'
    have hnone : atKey (xs.take i) x.1 = none := by
      refine atKey_none_of_get fun j p hj => ?_
      have hji : j < i := by
        have := (List.getElem?_eq_some_iff.mp hj).1
        rw [List.length_take] at this; omega
      have hj' : xs[j]? = some (x.1, p) := by rwa [List.getElem?_take_of_lt hji] at hj
      have := idxH_unique hnd hj' (show xs[i]? = some (x.1, x.2) from hxi)
      omega
    have hst : storedH (xs.take i) x.1 x.2.1 x.2.2 = xs.take (i + 1) := by
      rw [storedH_new hnone, List.take_add_one, hxi]
      rfl
    refine wpAny_holding (wpAny_dictSet_heap (knd := tupleKind (intKind prog w)) (s := { s with heap := h', toks := tk' }) (show A.units + 1 < cLine by omega) (key_keeps hkey hkeep') hm' (fun h2 hd2 hs2 => ?_) (by rw [List.length_take]; omega))
    rw [hst] at hd2
    have hk2 : ∀ b o, h₁.get? b = some o → h2.get? b = some o := fun b o e => (hs2.2 b (by
      rintro rfl
      rw [hd] at e
      cases e)).trans (hkeep' b o e)
    refine wpAny_pure ⟨plainId_quiet plain_dict_update_loop _, ?_⟩
    exact ih (i + 1) _ (by omega) hlt (hst'.1.at fun o e => (hs2.2 I (Ne.symm hdI)).trans e) hd2 hk2 fun h3 tk3 hd3 hk3 => hR h3 tk3 hd3 hk3
theorem getAttrQ_miss {s : Shared} {a : Addr} {o : Obj} {xs : Array Value} {k : Nat} {name : Str} {Q : Option Value → Shared → Prop}
    (hx : s.heap.get? a = some o) (hc : o.cls = .type "list") (hdat : o.data = .seq xs k) (hd : o.dict = none) (hmiss : typeLookup (.type "list") name = pure none) (hname : (["__module__", "__name__", "__qualname__", "__doc__", "__annotations__"] : List Str).contains name = false) (hA : A.handled = none)
    (h : ∀ h' tk, (∀ b o, s.heap.get? b = some o → h'.get? b = some o) → Q none { s with heap := h', toks := tk }) (hsz : name.length + 100 ≤ sizeLine := by size_fits) :
    wpAny (model prog w) A (getAttr? (.ref a) name) Q E s := by
  obtain ⟨c, dct, dat, sl⟩ := o
  simp only at hc hdat hd
  subst hc hdat hd
  obtain ⟨hp, g, d, tk, os⟩ := s
  have hT : ∀ tk', (⟨hp, g, d, tk', os⟩ : Shared).TypeIs (.ref a) "list" := fun _ => ⟨_, hx, rfl⟩
  have f1 := sub_AttributeError
  have f3 := F.slot_list_getattribute.lookup
  have f4 := F.slot_list_getattribute.bind (.ref a)
  have f5 := am_list_getattr_none
  unfold getAttr? getAttrBy? getAttrBy
  repeat (any_goals (first | assumption | exact hT _ | ((with_reducible show wpAny _ _ (call (Value.builtin "list.__getattribute__") _ _) _ _ _); refine call_meets F.slot_list_getattribute (hT _) am_entry_list_getattribute (F.args_list_getattribute_2 _ _) (meets_getattribute_miss_list a xs k sl name _ hmiss hname hsz) ⟨hx, hA, fun h' tk' e hx' => ?_⟩) | wp_step))
  obtain ⟨t', u', he⟩ := hx'.there
  show wpAny _ _ (getattributeRaised _ _ _ _ _ _ _) _ _ _
  unfold getattributeRaised
  repeat (any_goals (first | assumption | wp_step))
  exact h _ _ hx'.keeps

theorem lk_list_keys : typeLookup (.type "list") (Str.ofString "keys") = pure none := by rw [typeLookup_type, builtinLookup_eq_fast]; kernel_rfl
theorem call_dict_list {s : Shared} {l : Addr} {items : Array Value} {n : Nat} {xs : List (List Int × Addr × Value)} {Q : Value → Shared → Prop}
    (hh : A.handled = none) (hu : A.units + 6 < cLine) (hl : s.heap.get? l = some (W.listOf items n)) (hlen : items.size = xs.length) (hx : xs.length ≤ sizeLine) (hnd : (xs.map (·.1)).Nodup)
    (hp : ∀ (i : Nat) (p : Value) (x : List Int × Addr × Value), items[i]? = some p → xs[i]? = some x → PairAt prog w s.heap p x)
    (h : ∀ h' tk, h'.DictOfH (tupleKind (intKind prog w)) s.heap.objs.size xs → (∀ b o, s.heap.get? b = some o → h'.get? b = some o) → Q (.ref s.heap.objs.size) { s with heap := h', toks := tk }) :
    wpAny (model prog w) A (call (.type "dict") [.ref l]) Q E s := by
  refine callType_codes (Q₁ := fun obj s₁ => obj = .ref s.heap.objs.size ∧ s₁ = { s with heap := s.heap.push { cls := .type "dict", data := .dict #[] } }) F.kt_called_dict (F.kt_typeCall_dict_1 _) F.entry_dict_init (kt_code_dict_new _ ⟨rfl, rfl⟩) ?_
  rintro obj s₁ ⟨rfl, rfl⟩
  have hnew : (s.heap.push { cls := .type "dict", data := .dict #[] }).DictOfH (tupleKind (intKind prog w)) s.heap.objs.size [] := Heap.DictOfH.new s.heap
  have up1 : ∀ b o, s.heap.get? b = some o → (s.heap.push { cls := .type "dict", data := .dict #[] }).get? b = some o := fun b o e => Heap.get?_push_of_some _ e
  refine ⟨hnew.typeIs, F.args_dict_init_2 _ _, ?_⟩
  unfold Builtin.«dict.__init__»
  refine wpAny_bind ?_
  unfold Builtin.Dict.selfAndRest
  refine wpAny_bind (wpAny_notOrdered_dict hnew.typeIs ?_)
  show wpAny _ _ (pure (s.heap.objs.size, [Value.ref l])) _ _ _
  refine wpAny_pure ?_
  show wpAny _ _ (Builtin.Dict.updateFrom "dict.__init__" s.heap.objs.size (.ref l) [] .none) _ _ _
  unfold Builtin.Dict.updateFrom
  refine wpAny_bind (wpAny_typeOf (T := "list") ⟨_, up1 _ _ hl, rfl⟩ ?_)
  rw [if_pos (by decide)]
  refine wpAny_bind ?_
  refine getAttrQ_miss (o := W.listOf items n) (up1 _ _ hl) rfl rfl rfl lk_list_keys (by decide) hh (fun h' tk hk => ?_) (by decide +kernel)
  rw [if_pos (show (none : Option Value).isNone = true from rfl)]
  refine wpAny_bind (wpAny_rule ?_)
  have hk1 : ∀ b o, s.heap.get? b = some o → h'.get? b = some o := fun b o e => hk b o (up1 b o e)
  have hself : ∀ g : Heap, g.get? g.objs.size = none := fun g => by
    cases hq : g.get? g.objs.size with
    | none => rfl
    | some o => exact absurd (Heap.lt_size hq) (Nat.lt_irrefl _)
  have hdd : ∃ od, h'.get? s.heap.objs.size = some od := ⟨_, hk _ _ (Heap.get?_push_size _ rfl)⟩
  have hI : s.heap.get? h'.objs.size = none := by
    cases hq : s.heap.get? h'.objs.size with
    | none => rfl
    | some o => exact absurd (Heap.lt_size (hk1 _ _ hq)) (Nat.lt_irrefl _)
  have hdI : s.heap.objs.size ≠ h'.objs.size := by
    obtain ⟨od, e⟩ := hdd
    exact Nat.ne_of_lt (Heap.lt_size e)
  have hlI : l ≠ h'.objs.size := Nat.ne_of_lt (Heap.lt_size (hk1 _ _ hl))
  have hil : s.heap.IsList l items := ⟨_, hl, rfl, n, rfl⟩
  refine wpAny_bind (wpAny_pyIter_list (l := l) (items := items) ⟨_, hk1 _ _ hl, rfl, n, rfl⟩ ?_)
  have up2 : ∀ b o, h'.get? b = some o → (h'.push { cls := .type "list_iterator", data := .fields #[.ref l, .int 0 0] }).get? b = some o := fun b o e => Heap.get?_push_of_some _ e
  refine wpAny_pure ⟨plainId_quiet plain_dict_update_loop _, ?_⟩
  refine dict_loop (A := A.in1) (h₁ := s.heap) (l := l) (items := items) (xs := xs) hh (by show A.units + 1 + 2 < cLine; omega) hlI hlen hx hnd hI (hself _) hdI hp hil items.size 0 _ (Nat.sub_zero _) (Nat.zero_le _) ⟨_, Heap.get?_push_size _ rfl, rfl, rfl⟩ ?_ (fun b o e => up2 b o (hk1 b o e)) fun h3 tk3 hd3 hk3 => ⟨rfl, h h3 tk3 hd3 hk3⟩
  refine dictH_keeps hnew (fun o e => up2 _ o (hk _ o e)) fun x hx' => by simp at hx'
end
end
section
set_option maxRecDepth 100000
set_option maxHeartbeats 4000000

section
variable {prog : Program} {w : World} {A : Around} {E : Value → Shared → Prop} {s : Shared} {d it : Addr} {od : Obj} {es : Array DictEntry} {ep i : Nat}

theorem keys_iter {Q : Value → Shared → Prop} (hs : (d == sysModules) = false) (ho : s.heap.get? d = some od) (hc : od.ExactDict) (hd : od.data = .dict es ep)
    (hQ : Q (.ref s.heap.objs.size) { s with heap := s.heap.push { cls := .type "dict_keyiterator", data := .fields #[.ref d, .int 0 0, .int es.size 0, .int ep 0] } }) :
    wpAny (model prog w) A (pyIter (.ref d)) Q E s := by
  have hT : s.TypeIs (.ref d) "dict" := ⟨od, ho, hc.1⟩
  refine wpAny_pyIter_slot hT F.slot_dict_iter (wpAny_call_entry F.slot_dict_iter hT F.entry_dict_iter ?_ (F.args_dict_iter_1 _))
  unfold Builtin.«dict.__iter__» Builtin.Dict.dictSlotNone
  refine wpAny_bind (wpAny_bind (wpAny_notOrdered_dict hT (wpAny_pure ?_)))
  show wpAny _ _ (Builtin.Dict.showsAll d >>= _) _ _ s
  unfold Builtin.Dict.showsAll
  rw [if_neg (by rw [hs]; exact Bool.false_ne_true)]
  refine wpAny_bind (wpAny_pure (wpAny_bind (wpAny_dictEntries ho hd (wpAny_bind (wpAny_dictEpoch ho hd ?_)))))
  refine wpAny_bind (wpAny_newObj_type (wpAny_pure ⟨_, rfl, "dict_keyiterator", _, ⟨_, Heap.get?_push_size _ rfl, rfl⟩, F.slot_dict_keyiterator_next.lookup, ?_⟩))
  exact hQ

theorem keys_item {Q : Option Value → Shared → Prop} (hit : s.heap.IsKeyIter it d i es.size ep) (ho : s.heap.get? d = some od) (hd : od.data = .dict es ep) (hlt : i < es.size)
    (hQ : ∀ h', h'.IsKeyIter it d (i + 1) es.size ep → Heap.SameBut it s.heap h' → Q (some es[i].key) { s with heap := h' }) : wpAny (model prog w) A (pyNext (.ref it)) Q E s := by
  have hT := hit.typeIs
  obtain ⟨oi, hoi, hci, hdi⟩ := id hit
  have hown : Builtin.Dict_items.ownsTuple "dict_keyiterator" = false := by decide
  have hnew : (s.heap.update it (Obj.mapFields (·.setIfInBounds 1 (rawInt ((i : Int) + 1))))).IsKeyIter it d (i + 1) es.size ep :=
    ⟨_, Heap.get?_update_self _ hoi (Obj.isFreed_of_fields (Obj.data_mapFields hdi _)), (Obj.cls_mapFields ..).trans hci, by rw [Obj.data_mapFields hdi]; simp [rawInt]⟩
  unfold pyNext
  refine wpAny_bind (wpAny_attempt (wpAny_callSpecial?_slot (name := Str.ofString "__next__") hT F.slot_dict_keyiterator_next
    (wpAny_call_entry F.slot_dict_keyiterator_next hT F.entry_dict_keyiterator_next ?_ (F.args_dict_keyiterator_next_1 _))))
  refine wpAny_bind (wpAny_pure (wpAny_bind (wpAny_bind ?_)))
  first | refine wpAny_bind (wpAny_typeNameOfWhole_keyiter hT (wpAny_pure ?_)) | refine wpAny_bind (wpAny_typeNameOf_keyiter hT (wpAny_pure ?_))
  refine wpAny_bind (wpAny_fieldsOf hoi hdi ?_)
  simp only [hown, Bool.false_eq_true, if_false]
  show wpAny _ _ (if (Value.ref d == Value.none) = true then _ else _) _ _ s
  rw [if_neg (show ¬ ((Value.ref d == Value.none) = true) from Bool.false_ne_true)]
  refine wpAny_bind (wpAny_pure (wpAny_bind (wpAny_dictEntries ho hd ?_)))
  simp only [bne_self_eq_false, Bool.false_eq_true, if_false]
  refine wpAny_bind (wpAny_pure (wpAny_bind (wpAny_dictEpoch ho hd ?_)))
  simp only [bne_self_eq_false, Bool.false_eq_true, if_false]
  refine wpAny_pure ?_
  simp only [show ¬ ((i : Int) < 0) from by omega, if_false, Int.toNat_natCast, Array.getElem?_eq_getElem hlt]
  refine wpAny_bind ?_
  first | refine wpAny_bind (wpAny_typeNameOfWhole_keyiter hT (wpAny_pure ?_)) | refine wpAny_bind (wpAny_typeNameOf_keyiter hT (wpAny_pure ?_))
  refine wpAny_bind (wpAny_isOneOf_keyiter hT ?_)
  show wpAny _ _ (setField (.ref it) 1 (rawInt ((i : Int) + 1)) >>= _) _ _ s
  refine wpAny_bind (wpAny_setField hoi hdi (by simp) (wpAny_bind (wpAny_holding ?_)))
  refine wpAny_bind (wpAny_isOneOf_keyiter (s := { s with heap := s.heap.update it (Obj.mapFields (·.setIfInBounds 1 (rawInt ((i : Int) + 1)))) }) hnew.typeIs ?_)
  show wpAny _ _ (pure es[i].key) _ _ _
  exact wpAny_pure (wpAny_pure ⟨_, rfl, wpAny_pure (hQ _ hnew (Heap.SameBut.update ..))⟩)

theorem keys_end {Q : Option Value → Shared → Prop} (hh : A.handled = none) (hit : s.heap.IsKeyIter it d es.size es.size ep) (ho : s.heap.get? d = some od) (hd : od.data = .dict es ep)
    (hQ : ∀ h', Heap.ExtBut it s.heap h' → Q none { s with heap := h' }) : wpAny (model prog w) A (pyNext (.ref it)) Q E s := by
  have hT := hit.typeIs
  obtain ⟨oi, hoi, hci, hdi⟩ := id hit
  have hown : Builtin.Dict_items.ownsTuple "dict_keyiterator" = false := by decide
  unfold pyNext
  refine wpAny_bind (wpAny_attempt (wpAny_callSpecial?_slot (name := Str.ofString "__next__") hT F.slot_dict_keyiterator_next
    (wpAny_call_entry F.slot_dict_keyiterator_next hT F.entry_dict_keyiterator_next ?_ (F.args_dict_keyiterator_next_1 _))))
  refine wpAny_bind (wpAny_pure (wpAny_bind (wpAny_bind ?_)))
  first | refine wpAny_bind (wpAny_typeNameOfWhole_keyiter hT (wpAny_pure ?_)) | refine wpAny_bind (wpAny_typeNameOf_keyiter hT (wpAny_pure ?_))
  refine wpAny_bind (wpAny_fieldsOf hoi hdi ?_)
  simp only [hown, Bool.false_eq_true, if_false]
  show wpAny _ _ (if (Value.ref d == Value.none) = true then _ else _) _ _ s
  rw [if_neg (show ¬ ((Value.ref d == Value.none) = true) from Bool.false_ne_true)]
  refine wpAny_bind (wpAny_pure (wpAny_bind (wpAny_dictEntries ho hd ?_)))
  simp only [bne_self_eq_false, Bool.false_eq_true, if_false]
  refine wpAny_bind (wpAny_pure (wpAny_bind (wpAny_dictEpoch ho hd ?_)))
  simp only [bne_self_eq_false, Bool.false_eq_true, if_false]
  refine wpAny_pure ?_
  simp only [show ¬ ((es.size : Int) < 0) from by omega, if_false, Int.toNat_natCast, Array.getElem?_eq_none (Nat.le_refl es.size)]
  refine wpAny_bind ?_
  first | refine wpAny_bind (wpAny_typeNameOfWhole_keyiter hT (wpAny_pure ?_)) | refine wpAny_bind (wpAny_typeNameOf_keyiter hT (wpAny_pure ?_))
  show wpAny _ _ (setField (.ref it) 0 .none >>= _) _ _ s
  refine wpAny_bind (wpAny_setField hoi hdi (by simp) ?_)
  show wpAny _ _ (newExc (.type "StopIteration") [] >>= _) _ _ _
  refine wpAny_bind ?_
  simp only [newExc, newTuple]
  refine wpAny_bind (wpAny_newObj_type ?_ (by size_fits))
  refine wpAny_bind (m := firstArgMember _ _) (wpAny_of_eq (a := Value.none) (by first | rfl | (simp only [firstArgMember]; rfl)) ?_)
  refine wpAny_newObj_type ?_ (by size_fits)
  simp only [raiseNew]
  refine wpAny_bind (wpAny_handled ?_)
  rw [show A.in1.handled = none from hh]
  refine wpAny_bind (wpAny_pure (wpAny_throw ?_))
  refine wpAny_bind (wpAny_isInstance (T := "StopIteration") (b := true) ⟨_, Heap.get?_push_size _ rfl, rfl⟩ isSubtype_stop ?_)
  exact wpAny_pure (hQ _ (((Heap.SameBut.update ..).extBut.push _).push _))

def DictEs (h : Heap) (d : Addr) (es : Array DictEntry) (ep : Nat) : Prop := ∃ o, h.get? d = some o ∧ o.ExactDict ∧ o.data = .dict es ep
theorem keys_walks (hh : A.handled = none) (I : Addr) (hne : d ≠ I) : Walks prog w A I [I, d] [I] es.size (fun i v => ∃ e, es[i]? = some e ∧ v = e.key) (fun i h => h.IsKeyIter I d i es.size ep ∧ DictEs h d es ep) where
  sub := fun b hb => by simp at hb; simp [hb]
  frame := fun _ _ _ st hk => ⟨st.1.at fun o e => hk I (by simp) o e, let ⟨o, ho, r⟩ := st.2; ⟨o, hk d (by simp) o ho, r⟩⟩
  item := fun i s Q E hi st hQ => by
    obtain ⟨o, ho, hc, hd⟩ := st.2
    refine keys_item st.1 ho hd hi fun h' hit' hs => hQ _ h' s.toks ⟨es[i], by simp [hi], rfl⟩ ⟨hit', o, (hs.2 d hne).trans ho, hc, hd⟩ fun b o' hb e => (hs.2 b (by simpa using hb)).trans e
  done := fun s Q E st hQ => by
    obtain ⟨o, ho, hc, hd⟩ := st.2
    exact keys_end hh st.1 ho hd fun h' hs => hQ h' s.toks fun b o' hb e => hs b o' (by simpa using hb) e
  self := fun i s Q E st hQ => wpAny_pyIter_keyiter st.1 hQ
end

def SrcK (prog : Program) (w : World) (A : Around) (h₀ : Heap) (L : Addr) (m : Str → Option Value) (env : Env) (ct elt : PySem.Expr) (x : Str) (scope : Scope) (cl : List (Str × Addr)) (Fin : Shared → List Value → List (Addr × Obj) → Prop) (xv : Value) (s₁ : Shared) : Prop :=
  ∃ d od es ep news, xv = .ref d ∧ A.handled = none ∧ Fr h₀ L s₁.heap m ∧ News h₀ L s₁.heap news ∧ (d, od) ∈ news ∧ od.ExactDict ∧ od.data = .dict es ep ∧ (d == sysModules) = false ∧ es.size ≤ sizeLine ∧
    ∀ s₂ : Shared, (∃ h, s₂ = { s₁ with heap := h }) → LCt.CompRestT prog w A h₀ L m env ct elt x scope cl s₂ (fun nw => (d, od) ∈ nw) (fun i v => ∃ e, es[i]? = some e ∧ v = e.key) (Fin s₂) es.size 0 [] news
theorem SrcK.of {prog : Program} {w : World} {A : Around} {h₀ : Heap} {L : Addr} {m : Str → Option Value} {env : Env} {ct elt : PySem.Expr} {x : Str} {scope : Scope} {cl : List (Str × Addr)} {Fin : Shared → List Value → List (Addr × Obj) → Prop} {d : Addr} {od : Obj} {es : Array DictEntry} {ep : Nat} {news : List (Addr × Obj)} {s₁ : Shared}
    (hh : A.handled = none) (F : Fr h₀ L s₁.heap m) (N : News h₀ L s₁.heap news) (hm : (d, od) ∈ news) (hc : od.ExactDict) (hd : od.data = .dict es ep) (lo : (d == sysModules) = false) (hz : es.size ≤ sizeLine)
    (h : ∀ g, LCt.CompRestT prog w A h₀ L m env ct elt x scope cl { s₁ with heap := g } (fun nw => (d, od) ∈ nw) (fun i v => ∃ e, es[i]? = some e ∧ v = e.key) (Fin { s₁ with heap := g }) es.size 0 [] news) :
    SrcK prog w A h₀ L m env ct elt x scope cl Fin (.ref d) s₁ := ⟨d, od, es, ep, news, rfl, hh, F, N, hm, hc, hd, lo, hz, fun _ ⟨g, e⟩ => e ▸ h g⟩

theorem ListComp_K {prog : Program} {w : World} {A : Around} {E : Value → Shared → Prop} {s : Shared} {h₀ : Heap} {L : Addr} {m : Str → Option Value} {env : Env} {ct elt iter : PySem.Expr} {x : Str} {px : Pos} {scope : Scope} {cl : List (Str × Addr)} {pos : Pos} {Q : Value → Shared → Prop} (F₀ : Fr h₀ L s.heap m)
    (hclos : closureFor scope env = pure cl) (hcell : ∀ y ∈ scope.names, y.2 ≠ .cell) (hkind : scope.kind = .function)
    (hnames : ∀ y ∈ scope.names, y.2 = .local → scope.names.lookup y.1 = some .local) (hx : scope.names.lookup x = some .local)
    (h : wpAny (model prog w) A (eval iter env) (SrcK prog w A h₀ L m env ct elt x scope cl (fun s₂ => LCg.FinE h₀ L m s₂ Q)) E s)
    (hs : ∀ x, foldedSetIterable iter env x = pure x := by intro _; rfl) :
    wpAny (model prog w) A (eval (.ListComp elt [⟨.Name x px, iter, [ct], 0⟩] scope pos) env) Q E s := by
  rw [eval_ListComp]
  refine wpAny_comprehension_free (use := none) rfl hs hclos hkind hnames (wpAny_mono h (fun xv s₁ h₁ => ?_) fun _ _ e => e)
  obtain ⟨d, od, es, ep, news, rfl, hh, F, N, hm, hc, hd, lo, hz, R⟩ := h₁
  have ho : s₁.heap.get? d = some od := (N _ hm).1
  refine keys_iter lo ho hc hd ?_
  have up : ∀ b o, s₁.heap.get? b = some o → (s₁.heap.push { cls := .type "dict_keyiterator", data := .fields #[.ref d, .int 0 0, .int es.size 0, .int ep 0] }).get? b = some o := fun b o e => Heap.get?_push_of_some _ e
  have hlt : d < s₁.heap.objs.size := Heap.lt_size ho
  refine LCt.block_T (keys_walks (es := es) (ep := ep) hh s₁.heap.objs.size (Nat.ne_of_lt hlt)) hz (fun i h st => by obtain ⟨o, e, _⟩ := st.1; exact ⟨o, e⟩) ?_ hcell hkind hx ⟨⟨_, Heap.get?_push_size _ rfl, rfl, rfl⟩, od, up _ _ ho, hc, hd⟩ (fun b hb => ?_)
    (F.keeps up) (N.grown up) (Nat.ne_of_lt F.ns.lt) (next_is_new F) (fun p hp => Nat.ne_of_lt (Heap.lt_size (N p hp).1)) hm (R _ ⟨_, rfl⟩) ?_
  · intro i h h' o nw st e e' _ N' hm'
    refine ⟨?_, od, (N' _ hm').1, hc, hd⟩
    obtain ⟨o', q, r⟩ := st.1
    rw [e] at q
    cases q
    exact ⟨o, e', r⟩
  · show b < (s₁.heap.push _).objs.size
    rw [Heap.size_push]
    rcases List.mem_cons.mp hb with rfl | hb
    · exact Nat.lt_succ_self _
    · rw [List.mem_singleton.mp hb]; exact Nat.lt_succ_of_lt hlt
  · intro D C h tk m' ys news' F' N' o1 hn hC₀ hD₀ hCL hDL hCD offC fin
    refine ⟨m', hn, fun h'' hs'' => fin D h'' tk (F'.change hs'' hCL hC₀) (fun p hp => ?_) o1⟩
    refine ⟨hs''.extBut _ _ ?_ (N' p hp).1, (N' p hp).2⟩
    rcases List.mem_cons.mp hp with rfl | hp
    · exact Ne.symm hCD
    · exact offC p hp
end
section
set_option maxRecDepth 100000
set_option maxHeartbeats 8000000
abbrev tup2 (k g : Int) (t1 t2 : Tok) (n : Nat) : Obj := { cls := .type "tuple", data := .seq #[.int k t1, .int g t2] n }
inductive RowsAre (news : Led) : List (List Int × Addr × Value) → List (Int × Int) → Prop
  | nil : RowsAre news [] []
  | cons {a b : Addr} {k v : Int} {t1 t2 t3 t4 : Tok} {n n' : Nat} {xs : List (List Int × Addr × Value)} {T : List (Int × Int)} : (a, tup2 k 0 t1 t2 n) ∈ news → (b, tup2 v 0 t3 t4 n') ∈ news → RowsAre news xs T → RowsAre news (([k, 0], a, .ref b) :: xs) ((k, v) :: T)
theorem RowsAre.up {n1 n2 : Led} (hs : ∀ p ∈ n1, p ∈ n2) : ∀ {xs : List (List Int × Addr × Value)} {T : List (Int × Int)}, RowsAre n1 xs T → RowsAre n2 xs T
  | _, _, .nil => .nil
  | _, _, .cons a b r => .cons (hs _ a) (hs _ b) (r.up hs)
theorem RowsAre.length {n1 : Led} : ∀ {xs : List (List Int × Addr × Value)} {T : List (Int × Int)}, RowsAre n1 xs T → xs.length = T.length
  | _, _, .nil => rfl
  | _, _, .cons _ _ r => by simp [r.length]
theorem RowsAre.look {n1 : Led} {k : Int} : ∀ {xs : List (List Int × Addr × Value)} {T : List (Int × Int)}, RowsAre n1 xs T →
    (T.lookup k = none ∧ atKey xs [k, 0] = none) ∨ ∃ v a b t3 t4 n', T.lookup k = some v ∧ atKey xs [k, 0] = some (a, .ref b) ∧ (b, tup2 v 0 t3 t4 n') ∈ n1
  | _, _, .nil => .inl ⟨rfl, rfl⟩
  | _, _, .cons (a := a) (b := b) (k := k') (v := v) (t3 := t3) (t4 := t4) (n' := n') (xs := xs) h1 h2 r => by
    by_cases e : k' = k
    · subst e
      exact .inr ⟨v, a, b, t3, t4, n', by simp, by simp [atKey], h2⟩
    · have e' : ¬ k = k' := fun q => e q.symm
      have hb : (k == k') = false := by simpa using e'
      rcases r.look (k := k) with ⟨q1, q2⟩ | ⟨v', a', b', t3', t4', n'', q1, q2, q3⟩
      · refine .inl ⟨by rw [List.lookup_cons, hb]; exact q1, ?_⟩
        simpa [atKey, List.find?_cons, e] using q2
      · refine .inr ⟨v', a', b', t3', t4', n'', by rw [List.lookup_cons, hb]; exact q1, ?_, q3⟩
        simpa [atKey, List.find?_cons, e] using q2
def TabIn (w : World) (news : Led) (d : Addr) (T : List (Int × Int)) : Prop :=
  ∃ o es ep xs, (d, o) ∈ news ∧ o.ExactDict ∧ o.data = .dict es ep ∧ (d == sysModules) = false ∧ es.toList = xs.map (entryOfKey (tupleKind (intKind PySem.Challenge.rw_og0168_01.row.prog w))) ∧ (xs.map (·.1)).Nodup ∧ RowsAre news xs T
theorem TabIn.up {w : World} {n1 n2 : Led} {d : Addr} {T : List (Int × Int)} (h : TabIn w n1 d T) (hs : ∀ p ∈ n1, p ∈ n2) : TabIn w n2 d T :=
  let ⟨o, es, ep, xs, a, b, c, e, f, g, r⟩ := h
  ⟨o, es, ep, xs, hs _ a, b, c, e, f, g, r.up hs⟩
section
variable {w : World} {A : Around} {E : Value → Shared → Prop} {s : Shared} {h₀ : Heap} {L a d : Addr} {m : Str → Option Value} {news : Led} {T : List (Int × Int)} {k : Int} {t1 t2 : Tok} {n : Nat} {Q : Value → Shared → Prop}
theorem key_of {prog : Program} {h : Heap} (N : News h₀ L h news) (hk : (a, tup2 k 0 t1 t2 n) ∈ news) : IsTupleKey (intKind prog w) h [k, 0] a :=
  ⟨_, _, _, (N _ hk).1, rfl, rfl, .cons (intKind_is _ _ _ _) (.cons (intKind_is _ _ _ _) .nil)⟩
theorem RowsAre.keys {prog : Program} {h : Heap} (N : News h₀ L h news) : ∀ {xs : List (List Int × Addr × Value)} {T : List (Int × Int)}, RowsAre news xs T → ∀ x ∈ xs, IsTupleKey (intKind prog w) h x.1 x.2.1
  | _, _, .nil => fun _ h => nomatch h
  | _, _, .cons h1 _ r => fun x hx => by
    rcases List.mem_cons.mp hx with rfl | hx
    · exact key_of N h1
    · exact r.keys N x hx
theorem tab_in (N : News h₀ L s.heap news) (hT : TabIn w news d T) (hk : (a, tup2 k 0 t1 t2 n) ∈ news) (hu : A.units + 1 < cLine) (h : ∀ tk, Q (.bool (T.lookup k).isSome) { s with toks := tk }) :
    wpAny (model PySem.Challenge.rw_og0168_01.row.prog w) A (compareOp .In (.ref a) (.ref d)) Q E s := by
  obtain ⟨o, es, ep, xs, hd, hc, hdat, lo, he, hn, R⟩ := hT
  refine wpAny_in_heap (knd := tupleKind (intKind _ w)) hu (key_of N hk) lo ⟨o, es, ep, (N _ hd).1, hc, hdat, he, R.keys N, hn⟩ ?_
  have e : (atKey xs [k, 0]).isSome = (T.lookup k).isSome := by
    rcases R.look (k := k) with ⟨q1, q2⟩ | ⟨_, _, _, _, _, _, q1, q2, _⟩ <;> rw [q1, q2] <;> rfl
  rw [e]; exact h _
theorem tab_notin (N : News h₀ L s.heap news) (hT : TabIn w news d T) (hk : (a, tup2 k 0 t1 t2 n) ∈ news) (hu : A.units + 1 < cLine) (h : ∀ tk, Q (.bool (!(T.lookup k).isSome)) { s with toks := tk }) :
    wpAny (model PySem.Challenge.rw_og0168_01.row.prog w) A (compareOp .NotIn (.ref a) (.ref d)) Q E s := by
  obtain ⟨o, es, ep, xs, hd, hc, hdat, lo, he, hn, R⟩ := hT
  refine wpAny_notIn_heap (knd := tupleKind (intKind _ w)) hu (key_of N hk) lo ⟨o, es, ep, (N _ hd).1, hc, hdat, he, R.keys N, hn⟩ ?_
  have e : (atKey xs [k, 0]).isSome = (T.lookup k).isSome := by
    rcases R.look (k := k) with ⟨q1, q2⟩ | ⟨_, _, _, _, _, _, q1, q2, _⟩ <;> rw [q1, q2] <;> rfl
  rw [e]; exact h _
theorem tab_item {value slice : PySem.Expr} {v : Int} (N : News h₀ L s.heap news) (hT : TabIn w news d T) (hk : (a, tup2 k 0 t1 t2 n) ∈ news) (hu : A.units + 1 < cLine) (hl : T.lookup k = some v)
    (h : ∀ b t3 t4 n' tk, (b, tup2 v 0 t3 t4 n') ∈ news → Q (.ref b) { s with toks := tk })
    (hs : subscripted slice false (.ref d) (.ref a) = operate [.ref d, .ref a] (getItem (.ref d) (.ref a)) := by with_unfolding_all rfl) (hg : ∀ r, letTemporaryGo value (.ref d) r = pure () := by intro _; with_unfolding_all rfl) :
    wpAny (model PySem.Challenge.rw_og0168_01.row.prog w) A (subscriptTail value slice (.ref d) (.ref a)) Q E s := by
  obtain ⟨o, es, ep, xs, hd, hc, hdat, lo, he, hn, R⟩ := hT
  rcases R.look (k := k) with ⟨q1, q2⟩ | ⟨v', a', b', t3, t4, n', q1, q2, q3⟩
  · rw [hl] at q1; cases q1
  · rw [hl] at q1
    cases q1
    have hD : s.heap.DictOfH (tupleKind (intKind PySem.Challenge.rw_og0168_01.row.prog w)) d xs := ⟨o, es, ep, (N _ hd).1, hc, hdat, he, R.keys N, hn⟩
    exact subscriptTail_builtin hD.typeIs slot_dict_getitem.lookup (wpAny_getItem_heap hu (key_of N hk) hD q2 (h _ _ _ _ _ q3)) hs hg
end
end
section
set_option maxRecDepth 100000
set_option maxHeartbeats 8000000

def movedIt : It → List (Int × Int) → Option It
  | .ref k, T => (T.lookup k).map It.ref
  | it, _ => some it
theorem look_some {T : List (Int × Int)} {k v : Int} (h : T.lookup k = some v) (h2 : (T.lookup k).isSome = false) : False := by
  simp [h] at h2
theorem look_none {T : List (Int × Int)} {k : Int} (h : T.lookup k = none) (h2 : (T.lookup k).isSome = true) : False := by
  simp [h] at h2
theorem ctr_moved {w : World} {v : Value} {d : Addr} {pit pit' : It} {x : Str} {its : List It} {T : List (Int × Int)} {news : Led} (ht : TgtIn news v pit x its) (hT : TabIn w news d T) (hm : movedIt pit T = some pit') :
    Ctr w 401 12 [v, .ref d] news (fun r news' => ∃ tl, news' = tl ++ news ∧ TgtIn news' r pit' x its) := by
  k_with_none
  w_top off
  (k_with "compareOp NotIn ref ref" => ((k_here; (with_reducible show wpAny _ _ (compareOp CmpOp.NotIn (Value.ref _) (Value.ref _)) _ _ _); k_dflt (refine' tab_notin ?z9k1 ?z9k2 ?z9k3 ?z9k4 ?_; (case z9k1 => k_asm); (case z9k2 => exact TabIn.up (by assumption) (by kcf_all)); (case z9k3 => k_mem); (case z9k4 => ktr_units); k_whole); intro _)))
  (k_with "compareOp In ref ref" => ((k_here; (with_reducible show wpAny _ _ (compareOp CmpOp.In (Value.ref _) (Value.ref _)) _ _ _); k_dflt (refine' tab_in ?z9k1 ?z9k2 ?z9k3 ?z9k4 ?_; (case z9k1 => k_asm); (case z9k2 => exact TabIn.up (by assumption) (by kcf_all)); (case z9k3 => k_mem); (case z9k4 => ktr_units); k_whole); intro _)))
  (k_with "subscriptTail" => ((k_here; (with_reducible show wpAny _ _ (subscriptTail _ _ (Value.ref _) (Value.ref _)) _ _ _); k_dflt (refine' tab_item ?z9k1 ?z9k2 ?z9k3 ?z9k4 ?z9k5 ?_ ?z9k6 ?z9k7; (case z9k1 => k_asm); (case z9k2 => exact TabIn.up (by assumption) (by kcf_all)); (case z9k3 => k_mem); (case z9k4 => ktr_units); (case z9k5 => assumption); (case z9k6 => with_unfolding_all rfl); (case z9k7 => (intro _; with_unfolding_all rfl)); k_whole); intro _ _ _ _ _ _)))
  unfold Ctr
  k_fill
  intro dp un gd cn cs a ccd cl outer A₀ base h₀ L m s Q E mean mg mb B F X N T hk hd hu hret
  have ht' := ht
  cases ht with
  | mk a b c e f =>
  have e' := e
  cases e'
  case ref =>
    obtain ⟨v', hl, hv⟩ := Option.map_eq_some_iff.mp hm
    subst hv
    refine wpAny_call ?_
    k_dflt cell_enter
    k_steps
    all_goals try exact (look_some hl (by assumption)).elim
    all_goals (
      refine hret _ _ _ _ (by assumption) (by assumption) ⟨[_, _, _, _, _, _], rfl, ?_⟩
      exact .mk (by kcf_m) (by kcf_m) (by kcf_m) (.ref (by kcf_m) (by kcf_m)) (ItAll.up (by assumption) (by kcf_all)))
  all_goals cases hm
  all_goals (
    refine wpAny_call ?_
    k_dflt cell_enter
    k_steps
    exact hret _ ([] ++ news) _ _ (by assumption) (cb_drop (by assumption) (by kcf_all)) ⟨_, rfl, ht'⟩)
theorem ctr_movedN {w : World} {v : Value} {d : Addr} {pit : It} {x : Str} {its : List It} {T : List (Int × Int)} {news : Led} (ht : TgtIn news v pit x its) (hT : TabIn w news d T) (hm : movedIt pit T = none) :
    Ctr w 401 12 [v, .ref d] news (fun r news' => news' = news ∧ r = .none) := by
  k_with_none
  w_top off
  (k_with "compareOp NotIn ref ref" => ((k_here; (with_reducible show wpAny _ _ (compareOp CmpOp.NotIn (Value.ref _) (Value.ref _)) _ _ _); k_dflt (refine' tab_notin ?z9k1 ?z9k2 ?z9k3 ?z9k4 ?_; (case z9k1 => k_asm); (case z9k2 => exact TabIn.up (by assumption) (by kcf_all)); (case z9k3 => k_mem); (case z9k4 => ktr_units); k_whole); intro _)))
  (k_with "compareOp In ref ref" => ((k_here; (with_reducible show wpAny _ _ (compareOp CmpOp.In (Value.ref _) (Value.ref _)) _ _ _); k_dflt (refine' tab_in ?z9k1 ?z9k2 ?z9k3 ?z9k4 ?_; (case z9k1 => k_asm); (case z9k2 => exact TabIn.up (by assumption) (by kcf_all)); (case z9k3 => k_mem); (case z9k4 => ktr_units); k_whole); intro _)))
  (k_with "subscriptTail" => ((k_here; (with_reducible show wpAny _ _ (subscriptTail _ _ (Value.ref _) (Value.ref _)) _ _ _); k_dflt (refine' tab_item ?z9k1 ?z9k2 ?z9k3 ?z9k4 ?z9k5 ?_ ?z9k6 ?z9k7; (case z9k1 => k_asm); (case z9k2 => exact TabIn.up (by assumption) (by kcf_all)); (case z9k3 => k_mem); (case z9k4 => ktr_units); (case z9k5 => assumption); (case z9k6 => with_unfolding_all rfl); (case z9k7 => (intro _; with_unfolding_all rfl)); k_whole); intro _ _ _ _ _ _)))
  unfold Ctr
  k_fill
  intro dp un gd cn cs a ccd cl outer A₀ base h₀ L m s Q E mean mg mb B F X N T hk hd hu hret
  have ht' := ht
  cases ht with
  | mk a b c e f =>
  have e' := e
  cases e'
  case ref =>
    have hl := Option.map_eq_none_iff.mp hm
    refine wpAny_call ?_
    k_dflt cell_enter
    k_steps
    all_goals try exact (look_none hl (by assumption)).elim
    all_goals try exact hret _ news _ _ (by assumption) (cb_drop (by assumption) (by kcf_all)) ⟨rfl, rfl⟩
  all_goals cases hm
end
section
set_option maxRecDepth 100000
set_option maxHeartbeats 8000000

theorem mem_swap {pre post : Led} {x : Addr × Obj} : ∀ p ∈ pre ++ x :: post, p ∈ x :: (pre ++ post) := fun p hp => by
  rcases List.mem_append.mp hp with h | h
  · exact .tail _ (List.mem_append_left _ h)
  · rcases List.mem_cons.mp h with rfl | h
    · exact .head _
    · exact .tail _ (List.mem_append_right _ h)
theorem mem_swap' {pre post : Led} {x : Addr × Obj} : ∀ p ∈ x :: (pre ++ post), p ∈ pre ++ x :: post := fun p hp => by
  rcases List.mem_cons.mp hp with rfl | h
  · exact List.mem_append_right _ (.head _)
  · rcases List.mem_append.mp h with h | h
    · exact List.mem_append_left _ h
    · exact List.mem_append_right _ (.tail _ h)
theorem ctr_draw {w : World} {pen : Addr} {N c many : Int} {t t1 t2 : Tok} {n : Nat} {news : Led} {g : Obj → Led} (U : UpdF pen (W.listOf #[.int N t1, .int c t2] n) news g) (hN : 0 ≤ N) (hm : 0 < many) (hm9 : many ≤ 9) (hc : 0 ≤ c) (hc9 : c < 1000000) :
    Ctr w 415 2 [.ref pen, .int many t] news (fun r news' => ∃ (D N' : Int) (tr t1' t2' : Tok) (n' : Nat), r = .int D tr ∧ 0 ≤ D ∧ D < many ∧ 0 ≤ N' ∧ news' = g (W.listOf #[.int N' t1', .int (c + 1) t2'] n')) := by
  obtain ⟨pre, post, rfl, hg, a, b⟩ := U.split
  intro dp un gd cn cs a' ccd cl outer A₀ base h₀ L m s Q E mean mg mb B F X N T hk hd hu hret
  refine ctr_draw0 (rest := pre ++ post) hN hm hm9 hc hc9 (fun p hp => (List.mem_append.mp hp).elim (a p) (b p)) _ _ _ _ _ _ _ _ _ _ _ _ _ _ _ _ _ _ _ _ B F X (fun p hp => N p (mem_swap' p hp)) T hk hd hu ?_
  rintro r nw h' tk' F' N' ⟨D, N2, tr, t1', t2', n', e, lo, hi, p, rfl⟩
  exact hret r _ h' tk' F' (fun p hp => N' p (mem_swap p (by rw [hg] at hp; exact hp))) ⟨D, N2, tr, t1', t2', n', e, lo, hi, p, rfl⟩

def EndB (h₀ : Heap) (L : Addr) (m : Str → Option Value) (s₁ : Shared) (I : Addr) (oI : Obj) (C : Addr) (oC : Obj) (D : Addr) (oD : Obj) (S : Led → Prop) (K : Led → Prop) (s₂ : Shared) : Prop :=
  LCg.CompEnd h₀ L m s₁ I oI C oC D oD S (fun _ nx => K nx) Value.none s₂
def EltB (h₀ : Heap) (L : Addr) (m : Str → Option Value) (s₁ : Shared) (I : Addr) (oI : Obj) (C : Addr) (oC : Obj) (D : Addr) (oD : Obj) (S : Led → Prop) (K : Value → Led → Prop) (y : Value) (s₂ : Shared) : Prop :=
  LCg.CompEnd h₀ L m s₁ I oI C oC D oD S K y s₂
def TestB (h₀ : Heap) (L : Addr) (m : Str → Option Value) (s₁ : Shared) (I : Addr) (oI : Obj) (C : Addr) (oC : Obj) (D : Addr) (oD : Obj) (S : Led → Prop) (K : Bool → Led → Prop) (ok : Bool) (s₂ : Shared) : Prop :=
  LCg.CompEnd h₀ L m s₁ I oI C oC D oD S (fun _ nx => K ok nx) Value.none s₂

theorem comp_gen {prog : Program} {w : World} {A : Around} {h₀ : Heap} {L : Addr} {m : Str → Option Value} {env : Env} {ct elt : PySem.Expr} {x : Str} {scope : Scope} {cl : List (Str × Addr)} {s : Shared} {S : Led → Prop} {P : Nat → Value → Prop} {Fin : List Value → Led → Prop} {news : Led} {n : Nat}
    (J : Nat → List Value → Led → Prop) (K : Nat → List Value → Bool → Led → Prop)
    (test : ∀ i ys nx v I oI C oC D m₂ h tk (E' : Value → Shared → Prop), i < n → J i ys nx → P i v → S nx → LCg.NsObj oC m₂ → m₂ x = some v → Fr h₀ L h m → News h₀ L h ((I, oI) :: (C, oC) :: (D, LCg.lst ys) :: nx) → LCg.Off3 I C D nx → ((@Ne Nat I C) ∧ (@Ne Nat I D) ∧ (@Ne Nat C D)) →
      wpAny (model prog w) A (isTrue ct (compEnvC scope cl C env) (eval ct (compEnvC scope cl C env))) (TestB h₀ L m { s with heap := h, toks := tk } I oI C oC D (LCg.lst ys) S (K i ys)) E' { s with heap := h, toks := tk })
    (elt_ : ∀ i ys nx v I oI C oC D m₂ h tk (E' : Value → Shared → Prop), i < n → K i ys true nx → P i v → S nx → LCg.NsObj oC m₂ → m₂ x = some v → Fr h₀ L h m → News h₀ L h ((I, oI) :: (C, oC) :: (D, LCg.lst ys) :: nx) → LCg.Off3 I C D nx → ((@Ne Nat I C) ∧ (@Ne Nat I D) ∧ (@Ne Nat C D)) →
      wpAny (model prog w) A (eval elt (compEnvC scope cl C env)) (EltB h₀ L m { s with heap := h, toks := tk } I oI C oC D (LCg.lst ys) S (fun y nx' => J (i + 1) (ys ++ [y]) nx')) E' { s with heap := h, toks := tk })
    (skip : ∀ i ys nx v, i < n → P i v → K i ys false nx → J (i + 1) ys nx)
    (fin : ∀ ys nx, J n ys nx → Fin ys nx) (h0 : J 0 [] news) (S0 : S news) : LCt.CompRestT prog w A h₀ L m env ct elt x scope cl s S P Fin n 0 [] news := by
  have key : ∀ (j i : Nat) (ys : List Value) (nx : Led), i + j = n → J i ys nx → S nx → LCt.CompRestT prog w A h₀ L m env ct elt x scope cl s S P Fin j i ys nx := by
    intro j
    induction j with
    | zero =>
      intro i ys nx hi hJ hS
      obtain rfl : i = n := hi
      exact LCt.CompRestT.zero (fin ys nx hJ)
    | succ j ih =>
      intro i ys nx hi hJ hS
      refine LCt.CompRestT.succ ?_
      intro v I oI C oC D m₂ h tk E' hv hC hx F N off ne
      refine wpAny_mono (test i ys nx v I oI C oC D m₂ h tk E' (by omega) hJ hv hS hC hx F N off ne) (fun ok s₂ hq => ?_) fun _ _ e => e
      obtain ⟨h', tk', nw, rfl, F', N', off', hS', hK⟩ := hq
      cases ok
      · rw [if_neg Bool.false_ne_true]
        exact ⟨h', tk', nw, rfl, F', N', off', hS', ih (i + 1) _ _ (by omega) (skip i ys nw v (by omega) hv hK) hS'⟩
      · rw [if_pos rfl]
        refine wpAny_mono (elt_ i ys nw v I oI C oC D m₂ h' tk' E' (by omega) hK hv hS' hC hx F' N' off' ne) (fun y s₃ hq => ?_) fun _ _ e => e
        obtain ⟨h2, tk2, nw2, rfl, F2, N2, off2, hS2, hJ2⟩ := hq
        exact ⟨h2, tk2, nw2, rfl, F2, N2, off2, hS2, ih (i + 1) _ _ (by omega) hJ2 hS2⟩
  exact key n 0 [] news (by omega) h0 S0

inductive MadeAt (news : Led) : List Value → List (List Int × Addr × Value) → List (Int × Int) → Prop
  | nil : MadeAt news [] [] []
  | cons {q a b : Addr} {k v : Int} {t1 t2 t3 t4 : Tok} {n0 n n' : Nat} {ys : List Value} {xs : List (List Int × Addr × Value)} {T : List (Int × Int)} :
      (q, { cls := .type "tuple", data := .seq #[.ref a, .ref b] n0 }) ∈ news → (a, tup2 k 0 t1 t2 n) ∈ news → (b, tup2 v 0 t3 t4 n') ∈ news → MadeAt news ys xs T → MadeAt news (.ref q :: ys) (([k, 0], a, .ref b) :: xs) ((k, v) :: T)
theorem MadeAt.up {n1 n2 : Led} (hs : ∀ p ∈ n1, p ∈ n2) : ∀ {ys : List Value} {xs : List (List Int × Addr × Value)} {T : List (Int × Int)}, MadeAt n1 ys xs T → MadeAt n2 ys xs T
  | _, _, _, .nil => .nil
  | _, _, _, .cons a b c r => .cons (hs _ a) (hs _ b) (hs _ c) (r.up hs)
theorem MadeAt.up' {n1 n2 : Led} {ys : List Value} {xs : List (List Int × Addr × Value)} {T : List (Int × Int)} (h : MadeAt n1 ys xs T) (hs : ∀ p ∈ n1, p ∈ n2) : MadeAt n2 ys xs T := h.up hs
theorem MadeAt.append {n1 : Led} : ∀ {ys ys' : List Value} {xs xs' : List (List Int × Addr × Value)} {T T' : List (Int × Int)}, MadeAt n1 ys xs T → MadeAt n1 ys' xs' T' → MadeAt n1 (ys ++ ys') (xs ++ xs') (T ++ T')
  | _, _, _, _, _, _, .nil, k => k
  | _, _, _, _, _, _, .cons a b c r, k => .cons a b c (r.append k)
theorem MadeAt.rows {n1 : Led} : ∀ {ys : List Value} {xs : List (List Int × Addr × Value)} {T : List (Int × Int)}, MadeAt n1 ys xs T → RowsAre n1 xs T
  | _, _, _, .nil => .nil
  | _, _, _, .cons _ b c r => .cons b c r.rows
theorem MadeAt.len {n1 : Led} : ∀ {ys : List Value} {xs : List (List Int × Addr × Value)} {T : List (Int × Int)}, MadeAt n1 ys xs T → ys.length = xs.length ∧ xs.length = T.length
  | _, _, _, .nil => ⟨rfl, rfl⟩
  | _, _, _, .cons _ _ _ r => ⟨by simp [r.len.1], by simp [r.len.2]⟩
theorem MadeAt.keys {n1 : Led} : ∀ {ys : List Value} {xs : List (List Int × Addr × Value)} {T : List (Int × Int)}, MadeAt n1 ys xs T → xs.map (·.1) = T.map (fun p => [p.1, 0])
  | _, _, _, .nil => rfl
  | _, _, _, .cons _ _ _ r => by simp [r.keys]
theorem MadeAt.get {prog : Program} {w : World} {h₀ h : Heap} {L : Addr} {n1 : Led} (N : News h₀ L h n1) : ∀ {ys : List Value} {xs : List (List Int × Addr × Value)} {T : List (Int × Int)}, MadeAt n1 ys xs T → ∀ (i : Nat) (p : Value) (x : List Int × Addr × Value), ys[i]? = some p → xs[i]? = some x → PairAt prog w h p x
  | _, _, _, .nil, i, p, x, e, _ => by simp at e
  | _, _, _, .cons a b c r, 0, p, x, e, e' => by
    simp only [List.getElem?_cons_zero, Option.some.injEq] at e e'
    subst e e'
    exact ⟨_, _, _, rfl, (N _ a).1, rfl, rfl, key_of N b⟩
  | _, _, _, .cons a b c r, i + 1, p, x, e, e' => by
    simp only [List.getElem?_cons_succ] at e e'
    exact r.get N i p x e e'
theorem keys_apart {T : List (Int × Int)} (h : (T.map (·.1)).Nodup) : (T.map (fun p => [p.1, (0 : Int)])).Nodup := by
  have e : T.map (fun p => [p.1, (0 : Int)]) = (T.map (·.1)).map (fun k => [k, (0 : Int)]) := by simp
  rw [e]
  exact List.Pairwise.map _ (fun a b hab q => hab (by simpa using q)) h
theorem dict_new {w : World} {A : Around} {E : Value → Shared → Prop} {s : Shared} {h₀ : Heap} {L l : Addr} {m : Str → Option Value} {news nm : Led} {ys : List Value} {xs : List (List Int × Addr × Value)} {T : List (Int × Int)} {n : Nat} {Q : Value → Shared → Prop}
    (hh : A.handled = none) (hu : A.units + 6 < cLine) (F : Fr h₀ L s.heap m) (N : News h₀ L s.heap news) (hbig : h₀.NoLimit) (hl : (l, W.listOf ys.toArray n) ∈ news) (hM : MadeAt nm ys xs T) (hs : ∀ p ∈ nm, p ∈ news) (hn : (T.map (·.1)).Nodup) (hx : T.length ≤ 1000)
    (h : ∀ d o h' tk, Fr h₀ L h' m → News h₀ L h' ((d, o) :: news) → (∀ p ∈ news, @LT.lt Nat _ p.1 d) → TabIn w ((d, o) :: nm) d T → Q (.ref d) { s with heap := h', toks := tk }) :
    wpAny (model PySem.Challenge.rw_og0168_01.row.prog w) A (call (.type "dict") [.ref l]) Q E s := by
  have hnd : (xs.map (·.1)).Nodup := by rw [hM.keys]; exact keys_apart hn
  refine call_dict_list hh hu (N _ hl).1 (by simpa using hM.len.1) (by rw [hM.len.2, sizeLine_eq]; omega) hnd (fun i p x e e' => (hM.up hs).get N i p x (by simpa using e) e') ?_
  intro h' tk hD hk
  obtain ⟨o, es, ep, ho, hc, hd, he, _, hn'⟩ := hD
  refine h _ o h' tk (F.keeps hk) ?_ (fun p hp => Heap.lt_size (N p hp).1) ⟨o, es, ep, xs, .head _, hc, hd, F.notModules (modules_low hbig), he, hn', hM.rows.up fun p hp => .tail _ hp⟩
  intro p hp
  rcases List.mem_cons.mp hp with rfl | hp
  · exact ⟨ho, Nat.ne_of_gt F.ns.lt, next_is_new F⟩
  · exact N.grown hk p hp
end
section
set_option maxRecDepth 100000
set_option maxHeartbeats 8000000

inductive TabInv (pen : Addr) (rest : Led) (lo lim k : Int) (ys : List Value) (nx : Led) : Prop
  | mk (N c : Int) (t1 t2 : Tok) (n : Nat) (tl : Led) (xs : List (List Int × Addr × Value)) (T : List (Int × Int)) (e : nx = (pen, W.listOf #[.int N t1, .int c t2] n) :: (tl ++ rest)) (hN : 0 ≤ N) (h1 : lo ≤ c) (h2 : c ≤ lim) (ho : Ord tl rest) (hp : ∀ p ∈ tl, @LT.lt Nat _ pen p.1) (hM : MadeAt tl ys xs T) (hk : ∀ p ∈ T, p.1 < k) (hl : (T.length : Int) + 1 ≤ k) (hn : (T.map (·.1)).Nodup) : TabInv pen rest lo lim k ys nx
theorem off_app {pen : Addr} {tl rest : Led} (hp : ∀ p ∈ tl, @LT.lt Nat _ pen p.1) (ho : ∀ p ∈ rest, p.1 ≠ pen) : ∀ p ∈ tl ++ rest, p.1 ≠ pen := fun p h => by
  rcases List.mem_append.mp h with h | h
  · exact Nat.ne_of_gt (hp p h)
  · exact ho p h
theorem EltB.of {h₀ : Heap} {L : Addr} {m : Str → Option Value} {s₁ : Shared} {I : Addr} {oI : Obj} {C : Addr} {oC : Obj} {D : Addr} {oD : Obj} {S : Led → Prop} {K : Value → Led → Prop} {y : Value} {h' : Heap} {tk : Nat} {all : Led} (F : Fr h₀ L h' m) (N : News h₀ L h' all) (nx : Led) (sub : ∀ p ∈ (I, oI) :: (C, oC) :: (D, oD) :: nx, p ∈ all) (off : LCg.Off3 I C D nx) (hS : S nx) (r : K y nx) :
    EltB h₀ L m s₁ I oI C oC D oD S K y { s₁ with heap := h', toks := tk } := LCg.CompEnd.intro F N nx sub off hS r
theorem TestB.of {h₀ : Heap} {L : Addr} {m : Str → Option Value} {s₁ : Shared} {I : Addr} {oI : Obj} {C : Addr} {oC : Obj} {D : Addr} {oD : Obj} {S : Led → Prop} {K : Bool → Led → Prop} {ok : Bool} {h' : Heap} {tk : Nat} {all : Led} (F : Fr h₀ L h' m) (N : News h₀ L h' all) (nx : Led) (sub : ∀ p ∈ (I, oI) :: (C, oC) :: (D, oD) :: nx, p ∈ all) (off : LCg.Off3 I C D nx) (hS : S nx) (r : K ok nx) :
    TestB h₀ L m s₁ I oI C oC D oD S K ok { s₁ with heap := h', toks := tk } := LCg.CompEnd.intro F N nx sub off hS r
theorem EltB.of3 {h₀ : Heap} {L : Addr} {m : Str → Option Value} {s₁ : Shared} {I : Addr} {oI : Obj} {C : Addr} {oC : Obj} {D : Addr} {oD : Obj} {S : Led → Prop} {K : Value → Led → Prop} {y : Value} {h' : Heap} {tk : Nat} {x1 x2 x3 P : Addr × Obj} {tl rest : Led} (F : Fr h₀ L h' m) (N : News h₀ L h' (x1 :: x2 :: x3 :: (I, oI) :: (C, oC) :: (D, oD) :: P :: (tl ++ rest))) (off : LCg.Off3 I C D (P :: ((x1 :: x2 :: x3 :: tl) ++ rest))) (hS : S (P :: ((x1 :: x2 :: x3 :: tl) ++ rest))) (r : K y (P :: ((x1 :: x2 :: x3 :: tl) ++ rest))) :
    EltB h₀ L m s₁ I oI C oC D oD S K y { s₁ with heap := h', toks := tk } := LCg.CompEnd.intro F N _ (by kcf_all) off hS r
theorem lt_all {D : Addr} {x y : Led} (h : AllLt D (x ++ y)) : (∀ p ∈ x, @LT.lt Nat _ p.1 D) ∧ (∀ p ∈ y, @LT.lt Nat _ p.1 D) := ⟨fun p hp => ktn_ltOf h p (List.mem_append_left _ hp), fun p hp => ktn_ltOf h p (List.mem_append_right _ hp)⟩
theorem lt4 {D : Addr} {x y : Led} {a b c d : Prop} (h : a ∧ b ∧ c ∧ d ∧ AllLt D (x ++ y)) : ∀ p ∈ y, @LT.lt Nat _ p.1 D := (lt_all h.2.2.2.2).2
theorem lt5 {D : Addr} {x y : Led} {a b c d e : Prop} (h : a ∧ b ∧ c ∧ d ∧ e ∧ AllLt D (x ++ y)) : ∀ p ∈ y, @LT.lt Nat _ p.1 D := (lt_all h.2.2.2.2.2).2
theorem lt6 {D : Addr} {x y : Led} {a b c d e f : Prop} (h : a ∧ b ∧ c ∧ d ∧ e ∧ f ∧ AllLt D (x ++ y)) : ∀ p ∈ y, @LT.lt Nat _ p.1 D := (lt_all h.2.2.2.2.2.2).2
theorem nodup_snoc {T : List (Int × Int)} {k v : Int} (h : (T.map (·.1)).Nodup) (hk : ∀ p ∈ T, p.1 < k) : ((T ++ [(k, v)]).map (·.1)).Nodup := by
  rw [List.map_append, List.nodup_append]
  refine ⟨h, by simp, ?_⟩
  intro a ha b hb
  obtain ⟨p, hp, rfl⟩ := List.mem_map.mp ha
  have := hk p hp
  simp at hb
  omega
theorem ctr_table {w : World} {pen : Addr} {N0 c0 : Int} {t1 t2 : Tok} {n0 : Nat} {rest : Led} (hN0 : 0 ≤ N0) (hc0 : 0 ≤ c0) (hc9 : c0 < 100000) (hoff : ∀ p ∈ rest, p.1 ≠ pen) :
    Ctr w 420 8 [.ref pen] ((pen, W.listOf #[.int N0 t1, .int c0 t2] n0) :: rest) (fun r news' => ∃ (d : Addr) (T : List (Int × Int)) (N' c' : Int) (t1' t2' : Tok) (n' : Nat) (tl : Led), r = .ref d ∧ 0 ≤ N' ∧ c0 ≤ c' ∧ c' ≤ c0 + 8 ∧
      news' = (pen, W.listOf #[.int N' t1', .int c' t2'] n') :: (tl ++ rest) ∧ Ord tl rest ∧ (∀ p ∈ tl, @LT.lt Nat _ pen p.1) ∧ TabIn w tl d T ∧ (T.length : Int) ≤ 4 ∧ (T.map (·.1)).Nodup) := by
  k_with_none
  w_top off
  (k_with "eval ListComp" => ((k_here; k_dflt (refine LCt.ListComp_T (F₀ := by k_asm) (by with_unfolding_all rfl) (by decide) (by rfl) (by decide) (by rfl) ?_))))
  (k_with "call ref" => ((k_here; (with_reducible show wpAny _ _ (call (Value.ref 415) [Value.ref _, Value.int _ _]) _ _ _); k_dflt (refine' Ctr.use (ctr_draw ?z9kU ?z9kN ?z9km ?z9km9 ?z9kc ?z9kc9) ?z9k1 ?z9k2 ?z9k3 ?z9k4 ?z9k5 ?z9k6 ?z9k7 ?z9k8 ?_; (case z9k1 => k_asm); (case z9k2 => k_asm); (case z9k3 => k_asm); (case z9k4 => k_asm); (case z9k5 => k_asm); (case z9k6 => first | exact rfl | assumption); (case z9k7 => ktr_room); (case z9k8 => ktr_units); (case z9kU => k_updF); (case z9kN => first | assumption | omega); (case z9km => omega); (case z9km9 => omega); (case z9kc => omega); (case z9kc9 => omega)); walk_at "aDraw")))
  (k_with "call type:dict" => ((k_here; (with_reducible show wpAny _ _ (call (Value.type _) [Value.ref _]) _ _ _); k_dflt (refine' dict_new ?z9kh ?z9ku ?z9kF ?z9kN (TopRead.nolimit (by k_asm)) ?z9kl ?z9kM ?z9ks ?z9kn ?z9kx ?_; (case z9kh => rfl); (case z9ku => ktr_units); (case z9kF => k_asm); (case z9kN => k_asm); (case z9kl => k_mem); (case z9kM => assumption); (case z9ks => kcf_all); (case z9kn => assumption); (case z9kx => omega); k_whole); intro _ _ _ _ _ _ _ _)))
  (k_with "CompSrcT" => (refine Stop.out ?_))
  unfold Ctr
  k_fill
  intro dp un gd cn cs a ccd cl outer A₀ base h₀ L m s Q E mean mg mb B F X N T hk hd hu hret
  obtain ⟨kd, nm, ig, ic, mr⟩ := cs
  cases hk
  refine wpAny_call ?_
  k_dflt k_enter
  k_steps
  unfold Stop
  case _ L' h1' tk1' FG' F' B' X' T' l1 o' d1' N' h2' tk2 t₁ u₁ v₁ hr F9 N9 hkeep =>
  have hoff1 : ∀ p ∈ (L' + 1, o') :: rest, p.1 ≠ pen := fun p hp => by
    rcases List.mem_cons.mp hp with rfl | hp
    · show @Ne Nat (L' + 1) pen
      have := l1.1
      omega
    · exact hoff p hp
  refine LCt.CompSrcT.range (by rfl) (by k_asm) (cb_drop (news := (pen, W.listOf #[.int N0 t1, .int c0 t2] n0) :: ((L' + 1, o') :: rest)) N9 (by kcf_all)) (by assumption) (by decide) (n := 4) (by rfl) (by decide) ?_
  intro g'
  refine comp_gen (fun i ys nx => TabInv pen ((L' + 1, o') :: rest) c0 (c0 + 2 * i) (1 + i) ys nx) (fun i ys _ nx => TabInv pen ((L' + 1, o') :: rest) c0 (c0 + 2 * i + 1) (1 + i) ys nx) ?_ ?_ ?_ ?_ ?_ True.intro
  · rintro i ys nx v I oI C oC D m₂ h tk E' hi ⟨N1, c1, t1, t2, n1, tl, xs, T1, rfl, hN, h1, h2, ho, hp, hM, hk, hl, hn⟩ ⟨t9, rfl⟩ _ hC hx F N off ne
    have hall := off_app hp hoff1
    simp only [LCg.Off3] at off
    k_steps
    refine TestB.of (by assumption) (by assumption) (_ :: (tl ++ (L' + 1, o') :: rest)) (by kcf_all) (by simp only [LCg.Off3]; exact off) True.intro ?_
    exact ⟨_, _, _, _, _, tl, xs, T1, rfl, by assumption, by omega, by omega, ho, hp, hM, hk, hl, hn⟩
  · rintro i ys nx v I oI C oC D m₂ h tk E' hi ⟨N1, c1, t1, t2, n1, tl, xs, T1, rfl, hN, h1, h2, ho, hp, hM, hk, hl, hn⟩ ⟨t9, rfl⟩ _ hC hx F N off ne
    have hall := off_app hp hoff1
    simp only [LCg.Off3] at off
    k_steps
    refine EltB.of3 (by assumption) (by assumption) ?_ True.intro ?_
    · simp only [LCg.Off3, List.cons_append]
      refine ⟨off.1, ⟨?_, ?_, ?_⟩, ⟨?_, ?_, ?_⟩, ⟨?_, ?_, ?_⟩, off.2⟩ <;> omega
    · refine ⟨_, _, _, _, _, _, xs ++ [([1 + (i : Int), 0], _, _)], T1 ++ [(1 + (i : Int), _)], rfl, by assumption, by omega, by omega, ?_, ?_, (MadeAt.up' hM (by kcf_all)).append (.cons (by kcf_m) (by kcf_m) (by kcf_m) .nil), ?_, ?_, nodup_snoc hn hk⟩
      · exact Ord.cons (lt6 (by assumption)) (fun _ h => h) (Ord.cons (lt5 (by assumption)) (fun _ h => h) (Ord.cons (lt4 (by assumption)) (fun _ h => h) ho))
      · refine List.forall_mem_cons.mpr ⟨?_, List.forall_mem_cons.mpr ⟨?_, List.forall_mem_cons.mpr ⟨?_, hp⟩⟩⟩ <;> (show @LT.lt Nat _ _ _) <;> omega
      · intro p hp
        rcases List.mem_append.mp hp with hp | hp
        · have := hk p hp
          omega
        · rw [List.mem_singleton.mp hp]
          show 1 + (i : Int) < _
          omega
      · simp only [List.length_append, List.length_cons, List.length_nil]
        omega
  · rintro i ys nx v hi ⟨t9, rfl⟩ ⟨N1, c1, t1, t2, n1, tl, xs, T1, rfl, hN, h1, h2, ho, hp, hM, hk, hl, hn⟩
    exact ⟨N1, c1, t1, t2, n1, tl, xs, T1, rfl, hN, h1, by omega, ho, hp, hM, fun p hp' => by have := hk p hp'; omega, by omega, hn⟩
  · rintro ys nx ⟨N1, c1, t1, t2, n1, tl, xs, T1, rfl, hN, h1, h2, ho, hp, hM, hk, hl, hn⟩
    unfold LCg.FinE
    intro D h tk F N off
    k_steps
    refine hret _ _ _ _ (by assumption) (cb_drop (by assumption) (by kcf_all)) ⟨_, T1, N1, c1, t1, t2, n1, (_, _) :: tl, rfl, hN, h1, by omega, rfl, ?_, ?_, by assumption, by omega, hn⟩
    · exact Ord.cons (by assumption) (by kcf_all) (ho.of (by kcf_all))
    · exact List.forall_mem_cons.mpr ⟨lt_mem (by assumption) (by kcf_m), hp⟩
  · exact ⟨N0, c0, t1, t2, n0, [], [], [], rfl, hN0, Int.le_refl _, by omega, (fun _ h => nomatch h), (fun _ h => nomatch h), .nil, (fun _ h => nomatch h), (by simp), .nil⟩
end
section
set_option maxRecDepth 100000
set_option maxHeartbeats 8000000

theorem mul_nn {prog : Program} {w : World} {A : Around} {E : Value → Shared → Prop} {s : Shared} {a b : Int} {t u : Tok} {Q : Value → Shared → Prop} (ha : 0 ≤ a) (hb : 0 ≤ b) (hm : IntMulOk a b) (h : ∀ p, 0 ≤ p → Q (.int p s.toks) { s with toks := s.toks + 1 }) : wpAny (model prog w) A (binaryOp .Mult (.int a t) (.int b u)) Q E s :=
  mul_int (h _ (Int.mul_nonneg ha hb)) hm
structure NumTurn (h₀ : Heap) (L : Addr) (m₀ : Str → Option Value) (x y : Str) (s₁ : Shared) (old : Led) (f : Flow) (s₂ : Shared) : Prop where
  out : f = .next ∧ ∃ h' tk' m' c t, s₂ = { s₁ with heap := h', toks := tk' } ∧ Fr h₀ L h' m' ∧ News h₀ L h' old ∧ 0 ≤ c ∧ ∀ z, z ≠ x → m' z = if z = y then some (.int c t) else m₀ z
theorem NumTurn.of {h₀ : Heap} {L : Addr} {m₀ m' : Str → Option Value} {x y : Str} {s₁ : Shared} {old : Led} {h' : Heap} {tk' : Nat} {c : Int} {t : Tok} (F : Fr h₀ L h' m') (N : News h₀ L h' old) (hc : 0 ≤ c) (hm : ∀ z, z ≠ x → m' z = if z = y then some (.int c t) else m₀ z) : NumTurn h₀ L m₀ x y s₁ old .next { s₁ with heap := h', toks := tk' } := ⟨⟨rfl, h', tk', m', c, t, rfl, F, N, hc, hm⟩⟩
theorem num_turn {h₀ : Heap} {L : Addr} {m₀ m' : Str → Option Value} {x y : Str} {s₁ : Shared} {old : Led} {h' : Heap} {tk' : Nat} {c : Int} {t : Tok} (F : Fr h₀ L h' m') (N : News h₀ L h' old) (hy : m' y = some (.int c t)) (hc : 0 ≤ c) (hm : ∀ z, z ≠ x → z ≠ y → m' z = m₀ z) : NumTurn h₀ L m₀ x y s₁ old .next { s₁ with heap := h', toks := tk' } :=
  NumTurn.of F N hc fun z hz => by
    split
    · rename_i e; rw [e]; exact hy
    · rename_i e; exact hm z hz e
theorem lt1 {D : Addr} {y : Led} {a : Prop} (h : a ∧ AllLt D y) : ∀ p ∈ y, @LT.lt Nat _ p.1 D := ktn_ltOf h.2
theorem pen_loop {prog : Program} {w : World} {A : Around} {E : Value → Shared → Prop} {s : Shared} {env : Env} {h₀ : Heap} {x y : Str} {body : List Stmt} {Q : Flow → Shared → Prop} {l : Addr} {vs : List Value} {ns : List Int} {nn : Nat} {m₀ : Str → Option Value} {news : Led} {N0 : Int} {t0 : Tok}
    (hh : A.handled = none) (hl : (l, W.listOf vs.toArray nn) ∈ news) (hi : IntsAre vs ns) (F : Fr h₀ env.locals s.heap m₀) (N : News h₀ env.locals s.heap news) (hy : m₀ y = some (.int N0 t0)) (h0 : 0 ≤ N0)
    (turn : ∀ n t c t' h tk own, 0 ≤ c → Fr h₀ env.locals h (fun z => if z = x then some (.int n t) else if z = y then some (.int c t') else m₀ z) → News h₀ env.locals h (news ++ own) →
      wpAny (model prog w) A (execs body env) (NumTurn h₀ env.locals m₀ x y { s with heap := h, toks := tk } (news ++ own)) E { s with heap := h, toks := tk })
    (done : ∀ u c t h tk, 0 ≤ c → Fr h₀ env.locals h (fun z => if z = x then u else if z = y then some (.int c t) else m₀ z) → News h₀ env.locals h news → Q .next { s with heap := h, toks := tk }) :
    wpAny (model prog w) A (pyIter (.ref l)) (fun it s₂ => LoopAtV prog w A h₀ env x body Q E it s₂) E s := by
  refine PySem.W.iter_invNL (fun _ m nx => nx = news ∧ ∃ c t, 0 ≤ c ∧ ∀ z, z ≠ x → m z = if z = y then some (.int c t) else m₀ z) hh hl hi F N ⟨rfl, N0, t0, h0, fun z _ => ?_⟩ ?_ ?_
  · split
    · rename_i e; rw [e]; exact hy
    · rfl
  · rintro i n t m₁ news₁ h tk own _ _ _ _ ⟨rfl, c, t', hc, hm⟩ F1 N1
    have e : (fun z => if z = x then some (Value.int n t) else m₁ z) = (fun z => if z = x then some (.int n t) else if z = y then some (.int c t') else m₀ z) := by
      funext z
      split
      · rfl
      · rename_i hz; exact hm z hz
    rw [e] at F1
    refine wpAny_mono (turn n t c t' h tk own hc F1 N1) (fun f s₂ hq => ?_) fun _ _ e => e
    obtain ⟨rfl, h', tk', m', c2, t2, rfl, F2, N2, hc2, hm2⟩ := hq.out
    exact ⟨h', tk', m', _, news₁, rfl, F2, N2, fun p hp => List.mem_append_left _ hp, fun p hp => List.mem_append_right _ hp, rfl, hl, rfl, c2, t2, hc2, hm2⟩
  · rintro m₁ news₁ h tk _ ⟨rfl, c, t, hc, hm⟩ F1 N1
    have e : m₁ = (fun z => if z = x then m₁ x else if z = y then some (.int c t) else m₀ z) := by
      funext z
      split
      · rename_i hz; rw [hz]
      · rename_i hz; exact hm z hz
    rw [e] at F1
    exact done _ c t h tk hc F1 N1
set_option maxHeartbeats 500000 in
theorem pen_ctr {w : World} {l : Addr} {vs : List Value} {ns : List Int} {news : Led} (hI : IntsAre vs ns) (hn : ns.length ≤ 63) :
  ∀ (dp un : Nat) (gd : Option (List Code)) (cn : Str) (cs : Scope) (a : Addr) (ccd : Value) (cl : List (Str × Addr)) (outer : List Env) (A₀ : Around) (base h₀ : Heap) (L : Addr) (m : Str → Option Value) (s : Shared) (Q E : Value → Shared → Prop) (mean : ExcName → Option Value) (mg mb : Str → Option Value),
    h₀.IsList l vs.toArray → Below A₀ base outer h₀ → Fr h₀ L s.heap m → (hw.heap_1 w.params).In h₀ → News h₀ L s.heap news → Top hw.view_1 (looseW hw.view_1 [Str.ofString "PaperError", Str.ofString "told_objects", Str.ofString "VIEWS"]) mean mg mb h₀ → cs.kind = .function →
    dp + 2 < recursionLimit → un + 16 * 2 < cLine →
    (∀ d N' t1 t2 n' h' tk', Fr h₀ L h' m → News h₀ L h' ((d, W.listOf #[.int N' t1, .int 0 t2] n') :: news) → 0 ≤ N' → (∀ p ∈ news, @LT.lt Nat _ p.1 d) → Q (.ref d) { s with heap := h', toks := tk' }) →
    wpAny (model PySem.Challenge.rw_og0168_01.row.prog w) (ktrTop dp un gd cn cs L a ccd cl outer) (call (.ref 408) [.ref l]) Q E s := by
  k_with_none
  w_top off
  (k_with "exec For Name Subscript cons nil" => ((k_here; (with_unfolding_all refine' For_invVF ‹Fr _ _ _ _› ?z9k1 ?z9k2 ?_; (case z9k1 => exact rfl); (case z9k2 => exact rfl); k_whole))))
  (k_with "pyIter ref" => (((with_reducible show wpAny _ _ (pyIter _) _ _ _); refine Stop.out ?_)))
  (k_with "binaryOp Mult int int" => ((k_here; (with_reducible refine' mul_nn ?z9k1 ?z9k2 ?z9k3 ?_; (case z9k1 => omega); (case z9k2 => omega); (case z9k3 => first | exact PySem.IntMulOk.of_right (by decide) | exact PySem.IntMulOk.of_left (by decide))); intro _ _)))
  (k_with "execs nil" => (refine Stop.out ?_))
  k_fill
  intro dp un gd cn cs a ccd cl outer A₀ base h₀ L m s Q E mean mg mb hL B F X N T hk hd hu hret
  refine wpAny_call ?_
  k_dflt cell_enter
  rename Fr h₀ _ _ _ => FG2
  have hL2 := hL.at fun o e => FG2.keep _ _ e
  k_steps
  unfold Stop
  k_dflt (refine' pen_loop (x := Str.ofString "cell") (y := Str.ofString "number") ?hh ?hl ?hi ?hF ?hN ?hy ?h0 ?ht ?hd; (case hF => k_asm); (case hN => k_asm); (case hl => k_mem); (case hi => assumption); (case hy => rfl); (case hh => rfl); (case h0 => decide))
  · intro n t c t' h tk own hc F N
    k_steps
    all_goals (
      unfold Stop
      refine wpAny_execs_nil ?_
      refine num_turn (by assumption) (by assumption) (by rfl) (by omega) (fun z hz hzy => ?_)
      simp only [if_neg hz, if_neg hzy])
  · intro u c t h tk hc F N
    k_steps
    refine hret _ _ _ _ _ _ _ (by assumption) (cb_drop (by assumption) (by kcf_all)) (by assumption) ?_
    first | assumption | exact lt1 (by assumption)
end
section
set_option maxRecDepth 100000
set_option maxHeartbeats 8000000

def Mid (h₀ : Heap) (L : Addr) (m : Str → Option Value) (s : Shared) (cO cN cP p : Addr) (oO oN oP : Obj) (tl0 : Led) (b : Int) (P : Value → Led → Prop) (v : Value) (s' : Shared) : Prop :=
  ∃ tl h tk N k t1 t2 n, s' = { s with heap := h, toks := tk } ∧ Fr h₀ L h m ∧ News h₀ L h ((cO, oO) :: (cN, oN) :: (cP, oP) :: (p, W.listOf #[.int N t1, .int k t2] n) :: tl) ∧ 0 ≤ N ∧ 0 ≤ k ∧ k ≤ b ∧ (∀ q ∈ tl, @LT.lt Nat _ p q.1) ∧ (∀ q ∈ tl0, q ∈ tl) ∧ P v tl
theorem Mid.of {h₀ : Heap} {L : Addr} {m : Str → Option Value} {s : Shared} {cO cN cP p : Addr} {oO oN oP : Obj} {tl0 tl all : Led} {b : Int} {P : Value → Led → Prop} {v : Value} {h : Heap} {tk : Nat} {N k : Int} {t1 t2 : Tok} {n : Nat} (F : Fr h₀ L h m) (NW : News h₀ L h all) (hs : ∀ q ∈ (cO, oO) :: (cN, oN) :: (cP, oP) :: (p, W.listOf #[.int N t1, .int k t2] n) :: tl, q ∈ all) (hN : 0 ≤ N) (hk : 0 ≤ k) (hb : k ≤ b) (ho : ∀ q ∈ tl, @LT.lt Nat _ p q.1) (h0 : ∀ q ∈ tl0, q ∈ tl) (hP : P v tl) :
    Mid h₀ L m s cO cN cP p oO oN oP tl0 b P v { s with heap := h, toks := tk } := ⟨tl, h, tk, N, k, t1, t2, n, rfl, F, cb_drop NW hs, hN, hk, hb, ho, h0, hP⟩
theorem midCut {prog : Program} {w : World} {A : Around} {E : Value → Shared → Prop} {X : Sem Value} {Q : Value → Shared → Prop} {s : Shared} {h₀ : Heap} {L : Addr} {m : Str → Option Value} {cO cN cP p : Addr} {oO oN oP : Obj} {tl0 : Led} {N0 k0 : Int} {t01 t02 : Tok} {n0 : Nat} (b : Int) (P : Value → Led → Prop)
    (F : Fr h₀ L s.heap m) (NW : News h₀ L s.heap ((cO, oO) :: (cN, oN) :: (cP, oP) :: (p, W.listOf #[.int N0 t01, .int k0 t02] n0) :: tl0))
    (h1 : wpAny (model prog w) A X (Mid h₀ L m s cO cN cP p oO oN oP tl0 b P) E s)
    (h2 : ∀ v tl h tk N k t1 t2 n, Fr h₀ L h m → News h₀ L h ((cO, oO) :: (cN, oN) :: (cP, oP) :: (p, W.listOf #[.int N t1, .int k t2] n) :: tl) → 0 ≤ N → 0 ≤ k → k ≤ b → (∀ q ∈ tl, @LT.lt Nat _ p q.1) → (∀ q ∈ tl0, q ∈ tl) → P v tl → Q v { s with heap := h, toks := tk }) :
    wpAny (model prog w) A X Q E s := by
  refine wpAny_mono h1 (fun v s₂ hq => ?_) fun _ _ e => e
  obtain ⟨tl, h, tk, N, k, t1, t2, n, rfl, F', NW', a, b, c, d, e, f⟩ := hq
  exact h2 v tl h tk N k t1 t2 n F' NW' a b c d e f
theorem perm4 {h₀ h : Heap} {L : Addr} {a b c d : Addr × Obj} (N : News h₀ L h ([a, b, c] ++ [d])) : News h₀ L h [b, c, d, a] := cb_drop N (by kcf_all)
theorem ne_all {p : Addr} {tl : Led} (h : ∀ q ∈ tl, @LT.lt Nat _ p q.1) : ∀ q ∈ tl, q.1 ≠ p := fun q hq => Nat.ne_of_gt (h q hq)
theorem ne_low {c p : Addr} {tl : Led} (hc : @LT.lt Nat _ c p) (h : ∀ q ∈ tl, @LT.lt Nat _ p q.1) : ∀ q ∈ tl, q.1 ≠ c := fun q hq => Nat.ne_of_gt (Nat.lt_trans hc (h q hq))
theorem tup_any {prog : Program} {w : World} {A : Around} {E : Value → Shared → Prop} {s : Shared} {value slice : PySem.Expr} {t : Addr} {l : List Value} {k : Int} {u : Tok} {Q : Value → Shared → Prop} (ht : IsTup s.heap t l.toArray) (h0 : 0 ≤ k) (h1 : k < l.length) (h2 : l.length ≤ 1000) (h : ∀ x ∈ l, Q x s)
    (hs : subscripted slice false (.ref t) (.int k u) = operate [.ref t, .int k u] (getItem (.ref t) (.int k u)) := by with_unfolding_all rfl) : wpAny (model prog w) A (subscriptTail value slice (.ref t) (.int k u)) Q E s := by
  have hj : seqIndex? k l.length = some k.toNat := by
    unfold seqIndex?
    simp only [show ¬ k < 0 by omega, if_false]
    rw [if_pos (by simp only [Bool.and_eq_true, decide_eq_true_eq]; omega)]
  have hlt : k.toNat < l.length := by omega
  exact item_tupleT ht (by omega) (by omega) hj (List.getElem?_eq_getElem hlt) (h _ (List.getElem_mem hlt)) hs
theorem Mid.new {h₀ : Heap} {L : Addr} {m : Str → Option Value} {s : Shared} {cO cN cP p : Addr} {oO oN oP : Obj} {tl0 : Led} {b : Int} {P : Value → Led → Prop} {v : Value} {h : Heap} {tk : Nat} {N k : Int} {t1 t2 : Tok} {n : Nat} (nw : Led) (F : Fr h₀ L h m) (NW : News h₀ L h (nw ++ (cO, oO) :: (cN, oN) :: (cP, oP) :: (p, W.listOf #[.int N t1, .int k t2] n) :: tl0)) (hN : 0 ≤ N) (hk : 0 ≤ k) (hb : k ≤ b) (ho : ∀ q ∈ tl0, @LT.lt Nat _ p q.1) (hnw : ∀ q ∈ nw, @LT.lt Nat _ p q.1) (hP : P v (nw ++ tl0)) :
    Mid h₀ L m s cO cN cP p oO oN oP tl0 b P v { s with heap := h, toks := tk } :=
  Mid.of F NW (by kcf_all) hN hk hb (fun q hq => (List.mem_append.mp hq).elim (hnw q) (ho q)) (fun q hq => List.mem_append_right _ hq) hP
def MenuAt (v : Value) (tl : Led) : Prop := ∃ mt l n, v = .ref mt ∧ (mt, ({ cls := .type "tuple", data := .seq (List.toArray l) n } : Obj)) ∈ tl ∧ l.length = 8 ∧ ∀ x ∈ l, ∃ q y most t t' n', x = Value.ref q ∧ (q, ({ cls := .type "tuple", data := .seq #[.str y t, .int most t'] n' } : Obj)) ∈ tl ∧ (y, most) ∈ VT
inductive PageIt : It → Prop
  | ref (k : Int) : PageIt (.ref k)
  | int (i : Int) (h : 0 ≤ i) : PageIt (.int i)
inductive NumInv (cO cN cP p : Addr) (oO oN oP : Obj) (tl0 : Led) (b : Int) (i : Nat) (ys : List Value) (nx : Led) : Prop
  | mk (N k : Int) (t1 t2 : Tok) (n : Nat) (tl : Led) (its : List It) (e : nx = (cO, oO) :: (cN, oN) :: (cP, oP) :: (p, W.listOf #[.int N t1, .int k t2] n) :: tl) (hN : 0 ≤ N) (hk : 0 ≤ k) (hb : k ≤ b + i) (ho : ∀ q ∈ tl, @LT.lt Nat _ p q.1) (hs : ∀ q ∈ tl0, q ∈ tl) (hi : ItAll tl ys its) (hn : ∀ it ∈ its, it.num = true) (hl : ys.length = i) : NumInv cO cN cP p oO oN oP tl0 b i ys nx
theorem comp_mapB {prog : Program} {w : World} {A : Around} {h₀ : Heap} {L : Addr} {m : Str → Option Value} {env : Env} {elt : PySem.Expr} {x : Str} {scope : Scope} {cl : List (Str × Addr)} {s : Shared} {S : List (Addr × Obj) → Prop} {P : Nat → Value → Prop} {Fin : List Value → List (Addr × Obj) → Prop} {news : Led} {n : Nat}
    (J : Nat → List Value → Led → Prop)
    (turn : ∀ i ys nx v I oI C oC D m₂ h tk (E' : Value → Shared → Prop), i < n → J i ys nx → P i v → LCg.NsObj oC m₂ → m₂ x = some v → Fr h₀ L h m → News h₀ L h ((I, oI) :: (C, oC) :: (D, LCg.lst ys) :: nx) → LCg.Off3 I C D nx → ((@Ne Nat I C) ∧ (@Ne Nat I D) ∧ (@Ne Nat C D)) →
      wpAny (model prog w) A (eval elt (compEnvC scope cl C env)) (EltB h₀ L m { s with heap := h, toks := tk } I oI C oC D (LCg.lst ys) S (fun y nx' => J (i + 1) (ys ++ [y]) nx')) E' { s with heap := h, toks := tk })
    (fin : ∀ ys nx, J n ys nx → Fin ys nx) (h0 : J 0 [] news) : LCg.CompRest prog w A h₀ L m env elt x scope cl s S P Fin n 0 [] news := comp_map J turn fin h0
theorem EltB.new3 {h₀ : Heap} {L : Addr} {m : Str → Option Value} {s₁ : Shared} {I : Addr} {oI : Obj} {C : Addr} {oC : Obj} {D : Addr} {oD : Obj} {K : Value → Led → Prop} {y : Value} {h' : Heap} {tk : Nat} {x1 x2 x3 c1 c2 c3 P : Addr × Obj} {tl : Led} (F : Fr h₀ L h' m) (N : News h₀ L h' (x1 :: x2 :: x3 :: (I, oI) :: (C, oC) :: (D, oD) :: c1 :: c2 :: c3 :: P :: tl)) (off : LCg.Off3 I C D (c1 :: c2 :: c3 :: P :: x1 :: x2 :: x3 :: tl)) (r : K y (c1 :: c2 :: c3 :: P :: x1 :: x2 :: x3 :: tl)) :
    EltB h₀ L m s₁ I oI C oC D oD (fun _ => True) K y { s₁ with heap := h', toks := tk } := LCg.CompEnd.intro F N _ (by kcf_all) off True.intro r
theorem PageIt.or {it : It} (h : PageIt it) : (∃ k, it = .ref k) ∨ ∃ i, 0 ≤ i ∧ it = .int i := by
  cases h with
  | ref k => exact .inl ⟨k, rfl⟩
  | int i h => exact .inr ⟨i, h, rfl⟩
theorem num_snoc {its : List It} {it : It} (h : ∀ x ∈ its, x.num = true) (h2 : it.num = true) : ∀ x ∈ its ++ [it], x.num = true := fun x hx => by
  rcases List.mem_append.mp hx with hx | hx
  · exact h x hx
  · rw [List.mem_singleton.mp hx]; exact h2
end
section
set_option maxRecDepth 100000
set_option maxHeartbeats 8000000

theorem strip_front (a b : Value) (hb : isNo b = false) (ys : List Value) : strip ([a, b] ++ ys) = [a, b] ++ strip ys := by
  unfold strip
  rw [List.reverse_append, List.dropWhile_append]
  split
  · rename_i h
    have h' : List.dropWhile isNo ys.reverse = [] := by simpa using h
    rw [h']
    simp [hb]
  · simp
theorem sk1 : PyData.strOk (Str.ofString "name") = true := by decide +kernel
theorem sk2 : PyData.strOk (Str.ofString "null") = true := by decide +kernel
theorem sk3 : PyData.strOk (Str.ofString "int") = true := by decide +kernel
theorem sk4 : PyData.strOk (Str.ofString "real") = true := by decide +kernel
theorem sk5 : PyData.strOk (Str.ofString "ref") = true := by decide +kernel
theorem sk6 : PyData.strOk (Str.ofString "array") = true := by decide +kernel
theorem told_ok {it : It} (h : ∀ x, it = .name x → PyData.strOk x = true) : kqdOk 8 it.told = true := by
  cases it with
  | name x => have := h x rfl; simp [It.told, kqdOk, this, sk1]
  | none => simp [It.told, kqdOk, sk2]
  | int i => simp [It.told, kqdOk, sk3]
  | dec => simp [It.told, kqdOk, sk4]
  | ref k => simp [It.told, kqdOk, sk5]
theorem stripI_mem {its : List It} : ∀ it ∈ stripI its, it ∈ its := by
  intro it h
  unfold stripI at h
  have h2 := List.mem_reverse.mp h
  exact List.mem_reverse.mp ((List.dropWhile_suffix _).subset h2)
theorem row_ok {pit : It} {x : Str} {its : List It} (hx : PyData.strOk x = true) (hp : ∀ y, pit = .name y → PyData.strOk y = true) (hn : ∀ it ∈ its, it.num = true) : kqdOk 9 (rowDat pit x its) = true := by
  unfold rowDat
  rw [kqdOk, List.all_eq_true]
  intro d hd
  rcases List.mem_cons.mp hd with rfl | hd
  · simp [kqdOk, sk6]
  obtain ⟨it, hit, rfl⟩ := List.mem_map.mp hd
  rcases List.mem_cons.mp hit with rfl | hit
  · exact told_ok hp
  rcases List.mem_cons.mp hit with rfl | hit
  · exact told_ok fun y e => by cases e; exact hx
  · have := hn it (stripI_mem it hit)
    exact told_ok fun y e => by rw [e] at this; cases this
theorem vt_ok {x : Str} {most : Int} (h : (x, most) ∈ VT) : PyData.strOk x = true := by
  unfold VT at h
  simp only [List.mem_cons, List.not_mem_nil, or_false, Prod.mk.injEq] at h
  rcases h with ⟨rfl, _⟩ | ⟨rfl, _⟩ | ⟨rfl, _⟩ | ⟨rfl, _⟩ | ⟨rfl, _⟩ | ⟨rfl, _⟩ | ⟨rfl, _⟩ | ⟨rfl, _⟩ <;> decide +kernel
theorem stripI_pad (its : List It) (n : Nat) : stripI (its ++ List.replicate n It.none) = stripI its := by
  induction n with
  | zero => simp
  | succ n ih => 
    rw [List.replicate_succ', ← List.append_assoc]
    unfold stripI at ih ⊢
    rw [List.reverse_append]
    simpa [List.dropWhile_cons, It.isNo] using ih
section
variable {prog : Program} {w : World} {A : Around} {E : Value → Shared → Prop} {s : Shared} {h₀ : Heap} {L : Addr} {news n₁ n₂ : Led} {a b : Value} {ds : List Dat} {Q : Value → Shared → Prop}
theorem dat_same (N : News h₀ L s.heap news) (Da : DatIn n₁ a (.tuple ds)) (sa : ∀ p ∈ n₁, p ∈ news) (Db : DatIn n₂ b (.tuple ds)) (sb : ∀ p ∈ n₂, p ∈ news) (ha : kqdOk 9 (.tuple ds) = true) :
    ∃ as bs, Reads s.heap a (kqdP (.tuple ds)) as ∧ Reads s.heap b (kqdP (.tuple ds)) bs ∧ SeqAt.shaped (kqdP (.tuple ds)) = true ∧ PyData.eqv (kqdP (.tuple ds)) (kqdP (.tuple ds)) = true := by
  obtain ⟨as, ra⟩ := kqd_in N 9 (DatIn.mono sa Da) ha
  obtain ⟨bs, rb⟩ := kqd_in N 9 (DatIn.mono sb Db) ha
  have la := kqd_lay 9 _ ha
  refine ⟨as, bs, ra, rb, ?_, (kqd_eqv 9 _ _ 9 ha ha).mpr rfl⟩
  unfold SeqAt.shaped; rw [la.1, Bool.true_and]; exact decide_eq_true (Nat.le_trans la.2 (by decide))
theorem dat_ne (N : News h₀ L s.heap news) (Da : DatIn n₁ a (.tuple ds)) (sa : ∀ p ∈ n₁, p ∈ news) (Db : DatIn n₂ b (.tuple ds)) (sb : ∀ p ∈ n₂, p ∈ news) (ha : kqdOk 9 (.tuple ds) = true) (hu : A.units + 64 < cLine) (h : Q (.bool false) s) : wpAny (model prog w) A (compareOp .NotEq a b) Q E s := by
  obtain ⟨as, bs, ra, rb, la, e⟩ := dat_same N Da sa Db sb ha
  exact ne_dataH ra rb la la hu (by rw [e]; exact h)
theorem dat_eq (N : News h₀ L s.heap news) (Da : DatIn n₁ a (.tuple ds)) (sa : ∀ p ∈ n₁, p ∈ news) (Db : DatIn n₂ b (.tuple ds)) (sb : ∀ p ∈ n₂, p ∈ news) (ha : kqdOk 9 (.tuple ds) = true) (hu : A.units + 64 < cLine) (h : Q (.bool true) s) : wpAny (model prog w) A (compareOp .Eq a b) Q E s := by
  obtain ⟨as, bs, ra, rb, la, e⟩ := dat_same N Da sa Db sb ha
  exact eq_dataH ra rb la la hu (by rw [e]; exact h)
end
theorem pack {h₀ h : Heap} {L cO cN cP : Addr} {oO oN oP : Obj} {P : Addr × Obj} {nw tl : Led} (N : News h₀ L h (nw ++ (cO, oO) :: (cN, oN) :: (cP, oP) :: P :: tl)) : News h₀ L h ((cO, oO) :: (cN, oN) :: (cP, oP) :: P :: (nw ++ tl)) := cb_drop N (by kcf_all)
theorem pack2 {h₀ h : Heap} {L cO cN cP : Addr} {oO oN oP : Obj} {P : Addr × Obj} {nw tl : Led} (N : News h₀ L h (nw ++ (cO, oO) :: (cN, oN) :: (cP, oP) :: P :: tl)) : ∃ TL, TL = nw ++ tl ∧ News h₀ L h ((cO, oO) :: (cN, oN) :: (cP, oP) :: P :: TL) := ⟨_, rfl, pack N⟩
theorem nameBare {h₀ h : Heap} {L D : Addr} {m : Str → Option Value} (_ : Fr h₀ L h (fun z => if z = Str.ofString "bare" then some (.ref D) else m z)) : ∃ D', D' = D := ⟨D, rfl⟩
theorem nameNm {h₀ h : Heap} {L D nm : Addr} {pv : Value} {ys : List Value} {n : Nat} {rest : Led} (_ : News h₀ L h ((D, W.listOf ([pv, .ref nm] ++ ys).toArray n) :: rest)) : ∃ nm', nm' = nm := ⟨nm, rfl⟩
theorem pad_all {news : Led} {vs : List Value} {its : List It} (h : ItAll news vs its) (n : Nat) : ItAll news (vs ++ List.replicate n Value.none) (its ++ List.replicate n It.none) := by
  refine h.append ?_
  induction n with
  | zero => exact .nil
  | succ n ih => exact .cons .none ih
theorem pad_num {its : List It} (h : ∀ it ∈ its, it.num = true) (n : Nat) : ∀ it ∈ its ++ List.replicate n It.none, it.num = true := fun it hm => by
  rcases List.mem_append.mp hm with hm | hm
  · exact h it hm
  · rw [List.eq_of_mem_replicate hm]; rfl
theorem nameCells {h₀ h : Heap} {L cO cN : Addr} {oO oN : Obj} {rest : Led} (_ : News h₀ L h ((cO, oO) :: (cN, oN) :: rest)) : ∃ a b, a = cO ∧ b = cN := ⟨_, _, rfl, rfl⟩
end
section
set_option maxRecDepth 100000
set_option maxHeartbeats 8000000

theorem rowDat_pad {pit : It} {x : Str} {its : List It} {n : Nat} : rowDat pit x (its ++ List.replicate n It.none) = rowDat pit x its := by
  unfold rowDat
  rw [stripI_pad]
theorem ctr_seenP {w : World} {v : Value} {pit : It} {x : Str} {its : List It} {n : Nat} {news : Led} (ht : TgtIn news v pit x (its ++ List.replicate n It.none)) (hn : its.length + n ≤ 4) :
    Ctr w 427 20 [v] news (fun r news' => ∃ tl, news' = tl ++ news ∧ Ord tl news ∧ DatIn tl r (rowDat pit x its)) := by
  have h := ctr_seen (w := w) ht (by rw [List.length_append, List.length_replicate]; exact hn)
  rw [rowDat_pad] at h
  exact h
theorem ctr_tableU {w : World} {pen : Addr} {N0 c0 : Int} {t1 t2 : Tok} {n0 : Nat} {news : Led} {g : Obj → Led} (U : UpdF pen (W.listOf #[.int N0 t1, .int c0 t2] n0) news g) (hN0 : 0 ≤ N0) (hc0 : 0 ≤ c0) (hc9 : c0 < 100000) :
    Ctr w 420 8 [.ref pen] news (fun r news' => ∃ (d : Addr) (T : List (Int × Int)) (N' c' : Int) (t1' t2' : Tok) (n' : Nat) (tl : Led), r = .ref d ∧ 0 ≤ N' ∧ 0 ≤ c' ∧ c' ≤ c0 + 8 ∧
      news' = tl ++ g (W.listOf #[.int N' t1', .int c' t2'] n') ∧ Ord tl news ∧ TabIn w tl d T ∧ (T.length : Int) ≤ 4 ∧ (T.map (·.1)).Nodup) := by
  obtain ⟨pre, post, rfl, hg, a, b⟩ := U.split
  intro dp un gd cn cs a' ccd cl outer A₀ base h₀ L m s Q E mean mg mb B F X N T hk hd hu hret
  refine ctr_table (rest := pre ++ post) hN0 hc0 hc9 (fun p hp => (List.mem_append.mp hp).elim (a p) (b p)) _ _ _ _ _ _ _ _ _ _ _ _ _ _ _ _ _ _ _ _ B F X (fun p hp => N p (mem_swap' p hp)) T hk hd hu ?_
  rintro r nw h' tk' F' N' ⟨d, T', N2, c2, t1', t2', n', tl, e, p1, p2, p3, rfl, o1, o2, tb, ln, nd⟩
  refine hret r (tl ++ g (W.listOf #[.int N2 t1', .int c2 t2'] n')) h' tk' F' ?_ ⟨d, T', N2, c2, t1', t2', n', tl, e, p1, by omega, p3, rfl, ?_, tb, ln, nd⟩
  · intro q hq
    rw [hg] at hq
    rcases List.mem_append.mp hq with hq | hq
    · exact N' q (.tail _ (List.mem_append_left _ hq))
    · rcases List.mem_cons.mp (mem_swap q hq) with rfl | hq
      · exact N' _ (.head _)
      · exact N' q (.tail _ (List.mem_append_right _ hq))
  · intro q hq z hz
    rcases List.mem_cons.mp (mem_swap z hz) with rfl | hz
    · exact o2 q hq
    · exact o1 q hq z hz
end
section
set_option maxRecDepth 100000
set_option maxHeartbeats 8000000

theorem UpdF.app {d : Addr} {o : Obj} {t l : Led} {g : Obj → Led} (ht : ∀ p ∈ t, p.1 ≠ d) (h : UpdF d o l g) : UpdF d o (t ++ l) (fun o' => t ++ g o') := by
  induction t with
  | nil => exact h
  | cons x t ih => exact .tail (ht x (.head _)) (ih fun p hp => ht p (.tail _ hp))
theorem ord_ne {tl news : Led} {a : Addr} {o : Obj} (h : Ord tl news) (hm : (a, o) ∈ news) : ∀ q ∈ tl, q.1 ≠ a := fun q hq => Nat.ne_of_gt (h q hq _ hm)
theorem rebase {h₀ h h1 : Heap} {L : Addr} {news x : Led} (_ : News h₀ L h news) (N : News h₀ L h1 x) (hs : ∀ p ∈ news, p ∈ x) : News h₀ L h1 news := cb_drop N hs
theorem ne_app {c : Addr} {x y : Led} (h1 : ∀ q ∈ x, q.1 ≠ c) (h2 : ∀ q ∈ y, q.1 ≠ c) : ∀ q ∈ x ++ y, q.1 ≠ c := fun q hq => (List.mem_append.mp hq).elim (h1 q) (h2 q)
theorem pack3 {h₀ h : Heap} {L cO cN cP : Addr} {oO oN oP : Obj} {P x : Addr × Obj} {t1 t2 tl : Led} (N : News h₀ L h (x :: (t1 ++ (t2 ++ (cO, oO) :: (cN, oN) :: (cP, oP) :: P :: tl)))) : ∃ TL, TL = t1 ++ (t2 ++ tl) ∧ News h₀ L h ((cO, oO) :: (cN, oN) :: (cP, oP) :: P :: TL) := ⟨_, rfl, cb_drop N (by kcf_all)⟩
theorem nameTab {w : World} {n : Led} {d : Addr} {T : List (Int × Int)} (_ : TabIn w n d T) : ∃ d' T', d' = d ∧ T' = T := ⟨_, _, rfl, rfl⟩
end
section
set_option maxRecDepth 100000
set_option maxHeartbeats 8000000

def thru (T1 T2 : List (Int × Int)) : List (Int × Int) := T1.filterMap fun p => (T2.lookup p.2).map fun v => (p.1, v)
theorem lookup_out {T : List (Int × Int)} {a : Int} (h : a ∉ T.map (·.1)) : T.lookup a = none := by
  induction T with
  | nil => rfl
  | cons p T ih =>
    obtain ⟨k, v⟩ := p
    simp only [List.map_cons, List.mem_cons, not_or] at h
    rw [List.lookup_cons, show (a == k) = false by simpa using h.1]
    exact ih h.2
theorem thru_lookup {T1 T2 : List (Int × Int)} (h : (T1.map (·.1)).Nodup) (k : Int) : (thru T1 T2).lookup k = (T1.lookup k).bind fun v => T2.lookup v := by
  induction T1 with
  | nil => rfl
  | cons p T ih =>
    obtain ⟨a, b⟩ := p
    simp only [List.map_cons, List.nodup_cons] at h
    have ih' := ih h.2
    unfold thru at ih' ⊢
    rw [List.filterMap_cons]
    by_cases e : k = a
    · subst e
      rw [lookup_out h.1] at ih'
      cases hb : T2.lookup b with
      | none => simpa [hb, List.lookup_cons] using ih'
      | some v => simp [hb, List.lookup_cons]
    · have e' : (k == a) = false := by simpa using e
      cases hb : T2.lookup b with
      | none => simpa [hb, List.lookup_cons, e'] using ih'
      | some v => simpa [hb, List.lookup_cons, e'] using ih'
theorem moved_thru {T1 T2 : List (Int × Int)} (h : (T1.map (·.1)).Nodup) (pit : It) : movedIt pit (thru T1 T2) = (movedIt pit T1).bind fun p => movedIt p T2 := by
  cases pit with
  | ref k =>
    simp only [movedIt, thru_lookup h]
    cases T1.lookup k <;> rfl
  | none => rfl
  | int i => rfl
  | dec => rfl
  | name x => rfl
def MovedAs (tl : Led) (v : Value) (x : Str) (its : List It) : Option It → Prop
  | none => v = .none
  | some p => TgtIn tl v p x its
theorem MovedAs.up {n1 n2 : Led} {v : Value} {x : Str} {its : List It} {o : Option It} (h : MovedAs n1 v x its o) (hs : ∀ p ∈ n1, p ∈ n2) : MovedAs n2 v x its o := by
  cases o with
  | none => exact h
  | some p => exact TgtIn.up h hs
theorem Ctr.mono {w : World} {f : Addr} {d : Nat} {vs : List Value} {news : Led} {R R' : Value → Led → Prop} (h : Ctr w f d vs news R) (k : ∀ r n, R r n → R' r n) : Ctr w f d vs news R' :=
  fun dp un gd cn cs a ccd cl outer A₀ base h₀ L m s Q E mean mg mb B F X N T hk hd hu hret => h dp un gd cn cs a ccd cl outer A₀ base h₀ L m s Q E mean mg mb B F X N T hk hd hu fun r n h' tk F' N' q => hret r n h' tk F' N' (k r n q)
theorem ctr_movedO {w : World} {v : Value} {d : Addr} {pit : It} {x : Str} {its : List It} {T : List (Int × Int)} {news : Led} (ht : TgtIn news v pit x its) (hT : TabIn w news d T) :
    Ctr w 401 12 [v, .ref d] news (fun r news' => ∃ tl, news' = tl ++ news ∧ MovedAs news' r x its (movedIt pit T)) := by
  cases hm : movedIt pit T with
  | none => exact (ctr_movedN ht hT hm).mono fun r n ⟨e, f⟩ => ⟨[], e, f⟩
  | some p => exact (ctr_moved ht hT hm).mono fun r n ⟨tl, e, f⟩ => ⟨tl, e, f⟩
def MidE (h₀ : Heap) (L : Addr) (m : Str → Option Value) (s : Shared) (c1 c2 c3 c4 : Addr × Obj) (TL : Led) (P : Value → Led → Prop) (v : Value) (s' : Shared) : Prop :=
  ∃ TL' h tk, s' = { s with heap := h, toks := tk } ∧ Fr h₀ L h m ∧ News h₀ L h (c1 :: c2 :: c3 :: c4 :: TL') ∧ (∀ q ∈ TL, q ∈ TL') ∧ P v TL'
theorem MidE.of {h₀ : Heap} {L : Addr} {m : Str → Option Value} {s : Shared} {c1 c2 c3 c4 : Addr × Obj} {TL all : Led} {P : Value → Led → Prop} {v : Value} {h : Heap} {tk : Nat} (F : Fr h₀ L h m) (NW : News h₀ L h all) (hs : ∀ q ∈ c1 :: c2 :: c3 :: c4 :: TL, q ∈ all) (hP : P v all) :
    MidE h₀ L m s c1 c2 c3 c4 TL P v { s with heap := h, toks := tk } :=
  ⟨all, h, tk, rfl, F, fun q hq => by
    rcases List.mem_cons.mp hq with rfl | hq
    · exact NW _ (hs _ (.head _))
    rcases List.mem_cons.mp hq with rfl | hq
    · exact NW _ (hs _ (.tail _ (.head _)))
    rcases List.mem_cons.mp hq with rfl | hq
    · exact NW _ (hs _ (.tail _ (.tail _ (.head _))))
    rcases List.mem_cons.mp hq with rfl | hq
    · exact NW _ (hs _ (.tail _ (.tail _ (.tail _ (.head _)))))
    · exact NW _ hq, fun q hq => hs q (.tail _ (.tail _ (.tail _ (.tail _ hq)))), hP⟩
theorem midCutE {prog : Program} {w : World} {A : Around} {E : Value → Shared → Prop} {X : Sem Value} {Q : Value → Shared → Prop} {s : Shared} {h₀ : Heap} {L : Addr} {m : Str → Option Value} {c1 c2 c3 c4 : Addr × Obj} {TL : Led} (P : Value → Led → Prop)
    (_ : Fr h₀ L s.heap m) (_ : News h₀ L s.heap (c1 :: c2 :: c3 :: c4 :: TL))
    (h1 : wpAny (model prog w) A X (MidE h₀ L m s c1 c2 c3 c4 TL P) E s)
    (h2 : ∀ v TL' h tk, Fr h₀ L h m → News h₀ L h (c1 :: c2 :: c3 :: c4 :: TL') → (∀ q ∈ TL, q ∈ TL') → P v TL' → Q v { s with heap := h, toks := tk }) :
    wpAny (model prog w) A X Q E s := by
  refine wpAny_mono h1 (fun v s₂ hq => ?_) fun _ _ e => e
  obtain ⟨TL', h, tk, rfl, F', N', a, b⟩ := hq
  exact h2 v TL' h tk F' N' a b
theorem moved_page {pit p : It} {T : List (Int × Int)} (h : (∃ k, pit = .ref k) ∨ ∃ i, 0 ≤ i ∧ pit = .int i) (hm : movedIt pit T = some p) : (∃ k, p = .ref k) ∨ ∃ i, 0 ≤ i ∧ p = .int i := by
  rcases h with ⟨k, rfl⟩ | ⟨i, hi, rfl⟩
  · obtain ⟨v, _, rfl⟩ := Option.map_eq_some_iff.mp hm
    exact .inl ⟨v, rfl⟩
  · cases hm
    exact .inr ⟨i, hi, rfl⟩
theorem page_ok {pit : It} {x : Str} {most : Int} {its : List It} (h : (∃ k, pit = .ref k) ∨ ∃ i, 0 ≤ i ∧ pit = .int i) (hx : (x, most) ∈ VT) (hn : ∀ it ∈ its, it.num = true) : kqdOk 9 (rowDat pit x its) = true :=
  row_ok (vt_ok hx) (fun z e => by rcases h with ⟨k, rfl⟩ | ⟨i, _, rfl⟩ <;> cases e) hn
theorem thru_keys {T1 T2 : List (Int × Int)} (h : (T1.map (·.1)).Nodup) : ((thru T1 T2).map (·.1)).Nodup := by
  induction T1 with
  | nil => exact .nil
  | cons p T ih =>
    obtain ⟨a, b⟩ := p
    simp only [List.map_cons, List.nodup_cons] at h
    have ih' := ih h.2
    unfold thru at ih' ⊢
    rw [List.filterMap_cons]
    cases hb : T2.lookup b with
    | none => simpa [hb] using ih'
    | some v =>
      simp only [hb, Option.map_some, List.map_cons, List.nodup_cons]
      refine ⟨fun hm => ?_, ih'⟩
      obtain ⟨q, hq, e⟩ := List.mem_map.mp hm
      obtain ⟨z, hz, e2⟩ := List.mem_filterMap.mp hq
      obtain ⟨v', _, e3⟩ := Option.map_eq_some_iff.mp e2
      apply h.1
      rw [← e, ← e3]
      exact List.mem_map.mpr ⟨z, hz, rfl⟩
theorem thru_len {T1 T2 : List (Int × Int)} : (thru T1 T2).length ≤ T1.length := List.length_filterMap_le _ _
end
section
set_option maxRecDepth 100000
set_option maxHeartbeats 8000000

theorem lookup_get : ∀ {T : List (Int × Int)} {i : Nat} {k v : Int}, (T.map (·.1)).Nodup → T[i]? = some (k, v) → T.lookup k = some v
  | [], i, k, v, _, e => by simp at e
  | p :: T, 0, k, v, _, e => by
    simp only [List.getElem?_cons_zero, Option.some.injEq] at e
    subst e
    simp
  | (a, b) :: T, i + 1, k, v, h, e => by
    simp only [List.getElem?_cons_succ] at e
    simp only [List.map_cons, List.nodup_cons] at h
    have hne : (k == a) = false := by
      have : k ≠ a := fun q => h.1 (by rw [← q]; exact List.mem_map.mpr ⟨(k, v), List.mem_of_getElem? e, rfl⟩)
      simpa using this
    rw [List.lookup_cons, hne]
    exact lookup_get h.2 e
theorem thru_snoc {T1 T2 : List (Int × Int)} {i : Nat} {k v : Int} (e : T1[i]? = some (k, v)) : thru (T1.take (i + 1)) T2 = thru (T1.take i) T2 ++ ((T2.lookup v).map fun u => (k, u)).toList := by
  rw [List.take_add_one, e]
  unfold thru
  rw [List.filterMap_append]
  refine congrArg _ ?_
  show List.filterMap _ [(k, v)] = _
  cases h : T2.lookup v <;> simp [List.filterMap_cons, h]
theorem RowsAre.get {n1 : Led} : ∀ {xs : List (List Int × Addr × Value)} {T : List (Int × Int)}, RowsAre n1 xs T → ∀ {i : Nat} {x : List Int × Addr × Value}, xs[i]? = some x →
    ∃ k v a b t1 t2 n t3 t4 n', x = ([k, 0], a, .ref b) ∧ T[i]? = some (k, v) ∧ (a, tup2 k 0 t1 t2 n) ∈ n1 ∧ (b, tup2 v 0 t3 t4 n') ∈ n1
  | _, _, .nil, i, x, e => by simp at e
  | _, _, .cons a b r, 0, x, e => by
    simp only [List.getElem?_cons_zero, Option.some.injEq] at e
    subst e
    exact ⟨_, _, _, _, _, _, _, _, _, _, rfl, rfl, a, b⟩
  | _, _, .cons a b r, i + 1, x, e => by
    simp only [List.getElem?_cons_succ] at e ⊢
    exact r.get e
theorem key_at {w : World} {es : Array DictEntry} {xs : List (List Int × Addr × Value)} {T : List (Int × Int)} {news : Led} {i : Nat} {v : Value} (he : es.toList = xs.map (entryOfKey (tupleKind (intKind PySem.Challenge.rw_og0168_01.row.prog w)))) (R : RowsAre news xs T) (h : ∃ e, es[i]? = some e ∧ v = e.key) :
    ∃ k u a b t1 t2 n t3 t4 n', v = .ref a ∧ T[i]? = some (k, u) ∧ (a, tup2 k 0 t1 t2 n) ∈ news ∧ (b, tup2 u 0 t3 t4 n') ∈ news := by
  obtain ⟨e, hi, rfl⟩ := h
  rw [entry_at he] at hi
  obtain ⟨x, hx, rfl⟩ := Option.map_eq_some_iff.mp hi
  obtain ⟨k, u, a, b, t1, t2, n, t3, t4, n', rfl, h1, h2, h3⟩ := R.get hx
  exact ⟨k, u, a, b, t1, t2, n, t3, t4, n', rfl, h1, h2, h3⟩
inductive ThruInv (B : Led) (T1 T2 : List (Int × Int)) (i : Nat) (ys : List Value) (nx : Led) : Prop
  | mk (tl : Led) (xs : List (List Int × Addr × Value)) (e : nx = tl ++ B) (hM : MadeAt nx ys xs (thru (T1.take i) T2)) : ThruInv B T1 T2 i ys nx
theorem EltB.of1 {h₀ : Heap} {L : Addr} {m : Str → Option Value} {s₁ : Shared} {I : Addr} {oI : Obj} {C : Addr} {oC : Obj} {D : Addr} {oD : Obj} {S : Led → Prop} {K : Value → Led → Prop} {y : Value} {h' : Heap} {tk : Nat} {x1 : Addr × Obj} {tl : Led} (F : Fr h₀ L h' m) (N : News h₀ L h' (x1 :: (I, oI) :: (C, oC) :: (D, oD) :: tl)) (off : LCg.Off3 I C D (x1 :: tl)) (hS : S (x1 :: tl)) (r : K y (x1 :: tl)) :
    EltB h₀ L m s₁ I oI C oC D oD S K y { s₁ with heap := h', toks := tk } := LCg.CompEnd.intro F N _ (by kcf_all) off hS r
theorem ThruInv.skip {B nx : Led} {T1 T2 : List (Int × Int)} {i : Nat} {ys : List Value} {k u : Int} (h : ThruInv B T1 T2 i ys nx) (e : T1[i]? = some (k, u)) (h2 : (T2.lookup u).isSome = false) : ThruInv B T1 T2 (i + 1) ys nx := by
  obtain ⟨tl, xs, e1, hM⟩ := h
  refine ⟨tl, xs, e1, ?_⟩
  rw [thru_snoc e, Option.isSome_eq_false_iff, Option.isNone_iff_eq_none] at *
  rw [h2]
  simpa using hM
theorem ThruInv.snoc {B nx : Led} {T1 T2 : List (Int × Int)} {i : Nat} {ys : List Value} {k u z : Int} {q a b : Addr} {t1 t2 t3 t4 : Tok} {n0 n n' : Nat} (h : ThruInv B T1 T2 i ys nx) (e : T1[i]? = some (k, u)) (h2 : T2.lookup u = some z)
    (ha : (a, tup2 k 0 t1 t2 n) ∈ nx) (hb : (b, tup2 z 0 t3 t4 n') ∈ nx) : ThruInv B T1 T2 (i + 1) (ys ++ [.ref q]) ((q, { cls := .type "tuple", data := .seq #[.ref a, .ref b] n0 }) :: nx) := by
  obtain ⟨tl, xs, e1, hM⟩ := h
  refine ⟨(_, _) :: tl, xs ++ [([k, 0], a, .ref b)], by rw [e1]; rfl, ?_⟩
  rw [thru_snoc e, h2]
  exact (hM.up' fun p hp => .tail _ hp).append (.cons (.head _) (.tail _ ha) (.tail _ hb) .nil)
theorem tab_item2 {w : World} {A : Around} {E : Value → Shared → Prop} {s : Shared} {h₀ : Heap} {L a d : Addr} {news nT : Led} {T : List (Int × Int)} {k v : Int} {t1 t2 : Tok} {n : Nat} {Q : Value → Shared → Prop} {value slice : PySem.Expr} (N : News h₀ L s.heap news) (hT : TabIn w nT d T) (hsub : ∀ p ∈ nT, p ∈ news) (hk : (a, tup2 k 0 t1 t2 n) ∈ news) (hu : A.units + 1 < cLine) (hl : T.lookup k = some v)
    (h : ∀ b t3 t4 n' tk, (b, tup2 v 0 t3 t4 n') ∈ nT → Q (.ref b) { s with toks := tk })
    (hs : subscripted slice false (.ref d) (.ref a) = operate [.ref d, .ref a] (getItem (.ref d) (.ref a)) := by with_unfolding_all rfl) (hg : ∀ r, letTemporaryGo value (.ref d) r = pure () := by intro _; with_unfolding_all rfl) :
    wpAny (model PySem.Challenge.rw_og0168_01.row.prog w) A (subscriptTail value slice (.ref d) (.ref a)) Q E s := by
  obtain ⟨o, es, ep, xs, hd, hc, hdat, lo, he, hn, R⟩ := hT
  rcases R.look (k := k) with ⟨q1, q2⟩ | ⟨v', a', b', t3, t4, n', q1, q2, q3⟩
  · rw [hl] at q1; cases q1
  · rw [hl] at q1
    cases q1
    have hD : s.heap.DictOfH (tupleKind (intKind PySem.Challenge.rw_og0168_01.row.prog w)) d xs := ⟨o, es, ep, (N _ (hsub _ hd)).1, hc, hdat, he, (R.up hsub).keys N, hn⟩
    exact subscriptTail_builtin hD.typeIs slot_dict_getitem.lookup (wpAny_getItem_heap hu (key_of N hk) hD q2 (h _ _ _ _ _ q3)) hs hg
theorem comp_genB {prog : Program} {w : World} {A : Around} {h₀ : Heap} {L : Addr} {m : Str → Option Value} {env : Env} {ct elt : PySem.Expr} {x : Str} {scope : Scope} {cl : List (Str × Addr)} {s : Shared} {S : Led → Prop} {P : Nat → Value → Prop} {Fin : List Value → Led → Prop} {news : Led} {n : Nat}
    (J : Led → Nat → List Value → Led → Prop) (K : Led → Nat → List Value → Bool → Led → Prop)
    (test : ∀ i ys nx v I oI C oC D m₂ h tk (E' : Value → Shared → Prop), i < n → J news i ys nx → P i v → S nx → LCg.NsObj oC m₂ → m₂ x = some v → Fr h₀ L h m → News h₀ L h ((I, oI) :: (C, oC) :: (D, LCg.lst ys) :: nx) → LCg.Off3 I C D nx → ((@Ne Nat I C) ∧ (@Ne Nat I D) ∧ (@Ne Nat C D)) →
      wpAny (model prog w) A (isTrue ct (compEnvC scope cl C env) (eval ct (compEnvC scope cl C env))) (TestB h₀ L m { s with heap := h, toks := tk } I oI C oC D (LCg.lst ys) S (K news i ys)) E' { s with heap := h, toks := tk })
    (elt_ : ∀ i ys nx v I oI C oC D m₂ h tk (E' : Value → Shared → Prop), i < n → K news i ys true nx → P i v → S nx → LCg.NsObj oC m₂ → m₂ x = some v → Fr h₀ L h m → News h₀ L h ((I, oI) :: (C, oC) :: (D, LCg.lst ys) :: nx) → LCg.Off3 I C D nx → ((@Ne Nat I C) ∧ (@Ne Nat I D) ∧ (@Ne Nat C D)) →
      wpAny (model prog w) A (eval elt (compEnvC scope cl C env)) (EltB h₀ L m { s with heap := h, toks := tk } I oI C oC D (LCg.lst ys) S (fun y nx' => J news (i + 1) (ys ++ [y]) nx')) E' { s with heap := h, toks := tk })
    (skip : ∀ i ys nx v, i < n → P i v → K news i ys false nx → J news (i + 1) ys nx)
    (fin : ∀ ys nx, J news n ys nx → Fin ys nx) (h0 : J news 0 [] news) (S0 : S news) : LCt.CompRestT prog w A h₀ L m env ct elt x scope cl s S P Fin n 0 [] news :=
  comp_gen (J news) (K news) test elt_ skip fin h0 S0
end
section
local macro_rules | `(tactic| k_qdec) => `(tactic| decide +kernel)
set_option maxHeartbeats 40000000
theorem tab_notin_none {w : World} {A : Around} {E : Value → Shared → Prop} {s : Shared} {h₀ : Heap} {L a d : Addr} {news : Led} {T : List (Int × Int)} {k : Int} {t1 t2 : Tok} {n : Nat} {Q : Value → Shared → Prop} (hl : T.lookup k = none) (N : News h₀ L s.heap news) (hT : TabIn w news d T) (hk : (a, tup2 k 0 t1 t2 n) ∈ news) (hu : A.units + 1 < cLine) (h : ∀ tk, Q (.bool true) { s with toks := tk }) :
    wpAny (model PySem.Challenge.rw_og0168_01.row.prog w) A (compareOp .NotIn (.ref a) (.ref d)) Q E s := tab_notin N hT hk hu (by rw [hl]; exact h)
theorem tab_notin_some {w : World} {A : Around} {E : Value → Shared → Prop} {s : Shared} {h₀ : Heap} {L a d : Addr} {news : Led} {T : List (Int × Int)} {k v : Int} {t1 t2 : Tok} {n : Nat} {Q : Value → Shared → Prop} (hl : T.lookup k = some v) (N : News h₀ L s.heap news) (hT : TabIn w news d T) (hk : (a, tup2 k 0 t1 t2 n) ∈ news) (hu : A.units + 1 < cLine) (h : ∀ tk, Q (.bool false) { s with toks := tk }) :
    wpAny (model PySem.Challenge.rw_og0168_01.row.prog w) A (compareOp .NotIn (.ref a) (.ref d)) Q E s := tab_notin N hT hk hu (by rw [hl]; exact h)
theorem vt1 : (Str.ofString "XYZ", (3 : Int)) ∈ VT := .head _
theorem vt2 : (Str.ofString "Fit", (0 : Int)) ∈ VT := .tail _ (.head _)
theorem vt3 : (Str.ofString "FitH", (1 : Int)) ∈ VT := .tail _ (.tail _ (.head _))
theorem vt4 : (Str.ofString "FitV", (1 : Int)) ∈ VT := .tail _ (.tail _ (.tail _ (.head _)))
theorem vt5 : (Str.ofString "FitR", (4 : Int)) ∈ VT := .tail _ (.tail _ (.tail _ (.tail _ (.head _))))
theorem vt6 : (Str.ofString "FitB", (0 : Int)) ∈ VT := .tail _ (.tail _ (.tail _ (.tail _ (.tail _ (.head _)))))
theorem vt7 : (Str.ofString "FitBH", (1 : Int)) ∈ VT := .tail _ (.tail _ (.tail _ (.tail _ (.tail _ (.tail _ (.head _))))))
theorem vt8 : (Str.ofString "FitBV", (1 : Int)) ∈ VT := .tail _ (.tail _ (.tail _ (.tail _ (.tail _ (.tail _ (.tail _ (.head _)))))))
theorem menu_each {tl : Led} {q : Addr} {y : Str} {most : Int} {t t' : Tok} {n' : Nat} (h : (q, ({ cls := .type "tuple", data := .seq #[.str y t, .int most t'] n' } : Obj)) ∈ tl) (hv : (y, most) ∈ VT) :
    ∃ q₁ y₁ most₁ t₁ t₁' n₁', Value.ref q = Value.ref q₁ ∧ (q₁, ({ cls := .type "tuple", data := .seq #[.str y₁ t₁, .int most₁ t₁'] n₁' } : Obj)) ∈ tl ∧ (y₁, most₁) ∈ VT := ⟨_, _, _, _, _, _, rfl, h, hv⟩
local macro_rules | `(tactic| k_all) => `(tactic| (k_extra "D"; first | assumption | (refine' List.forall_mem_cons.mpr ⟨?a, ?b⟩; (case a => k_ne); (case b => k_all))))
local macro_rules | `(tactic| k_updF) => `(tactic| (k_extra "D"; (refine' UpdF.app ?a ?b; (case a => exact ord_ne (by assumption) (by kcf_m)); (case b => k_updF))))
local macro_rules | `(tactic| walk_at "lt_each") => `(tactic| first | exact List.forall_mem_nil _ | assumption | (refine' List.forall_mem_cons.mpr ⟨?lta, ?ltb⟩; (case lta => ((show @LT.lt Nat _ _ _); omega)); (case ltb => walk_at "lt_each")))
local macro_rules | `(tactic| walk_at "ne_each") => `(tactic| first | assumption | (refine' List.forall_mem_cons.mpr ⟨?lta, ?ltb⟩; (case lta => ((show @Ne Nat _ _); first | omega | exact Nat.ne_of_gt (lt_mem (by assumption) (by kcf_m)))); (case ltb => walk_at "ne_each")))
noncomputable def st1 : { P : Prop // Wrap P → hw.1 } := ⟨_, fun hP => (by
  k_with_none
  delta hw
  k_go0
  (all_goals try k_fold)
  k_with_none
  (k_with "A" => skip)
  (k_with "S0" => skip)
  (k_with "eval ListComp" => ((k_here; k_dflt (refine LCg.ListComp_U (F₀ := by k_asm) (by with_unfolding_all rfl) (by decide) (by rfl) (by decide) (by rfl) ?_))))
  (k_with "call ref" => ((k_here; (with_reducible show wpAny _ _ (call (Value.ref 415) [Value.ref _, Value.int _ _]) _ _ _); k_dflt (refine' Ctr.use (ctr_draw ?z9kU ?z9kN ?z9km ?z9km9 ?z9kc ?z9kc9) ?z9k1 ?z9k2 ?z9k3 ?z9k4 ?z9k5 ?z9k6 ?z9k7 ?z9k8 ?_; (case z9k1 => k_asm); (case z9k2 => k_asm); (case z9k3 => k_asm); (case z9k4 => k_asm); (case z9k5 => k_asm); (case z9k6 => first | exact rfl | assumption); (case z9k7 => ktr_room); (case z9k8 => ktr_units); (case z9kU => k_updF); (case z9kN => first | assumption | omega); (case z9km => omega); (case z9km9 => omega); (case z9kc => omega); (case z9kc9 => omega)); walk_at "aDraw")))
  (k_with "call type:list" => ((k_here; (with_reducible show wpAny _ _ (call (Value.type _) [Value.ref _]) _ _ _); k_dflt (refine' list_copyK ?z9k1 ?z9k2 ?z9k3 ?_ ?z9z; (case z9k1 => k_asm); (case z9k2 => k_asm); (case z9k3 => exact News.isList (by k_asm) (by k_mem)); (case z9z => (rw [sizeLine_eq]; simp only [List.size_toArray, List.length_cons]; omega)); k_whole); intro _ _ _ _ _ _)))
  (k_with "subscriptTail" => ((k_here; (with_reducible show wpAny _ _ (subscriptTail _ _ (Value.ref _) (Value.int _ _)) _ _ _); k_dflt (refine' item_at ?z9k1 ?z9k2 ?z9k3 ?z9k4 ?z9k5 ?_ ?z9k6 ?z9k7; (case z9k1 => k_asm); (case z9k2 => k_mem); (case z9k3 => decide); (case z9k4 => decide); (case z9k5 => exact rfl); (case z9k6 => with_unfolding_all rfl); (case z9k7 => (intro _; with_unfolding_all rfl)); k_whole))))
  (k_with "call builtin:len" => ((k_here; (with_reducible show wpAny _ _ (call (Value.builtin "len") [Value.ref _]) _ _ _); k_dflt (refine' len_at ?z9k1 ?z9k2 ?z9k3 ?z9k4 ?_; (case z9k1 => k_asm); (case z9k2 => k_mem); (case z9k3 => first | omega | (simp only [List.length_cons, List.length_append]; omega)); (case z9k4 => first | (simp only [List.length_cons, Int.natCast_add, Int.natCast_one]; exact rfl) | exact rfl); k_whole))))
  (k_with "subscriptTail Name Slice ref ref" => ((k_here; (with_reducible show wpAny _ _ (subscriptTail _ (PySem.Expr.Slice _ _ none _) (Value.ref _) (Value.ref _)) _ _ _); k_dflt (refine' kmk_slice_lit ?z9F ?z9N ?z9l ?z9p ?z9q ?z9e ?_ ?z9s ?z9t ?z9z; (case z9F => k_asm); (case z9N => k_asm); (case z9l => exact News.isList (by k_asm) (by k_mem)); (case z9p => kmk_part); (case z9q => kmk_part); (case z9e => first | exact pick2 | exact pick1); (case z9s => with_unfolding_all rfl); (case z9t => (intro _; with_unfolding_all rfl)); (case z9z => (rw [sizeLine_eq]; simp only [List.size_toArray, List.length_cons]; omega))); intro _ _ _ _ _)))
  (k_with "binaryOp Add ref ref" => ((k_here; (with_reducible show wpAny _ _ (binaryOp _ (Value.ref _) (Value.ref _)) _ _ _); (fail_if_success kde_tuple); k_dflt (refine' kmk_add_lit ?z9F ?z9N ?z9a ?z9b ?z9e ?_ ?z9z; (case z9F => k_asm); (case z9N => k_asm); (case z9a => exact News.isList (by k_asm) (by k_mem)); (case z9b => exact News.isList (by k_asm) (by k_mem)); (case z9e => exact rfl); (case z9z => (rw [sizeLine_eq]; simp only [List.length_cons, List.length_nil, List.length_replicate]; omega))); intro _ _ _ _ _)))
  (k_with "binaryOp Mult ref int" => ((k_here; (with_reducible show wpAny _ _ (binaryOp Operator.Mult (Value.ref _) (Value.int _ _)) _ _ _); k_dflt (refine' KMa.mul ?z9F ?z9N ?z9l ?z9lo ?z9hi ?z9z ?z9e ?_; (case z9F => k_asm); (case z9N => k_asm); (case z9l => exact News.isList (by k_asm) (by k_mem)); (case z9lo => omega); (case z9hi => omega); (case z9z => (simp only [List.length_cons, List.length_nil]; omega)); (case z9e => exact rep_one)); intro _ _ _ _ _)))
  (k_with "call ref" => ((k_here; (with_reducible show wpAny _ _ (call (Value.ref 408) [Value.ref _]) _ _ _); k_dflt (refine' pen_ctr ?z9kI ?z9kn _ _ _ _ _ _ _ _ _ _ _ _ _ _ _ _ _ _ _ _ ?z9kL ?z9k1 ?z9k2 ?z9k3 ?z9k4 ?z9k5 ?z9k6 ?z9k7 ?z9k8 ?_; (case z9kI => assumption); (case z9kL => assumption); (case z9kn => omega); (case z9k1 => k_asm); (case z9k2 => k_asm); (case z9k3 => k_asm); (case z9k4 => k_asm); (case z9k5 => k_asm); (case z9k6 => first | exact rfl | assumption); (case z9k7 => ktr_room); (case z9k8 => ktr_units)); intro _ _ _ _ _ _ _ _ _ _ _; (try dsimp only); (try k_fold))))
  (k_with "eval IfExp" => ((refine Stop.out ?_)))
  k_steps
  unfold Stop
  case _ oO oN oP' lO lN lP N0 X0 qk1 ek1 p M9 u9 v9 n9 h9 tk9 F9 N9 hp9 l9 h' oP Fx Nx hx =>
  have N1 := perm4 Nx
  have c3 := l9 _ (.head _)
  have c2 := l9 _ (.tail _ (.head _))
  have c1 := l9 _ (.tail _ (.tail _ (.head _)))
  dsimp only at c1 c2 c3
  have hnil : ∀ q ∈ ([] : Led), q.1 ≠ p := fun _ h => nomatch h
  clear N0 N9 F9 Nx l9
  with_reducible refine midCut 2 (fun v tl => ∃ pit, ItIn tl v pit ∧ PageIt pit) Fx N1 ?_ ?_
  · k_with_none
    (k_with "A" => skip)
    (k_with "eval ListComp" => ((k_here; k_dflt (refine LCg.ListComp_U (F₀ := by k_asm) (by with_unfolding_all rfl) (by decide) (by rfl) (by decide) (by rfl) ?_))))
    (k_with "call ref" => ((k_here; (with_reducible show wpAny _ _ (call (Value.ref 415) [Value.ref _, Value.int _ _]) _ _ _); k_dflt (refine' Ctr.use (ctr_draw ?z9kU ?z9kN ?z9km ?z9km9 ?z9kc ?z9kc9) ?z9k1 ?z9k2 ?z9k3 ?z9k4 ?z9k5 ?z9k6 ?z9k7 ?z9k8 ?_; (case z9k1 => k_asm); (case z9k2 => k_asm); (case z9k3 => k_asm); (case z9k4 => k_asm); (case z9k5 => k_asm); (case z9k6 => first | exact rfl | assumption); (case z9k7 => ktr_room); (case z9k8 => ktr_units); (case z9kU => k_updF); (case z9kN => first | assumption | omega); (case z9km => omega); (case z9km9 => omega); (case z9kc => omega); (case z9kc9 => omega)); walk_at "aDraw")))
    (k_with "call type:list" => ((k_here; (with_reducible show wpAny _ _ (call (Value.type _) [Value.ref _]) _ _ _); k_dflt (refine' list_copyK ?z9k1 ?z9k2 ?z9k3 ?_ ?z9z; (case z9k1 => k_asm); (case z9k2 => k_asm); (case z9k3 => exact News.isList (by k_asm) (by k_mem)); (case z9z => (rw [sizeLine_eq]; simp only [List.size_toArray, List.length_cons]; omega)); k_whole); intro _ _ _ _ _ _)))
    (k_with "subscriptTail" => ((k_here; (with_reducible show wpAny _ _ (subscriptTail _ _ (Value.ref _) (Value.int _ _)) _ _ _); k_dflt (refine' item_at ?z9k1 ?z9k2 ?z9k3 ?z9k4 ?z9k5 ?_ ?z9k6 ?z9k7; (case z9k1 => k_asm); (case z9k2 => k_mem); (case z9k3 => decide); (case z9k4 => decide); (case z9k5 => exact rfl); (case z9k6 => with_unfolding_all rfl); (case z9k7 => (intro _; with_unfolding_all rfl)); k_whole))))
    (k_with "call builtin:len" => ((k_here; (with_reducible show wpAny _ _ (call (Value.builtin "len") [Value.ref _]) _ _ _); k_dflt (refine' len_at ?z9k1 ?z9k2 ?z9k3 ?z9k4 ?_; (case z9k1 => k_asm); (case z9k2 => k_mem); (case z9k3 => first | omega | (simp only [List.length_cons, List.length_append]; omega)); (case z9k4 => first | (simp only [List.length_cons, Int.natCast_add, Int.natCast_one]; exact rfl) | exact rfl); k_whole))))
    (k_with "subscriptTail Name Slice ref ref" => ((k_here; (with_reducible show wpAny _ _ (subscriptTail _ (PySem.Expr.Slice _ _ none _) (Value.ref _) (Value.ref _)) _ _ _); k_dflt (refine' kmk_slice_lit ?z9F ?z9N ?z9l ?z9p ?z9q ?z9e ?_ ?z9s ?z9t ?z9z; (case z9F => k_asm); (case z9N => k_asm); (case z9l => exact News.isList (by k_asm) (by k_mem)); (case z9p => kmk_part); (case z9q => kmk_part); (case z9e => first | exact pick2 | exact pick1); (case z9s => with_unfolding_all rfl); (case z9t => (intro _; with_unfolding_all rfl)); (case z9z => (rw [sizeLine_eq]; simp only [List.size_toArray, List.length_cons]; omega))); intro _ _ _ _ _)))
    (k_with "binaryOp Add ref ref" => ((k_here; (with_reducible show wpAny _ _ (binaryOp _ (Value.ref _) (Value.ref _)) _ _ _); (fail_if_success kde_tuple); k_dflt (refine' kmk_add_lit ?z9F ?z9N ?z9a ?z9b ?z9e ?_ ?z9z; (case z9F => k_asm); (case z9N => k_asm); (case z9a => exact News.isList (by k_asm) (by k_mem)); (case z9b => exact News.isList (by k_asm) (by k_mem)); (case z9e => exact rfl); (case z9z => (rw [sizeLine_eq]; simp only [List.length_cons, List.length_nil, List.length_replicate]; omega))); intro _ _ _ _ _)))
    (k_with "binaryOp Mult ref int" => ((k_here; (with_reducible show wpAny _ _ (binaryOp Operator.Mult (Value.ref _) (Value.int _ _)) _ _ _); k_dflt (refine' KMa.mul ?z9F ?z9N ?z9l ?z9lo ?z9hi ?z9z ?z9e ?_; (case z9F => k_asm); (case z9N => k_asm); (case z9l => exact News.isList (by k_asm) (by k_mem)); (case z9lo => omega); (case z9hi => omega); (case z9z => (simp only [List.length_cons, List.length_nil]; omega)); (case z9e => exact rep_one)); intro _ _ _ _ _)))
    (k_with "call ref" => ((k_here; (with_reducible show wpAny _ _ (call (Value.ref 408) [Value.ref _]) _ _ _); k_dflt (refine' pen_ctr ?z9kI ?z9kn _ _ _ _ _ _ _ _ _ _ _ _ _ _ _ _ _ _ _ _ ?z9kL ?z9k1 ?z9k2 ?z9k3 ?z9k4 ?z9k5 ?z9k6 ?z9k7 ?z9k8 ?_; (case z9kI => assumption); (case z9kL => assumption); (case z9kn => omega); (case z9k1 => k_asm); (case z9k2 => k_asm); (case z9k3 => k_asm); (case z9k4 => k_asm); (case z9k5 => k_asm); (case z9k6 => first | exact rfl | assumption); (case z9k7 => ktr_room); (case z9k8 => ktr_units)); intro _ _ _ _ _ _ _ _ _ _ _; (try dsimp only); (try k_fold))))
    k_steps
    · exact Mid.new [_, _] (by assumption) (by assumption) (by assumption) (by omega) (by omega) (fun _ h => nomatch h) (by walk_at "lt_each") ⟨_, .ref (by kcf_m) (by kcf_m), .ref _⟩
    · exact Mid.new [] (by assumption) (by assumption) (by assumption) (by omega) (by omega) (fun _ h => nomatch h) (by walk_at "lt_each") ⟨_, .int, .int _ (by assumption)⟩
  intro pv tl h tk N k t1 t2 n F2 N2 hN hk hb ho hs hp
  obtain ⟨pit, hpi, hpg⟩ := hp
  have hne := ne_all ho
  clear N1 hs hnil
  k_with_none
  (k_with "A" => skip)
  (k_with "S1" => skip)
  (k_with "eval ListComp" => ((k_here; k_dflt (refine LCg.ListComp_U (F₀ := by k_asm) (by with_unfolding_all rfl) (by decide) (by rfl) (by decide) (by rfl) ?_))))
  (k_with "call ref" => ((k_here; (with_reducible show wpAny _ _ (call (Value.ref 415) [Value.ref _, Value.int _ _]) _ _ _); k_dflt (refine' Ctr.use (ctr_draw ?z9kU ?z9kN ?z9km ?z9km9 ?z9kc ?z9kc9) ?z9k1 ?z9k2 ?z9k3 ?z9k4 ?z9k5 ?z9k6 ?z9k7 ?z9k8 ?_; (case z9k1 => k_asm); (case z9k2 => k_asm); (case z9k3 => k_asm); (case z9k4 => k_asm); (case z9k5 => k_asm); (case z9k6 => first | exact rfl | assumption); (case z9k7 => ktr_room); (case z9k8 => ktr_units); (case z9kU => k_updF); (case z9kN => first | assumption | omega); (case z9km => omega); (case z9km9 => omega); (case z9kc => omega); (case z9kc9 => omega)); walk_at "aDraw")))
  (k_with "call type:list" => ((k_here; (with_reducible show wpAny _ _ (call (Value.type _) [Value.ref _]) _ _ _); k_dflt (refine' list_copyK ?z9k1 ?z9k2 ?z9k3 ?_ ?z9z; (case z9k1 => k_asm); (case z9k2 => k_asm); (case z9k3 => exact News.isList (by k_asm) (by k_mem)); (case z9z => (rw [sizeLine_eq]; simp only [List.size_toArray, List.length_cons]; omega)); k_whole); intro _ _ _ _ _ _)))
  (k_with "subscriptTail" => ((k_here; (with_reducible show wpAny _ _ (subscriptTail _ _ (Value.ref _) (Value.int _ _)) _ _ _); k_dflt (refine' item_at ?z9k1 ?z9k2 ?z9k3 ?z9k4 ?z9k5 ?_ ?z9k6 ?z9k7; (case z9k1 => k_asm); (case z9k2 => k_mem); (case z9k3 => decide); (case z9k4 => decide); (case z9k5 => exact rfl); (case z9k6 => with_unfolding_all rfl); (case z9k7 => (intro _; with_unfolding_all rfl)); k_whole))))
  (k_with "call builtin:len" => ((k_here; (with_reducible show wpAny _ _ (call (Value.builtin "len") [Value.ref _]) _ _ _); k_dflt (refine' len_at ?z9k1 ?z9k2 ?z9k3 ?z9k4 ?_; (case z9k1 => k_asm); (case z9k2 => k_mem); (case z9k3 => first | omega | (simp only [List.length_cons, List.length_append]; omega)); (case z9k4 => first | (simp only [List.length_cons, Int.natCast_add, Int.natCast_one]; exact rfl) | exact rfl); k_whole))))
  (k_with "subscriptTail Name Slice ref ref" => ((k_here; (with_reducible show wpAny _ _ (subscriptTail _ (PySem.Expr.Slice _ _ none _) (Value.ref _) (Value.ref _)) _ _ _); k_dflt (refine' kmk_slice_lit ?z9F ?z9N ?z9l ?z9p ?z9q ?z9e ?_ ?z9s ?z9t ?z9z; (case z9F => k_asm); (case z9N => k_asm); (case z9l => exact News.isList (by k_asm) (by k_mem)); (case z9p => kmk_part); (case z9q => kmk_part); (case z9e => first | exact pick2 | exact pick1); (case z9s => with_unfolding_all rfl); (case z9t => (intro _; with_unfolding_all rfl)); (case z9z => (rw [sizeLine_eq]; simp only [List.size_toArray, List.length_cons]; omega))); intro _ _ _ _ _)))
  (k_with "binaryOp Add ref ref" => ((k_here; (with_reducible show wpAny _ _ (binaryOp _ (Value.ref _) (Value.ref _)) _ _ _); (fail_if_success kde_tuple); k_dflt (refine' kmk_add_lit ?z9F ?z9N ?z9a ?z9b ?z9e ?_ ?z9z; (case z9F => k_asm); (case z9N => k_asm); (case z9a => exact News.isList (by k_asm) (by k_mem)); (case z9b => exact News.isList (by k_asm) (by k_mem)); (case z9e => exact rfl); (case z9z => (rw [sizeLine_eq]; simp only [List.length_cons, List.length_nil, List.length_replicate]; omega))); intro _ _ _ _ _)))
  (k_with "binaryOp Mult ref int" => ((k_here; (with_reducible show wpAny _ _ (binaryOp Operator.Mult (Value.ref _) (Value.int _ _)) _ _ _); k_dflt (refine' KMa.mul ?z9F ?z9N ?z9l ?z9lo ?z9hi ?z9z ?z9e ?_; (case z9F => k_asm); (case z9N => k_asm); (case z9l => exact News.isList (by k_asm) (by k_mem)); (case z9lo => omega); (case z9hi => omega); (case z9z => (simp only [List.length_cons, List.length_nil]; omega)); (case z9e => exact rep_one)); intro _ _ _ _ _)))
  (k_with "call ref" => ((k_here; (with_reducible show wpAny _ _ (call (Value.ref 408) [Value.ref _]) _ _ _); k_dflt (refine' pen_ctr ?z9kI ?z9kn _ _ _ _ _ _ _ _ _ _ _ _ _ _ _ _ _ _ _ _ ?z9kL ?z9k1 ?z9k2 ?z9k3 ?z9k4 ?z9k5 ?z9k6 ?z9k7 ?z9k8 ?_; (case z9kI => assumption); (case z9kL => assumption); (case z9kn => omega); (case z9k1 => k_asm); (case z9k2 => k_asm); (case z9k3 => k_asm); (case z9k4 => k_asm); (case z9k5 => k_asm); (case z9k6 => first | exact rfl | assumption); (case z9k7 => ktr_room); (case z9k8 => ktr_units)); intro _ _ _ _ _ _ _ _ _ _ _; (try dsimp only); (try k_fold))))
  (k_with "eval Tuple" => (((with_reducible show wpAny _ _ (eval (PySem.Expr.Tuple (PySem.Expr.Tuple _ _ _ :: _) _ _) _) _ _ _); refine Stop.out ?_)))
  k_steps
  unfold Stop
  rename Fr _ _ _ _ => FF; rename News _ _ _ _ => NN
  with_reducible refine midCut 2 (fun v tl' => MenuAt v tl') FF NN ?_ ?_
  · k_with_none
    (k_with "A" => skip)
    (k_with "eval ListComp" => ((k_here; k_dflt (refine LCg.ListComp_U (F₀ := by k_asm) (by with_unfolding_all rfl) (by decide) (by rfl) (by decide) (by rfl) ?_))))
    (k_with "call ref" => ((k_here; (with_reducible show wpAny _ _ (call (Value.ref 415) [Value.ref _, Value.int _ _]) _ _ _); k_dflt (refine' Ctr.use (ctr_draw ?z9kU ?z9kN ?z9km ?z9km9 ?z9kc ?z9kc9) ?z9k1 ?z9k2 ?z9k3 ?z9k4 ?z9k5 ?z9k6 ?z9k7 ?z9k8 ?_; (case z9k1 => k_asm); (case z9k2 => k_asm); (case z9k3 => k_asm); (case z9k4 => k_asm); (case z9k5 => k_asm); (case z9k6 => first | exact rfl | assumption); (case z9k7 => ktr_room); (case z9k8 => ktr_units); (case z9kU => k_updF); (case z9kN => first | assumption | omega); (case z9km => omega); (case z9km9 => omega); (case z9kc => omega); (case z9kc9 => omega)); walk_at "aDraw")))
    (k_with "call type:list" => ((k_here; (with_reducible show wpAny _ _ (call (Value.type _) [Value.ref _]) _ _ _); k_dflt (refine' list_copyK ?z9k1 ?z9k2 ?z9k3 ?_ ?z9z; (case z9k1 => k_asm); (case z9k2 => k_asm); (case z9k3 => exact News.isList (by k_asm) (by k_mem)); (case z9z => (rw [sizeLine_eq]; simp only [List.size_toArray, List.length_cons]; omega)); k_whole); intro _ _ _ _ _ _)))
    (k_with "subscriptTail" => ((k_here; (with_reducible show wpAny _ _ (subscriptTail _ _ (Value.ref _) (Value.int _ _)) _ _ _); k_dflt (refine' item_at ?z9k1 ?z9k2 ?z9k3 ?z9k4 ?z9k5 ?_ ?z9k6 ?z9k7; (case z9k1 => k_asm); (case z9k2 => k_mem); (case z9k3 => decide); (case z9k4 => decide); (case z9k5 => exact rfl); (case z9k6 => with_unfolding_all rfl); (case z9k7 => (intro _; with_unfolding_all rfl)); k_whole))))
    (k_with "call builtin:len" => ((k_here; (with_reducible show wpAny _ _ (call (Value.builtin "len") [Value.ref _]) _ _ _); k_dflt (refine' len_at ?z9k1 ?z9k2 ?z9k3 ?z9k4 ?_; (case z9k1 => k_asm); (case z9k2 => k_mem); (case z9k3 => first | omega | (simp only [List.length_cons, List.length_append]; omega)); (case z9k4 => first | (simp only [List.length_cons, Int.natCast_add, Int.natCast_one]; exact rfl) | exact rfl); k_whole))))
    (k_with "subscriptTail Name Slice ref ref" => ((k_here; (with_reducible show wpAny _ _ (subscriptTail _ (PySem.Expr.Slice _ _ none _) (Value.ref _) (Value.ref _)) _ _ _); k_dflt (refine' kmk_slice_lit ?z9F ?z9N ?z9l ?z9p ?z9q ?z9e ?_ ?z9s ?z9t ?z9z; (case z9F => k_asm); (case z9N => k_asm); (case z9l => exact News.isList (by k_asm) (by k_mem)); (case z9p => kmk_part); (case z9q => kmk_part); (case z9e => first | exact pick2 | exact pick1); (case z9s => with_unfolding_all rfl); (case z9t => (intro _; with_unfolding_all rfl)); (case z9z => (rw [sizeLine_eq]; simp only [List.size_toArray, List.length_cons]; omega))); intro _ _ _ _ _)))
    (k_with "binaryOp Add ref ref" => ((k_here; (with_reducible show wpAny _ _ (binaryOp _ (Value.ref _) (Value.ref _)) _ _ _); (fail_if_success kde_tuple); k_dflt (refine' kmk_add_lit ?z9F ?z9N ?z9a ?z9b ?z9e ?_ ?z9z; (case z9F => k_asm); (case z9N => k_asm); (case z9a => exact News.isList (by k_asm) (by k_mem)); (case z9b => exact News.isList (by k_asm) (by k_mem)); (case z9e => exact rfl); (case z9z => (rw [sizeLine_eq]; simp only [List.length_cons, List.length_nil, List.length_replicate]; omega))); intro _ _ _ _ _)))
    (k_with "binaryOp Mult ref int" => ((k_here; (with_reducible show wpAny _ _ (binaryOp Operator.Mult (Value.ref _) (Value.int _ _)) _ _ _); k_dflt (refine' KMa.mul ?z9F ?z9N ?z9l ?z9lo ?z9hi ?z9z ?z9e ?_; (case z9F => k_asm); (case z9N => k_asm); (case z9l => exact News.isList (by k_asm) (by k_mem)); (case z9lo => omega); (case z9hi => omega); (case z9z => (simp only [List.length_cons, List.length_nil]; omega)); (case z9e => exact rep_one)); intro _ _ _ _ _)))
    (k_with "call ref" => ((k_here; (with_reducible show wpAny _ _ (call (Value.ref 408) [Value.ref _]) _ _ _); k_dflt (refine' pen_ctr ?z9kI ?z9kn _ _ _ _ _ _ _ _ _ _ _ _ _ _ _ _ _ _ _ _ ?z9kL ?z9k1 ?z9k2 ?z9k3 ?z9k4 ?z9k5 ?z9k6 ?z9k7 ?z9k8 ?_; (case z9kI => assumption); (case z9kL => assumption); (case z9kn => omega); (case z9k1 => k_asm); (case z9k2 => k_asm); (case z9k3 => k_asm); (case z9k4 => k_asm); (case z9k5 => k_asm); (case z9k6 => first | exact rfl | assumption); (case z9k7 => ktr_room); (case z9k8 => ktr_units)); intro _ _ _ _ _ _ _ _ _ _ _; (try dsimp only); (try k_fold))))
    k_steps
    refine Mid.new [_, _, _, _, _, _, _, _, _] (by assumption) (by assumption) (by assumption) (by assumption) (by assumption) (by assumption) (by walk_at "lt_each") ⟨_, [_, _, _, _, _, _, _, _], _, rfl, List.Mem.head _, rfl, ?_⟩
    refine List.forall_mem_cons.mpr ⟨menu_each (by kcf_m) vt1, List.forall_mem_cons.mpr ⟨menu_each (by kcf_m) vt2, List.forall_mem_cons.mpr ⟨menu_each (by kcf_m) vt3, List.forall_mem_cons.mpr ⟨menu_each (by kcf_m) vt4, List.forall_mem_cons.mpr ⟨menu_each (by kcf_m) vt5, List.forall_mem_cons.mpr ⟨menu_each (by kcf_m) vt6, List.forall_mem_cons.mpr ⟨menu_each (by kcf_m) vt7, List.forall_mem_cons.mpr ⟨menu_each (by kcf_m) vt8, List.forall_mem_nil _⟩⟩⟩⟩⟩⟩⟩⟩
  intro mv tl2 h2 tk2 N2 k2 t12 t22 n2 F3 N3 hN3 hk3 hb3 ho3 hs3 hp3
  obtain ⟨mt, ml, mn, rfl, hmt, hml, hall⟩ := hp3
  have hpi := hpi.up hs3
  have hne3 := ne_all ho3
  clear FF NN ho hne hs3
  k_with_none
  (k_with "A" => skip)
  (k_with "S2" => skip)
  (k_with "eval ListComp" => ((k_here; k_dflt (refine LCg.ListComp_U (F₀ := by k_asm) (by with_unfolding_all rfl) (by decide) (by rfl) (by decide) (by rfl) ?_))))
  (k_with "call ref" => ((k_here; (with_reducible show wpAny _ _ (call (Value.ref 415) [Value.ref _, Value.int _ _]) _ _ _); k_dflt (refine' Ctr.use (ctr_draw ?z9kU ?z9kN ?z9km ?z9km9 ?z9kc ?z9kc9) ?z9k1 ?z9k2 ?z9k3 ?z9k4 ?z9k5 ?z9k6 ?z9k7 ?z9k8 ?_; (case z9k1 => k_asm); (case z9k2 => k_asm); (case z9k3 => k_asm); (case z9k4 => k_asm); (case z9k5 => k_asm); (case z9k6 => first | exact rfl | assumption); (case z9k7 => ktr_room); (case z9k8 => ktr_units); (case z9kU => k_updF); (case z9kN => first | assumption | omega); (case z9km => omega); (case z9km9 => omega); (case z9kc => omega); (case z9kc9 => omega)); walk_at "aDraw")))
  (k_with "call type:list" => ((k_here; (with_reducible show wpAny _ _ (call (Value.type _) [Value.ref _]) _ _ _); k_dflt (refine' list_copyK ?z9k1 ?z9k2 ?z9k3 ?_ ?z9z; (case z9k1 => k_asm); (case z9k2 => k_asm); (case z9k3 => exact News.isList (by k_asm) (by k_mem)); (case z9z => (rw [sizeLine_eq]; simp only [List.size_toArray, List.length_cons]; omega)); k_whole); intro _ _ _ _ _ _)))
  (k_with "subscriptTail" => ((k_here; (with_reducible show wpAny _ _ (subscriptTail _ _ (Value.ref _) (Value.int _ _)) _ _ _); k_dflt (refine' item_at ?z9k1 ?z9k2 ?z9k3 ?z9k4 ?z9k5 ?_ ?z9k6 ?z9k7; (case z9k1 => k_asm); (case z9k2 => k_mem); (case z9k3 => decide); (case z9k4 => decide); (case z9k5 => exact rfl); (case z9k6 => with_unfolding_all rfl); (case z9k7 => (intro _; with_unfolding_all rfl)); k_whole))))
  (k_with "call builtin:len" => ((k_here; (with_reducible show wpAny _ _ (call (Value.builtin "len") [Value.ref _]) _ _ _); k_dflt (refine' len_at ?z9k1 ?z9k2 ?z9k3 ?z9k4 ?_; (case z9k1 => k_asm); (case z9k2 => k_mem); (case z9k3 => first | omega | (simp only [List.length_cons, List.length_append]; omega)); (case z9k4 => first | (simp only [List.length_cons, Int.natCast_add, Int.natCast_one]; exact rfl) | exact rfl); k_whole))))
  (k_with "subscriptTail Name Slice ref ref" => ((k_here; (with_reducible show wpAny _ _ (subscriptTail _ (PySem.Expr.Slice _ _ none _) (Value.ref _) (Value.ref _)) _ _ _); k_dflt (refine' kmk_slice_lit ?z9F ?z9N ?z9l ?z9p ?z9q ?z9e ?_ ?z9s ?z9t ?z9z; (case z9F => k_asm); (case z9N => k_asm); (case z9l => exact News.isList (by k_asm) (by k_mem)); (case z9p => kmk_part); (case z9q => kmk_part); (case z9e => first | exact pick2 | exact pick1); (case z9s => with_unfolding_all rfl); (case z9t => (intro _; with_unfolding_all rfl)); (case z9z => (rw [sizeLine_eq]; simp only [List.size_toArray, List.length_cons]; omega))); intro _ _ _ _ _)))
  (k_with "binaryOp Add ref ref" => ((k_here; (with_reducible show wpAny _ _ (binaryOp _ (Value.ref _) (Value.ref _)) _ _ _); (fail_if_success kde_tuple); k_dflt (refine' kmk_add_lit ?z9F ?z9N ?z9a ?z9b ?z9e ?_ ?z9z; (case z9F => k_asm); (case z9N => k_asm); (case z9a => exact News.isList (by k_asm) (by k_mem)); (case z9b => exact News.isList (by k_asm) (by k_mem)); (case z9e => exact rfl); (case z9z => (rw [sizeLine_eq]; simp only [List.length_cons, List.length_nil, List.length_replicate]; omega))); intro _ _ _ _ _)))
  (k_with "binaryOp Mult ref int" => ((k_here; (with_reducible show wpAny _ _ (binaryOp Operator.Mult (Value.ref _) (Value.int _ _)) _ _ _); k_dflt (refine' KMa.mul ?z9F ?z9N ?z9l ?z9lo ?z9hi ?z9z ?z9e ?_; (case z9F => k_asm); (case z9N => k_asm); (case z9l => exact News.isList (by k_asm) (by k_mem)); (case z9lo => omega); (case z9hi => omega); (case z9z => (simp only [List.length_cons, List.length_nil]; omega)); (case z9e => exact rep_one)); intro _ _ _ _ _)))
  (k_with "call ref" => ((k_here; (with_reducible show wpAny _ _ (call (Value.ref 408) [Value.ref _]) _ _ _); k_dflt (refine' pen_ctr ?z9kI ?z9kn _ _ _ _ _ _ _ _ _ _ _ _ _ _ _ _ _ _ _ _ ?z9kL ?z9k1 ?z9k2 ?z9k3 ?z9k4 ?z9k5 ?z9k6 ?z9k7 ?z9k8 ?_; (case z9kI => assumption); (case z9kL => assumption); (case z9kn => omega); (case z9k1 => k_asm); (case z9k2 => k_asm); (case z9k3 => k_asm); (case z9k4 => k_asm); (case z9k5 => k_asm); (case z9k6 => first | exact rfl | assumption); (case z9k7 => ktr_room); (case z9k8 => ktr_units)); intro _ _ _ _ _ _ _ _ _ _ _; (try dsimp only); (try k_fold))))
  (k_with "subscriptTail" => ((k_here; (with_reducible show wpAny _ _ (subscriptTail _ _ (Value.ref _) (Value.int _ _)) _ _ _); k_dflt (refine' tup_any ?z9k1 ?z9k2 ?z9k3 ?z9k4 ?_; (case z9k1 => exact News.isTup (by k_asm) (by k_mem)); (case z9k2 => assumption); (case z9k3 => first | omega | (simp only [List.length_cons, List.length_nil]; omega)); (case z9k4 => first | omega | (simp only [List.length_cons, List.length_nil]; omega))); intro _ _)))
  k_steps
  rename _ ∈ ml => hx9
  obtain ⟨q, y, most, ty, tm, n', rfl, hq, hvt⟩ := hall _ hx9
  have vtp := vt_pos hvt
  clear hall hx9 hmt hml
  k_with_none
  (k_with "A" => skip)
  (k_with "S3" => skip)
  (k_with "eval ListComp" => ((k_here; k_dflt (refine LCg.ListComp_U (F₀ := by k_asm) (by with_unfolding_all rfl) (by decide) (by rfl) (by decide) (by rfl) ?_))))
  (k_with "call ref" => ((k_here; (with_reducible show wpAny _ _ (call (Value.ref 415) [Value.ref _, Value.int _ _]) _ _ _); k_dflt (refine' Ctr.use (ctr_draw ?z9kU ?z9kN ?z9km ?z9km9 ?z9kc ?z9kc9) ?z9k1 ?z9k2 ?z9k3 ?z9k4 ?z9k5 ?z9k6 ?z9k7 ?z9k8 ?_; (case z9k1 => k_asm); (case z9k2 => k_asm); (case z9k3 => k_asm); (case z9k4 => k_asm); (case z9k5 => k_asm); (case z9k6 => first | exact rfl | assumption); (case z9k7 => ktr_room); (case z9k8 => ktr_units); (case z9kU => k_updF); (case z9kN => first | assumption | omega); (case z9km => omega); (case z9km9 => omega); (case z9kc => omega); (case z9kc9 => omega)); walk_at "aDraw")))
  (k_with "call type:list" => ((k_here; (with_reducible show wpAny _ _ (call (Value.type _) [Value.ref _]) _ _ _); k_dflt (refine' list_copyK ?z9k1 ?z9k2 ?z9k3 ?_ ?z9z; (case z9k1 => k_asm); (case z9k2 => k_asm); (case z9k3 => exact News.isList (by k_asm) (by k_mem)); (case z9z => (rw [sizeLine_eq]; simp only [List.size_toArray, List.length_cons]; omega)); k_whole); intro _ _ _ _ _ _)))
  (k_with "subscriptTail" => ((k_here; (with_reducible show wpAny _ _ (subscriptTail _ _ (Value.ref _) (Value.int _ _)) _ _ _); k_dflt (refine' item_at ?z9k1 ?z9k2 ?z9k3 ?z9k4 ?z9k5 ?_ ?z9k6 ?z9k7; (case z9k1 => k_asm); (case z9k2 => k_mem); (case z9k3 => decide); (case z9k4 => decide); (case z9k5 => exact rfl); (case z9k6 => with_unfolding_all rfl); (case z9k7 => (intro _; with_unfolding_all rfl)); k_whole))))
  (k_with "call builtin:len" => ((k_here; (with_reducible show wpAny _ _ (call (Value.builtin "len") [Value.ref _]) _ _ _); k_dflt (refine' len_at ?z9k1 ?z9k2 ?z9k3 ?z9k4 ?_; (case z9k1 => k_asm); (case z9k2 => k_mem); (case z9k3 => first | omega | (simp only [List.length_cons, List.length_append]; omega)); (case z9k4 => first | (simp only [List.length_cons, Int.natCast_add, Int.natCast_one]; exact rfl) | exact rfl); k_whole))))
  (k_with "subscriptTail Name Slice ref ref" => ((k_here; (with_reducible show wpAny _ _ (subscriptTail _ (PySem.Expr.Slice _ _ none _) (Value.ref _) (Value.ref _)) _ _ _); k_dflt (refine' kmk_slice_lit ?z9F ?z9N ?z9l ?z9p ?z9q ?z9e ?_ ?z9s ?z9t ?z9z; (case z9F => k_asm); (case z9N => k_asm); (case z9l => exact News.isList (by k_asm) (by k_mem)); (case z9p => kmk_part); (case z9q => kmk_part); (case z9e => first | exact pick2 | exact pick1); (case z9s => with_unfolding_all rfl); (case z9t => (intro _; with_unfolding_all rfl)); (case z9z => (rw [sizeLine_eq]; simp only [List.size_toArray, List.length_cons]; omega))); intro _ _ _ _ _)))
  (k_with "binaryOp Add ref ref" => ((k_here; (with_reducible show wpAny _ _ (binaryOp _ (Value.ref _) (Value.ref _)) _ _ _); (fail_if_success kde_tuple); k_dflt (refine' kmk_add_lit ?z9F ?z9N ?z9a ?z9b ?z9e ?_ ?z9z; (case z9F => k_asm); (case z9N => k_asm); (case z9a => exact News.isList (by k_asm) (by k_mem)); (case z9b => exact News.isList (by k_asm) (by k_mem)); (case z9e => exact rfl); (case z9z => (rw [sizeLine_eq]; simp only [List.length_cons, List.length_nil, List.length_replicate]; omega))); intro _ _ _ _ _)))
  (k_with "binaryOp Mult ref int" => ((k_here; (with_reducible show wpAny _ _ (binaryOp Operator.Mult (Value.ref _) (Value.int _ _)) _ _ _); k_dflt (refine' KMa.mul ?z9F ?z9N ?z9l ?z9lo ?z9hi ?z9z ?z9e ?_; (case z9F => k_asm); (case z9N => k_asm); (case z9l => exact News.isList (by k_asm) (by k_mem)); (case z9lo => omega); (case z9hi => omega); (case z9z => (simp only [List.length_cons, List.length_nil]; omega)); (case z9e => exact rep_one)); intro _ _ _ _ _)))
  (k_with "call ref" => ((k_here; (with_reducible show wpAny _ _ (call (Value.ref 408) [Value.ref _]) _ _ _); k_dflt (refine' pen_ctr ?z9kI ?z9kn _ _ _ _ _ _ _ _ _ _ _ _ _ _ _ _ _ _ _ _ ?z9kL ?z9k1 ?z9k2 ?z9k3 ?z9k4 ?z9k5 ?z9k6 ?z9k7 ?z9k8 ?_; (case z9kI => assumption); (case z9kL => assumption); (case z9kn => omega); (case z9k1 => k_asm); (case z9k2 => k_asm); (case z9k3 => k_asm); (case z9k4 => k_asm); (case z9k5 => k_asm); (case z9k6 => first | exact rfl | assumption); (case z9k7 => ktr_room); (case z9k8 => ktr_units)); intro _ _ _ _ _ _ _ _ _ _ _; (try dsimp only); (try k_fold))))
  (k_with "CompSrc" => ((refine Stop.out ?_)))
  k_steps
  unfold Stop
  rename IsRange _ _ _ _ _ _ _ _ => hr
  rename Fr _ _ _ _ => F4; rename News _ _ _ _ => N4
  rename _ < most + 1 => hi4
  rename (0 : Int) ≤ _ => hM4
  have hpk := hpg.or
  refine LCg.CompSrc.range (by rfl) F4 N4 hr (small_one (by omega) (by omega) (by omega) (by omega)) (rangeSize_nat _ _) (by rw [sizeLine_eq]; omega) ?_
  intro g'
  refine comp_mapB (fun i ys nx => NumInv _ _ _ p oO oN oP tl2 4 i ys nx) ?_ ?_ ⟨_, _, _, _, _, tl2, [], rfl, by omega, by omega, by omega, ho3, fun _ h => h, .nil, (fun _ h => nomatch h), rfl⟩
  · rintro i ys nx v I oI C oC D m₂ h tk E' hi ⟨N1, k1, t1, t2, n1, tl, its, rfl, hN, hk, hb, ho, hs, hit, hn, hl⟩ ⟨t9, rfl⟩ hC hx F N off ne
    have hne := ne_all ho
    simp only [LCg.Off3] at off
    k_with_none
    (k_with "A" => skip)
    (k_with "num" => skip)
    (k_with "eval ListComp" => ((k_here; k_dflt (refine LCg.ListComp_U (F₀ := by k_asm) (by with_unfolding_all rfl) (by decide) (by rfl) (by decide) (by rfl) ?_))))
    (k_with "call ref" => ((k_here; (with_reducible show wpAny _ _ (call (Value.ref 415) [Value.ref _, Value.int _ _]) _ _ _); k_dflt (refine' Ctr.use (ctr_draw ?z9kU ?z9kN ?z9km ?z9km9 ?z9kc ?z9kc9) ?z9k1 ?z9k2 ?z9k3 ?z9k4 ?z9k5 ?z9k6 ?z9k7 ?z9k8 ?_; (case z9k1 => k_asm); (case z9k2 => k_asm); (case z9k3 => k_asm); (case z9k4 => k_asm); (case z9k5 => k_asm); (case z9k6 => first | exact rfl | assumption); (case z9k7 => ktr_room); (case z9k8 => ktr_units); (case z9kU => k_updF); (case z9kN => first | assumption | omega); (case z9km => omega); (case z9km9 => omega); (case z9kc => omega); (case z9kc9 => omega)); walk_at "aDraw")))
    (k_with "call type:list" => ((k_here; (with_reducible show wpAny _ _ (call (Value.type _) [Value.ref _]) _ _ _); k_dflt (refine' list_copyK ?z9k1 ?z9k2 ?z9k3 ?_ ?z9z; (case z9k1 => k_asm); (case z9k2 => k_asm); (case z9k3 => exact News.isList (by k_asm) (by k_mem)); (case z9z => (rw [sizeLine_eq]; simp only [List.size_toArray, List.length_cons]; omega)); k_whole); intro _ _ _ _ _ _)))
    (k_with "subscriptTail" => ((k_here; (with_reducible show wpAny _ _ (subscriptTail _ _ (Value.ref _) (Value.int _ _)) _ _ _); k_dflt (refine' item_at ?z9k1 ?z9k2 ?z9k3 ?z9k4 ?z9k5 ?_ ?z9k6 ?z9k7; (case z9k1 => k_asm); (case z9k2 => k_mem); (case z9k3 => decide); (case z9k4 => decide); (case z9k5 => exact rfl); (case z9k6 => with_unfolding_all rfl); (case z9k7 => (intro _; with_unfolding_all rfl)); k_whole))))
    (k_with "call builtin:len" => ((k_here; (with_reducible show wpAny _ _ (call (Value.builtin "len") [Value.ref _]) _ _ _); k_dflt (refine' len_at ?z9k1 ?z9k2 ?z9k3 ?z9k4 ?_; (case z9k1 => k_asm); (case z9k2 => k_mem); (case z9k3 => first | omega | (simp only [List.length_cons, List.length_append]; omega)); (case z9k4 => first | (simp only [List.length_cons, Int.natCast_add, Int.natCast_one]; exact rfl) | exact rfl); k_whole))))
    (k_with "subscriptTail Name Slice ref ref" => ((k_here; (with_reducible show wpAny _ _ (subscriptTail _ (PySem.Expr.Slice _ _ none _) (Value.ref _) (Value.ref _)) _ _ _); k_dflt (refine' kmk_slice_lit ?z9F ?z9N ?z9l ?z9p ?z9q ?z9e ?_ ?z9s ?z9t ?z9z; (case z9F => k_asm); (case z9N => k_asm); (case z9l => exact News.isList (by k_asm) (by k_mem)); (case z9p => kmk_part); (case z9q => kmk_part); (case z9e => first | exact pick2 | exact pick1); (case z9s => with_unfolding_all rfl); (case z9t => (intro _; with_unfolding_all rfl)); (case z9z => (rw [sizeLine_eq]; simp only [List.size_toArray, List.length_cons]; omega))); intro _ _ _ _ _)))
    (k_with "binaryOp Add ref ref" => ((k_here; (with_reducible show wpAny _ _ (binaryOp _ (Value.ref _) (Value.ref _)) _ _ _); (fail_if_success kde_tuple); k_dflt (refine' kmk_add_lit ?z9F ?z9N ?z9a ?z9b ?z9e ?_ ?z9z; (case z9F => k_asm); (case z9N => k_asm); (case z9a => exact News.isList (by k_asm) (by k_mem)); (case z9b => exact News.isList (by k_asm) (by k_mem)); (case z9e => exact rfl); (case z9z => (rw [sizeLine_eq]; simp only [List.length_cons, List.length_nil, List.length_replicate]; omega))); intro _ _ _ _ _)))
    (k_with "binaryOp Mult ref int" => ((k_here; (with_reducible show wpAny _ _ (binaryOp Operator.Mult (Value.ref _) (Value.int _ _)) _ _ _); k_dflt (refine' KMa.mul ?z9F ?z9N ?z9l ?z9lo ?z9hi ?z9z ?z9e ?_; (case z9F => k_asm); (case z9N => k_asm); (case z9l => exact News.isList (by k_asm) (by k_mem)); (case z9lo => omega); (case z9hi => omega); (case z9z => (simp only [List.length_cons, List.length_nil]; omega)); (case z9e => exact rep_one)); intro _ _ _ _ _)))
    (k_with "call ref" => ((k_here; (with_reducible show wpAny _ _ (call (Value.ref 408) [Value.ref _]) _ _ _); k_dflt (refine' pen_ctr ?z9kI ?z9kn _ _ _ _ _ _ _ _ _ _ _ _ _ _ _ _ _ _ _ _ ?z9kL ?z9k1 ?z9k2 ?z9k3 ?z9k4 ?z9k5 ?z9k6 ?z9k7 ?z9k8 ?_; (case z9kI => assumption); (case z9kL => assumption); (case z9kn => omega); (case z9k1 => k_asm); (case z9k2 => k_asm); (case z9k3 => k_asm); (case z9k4 => k_asm); (case z9k5 => k_asm); (case z9k6 => first | exact rfl | assumption); (case z9k7 => ktr_room); (case z9k8 => ktr_units)); intro _ _ _ _ _ _ _ _ _ _ _; (try dsimp only); (try k_fold))))
    (k_with "subscriptTail" => (((with_reducible show wpAny _ _ (subscriptTail _ _ (Value.ref _) (Value.int _ _)) _ _ _); refine Stop.out ?_)))
    k_steps
    unfold Stop
    rename News _ _ _ _ => N6; rename Fr _ _ _ _ => F6
    rename _ < (3 : Int) => hi6
    rename (0 : Int) ≤ _ => hM6
    have ht6 := News.isTup N6 List.mem_cons_self
    refine tup_any (l := [_, _, _]) ht6 (by assumption) hi6 (Nat.le_of_ble_eq_true rfl) ?_ (by with_unfolding_all rfl)
    refine List.forall_mem_cons.mpr ⟨?_, List.forall_mem_cons.mpr ⟨?_, List.forall_mem_cons.mpr ⟨?_, List.forall_mem_nil _⟩⟩⟩
    · refine EltB.new3 F6 N6 ?_ ?_
      · simp only [LCg.Off3]
        refine ⟨off.1, off.2.1, off.2.2.1, off.2.2.2.1, ⟨?_, ?_, ?_⟩, ⟨?_, ?_, ?_⟩, ⟨?_, ?_, ?_⟩, off.2.2.2.2⟩ <;> omega
      · exact ⟨_, _, _, _, _, _ :: _ :: _ :: tl, its ++ [_], rfl, hM6, by omega, by omega, by walk_at "lt_each", fun q hq => .tail _ (.tail _ (.tail _ (hs q hq))), (hit.up (by kcf_all)).append (.cons .none .nil), num_snoc hn rfl, by simp [hl]⟩
    · refine EltB.new3 F6 N6 ?_ ?_
      · simp only [LCg.Off3]
        refine ⟨off.1, off.2.1, off.2.2.1, off.2.2.2.1, ⟨?_, ?_, ?_⟩, ⟨?_, ?_, ?_⟩, ⟨?_, ?_, ?_⟩, off.2.2.2.2⟩ <;> omega
      · exact ⟨_, _, _, _, _, _ :: _ :: _ :: tl, its ++ [_], rfl, hM6, by omega, by omega, by walk_at "lt_each", fun q hq => .tail _ (.tail _ (.tail _ (hs q hq))), (hit.up (by kcf_all)).append (.cons .int .nil), num_snoc hn rfl, by simp [hl]⟩
    · refine EltB.new3 F6 N6 ?_ ?_
      · simp only [LCg.Off3]
        refine ⟨off.1, off.2.1, off.2.2.1, off.2.2.2.1, ⟨?_, ?_, ?_⟩, ⟨?_, ?_, ?_⟩, ⟨?_, ?_, ?_⟩, off.2.2.2.2⟩ <;> omega
      · exact ⟨_, _, _, _, _, _ :: _ :: _ :: tl, its ++ [_], rfl, hM6, by omega, by omega, by walk_at "lt_each", fun q hq => .tail _ (.tail _ (.tail _ (hs q hq))), (hit.up (by kcf_all)).append (.cons (.dec (by kcf_m) (by kcf_m)) .nil), num_snoc hn rfl, by simp [hl]⟩
  rintro ys nx ⟨N1, k1, t1, t2, n1, tl, its, rfl, hN, hk, hb, ho, hs, hit, hn, hl⟩
  have hylen : (ys.length : Int) ≤ most := by omega
  unfold LCg.FinA
  intro D h tk F5 N5 off5
  have hpi := hpi.up hs
  clear F4 N4 hr hs
  k_with_none
  (k_with "A" => skip)
  (k_with "S4" => skip)
  (k_with "W" => skip)
  (k_with "eval ListComp" => ((k_here; k_dflt (refine LCg.ListComp_U (F₀ := by k_asm) (by with_unfolding_all rfl) (by decide) (by rfl) (by decide) (by rfl) ?_))))
  (k_with "call ref" => ((k_here; (with_reducible show wpAny _ _ (call (Value.ref 415) [Value.ref _, Value.int _ _]) _ _ _); k_dflt (refine' Ctr.use (ctr_draw ?z9kU ?z9kN ?z9km ?z9km9 ?z9kc ?z9kc9) ?z9k1 ?z9k2 ?z9k3 ?z9k4 ?z9k5 ?z9k6 ?z9k7 ?z9k8 ?_; (case z9k1 => k_asm); (case z9k2 => k_asm); (case z9k3 => k_asm); (case z9k4 => k_asm); (case z9k5 => k_asm); (case z9k6 => first | exact rfl | assumption); (case z9k7 => ktr_room); (case z9k8 => ktr_units); (case z9kU => k_updF); (case z9kN => first | assumption | omega); (case z9km => omega); (case z9km9 => omega); (case z9kc => omega); (case z9kc9 => omega)); walk_at "aDraw")))
  (k_with "call type:list" => ((k_here; (with_reducible show wpAny _ _ (call (Value.type _) [Value.ref _]) _ _ _); k_dflt (refine' list_copyK ?z9k1 ?z9k2 ?z9k3 ?_ ?z9z; (case z9k1 => k_asm); (case z9k2 => k_asm); (case z9k3 => exact News.isList (by k_asm) (by k_mem)); (case z9z => (rw [sizeLine_eq]; simp only [List.size_toArray, List.length_cons]; omega)); k_whole); intro _ _ _ _ _ _)))
  (k_with "subscriptTail" => ((k_here; (with_reducible show wpAny _ _ (subscriptTail _ _ (Value.ref _) (Value.int _ _)) _ _ _); k_dflt (refine' item_at ?z9k1 ?z9k2 ?z9k3 ?z9k4 ?z9k5 ?_ ?z9k6 ?z9k7; (case z9k1 => k_asm); (case z9k2 => k_mem); (case z9k3 => decide); (case z9k4 => decide); (case z9k5 => exact rfl); (case z9k6 => with_unfolding_all rfl); (case z9k7 => (intro _; with_unfolding_all rfl)); k_whole))))
  (k_with "call builtin:len" => ((k_here; (with_reducible show wpAny _ _ (call (Value.builtin "len") [Value.ref _]) _ _ _); k_dflt (refine' len_at ?z9k1 ?z9k2 ?z9k3 ?z9k4 ?_; (case z9k1 => k_asm); (case z9k2 => k_mem); (case z9k3 => first | omega | (simp only [List.length_cons, List.length_append]; omega)); (case z9k4 => first | (simp only [List.length_cons, Int.natCast_add, Int.natCast_one]; exact rfl) | exact rfl); k_whole))))
  (k_with "subscriptTail Name Slice ref ref" => ((k_here; (with_reducible show wpAny _ _ (subscriptTail _ (PySem.Expr.Slice _ _ none _) (Value.ref _) (Value.ref _)) _ _ _); k_dflt (refine' kmk_slice_lit ?z9F ?z9N ?z9l ?z9p ?z9q ?z9e ?_ ?z9s ?z9t ?z9z; (case z9F => k_asm); (case z9N => k_asm); (case z9l => exact News.isList (by k_asm) (by k_mem)); (case z9p => kmk_part); (case z9q => kmk_part); (case z9e => first | exact pick2 | exact pick1); (case z9s => with_unfolding_all rfl); (case z9t => (intro _; with_unfolding_all rfl)); (case z9z => (rw [sizeLine_eq]; simp only [List.size_toArray, List.length_cons]; omega))); intro _ _ _ _ _)))
  (k_with "binaryOp Add ref ref" => ((k_here; (with_reducible show wpAny _ _ (binaryOp _ (Value.ref _) (Value.ref _)) _ _ _); (fail_if_success kde_tuple); k_dflt (refine' kmk_add_lit ?z9F ?z9N ?z9a ?z9b ?z9e ?_ ?z9z; (case z9F => k_asm); (case z9N => k_asm); (case z9a => exact News.isList (by k_asm) (by k_mem)); (case z9b => exact News.isList (by k_asm) (by k_mem)); (case z9e => exact rfl); (case z9z => (rw [sizeLine_eq]; simp only [List.length_cons, List.length_nil, List.length_replicate]; omega))); intro _ _ _ _ _)))
  (k_with "binaryOp Mult ref int" => ((k_here; (with_reducible show wpAny _ _ (binaryOp Operator.Mult (Value.ref _) (Value.int _ _)) _ _ _); k_dflt (refine' KMa.mul ?z9F ?z9N ?z9l ?z9lo ?z9hi ?z9z ?z9e ?_; (case z9F => k_asm); (case z9N => k_asm); (case z9l => exact News.isList (by k_asm) (by k_mem)); (case z9lo => omega); (case z9hi => omega); (case z9z => (simp only [List.length_cons, List.length_nil]; omega)); (case z9e => exact rep_one)); intro _ _ _ _ _)))
  (k_with "call ref" => ((k_here; (with_reducible show wpAny _ _ (call (Value.ref 408) [Value.ref _]) _ _ _); k_dflt (refine' pen_ctr ?z9kI ?z9kn _ _ _ _ _ _ _ _ _ _ _ _ _ _ _ _ _ _ _ _ ?z9kL ?z9k1 ?z9k2 ?z9k3 ?z9k4 ?z9k5 ?z9k6 ?z9k7 ?z9k8 ?_; (case z9kI => assumption); (case z9kL => assumption); (case z9kn => omega); (case z9k1 => k_asm); (case z9k2 => k_asm); (case z9k3 => k_asm); (case z9k4 => k_asm); (case z9k5 => k_asm); (case z9k6 => first | exact rfl | assumption); (case z9k7 => ktr_room); (case z9k8 => ktr_units)); intro _ _ _ _ _ _ _ _ _ _ _; (try dsimp only); (try k_fold))))
  (k_with "call ref" => (((with_reducible show wpAny _ _ (call (Value.ref 387) _) _ _ _); refine Stop.out ?_)))
  (k_with "exec While" => ((with_reducible show wpAny _ _ (exec (Stmt.While _ _ _ _) _) _ _ _; refine Stop.out ?_)))
  k_steps
  unfold Stop
  k_dflt (refine' Ctr.use (ctr_targetOf ?kS ?kr ?kp ?kpk ?kv ?kx ?ki ?kn ?km) ?k1 ?k2 ?k3 ?k4 ?k5 ?k6 ?k7 ?k8 ?_)
  case k1 => k_asm
  case k2 => k_asm
  case k3 => k_asm
  case k4 => k_asm
  case k5 => k_asm
  case k6 => exact rfl
  case k7 => ktr_room
  case k8 => ktr_units
  case kr => k_mem
  case kS => exact ShelfIn.mk (by kcf_m) (by kcf_m)
  case kp => exact ItIn.up (by assumption) (by kcf_all)
  case kpk => assumption
  case kv => exact ItIn.name (by kcf_m) (by kcf_m)
  case kx => assumption
  case ki => exact ItAll.up (by assumption) (by kcf_all)
  case kn => assumption
  case km => exact hylen
  intro r9 n9 h9 tk9 F9 N9 q9
  obtain ⟨tg, dx, nl, h1, h2, h3, t1', t2', t3', t4', n1', n2', e9, o1, o2, o3, s9⟩ := q9
  subst e9
  subst s9
  (try dsimp only)
  (try k_fold)
  k_steps
  unfold Stop
  k_with_none
  (k_with "B" => skip)
  (k_with "call type:list" => ((k_here; (with_reducible show wpAny _ _ (call (Value.type _) [Value.ref _]) _ _ _); k_dflt (refine' list_copyK ?z9k1 ?z9k2 ?z9k3 ?_ ?z9z; (case z9k1 => k_asm); (case z9k2 => k_asm); (case z9k3 => exact News.isList (by k_asm) (by k_mem)); (case z9z => (rw [sizeLine_eq]; simp only [List.size_toArray, List.length_cons]; omega)); k_whole); intro _ _ _ _ _ _)))
  (k_with "subscriptTail" => ((k_here; (with_reducible show wpAny _ _ (subscriptTail _ _ (Value.ref _) (Value.int _ _)) _ _ _); k_dflt (refine' item_at ?z9k1 ?z9k2 ?z9k3 ?z9k4 ?z9k5 ?_ ?z9k6 ?z9k7; (case z9k1 => k_asm); (case z9k2 => k_mem); (case z9k3 => decide); (case z9k4 => decide); (case z9k5 => exact rfl); (case z9k6 => with_unfolding_all rfl); (case z9k7 => (intro _; with_unfolding_all rfl)); k_whole))))
  (k_with "call builtin:len" => ((k_here; (with_reducible show wpAny _ _ (call (Value.builtin "len") [Value.ref _]) _ _ _); k_dflt (refine' len_at ?z9k1 ?z9k2 ?z9k3 ?z9k4 ?_; (case z9k1 => k_asm); (case z9k2 => k_mem); (case z9k3 => first | omega | (simp only [List.length_cons, List.length_append]; omega)); (case z9k4 => first | (simp only [List.length_cons, Int.natCast_add, Int.natCast_one]; exact rfl) | exact rfl); k_whole))))
  (k_with "subscriptTail Name Slice ref ref" => ((k_here; (with_reducible show wpAny _ _ (subscriptTail _ (PySem.Expr.Slice _ _ none _) (Value.ref _) (Value.ref _)) _ _ _); k_dflt (refine' kmk_slice_lit ?z9F ?z9N ?z9l ?z9p ?z9q ?z9e ?_ ?z9s ?z9t ?z9z; (case z9F => k_asm); (case z9N => k_asm); (case z9l => exact News.isList (by k_asm) (by k_mem)); (case z9p => kmk_part); (case z9q => kmk_part); (case z9e => first | exact pick2 | exact pick1); (case z9s => with_unfolding_all rfl); (case z9t => (intro _; with_unfolding_all rfl)); (case z9z => (rw [sizeLine_eq]; simp only [List.size_toArray, List.length_cons]; omega))); intro _ _ _ _ _)))
  (k_with "binaryOp Add ref ref" => ((k_here; (with_reducible show wpAny _ _ (binaryOp _ (Value.ref _) (Value.ref _)) _ _ _); (fail_if_success kde_tuple); k_dflt (refine' kmk_add_lit ?z9F ?z9N ?z9a ?z9b ?z9e ?_ ?z9z; (case z9F => k_asm); (case z9N => k_asm); (case z9a => exact News.isList (by k_asm) (by k_mem)); (case z9b => exact News.isList (by k_asm) (by k_mem)); (case z9e => exact rfl); (case z9z => (rw [sizeLine_eq]; simp only [List.length_cons, List.length_nil, List.length_replicate]; omega))); intro _ _ _ _ _)))
  (k_with "binaryOp Mult ref int" => ((k_here; (with_reducible show wpAny _ _ (binaryOp Operator.Mult (Value.ref _) (Value.int _ _)) _ _ _); k_dflt (refine' KMa.mul ?z9F ?z9N ?z9l ?z9lo ?z9hi ?z9z ?z9e ?_; (case z9F => k_asm); (case z9N => k_asm); (case z9l => exact News.isList (by k_asm) (by k_mem)); (case z9lo => omega); (case z9hi => omega); (case z9z => (simp only [List.length_cons, List.length_nil]; omega)); (case z9e => exact rep_one)); intro _ _ _ _ _)))
  (k_with "subscriptTail" => ((k_here; (with_reducible show wpAny _ _ (subscriptTail _ _ (Value.ref _) (Value.int (-1) _)) _ _ _); k_dflt (refine' last_at ?z9k1 ?z9k2 ?z9k3 ?_ ?z9k4; (case z9k1 => k_asm); (case z9k2 => k_mem); (case z9k3 => first | omega | (simp only [List.length_cons, List.length_append]; omega)); (case z9k4 => with_unfolding_all rfl); k_whole))))
  (k_with "compareOp NotEq ref ref" => ((k_here; (with_reducible show wpAny _ _ (compareOp CmpOp.NotEq (Value.ref _) (Value.ref _)) _ _ _); k_dflt (refine' ne_nil ?z9k1 ?z9k2 ?z9k3 ?z9k4 ?_; (case z9k1 => k_asm); (case z9k2 => k_mem); (case z9k3 => k_mem); (case z9k4 => ktr_units); k_whole))))
  (k_with "call builtin:list.pop" => ((k_here; (with_reducible show wpAny _ _ (call (Value.builtin _) [Value.ref _]) _ _ _); k_dflt (refine' pop_at ?z9k1 ?z9k2 ?z9k3 ?z9k4 ?_; (case z9k1 => k_asm); (case z9k2 => k_asm); (case z9k3 => k_upd); (case z9k4 => first | omega | (simp only [List.length_cons, List.length_append]; omega)); k_whole); intro _ _ _)))
  refine while_strip (vs := pv :: .ref _ :: ys) (by k_asm) (by k_asm) (.cons (ItIn.up hpi (by kcf_all)) (.cons (.name (by kcf_m) (by kcf_m)) (hit.up (by kcf_all)))) ?_ ?_ ?_ ?_
  · intro he n' h tk F N
    rw [show ∀ v, pv :: v :: ys = [pv, v] ++ ys from fun _ => rfl, strip_front _ _ rfl] at he
    cases he
  · intro p1 y1 it1 n' h tk hp' hy F N
    have hp2 : p1.length < 100 := by simp only [List.length_cons] at hp'; omega
    have hy' := hy
    cases hy'
    all_goals k_steps
    all_goals exact TestTurn.of (by rfl) (by rfl) (by assumption) (cb_drop (by assumption) (by kcf_all))
  · intro p1 n' h tk hp' F N
    have hp2 : p1.length < 100 := by simp only [List.length_cons] at hp'; omega
    k_steps
    exact (⟨rfl, _, _, _, rfl, by assumption, by assumption⟩ : PopTurn _ _ _ _ _ _ _ _ _)
  · intro n' h tk F N
    rw [show ∀ v, pv :: v :: ys = [pv, v] ++ ys from fun _ => rfl, strip_front _ _ rfl] at N
    obtain ⟨D', eD⟩ := nameBare F
    subst eD
    obtain ⟨nm, eN⟩ := nameNm N
    subst eN
    obtain ⟨TL, hTL, NB⟩ := pack2 (nw := [_, _, _, _, _, _, _, _, _, _, _, _, _]) N
    simp only [LCg.Off1] at off5
    have o3p : @LT.lt Nat _ p nl := o3 (p, _) (by kcf_m)
    have o1p : @LT.lt Nat _ dx tg := o1
    have o2p : @LT.lt Nat _ nl dx := o2
    have ne0 := ne_all ho
    have ne1 := ne_low c1 ho
    have ne2 := ne_low c2 ho
    have ne3 := ne_low c3 ho
    have hp0 : ∀ q ∈ TL, q.1 ≠ p := by rw [hTL]; walk_at "ne_each"
    obtain ⟨aO, aN, eO, eN2⟩ := nameCells NB
    have hp2 : ∀ q ∈ TL, q.1 ≠ aN := by rw [hTL, eN2]; walk_at "ne_each"
    have hp3 : ∀ q ∈ TL, q.1 ≠ aO := by rw [hTL, eO]; walk_at "ne_each"
    subst eO
    subst eN2
    have hbare : (D', W.listOf (pv :: .ref nm :: strip ys).toArray n') ∈ TL := by rw [hTL]; exact List.mem_cons_self
    have hname : ItIn TL (.ref nm) (.name y) := by rw [hTL]; exact .name (by kcf_m) (by kcf_m)
    have hpi := ItIn.up (n2 := TL) hpi (by rw [hTL]; kcf_all)
    have hit := ItAll.up (n2 := TL) hit (by rw [hTL]; kcf_all)
    have htg : TgtIn TL (.ref tg) pit y (its ++ List.replicate (most - ys.length).toNat It.none) := by
      have hpad := pad_all hit (most - ys.length).toNat
      rw [hTL] at hpi hpad ⊢
      exact .mk (by kcf_m) (by kcf_m) (List.Mem.tail _ (List.Mem.tail _ (List.Mem.tail _ (List.Mem.head _)))) hpi hpad
    have hlen := hit.length
    clear N hTL ho ne0 ne1 ne2 ne3 o3
    have hok : kqdOk 9 (rowDat pit y its) = true := row_ok (vt_ok hvt) (fun z e => by rcases hpk with ⟨k, rfl⟩ | ⟨i, _, rfl⟩ <;> cases e) hn
    have hn4 : its.length + (most - ys.length).toNat ≤ 4 := by omega
    have hys4 : ys.length ≤ 4 := by omega
    have htg' := htg
    cases htg' with
    | mk q1 q2 q3 q4 q5 =>
    have hvl := q5.length
    rw [List.length_append, List.length_replicate] at hvl
    cases hname with
    | name q6 q7 =>
    dsimp only
    (try k_fold)
    k_with_none
    (k_with "C" => skip)
    (k_with "call type:list" => ((k_here; (with_reducible show wpAny _ _ (call (Value.type _) [Value.ref _]) _ _ _); k_dflt (refine' list_copyK ?z9k1 ?z9k2 ?z9k3 ?_ ?z9z; (case z9k1 => k_asm); (case z9k2 => k_asm); (case z9k3 => exact News.isList (by k_asm) (by k_mem)); (case z9z => (rw [sizeLine_eq]; simp only [List.size_toArray, List.length_cons]; omega)); k_whole); intro _ _ _ _ _ _)))
    (k_with "subscriptTail" => ((k_here; (with_reducible show wpAny _ _ (subscriptTail _ _ (Value.ref _) (Value.int _ _)) _ _ _); k_dflt (refine' item_at ?z9k1 ?z9k2 ?z9k3 ?z9k4 ?z9k5 ?_ ?z9k6 ?z9k7; (case z9k1 => k_asm); (case z9k2 => k_mem); (case z9k3 => decide); (case z9k4 => decide); (case z9k5 => exact rfl); (case z9k6 => with_unfolding_all rfl); (case z9k7 => (intro _; with_unfolding_all rfl)); k_whole))))
    (k_with "call builtin:len" => ((k_here; (with_reducible show wpAny _ _ (call (Value.builtin "len") [Value.ref _]) _ _ _); k_dflt (refine' len_at ?z9k1 ?z9k2 ?z9k3 ?z9k4 ?_; (case z9k1 => k_asm); (case z9k2 => k_mem); (case z9k3 => first | omega | (simp only [List.length_cons, List.length_append]; omega)); (case z9k4 => first | (simp only [List.length_cons, Int.natCast_add, Int.natCast_one]; exact rfl) | exact rfl); k_whole))))
    (k_with "subscriptTail Name Slice ref ref" => ((k_here; (with_reducible show wpAny _ _ (subscriptTail _ (PySem.Expr.Slice _ _ none _) (Value.ref _) (Value.ref _)) _ _ _); k_dflt (refine' kmk_slice_lit ?z9F ?z9N ?z9l ?z9p ?z9q ?z9e ?_ ?z9s ?z9t ?z9z; (case z9F => k_asm); (case z9N => k_asm); (case z9l => exact News.isList (by k_asm) (by k_mem)); (case z9p => kmk_part); (case z9q => kmk_part); (case z9e => first | exact pick2 | exact pick1); (case z9s => with_unfolding_all rfl); (case z9t => (intro _; with_unfolding_all rfl)); (case z9z => (rw [sizeLine_eq]; simp only [List.size_toArray, List.length_cons]; omega))); intro _ _ _ _ _)))
    (k_with "binaryOp Add ref ref" => ((k_here; (with_reducible show wpAny _ _ (binaryOp _ (Value.ref _) (Value.ref _)) _ _ _); (fail_if_success kde_tuple); k_dflt (refine' kmk_add_lit ?z9F ?z9N ?z9a ?z9b ?z9e ?_ ?z9z; (case z9F => k_asm); (case z9N => k_asm); (case z9a => exact News.isList (by k_asm) (by k_mem)); (case z9b => exact News.isList (by k_asm) (by k_mem)); (case z9e => exact rfl); (case z9z => (rw [sizeLine_eq]; simp only [List.length_cons, List.length_nil, List.length_replicate]; omega))); intro _ _ _ _ _)))
    (k_with "binaryOp Mult ref int" => ((k_here; (with_reducible show wpAny _ _ (binaryOp Operator.Mult (Value.ref _) (Value.int _ _)) _ _ _); k_dflt (refine' KMa.mul ?z9F ?z9N ?z9l ?z9lo ?z9hi ?z9z ?z9e ?_; (case z9F => k_asm); (case z9N => k_asm); (case z9l => exact News.isList (by k_asm) (by k_mem)); (case z9lo => omega); (case z9hi => omega); (case z9z => (simp only [List.length_cons, List.length_nil]; omega)); (case z9e => exact rep_one)); intro _ _ _ _ _)))
    (k_with "call ref" => ((k_here; (with_reducible show wpAny _ _ (call (Value.ref 427) [Value.ref _]) _ _ _); k_dflt (refine' Ctr.use (ctr_seenP ?z9kt ?z9kn) ?z9k1 ?z9k2 ?z9k3 ?z9k4 ?z9k5 ?z9k6 ?z9k7 ?z9k8 ?_; (case z9k1 => k_asm); (case z9k2 => k_asm); (case z9k3 => k_asm); (case z9k4 => k_asm); (case z9k5 => k_asm); (case z9k6 => first | exact rfl | assumption); (case z9k7 => ktr_room); (case z9k8 => ktr_units); (case z9kt => exact TgtIn.up (by assumption) (by kcf_all)); (case z9kn => omega)); rintro _ _ _ _ _ _ ⟨_, e9, _, _⟩; subst e9; (try dsimp only); (try k_fold))))
    (k_with "call ref" => ((k_here; (with_reducible show wpAny _ _ (call (Value.ref 265) [_]) _ _ _); k_dflt (refine' Ctr.use (ctr_toldRow ?z9ka ?z9kb ?z9kc ?z9kp ?z9ki ?z9kn) ?z9k1 ?z9k2 ?z9k3 ?z9k4 ?z9k5 ?z9k6 ?z9k7 ?z9k8 ?_; (case z9k1 => k_asm); (case z9k2 => k_asm); (case z9k3 => k_asm); (case z9k4 => k_asm); (case z9k5 => k_asm); (case z9k6 => first | exact rfl | assumption); (case z9k7 => ktr_room); (case z9k8 => ktr_units); (case z9ka => k_mem); (case z9kb => k_mem); (case z9kc => k_mem); (case z9kp => exact ItIn.up (by assumption) (by kcf_all)); (case z9ki => exact ItAll.up (by assumption) (by kcf_all)); (case z9kn => omega)); rintro _ _ _ _ _ _ ⟨_, e9, _, _⟩; subst e9; (try dsimp only); (try k_fold))))
    (k_with "compareOp NotEq" => ((k_here; k_dflt (refine' dat_ne ?z9kN ?z9kA ?z9ksa ?z9kB ?z9ksb ?z9kok ?z9ku ?_; (case z9kA => assumption); (case z9kB => assumption); (case z9kN => k_asm); (case z9ksa => kcf_all); (case z9ksb => kcf_all); (case z9kok => assumption); (case z9ku => ktr_units); k_whole))))
    (k_with "compareOp Eq" => ((k_here; k_dflt (refine' dat_eq ?z9kN ?z9kA ?z9ksa ?z9kB ?z9ksb ?z9kok ?z9ku ?_; (case z9kA => assumption); (case z9kB => assumption); (case z9kN => k_asm); (case z9ksa => kcf_all); (case z9ksb => kcf_all); (case z9kok => assumption); (case z9ku => ktr_units); k_whole))))
    (k_with "exec Assign" => (((with_reducible show wpAny _ _ (exec (Stmt.Assign [PySem.Expr.Tuple _ _ _] (PySem.Expr.Tuple _ _ _) _) _) _ _ _); refine Stop.out ?_)))
    k_steps
    unfold Stop
    rename Fr _ _ _ _ => F5; rename News _ _ _ _ => N5
    have NB2 := rebase NB N5 (by kcf_all)
    clear N5 NB
    k_with_none
    (k_with "D" => skip)
    (k_with "Dst" => skip)
    (k_with "call type:list" => ((k_here; (with_reducible show wpAny _ _ (call (Value.type _) [Value.ref _]) _ _ _); k_dflt (refine' list_copyK ?z9k1 ?z9k2 ?z9k3 ?_ ?z9z; (case z9k1 => k_asm); (case z9k2 => k_asm); (case z9k3 => exact News.isList (by k_asm) (by k_mem)); (case z9z => (rw [sizeLine_eq]; simp only [List.size_toArray, List.length_cons]; omega)); k_whole); intro _ _ _ _ _ _)))
    (k_with "subscriptTail" => ((k_here; (with_reducible show wpAny _ _ (subscriptTail _ _ (Value.ref _) (Value.int _ _)) _ _ _); k_dflt (refine' item_at ?z9k1 ?z9k2 ?z9k3 ?z9k4 ?z9k5 ?_ ?z9k6 ?z9k7; (case z9k1 => k_asm); (case z9k2 => k_mem); (case z9k3 => decide); (case z9k4 => decide); (case z9k5 => exact rfl); (case z9k6 => with_unfolding_all rfl); (case z9k7 => (intro _; with_unfolding_all rfl)); k_whole))))
    (k_with "call builtin:len" => ((k_here; (with_reducible show wpAny _ _ (call (Value.builtin "len") [Value.ref _]) _ _ _); k_dflt (refine' len_at ?z9k1 ?z9k2 ?z9k3 ?z9k4 ?_; (case z9k1 => k_asm); (case z9k2 => k_mem); (case z9k3 => first | omega | (simp only [List.length_cons, List.length_append]; omega)); (case z9k4 => first | (simp only [List.length_cons, Int.natCast_add, Int.natCast_one]; exact rfl) | exact rfl); k_whole))))
    (k_with "subscriptTail Name Slice ref ref" => ((k_here; (with_reducible show wpAny _ _ (subscriptTail _ (PySem.Expr.Slice _ _ none _) (Value.ref _) (Value.ref _)) _ _ _); k_dflt (refine' kmk_slice_lit ?z9F ?z9N ?z9l ?z9p ?z9q ?z9e ?_ ?z9s ?z9t ?z9z; (case z9F => k_asm); (case z9N => k_asm); (case z9l => exact News.isList (by k_asm) (by k_mem)); (case z9p => kmk_part); (case z9q => kmk_part); (case z9e => first | exact pick2 | exact pick1); (case z9s => with_unfolding_all rfl); (case z9t => (intro _; with_unfolding_all rfl)); (case z9z => (rw [sizeLine_eq]; simp only [List.size_toArray, List.length_cons]; omega))); intro _ _ _ _ _)))
    (k_with "binaryOp Add ref ref" => ((k_here; (with_reducible show wpAny _ _ (binaryOp _ (Value.ref _) (Value.ref _)) _ _ _); (fail_if_success kde_tuple); k_dflt (refine' kmk_add_lit ?z9F ?z9N ?z9a ?z9b ?z9e ?_ ?z9z; (case z9F => k_asm); (case z9N => k_asm); (case z9a => exact News.isList (by k_asm) (by k_mem)); (case z9b => exact News.isList (by k_asm) (by k_mem)); (case z9e => exact rfl); (case z9z => (rw [sizeLine_eq]; simp only [List.length_cons, List.length_nil, List.length_replicate]; omega))); intro _ _ _ _ _)))
    (k_with "binaryOp Mult ref int" => ((k_here; (with_reducible show wpAny _ _ (binaryOp Operator.Mult (Value.ref _) (Value.int _ _)) _ _ _); k_dflt (refine' KMa.mul ?z9F ?z9N ?z9l ?z9lo ?z9hi ?z9z ?z9e ?_; (case z9F => k_asm); (case z9N => k_asm); (case z9l => exact News.isList (by k_asm) (by k_mem)); (case z9lo => omega); (case z9hi => omega); (case z9z => (simp only [List.length_cons, List.length_nil]; omega)); (case z9e => exact rep_one)); intro _ _ _ _ _)))
    (k_with "call ref" => ((k_here; (with_reducible show wpAny _ _ (call (Value.ref 420) [Value.ref _]) _ _ _); k_dflt (refine' Ctr.use (ctr_tableU ?z9kU ?z9kN ?z9kc ?z9kc9) ?z9k1 ?z9k2 ?z9k3 ?z9k4 ?z9k5 ?z9k6 ?z9k7 ?z9k8 ?_; (case z9k1 => k_asm); (case z9k2 => k_asm); (case z9k3 => k_asm); (case z9k4 => k_asm); (case z9k5 => k_asm); (case z9k6 => first | exact rfl | assumption); (case z9k7 => ktr_room); (case z9k8 => ktr_units); (case z9kU => k_updF); (case z9kN => assumption); (case z9kc => omega); (case z9kc9 => omega)); walk_at "aTable")))
    (k_with "call ref" => (((with_reducible show wpAny _ _ (call (Value.ref 401) _) _ _ _); refine Stop.out ?_)))
    (k_with "storeName" => ((refine Stop.out ?_)))
    k_steps
    unfold Stop
    rename News _ _ _ _ => N7
    rename TabIn _ _ _ _ => tbB
    revert tbB
    rename TabIn _ _ _ _ => tbA
    intro tbB
    obtain ⟨dA, T1, eA, eT⟩ := nameTab tbA
    subst eA eT
    obtain ⟨dB, T2, eB, eT⟩ := nameTab tbB
    subst eB eT
    obtain ⟨TL2, hTL2, NB3⟩ := pack3 N7
    have r0 : ∀ q ∈ TL2, q.1 ≠ p := by rw [hTL2]; exact ne_app (ord_ne (by assumption) (by kcf_m)) (ne_app (ord_ne (by assumption) (by kcf_m)) hp0)
    obtain ⟨aO, aN, eO, eN2⟩ := nameCells NB3
    have r2 : ∀ q ∈ TL2, q.1 ≠ aN := by rw [hTL2, eN2]; exact ne_app (ord_ne (by assumption) (by kcf_m)) (ne_app (ord_ne (by assumption) (by kcf_m)) hp2)
    have r3 : ∀ q ∈ TL2, q.1 ≠ aO := by rw [hTL2, eO]; exact ne_app (ord_ne (by assumption) (by kcf_m)) (ne_app (ord_ne (by assumption) (by kcf_m)) hp3)
    subst eO eN2
    have tA := TabIn.up (n2 := TL2) tbA (by rw [hTL2]; kcf_all)
    have tB := TabIn.up (n2 := TL2) tbB (by rw [hTL2]; kcf_all)
    have hsub : ∀ q ∈ TL, q ∈ TL2 := by rw [hTL2]; kcf_all
    replace htg := htg.up hsub
    replace hbare := hsub _ hbare
    replace q6 := hsub _ q6
    replace q7 := hsub _ q7
    replace hpi := hpi.up hsub
    replace hit := hit.up hsub
    clear tbA tbB N7 hTL2 hsub q1 q2 q3 q4 q5 hp0 hp2 hp3
    k_with_none
    (k_with "D" => skip)
    (k_with "call type:list" => ((k_here; (with_reducible show wpAny _ _ (call (Value.type _) [Value.ref _]) _ _ _); k_dflt (refine' list_copyK ?z9k1 ?z9k2 ?z9k3 ?_ ?z9z; (case z9k1 => k_asm); (case z9k2 => k_asm); (case z9k3 => exact News.isList (by k_asm) (by k_mem)); (case z9z => (rw [sizeLine_eq]; simp only [List.size_toArray, List.length_cons]; omega)); k_whole); intro _ _ _ _ _ _)))
    (k_with "subscriptTail" => ((k_here; (with_reducible show wpAny _ _ (subscriptTail _ _ (Value.ref _) (Value.int _ _)) _ _ _); k_dflt (refine' item_at ?z9k1 ?z9k2 ?z9k3 ?z9k4 ?z9k5 ?_ ?z9k6 ?z9k7; (case z9k1 => k_asm); (case z9k2 => k_mem); (case z9k3 => decide); (case z9k4 => decide); (case z9k5 => exact rfl); (case z9k6 => with_unfolding_all rfl); (case z9k7 => (intro _; with_unfolding_all rfl)); k_whole))))
    (k_with "call builtin:len" => ((k_here; (with_reducible show wpAny _ _ (call (Value.builtin "len") [Value.ref _]) _ _ _); k_dflt (refine' len_at ?z9k1 ?z9k2 ?z9k3 ?z9k4 ?_; (case z9k1 => k_asm); (case z9k2 => k_mem); (case z9k3 => first | omega | (simp only [List.length_cons, List.length_append]; omega)); (case z9k4 => first | (simp only [List.length_cons, Int.natCast_add, Int.natCast_one]; exact rfl) | exact rfl); k_whole))))
    (k_with "subscriptTail Name Slice ref ref" => ((k_here; (with_reducible show wpAny _ _ (subscriptTail _ (PySem.Expr.Slice _ _ none _) (Value.ref _) (Value.ref _)) _ _ _); k_dflt (refine' kmk_slice_lit ?z9F ?z9N ?z9l ?z9p ?z9q ?z9e ?_ ?z9s ?z9t ?z9z; (case z9F => k_asm); (case z9N => k_asm); (case z9l => exact News.isList (by k_asm) (by k_mem)); (case z9p => kmk_part); (case z9q => kmk_part); (case z9e => first | exact pick2 | exact pick1); (case z9s => with_unfolding_all rfl); (case z9t => (intro _; with_unfolding_all rfl)); (case z9z => (rw [sizeLine_eq]; simp only [List.size_toArray, List.length_cons]; omega))); intro _ _ _ _ _)))
    (k_with "binaryOp Add ref ref" => ((k_here; (with_reducible show wpAny _ _ (binaryOp _ (Value.ref _) (Value.ref _)) _ _ _); (fail_if_success kde_tuple); k_dflt (refine' kmk_add_lit ?z9F ?z9N ?z9a ?z9b ?z9e ?_ ?z9z; (case z9F => k_asm); (case z9N => k_asm); (case z9a => exact News.isList (by k_asm) (by k_mem)); (case z9b => exact News.isList (by k_asm) (by k_mem)); (case z9e => exact rfl); (case z9z => (rw [sizeLine_eq]; simp only [List.length_cons, List.length_nil, List.length_replicate]; omega))); intro _ _ _ _ _)))
    (k_with "binaryOp Mult ref int" => ((k_here; (with_reducible show wpAny _ _ (binaryOp Operator.Mult (Value.ref _) (Value.int _ _)) _ _ _); k_dflt (refine' KMa.mul ?z9F ?z9N ?z9l ?z9lo ?z9hi ?z9z ?z9e ?_; (case z9F => k_asm); (case z9N => k_asm); (case z9l => exact News.isList (by k_asm) (by k_mem)); (case z9lo => omega); (case z9hi => omega); (case z9z => (simp only [List.length_cons, List.length_nil]; omega)); (case z9e => exact rep_one)); intro _ _ _ _ _)))
    (k_with "call ref" => ((k_here; (with_reducible show wpAny _ _ (call (Value.ref 420) [Value.ref _]) _ _ _); k_dflt (refine' Ctr.use (ctr_tableU ?z9kU ?z9kN ?z9kc ?z9kc9) ?z9k1 ?z9k2 ?z9k3 ?z9k4 ?z9k5 ?z9k6 ?z9k7 ?z9k8 ?_; (case z9k1 => k_asm); (case z9k2 => k_asm); (case z9k3 => k_asm); (case z9k4 => k_asm); (case z9k5 => k_asm); (case z9k6 => first | exact rfl | assumption); (case z9k7 => ktr_room); (case z9k8 => ktr_units); (case z9kU => k_updF); (case z9kN => assumption); (case z9kc => omega); (case z9kc9 => omega)); walk_at "aTable")))
    (k_with "call ref" => (((with_reducible show wpAny _ _ (call (Value.ref 401) _) _ _ _); refine Stop.out ?_)))
    k_steps
    unfold Stop
    rename Fr _ _ _ _ => F5; rename News _ _ _ _ => N5
    with_reducible refine midCutE (fun v tl => MovedAs tl v y (its ++ List.replicate (most - ys.length).toNat It.none) (movedIt pit T1)) F5 N5 ?_ ?_
    · k_with_none
      (k_with "E" => skip)
      (k_with "call ref" => ((k_here; (with_reducible show wpAny _ _ (call (Value.ref 401) [_, Value.ref _]) _ _ _); k_dflt (refine' Ctr.use (ctr_movedO ?z9kt ?z9kT) ?z9k1 ?z9k2 ?z9k3 ?z9k4 ?z9k5 ?z9k6 ?z9k7 ?z9k8 ?_; (case z9k1 => k_asm); (case z9k2 => k_asm); (case z9k3 => k_asm); (case z9k4 => k_asm); (case z9k5 => k_asm); (case z9k6 => first | exact rfl | assumption); (case z9k7 => ktr_room); (case z9k8 => ktr_units); (case z9kt => first | assumption | exact TgtIn.up (by assumption) (by kcf_all)); (case z9kT => exact TabIn.up (by assumption) (by kcf_all))); rintro _ _ _ _ _ _ ⟨_, e9, _⟩; subst e9; (try dsimp only); (try k_fold))))
      (k_with "eval ListComp" => ((refine Stop.out ?_)))
      k_steps
      all_goals exact MidE.of (by assumption) (by assumption) (by kcf_all) (by assumption)
    intro fv TL3 h3 tk3 F3 N3 s3 hf
    replace tA := tA.up s3
    replace tB := tB.up s3
    replace htg := htg.up s3
    replace hbare := s3 _ hbare
    replace q6 := s3 _ q6
    replace q7 := s3 _ q7
    replace hpi := hpi.up s3
    replace hit := hit.up s3
    clear F5 N5 s3
    k_with_none
    (k_with "E" => skip)
    (k_with "Eif" => skip)
    (k_with "call ref" => ((k_here; (with_reducible show wpAny _ _ (call (Value.ref 401) [_, Value.ref _]) _ _ _); k_dflt (refine' Ctr.use (ctr_movedO ?z9kt ?z9kT) ?z9k1 ?z9k2 ?z9k3 ?z9k4 ?z9k5 ?z9k6 ?z9k7 ?z9k8 ?_; (case z9k1 => k_asm); (case z9k2 => k_asm); (case z9k3 => k_asm); (case z9k4 => k_asm); (case z9k5 => k_asm); (case z9k6 => first | exact rfl | assumption); (case z9k7 => ktr_room); (case z9k8 => ktr_units); (case z9kt => first | assumption | exact TgtIn.up (by assumption) (by kcf_all)); (case z9kT => exact TabIn.up (by assumption) (by kcf_all))); rintro _ _ _ _ _ _ ⟨_, e9, _⟩; subst e9; (try dsimp only); (try k_fold))))
    (k_with "eval IfExp" => ((refine Stop.out ?_)))
    (k_with "eval ListComp" => ((refine Stop.out ?_)))
    k_steps
    unfold Stop
    rename Fr _ _ _ _ => F5; rename News _ _ _ _ => N5
    with_reducible refine midCutE (fun v tl => MovedAs tl v y (its ++ List.replicate (most - ys.length).toNat It.none) ((movedIt pit T1).bind fun p => movedIt p T2)) F5 N5 ?_ ?_
    · cases hm : movedIt pit T1 with
      | none =>
        rw [hm] at hf
        replace hf : fv = Value.none := hf
        subst hf
        k_with_none
        (k_with "E" => skip)
        (k_with "call ref" => ((k_here; (with_reducible show wpAny _ _ (call (Value.ref 401) [_, Value.ref _]) _ _ _); k_dflt (refine' Ctr.use (ctr_movedO ?z9kt ?z9kT) ?z9k1 ?z9k2 ?z9k3 ?z9k4 ?z9k5 ?z9k6 ?z9k7 ?z9k8 ?_; (case z9k1 => k_asm); (case z9k2 => k_asm); (case z9k3 => k_asm); (case z9k4 => k_asm); (case z9k5 => k_asm); (case z9k6 => first | exact rfl | assumption); (case z9k7 => ktr_room); (case z9k8 => ktr_units); (case z9kt => first | assumption | exact TgtIn.up (by assumption) (by kcf_all)); (case z9kT => exact TabIn.up (by assumption) (by kcf_all))); rintro _ _ _ _ _ _ ⟨_, e9, _⟩; subst e9; (try dsimp only); (try k_fold))))
        (k_with "eval ListComp" => ((refine Stop.out ?_)))
        k_steps
        all_goals exact MidE.of (by assumption) (by assumption) (by kcf_all) (by rfl)
      | some p1 =>
        rw [hm] at hf
        replace hf : TgtIn TL3 fv p1 y _ := hf
        have hf2 := hf
        cases hf2
        k_with_none
        (k_with "E" => skip)
        (k_with "call ref" => ((k_here; (with_reducible show wpAny _ _ (call (Value.ref 401) [_, Value.ref _]) _ _ _); k_dflt (refine' Ctr.use (ctr_movedO ?z9kt ?z9kT) ?z9k1 ?z9k2 ?z9k3 ?z9k4 ?z9k5 ?z9k6 ?z9k7 ?z9k8 ?_; (case z9k1 => k_asm); (case z9k2 => k_asm); (case z9k3 => k_asm); (case z9k4 => k_asm); (case z9k5 => k_asm); (case z9k6 => first | exact rfl | assumption); (case z9k7 => ktr_room); (case z9k8 => ktr_units); (case z9kt => first | assumption | exact TgtIn.up (by assumption) (by kcf_all)); (case z9kT => exact TabIn.up (by assumption) (by kcf_all))); rintro _ _ _ _ _ _ ⟨_, e9, _⟩; subst e9; (try dsimp only); (try k_fold))))
        (k_with "eval ListComp" => ((refine Stop.out ?_)))
        k_steps
        all_goals exact MidE.of (by assumption) (by assumption) (by kcf_all) (by assumption)
    intro tv TL4 h4 tk4 F4 N4 s4 hw
    replace tA := tA.up s4
    replace tB := tB.up s4
    replace htg := htg.up s4
    replace hbare := s4 _ hbare
    replace q6 := s4 _ q6
    replace q7 := s4 _ q7
    replace hpi := hpi.up s4
    replace hit := hit.up s4
    replace hf := hf.up s4
    clear F5 N5 s4
    k_with_none
    (k_with "E" => skip)
    (k_with "call ref" => ((k_here; (with_reducible show wpAny _ _ (call (Value.ref 401) [_, Value.ref _]) _ _ _); k_dflt (refine' Ctr.use (ctr_movedO ?z9kt ?z9kT) ?z9k1 ?z9k2 ?z9k3 ?z9k4 ?z9k5 ?z9k6 ?z9k7 ?z9k8 ?_; (case z9k1 => k_asm); (case z9k2 => k_asm); (case z9k3 => k_asm); (case z9k4 => k_asm); (case z9k5 => k_asm); (case z9k6 => first | exact rfl | assumption); (case z9k7 => ktr_room); (case z9k8 => ktr_units); (case z9kt => first | assumption | exact TgtIn.up (by assumption) (by kcf_all)); (case z9kT => exact TabIn.up (by assumption) (by kcf_all))); rintro _ _ _ _ _ _ ⟨_, e9, _⟩; subst e9; (try dsimp only); (try k_fold))))
    (k_with "eval ListComp" => ((refine Stop.out ?_)))
    k_steps
    unfold Stop
    rename Fr _ _ _ _ => F5; rename News _ _ _ _ => N5
    rename_i z1 z2 z3 z4 z5 z6 z7 z8 z9 z10 z11 z12 z13 z14 z15 z16 z17 z18 z19 z20 z21 z22 z23 z24 z25 z26 z27 z28 z29 z30 z31 z32 z33 z34 z35 z36 z37 z38 z39 z40 z41 z42 z43 z44 z45 z46
       z47 z48 z49 z50 z51 z52 z53 z54 z55 z56 z57 z58 z59 z60 z61 z62 z63 z64 z65 z66 z67 z68 z69 z70 z71 z72 z73 z74 z75 z76 z77 z78 z79 z80 z81 z82 z83 z84 z85 z86 z87 z88 z89
       z90 z91 z92 z93 z94 z95 z96 z97 z98 z99 z100 z101 z102 z103 z104 z105 z106 z107 z108 z109 z110 z111 z112 z113 z114 z115 z116 z117 z118 z119 z120 z121 z122 z123 z124 z125 z126
       z127 z128 z129 z130 z131 z132 z133 z134 z135 z136 z137 z138 z139 z140 z141 z142 z143 z144 z145 z146 z147 z148 z149 z150 z151 z152 z153 z154 z155 z156 z157 z158 z159 z160 z161
       z162 z163 z164 z165 z166 z167 z168 z169 z170 z171 z172 z173 z174 z175 z176 z177 z178 z179 z180 z181 z182 z183 z184 z185 z186 z187 z188 z189 z190 z191 z192 z193 z194 z195 z196
       z197 z198 z199 z200 z201 z202 z203 z204 z205 z206 z207 z208 z209 z210 z211 z212 z213 z214 z215 z216 z217 z218 z219 z220 z221 z222 z223 z224 z225 z226 z227 z228 z229 z230 z231
       z232 z233 z234 z235 z236 z237 z238 z239 z240 z241 z242 z243 z244 z245 z246 z247 z248 z249 z250 z251 z252 z253 z254 z255 z256 z257 z258 z259 z260 z261 z262 z263 z264 z265 z266
       z267
    revert oO oN oP' lO lN lP X0 qk1 ek1 p M9 u9 v9 n9 hp9 h' oP hx c3 c2 c1 pv N k n pit hpg tl2 tk2 N2 k2 t12 t22 n2 F3 N3 hN3 hk3 hb3 ho3 mt ml mn hne3 q y most ty tm hq hvt vtp hi4
       hM4 hpk g' ys N1 k1 t1 t2 n1 tl its hN hk hb hn hl hylen D off5 lifted h9 tk9 tg dx nl h1 h2 t1' t2' t3' t4' n1' n2' o1 o2 n' h D' nm TL o3p o1p o2p hlen hok hn4 hys4 hvl ek
       dA T1 dB T2 qk TL2 r0 r3 r2 fv TL3 h3 tk3 tk tv TL4 h4 tk4 hw tA tB htg hbare q6 q7 hpi hit hf F5 N5 z1 z2 z3 z4 z5 z6 z7 z8 z9 z10 z11 z12 z13 z14 z15 z16 z17 z18 z19 z20
       z21 z22 z23 z24 z25 z26 z27 z28 z29 z30 z31 z32 z33 z34 z35 z36 z37 z38 z39 z40 z41 z42 z43 z44 z45 z46 z47 z48 z49 z50 z51 z52 z53 z54 z55 z56 z57 z58 z59 z60 z61 z62 z63
       z64 z65 z66 z67 z68 z69 z70 z71 z72 z73 z74 z75 z76 z77 z78 z79 z80 z81 z82 z83 z84 z85 z86 z87 z88 z89 z90 z91 z92 z93 z94 z95 z96 z97 z98 z99 z100 z101 z102 z103 z104 z105
       z106 z107 z108 z109 z110 z111 z112 z113 z114 z115 z116 z117 z118 z119 z120 z121 z122 z123 z124 z125 z126 z127 z128 z129 z130 z131 z132 z133 z134 z135 z136 z137 z138 z139 z140
       z141 z142 z143 z144 z145 z146 z147 z148 z149 z150 z151 z152 z153 z154 z155 z156 z157 z158 z159 z160 z161 z162 z163 z164 z165 z166 z167 z168 z169 z170 z171 z172 z173 z174 z175
       z176 z177 z178 z179 z180 z181 z182 z183 z184 z185 z186 z187 z188 z189 z190 z191 z192 z193 z194 z195 z196 z197 z198 z199 z200 z201 z202 z203 z204 z205 z206 z207 z208 z209 z210
       z211 z212 z213 z214 z215 z216 z217 z218 z219 z220 z221 z222 z223 z224 z225 z226 z227 z228 z229 z230 z231 z232 z233 z234 z235 z236 z237 z238 z239 z240 z241 z242 z243 z244 z245
       z246 z247 z248 z249 z250 z251 z252 z253 z254 z255 z256 z257 z258 z259 z260 z261 z262 z263 z264 z265 z266 z267
    exact hP.out
  )⟩
theorem st1_P : st1.1 := by
  intro w
  unhygienic intros
  k_with_none
  with_reducible refine midCutE (fun v tl => ∃ d n zs xs, v = Value.ref d ∧ (d, W.listOf (List.toArray zs) n) ∈ tl ∧ MadeAt tl zs xs (thru T1 T2)) F5 N5 ?_ ?_
  · k_with_none
    (k_with "F" => skip)
    (k_with "compareOp NotIn ref ref" => ((k_here; (with_reducible show wpAny _ _ (compareOp CmpOp.NotIn (Value.ref _) (Value.ref _)) _ _ _); k_dflt (refine' tab_notin ?z9k1 ?z9k2 ?z9k3 ?z9k4 ?_; (case z9k1 => k_asm); (case z9k2 => exact TabIn.up (by assumption) (by kcf_all)); (case z9k3 => k_mem); (case z9k4 => ktr_units); k_whole); intro _)))
    (k_with "compareOp In ref ref" => ((k_here; (with_reducible show wpAny _ _ (compareOp CmpOp.In (Value.ref _) (Value.ref _)) _ _ _); k_dflt (refine' tab_in ?z9k1 ?z9k2 ?z9k3 ?z9k4 ?_; (case z9k1 => k_asm); (case z9k2 => exact TabIn.up (by assumption) (by kcf_all)); (case z9k3 => k_mem); (case z9k4 => ktr_units); k_whole); intro _)))
    (k_with "subscriptTail" => ((k_here; (with_reducible show wpAny _ _ (subscriptTail _ _ (Value.ref _) (Value.ref _)) _ _ _); k_dflt (refine' tab_item ?z9k1 ?z9k2 ?z9k3 ?z9k4 ?z9k5 ?_ ?z9k6 ?z9k7; (case z9k1 => k_asm); (case z9k2 => exact TabIn.up (by assumption) (by kcf_all)); (case z9k3 => k_mem); (case z9k4 => ktr_units); (case z9k5 => assumption); (case z9k6 => with_unfolding_all rfl); (case z9k7 => (intro _; with_unfolding_all rfl)); k_whole); intro _ _ _ _ _ _)))
    (k_with "eval ListComp" => ((k_here; k_dflt (refine ListComp_K (by k_asm) (by with_unfolding_all rfl) (by decide) (by rfl) (by decide) (by rfl) ?_))))
    (k_with "SrcK" => ((refine Stop.out ?_)))
    (k_with "subscriptTail" => ((k_here; (with_reducible show wpAny _ _ (subscriptTail _ _ (Value.ref _) (Value.ref _)) _ _ _); k_dflt (refine' tab_item2 ?z9k1 ?z9k2 ?z9ks ?z9k3 ?z9k4 ?z9k5 ?_ ?z9k6 ?z9k7; (case z9k1 => k_asm); (case z9k2 => assumption); (case z9ks => kcf_all); (case z9k3 => k_mem); (case z9k4 => ktr_units); (case z9k5 => assumption); (case z9k6 => with_unfolding_all rfl); (case z9k7 => (intro _; with_unfolding_all rfl)); k_whole); intro _ _ _ _ _ _)))
    have tA2 := tA
    obtain ⟨oA, esA, epA, xsA, hmA, hcA, hdA, loA, heA, hnA, RA⟩ := tA2
    rename (List.map _ T1).Nodup => nd1
    k_steps
    unfold Stop
    have lA : esA.size = T1.length := by rw [← Array.length_toList, heA, List.length_map, RA.length]
    refine SrcK.of (by rfl) (by k_asm) (by k_asm) (by k_mem) hcA hdA loA (by rw [lA, sizeLine_eq]; omega) ?_
    intro g'
    refine comp_genB (fun B i ys nx => ThruInv B T1 T2 i ys nx) (fun B i ys ok nx => ThruInv B T1 T2 i ys nx ∧ ∃ k u, T1[i]? = some (k, u) ∧ ok = (T2.lookup u).isSome) ?_ ?_ ?_ ?_ ⟨[], [], rfl, by simpa [thru] using MadeAt.nil⟩ (by kcf_m)
    · rintro i ys nx v I oI C oC D m₂ h tk E' hi ⟨tl, xs, rfl, hM⟩ hv hS hC hx F NT off ne
      obtain ⟨k, u, a, b, t1, t2, n, t3, t4, n', rfl, hg, ha, hb⟩ := key_at heA RA hv
      have hlk := lookup_get nd1 hg
      k_steps
      exact TestB.of (by assumption) (by assumption) _ (fun _ h => h) off hS ⟨⟨tl, xs, rfl, hM⟩, k, u, hg, rfl⟩
    · rintro i ys nx v I oI C oC D m₂ h tk E' hi ⟨⟨tl, xs, rfl, hM⟩, k0, u0, hg0, hok⟩ hv hS hC hx F NT off ne
      obtain ⟨k, u, a, b, t1, t2, n, t3, t4, n', rfl, hg, ha, hb⟩ := key_at heA RA hv
      rw [hg] at hg0
      cases hg0
      have hlk := lookup_get nd1 hg
      cases hlu : T2.lookup u0 with
      | none => rw [hlu] at hok; cases hok
      | some z =>
        have z1 : @LT.lt Nat _ I h.objs.size := Heap.lt_size (NT _ (.head _)).1
        have z2 : @LT.lt Nat _ C h.objs.size := Heap.lt_size (NT _ (.tail _ (.head _))).1
        have z3 : @LT.lt Nat _ D h.objs.size := Heap.lt_size (NT _ (.tail _ (.tail _ (.head _)))).1
        k_steps
        refine EltB.of1 (by assumption) (by assumption) ?_ (List.Mem.tail _ hS) (ThruInv.snoc ⟨tl, xs, rfl, hM⟩ hg hlu (by kcf_m) (by kcf_m))
        exact ⟨⟨Nat.ne_of_gt z1, Nat.ne_of_gt z2, Nat.ne_of_gt z3⟩, off⟩
    · rintro i ys nx v hi hv ⟨hJ, k, u, hg, hok⟩
      exact hJ.skip hg hok.symm
    · rintro ys nx ⟨tl, xs, rfl, hM⟩
      rw [lA, List.take_length] at hM
      unfold LCg.FinE
      intro D h tk F N off
      exact MidE.of F N (by kcf_all) ⟨_, _, _, _, rfl, by kcf_m, hM.up' (by kcf_all)⟩
  k_with_none
  (k_with "G" => skip)
  (k_with "call type:list" => ((k_here; (with_reducible show wpAny _ _ (call (Value.type _) [Value.ref _]) _ _ _); k_dflt (refine' list_copyK ?z9k1 ?z9k2 ?z9k3 ?_ ?z9z; (case z9k1 => k_asm); (case z9k2 => k_asm); (case z9k3 => exact News.isList (by k_asm) (by k_mem)); (case z9z => (rw [sizeLine_eq]; simp only [List.size_toArray, List.length_cons]; omega)); k_whole); intro _ _ _ _ _ _)))
  (k_with "subscriptTail" => ((k_here; (with_reducible show wpAny _ _ (subscriptTail _ _ (Value.ref _) (Value.int _ _)) _ _ _); k_dflt (refine' item_at ?z9k1 ?z9k2 ?z9k3 ?z9k4 ?z9k5 ?_ ?z9k6 ?z9k7; (case z9k1 => k_asm); (case z9k2 => k_mem); (case z9k3 => decide); (case z9k4 => decide); (case z9k5 => exact rfl); (case z9k6 => with_unfolding_all rfl); (case z9k7 => (intro _; with_unfolding_all rfl)); k_whole))))
  (k_with "call builtin:len" => ((k_here; (with_reducible show wpAny _ _ (call (Value.builtin "len") [Value.ref _]) _ _ _); k_dflt (refine' len_at ?z9k1 ?z9k2 ?z9k3 ?z9k4 ?_; (case z9k1 => k_asm); (case z9k2 => k_mem); (case z9k3 => first | omega | (simp only [List.length_cons, List.length_append]; omega)); (case z9k4 => first | (simp only [List.length_cons, Int.natCast_add, Int.natCast_one]; exact rfl) | exact rfl); k_whole))))
  (k_with "subscriptTail Name Slice ref ref" => ((k_here; (with_reducible show wpAny _ _ (subscriptTail _ (PySem.Expr.Slice _ _ none _) (Value.ref _) (Value.ref _)) _ _ _); k_dflt (refine' kmk_slice_lit ?z9F ?z9N ?z9l ?z9p ?z9q ?z9e ?_ ?z9s ?z9t ?z9z; (case z9F => k_asm); (case z9N => k_asm); (case z9l => exact News.isList (by k_asm) (by k_mem)); (case z9p => kmk_part); (case z9q => kmk_part); (case z9e => first | exact pick2 | exact pick1); (case z9s => with_unfolding_all rfl); (case z9t => (intro _; with_unfolding_all rfl)); (case z9z => (rw [sizeLine_eq]; simp only [List.size_toArray, List.length_cons]; omega))); intro _ _ _ _ _)))
  (k_with "binaryOp Add ref ref" => ((k_here; (with_reducible show wpAny _ _ (binaryOp _ (Value.ref _) (Value.ref _)) _ _ _); (fail_if_success kde_tuple); k_dflt (refine' kmk_add_lit ?z9F ?z9N ?z9a ?z9b ?z9e ?_ ?z9z; (case z9F => k_asm); (case z9N => k_asm); (case z9a => exact News.isList (by k_asm) (by k_mem)); (case z9b => exact News.isList (by k_asm) (by k_mem)); (case z9e => exact rfl); (case z9z => (rw [sizeLine_eq]; simp only [List.length_cons, List.length_nil, List.length_replicate]; omega))); intro _ _ _ _ _)))
  (k_with "binaryOp Mult ref int" => ((k_here; (with_reducible show wpAny _ _ (binaryOp Operator.Mult (Value.ref _) (Value.int _ _)) _ _ _); k_dflt (refine' KMa.mul ?z9F ?z9N ?z9l ?z9lo ?z9hi ?z9z ?z9e ?_; (case z9F => k_asm); (case z9N => k_asm); (case z9l => exact News.isList (by k_asm) (by k_mem)); (case z9lo => omega); (case z9hi => omega); (case z9z => (simp only [List.length_cons, List.length_nil]; omega)); (case z9e => exact rep_one)); intro _ _ _ _ _)))
  (k_with "call ref" => ((k_here; (with_reducible show wpAny _ _ (call (Value.ref 427) [Value.none]) _ _ _); k_dflt (refine' Ctr.use (ctr_seenN) ?z9k1 ?z9k2 ?z9k3 ?z9k4 ?z9k5 ?z9k6 ?z9k7 ?z9k8 ?_; (case z9k1 => k_asm); (case z9k2 => k_asm); (case z9k3 => k_asm); (case z9k4 => k_asm); (case z9k5 => k_asm); (case z9k6 => first | exact rfl | assumption); (case z9k7 => ktr_room); (case z9k8 => ktr_units); skip); rintro _ _ _ _ _ _ ⟨e9, d9⟩; replace e9 := Eq.symm e9; subst e9; subst d9; (try dsimp only); (try k_fold))))
  (k_with "call ref" => ((k_here; (with_reducible show wpAny _ _ (call (Value.ref 427) [_]) _ _ _); k_dflt (refine' Ctr.use (ctr_seenP ?z9kt ?z9kn) ?z9k1 ?z9k2 ?z9k3 ?z9k4 ?z9k5 ?z9k6 ?z9k7 ?z9k8 ?_; (case z9k1 => k_asm); (case z9k2 => k_asm); (case z9k3 => k_asm); (case z9k4 => k_asm); (case z9k5 => k_asm); (case z9k6 => first | exact rfl | assumption); (case z9k7 => ktr_room); (case z9k8 => ktr_units); (case z9kt => first | assumption | exact TgtIn.up (by assumption) (by kcf_all)); (case z9kn => omega)); rintro _ _ _ _ _ _ ⟨_, e9, _, _⟩; subst e9; (try dsimp only); (try k_fold))))
  (k_with "call ref" => ((k_here; (with_reducible show wpAny _ _ (call (Value.ref 265) [_]) _ _ _); k_dflt (refine' Ctr.use (ctr_toldRow ?z9ka ?z9kb ?z9kc ?z9kp ?z9ki ?z9kn) ?z9k1 ?z9k2 ?z9k3 ?z9k4 ?z9k5 ?z9k6 ?z9k7 ?z9k8 ?_; (case z9k1 => k_asm); (case z9k2 => k_asm); (case z9k3 => k_asm); (case z9k4 => k_asm); (case z9k5 => k_asm); (case z9k6 => first | exact rfl | assumption); (case z9k7 => ktr_room); (case z9k8 => ktr_units); (case z9ka => k_mem); (case z9kb => k_mem); (case z9kc => k_mem); (case z9kp => exact ItIn.up (by assumption) (by kcf_all)); (case z9ki => exact ItAll.up (by assumption) (by kcf_all)); (case z9kn => omega)); rintro _ _ _ _ _ _ ⟨_, e9, _, _⟩; subst e9; (try dsimp only); (try k_fold))))
  (k_with "compareOp NotEq" => ((k_here; k_dflt (refine' dat_ne ?z9kN ?z9kA ?z9ksa ?z9kB ?z9ksb ?z9kok ?z9ku ?_; (case z9kA => assumption); (case z9kB => assumption); (case z9kN => k_asm); (case z9ksa => kcf_all); (case z9ksb => kcf_all); (case z9kok => assumption); (case z9ku => ktr_units); k_whole))))
  (k_with "compareOp Eq" => ((k_here; k_dflt (refine' dat_eq ?z9kN ?z9kA ?z9ksa ?z9kB ?z9ksb ?z9kok ?z9ku ?_; (case z9kA => assumption); (case z9kB => assumption); (case z9kN => k_asm); (case z9ksa => kcf_all); (case z9ksb => kcf_all); (case z9kok => assumption); (case z9ku => ktr_units); k_whole))))
  (k_with "call ref" => ((k_here; (with_reducible show wpAny _ _ (call (Value.ref 401) [_, Value.ref _]) _ _ _); k_dflt (refine' Ctr.use (ctr_movedN ?z9kt ?z9kT ?z9km) ?z9k1 ?z9k2 ?z9k3 ?z9k4 ?z9k5 ?z9k6 ?z9k7 ?z9k8 ?_; (case z9k1 => k_asm); (case z9k2 => k_asm); (case z9k3 => k_asm); (case z9k4 => k_asm); (case z9k5 => k_asm); (case z9k6 => first | exact rfl | assumption); (case z9k7 => ktr_room); (case z9k8 => ktr_units); (case z9km => assumption); (case z9kt => first | assumption | exact TgtIn.up (by assumption) (by kcf_all)); (case z9kT => exact TabIn.up (by assumption) (by kcf_all))); rintro _ _ _ _ _ _ ⟨e9, d9⟩; replace e9 := Eq.symm e9; subst e9; subst d9; (try dsimp only); (try k_fold))))
  (k_with "call ref" => ((k_here; (with_reducible show wpAny _ _ (call (Value.ref 401) [_, Value.ref _]) _ _ _); k_dflt (refine' Ctr.use (ctr_moved ?z9kt ?z9kT ?z9km) ?z9k1 ?z9k2 ?z9k3 ?z9k4 ?z9k5 ?z9k6 ?z9k7 ?z9k8 ?_; (case z9k1 => k_asm); (case z9k2 => k_asm); (case z9k3 => k_asm); (case z9k4 => k_asm); (case z9k5 => k_asm); (case z9k6 => first | exact rfl | assumption); (case z9k7 => ktr_room); (case z9k8 => ktr_units); (case z9km => assumption); (case z9kt => first | assumption | exact TgtIn.up (by assumption) (by kcf_all)); (case z9kT => exact TabIn.up (by assumption) (by kcf_all))); rintro _ _ _ _ _ _ ⟨_, e9, _⟩; subst e9; (try dsimp only); (try k_fold))))
  (k_with "call type:dict" => ((k_here; (with_reducible show wpAny _ _ (call (Value.type _) [Value.ref _]) _ _ _); k_dflt (refine' dict_new ?z9kh ?z9ku ?z9kF ?z9kN ?z9kb ?z9kl ?z9kM ?z9ks ?z9kn ?z9kx ?_; (case z9kh => rfl); (case z9ku => ktr_units); (case z9kF => k_asm); (case z9kN => k_asm); (case z9kb => exact TopRead.nolimit (by k_asm)); (case z9kl => k_mem); (case z9kM => assumption); (case z9ks => kcf_all); (case z9kn => assumption); (case z9kx => omega); k_whole); intro _ _ _ _ _ _ _ _)))
  (k_with "compareOp NotIn ref ref" => ((k_here; (with_reducible show wpAny _ _ (compareOp CmpOp.NotIn (Value.ref _) (Value.ref _)) _ _ _); k_dflt (refine' tab_notin ?z9k1 ?z9k2 ?z9k3 ?z9k4 ?_; (case z9k1 => k_asm); (case z9k2 => exact TabIn.up (by assumption) (by kcf_all)); (case z9k3 => k_mem); (case z9k4 => ktr_units); k_whole); intro _)))
  (k_with "compareOp In ref ref" => ((k_here; (with_reducible show wpAny _ _ (compareOp CmpOp.In (Value.ref _) (Value.ref _)) _ _ _); k_dflt (refine' tab_in ?z9k1 ?z9k2 ?z9k3 ?z9k4 ?_; (case z9k1 => k_asm); (case z9k2 => exact TabIn.up (by assumption) (by kcf_all)); (case z9k3 => k_mem); (case z9k4 => ktr_units); k_whole); intro _)))
  (k_with "subscriptTail" => ((k_here; (with_reducible show wpAny _ _ (subscriptTail _ _ (Value.ref _) (Value.ref _)) _ _ _); k_dflt (refine' tab_item ?z9k1 ?z9k2 ?z9k3 ?z9k4 ?z9k5 ?_ ?z9k6 ?z9k7; (case z9k1 => k_asm); (case z9k2 => exact TabIn.up (by assumption) (by kcf_all)); (case z9k3 => k_mem); (case z9k4 => ktr_units); (case z9k5 => assumption); (case z9k6 => with_unfolding_all rfl); (case z9k7 => (intro _; with_unfolding_all rfl)); k_whole); intro _ _ _ _ _ _)))
  (k_with "compareOp NotIn ref ref" => ((k_here; (with_reducible show wpAny _ _ (compareOp CmpOp.NotIn (Value.ref _) (Value.ref _)) _ _ _); first | (k_dflt (refine' tab_notin_none ?z9k0 ?z9k1 ?z9k2 ?z9k3 ?z9k4 ?_; (case z9k1 => k_asm); (case z9k2 => exact TabIn.up (by assumption) (by kcf_all)); (case z9k3 => k_mem); (case z9k0 => assumption); (case z9k4 => ktr_units); k_whole); intro tk9) | (k_dflt (refine' tab_notin_some ?z9k0 ?z9k1 ?z9k2 ?z9k3 ?z9k4 ?_; (case z9k1 => k_asm); (case z9k2 => exact TabIn.up (by assumption) (by kcf_all)); (case z9k3 => k_mem); (case z9k0 => assumption); (case z9k4 => ktr_units); k_whole); intro _))))
  rintro v TL5 h5 tk5 F6 N6 s5 ⟨d, n, zs, xs, rfl, hd, hM⟩
  replace tA := tA.up s5
  replace tB := tB.up s5
  replace htg := htg.up s5
  replace hbare := s5 _ hbare
  replace q6 := s5 _ q6
  replace q7 := s5 _ q7
  replace hpi := hpi.up s5
  replace hit := hit.up s5
  replace hf := hf.up s5
  replace hw := hw.up s5
  clear F5 N5 s5
  rename (List.map _ T1).Nodup => nd1
  have nd3 := thru_keys (T2 := T2) nd1
  have ln3 := thru_len (T1 := T1) (T2 := T2)
  have hmt := moved_thru (T2 := T2) nd1 pit
  have okp := page_ok hpk hvt hn
  cases ho : (movedIt pit T1).bind fun p => movedIt p T2 with
  | none =>
    rw [ho] at hw hmt
    replace hw : tv = Value.none := hw
    subst hw
    k_steps
    rcases hpk with ⟨k1, rfl⟩ | ⟨i1, hi1, rfl⟩
    · have hpi2 := hpi
      cases hpi2
      cases hl : T1.lookup k1 with
      | none =>
        replace hf : fv = Value.none := by simpa [movedIt, hl, MovedAs] using hf
        subst hf
        k_steps
      | some v1 =>
        replace hf : TgtIn TL5 fv (.ref v1) y (its ++ List.replicate (most - ys.length).toNat It.none) := by simpa [movedIt, hl, MovedAs] using hf
        have okf : kqdOk 9 (rowDat (.ref v1) y its) = true := page_ok (.inl ⟨_, rfl⟩) hvt hn
        have hf2 := hf
        cases hf2
        have hsl4 : (strip ys).length ≤ 4 := Nat.le_trans (strip_len ys) hys4
        k_with_none
        (k_with "G" => skip)
        (k_with "sum" => skip)
        (k_with "call type:list" => ((k_here; (with_reducible show wpAny _ _ (call (Value.type _) [Value.ref _]) _ _ _); k_dflt (refine' list_copyK ?z9k1 ?z9k2 ?z9k3 ?_ ?z9z; (case z9k1 => k_asm); (case z9k2 => k_asm); (case z9k3 => exact News.isList (by k_asm) (by k_mem)); (case z9z => (rw [sizeLine_eq]; simp only [List.size_toArray, List.length_cons]; omega)); k_whole); intro _ _ _ _ _ _)))
        (k_with "subscriptTail" => ((k_here; (with_reducible show wpAny _ _ (subscriptTail _ _ (Value.ref _) (Value.int _ _)) _ _ _); k_dflt (refine' item_at ?z9k1 ?z9k2 ?z9k3 ?z9k4 ?z9k5 ?_ ?z9k6 ?z9k7; (case z9k1 => k_asm); (case z9k2 => k_mem); (case z9k3 => decide); (case z9k4 => decide); (case z9k5 => exact rfl); (case z9k6 => with_unfolding_all rfl); (case z9k7 => (intro _; with_unfolding_all rfl)); k_whole))))
        (k_with "call builtin:len" => ((k_here; (with_reducible show wpAny _ _ (call (Value.builtin "len") [Value.ref _]) _ _ _); k_dflt (refine' len_at ?z9k1 ?z9k2 ?z9k3 ?z9k4 ?_; (case z9k1 => k_asm); (case z9k2 => k_mem); (case z9k3 => first | omega | (simp only [List.length_cons, List.length_append]; omega)); (case z9k4 => first | (simp only [List.length_cons, Int.natCast_add, Int.natCast_one]; exact rfl) | exact rfl); k_whole))))
        (k_with "subscriptTail Name Slice ref ref" => ((k_here; (with_reducible show wpAny _ _ (subscriptTail _ (PySem.Expr.Slice _ _ none _) (Value.ref _) (Value.ref _)) _ _ _); k_dflt (refine' kmk_slice_lit ?z9F ?z9N ?z9l ?z9p ?z9q ?z9e ?_ ?z9s ?z9t ?z9z; (case z9F => k_asm); (case z9N => k_asm); (case z9l => exact News.isList (by k_asm) (by k_mem)); (case z9p => kmk_part); (case z9q => kmk_part); (case z9e => first | exact pick2 | exact pick1); (case z9s => with_unfolding_all rfl); (case z9t => (intro _; with_unfolding_all rfl)); (case z9z => (rw [sizeLine_eq]; simp only [List.size_toArray, List.length_cons]; omega))); intro _ _ _ _ _)))
        (k_with "binaryOp Add ref ref" => ((k_here; (with_reducible show wpAny _ _ (binaryOp _ (Value.ref _) (Value.ref _)) _ _ _); (fail_if_success kde_tuple); k_dflt (refine' kmk_add_lit ?z9F ?z9N ?z9a ?z9b ?z9e ?_ ?z9z; (case z9F => k_asm); (case z9N => k_asm); (case z9a => exact News.isList (by k_asm) (by k_mem)); (case z9b => exact News.isList (by k_asm) (by k_mem)); (case z9e => exact rfl); (case z9z => (rw [sizeLine_eq]; simp only [List.length_cons, List.length_nil, List.length_replicate]; omega))); intro _ _ _ _ _)))
        (k_with "binaryOp Mult ref int" => ((k_here; (with_reducible show wpAny _ _ (binaryOp Operator.Mult (Value.ref _) (Value.int _ _)) _ _ _); k_dflt (refine' KMa.mul ?z9F ?z9N ?z9l ?z9lo ?z9hi ?z9z ?z9e ?_; (case z9F => k_asm); (case z9N => k_asm); (case z9l => exact News.isList (by k_asm) (by k_mem)); (case z9lo => omega); (case z9hi => omega); (case z9z => (simp only [List.length_cons, List.length_nil]; omega)); (case z9e => exact rep_one)); intro _ _ _ _ _)))
        (k_with "call ref" => ((k_here; (with_reducible show wpAny _ _ (call (Value.ref 427) [Value.none]) _ _ _); k_dflt (refine' Ctr.use (ctr_seenN) ?z9k1 ?z9k2 ?z9k3 ?z9k4 ?z9k5 ?z9k6 ?z9k7 ?z9k8 ?_; (case z9k1 => k_asm); (case z9k2 => k_asm); (case z9k3 => k_asm); (case z9k4 => k_asm); (case z9k5 => k_asm); (case z9k6 => first | exact rfl | assumption); (case z9k7 => ktr_room); (case z9k8 => ktr_units); skip); rintro _ _ _ _ _ _ ⟨e9, d9⟩; replace e9 := Eq.symm e9; subst e9; subst d9; (try dsimp only); (try k_fold))))
        (k_with "call ref" => ((k_here; (with_reducible show wpAny _ _ (call (Value.ref 427) [_]) _ _ _); k_dflt (refine' Ctr.use (ctr_seenP ?z9kt ?z9kn) ?z9k1 ?z9k2 ?z9k3 ?z9k4 ?z9k5 ?z9k6 ?z9k7 ?z9k8 ?_; (case z9k1 => k_asm); (case z9k2 => k_asm); (case z9k3 => k_asm); (case z9k4 => k_asm); (case z9k5 => k_asm); (case z9k6 => first | exact rfl | assumption); (case z9k7 => ktr_room); (case z9k8 => ktr_units); (case z9kt => first | assumption | exact TgtIn.up (by assumption) (by kcf_all)); (case z9kn => omega)); rintro _ _ _ _ _ _ ⟨_, e9, _, _⟩; subst e9; (try dsimp only); (try k_fold))))
        (k_with "call ref" => ((k_here; (with_reducible show wpAny _ _ (call (Value.ref 265) [_]) _ _ _); k_dflt (refine' Ctr.use (ctr_toldRow ?z9ka ?z9kb ?z9kc ?z9kp ?z9ki ?z9kn) ?z9k1 ?z9k2 ?z9k3 ?z9k4 ?z9k5 ?z9k6 ?z9k7 ?z9k8 ?_; (case z9k1 => k_asm); (case z9k2 => k_asm); (case z9k3 => k_asm); (case z9k4 => k_asm); (case z9k5 => k_asm); (case z9k6 => first | exact rfl | assumption); (case z9k7 => ktr_room); (case z9k8 => ktr_units); (case z9ka => k_mem); (case z9kb => k_mem); (case z9kc => k_mem); (case z9kp => exact ItIn.up (by assumption) (by kcf_all)); (case z9ki => exact ItAll.up (by assumption) (by kcf_all)); (case z9kn => omega)); rintro _ _ _ _ _ _ ⟨_, e9, _, _⟩; subst e9; (try dsimp only); (try k_fold))))
        (k_with "compareOp NotEq" => ((k_here; k_dflt (refine' dat_ne ?z9kN ?z9kA ?z9ksa ?z9kB ?z9ksb ?z9kok ?z9ku ?_; (case z9kA => assumption); (case z9kB => assumption); (case z9kN => k_asm); (case z9ksa => kcf_all); (case z9ksb => kcf_all); (case z9kok => assumption); (case z9ku => ktr_units); k_whole))))
        (k_with "compareOp Eq" => ((k_here; k_dflt (refine' dat_eq ?z9kN ?z9kA ?z9ksa ?z9kB ?z9ksb ?z9kok ?z9ku ?_; (case z9kA => assumption); (case z9kB => assumption); (case z9kN => k_asm); (case z9ksa => kcf_all); (case z9ksb => kcf_all); (case z9kok => assumption); (case z9ku => ktr_units); k_whole))))
        (k_with "call ref" => ((k_here; (with_reducible show wpAny _ _ (call (Value.ref 401) [_, Value.ref _]) _ _ _); k_dflt (refine' Ctr.use (ctr_movedN ?z9kt ?z9kT ?z9km) ?z9k1 ?z9k2 ?z9k3 ?z9k4 ?z9k5 ?z9k6 ?z9k7 ?z9k8 ?_; (case z9k1 => k_asm); (case z9k2 => k_asm); (case z9k3 => k_asm); (case z9k4 => k_asm); (case z9k5 => k_asm); (case z9k6 => first | exact rfl | assumption); (case z9k7 => ktr_room); (case z9k8 => ktr_units); (case z9km => assumption); (case z9kt => first | assumption | exact TgtIn.up (by assumption) (by kcf_all)); (case z9kT => exact TabIn.up (by assumption) (by kcf_all))); rintro _ _ _ _ _ _ ⟨e9, d9⟩; replace e9 := Eq.symm e9; subst e9; subst d9; (try dsimp only); (try k_fold))))
        (k_with "call ref" => ((k_here; (with_reducible show wpAny _ _ (call (Value.ref 401) [_, Value.ref _]) _ _ _); k_dflt (refine' Ctr.use (ctr_moved ?z9kt ?z9kT ?z9km) ?z9k1 ?z9k2 ?z9k3 ?z9k4 ?z9k5 ?z9k6 ?z9k7 ?z9k8 ?_; (case z9k1 => k_asm); (case z9k2 => k_asm); (case z9k3 => k_asm); (case z9k4 => k_asm); (case z9k5 => k_asm); (case z9k6 => first | exact rfl | assumption); (case z9k7 => ktr_room); (case z9k8 => ktr_units); (case z9km => assumption); (case z9kt => first | assumption | exact TgtIn.up (by assumption) (by kcf_all)); (case z9kT => exact TabIn.up (by assumption) (by kcf_all))); rintro _ _ _ _ _ _ ⟨_, e9, _⟩; subst e9; (try dsimp only); (try k_fold))))
        (k_with "call type:dict" => ((k_here; (with_reducible show wpAny _ _ (call (Value.type _) [Value.ref _]) _ _ _); k_dflt (refine' dict_new ?z9kh ?z9ku ?z9kF ?z9kN ?z9kb ?z9kl ?z9kM ?z9ks ?z9kn ?z9kx ?_; (case z9kh => rfl); (case z9ku => ktr_units); (case z9kF => k_asm); (case z9kN => k_asm); (case z9kb => exact TopRead.nolimit (by k_asm)); (case z9kl => k_mem); (case z9kM => assumption); (case z9ks => kcf_all); (case z9kn => assumption); (case z9kx => omega); k_whole); intro _ _ _ _ _ _ _ _)))
        (k_with "compareOp NotIn ref ref" => ((k_here; (with_reducible show wpAny _ _ (compareOp CmpOp.NotIn (Value.ref _) (Value.ref _)) _ _ _); k_dflt (refine' tab_notin ?z9k1 ?z9k2 ?z9k3 ?z9k4 ?_; (case z9k1 => k_asm); (case z9k2 => exact TabIn.up (by assumption) (by kcf_all)); (case z9k3 => k_mem); (case z9k4 => ktr_units); k_whole); intro _)))
        (k_with "compareOp In ref ref" => ((k_here; (with_reducible show wpAny _ _ (compareOp CmpOp.In (Value.ref _) (Value.ref _)) _ _ _); k_dflt (refine' tab_in ?z9k1 ?z9k2 ?z9k3 ?z9k4 ?_; (case z9k1 => k_asm); (case z9k2 => exact TabIn.up (by assumption) (by kcf_all)); (case z9k3 => k_mem); (case z9k4 => ktr_units); k_whole); intro _)))
        (k_with "subscriptTail" => ((k_here; (with_reducible show wpAny _ _ (subscriptTail _ _ (Value.ref _) (Value.ref _)) _ _ _); k_dflt (refine' tab_item ?z9k1 ?z9k2 ?z9k3 ?z9k4 ?z9k5 ?_ ?z9k6 ?z9k7; (case z9k1 => k_asm); (case z9k2 => exact TabIn.up (by assumption) (by kcf_all)); (case z9k3 => k_mem); (case z9k4 => ktr_units); (case z9k5 => assumption); (case z9k6 => with_unfolding_all rfl); (case z9k7 => (intro _; with_unfolding_all rfl)); k_whole); intro _ _ _ _ _ _)))
        (k_with "compareOp NotIn ref ref" => ((k_here; (with_reducible show wpAny _ _ (compareOp CmpOp.NotIn (Value.ref _) (Value.ref _)) _ _ _); first | (k_dflt (refine' tab_notin_none ?z9k0 ?z9k1 ?z9k2 ?z9k3 ?z9k4 ?_; (case z9k1 => k_asm); (case z9k2 => exact TabIn.up (by assumption) (by kcf_all)); (case z9k3 => k_mem); (case z9k0 => assumption); (case z9k4 => ktr_units); k_whole); intro tk9) | (k_dflt (refine' tab_notin_some ?z9k0 ?z9k1 ?z9k2 ?z9k3 ?z9k4 ?_; (case z9k1 => k_asm); (case z9k2 => exact TabIn.up (by assumption) (by kcf_all)); (case z9k3 => k_mem); (case z9k0 => assumption); (case z9k4 => ktr_units); k_whole); intro _))))
        (k_with "binaryOp Add ref ref" => (((with_reducible show wpAny _ _ (binaryOp _ (Value.ref _) (Value.ref _)) _ _ _); refine Stop.out ?_)))
        (k_with "call ref" => (((with_reducible show wpAny _ _ (call (Value.ref 265) _) _ _ _); refine Stop.out ?_)))
        k_steps
        unfold Stop
        k_dflt (refine' kmk_add_lit (zs := Value.ref _ :: Value.ref nm :: strip ys) ?F ?N ?a ?b ?e ?_ ?z; (case F => k_asm); (case N => k_asm); (case a => exact News.isList (by k_asm) (by k_mem)); (case b => exact News.isList (by k_asm) (by k_mem)); (case e => exact rfl); (case z => (rw [sizeLine_eq]; simp only [List.length_cons, List.length_nil]; omega)))
        intro D9' h9' F9' N9' l9'
        k_steps
        unfold Stop
        k_dflt (refine' Ctr.use (ctr_toldRow (vs := ys) (nm := nm) ?ka ?kb ?kc ?kp ?ki ?kn) ?k1 ?k2 ?k3 ?k4 ?k5 ?k6 ?k7 ?k8 ?_)
        case k1 => k_asm
        case k2 => k_asm
        case k3 => k_asm
        case k4 => k_asm
        case k5 => k_asm
        case k6 => exact rfl
        case k7 => ktr_room
        case k8 => ktr_units
        case ka => k_mem
        case kb => k_mem
        case kc => k_mem
        case kp => exact ItIn.ref (by kcf_m) (by kcf_m)
        case ki => exact ItAll.up (by assumption) (by kcf_all)
        case kn => assumption
        intro r9 n9 h9 tk9 F9 N9 q9
        obtain ⟨tl9, e9, o9, d9⟩ := q9
        subst e9
        k_with_none
        (k_with "G" => skip)
        (k_with "call type:list" => ((k_here; (with_reducible show wpAny _ _ (call (Value.type _) [Value.ref _]) _ _ _); k_dflt (refine' list_copyK ?z9k1 ?z9k2 ?z9k3 ?_ ?z9z; (case z9k1 => k_asm); (case z9k2 => k_asm); (case z9k3 => exact News.isList (by k_asm) (by k_mem)); (case z9z => (rw [sizeLine_eq]; simp only [List.size_toArray, List.length_cons]; omega)); k_whole); intro _ _ _ _ _ _)))
        (k_with "subscriptTail" => ((k_here; (with_reducible show wpAny _ _ (subscriptTail _ _ (Value.ref _) (Value.int _ _)) _ _ _); k_dflt (refine' item_at ?z9k1 ?z9k2 ?z9k3 ?z9k4 ?z9k5 ?_ ?z9k6 ?z9k7; (case z9k1 => k_asm); (case z9k2 => k_mem); (case z9k3 => decide); (case z9k4 => decide); (case z9k5 => exact rfl); (case z9k6 => with_unfolding_all rfl); (case z9k7 => (intro _; with_unfolding_all rfl)); k_whole))))
        (k_with "call builtin:len" => ((k_here; (with_reducible show wpAny _ _ (call (Value.builtin "len") [Value.ref _]) _ _ _); k_dflt (refine' len_at ?z9k1 ?z9k2 ?z9k3 ?z9k4 ?_; (case z9k1 => k_asm); (case z9k2 => k_mem); (case z9k3 => first | omega | (simp only [List.length_cons, List.length_append]; omega)); (case z9k4 => first | (simp only [List.length_cons, Int.natCast_add, Int.natCast_one]; exact rfl) | exact rfl); k_whole))))
        (k_with "subscriptTail Name Slice ref ref" => ((k_here; (with_reducible show wpAny _ _ (subscriptTail _ (PySem.Expr.Slice _ _ none _) (Value.ref _) (Value.ref _)) _ _ _); k_dflt (refine' kmk_slice_lit ?z9F ?z9N ?z9l ?z9p ?z9q ?z9e ?_ ?z9s ?z9t ?z9z; (case z9F => k_asm); (case z9N => k_asm); (case z9l => exact News.isList (by k_asm) (by k_mem)); (case z9p => kmk_part); (case z9q => kmk_part); (case z9e => first | exact pick2 | exact pick1); (case z9s => with_unfolding_all rfl); (case z9t => (intro _; with_unfolding_all rfl)); (case z9z => (rw [sizeLine_eq]; simp only [List.size_toArray, List.length_cons]; omega))); intro _ _ _ _ _)))
        (k_with "binaryOp Add ref ref" => ((k_here; (with_reducible show wpAny _ _ (binaryOp _ (Value.ref _) (Value.ref _)) _ _ _); (fail_if_success kde_tuple); k_dflt (refine' kmk_add_lit ?z9F ?z9N ?z9a ?z9b ?z9e ?_ ?z9z; (case z9F => k_asm); (case z9N => k_asm); (case z9a => exact News.isList (by k_asm) (by k_mem)); (case z9b => exact News.isList (by k_asm) (by k_mem)); (case z9e => exact rfl); (case z9z => (rw [sizeLine_eq]; simp only [List.length_cons, List.length_nil, List.length_replicate]; omega))); intro _ _ _ _ _)))
        (k_with "binaryOp Mult ref int" => ((k_here; (with_reducible show wpAny _ _ (binaryOp Operator.Mult (Value.ref _) (Value.int _ _)) _ _ _); k_dflt (refine' KMa.mul ?z9F ?z9N ?z9l ?z9lo ?z9hi ?z9z ?z9e ?_; (case z9F => k_asm); (case z9N => k_asm); (case z9l => exact News.isList (by k_asm) (by k_mem)); (case z9lo => omega); (case z9hi => omega); (case z9z => (simp only [List.length_cons, List.length_nil]; omega)); (case z9e => exact rep_one)); intro _ _ _ _ _)))
        (k_with "call ref" => ((k_here; (with_reducible show wpAny _ _ (call (Value.ref 427) [Value.none]) _ _ _); k_dflt (refine' Ctr.use (ctr_seenN) ?z9k1 ?z9k2 ?z9k3 ?z9k4 ?z9k5 ?z9k6 ?z9k7 ?z9k8 ?_; (case z9k1 => k_asm); (case z9k2 => k_asm); (case z9k3 => k_asm); (case z9k4 => k_asm); (case z9k5 => k_asm); (case z9k6 => first | exact rfl | assumption); (case z9k7 => ktr_room); (case z9k8 => ktr_units); skip); rintro _ _ _ _ _ _ ⟨e9, d9⟩; replace e9 := Eq.symm e9; subst e9; subst d9; (try dsimp only); (try k_fold))))
        (k_with "call ref" => ((k_here; (with_reducible show wpAny _ _ (call (Value.ref 427) [_]) _ _ _); k_dflt (refine' Ctr.use (ctr_seenP ?z9kt ?z9kn) ?z9k1 ?z9k2 ?z9k3 ?z9k4 ?z9k5 ?z9k6 ?z9k7 ?z9k8 ?_; (case z9k1 => k_asm); (case z9k2 => k_asm); (case z9k3 => k_asm); (case z9k4 => k_asm); (case z9k5 => k_asm); (case z9k6 => first | exact rfl | assumption); (case z9k7 => ktr_room); (case z9k8 => ktr_units); (case z9kt => first | assumption | exact TgtIn.up (by assumption) (by kcf_all)); (case z9kn => omega)); rintro _ _ _ _ _ _ ⟨_, e9, _, _⟩; subst e9; (try dsimp only); (try k_fold))))
        (k_with "call ref" => ((k_here; (with_reducible show wpAny _ _ (call (Value.ref 265) [_]) _ _ _); k_dflt (refine' Ctr.use (ctr_toldRow ?z9ka ?z9kb ?z9kc ?z9kp ?z9ki ?z9kn) ?z9k1 ?z9k2 ?z9k3 ?z9k4 ?z9k5 ?z9k6 ?z9k7 ?z9k8 ?_; (case z9k1 => k_asm); (case z9k2 => k_asm); (case z9k3 => k_asm); (case z9k4 => k_asm); (case z9k5 => k_asm); (case z9k6 => first | exact rfl | assumption); (case z9k7 => ktr_room); (case z9k8 => ktr_units); (case z9ka => k_mem); (case z9kb => k_mem); (case z9kc => k_mem); (case z9kp => exact ItIn.up (by assumption) (by kcf_all)); (case z9ki => exact ItAll.up (by assumption) (by kcf_all)); (case z9kn => omega)); rintro _ _ _ _ _ _ ⟨_, e9, _, _⟩; subst e9; (try dsimp only); (try k_fold))))
        (k_with "compareOp NotEq" => ((k_here; k_dflt (refine' dat_ne ?z9kN ?z9kA ?z9ksa ?z9kB ?z9ksb ?z9kok ?z9ku ?_; (case z9kA => assumption); (case z9kB => assumption); (case z9kN => k_asm); (case z9ksa => kcf_all); (case z9ksb => kcf_all); (case z9kok => assumption); (case z9ku => ktr_units); k_whole))))
        (k_with "compareOp Eq" => ((k_here; k_dflt (refine' dat_eq ?z9kN ?z9kA ?z9ksa ?z9kB ?z9ksb ?z9kok ?z9ku ?_; (case z9kA => assumption); (case z9kB => assumption); (case z9kN => k_asm); (case z9ksa => kcf_all); (case z9ksb => kcf_all); (case z9kok => assumption); (case z9ku => ktr_units); k_whole))))
        (k_with "call ref" => ((k_here; (with_reducible show wpAny _ _ (call (Value.ref 401) [_, Value.ref _]) _ _ _); k_dflt (refine' Ctr.use (ctr_movedN ?z9kt ?z9kT ?z9km) ?z9k1 ?z9k2 ?z9k3 ?z9k4 ?z9k5 ?z9k6 ?z9k7 ?z9k8 ?_; (case z9k1 => k_asm); (case z9k2 => k_asm); (case z9k3 => k_asm); (case z9k4 => k_asm); (case z9k5 => k_asm); (case z9k6 => first | exact rfl | assumption); (case z9k7 => ktr_room); (case z9k8 => ktr_units); (case z9km => assumption); (case z9kt => first | assumption | exact TgtIn.up (by assumption) (by kcf_all)); (case z9kT => exact TabIn.up (by assumption) (by kcf_all))); rintro _ _ _ _ _ _ ⟨e9, d9⟩; replace e9 := Eq.symm e9; subst e9; subst d9; (try dsimp only); (try k_fold))))
        (k_with "call ref" => ((k_here; (with_reducible show wpAny _ _ (call (Value.ref 401) [_, Value.ref _]) _ _ _); k_dflt (refine' Ctr.use (ctr_moved ?z9kt ?z9kT ?z9km) ?z9k1 ?z9k2 ?z9k3 ?z9k4 ?z9k5 ?z9k6 ?z9k7 ?z9k8 ?_; (case z9k1 => k_asm); (case z9k2 => k_asm); (case z9k3 => k_asm); (case z9k4 => k_asm); (case z9k5 => k_asm); (case z9k6 => first | exact rfl | assumption); (case z9k7 => ktr_room); (case z9k8 => ktr_units); (case z9km => assumption); (case z9kt => first | assumption | exact TgtIn.up (by assumption) (by kcf_all)); (case z9kT => exact TabIn.up (by assumption) (by kcf_all))); rintro _ _ _ _ _ _ ⟨_, e9, _⟩; subst e9; (try dsimp only); (try k_fold))))
        (k_with "call type:dict" => ((k_here; (with_reducible show wpAny _ _ (call (Value.type _) [Value.ref _]) _ _ _); k_dflt (refine' dict_new ?z9kh ?z9ku ?z9kF ?z9kN ?z9kb ?z9kl ?z9kM ?z9ks ?z9kn ?z9kx ?_; (case z9kh => rfl); (case z9ku => ktr_units); (case z9kF => k_asm); (case z9kN => k_asm); (case z9kb => exact TopRead.nolimit (by k_asm)); (case z9kl => k_mem); (case z9kM => assumption); (case z9ks => kcf_all); (case z9kn => assumption); (case z9kx => omega); k_whole); intro _ _ _ _ _ _ _ _)))
        (k_with "compareOp NotIn ref ref" => ((k_here; (with_reducible show wpAny _ _ (compareOp CmpOp.NotIn (Value.ref _) (Value.ref _)) _ _ _); k_dflt (refine' tab_notin ?z9k1 ?z9k2 ?z9k3 ?z9k4 ?_; (case z9k1 => k_asm); (case z9k2 => exact TabIn.up (by assumption) (by kcf_all)); (case z9k3 => k_mem); (case z9k4 => ktr_units); k_whole); intro _)))
        (k_with "compareOp In ref ref" => ((k_here; (with_reducible show wpAny _ _ (compareOp CmpOp.In (Value.ref _) (Value.ref _)) _ _ _); k_dflt (refine' tab_in ?z9k1 ?z9k2 ?z9k3 ?z9k4 ?_; (case z9k1 => k_asm); (case z9k2 => exact TabIn.up (by assumption) (by kcf_all)); (case z9k3 => k_mem); (case z9k4 => ktr_units); k_whole); intro _)))
        (k_with "subscriptTail" => ((k_here; (with_reducible show wpAny _ _ (subscriptTail _ _ (Value.ref _) (Value.ref _)) _ _ _); k_dflt (refine' tab_item ?z9k1 ?z9k2 ?z9k3 ?z9k4 ?z9k5 ?_ ?z9k6 ?z9k7; (case z9k1 => k_asm); (case z9k2 => exact TabIn.up (by assumption) (by kcf_all)); (case z9k3 => k_mem); (case z9k4 => ktr_units); (case z9k5 => assumption); (case z9k6 => with_unfolding_all rfl); (case z9k7 => (intro _; with_unfolding_all rfl)); k_whole); intro _ _ _ _ _ _)))
        (k_with "compareOp NotIn ref ref" => ((k_here; (with_reducible show wpAny _ _ (compareOp CmpOp.NotIn (Value.ref _) (Value.ref _)) _ _ _); first | (k_dflt (refine' tab_notin_none ?z9k0 ?z9k1 ?z9k2 ?z9k3 ?z9k4 ?_; (case z9k1 => k_asm); (case z9k2 => exact TabIn.up (by assumption) (by kcf_all)); (case z9k3 => k_mem); (case z9k0 => assumption); (case z9k4 => ktr_units); k_whole); intro tk9) | (k_dflt (refine' tab_notin_some ?z9k0 ?z9k1 ?z9k2 ?z9k3 ?z9k4 ?_; (case z9k1 => k_asm); (case z9k2 => exact TabIn.up (by assumption) (by kcf_all)); (case z9k3 => k_mem); (case z9k0 => assumption); (case z9k4 => ktr_units); k_whole); intro _))))
        k_steps
    · simp [movedIt] at ho
  | some p2 =>
    rw [ho] at hw hmt
    replace hw : TgtIn TL5 tv p2 y (its ++ List.replicate (most - ys.length).toNat It.none) := hw
    have hpk2 := moved_page hpk hmt
    have okp2 := page_ok hpk2 hvt hn
    have hw2 := hw
    cases hw2
    rcases hpk with ⟨k1, rfl⟩ | ⟨i1, hi1, rfl⟩
    · have hpi2 := hpi
      cases hpi2
      cases hl : T1.lookup k1 with
      | none => simp [movedIt, hl] at ho
      | some v1 =>
        replace hf : TgtIn TL5 fv (.ref v1) y (its ++ List.replicate (most - ys.length).toNat It.none) := by simpa [movedIt, hl, MovedAs] using hf
        have okf : kqdOk 9 (rowDat (.ref v1) y its) = true := page_ok (.inl ⟨_, rfl⟩) hvt hn
        have hf2 := hf
        cases hf2
        have hsl4 : (strip ys).length ≤ 4 := Nat.le_trans (strip_len ys) hys4
        k_with_none
        (k_with "G" => skip)
        (k_with "sum" => skip)
        (k_with "call type:list" => ((k_here; (with_reducible show wpAny _ _ (call (Value.type _) [Value.ref _]) _ _ _); k_dflt (refine' list_copyK ?z9k1 ?z9k2 ?z9k3 ?_ ?z9z; (case z9k1 => k_asm); (case z9k2 => k_asm); (case z9k3 => exact News.isList (by k_asm) (by k_mem)); (case z9z => (rw [sizeLine_eq]; simp only [List.size_toArray, List.length_cons]; omega)); k_whole); intro _ _ _ _ _ _)))
        (k_with "subscriptTail" => ((k_here; (with_reducible show wpAny _ _ (subscriptTail _ _ (Value.ref _) (Value.int _ _)) _ _ _); k_dflt (refine' item_at ?z9k1 ?z9k2 ?z9k3 ?z9k4 ?z9k5 ?_ ?z9k6 ?z9k7; (case z9k1 => k_asm); (case z9k2 => k_mem); (case z9k3 => decide); (case z9k4 => decide); (case z9k5 => exact rfl); (case z9k6 => with_unfolding_all rfl); (case z9k7 => (intro _; with_unfolding_all rfl)); k_whole))))
        (k_with "call builtin:len" => ((k_here; (with_reducible show wpAny _ _ (call (Value.builtin "len") [Value.ref _]) _ _ _); k_dflt (refine' len_at ?z9k1 ?z9k2 ?z9k3 ?z9k4 ?_; (case z9k1 => k_asm); (case z9k2 => k_mem); (case z9k3 => first | omega | (simp only [List.length_cons, List.length_append]; omega)); (case z9k4 => first | (simp only [List.length_cons, Int.natCast_add, Int.natCast_one]; exact rfl) | exact rfl); k_whole))))
        (k_with "subscriptTail Name Slice ref ref" => ((k_here; (with_reducible show wpAny _ _ (subscriptTail _ (PySem.Expr.Slice _ _ none _) (Value.ref _) (Value.ref _)) _ _ _); k_dflt (refine' kmk_slice_lit ?z9F ?z9N ?z9l ?z9p ?z9q ?z9e ?_ ?z9s ?z9t ?z9z; (case z9F => k_asm); (case z9N => k_asm); (case z9l => exact News.isList (by k_asm) (by k_mem)); (case z9p => kmk_part); (case z9q => kmk_part); (case z9e => first | exact pick2 | exact pick1); (case z9s => with_unfolding_all rfl); (case z9t => (intro _; with_unfolding_all rfl)); (case z9z => (rw [sizeLine_eq]; simp only [List.size_toArray, List.length_cons]; omega))); intro _ _ _ _ _)))
        (k_with "binaryOp Add ref ref" => ((k_here; (with_reducible show wpAny _ _ (binaryOp _ (Value.ref _) (Value.ref _)) _ _ _); (fail_if_success kde_tuple); k_dflt (refine' kmk_add_lit ?z9F ?z9N ?z9a ?z9b ?z9e ?_ ?z9z; (case z9F => k_asm); (case z9N => k_asm); (case z9a => exact News.isList (by k_asm) (by k_mem)); (case z9b => exact News.isList (by k_asm) (by k_mem)); (case z9e => exact rfl); (case z9z => (rw [sizeLine_eq]; simp only [List.length_cons, List.length_nil, List.length_replicate]; omega))); intro _ _ _ _ _)))
        (k_with "binaryOp Mult ref int" => ((k_here; (with_reducible show wpAny _ _ (binaryOp Operator.Mult (Value.ref _) (Value.int _ _)) _ _ _); k_dflt (refine' KMa.mul ?z9F ?z9N ?z9l ?z9lo ?z9hi ?z9z ?z9e ?_; (case z9F => k_asm); (case z9N => k_asm); (case z9l => exact News.isList (by k_asm) (by k_mem)); (case z9lo => omega); (case z9hi => omega); (case z9z => (simp only [List.length_cons, List.length_nil]; omega)); (case z9e => exact rep_one)); intro _ _ _ _ _)))
        (k_with "call ref" => ((k_here; (with_reducible show wpAny _ _ (call (Value.ref 427) [Value.none]) _ _ _); k_dflt (refine' Ctr.use (ctr_seenN) ?z9k1 ?z9k2 ?z9k3 ?z9k4 ?z9k5 ?z9k6 ?z9k7 ?z9k8 ?_; (case z9k1 => k_asm); (case z9k2 => k_asm); (case z9k3 => k_asm); (case z9k4 => k_asm); (case z9k5 => k_asm); (case z9k6 => first | exact rfl | assumption); (case z9k7 => ktr_room); (case z9k8 => ktr_units); skip); rintro _ _ _ _ _ _ ⟨e9, d9⟩; replace e9 := Eq.symm e9; subst e9; subst d9; (try dsimp only); (try k_fold))))
        (k_with "call ref" => ((k_here; (with_reducible show wpAny _ _ (call (Value.ref 427) [_]) _ _ _); k_dflt (refine' Ctr.use (ctr_seenP ?z9kt ?z9kn) ?z9k1 ?z9k2 ?z9k3 ?z9k4 ?z9k5 ?z9k6 ?z9k7 ?z9k8 ?_; (case z9k1 => k_asm); (case z9k2 => k_asm); (case z9k3 => k_asm); (case z9k4 => k_asm); (case z9k5 => k_asm); (case z9k6 => first | exact rfl | assumption); (case z9k7 => ktr_room); (case z9k8 => ktr_units); (case z9kt => first | assumption | exact TgtIn.up (by assumption) (by kcf_all)); (case z9kn => omega)); rintro _ _ _ _ _ _ ⟨_, e9, _, _⟩; subst e9; (try dsimp only); (try k_fold))))
        (k_with "call ref" => ((k_here; (with_reducible show wpAny _ _ (call (Value.ref 265) [_]) _ _ _); k_dflt (refine' Ctr.use (ctr_toldRow ?z9ka ?z9kb ?z9kc ?z9kp ?z9ki ?z9kn) ?z9k1 ?z9k2 ?z9k3 ?z9k4 ?z9k5 ?z9k6 ?z9k7 ?z9k8 ?_; (case z9k1 => k_asm); (case z9k2 => k_asm); (case z9k3 => k_asm); (case z9k4 => k_asm); (case z9k5 => k_asm); (case z9k6 => first | exact rfl | assumption); (case z9k7 => ktr_room); (case z9k8 => ktr_units); (case z9ka => k_mem); (case z9kb => k_mem); (case z9kc => k_mem); (case z9kp => exact ItIn.up (by assumption) (by kcf_all)); (case z9ki => exact ItAll.up (by assumption) (by kcf_all)); (case z9kn => omega)); rintro _ _ _ _ _ _ ⟨_, e9, _, _⟩; subst e9; (try dsimp only); (try k_fold))))
        (k_with "compareOp NotEq" => ((k_here; k_dflt (refine' dat_ne ?z9kN ?z9kA ?z9ksa ?z9kB ?z9ksb ?z9kok ?z9ku ?_; (case z9kA => assumption); (case z9kB => assumption); (case z9kN => k_asm); (case z9ksa => kcf_all); (case z9ksb => kcf_all); (case z9kok => assumption); (case z9ku => ktr_units); k_whole))))
        (k_with "compareOp Eq" => ((k_here; k_dflt (refine' dat_eq ?z9kN ?z9kA ?z9ksa ?z9kB ?z9ksb ?z9kok ?z9ku ?_; (case z9kA => assumption); (case z9kB => assumption); (case z9kN => k_asm); (case z9ksa => kcf_all); (case z9ksb => kcf_all); (case z9kok => assumption); (case z9ku => ktr_units); k_whole))))
        (k_with "call ref" => ((k_here; (with_reducible show wpAny _ _ (call (Value.ref 401) [_, Value.ref _]) _ _ _); k_dflt (refine' Ctr.use (ctr_movedN ?z9kt ?z9kT ?z9km) ?z9k1 ?z9k2 ?z9k3 ?z9k4 ?z9k5 ?z9k6 ?z9k7 ?z9k8 ?_; (case z9k1 => k_asm); (case z9k2 => k_asm); (case z9k3 => k_asm); (case z9k4 => k_asm); (case z9k5 => k_asm); (case z9k6 => first | exact rfl | assumption); (case z9k7 => ktr_room); (case z9k8 => ktr_units); (case z9km => assumption); (case z9kt => first | assumption | exact TgtIn.up (by assumption) (by kcf_all)); (case z9kT => exact TabIn.up (by assumption) (by kcf_all))); rintro _ _ _ _ _ _ ⟨e9, d9⟩; replace e9 := Eq.symm e9; subst e9; subst d9; (try dsimp only); (try k_fold))))
        (k_with "call ref" => ((k_here; (with_reducible show wpAny _ _ (call (Value.ref 401) [_, Value.ref _]) _ _ _); k_dflt (refine' Ctr.use (ctr_moved ?z9kt ?z9kT ?z9km) ?z9k1 ?z9k2 ?z9k3 ?z9k4 ?z9k5 ?z9k6 ?z9k7 ?z9k8 ?_; (case z9k1 => k_asm); (case z9k2 => k_asm); (case z9k3 => k_asm); (case z9k4 => k_asm); (case z9k5 => k_asm); (case z9k6 => first | exact rfl | assumption); (case z9k7 => ktr_room); (case z9k8 => ktr_units); (case z9km => assumption); (case z9kt => first | assumption | exact TgtIn.up (by assumption) (by kcf_all)); (case z9kT => exact TabIn.up (by assumption) (by kcf_all))); rintro _ _ _ _ _ _ ⟨_, e9, _⟩; subst e9; (try dsimp only); (try k_fold))))
        (k_with "call type:dict" => ((k_here; (with_reducible show wpAny _ _ (call (Value.type _) [Value.ref _]) _ _ _); k_dflt (refine' dict_new ?z9kh ?z9ku ?z9kF ?z9kN ?z9kb ?z9kl ?z9kM ?z9ks ?z9kn ?z9kx ?_; (case z9kh => rfl); (case z9ku => ktr_units); (case z9kF => k_asm); (case z9kN => k_asm); (case z9kb => exact TopRead.nolimit (by k_asm)); (case z9kl => k_mem); (case z9kM => assumption); (case z9ks => kcf_all); (case z9kn => assumption); (case z9kx => omega); k_whole); intro _ _ _ _ _ _ _ _)))
        (k_with "compareOp NotIn ref ref" => ((k_here; (with_reducible show wpAny _ _ (compareOp CmpOp.NotIn (Value.ref _) (Value.ref _)) _ _ _); k_dflt (refine' tab_notin ?z9k1 ?z9k2 ?z9k3 ?z9k4 ?_; (case z9k1 => k_asm); (case z9k2 => exact TabIn.up (by assumption) (by kcf_all)); (case z9k3 => k_mem); (case z9k4 => ktr_units); k_whole); intro _)))
        (k_with "compareOp In ref ref" => ((k_here; (with_reducible show wpAny _ _ (compareOp CmpOp.In (Value.ref _) (Value.ref _)) _ _ _); k_dflt (refine' tab_in ?z9k1 ?z9k2 ?z9k3 ?z9k4 ?_; (case z9k1 => k_asm); (case z9k2 => exact TabIn.up (by assumption) (by kcf_all)); (case z9k3 => k_mem); (case z9k4 => ktr_units); k_whole); intro _)))
        (k_with "subscriptTail" => ((k_here; (with_reducible show wpAny _ _ (subscriptTail _ _ (Value.ref _) (Value.ref _)) _ _ _); k_dflt (refine' tab_item ?z9k1 ?z9k2 ?z9k3 ?z9k4 ?z9k5 ?_ ?z9k6 ?z9k7; (case z9k1 => k_asm); (case z9k2 => exact TabIn.up (by assumption) (by kcf_all)); (case z9k3 => k_mem); (case z9k4 => ktr_units); (case z9k5 => assumption); (case z9k6 => with_unfolding_all rfl); (case z9k7 => (intro _; with_unfolding_all rfl)); k_whole); intro _ _ _ _ _ _)))
        (k_with "compareOp NotIn ref ref" => ((k_here; (with_reducible show wpAny _ _ (compareOp CmpOp.NotIn (Value.ref _) (Value.ref _)) _ _ _); first | (k_dflt (refine' tab_notin_none ?z9k0 ?z9k1 ?z9k2 ?z9k3 ?z9k4 ?_; (case z9k1 => k_asm); (case z9k2 => exact TabIn.up (by assumption) (by kcf_all)); (case z9k3 => k_mem); (case z9k0 => assumption); (case z9k4 => ktr_units); k_whole); intro tk9) | (k_dflt (refine' tab_notin_some ?z9k0 ?z9k1 ?z9k2 ?z9k3 ?z9k4 ?_; (case z9k1 => k_asm); (case z9k2 => exact TabIn.up (by assumption) (by kcf_all)); (case z9k3 => k_mem); (case z9k0 => assumption); (case z9k4 => ktr_units); k_whole); intro _))))
        (k_with "binaryOp Add ref ref" => (((with_reducible show wpAny _ _ (binaryOp _ (Value.ref _) (Value.ref _)) _ _ _); refine Stop.out ?_)))
        (k_with "call ref" => (((with_reducible show wpAny _ _ (call (Value.ref 265) _) _ _ _); refine Stop.out ?_)))
        k_steps
        unfold Stop
        k_dflt (refine' kmk_add_lit (zs := Value.ref _ :: Value.ref nm :: strip ys) ?Fb ?Nb ?ab ?bb ?eb ?_ ?zb; (case Fb => k_asm); (case Nb => k_asm); (case ab => exact News.isList (by k_asm) (by k_mem)); (case bb => exact News.isList (by k_asm) (by k_mem)); (case eb => exact rfl); (case zb => (rw [sizeLine_eq]; simp only [List.length_cons, List.length_nil]; omega)))
        intro D9' h9' F9' N9' l9'
        k_steps
        unfold Stop
        k_dflt (refine' Ctr.use (ctr_toldRow (vs := ys) (nm := nm) ?kab ?kbb ?kcb ?kpb ?kib ?knb) ?k1b ?k2b ?k3b ?k4b ?k5b ?k6b ?k7b ?k8b ?_)
        case k1b => k_asm
        case k2b => k_asm
        case k3b => k_asm
        case k4b => k_asm
        case k5b => k_asm
        case k6b => exact rfl
        case k7b => ktr_room
        case k8b => ktr_units
        case kab => k_mem
        case kbb => k_mem
        case kcb => k_mem
        case kpb => exact ItIn.ref (by kcf_m) (by kcf_m)
        case kib => exact ItAll.up (by assumption) (by kcf_all)
        case knb => assumption
        intro r9 n9 h9 tk9 F9 N9 q9
        obtain ⟨tl9, e9, o9, d9⟩ := q9
        subst e9
        k_with_none
        (k_with "G" => skip)
        (k_with "call type:list" => ((k_here; (with_reducible show wpAny _ _ (call (Value.type _) [Value.ref _]) _ _ _); k_dflt (refine' list_copyK ?z9k1 ?z9k2 ?z9k3 ?_ ?z9z; (case z9k1 => k_asm); (case z9k2 => k_asm); (case z9k3 => exact News.isList (by k_asm) (by k_mem)); (case z9z => (rw [sizeLine_eq]; simp only [List.size_toArray, List.length_cons]; omega)); k_whole); intro _ _ _ _ _ _)))
        (k_with "subscriptTail" => ((k_here; (with_reducible show wpAny _ _ (subscriptTail _ _ (Value.ref _) (Value.int _ _)) _ _ _); k_dflt (refine' item_at ?z9k1 ?z9k2 ?z9k3 ?z9k4 ?z9k5 ?_ ?z9k6 ?z9k7; (case z9k1 => k_asm); (case z9k2 => k_mem); (case z9k3 => decide); (case z9k4 => decide); (case z9k5 => exact rfl); (case z9k6 => with_unfolding_all rfl); (case z9k7 => (intro _; with_unfolding_all rfl)); k_whole))))
        (k_with "call builtin:len" => ((k_here; (with_reducible show wpAny _ _ (call (Value.builtin "len") [Value.ref _]) _ _ _); k_dflt (refine' len_at ?z9k1 ?z9k2 ?z9k3 ?z9k4 ?_; (case z9k1 => k_asm); (case z9k2 => k_mem); (case z9k3 => first | omega | (simp only [List.length_cons, List.length_append]; omega)); (case z9k4 => first | (simp only [List.length_cons, Int.natCast_add, Int.natCast_one]; exact rfl) | exact rfl); k_whole))))
        (k_with "subscriptTail Name Slice ref ref" => ((k_here; (with_reducible show wpAny _ _ (subscriptTail _ (PySem.Expr.Slice _ _ none _) (Value.ref _) (Value.ref _)) _ _ _); k_dflt (refine' kmk_slice_lit ?z9F ?z9N ?z9l ?z9p ?z9q ?z9e ?_ ?z9s ?z9t ?z9z; (case z9F => k_asm); (case z9N => k_asm); (case z9l => exact News.isList (by k_asm) (by k_mem)); (case z9p => kmk_part); (case z9q => kmk_part); (case z9e => first | exact pick2 | exact pick1); (case z9s => with_unfolding_all rfl); (case z9t => (intro _; with_unfolding_all rfl)); (case z9z => (rw [sizeLine_eq]; simp only [List.size_toArray, List.length_cons]; omega))); intro _ _ _ _ _)))
        (k_with "binaryOp Add ref ref" => ((k_here; (with_reducible show wpAny _ _ (binaryOp _ (Value.ref _) (Value.ref _)) _ _ _); (fail_if_success kde_tuple); k_dflt (refine' kmk_add_lit ?z9F ?z9N ?z9a ?z9b ?z9e ?_ ?z9z; (case z9F => k_asm); (case z9N => k_asm); (case z9a => exact News.isList (by k_asm) (by k_mem)); (case z9b => exact News.isList (by k_asm) (by k_mem)); (case z9e => exact rfl); (case z9z => (rw [sizeLine_eq]; simp only [List.length_cons, List.length_nil, List.length_replicate]; omega))); intro _ _ _ _ _)))
        (k_with "binaryOp Mult ref int" => ((k_here; (with_reducible show wpAny _ _ (binaryOp Operator.Mult (Value.ref _) (Value.int _ _)) _ _ _); k_dflt (refine' KMa.mul ?z9F ?z9N ?z9l ?z9lo ?z9hi ?z9z ?z9e ?_; (case z9F => k_asm); (case z9N => k_asm); (case z9l => exact News.isList (by k_asm) (by k_mem)); (case z9lo => omega); (case z9hi => omega); (case z9z => (simp only [List.length_cons, List.length_nil]; omega)); (case z9e => exact rep_one)); intro _ _ _ _ _)))
        (k_with "call ref" => ((k_here; (with_reducible show wpAny _ _ (call (Value.ref 427) [Value.none]) _ _ _); k_dflt (refine' Ctr.use (ctr_seenN) ?z9k1 ?z9k2 ?z9k3 ?z9k4 ?z9k5 ?z9k6 ?z9k7 ?z9k8 ?_; (case z9k1 => k_asm); (case z9k2 => k_asm); (case z9k3 => k_asm); (case z9k4 => k_asm); (case z9k5 => k_asm); (case z9k6 => first | exact rfl | assumption); (case z9k7 => ktr_room); (case z9k8 => ktr_units); skip); rintro _ _ _ _ _ _ ⟨e9, d9⟩; replace e9 := Eq.symm e9; subst e9; subst d9; (try dsimp only); (try k_fold))))
        (k_with "call ref" => ((k_here; (with_reducible show wpAny _ _ (call (Value.ref 427) [_]) _ _ _); k_dflt (refine' Ctr.use (ctr_seenP ?z9kt ?z9kn) ?z9k1 ?z9k2 ?z9k3 ?z9k4 ?z9k5 ?z9k6 ?z9k7 ?z9k8 ?_; (case z9k1 => k_asm); (case z9k2 => k_asm); (case z9k3 => k_asm); (case z9k4 => k_asm); (case z9k5 => k_asm); (case z9k6 => first | exact rfl | assumption); (case z9k7 => ktr_room); (case z9k8 => ktr_units); (case z9kt => first | assumption | exact TgtIn.up (by assumption) (by kcf_all)); (case z9kn => omega)); rintro _ _ _ _ _ _ ⟨_, e9, _, _⟩; subst e9; (try dsimp only); (try k_fold))))
        (k_with "call ref" => ((k_here; (with_reducible show wpAny _ _ (call (Value.ref 265) [_]) _ _ _); k_dflt (refine' Ctr.use (ctr_toldRow ?z9ka ?z9kb ?z9kc ?z9kp ?z9ki ?z9kn) ?z9k1 ?z9k2 ?z9k3 ?z9k4 ?z9k5 ?z9k6 ?z9k7 ?z9k8 ?_; (case z9k1 => k_asm); (case z9k2 => k_asm); (case z9k3 => k_asm); (case z9k4 => k_asm); (case z9k5 => k_asm); (case z9k6 => first | exact rfl | assumption); (case z9k7 => ktr_room); (case z9k8 => ktr_units); (case z9ka => k_mem); (case z9kb => k_mem); (case z9kc => k_mem); (case z9kp => exact ItIn.up (by assumption) (by kcf_all)); (case z9ki => exact ItAll.up (by assumption) (by kcf_all)); (case z9kn => omega)); rintro _ _ _ _ _ _ ⟨_, e9, _, _⟩; subst e9; (try dsimp only); (try k_fold))))
        (k_with "compareOp NotEq" => ((k_here; k_dflt (refine' dat_ne ?z9kN ?z9kA ?z9ksa ?z9kB ?z9ksb ?z9kok ?z9ku ?_; (case z9kA => assumption); (case z9kB => assumption); (case z9kN => k_asm); (case z9ksa => kcf_all); (case z9ksb => kcf_all); (case z9kok => assumption); (case z9ku => ktr_units); k_whole))))
        (k_with "compareOp Eq" => ((k_here; k_dflt (refine' dat_eq ?z9kN ?z9kA ?z9ksa ?z9kB ?z9ksb ?z9kok ?z9ku ?_; (case z9kA => assumption); (case z9kB => assumption); (case z9kN => k_asm); (case z9ksa => kcf_all); (case z9ksb => kcf_all); (case z9kok => assumption); (case z9ku => ktr_units); k_whole))))
        (k_with "call ref" => ((k_here; (with_reducible show wpAny _ _ (call (Value.ref 401) [_, Value.ref _]) _ _ _); k_dflt (refine' Ctr.use (ctr_movedN ?z9kt ?z9kT ?z9km) ?z9k1 ?z9k2 ?z9k3 ?z9k4 ?z9k5 ?z9k6 ?z9k7 ?z9k8 ?_; (case z9k1 => k_asm); (case z9k2 => k_asm); (case z9k3 => k_asm); (case z9k4 => k_asm); (case z9k5 => k_asm); (case z9k6 => first | exact rfl | assumption); (case z9k7 => ktr_room); (case z9k8 => ktr_units); (case z9km => assumption); (case z9kt => first | assumption | exact TgtIn.up (by assumption) (by kcf_all)); (case z9kT => exact TabIn.up (by assumption) (by kcf_all))); rintro _ _ _ _ _ _ ⟨e9, d9⟩; replace e9 := Eq.symm e9; subst e9; subst d9; (try dsimp only); (try k_fold))))
        (k_with "call ref" => ((k_here; (with_reducible show wpAny _ _ (call (Value.ref 401) [_, Value.ref _]) _ _ _); k_dflt (refine' Ctr.use (ctr_moved ?z9kt ?z9kT ?z9km) ?z9k1 ?z9k2 ?z9k3 ?z9k4 ?z9k5 ?z9k6 ?z9k7 ?z9k8 ?_; (case z9k1 => k_asm); (case z9k2 => k_asm); (case z9k3 => k_asm); (case z9k4 => k_asm); (case z9k5 => k_asm); (case z9k6 => first | exact rfl | assumption); (case z9k7 => ktr_room); (case z9k8 => ktr_units); (case z9km => assumption); (case z9kt => first | assumption | exact TgtIn.up (by assumption) (by kcf_all)); (case z9kT => exact TabIn.up (by assumption) (by kcf_all))); rintro _ _ _ _ _ _ ⟨_, e9, _⟩; subst e9; (try dsimp only); (try k_fold))))
        (k_with "call type:dict" => ((k_here; (with_reducible show wpAny _ _ (call (Value.type _) [Value.ref _]) _ _ _); k_dflt (refine' dict_new ?z9kh ?z9ku ?z9kF ?z9kN ?z9kb ?z9kl ?z9kM ?z9ks ?z9kn ?z9kx ?_; (case z9kh => rfl); (case z9ku => ktr_units); (case z9kF => k_asm); (case z9kN => k_asm); (case z9kb => exact TopRead.nolimit (by k_asm)); (case z9kl => k_mem); (case z9kM => assumption); (case z9ks => kcf_all); (case z9kn => assumption); (case z9kx => omega); k_whole); intro _ _ _ _ _ _ _ _)))
        (k_with "compareOp NotIn ref ref" => ((k_here; (with_reducible show wpAny _ _ (compareOp CmpOp.NotIn (Value.ref _) (Value.ref _)) _ _ _); k_dflt (refine' tab_notin ?z9k1 ?z9k2 ?z9k3 ?z9k4 ?_; (case z9k1 => k_asm); (case z9k2 => exact TabIn.up (by assumption) (by kcf_all)); (case z9k3 => k_mem); (case z9k4 => ktr_units); k_whole); intro _)))
        (k_with "compareOp In ref ref" => ((k_here; (with_reducible show wpAny _ _ (compareOp CmpOp.In (Value.ref _) (Value.ref _)) _ _ _); k_dflt (refine' tab_in ?z9k1 ?z9k2 ?z9k3 ?z9k4 ?_; (case z9k1 => k_asm); (case z9k2 => exact TabIn.up (by assumption) (by kcf_all)); (case z9k3 => k_mem); (case z9k4 => ktr_units); k_whole); intro _)))
        (k_with "subscriptTail" => ((k_here; (with_reducible show wpAny _ _ (subscriptTail _ _ (Value.ref _) (Value.ref _)) _ _ _); k_dflt (refine' tab_item ?z9k1 ?z9k2 ?z9k3 ?z9k4 ?z9k5 ?_ ?z9k6 ?z9k7; (case z9k1 => k_asm); (case z9k2 => exact TabIn.up (by assumption) (by kcf_all)); (case z9k3 => k_mem); (case z9k4 => ktr_units); (case z9k5 => assumption); (case z9k6 => with_unfolding_all rfl); (case z9k7 => (intro _; with_unfolding_all rfl)); k_whole); intro _ _ _ _ _ _)))
        (k_with "compareOp NotIn ref ref" => ((k_here; (with_reducible show wpAny _ _ (compareOp CmpOp.NotIn (Value.ref _) (Value.ref _)) _ _ _); first | (k_dflt (refine' tab_notin_none ?z9k0 ?z9k1 ?z9k2 ?z9k3 ?z9k4 ?_; (case z9k1 => k_asm); (case z9k2 => exact TabIn.up (by assumption) (by kcf_all)); (case z9k3 => k_mem); (case z9k0 => assumption); (case z9k4 => ktr_units); k_whole); intro tk9) | (k_dflt (refine' tab_notin_some ?z9k0 ?z9k1 ?z9k2 ?z9k3 ?z9k4 ?_; (case z9k1 => k_asm); (case z9k2 => exact TabIn.up (by assumption) (by kcf_all)); (case z9k3 => k_mem); (case z9k0 => assumption); (case z9k4 => ktr_units); k_whole); intro _))))
        k_steps
    · have hpi2 := hpi
      cases hpi2
      replace hf : TgtIn TL5 fv (.int i1) y (its ++ List.replicate (most - ys.length).toNat It.none) := hf
      have hf2 := hf
      cases hf2
      k_steps
theorem law_holds : hw.1 := st1.2 ⟨st1_P⟩
end
section
theorem hd.tw10012880186880212623 : True := trivial
theorem hd.tw10024716035694756283 : True := trivial
theorem hd.tw10062127864464572529 : True := trivial
theorem hd.tw10111801491309104144 : True := trivial
theorem hd.tw1013155817946168525 : True := trivial
theorem hd.tw10170382586518783626 : True := trivial
theorem hd.tw1017178242468488239 : True := trivial
theorem hd.tw10246146449241189800 : True := trivial
theorem hd.tw10258999931320997221 : True := trivial
theorem hd.tw10403243965636340961 : True := trivial
theorem hd.tw10416423209093676788 : True := trivial
theorem hd.tw10424393626065333798 : True := trivial
theorem hd.tw10458740792067480800 : True := trivial
theorem hd.tw10525666975642140466 : True := trivial
theorem hd.tw10601615944963115059 : True := trivial
theorem hd.tw10614716105012338702 : True := trivial
theorem hd.tw10678649693572172417 : True := trivial
theorem hd.tw10727248033764811480 : True := trivial
theorem hd.tw10743916045514856203 : True := trivial
theorem hd.tw10752148897807903841 : True := trivial
theorem hd.tw10772546034069785438 : True := trivial
theorem hd.tw10784824025267889561 : True := trivial
theorem hd.tw10792051664901133789 : True := trivial
theorem hd.tw10879034167726328663 : True := trivial
theorem hd.tw10949625832625181284 : True := trivial
theorem hd.tw1097998534492414930 : True := trivial
theorem hd.tw11032806212648032379 : True := trivial
theorem hd.tw11054480109507316185 : True := trivial
theorem hd.tw11117797201346649052 : True := trivial
theorem hd.tw11128854368766332075 : True := trivial
theorem hd.tw11136197038861592535 : True := trivial
theorem hd.tw11151547217846952531 : True := trivial
theorem hd.tw11162318198679636149 : True := trivial
theorem hd.tw11210553801493137410 : True := trivial
theorem hd.tw11213053971927718326 : True := trivial
theorem hd.tw11232374478483605306 : True := trivial
theorem hd.tw11251137523995926341 : True := trivial
theorem hd.tw11319097763535126812 : True := trivial
theorem hd.tw11319892378374348655 : True := trivial
theorem hd.tw11389486352061984695 : True := trivial
theorem hd.tw11402939732021071671 : True := trivial
theorem hd.tw11465210709893060100 : True := trivial
theorem hd.tw11513968764499736323 : True := trivial
theorem hd.tw11631869004601391166 : True := trivial
theorem hd.tw11631947586910100387 : True := trivial
theorem hd.tw11652457597714270106 : True := trivial
theorem hd.tw11660266114150955751 : True := trivial
theorem hd.tw11709330566771433103 : True := trivial
theorem hd.tw11754176132448286083 : True := trivial
theorem hd.tw11893437276241958245 : True := trivial
theorem hd.tw11917015161858427179 : True := trivial
theorem hd.tw11953376511379268794 : True := trivial
theorem hd.tw11955717195305443320 : True := trivial
theorem hd.tw1197925565968671727 : True := trivial
theorem hd.tw12023040214023829324 : True := trivial
theorem hd.tw12050417470231563642 : True := trivial
theorem hd.tw12070051907170230399 : True := trivial
theorem hd.tw12092154237167983948 : True := trivial
theorem hd.tw12113243949977362033 : True := trivial
theorem hd.tw12133045374167112435 : True := trivial
theorem hd.tw1222794163293265305 : True := trivial
theorem hd.tw12271959270614036898 : True := trivial
theorem hd.tw1241404454085649124 : True := trivial
theorem hd.tw12487502673411948298 : True := trivial
theorem hd.tw12535540000046325670 : True := trivial
theorem hd.tw12588582704262371052 : True := trivial
theorem hd.tw12614811148066621264 : True := trivial
theorem hd.tw12629568148972539762 : True := trivial
theorem hd.tw12631932088317031055 : True := trivial
theorem hd.tw12788953048727824401 : True := trivial
theorem hd.tw12901994302517312135 : True := trivial
theorem hd.tw12936449754285732098 : True := trivial
theorem hd.tw12949589719889679912 : True := trivial
theorem hd.tw13047593935725612058 : True := trivial
theorem hd.tw13181700845877081190 : True := trivial
theorem hd.tw13225837485096350037 : True := trivial
theorem hd.tw13267510147771200024 : True := trivial
theorem hd.tw13277076834127875243 : True := trivial
theorem hd.tw13315533130655954831 : True := trivial
theorem hd.tw13321331477185743149 : True := trivial
theorem hd.tw13353348626548451038 : True := trivial
theorem hd.tw13368278939475635651 : True := trivial
theorem hd.tw13372043803930879067 : True := trivial
theorem hd.tw13409441903868389331 : True := trivial
theorem hd.tw13431754692932380062 : True := trivial
theorem hd.tw13483081372092288885 : True := trivial
theorem hd.tw13518370688599389936 : True := trivial
theorem hd.tw1359830224848277088 : True := trivial
theorem hd.tw13638418597567726942 : True := trivial
theorem hd.tw13770079208771991547 : True := trivial
theorem hd.tw13783031573616600631 : True := trivial
theorem hd.tw13790719812936386609 : True := trivial
theorem hd.tw13828106393651249627 : True := trivial
theorem hd.tw1382963296337349011 : True := trivial
theorem hd.tw13855881374063213867 : True := trivial
theorem hd.tw13855946660403688772 : True := trivial
theorem hd.tw13866372431405929976 : True := trivial
theorem hd.tw13903934854276604550 : True := trivial
theorem hd.tw1413172679324656950 : True := trivial
theorem hd.tw14168552714766633299 : True := trivial
theorem hd.tw14176624398918483544 : True := trivial
theorem hd.tw14246236162039180721 : True := trivial
theorem hd.tw14294001040229213422 : True := trivial
theorem hd.tw14353793391729792155 : True := trivial
theorem hd.tw1439246655266547700 : True := trivial
theorem hd.tw14400467628812073631 : True := trivial
theorem hd.tw14457593812595234344 : True := trivial
theorem hd.tw14560493823538711346 : True := trivial
theorem hd.tw14705683404202351889 : True := trivial
theorem hd.tw14727110085682223627 : True := trivial
theorem hd.tw14892549342360969540 : True := trivial
theorem hd.tw14980023328507725902 : True := trivial
theorem hd.tw15042006015671813226 : True := trivial
theorem hd.tw15043168886218598503 : True := trivial
theorem hd.tw15083628210047938546 : True := trivial
theorem hd.tw15103106377680225435 : True := trivial
theorem hd.tw15166520500009309586 : True := trivial
theorem hd.tw15220180469806662145 : True := trivial
theorem hd.tw15238134620097496406 : True := trivial
theorem hd.tw15344866539931968096 : True := trivial
theorem hd.tw15367242080415987702 : True := trivial
theorem hd.tw15411387601460861337 : True := trivial
theorem hd.tw15416985209724490359 : True := trivial
theorem hd.tw15422856539912107476 : True := trivial
theorem hd.tw15508949281206285077 : True := trivial
theorem hd.tw15527848837575444561 : True := trivial
theorem hd.tw15529170255622000948 : True := trivial
theorem hd.tw15615420239508185596 : True := trivial
theorem hd.tw15615537253650120727 : True := trivial
theorem hd.tw15642763164714097627 : True := trivial
theorem hd.tw15643275761693703936 : True := trivial
theorem hd.tw15683763237869141255 : True := trivial
theorem hd.tw15759970867653108152 : True := trivial
theorem hd.tw15790720579355451973 : True := trivial
theorem hd.tw1580110805410547442 : True := trivial
theorem hd.tw15833661619300960221 : True := trivial
theorem hd.tw15852365999677673905 : True := trivial
theorem hd.tw15910714762333108613 : True := trivial
theorem hd.tw15967140613478806237 : True := trivial
theorem hd.tw1600037746751723098 : True := trivial
theorem hd.tw16011055738799735888 : True := trivial
theorem hd.tw16029623286316568529 : True := trivial
theorem hd.tw16037735763661986305 : True := trivial
theorem hd.tw16056359734778111409 : True := trivial
theorem hd.tw16064382804478563927 : True := trivial
theorem hd.tw16091413853298234908 : True := trivial
theorem hd.tw16154546982801380032 : True := trivial
theorem hd.tw16155205043701107222 : True := trivial
theorem hd.tw16157073509204512506 : True := trivial
theorem hd.tw16171809288044610508 : True := trivial
theorem hd.tw16194383521188589630 : True := trivial
theorem hd.tw16211521421427940678 : True := trivial
theorem hd.tw16259696140248634718 : True := trivial
theorem hd.tw162610821266807592 : True := trivial
theorem hd.tw16299908979028503884 : True := trivial
theorem hd.tw16302227732802510677 : True := trivial
theorem hd.tw16432713993328977331 : True := trivial
theorem hd.tw16473244170626142550 : True := trivial
theorem hd.tw16477043939570097188 : True := trivial
theorem hd.tw16634568088961857937 : True := trivial
theorem hd.tw16640546478005224243 : True := trivial
theorem hd.tw16649331688326792143 : True := trivial
theorem hd.tw16713699803418581334 : True := trivial
theorem hd.tw16722109127936396110 : True := trivial
theorem hd.tw16828841361933241965 : True := trivial
theorem hd.tw16853341256802265648 : True := trivial
theorem hd.tw16868993833207775613 : True := trivial
theorem hd.tw16904818350239718627 : True := trivial
theorem hd.tw16920754564084929960 : True := trivial
theorem hd.tw16945582573551092051 : True := trivial
theorem hd.tw16970440968685349367 : True := trivial
theorem hd.tw17001982702790524580 : True := trivial
theorem hd.tw17047115858639842297 : True := trivial
theorem hd.tw17054507655720011243 : True := trivial
theorem hd.tw17062030032774818151 : True := trivial
theorem hd.tw17087091549796120035 : True := trivial
theorem hd.tw17177331786930743035 : True := trivial
theorem hd.tw17183224562656869120 : True := trivial
theorem hd.tw17252143746492648416 : True := trivial
theorem hd.tw17258206423299326598 : True := trivial
theorem hd.tw17330945745186091897 : True := trivial
theorem hd.tw17387473266821786944 : True := trivial
theorem hd.tw17447410573909459338 : True := trivial
theorem hd.tw17542962492245011380 : True := trivial
theorem hd.tw17588044629489971554 : True := trivial
theorem hd.tw17599816209265215132 : True := trivial
theorem hd.tw1760603350576429475 : True := trivial
theorem hd.tw17672654358674132775 : True := trivial
theorem hd.tw17673860158736603733 : True := trivial
theorem hd.tw17711083657039698284 : True := trivial
theorem hd.tw17714235663813219645 : True := trivial
theorem hd.tw17739348878880393726 : True := trivial
theorem hd.tw17901334829092211166 : True := trivial
theorem hd.tw17903497710992402801 : True := trivial
theorem hd.tw17948085552500728524 : True := trivial
theorem hd.tw17950676927832955104 : True := trivial
theorem hd.tw17975533764899295144 : True := trivial
theorem hd.tw17986969038992634876 : True := trivial
theorem hd.tw1800889605409440832 : True := trivial
theorem hd.tw18103342009636024947 : True := trivial
theorem hd.tw18185175575083235020 : True := trivial
theorem hd.tw18219297243305740317 : True := trivial
theorem hd.tw18219598855577627918 : True := trivial
theorem hd.tw18241275227582772068 : True := trivial
theorem hd.tw18245042118932799458 : True := trivial
theorem hd.tw18291419657060728153 : True := trivial
theorem hd.tw18293732401869909652 : True := trivial
theorem hd.tw18293851220164018083 : True := trivial
theorem hd.tw18300207936620678264 : True := trivial
theorem hd.tw18343703819029505601 : True := trivial
theorem hd.tw1836080755315867724 : True := trivial
theorem hd.tw1847840615245081061 : True := trivial
theorem hd.tw1848646778235469078 : True := trivial
theorem hd.tw1865391376527767206 : True := trivial
theorem hd.tw1882180444382439491 : True := trivial
theorem hd.tw189712035060473897 : True := trivial
theorem hd.tw190519026028168232 : True := trivial
theorem hd.tw1997569388931296116 : True := trivial
theorem hd.tw2068664650715991707 : True := trivial
theorem hd.tw2101469004524951375 : True := trivial
theorem hd.tw2114630138375439770 : True := trivial
theorem hd.tw212345690472687942 : True := trivial
theorem hd.tw2167537188350426706 : True := trivial
theorem hd.tw2195365466389143174 : True := trivial
theorem hd.tw2216850387143573719 : True := trivial
theorem hd.tw226724450230711188 : True := trivial
theorem hd.tw2323474266016966308 : True := trivial
theorem hd.tw2327210489368252092 : True := trivial
theorem hd.tw2329189449893159454 : True := trivial
theorem hd.tw2386827423013361158 : True := trivial
theorem hd.tw2391449824757734642 : True := trivial
theorem hd.tw2442259710966052079 : True := trivial
theorem hd.tw2603259988358896889 : True := trivial
theorem hd.tw26425463804135960 : True := trivial
theorem hd.tw2708950531961675432 : True := trivial
theorem hd.tw2845679848157327705 : True := trivial
theorem hd.tw2867327485932766208 : True := trivial
theorem hd.tw2887051446865420828 : True := trivial
theorem hd.tw2999033326186475339 : True := trivial
theorem hd.tw3008623586974134963 : True := trivial
theorem hd.tw307737655149646647 : True := trivial
theorem hd.tw3085183777334472315 : True := trivial
theorem hd.tw3109861748172591687 : True := trivial
theorem hd.tw3182187488490625086 : True := trivial
theorem hd.tw3219085151875037572 : True := trivial
theorem hd.tw3229955645248102723 : True := trivial
theorem hd.tw3309697970292668127 : True := trivial
theorem hd.tw3381375190539634487 : True := trivial
theorem hd.tw3429492842335990350 : True := trivial
theorem hd.tw3442329435671937591 : True := trivial
theorem hd.tw3443669649825651883 : True := trivial
theorem hd.tw3451239065008710300 : True := trivial
theorem hd.tw3480954088277226078 : True := trivial
theorem hd.tw3493717111155160527 : True := trivial
theorem hd.tw3646829019195819677 : True := trivial
theorem hd.tw3673089383077640791 : True := trivial
theorem hd.tw3759623122121258479 : True := trivial
theorem hd.tw3789350110615891812 : True := trivial
theorem hd.tw3795277891434052102 : True := trivial
theorem hd.tw381697539089829889 : True := trivial
theorem hd.tw3915529967508079626 : True := trivial
theorem hd.tw3919010098100093602 : True := trivial
theorem hd.tw4014540891139286612 : True := trivial
theorem hd.tw4015398097383911347 : True := trivial
theorem hd.tw402640490398009360 : True := trivial
theorem hd.tw4065347644161347641 : True := trivial
theorem hd.tw4086058157674990017 : True := trivial
theorem hd.tw4115565904173853331 : True := trivial
theorem hd.tw4172343393113369950 : True := trivial
theorem hd.tw4225703048834024713 : True := trivial
theorem hd.tw4272726840584523970 : True := trivial
theorem hd.tw4297731678662094536 : True := trivial
theorem hd.tw4315991029959535628 : True := trivial
theorem hd.tw432457690288141553 : True := trivial
theorem hd.tw4360684699965382250 : True := trivial
theorem hd.tw4377701919642642989 : True := trivial
theorem hd.tw4402725079659364252 : True := trivial
theorem hd.tw4478166936697009375 : True := trivial
theorem hd.tw4478964076566166474 : True := trivial
theorem hd.tw4494801613693538912 : True := trivial
theorem hd.tw4551110910371200005 : True := trivial
theorem hd.tw461538923250603899 : True := trivial
theorem hd.tw4702841417184801058 : True := trivial
theorem hd.tw4706079058837389440 : True := trivial
theorem hd.tw4856431653887292112 : True := trivial
theorem hd.tw4870687313549177768 : True := trivial
theorem hd.tw49274679934790565 : True := trivial
theorem hd.tw4971549296188076032 : True := trivial
theorem hd.tw5036846961687405229 : True := trivial
theorem hd.tw5130813555471234732 : True := trivial
theorem hd.tw5148922909946612681 : True := trivial
theorem hd.tw5190246844813560578 : True := trivial
theorem hd.tw519851828213033955 : True := trivial
theorem hd.tw5278057926702712004 : True := trivial
theorem hd.tw5292301768408028288 : True := trivial
theorem hd.tw5343241284826551009 : True := trivial
theorem hd.tw5363564295841288755 : True := trivial
theorem hd.tw5366084841770067474 : True := trivial
theorem hd.tw5373601922739893978 : True := trivial
theorem hd.tw541196102884509978 : True := trivial
theorem hd.tw5416991563250132298 : True := trivial
theorem hd.tw5511420028821071320 : True := trivial
theorem hd.tw5567388512258382067 : True := trivial
theorem hd.tw5608270528595127837 : True := trivial
theorem hd.tw563299553206310118 : True := trivial
theorem hd.tw5635641802508607975 : True := trivial
theorem hd.tw5716766192118558609 : True := trivial
theorem hd.tw5732804406350252772 : True := trivial
theorem hd.tw5902613922787404954 : True := trivial
theorem hd.tw5961118342813265553 : True := trivial
theorem hd.tw5978321128707920903 : True := trivial
theorem hd.tw5987830557187376847 : True := trivial
theorem hd.tw6019021122589006684 : True := trivial
theorem hd.tw6038821095411175016 : True := trivial
theorem hd.tw6060742912462422084 : True := trivial
theorem hd.tw6082411064634330575 : True := trivial
theorem hd.tw6123773746684550334 : True := trivial
theorem hd.tw6164396464334811476 : True := trivial
theorem hd.tw6184460063843016694 : True := trivial
theorem hd.tw6196171512934965099 : True := trivial
theorem hd.tw6276725880618359904 : True := trivial
theorem hd.tw6291416237084387574 : True := trivial
theorem hd.tw6293948785866598258 : True := trivial
theorem hd.tw6407587892757256292 : True := trivial
theorem hd.tw6411954120941647267 : True := trivial
theorem hd.tw6438293893037913957 : True := trivial
theorem hd.tw6442067068224118133 : True := trivial
theorem hd.tw6528754448969337418 : True := trivial
theorem hd.tw6545403380812914513 : True := trivial
theorem hd.tw6555240042291301478 : True := trivial
theorem hd.tw6767318904944593275 : True := trivial
theorem hd.tw6785817131721698500 : True := trivial
theorem hd.tw6830512106363814048 : True := trivial
theorem hd.tw6838551448383532254 : True := trivial
theorem hd.tw6868836192036940282 : True := trivial
theorem hd.tw6924109203229866365 : True := trivial
theorem hd.tw6931407450589930559 : True := trivial
theorem hd.tw6982297934935202809 : True := trivial
theorem hd.tw6990203504111849199 : True := trivial
theorem hd.tw6998783941825042932 : True := trivial
theorem hd.tw701787995468756871 : True := trivial
theorem hd.tw7023726343779634624 : True := trivial
theorem hd.tw7028611270464810887 : True := trivial
theorem hd.tw7068711184596962023 : True := trivial
theorem hd.tw7082855905992002993 : True := trivial
theorem hd.tw7085514621470718492 : True := trivial
theorem hd.tw7120233287515763914 : True := trivial
theorem hd.tw7270182246851987180 : True := trivial
theorem hd.tw7296583596125217682 : True := trivial
theorem hd.tw7355570028127101125 : True := trivial
theorem hd.tw7366208706002141716 : True := trivial
theorem hd.tw7381943409999981444 : True := trivial
theorem hd.tw7494724483528729301 : True := trivial
theorem hd.tw7510230149288206974 : True := trivial
theorem hd.tw7512474625130614241 : True := trivial
theorem hd.tw7519716089354478335 : True := trivial
theorem hd.tw7540655947842036084 : True := trivial
theorem hd.tw7625327780235807044 : True := trivial
theorem hd.tw7746578258024575070 : True := trivial
theorem hd.tw7752767780024739350 : True := trivial
theorem hd.tw7763873220885509757 : True := trivial
theorem hd.tw7891253978561527248 : True := trivial
theorem hd.tw7914949630228597729 : True := trivial
theorem hd.tw8025032847418708242 : True := trivial
theorem hd.tw8047900516022102942 : True := trivial
theorem hd.tw8068729725432388964 : True := trivial
theorem hd.tw8117029840178788049 : True := trivial
theorem hd.tw8117722118643159343 : True := trivial
theorem hd.tw8134915037123179040 : True := trivial
theorem hd.tw8189064311535668238 : True := trivial
theorem hd.tw8228950375871286339 : True := trivial
theorem hd.tw8268277133935991078 : True := trivial
theorem hd.tw8356816923877370021 : True := trivial
theorem hd.tw8428860471423672150 : True := trivial
theorem hd.tw8457440626546761165 : True := trivial
theorem hd.tw8458067239894703972 : True := trivial
theorem hd.tw8545014587354053640 : True := trivial
theorem hd.tw8716120427605611371 : True := trivial
theorem hd.tw8727321023445011275 : True := trivial
theorem hd.tw8735263284916673568 : True := trivial
theorem hd.tw8789358453043137523 : True := trivial
theorem hd.tw8959176491354863721 : True := trivial
theorem hd.tw8960069828448710407 : True := trivial
theorem hd.tw8977307856219701671 : True := trivial
theorem hd.tw8990313861142287110 : True := trivial
theorem hd.tw9128771937076168289 : True := trivial
theorem hd.tw9161709004213602331 : True := trivial
theorem hd.tw9170477692918782315 : True := trivial
theorem hd.tw9210833815706959935 : True := trivial
theorem hd.tw922143313871775805 : True := trivial
theorem hd.tw9277588360372424766 : True := trivial
theorem hd.tw9345676750909349944 : True := trivial
theorem hd.tw9345929723534960622 : True := trivial
theorem hd.tw9386895884608548742 : True := trivial
theorem hd.tw9421340871869096474 : True := trivial
theorem hd.tw9430268157657104642 : True := trivial
theorem hd.tw9499510787657705874 : True := trivial
theorem hd.tw9557236495431379559 : True := trivial
theorem hd.tw9566141503761928105 : True := trivial
theorem hd.tw9641152695372364146 : True := trivial
theorem hd.tw9657781627882305391 : True := trivial
theorem hd.tw9719896912496429819 : True := trivial
theorem hd.tw9741134391959003819 : True := trivial
theorem hd.tw9748044761591592747 : True := trivial
theorem hd.tw9763420282994701918 : True := trivial
theorem hd.tw9783614193127449063 : True := trivial
theorem hd.tw978945382295711627 : True := trivial
theorem hd.tw991583007596301734 : True := trivial
theorem hd.tw9960721518486171458 : True := trivial
local macro_rules
  | `(tactic| refine $f:ident (q := $q) (loose := $l) (Xt := $x) (XP := $xp) (Yf := $yf) (Ya := $ya) (YP := $yp) (N := $n) $a:term $b*) =>
    `(tactic| (refine' $f (q := $q) (loose := $l) (Xt := $x) (XP := $xp) (Yf := $yf) (Ya := $ya) (YP := $yp) (N := $n) $a $b*; (case' hc => exact ‹hw.1›)))
set_option Elab.async true in
theorem hd (_ : hw.1) : PySem.Challenge.rw_og0168_01.Holds := by
  k_with_none
  (w_on; o_law; k_head; (case hw => w_witness2))
end
end Mine
theorem PySem.Challenge.cw_og0168_01_holds : PySem.Challenge.rw_og0168_01.Holds := by
  exact Mine.hd Mine.law_holds
