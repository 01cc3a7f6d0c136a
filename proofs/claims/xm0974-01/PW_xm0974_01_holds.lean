import PyProof.Rows.All
import Wide.All
import OpenK.AllK
import Wide.FinOn
import Lean
import PySem.Challenge.RW_xm0974_01
open PySem PySem.W PyProof.Rows
set_option Elab.async false
set_option linter.unusedVariables false
set_option compiler.extract_closed false
namespace Mine
set_option maxRecDepth 100000 in
set_option maxHeartbeats 8000000 in
open_top hd for PySem.Challenge.rw_xm0974_01
set_option maxRecDepth 100000
set_option maxHeartbeats 8000000
theorem offB0 : True := by
  w_top off
  trivial
section
abbrev lstO (vs : List Value) (n : Nat) : Obj := { cls := .type "list", data := .seq vs.toArray n }
/-- what is left of a ledger without one address -/
inductive Rest (l : Addr) : List (Addr × Obj) → List (Addr × Obj) → Prop
  | nil : Rest l [] []
  | here {o r r'} : Rest l r r' → Rest l ((l, o) :: r) r'
  | keep {p r r'} : p.1 ≠ l → Rest l r r' → Rest l (p :: r) (p :: r')
  | tail {r} : (∀ q ∈ r, q.1 ≠ l) → Rest l r r
theorem Rest.mem {l : Addr} : ∀ {a r : List (Addr × Obj)}, Rest l a r → ∀ q ∈ r, q ∈ a ∧ q.1 ≠ l
  | _, _, .nil, _, h => nomatch h
  | _, _, .here k, q, h => ⟨.tail _ (k.mem q h).1, (k.mem q h).2⟩
  | _, _, .keep e k, q, h => by
    rcases List.mem_cons.mp h with rfl | h
    · exact ⟨.head _, e⟩
    · exact ⟨.tail _ (k.mem q h).1, (k.mem q h).2⟩
  | _, _, .tail e, q, h => ⟨h, e q h⟩
theorem Rest.news {l L : Addr} {h₀ h : Heap} {a r : List (Addr × Obj)} {o : Obj} (R : Rest l a r) (N : News h₀ L h a) (hm : (l, o) ∈ a) : News h₀ L h ((l, o) :: r) := fun q hq => by
  rcases List.mem_cons.mp hq with rfl | hq
  · exact N _ hm
  · exact N _ (R.mem q hq).1
theorem newsDup {L : Addr} {h₀ h : Heap} {x y : Addr × Obj} {r : List (Addr × Obj)} (N : News h₀ L h (x :: r)) (hy : y ∈ r) : News h₀ L h (x :: y :: r) := fun q hq => by
  rcases List.mem_cons.mp hq with rfl | hq
  · exact N _ (.head _)
  · rcases List.mem_cons.mp hq with rfl | hq
    · exact N _ (.tail _ hy)
    · exact N _ (.tail _ hq)
theorem newsDup1 {L : Addr} {h₀ h : Heap} {x y : Addr × Obj} {r : List (Addr × Obj)} (N : News h₀ L h (x :: y :: r)) : News h₀ L h (x :: r) := fun q hq => by
  rcases List.mem_cons.mp hq with rfl | hq
  · exact N _ (.head _)
  · exact N _ (.tail _ (.tail _ hq))
theorem mulOk {a b : Int} (h : b.natAbs < 2 ^ 64) : IntMulOk a b := .of_right (intBits_le_iff.mpr h)
theorem natAbs_fmod (a : Int) {n : Int} (h : 0 < n) (h2 : n < 2 ^ 64) : (Int.fmod a n).natAbs < 2 ^ 64 := by
  have := fmod_lo a h
  have := fmod_hi a h
  omega
end
local macro_rules | `(tactic| k_all) => `(tactic| assumption)
local macro_rules | `(tactic| walk_at "MINE rest") => `(tactic| first | exact Rest.nil | ((refine' Rest.tail ?z); (case z => assumption)) | ((refine' Rest.here ?z); (case z => walk_at "MINE rest")) | ((refine' Rest.keep ?y ?z); (case y => first | assumption | k_ne); (case z => walk_at "MINE rest")))
theorem offC1 : True := by
  w_top off
  trivial
section
theorem take_spec {w : World} {p : Program} {loose : List Str} {mean : ExcName → Option Value} {mg mb : Str → Option Value}
   {dp un : Nat} {gd : Option (List Code)} {cn : Str} {cs : Scope} {a : Addr} {ccd : Value} {cl : List (Str × Addr)} {outer : List Env} {A₀ : Around} {base h₀ : Heap} {L : Addr} {m : Str → Option Value} {s : Shared} {Q E : Value → Shared → Prop}
   {all news : List (Addr × Obj)} {l : Addr} {x y top : Int} {tx ty tt : Tok} {n : Nat}
   (B : Below A₀ base outer h₀) (F : Fr h₀ L s.heap m) (X : (hd.heap_39 w.params).In h₀) (N₀ : News h₀ L s.heap all) (T : Top p loose mean mg mb h₀) (hk : cs.kind = .function)
   (hm : (l, lstO [.int x tx, .int y ty] n) ∈ all) (hr : Rest l all news) (hx : 0 ≤ x) (hy : 0 ≤ y) (hy2 : y < 2147483647) (ht : 0 < top) (ht2 : top ≤ 256)
   (hd : dp + 1 < recursionLimit)
   (hret : ∀ (x' y' r : Int) (tx' ty' tr : Tok) (h' : Heap) (tk' : Nat), 0 ≤ x' → 0 ≤ y' → y' < 2147483647 → 0 ≤ r → r < top → Fr h₀ L h' m → News h₀ L h' ((l, lstO [.int x' tx', .int y' ty'] n) :: news) →
      Q (.int r tr) { s with heap := h', toks := tk' }) :
   wpAny (model PySem.Challenge.rw_xm0974_01.row.prog w) (ktrTop dp un gd cn cs L a ccd cl outer) (call (.ref 126) [.ref l, .int top tt]) Q E s := by
  have N := hr.news N₀ hm
  have hne : ∀ q ∈ news, q.1 ≠ l := fun q hq => (hr.mem q hq).2
  clear N₀ hm hr
  revert X; k_fill; intro X
  refine wpAny_call ?_
  k_dflt ktr_enter
  k_steps
  · skip
    exact hret _ _ _ _ _ _ _ _ (Int.fdiv_nonneg hx (Int.le_of_lt ht)) hy hy2 (fmod_lo _ ht) (fmod_hi _ ht) (by assumption) (by assumption)
  · refine mul_int ?_ (mulOk ?_)
    · k_steps
      exact hret _ _ _ _ _ _ _ _ hx (fmod_lo _ (by decide)) (fmod_hi _ (by decide)) (fmod_lo _ ht) (fmod_hi _ ht) (by assumption) (by assumption)
    · exact natAbs_fmod _ (by decide) (by decide)
end
local macro_rules | `(tactic| walk_at "call ref") => `(tactic| (k_here; (with_reducible show wpAny _ _ (call (Value.ref 126) _) _ _ _); k_dflt (refine' take_spec ?k1 ?k2 ?k3 ?k4 ?k5 ?kK ?km ?kr ?b1 ?b2 ?b3 ?b4 ?b5 ?kd ?_; (case k1 => k_asm); (case k2 => k_asm); (case k3 => k_asm); (case k4 => k_asm); (case k5 => k_asm); (case kK => first | exact rfl | assumption); (case km => k_mem); (case kr => walk_at "MINE rest"); (case b1 => assumption); (case b2 => assumption); (case b3 => assumption); (case b4 => first | decide | omega); (case b5 => first | decide | omega); (case kd => ktr_room)); intro x9 y9 r9 tx9 ty9 tr9 h9 tk9 b1' b2' b3' b4' b5' F9 N9; (try dsimp only); (try k_fold)))
theorem offC2 : True := by
  w_top off
  trivial
section
theorem getD_in {ns : List Int} {r : Int} (h0 : 0 ≤ r) (h : r < (ns.length : Int)) (hv : ∀ z ∈ ns, 0 ≤ z ∧ z < 256) : 0 ≤ ns.getD r.toNat 0 ∧ ns.getD r.toNat 0 < 256 := by
  have hl : r.toNat < ns.length := by omega
  have e : ns.getD r.toNat 0 = ns[r.toNat] := by simp [List.getD, hl]
  rw [e]
  exact hv _ (List.getElem_mem hl)
theorem one_spec {w : World} {p : Program} {loose : List Str} {mean : ExcName → Option Value} {mg mb : Str → Option Value}
   {dp un : Nat} {gd : Option (List Code)} {cn : Str} {cs : Scope} {a : Addr} {ccd : Value} {cl : List (Str × Addr)} {outer : List Env} {A₀ : Around} {base h₀ : Heap} {L : Addr} {m : Str → Option Value} {s : Shared} {Q E : Value → Shared → Prop}
   {all news : List (Addr × Obj)} {l q : Addr} {x y v0 v1 v2 v3 v4 : Int} {tx ty t0 t1 t2 t3 t4 : Tok} {n k : Nat}
   (B : Below A₀ base outer h₀) (F : Fr h₀ L s.heap m) (X : (hd.heap_39 w.params).In h₀) (N₀ : News h₀ L s.heap all) (T : Top p loose mean mg mb h₀) (hk : cs.kind = .function)
   (hm : (l, lstO [.int x tx, .int y ty] n) ∈ all) (hr : Rest l all news) (hx : 0 ≤ x) (hy : 0 ≤ y) (hy2 : y < 2147483647)
   (hq : (q, lstO [.int v0 t0, .int v1 t1, .int v2 t2, .int v3 t3, .int v4 t4] k) ∈ news) (hv : ∀ z ∈ [v0, v1, v2, v3, v4], 0 ≤ z ∧ z < 256)
   (hd : dp + 2 < recursionLimit)
   (hret : ∀ (x' y' r : Int) (tx' ty' tr : Tok) (h' : Heap) (tk' : Nat), 0 ≤ x' → 0 ≤ y' → y' < 2147483647 → 0 ≤ r → r < 256 → Fr h₀ L h' m → News h₀ L h' ((l, lstO [.int x' tx', .int y' ty'] n) :: news) →
      Q (.int r tr) { s with heap := h', toks := tk' }) :
   wpAny (model PySem.Challenge.rw_xm0974_01.row.prog w) (ktrTop dp un gd cn cs L a ccd cl outer) (call (.ref 133) [.ref l, .ref q]) Q E s := by
  have N := newsDup (hr.news N₀ hm) hq
  have hne : ∀ q ∈ news, q.1 ≠ l := fun q hq => (hr.mem q hq).2
  have hql : @Ne Nat q l := (hr.mem _ hq).2
  clear N₀ hm hr
  revert X; k_fill; intro X
  refine wpAny_call ?_
  k_dflt ktr_enter
  k_steps
  refine hret _ _ _ _ _ _ _ _ ?_ ?_ ?_ ?_ ?_ (by assumption) (newsDup1 (by assumption))
  · assumption
  · assumption
  · assumption
  · exact (getD_in (by assumption) (by assumption) hv).1
  · exact (getD_in (by assumption) (by assumption) hv).2
end
theorem offC3 : True := by
  w_top off
  trivial
section
theorem pool_spec {w : World} {p : Program} {loose : List Str} {mean : ExcName → Option Value} {mg mb : Str → Option Value}
   {dp un : Nat} {gd : Option (List Code)} {cn : Str} {cs : Scope} {a : Addr} {ccd : Value} {cl : List (Str × Addr)} {outer : List Env} {A₀ : Around} {base h₀ : Heap} {L : Addr} {m : Str → Option Value} {s : Shared} {Q E : Value → Shared → Prop}
   {news : List (Addr × Obj)} {l : Addr} {vs : List Value} {ns : List Int}
   (B : Below A₀ base outer h₀) (F : Fr h₀ L s.heap m) (X : (hd.heap_39 w.params).In h₀) (N : News h₀ L s.heap news) (T : Top p loose mean mg mb h₀) (hk : cs.kind = .function)
   (hl : base.IsList l vs.toArray) (hi : IntsAre vs ns) (hlen : ns.length < 2 ^ 62)
   (hd : dp + 1 < recursionLimit)
   (hret : ∀ (x' y' : Int) (tx' ty' : Tok) (n : Nat) (q : Addr) (h' : Heap) (tk' : Nat), 0 ≤ x' → 0 ≤ y' → y' < 2147483647 → (∀ p ∈ news, p.1 < q) → Fr h₀ L h' m → News h₀ L h' ((q, lstO [.int x' tx', .int y' ty'] n) :: news) →
      Q (.ref q) { s with heap := h', toks := tk' }) :
   wpAny (model PySem.Challenge.rw_xm0974_01.row.prog w) (ktrTop dp un gd cn cs L a ccd cl outer) (call (.ref 119) [.ref l]) Q E s := by
  revert X; k_fill; intro X
  refine wpAny_call ?_
  k_dflt cell_enter
  k_steps
  all_goals (refine hret _ _ _ _ _ _ _ _ ?_ ?_ ?_ (by assumption) (by assumption) (by assumption))
  all_goals first | exact fmod_lo _ (by decide) | exact fmod_hi _ (by decide) | assumption | exact Int.le_refl _ | omega
end
theorem offP1 : True := by
  w_top off
  trivial
section
/-- the worth of octets, the highest first -/
def worth (ns : List Int) : Int := ns.foldl (fun a d => a * 256 + d) 0
def worthR (rs : List Int) : Int := rs.foldr (fun d r => d + 256 * r) 0
theorem worthR_cons (d : Int) (r : List Int) : worthR (d :: r) = d + 256 * worthR r := rfl
theorem worth_rev (ns : List Int) : worth ns = worthR ns.reverse := by
  unfold worth
  rw [List.foldl_eq_foldr_reverse]
  generalize ns.reverse = rs
  induction rs with
  | nil => rfl
  | cons d r ih => rw [List.foldr_cons, ih, worthR_cons]; omega
theorem worthR_sum : ∀ rs : List Int, ((List.range rs.length).map fun i => rs.getD i 0 * 256 ^ i).sum = worthR rs
  | [] => rfl
  | d :: r => by
    rw [List.length_cons, List.range_succ_eq_map, List.map_cons, List.sum_cons, List.map_map, worthR_cons, ← worthR_sum r]
    have e : ∀ l : List Nat, (l.map ((fun i => (d :: r).getD i 0 * (256 : Int) ^ i) ∘ Nat.succ)).sum = 256 * (l.map fun i => r.getD i 0 * (256 : Int) ^ i).sum := by
      intro l
      induction l with
      | nil => rfl
      | cons x l ih =>
        rw [List.map_cons, List.map_cons, List.sum_cons, List.sum_cons, ih, Int.mul_add]
        simp only [Function.comp, List.getD_cons_succ, Int.pow_succ]
        rw [← Int.mul_assoc, Int.mul_comm _ (256 : Int)]
    rw [e]
    simp
theorem worth_sum (ns : List Int) : (List.map (fun k' => ns.getD (-1 - k' + (ns.length : Int)).toNat 0 * 256 ^ k'.toNat) (rangeKs 0 ((ns.length : Int) - 0).toNat)).sum = worth ns := by
  rw [worth_rev, ← worthR_sum]
  unfold rangeKs
  rw [List.map_map, List.length_reverse]
  have hn : ((ns.length : Int) - 0).toNat = ns.length := by omega
  rw [hn]
  congr 1
  apply List.map_congr_left
  intro i hi
  have hi := List.mem_range.mp hi
  simp only [Function.comp]
  have e1 : (0 + (i : Int)).toNat = i := by omega
  have e2 : (-1 - (0 + (i : Int)) + (ns.length : Int)).toNat = ns.length - 1 - i := by omega
  rw [e1, e2]
  congr 1
  rw [List.getD_eq_getElem?_getD, List.getD_eq_getElem?_getD, List.getElem?_reverse hi]
end
theorem offC4 : True := by
  w_top off
  trivial
section
theorem getD_bits {ns : List Int} {j : Nat} (hv : ∀ z ∈ ns, 0 ≤ z ∧ z < 256) : Builtin.Int.intBits (ns.getD j 0) ≤ 64 := by
  refine intBits_le_iff.mpr ?_
  by_cases hl : j < ns.length
  · have e : ns.getD j 0 = ns[j] := by simp [List.getD, hl]
    rw [e]
    have := hv _ (List.getElem_mem hl)
    omega
  · have e : ns.getD j 0 = 0 := by simp [List.getD, Nat.not_lt.mp hl]
    rw [e]
    decide
theorem ret_int {Q : Value → Shared → Prop} {x y : Int} {t : Tok} {s : Shared} (e : x = y) (h : Q (.int y t) s) : Q (.int x t) s := e ▸ h
theorem newsTail3 {L : Addr} {h₀ h : Heap} {x y z : Addr × Obj} {r : List (Addr × Obj)} (N : News h₀ L h (x :: y :: z :: r)) : News h₀ L h r := fun q hq => N q (.tail _ (.tail _ (.tail _ hq)))
local macro_rules | `(tactic| walk_at "binaryOp Mult int int") => `(tactic| (k_here; refine mul_int ?_ (.of_left (getD_bits (by assumption)))))
theorem worth_spec {w : World} {p : Program} {loose : List Str} {mean : ExcName → Option Value} {mg mb : Str → Option Value}
   {dp un : Nat} {gd : Option (List Code)} {cn : Str} {cs : Scope} {a : Addr} {ccd : Value} {cl : List (Str × Addr)} {outer : List Env} {A₀ : Around} {base h₀ : Heap} {L : Addr} {m : Str → Option Value} {s : Shared} {Q E : Value → Shared → Prop}
   {all : List (Addr × Obj)} {l : Addr} {vs : List Value} {ns : List Int} {n : Nat}
   (B : Below A₀ base outer h₀) (F : Fr h₀ L s.heap m) (X : (hd.heap_39 w.params).In h₀) (N₀ : News h₀ L s.heap all) (T : Top p loose mean mg mb h₀) (hk : cs.kind = .function)
   (hm : (l, lstO vs n) ∈ all) (hi : IntsAre vs ns) (hlen : ns.length ≤ 16) (hv : ∀ z ∈ ns, 0 ≤ z ∧ z < 256)
   (hd : dp + 1 < recursionLimit)
   (hret : ∀ (t : Tok) (h' : Heap) (tk' : Nat), Fr h₀ L h' m → News h₀ L h' all →
      Q (.int (worth ns) t) { s with heap := h', toks := tk' }) :
   wpAny (model PySem.Challenge.rw_xm0974_01.row.prog w) (ktrTop dp un gd cn cs L a ccd cl outer) (call (.ref 138) [.ref l]) Q E s := by
  have N : News h₀ L s.heap ((l, lstO vs n) :: all) := fun q hq => (List.mem_cons.mp hq).elim (fun e => e ▸ N₀ _ hm) (N₀ q)
  clear N₀ hm
  revert X; k_fill; intro X
  refine wpAny_call ?_
  k_dflt ((refine' code_defC ?k1 ?k2 ?k3 ?k4 ?k5 ?kA ?kF ?kK ?k6 ?k7 ?k8 ?k9 ?kB ?kD ?_ ?c2 ?c3 ?c4; (case kA => exact rfl); (case kF => exact rfl); (case kK => first | assumption | exact rfl); (case k1 => k_asm); (case k2 => k_asm); (case k3 => k_asm); (case k4 => k_asm); (case k5 => k_asm); (case k6 => k_is); (case k7 => k_is); (case k8 => ktr_room); (case k9 => exact BindsTo.of_eq rfl); (case kB => exact rfl); (case kD => decide +kernel); (case c2 => exact rfl); (case c3 => exact rfl); (case c4 => exact rfl); k_whole; intro g' L' h' tk' cells' FG' F' N' Y' B' X' T' l1; (try k_lt l1); k_cells Y'; (try simp only [List.cons_append, List.nil_append] at N'); (try dsimp only); (try k_lift B'); (try k_fold)))
  k_steps
  refine ret_int (worth_sum ns) (hret _ _ _ (by assumption) (newsTail3 (by assumption)))
end
theorem offB1 : True := by
  w_top off
  trivial
section
section
open PySem.Spec PySem.Calls
variable {prog : Program} {w : World} {A : Around} {E : Value → Shared → Prop} {s : Shared} {h₀ : Heap} {L : Addr} {m : Str → Option Value} {env : Env}
/-- a downward range as the source of a block -/
def SrcD (prog : Program) (w : World) (A : Around) (h₀ : Heap) (L : Addr) (m : Str → Option Value) (env : Env) (elt : Expr) (x : Str) (scope : Scope) (cl : List (Str × Addr)) (Fin : Shared → List Value → List (Addr × Obj) → Prop) (xv : Value) (s₁ : Shared) : Prop :=
  ∃ r a b t u v n news, xv = .ref r ∧ A.handled = none ∧ Fr h₀ L s₁.heap m ∧ News h₀ L s₁.heap news ∧ IsRange s₁.heap r a b (-1) t u v ∧ Builtin.Range.small a b (-1) = true ∧ Builtin.Range.rangeSize a b (-1) = ((n : Nat) : Int) ∧ n ≤ sizeLine ∧
    ∀ s₂ : Shared, (∃ h, s₂ = { s₁ with heap := h }) → LCg.CompRest prog w A h₀ L m env elt x scope cl s₂ (fun _ => True) (fun i v => ∃ t, v = .int (a + (i : Int) * (-1)) t) (Fin s₂) n 0 [] news
theorem SrcD.intro {elt : Expr} {x : Str} {scope : Scope} {cl : List (Str × Addr)} {Fin : Shared → List Value → List (Addr × Obj) → Prop} {r : Addr} {a b : Int} {t u v : Tok} {n : Nat} {news : List (Addr × Obj)} {s₁ : Shared}
    (hh : A.handled = none) (F : Fr h₀ L s₁.heap m) (N : News h₀ L s₁.heap news) (hr : IsRange s₁.heap r a b (-1) t u v) (hsm : Builtin.Range.small a b (-1) = true) (hn : Builtin.Range.rangeSize a b (-1) = ((n : Nat) : Int)) (hsz : n ≤ sizeLine)
    (h : ∀ g, LCg.CompRest prog w A h₀ L m env elt x scope cl { s₁ with heap := g } (fun _ => True) (fun i v => ∃ t, v = .int (a + (i : Int) * (-1)) t) (Fin { s₁ with heap := g }) n 0 [] news) :
    SrcD prog w A h₀ L m env elt x scope cl Fin (.ref r) s₁ := ⟨r, a, b, t, u, v, n, news, rfl, hh, F, N, hr, hsm, hn, hsz, fun _ ⟨g, e⟩ => e ▸ h g⟩
theorem rangeD_walks {I : Addr} (hh : A.handled = none) (a c : Int) (n : Nat) : Walks prog w A I [I] [I] n (fun i v => ∃ t, v = .int (a + (i : Int) * c) t) (fun i h => IsRangeIter h I (a + (i : Nat) * c) ((n : Int) - (i : Nat)) c) := Walks.range hh I a c n
theorem rangeD_st {I : Addr} {a c : Int} {n : Nat} : ∀ i (h h' : Heap) (o : Obj) (nw : List (Addr × Obj)), IsRangeIter h I (a + (i : Nat) * c) ((n : Int) - (i : Nat)) c → h.get? I = some o → h'.get? I = some o → (∀ b o, h₀.get? b = some o → h'.get? b = some o) → News h₀ L h' nw → True → IsRangeIter h' I (a + (i : Nat) * c) ((n : Int) - (i : Nat)) c :=
  fun i h h' o nw st e e' _ _ _ => by
    have st' : h.get? I = some _ := st
    show h'.get? I = some _
    rw [e', ← e]; exact st'
theorem ListComp_D {elt iter : Expr} {x : Str} {px : Pos} {scope : Scope} {cl : List (Str × Addr)} {pos : Pos} {Q : Value → Shared → Prop} (F₀ : Fr h₀ L s.heap m)
    (hclos : closureFor scope env = pure cl) (hcell : ∀ y ∈ scope.names, y.2 ≠ .cell) (hkind : scope.kind = .function)
    (hnames : ∀ y ∈ scope.names, y.2 = .local → scope.names.lookup y.1 = some .local) (hx : scope.names.lookup x = some .local)
    (h : wpAny (model prog w) A (eval iter env) (SrcD prog w A h₀ L m env elt x scope cl (fun s₂ => LCg.FinE h₀ L m s₂ Q)) E s)
    (hs : ∀ x, foldedSetIterable iter env x = pure x := by intro _; rfl) :
    wpAny (model prog w) A (eval (.ListComp elt [⟨.Name x px, iter, [], 0⟩] scope pos) env) Q E s := by
  rw [eval_ListComp]
  refine wpAny_comprehension_free (use := none) rfl hs hclos hkind hnames (wpAny_mono h (fun xv s₁ h₁ => ?_) fun _ _ e => e)
  obtain ⟨r, a, b, t, u, v, n, news, rfl, hh, F, N, hr, hsm, hn, hsz, R⟩ := h₁
  refine wpAny_pyIter_range hr hsm ?_
  refine LCg.block_U (rangeD_walks hh a (-1) n) hsz (fun i h st => ⟨_, st⟩) rangeD_st hcell hkind hx (by show IsRangeIter _ _ _ _ _; rw [hn]; simpa using Heap.get?_push_size _ rfl) (fun b hb => ?_)
    (F.keeps fun _ _ e => Heap.get?_push_of_some _ e) (N.grown fun _ _ e => Heap.get?_push_of_some _ e) (Nat.ne_of_lt F.ns.lt) (next_is_new F) (fun p hp => Nat.ne_of_lt (Heap.lt_size (N p hp).1)) trivial (R _ ⟨_, rfl⟩) ?_
  · rw [List.mem_singleton.mp hb]
    show s₁.heap.objs.size < (s₁.heap.push _).objs.size
    rw [Heap.size_push]; exact Nat.lt_succ_self _
  · intro D C h tk m' ys news' F' N' o1 hn hC₀ hD₀ hCL hDL hCD offC fin
    refine ⟨m', hn, fun h'' hs'' => fin D h'' tk (F'.change hs'' hCL hC₀) (fun p hp => ?_) o1⟩
    refine ⟨hs''.extBut _ _ ?_ (N' p hp).1, (N' p hp).2⟩
    rcases List.mem_cons.mp hp with rfl | hp
    · exact Ne.symm hCD
    · exact offC p hp
end
/-- the numbers of a range that goes down -/
def downKs (a : Int) (n : Nat) : List Int := (List.range n).map fun (i : Nat) => a - (i : Int)
theorem downKs_length (a : Int) (n : Nat) : (downKs a n).length = n := by simp [downKs]
theorem mem_downKs {a k : Int} {n : Nat} (h : k ∈ downKs a n) : a - (n : Int) < k ∧ k ≤ a := by
  obtain ⟨i, hi, rfl⟩ := List.mem_map.mp h
  have := List.mem_range.mp hi
  omega
theorem kcf_down {prog : Program} {w : World} {A : Around} {h₀ : Heap} {L : Addr} {m : Str → Option Value} {env : Env} {elt : Expr} {x : Str} {scope : Scope} {cl : List (Str × Addr)} {s : Shared} {S : List (Addr × Obj) → Prop} {Fin : List Value → List (Addr × Obj) → Prop} {news : List (Addr × Obj)} {n : Nat} {a : Int} (g : Int → Int)
    (turn : ∀ k t I oI C oC D m₂ ys h tk (E' : Value → Shared → Prop), a - (n : Int) < k → k ≤ a → LCg.NsObj oC m₂ → m₂ x = some (.int k t) → Fr h₀ L h m → News h₀ L h ((I, oI) :: (C, oC) :: (D, LCg.lst ys) :: news) → LCg.Off3 I C D news → ((@Ne Nat I C) ∧ (@Ne Nat I D) ∧ (@Ne Nat C D)) → KPfMark →
      wpAny (model prog w) A (eval elt (compEnvC scope cl C env)) (LCg.CompEnd h₀ L m { s with heap := h, toks := tk } I oI C oC D (LCg.lst ys) S (fun y news' => KCfEl news (g k) y news')) E' { s with heap := h, toks := tk })
    (fin : KPfDone (∀ ys, IntsAre ys ((downKs a n).map g) → Fin ys news)) : LCg.CompRest prog w A h₀ L m env elt x scope cl s S (fun i v => ∃ t, v = .int (a + (i : Int) * (-1)) t) Fin n 0 [] news :=
  kcf_rest (ks := downKs a n) g (downKs_length a n) (fun i v hi hv => by
    obtain ⟨t, e⟩ := hv
    refine ⟨a - (i : Int), t, by simp [downKs, hi], ?_⟩
    rw [e]
    congr 1
    omega)
    (fun k t I oI C oC D m₂ ys h tk E' hk hC hx F N off ne mk => turn k t I oI C oC D m₂ ys h tk E' (mem_downKs hk).1 (mem_downKs hk).2 hC hx F N off ne mk) fin
end
theorem offB2 : True := by
  w_top off
  trivial
section
section
open PySem.Calls PySem.Spec
abbrev excO (C t : Addr) : Obj := { cls := .ref C, data := .fields #[.ref t, .none, .none, .none, .bool false, .none] }
abbrev tupO (vs : List Value) : Obj := { cls := .type "tuple", data := .seq vs.toArray }
/-- a class of the text's own, made as exceptions are -/
def excMakes (K : Frag) (C : Addr) : Bool := match K.lookup C with
  | some ⟨.type "type", _, .cls cd, sl⟩ => (match cd.mro, sl.toList with
    | .ref C' :: bm, [_, _, _, _, some (.builtin n), _] => C' == C && n == "Exception.__new__" && !cd.hasDel && bm.contains (.type "Exception") && bm.contains (.type "BaseException") && !bm.contains (.type "AttributeError") && !bm.contains (.type "NameError")
    | _, _ => false)
  | _ => false
theorem excMakes_cls {K : Frag} {h : Heap} {C : Addr} (X : K.In h) (q : excMakes K C = true) : ∃ nm qn N bs bm hdct sn sub ab col dd k0 k1 k2 k3 k5,
    h.get? C = some (excClassObj nm qn C N bs bm hdct sn sub ab col dd k0 k1 k2 k3 k5 "Exception.__new__") ∧ bm.contains (.type "Exception") = true ∧ bm.contains (.type "BaseException") = true ∧ bm.contains (.type "AttributeError") = false ∧ bm.contains (.type "NameError") = false := by
  unfold excMakes at q
  split at q
  · rename_i dd cd sl ho
    split at q
    · rename_i C' bm k0 k1 k2 k3 n k5 hm hs
      simp only [Bool.and_eq_true, beq_iff_eq, Bool.not_eq_true'] at q
      obtain ⟨⟨⟨⟨⟨⟨rfl, rfl⟩, hdel⟩, hE⟩, hB⟩, hA⟩, hN⟩ := q
      obtain ⟨nm, bs, mro, ns, qn, hd, sn, sub, ab, col, del⟩ := cd
      dsimp only at hm hdel
      subst hm hdel
      have hsl : sl = #[k0, k1, k2, k3, some (.builtin "Exception.__new__"), k5] := by
        obtain ⟨l⟩ := sl
        simp only at hs
        rw [hs]
      subst hsl
      exact ⟨nm, qn, ns, bs, bm, hd, sn, sub, ab, col, dd, k0, k1, k2, k3, k5, X _ _ ho, hE, hB, hA, hN⟩
    · cases q
  · cases q
variable {prog : Program} {w : World} {A : Around} {E : Value → Shared → Prop} {R : Result → Shared → Prop} {h : Heap} {g : Array GenState} {d : Drawn} {t : Nat} {os : OsState}
variable {nm q : Str} {C N : Addr} {bs bm : List Value} {hdct : Bool} {sn : List Str} {sub : List Value} {ab : Bool} {col : Option Bool} {dd : Option Addr} {k0 k1 k2 k3 k5 : Option Value}
theorem exc_new_own {rest : List Value} (hC : h.get? C = some (excClassObj nm q C N bs bm hdct sn sub ab col dd k0 k1 k2 k3 k5 "Exception.__new__"))
    (hE : bm.contains (.type "Exception") = true) (hA : bm.contains (.type "AttributeError") = false) (hN : bm.contains (.type "NameError") = false)
    (hq : R (.ok (.ret (.ref (h.objs.size + 1)))) ⟨(h.push (tupO rest)).push (excO C h.objs.size), g, d, t, os⟩) (hrest : rest.length ≤ sizeLine) :
    codeAny (model prog w) A (.builtin "Exception.__new__" ⟨.ref C :: rest, []⟩) R ⟨h, g, d, t, os⟩ := by
  have F := PySem.F.excBase_Exception
  have hends := F.ends
  have hcB : (Value.ref C :: bm).contains (.type "Exception") = true := by rw [List.contains_cons, hE, Bool.or_true]
  have hcA : (Value.ref C :: bm).contains (.type "AttributeError") = false := by rw [List.contains_cons, hA]; rfl
  have hcN : (Value.ref C :: bm).contains (.type "NameError") = false := by rw [List.contains_cons, hN]; rfl
  refine codeAny_builtinAt F.entry ?_
  unfold Builtin.«BaseException.__new__»
  refine PySem.wpAt_bind ?_
  show PySem.wpAt _ _ _ (stack >>= _) _ _ _
  refine PySem.wpAt_bind (PySem.wpAt_stack fun p below => PySem.wpAt_of_wpAny ?_)
  wp_walk
  refine PySem.wpAt_of_wpAny ?_
  rw [F.owner]
  repeat (first | with_reducible refine wpAny_madeHere_exc F.canon hC ?_ | with_reducible refine wpAny_loadPart_at hC ?_ | (with_reducible refine wpAny_isSubtype_exc hC ?_; first | rw [hcB] | rw [hcA] | rw [hcN]) | wp_step)
  show R _ _
  rw [Heap.size_push]
  exact hq
theorem exc_check_new {M : Model} {rest : List Value} {Q : Unit → Shared → Prop} (hC : h.get? C = some (excClassObj nm q C N bs bm hdct sn sub ab col dd k0 k1 k2 k3 k5 "Exception.__new__"))
    (hE : bm.contains (.type "Exception") = true) (hq : Q () ⟨h, g, d, t, os⟩) : wpAny M A (checkBuiltinCall "Exception.__new__" ⟨.ref C :: rest, []⟩) Q E ⟨h, g, d, t, os⟩ := by
  have F := PySem.F.excBase_Exception
  have hcont : (Value.ref C :: bm).contains (.type "Exception") = true := by rw [List.contains_cons, hE, Bool.or_true]
  have hstar := F.noStar
  simp only [checkBuiltinCall, F.newKind, F.newSplit, F.newRow]
  repeat (first | refine wpAny_loadPart_at hC ?_ | (refine wpAny_isSubtype_exc hC ?_; rw [hcont]) | refine wpAny_staticBase_exc hC ?_ | refine wpAny_madeBy_exc hC ?_ | simp only [bne_self_eq_false, Bool.false_eq_true, if_false] | wp_step)
  exact hq
theorem exc_type_call {rest : List Value} {init : Value} {Q : Fin → Shared → Prop} (hC : h.get? C = some (excClassObj nm q C N bs bm hdct sn sub ab col dd k0 k1 k2 k3 k5 "Exception.__new__"))
    (hE : bm.contains (.type "Exception") = true) (hA : bm.contains (.type "AttributeError") = false) (hN : bm.contains (.type "NameError") = false)
    (hi : Looks (model prog w) h (typeLookup (.ref C) "__init__") (some init)) (hb : ∀ self, Looks (model prog w) h (bindSpecial init self) (init, [self]))
    (hq : codeAny (model prog w) A (.call init ⟨.ref (h.objs.size + 1) :: rest, []⟩) (InitBack (h.objs.size + 1) fun r s' => match r with | .ok (.ret v) => Q (.done (.ret v)) s' | .ok _ => False | .error e => E e s') ⟨(h.push (tupO rest)).push (excO C h.objs.size), g, d, t, os⟩)
    (hrest : rest.length ≤ sizeLine) :
    wpAny (model prog w) A (Builtin.«type.__call__» ⟨.ref C :: rest, []⟩) Q E ⟨h, g, d, t, os⟩ := by
  have F := PySem.F.excBase_Exception
  repeat (first | with_reducible refine wpAny_loadPart_at hC ?_ | with_reducible refine wpAny_madeBy_exc hC ?_ | wp_step)
  refine codeAny_call_builtin_code (Code.quiet_builtin _ F.quiet) (exc_check_new hC hE ?_)
  refine exc_new_own hC hE hA hN ?_ hrest
  show wpAny _ _ _ _ _ _
  have k : ∀ b o, h.get? b = some o → ((h.push (tupO rest)).push (excO C h.objs.size)).get? b = some o := fun b o e => Heap.get?_push_of_some _ (Heap.get?_push_of_some _ e)
  have hC₁ := k _ _ hC
  have hget : ((h.push (tupO rest)).push (excO C h.objs.size)).get? (h.objs.size + 1) = some (excO C h.objs.size) := by heap_get
  have hcC : (Value.ref C :: bm).contains (.ref C) = true := by simp
  have i1 := hi.keeps k
  have b1 := (hb (.ref (h.objs.size + 1))).keeps k
  unfold isInstance
  repeat (first | with_reducible refine wpAny_loadPart_at hget ?_ | (with_reducible refine wpAny_isSubtype_exc hC₁ ?_; rw [hcC]) | wp_step)
  show wpAny _ _ (typeLookup (.ref C) _) _ _ _
  refine i1.here ?_
  refine wpAny_holding (wpAny_bind (b1.here ?_))
  refine wpAny_bind (wpAny_call ?_)
  refine codeAny_mono hq fun r s' z => ?_
  rcases r with e | (v | _ | _ | _) <;> first | exact z | exact z.elim | skip
  obtain ⟨rfl, z⟩ := z
  exact wpAny_pure (wpAny_pure z)
end
end
theorem offB3 : True := by
  w_top off
  trivial
section
section
open PySem.Calls PySem.Spec
variable {prog : Program} {w : World} {A : Around} {E : Value → Shared → Prop} {R : Result → Shared → Prop}
theorem exc_call {h : Heap} {g : Array GenState} {d : Drawn} {t : Nat} {os : OsState} {nm q : Str} {C N : Addr} {bs bm : List Value} {hdct : Bool} {sn : List Str} {sub : List Value} {ab : Bool} {col : Option Bool} {dd : Option Addr} {k0 k1 k2 k3 k5 : Option Value}
    {rest : List Value} {init : Value} (hC : h.get? C = some (excClassObj nm q C N bs bm hdct sn sub ab col dd k0 k1 k2 k3 k5 "Exception.__new__"))
    (hE : bm.contains (.type "Exception") = true) (hA : bm.contains (.type "AttributeError") = false) (hN : bm.contains (.type "NameError") = false)
    (hi : Looks (model prog w) h (typeLookup (.ref C) "__init__") (some init)) (hb : ∀ self, Looks (model prog w) h (bindSpecial init self) (init, [self]))
    (hq : codeAny (model prog w) (A.under (.builtin "type.__call__" ⟨.ref C :: rest, []⟩)) (.call init ⟨.ref (h.objs.size + 1) :: rest, []⟩) (InitBack (h.objs.size + 1) R) ⟨(h.push (tupO rest)).push (excO C h.objs.size), g, d, t, os⟩)
    (hrest : rest.length ≤ sizeLine) : codeAny (model prog w) A (.call (.ref C) ⟨rest, []⟩) R ⟨h, g, d, t, os⟩ := by
  have f1 := tc_lookup
  have f2 := tc_bind (.ref C)
  have hT : (⟨h, g, d, t, os⟩ : Shared).TypeIs (.ref C) "type" := ⟨_, hC, rfl⟩
  refine codeAny_of_tree ?_
  show wpAny _ _ (callAny (.ref C) _) _ _ _
  repeat (any_goals (first | assumption | with_reducible refine wpAny_loadPart_at hC ?_ | wp_step))
  refine ⟨rfl, ?_⟩
  refine codeAny_call_builtin_at (Code.quiet_builtin _ (by decide +kernel)) entry_typeCall (wpAny_check_type_call_sub hC (exc_type_call hC hE hA hN hi hb (codeAny_mono hq fun r s' z => ?_) hrest))
  rcases r with e | (v | _ | _ | _) <;> exact z
variable {s : Shared} {K : Frag} {C L : Addr} {h₀ : Heap} {m : Str → Option Value} {news : List (Addr × Obj)}
theorem makeExc_K {rest : List Value} {fI : Addr} (F : Fr h₀ L s.heap m) (N : News h₀ L s.heap news) (X : K.In s.heap) (hm : excMakes K C = true)
    (hi : findIn K (.ref C) "__init__" = some (some (.ref fI))) (hf : typeIn K (.ref fI) = some (.type "function")) (hrest : rest.length ≤ sizeLine)
    (h : ∀ x t h', Fr h₀ L h' m → News h₀ L h' ((x, excO C t) :: (t, tupO rest) :: news) → (∀ p ∈ news, p.1 < t) → t < x →
      codeAny (model prog w) (A.under (.builtin "type.__call__" ⟨.ref C :: rest, []⟩)) (.call (.ref fI) ⟨.ref x :: rest, []⟩) (InitBack x R) { s with heap := h' }) :
    codeAny (model prog w) A (.call (.ref C) ⟨rest, []⟩) R s := by
  obtain ⟨hh, g, d, t, os⟩ := s
  obtain ⟨nm, qn, NN, bs, bm, hdct, sn, sub, ab, col, dd, k0, k1, k2, k3, k5, hC, hE, hB, hA, hN⟩ := excMakes_cls X hm
  refine exc_call hC hE hA hN (looks_findIn X hi) (fun self => bind_fn X self hf) (h _ hh.objs.size _ ((F.push _).push _) ?_ (fun p hp => Heap.lt_size (N p hp).1) (Nat.lt_succ_self _)) hrest
  have := (N.push F (tupO rest)).push (F.push _) (excO C hh.objs.size)
  rwa [Heap.size_push] at this
/-- Exception.__init__ upon an exception of the ledger -/
theorem excInit_N {x t : Addr} {nm q : Str} {NN : Addr} {bs bm : List Value} {hdct : Bool} {sn : List Str} {sub : List Value} {ab : Bool} {col : Option Bool} {dd : Option Addr} {k0 k1 k2 k3 k5 : Option Value} {v : Value} {Q : Value → Shared → Prop}
    (F : Fr h₀ L s.heap m) (N : News h₀ L s.heap ((x, excO C t) :: news)) (hne : ∀ p ∈ news, p.1 ≠ x)
    (hC : s.heap.get? C = some (excClassObj nm q C NN bs bm hdct sn sub ab col dd k0 k1 k2 k3 k5 "Exception.__new__")) (hE : bm.contains (.type "Exception") = true)
    (h : ∀ t' h', Fr h₀ L h' m → News h₀ L h' ((x, excO C t') :: (t', tupO [v]) :: news) → Q .none { s with heap := h' }) :
    wpAny (model prog w) A (call (.builtin "Exception.__init__") [.ref x, v]) Q E s := by
  have FF := PySem.F.excBase_Exception
  have he := (N _ (.head _)).1
  have hx0 := (N _ (.head _)).2.2
  have hxL := (N _ (.head _)).2.1
  have hcB : (Value.ref C :: bm).contains (.type "Exception") = true := by rw [List.contains_cons, hE, Bool.or_true]
  have hshort := FF.noStar
  obtain ⟨hh, g, d, tk, os⟩ := s
  refine wpAny_call (codeAny_call_builtin FF.init.plain FF.initEntry ?_)
  simp only [checkBuiltinCall, FF.initKind, FF.initSplit, FF.initRow]
  repeat (first | with_reducible refine wpAny_loadPart_at he ?_ | with_reducible refine wpAny_loadPart_at hC ?_ | (with_reducible refine wpAny_isSubtype_exc hC ?_; rw [hcB]) | wp_step)
  have hlt : x < hh.objs.size := Heap.lt_size he
  have N1 := N.push F (tupO [v])
  obtain ⟨U1, U2⟩ := news_upd (f := Obj.mapFields (·.setIfInBounds 0 (Value.ref hh.objs.size))) (pre := [(hh.objs.size, tupO [v])]) (d := x) (o := excO C t) (o' := excO C hh.objs.size) (F.push (tupO [v])) N1
    (fun p hp => by rw [List.mem_singleton.mp hp]; exact Nat.ne_of_gt hlt) hne rfl rfl
  refine h hh.objs.size _ U1 fun p hp => U2 p ?_
  rcases List.mem_cons.mp hp with rfl | hp
  · exact .tail _ (.head _)
  · rcases List.mem_cons.mp hp with rfl | hp
    · exact .head _
    · exact .tail _ (.tail _ hp)
/-- a name stored into an exception of the ledger that has no dict yet -/
theorem excSet_N {x t : Addr} {name : Str} {v : Value} {cd : ClassData} {Q : Unit → Shared → Prop}
    (F : Fr h₀ L s.heap m) (N : News h₀ L s.heap ((x, excO C t) :: news)) (hne : ∀ p ∈ news, p.1 ≠ x) (X : K.In s.heap) (hc : clsIn K C = some cd) (hd : cd.hasDict = true)
    (hs : findIn K (.ref C) "__setattr__" = some (some (.builtin "object.__setattr__"))) (ht : findIn K (.ref C) name = some none)
    (hm : cd.mro = [.ref C, .ref 31, .type "Exception", .type "BaseException", .type "object"])
    (h : ∀ d o h' tk', Fr h₀ L h' m → News h₀ L h' ((x, { excO C t with dict := some d }) :: (d, o) :: news) → Q () { s with heap := h', toks := tk' }) :
    wpAny (model prog w) A (setAttr (.ref x) name v) Q E s := by
  have he := (N _ (.head _)).1
  have hty : Looks (model prog w) s.heap (typeOf (.ref x)) (.ref C) := (Looks.ld he).andThen .now
  refine wpAny_bind (wpAny_mkText (wpAny_bind (wpAny_bind (wpAny_bind (hty _ _ _ _ (fun _ _ e => e) (looks_findIn X hs _ _ _ _ (fun _ _ e => e) (wpAny_holding ?_)))))))
  rw [PySem.F.store_object.slot.bind]
  refine wpAny_bind (wpAny_pure (wpAny_bind (wpAny_call ?_)))
  have SF := PySem.F.store_object
  have hmro : Looks (model prog w) s.heap (mroOf (.ref C)) cd.mro := (looks_clsIn X hc).andThen .now
  have sub : Looks (model prog w) s.heap (isInstance (.ref x) (.type "object")) true := hty.andThen (looks_mroIn X (by unfold mroIn; rw [hc, Option.bind_some, hm]; rfl))
  refine codeAny_call_builtin SF.slot.plain SF.entry (@check_slot (model prog w) _ _ _ "object.__setattr__" "object" "__setattr__" (.ref x) [.str name s.toks, v] [] _ SF.kind SF.split sub (SF.args (.ref x) (.str name s.toks) v) ?_)
  show wpAny _ _ (Builtin.«object.__setattr__» ⟨[.ref x, .str name s.toks, v], []⟩) _ _ _
  rw [osa_eq, refuse_eq]
  refine wpAny_bind (wpAny_bind (hty _ _ _ _ (fun _ _ e => e) (wpAny_bind (hmro _ _ _ _ (fun _ _ e => e) ?_))))
  rw [hm, refuseLoop_ref, refuseLoop_ref, show refuseLoop (.ref x) "__setattr__" [.type "Exception", .type "BaseException", .type "object"] = pure () by kernel_rfl]
  refine wpAny_pure (wpAny_bind (hty _ _ _ _ (fun _ _ e => e) (wpAny_bind (looks_findIn X ht _ _ _ _ (fun _ _ e => e) (wpAny_bind ?_)))))
  refine wpAny_pure (wpAny_bind (wpAny_pure (wpAny_bind (wpAny_bind (wpAny_loadPart he (wpAny_bind ((looks_clsIn X hc _ _ _ _ (fun _ _ e => e) ?_)))))))) 
  rw [hd]
  have hlt : x < s.heap.objs.size := Heap.lt_size he
  have F1 := F.push emptyDict
  have N1 := N.push F emptyDict
  have he1 : (s.heap.push emptyDict).get? x = some (excO C t) := Heap.get?_push_of_some _ he
  obtain ⟨F2, N2⟩ := news_upd (f := fun o => { o with dict := some s.heap.objs.size }) (pre := [(s.heap.objs.size, emptyDict)]) (d := x) (o := excO C t) (o' := { excO C t with dict := some s.heap.objs.size }) F1 N1
    (fun p hp => by rw [List.mem_singleton.mp hp]; exact Nat.ne_of_gt hlt) hne rfl rfl
  have hD := (N2 _ (.head _)).1
  obtain ⟨F3, N3⟩ := news_upd (f := Obj.putName name (PyData.keyHash w.params name) (.str name (s.toks + 1)) v) (pre := []) (d := s.heap.objs.size) (o := emptyDict) (o' := dictOf [⟨PyData.keyHash w.params name, .str name (s.toks + 1), v⟩] 1) F2 N2
    (fun p hp => nomatch hp) (fun p hp => by
      rcases List.mem_cons.mp hp with rfl | hp
      · exact Nat.ne_of_lt hlt
      · exact Nat.ne_of_lt (Heap.lt_size (N _ (.tail _ hp)).1)) (putName_dict name _ _ v [] 0) rfl
  have hD3 := (N3 _ (.head _)).1
  show wpAny _ _ (do let d ← alloc emptyDict; update x (fun o => { o with dict := some d }); dictMade (.ref C) x d) _ _ _
  refine wpAny_bind (wpAny_alloc (wpAny_bind (wpAny_update he1 ?_)))
  show wpAny _ _ (pure (some s.heap.objs.size)) _ _ _
  refine wpAny_pure ?_
  show wpAny _ _ (Builtin.ObjectAttr.storeInDict _ _ _ _) _ _ _
  unfold Builtin.ObjectAttr.storeInDict
  show wpAny _ _ (pure () >>= _) _ _ _
  refine wpAny_bind (wpAny_pure (wpAny_bind ?_))
  unfold nsSet
  refine wpAny_bind (wpAny_bind (wpAny_askSetting (wpAny_pure (wpAny_bind (wpAny_mkText (wpAny_bind (wpAny_loadPart hD ?_)))))))
  dsimp only
  rw [aRefKeyMayBeTheName_at, if_neg (by simp)]
  refine wpAny_updatePart hD ?_
  refine wpAny_bind (wpAny_lookBehind hD3 (pastItsLine_dict (by rw [sizeLine_eq]; simp)) ?_)
  exact wpAny_pure (wpAny_pure (wpAny_pure (h _ _ _ _ F3 fun p hp => N3 p (by
    rcases List.mem_cons.mp hp with rfl | hp
    · exact .tail _ (.head _)
    · rcases List.mem_cons.mp hp with rfl | hp
      · exact .head _
      · exact .tail _ (.tail _ hp)))))
end
end
theorem offB4 : True := by
  w_top off
  trivial
section
section
open PySem.Calls PySem.Spec
variable {prog : Program} {w : World} {A : Around} {E : Value → Shared → Prop} {s : Shared} {K : Frag}
theorem excInit_meth {pl : Sem Bool} {Q : Value × List Value → Shared → Prop} (X : K.In s.heap) (h : Q (.builtin "Exception.__init__", []) { s with toks := s.toks + 1 }) :
    wpAny (model prog w) A (getMethod (.type "Exception") (PySem.Str.ofString "__init__") pl) Q E s := by
  have hstub : opaqueClassAbove (.type "Exception") = pure none := by unfold opaqueClassAbove; dsimp only; rw [show Manifest.isStub "Exception" = false by decide +kernel]; rfl
  have ht : typeOf (.type "Exception") = pure (.type "type") := by first | rfl | kernel_rfl
  have L0 : Looks (model prog w) s.heap (typeOf (.type "Exception")) (.type "type") := Looks.of_pure ht
  have hg : findIn K (.type "type") "__getattribute__" = some (some (.builtin "type.__getattribute__")) := type_tga
  have e : findCls K (.type "Exception") (.type "type") (PySem.Str.ofString "__init__") = some (.val (.builtin "Exception.__init__")) := by kernel_rfl
  unfold getMethod specialOf
  refine wpAny_bind (wpAny_bind (L0.here ((looks_findIn X hg).here ?_)))
  dsimp only
  rw [if_pos canon_tga]
  refine wpAny_bind (wpAny_mono (Q := fun v => Q (v, [])) (E := E) ?_ (fun _ _ z => wpAny_pure z) fun _ _ z => z)
  have LO : Looks (model prog w) s.heap (opaqueClassAbove (.type "Exception")) none := Looks.of_pure hstub
  refine cls_open X LO L0 hg (looks_hook X (r := none) (by rfl)) (by show subIn K _ _ = _; rfl) e ?_
  refine wpAny_pure ?_
  show wpAny _ _ (handedOut (.builtin "Exception.__init__")) _ _ _
  rw [handedOut_of (by rfl)]
  exact wpAny_pure h
end
section
open PySem.Calls PySem.Spec
variable {prog : Program} {w : World} {A : Around} {E : Value → Shared → Prop} {s : Shared} {K : Frag} {h₀ : Heap} {L C : Addr} {m : Str → Option Value} {news : List (Addr × Obj)}
theorem excMeth_K {pl : Sem Bool} {Q : Value × List Value → Shared → Prop} (F : Fr h₀ L s.heap m) (X₀ : K.In h₀) (h : Q (.builtin "Exception.__init__", []) { s with toks := s.toks + 1 }) :
    wpAny (model prog w) A (getMethod (.type "Exception") (PySem.Str.ofString "__init__") pl) Q E s := excInit_meth (X₀.keeps F.keep) h
theorem excInit_K {x t : Addr} {v : Value} {Q : Value → Shared → Prop}
    (F : Fr h₀ L s.heap m) (X₀ : K.In h₀) (N : News h₀ L s.heap ((x, excO C t) :: news)) (hne : ∀ p ∈ news, p.1 ≠ x) (hm : excMakes K C = true)
    (h : ∀ t' h', Fr h₀ L h' m → News h₀ L h' ((x, excO C t') :: news) → Q .none { s with heap := h' }) :
    wpAny (model prog w) A (call (.builtin "Exception.__init__") [.ref x, v]) Q E s := by
  obtain ⟨nm, qn, NN, bs, bm, hdct, sn, sub, ab, col, dd, k0, k1, k2, k3, k5, hC, hE, hB, hA, hN⟩ := excMakes_cls (X₀.keeps F.keep) hm
  exact excInit_N F N hne hC hE fun t' h' F' N' => h t' h' F' fun p hp => N' p (by
    rcases List.mem_cons.mp hp with rfl | hp
    · exact .head _
    · exact .tail _ (.tail _ hp))
def excSets (K : Frag) (C : Addr) : Bool := match clsIn K C with
  | some cd => cd.hasDict && cd.mro == [.ref C, .ref 31, .type "Exception", .type "BaseException", .type "object"]
  | none => false
theorem excSet_K {x t : Addr} {name : Str} {v : Value} {Q : Unit → Shared → Prop}
    (F : Fr h₀ L s.heap m) (X₀ : K.In h₀) (N : News h₀ L s.heap ((x, excO C t) :: news)) (hne : ∀ p ∈ news, p.1 ≠ x) (hm : excSets K C = true)
    (hs : findIn K (.ref C) "__setattr__" = some (some (.builtin "object.__setattr__"))) (ht : findIn K (.ref C) name = some none)
    (h : ∀ oe h' tk', oe.cls = .ref C → oe.data = .fields #[.ref t, .none, .none, .none, .bool false, .none] → Fr h₀ L h' m → News h₀ L h' ((x, oe) :: news) → Q () { s with heap := h', toks := tk' }) :
    wpAny (model prog w) A (setAttr (.ref x) name v) Q E s := by
  unfold excSets at hm
  split at hm
  · rename_i cd hc
    obtain ⟨h1, h2⟩ := Bool.and_eq_true_iff.mp hm
    exact excSet_N F N hne (X₀.keeps F.keep) hc h1 hs ht (beq_iff_eq.mp h2) fun d o h' tk' F' N' => h { excO C t with dict := some d } h' tk' rfl rfl F' fun p hp => N' p (by
      rcases List.mem_cons.mp hp with rfl | hp
      · exact .head _
      · exact .tail _ (.tail _ hp))
  · cases hm
end
end
theorem offB5 : True := by
  w_top off
  trivial
section
section
open PySem.Calls PySem.Spec
variable {M : Model} {A : Around} {E : Value → Shared → Prop} {s : Shared} {K : Frag} {C : Addr}
theorem raise_own {h₀ : Heap} {env : Env} {f : Expr} {args : List Expr} {cpos pos : Pos} {Q : Flow → Shared → Prop} (_ : K.In h₀) (hh : A.handled = none) (hm : excMakes K C = true)
    (h : wpAny M A (eval (.Call f args [] cpos) env) (fun v s₁ => ∃ e oe t, v = .ref e ∧ s₁.heap.get? e = some oe ∧ oe.cls = .ref C ∧ oe.data = .fields #[.ref t, .none, .none, .none, .bool false, .none] ∧ K.In s₁.heap ∧ E (.ref e) s₁) E s) :
    wpAny M A (exec (.Raise (some (.Call f args [] cpos)) none pos) env) Q E s := by
  rw [arm_exec_Raise]
  refine wpAny_bind (wpAny_standAt ?_)
  show wpAny M A (raiseStmt env (some (do let v ← eval (.Call f args [] cpos) env; standAt pos; pure v)) none) Q E s
  unfold raiseStmt
  refine wpAny_bind (wpAny_bind (wpAny_mono h (fun v s₁ h₁ => wpAny_bind (wpAny_standAt (wpAny_pure ?_))) fun _ _ x => x))
  obtain ⟨e, ⟨oc, od, odt, osl⟩, t, rfl, he, hcls, hdat, X, hE⟩ := h₁
  dsimp only at hcls hdat
  subst hcls hdat
  obtain ⟨nm, q, N, bs, bm, hdct, sn, sub, ab, col, dd, k0, k1, k2, k3, k5, hC, hEx, hbase, _, _⟩ := excMakes_cls X hm
  have hcB : (Value.ref C :: bm).contains (.type "BaseException") = true := by rw [List.contains_cons, hbase, Bool.or_true]
  obtain ⟨hp, g, d, tk, os⟩ := s₁
  repeat (first | with_reducible refine wpAny_loadPart_at he ?_ | with_reducible refine wpAny_loadPart_at hC ?_ | (with_reducible refine wpAny_isSubtype_exc hC ?_; rw [hcB]) | wp_step)
  exact wpAny_raiseNew_none hh hE
end
section
open PySem.Calls PySem.Spec
variable {M : Model} {A : Around} {E : Value → Shared → Prop} {s' : Shared} {base g : Heap} {outer : List Env} {env : Env} {L e t : Addr} {m : Str → Option Value} {Q : Unit → Shared → Prop} {news : List (Addr × Obj)}
theorem frame_mem {b : Addr} (hf : env.frame = some L) (hm : b ∈ (env :: outer).filterMap (·.frame)) : b = L ∨ b ∈ outer.filterMap (·.frame) := by
  rw [List.filterMap_cons, hf] at hm
  exact List.mem_cons.mp hm
/-- an own exception leaves the frame that raised it -/
theorem leave_own {cls : Value} {oe : Obj} (K : Below A base outer g) (F : Fr g L s'.heap m) (N : News g L s'.heap ((e, oe) :: news)) (hne : ∀ q ∈ news, q.1 ≠ e)
    (hf : env.frame = some L) (hk : env.scope.kind = .function) (hcls : oe.cls = cls) (hd : oe.data = .fields #[.ref t, .none, .none, .none, .bool false, .none])
    (hQ : ∀ h', RaisedSN base g outer e cls news h' → g.UpToSlots h' → Q () { s' with heap := h' }) :
    wpAny M (A.deeper env) (leaving env (.ref e)) Q E s' := by
  have he := (N _ (.head _)).1
  have hge := (N _ (.head _)).2.2
  have hgL : g.get? L = none := kts_self F
  have hbe : base.get? e = none := fresh_of_stays K.stays hge
  have hbL : base.get? L = none := fresh_of_stays K.stays hgL
  have mem : ∀ b o, g.get? b = some o → b ∉ outer.filterMap (·.frame) → b ∉ e :: (env :: outer).filterMap (·.frame) := fun b o q nm hm => by
    rcases List.mem_cons.mp hm with z | z
    · rw [z, hge] at q; cases q
    · rcases frame_mem hf z with z | z
      · rw [z, hgL] at q; cases q
      · exact nm z
  have sg : ∀ b o, g.get? b = some o → b ∉ outer.filterMap (·.frame) → (hideAll s'.heap (e :: (env :: outer).filterMap (·.frame))).get? b = some o := fun b o q nm => hideAll_get _ (F.keep b o q) (mem b o q nm)
  have st : base.StaysIn (hideAll s'.heap (e :: (env :: outer).filterMap (·.frame))) := fun b o q => sg b o (K.stays b o q) fun hm => by
    rw [(K.frames.mem hm).1] at q; cases q
  have hl : ∀ q ∈ news, (hideAll s'.heap (e :: (env :: outer).filterMap (·.frame))).get? q.1 = some q.2 ∧ g.get? q.1 = none ∧ base.get? q.1 = none := fun q hq => by
    have z := N q (.tail _ hq)
    refine ⟨hideAll_get _ z.1 fun hm => ?_, z.2.2, fresh_of_stays K.stays z.2.2⟩
    rcases List.mem_cons.mp hm with y | y
    · exact hne q hq y
    · rcases frame_mem hf y with y | y
      · exact z.2.1 y
      · obtain ⟨o, ho, _⟩ := (K.frames.mem y).2
        rw [z.2.2] at ho; cases ho
  have up : ∀ {l : List Env}, g.FunFrames base l → (∀ env' ∈ l, env' ∈ outer) → s'.heap.FunFrames (hideAll s'.heap (e :: (env :: outer).filterMap (·.frame))) l := by
    intro l
    induction l with
    | nil => exact fun _ _ => trivial
    | cons env' rest ih =>
      rintro ⟨k1, ⟨L', o, f1, n1, o1, d1⟩, r⟩ hsub
      exact ⟨k1, ⟨L', o, f1, hideAll_none _ (.tail _ (List.mem_filterMap.mpr ⟨env', .tail _ (hsub env' (.head _)), f1⟩)), F.keep _ _ o1, d1⟩, ih r fun z hz => hsub z (.tail _ hz)⟩
  obtain ⟨oL, es, ep, hL, hLd, _⟩ := F.ns
  have ff : s'.heap.FunFrames (hideAll s'.heap (e :: (env :: outer).filterMap (·.frame))) (env :: outer) :=
    ⟨by rw [hk]; decide, ⟨L, oL, hf, hideAll_none _ (.tail _ (List.mem_filterMap.mpr ⟨env, .head _, hf⟩)), hL, fun vs q => by rw [hLd] at q; cases q⟩, up K.frames fun _ h => h⟩
  refine wpAny_leaving_firstW (a0 := .ref t) (Around.frames_deeper K.stack) ff hf he (fun b o q => of_hideAll _ q) (hideAll_none _ (.head _)) hd rfl rfl fun h' hL => ?_
  obtain ⟨k1, ⟨_, _, k2⟩, k3, k4⟩ := hL
  exact hQ h' ⟨_, .ref t, st, sg, hl, k1, hideAll_none _ (.head _), k2, by rw [← hcls]; exact k3⟩ ((Heap.UpToSlots.of_keeps F.keep).trans k4)
end
theorem raisedTail {base G : Heap} {l : List Env} {e : Addr} {cls : Value} {x : Addr × Obj} {news : List (Addr × Obj)} {h : Heap} (R : RaisedSN base G l e cls (x :: news) h) : RaisedSN base G l e cls news h := by
  obtain ⟨B, a0, h1, h2, h3, h4⟩ := R
  exact ⟨B, a0, h1, h2, fun q hq => h3 q (.tail _ hq), h4⟩
end
theorem offD1 : True := by
  w_top off
  trivial
section
section
local macro_rules | `(tactic| walk_at "getMethod type:Exception") => `(tactic| (k_here; k_dflt (refine' excMeth_K ?k1 ?k2 ?_; (case k1 => k_asm); (case k2 => k_asm); k_whole)))
local macro_rules | `(tactic| walk_at "call builtin:Exception.__init__") => `(tactic| (k_here; k_dflt (refine' excInit_K ?k1 ?k2 ?k3 ?k4 ?k5 ?_; (case k1 => k_asm); (case k2 => k_asm); (case k3 => k_asm); (case k4 => assumption); (case k5 => kernel_rfl); k_whole); intro t' h' F' N'; (try k_sweep)))
local macro_rules | `(tactic| walk_at "setAttr ref") => `(tactic| (k_here; k_dflt (refine' excSet_K ?k1 ?k2 ?k3 ?k4 ?k5 ?k6 ?k7 ?_; (case k1 => k_asm); (case k2 => k_asm); (case k3 => k_asm); (case k4 => assumption); (case k5 => kernel_rfl); (case k6 => k_is); (case k7 => k_is); k_whole); intro oe h' tk' e1 e2 F' N'; (try k_sweep)))
theorem init_spec {w : World} {p : Program} {loose : List Str} {mean : ExcName → Option Value} {mg mb : Str → Option Value}
   {A A₀ : Around} {env : Env} {outer : List Env} {base h₀ : Heap} {L : Addr} {m : Str → Option Value} {s : Shared} {R : Result → Shared → Prop}
   {news : List (Addr × Obj)} {C x t : Addr} {v : Str} {tk : Tok}
   (B : Below A₀ base outer h₀) (F : Fr h₀ L s.heap m) (X : (hd.heap_39 w.params).In h₀) (N : News h₀ L s.heap ((x, excO C t) :: news)) (T : Top p loose mean mg mb h₀)
   (hA : A.frames = some (env :: outer)) (hf : env.frame = some L) (hke : env.scope.kind = .function) (hne : ∀ q ∈ news, q.1 ≠ x) (hC : C = 56 ∨ C = 44) (hroom : A.depth < recursionLimit)
   (hret : ∀ (oe : Obj) (t' : Addr) (h' : Heap) (tk' : Nat), oe.cls = .ref C → oe.data = .fields #[.ref t', .none, .none, .none, .bool false, .none] → Fr h₀ L h' m → News h₀ L h' ((x, oe) :: news) →
      R (.ok (.ret .none)) { s with heap := h', toks := tk' }) :
   codeAny (model PySem.Challenge.rw_xm0974_01.row.prog w) A (.call (.ref 28) ⟨[.ref x, .str v tk], []⟩) R s := by
  revert X; k_fill; intro X
  rcases hC with rfl | rfl
  all_goals (k_dflt (refine' code_def B F X N T hA hf hke ?k6 ?k7 hroom ?k9 ?kB ?_ ?c2 ?c3 ?c4 ?c5; (case k6 => k_is); (case k7 => k_is); (case k9 => exact BindsTo.of_eq rfl); (case c5 => decide); (case kB => exact locs rfl); (case c2 => exact rfl); (case c3 => exact rfl); (case c4 => exact rfl); k_whole; intro g' L' h' FG' F' N' B' X' T'; (try dsimp only); (try k_fold)))
  all_goals k_steps
  all_goals exact hret _ _ _ _ (by assumption) (by assumption) (by assumption) (by assumption)
end
/-- an exception of the text's own is made -/
theorem exc_spec {w : World} {p : Program} {loose : List Str} {mean : ExcName → Option Value} {mg mb : Str → Option Value}
   {A A₀ : Around} {env : Env} {outer : List Env} {base h₀ : Heap} {L : Addr} {m : Str → Option Value} {s : Shared} {Q : Value → Shared → Prop} {E : Value → Shared → Prop}
   {news : List (Addr × Obj)} {C : Addr} {v : Str} {tk : Tok}
   (B : Below A₀ base outer h₀) (F : Fr h₀ L s.heap m) (X : (hd.heap_39 w.params).In h₀) (N : News h₀ L s.heap news) (T : Top p loose mean mg mb h₀)
   (hA : A.frames = some (env :: outer)) (hf : env.frame = some L) (hke : env.scope.kind = .function) (hC : C = 56 ∨ C = 44) (hroom : A.depth + 1 < recursionLimit)
   (hret : ∀ (e : Addr) (oe : Obj) (t' : Addr) (h' : Heap) (tk' : Nat), oe.cls = .ref C → oe.data = .fields #[.ref t', .none, .none, .none, .bool false, .none] → (∀ q ∈ news, q.1 ≠ e) → Fr h₀ L h' m → News h₀ L h' ((e, oe) :: news) →
      Q (.ref e) { s with heap := h', toks := tk' }) :
   wpAny (model PySem.Challenge.rw_xm0974_01.row.prog w) A (call (.ref C) [.str v tk]) Q E s := by
  have e1 : excMakes (hd.heap_39 w.params) C = true := by rcases hC with rfl | rfl <;> kernel_rfl
  have e2 : findIn (hd.heap_39 w.params) (.ref C) "__init__" = some (some (.ref 28)) := by rcases hC with rfl | rfl <;> kernel_rfl
  have e3 : typeIn (hd.heap_39 w.params) (.ref 28) = some (.type "function") := by kernel_rfl
  refine wpAny_call (makeExc_K F N (X.keeps F.keep) e1 e2 e3 (by size_fits) fun x t h' F' N' l1 l2 => ?_)
  refine init_spec (A := A.under (.builtin "type.__call__" ⟨[.ref C, .str v tk], []⟩)) B (s := { s with heap := h' }) F' X N' T ?_ hf hke (fun q hq => ?_) hC ?_ fun oe t' h'' tk' c1 c2 F'' N'' => ⟨rfl, ?_⟩
  · rw [← hA]; rfl
  · rcases List.mem_cons.mp hq with rfl | hq
    · exact Nat.ne_of_lt l2
    · exact Nat.ne_of_lt (Nat.lt_trans (l1 q hq) l2)
  · rw [depth_under_make]; exact hroom
  · exact hret x oe t' h'' tk' c1 c2 (fun q hq => Nat.ne_of_lt (Nat.lt_trans (l1 q hq) l2)) F'' fun q hq => N'' q (by
      rcases List.mem_cons.mp hq with rfl | hq
      · exact .head _
      · exact .tail _ (.tail _ hq))
theorem exc56 (P : Params) : excMakes (hd.heap_39 P) 56 = true := by kernel_rfl
theorem exc44 (P : Params) : excMakes (hd.heap_39 P) 44 = true := by kernel_rfl
end
theorem offP2 : True := by
  w_top off
  trivial
section
/-- the octets of a number, the highest first -/
def digits (n : Int) (k : Nat) : List Int := (List.range k).map fun i => n / 256 ^ (k - 1 - i) % 256
theorem digits_length (n : Int) (k : Nat) : (digits n k).length = k := by simp [digits]
theorem digits_in {n : Int} {k : Nat} : ∀ z ∈ digits n k, 0 ≤ z ∧ z < 256 := by
  intro z hz
  obtain ⟨i, _, rfl⟩ := List.mem_map.mp hz
  exact ⟨Int.emod_nonneg _ (by decide), Int.emod_lt_of_pos _ (by decide)⟩
theorem pow256 (k : Nat) : (2 : Int) ^ (8 * k) = 256 ^ k := by
  rw [Int.pow_mul]
  rfl
theorem pow256_pos (k : Nat) : (0 : Int) < 256 ^ k := Int.pow_pos (by decide)
theorem digits_succ (n : Int) (k : Nat) : digits n (k + 1) = digits (n / 256) k ++ [n % 256] := by
  unfold digits
  rw [List.range_succ, List.map_append, List.map_singleton]
  congr 1
  · apply List.map_congr_left
    intro i hi
    have hi := List.mem_range.mp hi
    have e : k + 1 - 1 - i = (k - 1 - i) + 1 := by omega
    rw [e, Int.pow_succ, Int.mul_comm, ← Int.ediv_ediv_of_nonneg (by decide)]
  · have e : k + 1 - 1 - k = 0 := by omega
    rw [e, Int.pow_zero, Int.ediv_one]
theorem worth_snoc (os : List Int) (d : Int) : worth (os ++ [d]) = worth os * 256 + d := by
  unfold worth
  rw [List.foldl_append]
  rfl
theorem worth_nil : worth [] = 0 := rfl
theorem digits_zero (k : Nat) : digits 0 k = List.replicate k 0 := by
  refine List.eq_replicate_iff.mpr ⟨digits_length 0 k, fun b hb => ?_⟩
  obtain ⟨i, _, rfl⟩ := List.mem_map.mp hb
  simp
theorem digits_worth_rev : ∀ (rs : List Int), (∀ z ∈ rs, 0 ≤ z ∧ z < 256) → ∀ more, digits (worth rs.reverse) (rs.length + more) = List.replicate more 0 ++ rs.reverse
  | [], _, more => by
    show digits 0 (0 + more) = _
    rw [Nat.zero_add, digits_zero]; simp
  | d :: r, h, more => by
    have hd := h d (.head _)
    rw [List.reverse_cons, worth_snoc, List.length_cons, show r.length + 1 + more = (r.length + more) + 1 by omega, digits_succ]
    have e1 : (worth r.reverse * 256 + d) / 256 = worth r.reverse := by omega
    have e2 : (worth r.reverse * 256 + d) % 256 = d := by omega
    rw [e1, e2, digits_worth_rev r (fun z hz => h z (.tail _ hz)) more, List.append_assoc]
theorem digits_worth {os : List Int} (h : ∀ z ∈ os, 0 ≤ z ∧ z < 256) (more : Nat) : digits (worth os) (os.length + more) = List.replicate more 0 ++ os := by
  have := digits_worth_rev os.reverse (fun z hz => h z (List.mem_reverse.mp hz)) more
  rwa [List.reverse_reverse, List.length_reverse] at this
theorem worth_lt_rev : ∀ (rs : List Int), (∀ z ∈ rs, 0 ≤ z ∧ z < 256) → 0 ≤ worth rs.reverse ∧ worth rs.reverse < 256 ^ rs.length
  | [], _ => by show (0 : Int) ≤ 0 ∧ (0 : Int) < 256 ^ 0; decide
  | d :: r, h => by
    have hd := h d (.head _)
    obtain ⟨h0, h1⟩ := worth_lt_rev r fun z hz => h z (.tail _ hz)
    rw [List.reverse_cons, worth_snoc, List.length_cons, Int.pow_succ]
    omega
theorem worth_lt {os : List Int} (h : ∀ z ∈ os, 0 ≤ z ∧ z < 256) : 0 ≤ worth os ∧ worth os < 256 ^ os.length := by
  have := worth_lt_rev os.reverse (fun z hz => h z (List.mem_reverse.mp hz))
  rwa [List.reverse_reverse, List.length_reverse] at this
theorem put_digits {number many : Int} (hm : 0 ≤ many) : List.map (fun k' => Builtin.bitAnd (number.fdiv (2 ^ (8 * k').toNat)) 255) (downKs (many - 1) (many - 1 - -1).toNat) = digits number many.toNat := by
  unfold downKs digits
  have e : (many - 1 - -1).toNat = many.toNat := by omega
  rw [e, List.map_map]
  apply List.map_congr_left
  intro i hi
  have hi := List.mem_range.mp hi
  simp only [Function.comp]
  rw [bitAnd_m8]
  have e2 : (8 * (many - 1 - (i : Int))).toNat = 8 * (many.toNat - 1 - i) := by omega
  rw [e2, pow256, Int.fdiv_eq_ediv_of_nonneg _ (Int.le_of_lt (pow256_pos _))]
theorem pow_many {many : Int} (hm : 0 ≤ many) : (1 : Int) * 2 ^ (8 * many).toNat = 256 ^ many.toNat := by
  have e2 : (8 * many).toNat = 8 * many.toNat := by omega
  rw [e2, pow256, Int.one_mul]
end
theorem offC5 : True := by
  w_top off
  trivial
section
section
local macro_rules | `(tactic| walk_at "exec Raise some none") => `(tactic| (k_here; k_dflt (refine' raise_own (C := 56) ?kX ?kh ?km ?_; (case kX => k_asm); (case kh => exact rfl); (case km => exact exc56 _))))
local macro_rules | `(tactic| walk_at "call ref") => `(tactic| (k_here; (with_reducible show wpAny _ _ (call (Value.ref 56) _) _ _ _); k_dflt (refine' exc_spec ?k1 ?k2 ?k3 ?k4 ?k5 ?kA ?kF ?kK ?kC ?kd ?kR; (case k2 => k_asm); (case k1 => k_asm); (case k3 => k_asm); (case k4 => k_asm); (case k5 => k_asm); (case kA => exact rfl); (case kF => exact rfl); (case kK => exact rfl); (case kC => exact .inl rfl); (case kd => ktr_room)); intro e9 oe9 t9 h9 tk9 c9 d9 n9 F9 N9; (try dsimp only); (try k_fold)))
local macro_rules | `(tactic| walk_at "eval ListComp") => `(tactic| (k_here; k_dflt (refine ListComp_D (F₀ := by k_asm) (by with_unfolding_all rfl) (by decide) (by rfl) (by decide) (by rfl) ?_)))
local macro_rules | `(tactic| walk_at "SrcD") => `(tactic| (k_here; k_dflt (refine SrcD.intro (by rfl) (by k_asm) (by k_asm) (by assumption) (small_down (by omega) (by omega) (by omega) (by omega)) (rangeSize_downNat _ _) (by rw [PySem.sizeLine_eq]; omega) ?_; intro g'; (refine' kcf_down _ (fun k' t' I' oI' C' oC' D' m' ys' h' tk' E' hlo' hhi' hC' hx' F' N' off' ne' hMark' => ?_) ?_); (all_goals (try (simp only [LCg.Off3, and_true] at off'))); kcf_last)))
/-- 2 to the 256th, hidden -/
def B256 : Int := 2 ^ 256
theorem newsTail1 {L : Addr} {h₀ h : Heap} {x : Addr × Obj} {r : List (Addr × Obj)} (N : News h₀ L h (x :: r)) : News h₀ L h r := fun q hq => N q (.tail _ hq)
theorem put_spec {w : World} {p : Program} {loose : List Str} {mean : ExcName → Option Value} {mg mb : Str → Option Value}
   {dp un : Nat} {gd : Option (List Code)} {cn : Str} {cs : Scope} {a : Addr} {ccd : Value} {cl : List (Str × Addr)} {outer : List Env} {A₀ : Around} {base h₀ : Heap} {L : Addr} {m : Str → Option Value} {s : Shared} {Q E : Value → Shared → Prop}
   {news : List (Addr × Obj)} {number many : Int} {tn tm : Tok}
   (B : Below A₀ base outer h₀) (F : Fr h₀ L s.heap m) (X : (hd.heap_39 w.params).In h₀) (N : News h₀ L s.heap news) (T : Top p loose mean mg mb h₀) (hk : cs.kind = .function)
   (hm0 : 0 ≤ many) (hm : many ≤ 16) (hlo : - B256 < number) (hhi : number < B256)
   (hd : dp + 3 < recursionLimit) (hu : un + 8 < cLine)
   (hret : ∀ (t : Tok) (h' : Heap) (tk' : Nat), 0 ≤ number → number < 256 ^ many.toNat → Fr h₀ L h' m → News h₀ L h' news →
      Q (.bytes (byteArr (digits number many.toNat)) t) { s with heap := h', toks := tk' })
   (hexc : ∀ (e : Addr) (G h' : Heap) (tk' : Nat), ¬ (0 ≤ number ∧ number < 256 ^ many.toNat) → Fr h₀ L G m → RaisedSN base G (envX cn cs L a ccd cl :: outer) e (.ref 56) news h' → G.UpToSlots h' → E (.ref e) { s with heap := h', toks := tk' }) :
   wpAny (model PySem.Challenge.rw_xm0974_01.row.prog w) (ktrTop dp un gd cn cs L a ccd cl outer) (call (.ref 63) [.int number tn, .int many tm]) Q E s := by
  revert X; k_fill; intro X
  refine wpAny_call ?_
  k_dflt ((refine' code_defC ?k1 ?k2 ?k3 ?k4 ?k5 ?kA ?kF ?kK ?k6 ?k7 ?k8 ?k9 ?kB ?kD ?_ ?c2 ?c3 ?c4; (case kA => exact rfl); (case kF => exact rfl); (case kK => first | assumption | exact rfl); (case k1 => k_asm); (case k2 => k_asm); (case k3 => k_asm); (case k4 => k_asm); (case k5 => k_asm); (case k6 => k_is); (case k7 => k_is); (case k8 => ktr_room); (case k9 => exact BindsTo.of_eq rfl); (case kB => exact rfl); (case kD => decide +kernel); (case c2 => exact rfl); (case c3 => exact rfl); (case c4 => exact rfl); k_whole; intro g' L' h' tk' cells' FG' F' N' Y' B' X' T' l1; (try k_lt l1); k_cells Y'; (try simp only [List.cons_append, List.nil_append] at N'); (try dsimp only); (try k_lift B'); (try k_fold)))
  k_steps
  all_goals (try k_steps)
  · (rename IntsAre _ _ => hI); (rename News _ _ _ _ => hN)
    rw [put_digits hm0] at hI
    refine KBa.make_K (by assumption) hN rfl ⟨_, (hN _ (.head _)).1, rfl, _, rfl⟩ hI digits_in (by rw [digits_length]; omega) ?_
    intro h' t' k' F' N' _
    (rename number < _ => hlt)
    rw [pow_many hm0] at hlt
    k_steps
    exact hret _ _ _ (by assumption) hlt (by assumption) (newsTail1 (newsTail1 (by assumption)))
  · (rename News _ _ _ _ => hN)
    exact (hN _ (.head _)).1
  · (rename ¬ (number < _) => hlt)
    rw [pow_many hm0] at hlt
    refine leave_own (by assumption) (by assumption) (by assumption) (by assumption) rfl rfl (by assumption) (by assumption) fun h' R U => ?_
    exact hexc _ _ _ _ (fun q => hlt q.2) (by assumption) (raisedTail R) U
  · (k_here; (with_reducible show wpAny _ _ (call (Value.ref 56) _) _ _ _))
    refine' exc_spec ?k1 ?k2 ?k3 ?k4 ?k5 ?kA ?kF ?kK ?kC ?kd ?kR
    (case k2 => k_asm)
    (case k1 => k_asm)
    (case k3 => k_asm)
    (case k4 => k_asm)
    (case k5 => k_asm)
    (case kA => exact rfl); (case kF => exact rfl); (case kK => exact rfl); (case kC => exact .inl rfl); (case kd => ktr_room)
    intro e9 oe9 t9 h9 tk9 c9 d9 n9 F9 N9
    refine ⟨_, _, _, rfl, (N9 _ (.head _)).1, c9, d9, Frag.In.keeps (by assumption) F9.keep, ?_⟩
    refine leave_own (by assumption) F9 N9 n9 rfl rfl c9 d9 fun h' R U => ?_
    exact hexc _ _ _ _ (fun q => absurd q.1 (by assumption)) (by assumption) (raisedTail R) U
end
end
theorem offC6 : True := by
  w_top off
  trivial
section
section
local macro_rules | `(tactic| walk_at "call ref") => `(tactic| (k_here; (with_reducible show wpAny _ _ (call (Value.ref 63) _) _ _ _); k_dflt (refine' put_spec ?k1 ?k2 ?k3 ?k4 ?k5 ?kK ?b1 ?b2 ?b3 ?b4 ?kd ?ku ?kR ?kE; (case k1 => k_asm); (case k2 => k_asm); (case k3 => k_asm); (case k4 => k_asm); (case k5 => k_asm); (case kK => first | exact rfl | assumption); (case b1 => decide); (case b2 => decide); (case b3 => assumption); (case b4 => assumption); (case kd => ktr_room); (case ku => ktr_units)); (case' kR => (intro t9 h9 tk9 c9 d9 F9 N9; (try dsimp only); (try k_fold))); (case' kE => (intro e9 G9 h9 tk9 c9 F9 R9 U9; (try dsimp only); (try k_fold)))))
theorem put16_spec {w : World} {p : Program} {loose : List Str} {mean : ExcName → Option Value} {mg mb : Str → Option Value}
   {dp un : Nat} {gd : Option (List Code)} {cn : Str} {cs : Scope} {a : Addr} {ccd : Value} {cl : List (Str × Addr)} {outer : List Env} {A₀ : Around} {base h₀ : Heap} {L : Addr} {m : Str → Option Value} {s : Shared} {Q E : Value → Shared → Prop}
   {news : List (Addr × Obj)} {number : Int} {tn : Tok}
   (B : Below A₀ base outer h₀) (F : Fr h₀ L s.heap m) (X : (hd.heap_39 w.params).In h₀) (N : News h₀ L s.heap news) (T : Top p loose mean mg mb h₀) (hk : cs.kind = .function)
   (hlo : - B256 < number) (hhi : number < B256) (hd : dp + 4 < recursionLimit) (hu : un + 16 < cLine)
   (hret : ∀ (t : Tok) (h' : Heap) (tk' : Nat), 0 ≤ number → number < 256 ^ 2 → Fr h₀ L h' m → News h₀ L h' news → Q (.bytes (byteArr (digits number 2)) t) { s with heap := h', toks := tk' })
   (hexc : ∀ (e : Addr) (G h' : Heap) (tk' : Nat), ¬ (0 ≤ number ∧ number < 256 ^ 2) → Fr h₀ L G m → RaisedSN base G (envX cn cs L a ccd cl :: outer) e (.ref 56) news h' → G.UpToSlots h' → E (.ref e) { s with heap := h', toks := tk' }) :
   wpAny (model PySem.Challenge.rw_xm0974_01.row.prog w) (ktrTop dp un gd cn cs L a ccd cl outer) (call (.ref 77) [.int number tn]) Q E s := by
  revert X; k_fill; intro X
  refine wpAny_call ?_
  k_dflt cell_enter
  k_steps
  · refine leave_onSN (by assumption) (by assumption) (by assumption) (by assumption) fun h' R _ U => ?_
    exact hexc _ _ _ _ (by assumption) (by assumption) R U
  · exact hret _ _ _ (by assumption) (by assumption) (by assumption) (by assumption)
theorem put32_spec {w : World} {p : Program} {loose : List Str} {mean : ExcName → Option Value} {mg mb : Str → Option Value}
   {dp un : Nat} {gd : Option (List Code)} {cn : Str} {cs : Scope} {a : Addr} {ccd : Value} {cl : List (Str × Addr)} {outer : List Env} {A₀ : Around} {base h₀ : Heap} {L : Addr} {m : Str → Option Value} {s : Shared} {Q E : Value → Shared → Prop}
   {news : List (Addr × Obj)} {number : Int} {tn : Tok}
   (B : Below A₀ base outer h₀) (F : Fr h₀ L s.heap m) (X : (hd.heap_39 w.params).In h₀) (N : News h₀ L s.heap news) (T : Top p loose mean mg mb h₀) (hk : cs.kind = .function)
   (hlo : - B256 < number) (hhi : number < B256) (hd : dp + 4 < recursionLimit) (hu : un + 16 < cLine)
   (hret : ∀ (t : Tok) (h' : Heap) (tk' : Nat), 0 ≤ number → number < 256 ^ 4 → Fr h₀ L h' m → News h₀ L h' news → Q (.bytes (byteArr (digits number 4)) t) { s with heap := h', toks := tk' })
   (hexc : ∀ (e : Addr) (G h' : Heap) (tk' : Nat), ¬ (0 ≤ number ∧ number < 256 ^ 4) → Fr h₀ L G m → RaisedSN base G (envX cn cs L a ccd cl :: outer) e (.ref 56) news h' → G.UpToSlots h' → E (.ref e) { s with heap := h', toks := tk' }) :
   wpAny (model PySem.Challenge.rw_xm0974_01.row.prog w) (ktrTop dp un gd cn cs L a ccd cl outer) (call (.ref 84) [.int number tn]) Q E s := by
  revert X; k_fill; intro X
  refine wpAny_call ?_
  k_dflt cell_enter
  k_steps
  · refine leave_onSN (by assumption) (by assumption) (by assumption) (by assumption) fun h' R _ U => ?_
    exact hexc _ _ _ _ (by assumption) (by assumption) R U
  · exact hret _ _ _ (by assumption) (by assumption) (by assumption) (by assumption)
theorem put48_spec {w : World} {p : Program} {loose : List Str} {mean : ExcName → Option Value} {mg mb : Str → Option Value}
   {dp un : Nat} {gd : Option (List Code)} {cn : Str} {cs : Scope} {a : Addr} {ccd : Value} {cl : List (Str × Addr)} {outer : List Env} {A₀ : Around} {base h₀ : Heap} {L : Addr} {m : Str → Option Value} {s : Shared} {Q E : Value → Shared → Prop}
   {news : List (Addr × Obj)} {number : Int} {tn : Tok}
   (B : Below A₀ base outer h₀) (F : Fr h₀ L s.heap m) (X : (hd.heap_39 w.params).In h₀) (N : News h₀ L s.heap news) (T : Top p loose mean mg mb h₀) (hk : cs.kind = .function)
   (hlo : - B256 < number) (hhi : number < B256) (hd : dp + 4 < recursionLimit) (hu : un + 16 < cLine)
   (hret : ∀ (t : Tok) (h' : Heap) (tk' : Nat), 0 ≤ number → number < 256 ^ 6 → Fr h₀ L h' m → News h₀ L h' news → Q (.bytes (byteArr (digits number 6)) t) { s with heap := h', toks := tk' })
   (hexc : ∀ (e : Addr) (G h' : Heap) (tk' : Nat), ¬ (0 ≤ number ∧ number < 256 ^ 6) → Fr h₀ L G m → RaisedSN base G (envX cn cs L a ccd cl :: outer) e (.ref 56) news h' → G.UpToSlots h' → E (.ref e) { s with heap := h', toks := tk' }) :
   wpAny (model PySem.Challenge.rw_xm0974_01.row.prog w) (ktrTop dp un gd cn cs L a ccd cl outer) (call (.ref 91) [.int number tn]) Q E s := by
  revert X; k_fill; intro X
  refine wpAny_call ?_
  k_dflt cell_enter
  k_steps
  · refine leave_onSN (by assumption) (by assumption) (by assumption) (by assumption) fun h' R _ U => ?_
    exact hexc _ _ _ _ (by assumption) (by assumption) R U
  · exact hret _ _ _ (by assumption) (by assumption) (by assumption) (by assumption)
end
end
theorem offP3 : True := by
  w_top off
  trivial
section
theorem bitAnd_nat (a b : Nat) : Builtin.bitAnd (a : Int) (b : Int) = ((a &&& b : Nat) : Int) := by
  unfold Builtin.bitAnd
  simp
theorem bitAnd_low (w k : Nat) (hk : k < 256) : Builtin.bitAnd ((w * 256 : Nat) : Int) (k : Int) = 0 := by
  rw [bitAnd_nat]
  have e : k = 255 &&& k := by
    rw [Nat.and_comm, show (255 : Nat) = 2 ^ 8 - 1 by decide, Nat.and_two_pow_sub_one_eq_mod]
    omega
  rw [e, ← Nat.and_assoc, show (255 : Nat) = 2 ^ 8 - 1 by decide, Nat.and_two_pow_sub_one_eq_mod, show w * 256 % 2 ^ 8 = 0 by omega]
  simp
theorem bitOr_low {w k : Int} (hw : 0 ≤ w) (h0 : 0 ≤ k) (hk : k < 256) : Builtin.bitOr (w * 2 ^ (8 : Int).toNat) k = w * 256 + k := by
  obtain ⟨a, rfl⟩ := Int.eq_ofNat_of_zero_le hw
  obtain ⟨b, rfl⟩ := Int.eq_ofNat_of_zero_le h0
  have e : ((a : Int) * 2 ^ (8 : Int).toNat) = ((a * 256 : Nat) : Int) := by
    show (a : Int) * 256 = _
    omega
  rw [e, bitOr_and, bitAnd_low a b (by omega)]
  omega
theorem worth_bits {pre : List Int} (hl : pre.length ≤ 16) (hv : ∀ z ∈ pre, 0 ≤ z ∧ z < 256) : Builtin.Int.intBits (worth pre) ≤ 128 := by
  refine intBits_le_iff.mpr ?_
  obtain ⟨h0, h1⟩ := worth_lt hv
  have h2 : (256 : Int) ^ pre.length ≤ 256 ^ 16 := by
    have := Nat.pow_le_pow_right (n := 256) (by decide) hl
    exact_mod_cast this
  have h3 : (256 : Int) ^ 16 = ((2 ^ 128 : Nat) : Int) := by decide
  omega
theorem shl_worth {f : Int} {pre : List Int} (e : f = worth pre) (hl : pre.length ≤ 16) (hv : ∀ z ∈ pre, 0 ≤ z ∧ z < 256) : (Builtin.Int.intBits f : Int) + 8 ≤ 2 ^ 27 := by
  subst e
  have := worth_bits hl hv
  have e : (2 : Int) ^ 27 = 134217728 := by decide
  rw [e]
  omega
theorem worth_turn {f k : Int} {pre : List Int} (e : f = worth pre) (hv : ∀ z ∈ pre, 0 ≤ z ∧ z < 256) (h0 : 0 ≤ k) (hk : k < 256) : Builtin.bitOr (f * 2 ^ (8 : Int).toNat) k = worth (pre ++ [k]) := by
  subst e
  rw [bitOr_low (worth_lt hv).1 h0 hk, worth_snoc]
theorem len_turn {ks pre post : List Int} {k : Int} {n m : Nat} (e : List.take n (List.drop m ks) = pre ++ k :: post) (h : ks.length ≤ 16) : (pre ++ [k]).length ≤ 16 := by
  have := congrArg List.length e
  rw [List.length_take, List.length_drop, List.length_append, List.length_cons] at this
  rw [List.length_append, List.length_singleton]
  omega
theorem all_turn {pre : List Int} {k : Int} (hv : ∀ z ∈ pre, 0 ≤ z ∧ z < 256) (h0 : 0 ≤ k) (hk : k < 256) : ∀ z ∈ pre ++ [k], 0 ≤ z ∧ z < 256 := fun z hz => by
  rcases List.mem_append.mp hz with hz | hz
  · exact hv z hz
  · rw [List.mem_singleton.mp hz]; exact ⟨h0, hk⟩
theorem cut_eq {ks : List Int} {a n : Int} (h0 : 0 ≤ a) (hn : 0 ≤ n) (h1 : a + n ≤ (ks.length : Int)) : List.take (clipAt ks.length (a + n) - clipAt ks.length a) (List.drop (clipAt ks.length a) ks) = (ks.drop a.toNat).take n.toNat := by
  rw [clipAt_in (by omega) h1, clipAt_in h0 (by omega)]
  congr 1
  omega
end
theorem offC7 : True := by
  w_top off
  trivial
section
section
local macro_rules | `(tactic| walk_at "exec Raise some none") => `(tactic| (k_here; k_dflt (refine' raise_own (C := 44) ?kX ?kh ?km ?_; (case kX => k_asm); (case kh => exact rfl); (case km => exact exc44 _))))
local macro_rules | `(tactic| walk_at "call ref") => `(tactic| (k_here; (with_reducible show wpAny _ _ (call (Value.ref 44) _) _ _ _); k_dflt (refine' exc_spec ?k1 ?k2 ?k3 ?k4 ?k5 ?kA ?kF ?kK ?kC ?kd ?kR; (case k2 => k_asm); (case k1 => k_asm); (case k3 => k_asm); (case k4 => k_asm); (case k5 => k_asm); (case kA => exact rfl); (case kF => exact rfl); (case kK => exact rfl); (case kC => exact .inr rfl); (case kd => ktr_room)); intro e9 oe9 t9 h9 tk9 c9 d9 n9 F9 N9; (try dsimp only); (try k_fold)))
local macro_rules | `(tactic| walk_at "exec For Name Subscript cons nil") => `(tactic| (k_here; (rename Fr _ _ _ _ => lF'); (with_unfolding_all refine' For_invVF lF' ?k1 ?k2 ?_; (case k1 => exact rfl); (case k2 => exact rfl); k_whole)))
def Stop (P : Prop) : Prop := P
theorem Stop.mk {P : Prop} (h : Stop P) : P := h
local macro_rules | `(tactic| walk_at "pyIter bytes") => `(tactic| (k_here; (with_reducible show wpAny _ _ (pyIter (Value.bytes _ _)) _ _ _); refine Stop.mk ?_))
local macro_rules | `(tactic| walk_at "binaryOp LShift int int") => `(tactic| (k_here; refine lshift_int (by decide) (shl_worth (by assumption) (by assumption) (by assumption)) ?_))
theorem get_spec {w : World} {p : Program} {loose : List Str} {mean : ExcName → Option Value} {mg mb : Str → Option Value}
   {dp un : Nat} {gd : Option (List Code)} {cn : Str} {cs : Scope} {a : Addr} {ccd : Value} {cl : List (Str × Addr)} {outer : List Env} {A₀ : Around} {base h₀ : Heap} {L : Addr} {m : Str → Option Value} {s : Shared} {Q E : Value → Shared → Prop}
   {news : List (Addr × Obj)} {bs : Array UInt8} {ks : List Int} {at' many : Int} {tb ta tm : Tok}
   (B : Below A₀ base outer h₀) (F : Fr h₀ L s.heap m) (X : (hd.heap_39 w.params).In h₀) (N : News h₀ L s.heap news) (T : Top p loose mean mg mb h₀) (hk : cs.kind = .function)
   (hb : KBw.bInts bs = ks) (hlen : ks.length ≤ 16) (ha1 : -32 ≤ at') (ha2 : at' ≤ 32) (hm0 : 0 ≤ many) (hm : many ≤ 16)
   (hd : dp + 3 < recursionLimit) (hu : un + 8 < cLine)
   (hret : ∀ (t : Tok) (h' : Heap) (tk' : Nat), 0 ≤ at' → at' + many ≤ (ks.length : Int) → Fr h₀ L h' m → News h₀ L h' news →
      Q (.int (worth ((ks.drop at'.toNat).take many.toNat)) t) { s with heap := h', toks := tk' })
   (hexc : ∀ (e : Addr) (G h' : Heap) (tk' : Nat), ¬ (0 ≤ at' ∧ at' + many ≤ (ks.length : Int)) → Fr h₀ L G m → RaisedSN base G (envX cn cs L a ccd cl :: outer) e (.ref 44) news h' → G.UpToSlots h' → E (.ref e) { s with heap := h', toks := tk' }) :
   wpAny (model PySem.Challenge.rw_xm0974_01.row.prog w) (ktrTop dp un gd cn cs L a ccd cl outer) (call (.ref 70) [.bytes bs tb, .int at' ta, .int many tm]) Q E s := by
  revert X; k_fill; intro X
  refine wpAny_call ?_
  k_dflt cell_enter
  k_steps
  · (rename News _ _ _ _ => hN)
    exact (hN _ (.head _)).1
  · refine leave_own (by assumption) (by assumption) (by assumption) (by assumption) rfl rfl (by assumption) (by assumption) fun h' R U => ?_
    exact hexc _ _ _ _ (fun q => absurd q.1 (Int.not_le.mpr (by assumption))) (by assumption) R U
  · (k_here; (with_reducible show wpAny _ _ (call (Value.ref 44) _) _ _ _))
    refine' exc_spec ?k1 ?k2 ?k3 ?k4 ?k5 ?kA ?kF ?kK ?kC ?kd ?kR
    (case k2 => k_asm)
    (case k1 => k_asm)
    (case k3 => k_asm)
    (case k4 => k_asm)
    (case k5 => k_asm)
    (case kA => exact rfl); (case kF => exact rfl); (case kK => exact rfl); (case kC => exact .inr rfl); (case kd => ktr_room)
    intro e9 oe9 t9 h9 tk9 c9 d9 n9 F9 N9
    refine ⟨_, _, _, rfl, (N9 _ (.head _)).1, c9, d9, Frag.In.keeps (by assumption) F9.keep, ?_⟩
    refine leave_own (by assumption) F9 N9 n9 rfl rfl c9 d9 fun h' R U => ?_
    exact hexc _ _ _ _ (fun q => absurd q.2 (Int.not_le.mpr (by assumption))) (by assumption) R U
  · unfold Stop
    k_state (fun pre f => f = worth pre ∧ pre.length ≤ 16 ∧ ∀ z ∈ pre, 0 ≤ z ∧ z < 256) "found"
    · k_with "state" => exact ⟨worth_turn (by assumption) (by assumption) (by assumption) (by assumption), len_turn (by assumption) (by assumption), all_turn (by assumption) (by assumption) (by assumption)⟩
      k_steps
    · k_steps
      refine ret_int (y := worth ((ks.drop at'.toNat).take many.toNat)) ?_ (hret _ _ _ (by omega) (by omega) (by assumption) (by assumption))
      rw [← cut_eq (by omega) hm0 (by omega)]
      assumption
end
end
theorem offC8 : True := by
  w_top off
  trivial
section
section
local macro_rules | `(tactic| walk_at "call ref") => `(tactic| (k_here; (with_reducible show wpAny _ _ (call (Value.ref 70) _) _ _ _); k_dflt (refine' get_spec ?k1 ?k2 ?k3 ?k4 ?k5 ?kK ?b1 ?b2 ?b3 ?b4 ?b5 ?b6 ?kd ?ku ?kR ?kE; (case k1 => k_asm); (case k2 => k_asm); (case k3 => k_asm); (case k4 => k_asm); (case k5 => k_asm); (case kK => first | exact rfl | assumption); (case b1 => assumption); (case b2 => assumption); (case b3 => assumption); (case b4 => assumption); (case b5 => decide); (case b6 => decide); (case kd => ktr_room); (case ku => ktr_units)); (case' kR => (intro t9 h9 tk9 c9 d9 F9 N9; (try dsimp only); (try k_fold))); (case' kE => (intro e9 G9 h9 tk9 c9 F9 R9 U9; (try dsimp only); (try k_fold)))))
theorem get16_spec {w : World} {p : Program} {loose : List Str} {mean : ExcName → Option Value} {mg mb : Str → Option Value}
   {dp un : Nat} {gd : Option (List Code)} {cn : Str} {cs : Scope} {a : Addr} {ccd : Value} {cl : List (Str × Addr)} {outer : List Env} {A₀ : Around} {base h₀ : Heap} {L : Addr} {m : Str → Option Value} {s : Shared} {Q E : Value → Shared → Prop}
   {news : List (Addr × Obj)} {bs : Array UInt8} {ks : List Int} {at' : Int} {tb ta : Tok}
   (B : Below A₀ base outer h₀) (F : Fr h₀ L s.heap m) (X : (hd.heap_39 w.params).In h₀) (N : News h₀ L s.heap news) (T : Top p loose mean mg mb h₀) (hk : cs.kind = .function)
   (hb : KBw.bInts bs = ks) (hlen : ks.length ≤ 16) (ha1 : -32 ≤ at') (ha2 : at' ≤ 32) (hd : dp + 4 < recursionLimit) (hu : un + 16 < cLine)
   (hret : ∀ (t : Tok) (h' : Heap) (tk' : Nat), 0 ≤ at' → at' + 2 ≤ (ks.length : Int) → Fr h₀ L h' m → News h₀ L h' news → Q (.int (worth ((ks.drop at'.toNat).take 2)) t) { s with heap := h', toks := tk' })
   (hexc : ∀ (e : Addr) (G h' : Heap) (tk' : Nat), ¬ (0 ≤ at' ∧ at' + 2 ≤ (ks.length : Int)) → Fr h₀ L G m → RaisedSN base G (envX cn cs L a ccd cl :: outer) e (.ref 44) news h' → G.UpToSlots h' → E (.ref e) { s with heap := h', toks := tk' }) :
   wpAny (model PySem.Challenge.rw_xm0974_01.row.prog w) (ktrTop dp un gd cn cs L a ccd cl outer) (call (.ref 98) [.bytes bs tb, .int at' ta]) Q E s := by
  revert X; k_fill; intro X
  refine wpAny_call ?_
  k_dflt cell_enter
  k_steps
  · refine leave_onSN (by assumption) (by assumption) (by assumption) (by assumption) fun h' R _ U => ?_
    exact hexc _ _ _ _ (by assumption) (by assumption) R U
  · exact hret _ _ _ (by assumption) (by assumption) (by assumption) (by assumption)
theorem get32_spec {w : World} {p : Program} {loose : List Str} {mean : ExcName → Option Value} {mg mb : Str → Option Value}
   {dp un : Nat} {gd : Option (List Code)} {cn : Str} {cs : Scope} {a : Addr} {ccd : Value} {cl : List (Str × Addr)} {outer : List Env} {A₀ : Around} {base h₀ : Heap} {L : Addr} {m : Str → Option Value} {s : Shared} {Q E : Value → Shared → Prop}
   {news : List (Addr × Obj)} {bs : Array UInt8} {ks : List Int} {at' : Int} {tb ta : Tok}
   (B : Below A₀ base outer h₀) (F : Fr h₀ L s.heap m) (X : (hd.heap_39 w.params).In h₀) (N : News h₀ L s.heap news) (T : Top p loose mean mg mb h₀) (hk : cs.kind = .function)
   (hb : KBw.bInts bs = ks) (hlen : ks.length ≤ 16) (ha1 : -32 ≤ at') (ha2 : at' ≤ 32) (hd : dp + 4 < recursionLimit) (hu : un + 16 < cLine)
   (hret : ∀ (t : Tok) (h' : Heap) (tk' : Nat), 0 ≤ at' → at' + 4 ≤ (ks.length : Int) → Fr h₀ L h' m → News h₀ L h' news → Q (.int (worth ((ks.drop at'.toNat).take 4)) t) { s with heap := h', toks := tk' })
   (hexc : ∀ (e : Addr) (G h' : Heap) (tk' : Nat), ¬ (0 ≤ at' ∧ at' + 4 ≤ (ks.length : Int)) → Fr h₀ L G m → RaisedSN base G (envX cn cs L a ccd cl :: outer) e (.ref 44) news h' → G.UpToSlots h' → E (.ref e) { s with heap := h', toks := tk' }) :
   wpAny (model PySem.Challenge.rw_xm0974_01.row.prog w) (ktrTop dp un gd cn cs L a ccd cl outer) (call (.ref 105) [.bytes bs tb, .int at' ta]) Q E s := by
  revert X; k_fill; intro X
  refine wpAny_call ?_
  k_dflt cell_enter
  k_steps
  · refine leave_onSN (by assumption) (by assumption) (by assumption) (by assumption) fun h' R _ U => ?_
    exact hexc _ _ _ _ (by assumption) (by assumption) R U
  · exact hret _ _ _ (by assumption) (by assumption) (by assumption) (by assumption)
theorem get48_spec {w : World} {p : Program} {loose : List Str} {mean : ExcName → Option Value} {mg mb : Str → Option Value}
   {dp un : Nat} {gd : Option (List Code)} {cn : Str} {cs : Scope} {a : Addr} {ccd : Value} {cl : List (Str × Addr)} {outer : List Env} {A₀ : Around} {base h₀ : Heap} {L : Addr} {m : Str → Option Value} {s : Shared} {Q E : Value → Shared → Prop}
   {news : List (Addr × Obj)} {bs : Array UInt8} {ks : List Int} {at' : Int} {tb ta : Tok}
   (B : Below A₀ base outer h₀) (F : Fr h₀ L s.heap m) (X : (hd.heap_39 w.params).In h₀) (N : News h₀ L s.heap news) (T : Top p loose mean mg mb h₀) (hk : cs.kind = .function)
   (hb : KBw.bInts bs = ks) (hlen : ks.length ≤ 16) (ha1 : -32 ≤ at') (ha2 : at' ≤ 32) (hd : dp + 4 < recursionLimit) (hu : un + 16 < cLine)
   (hret : ∀ (t : Tok) (h' : Heap) (tk' : Nat), 0 ≤ at' → at' + 6 ≤ (ks.length : Int) → Fr h₀ L h' m → News h₀ L h' news → Q (.int (worth ((ks.drop at'.toNat).take 6)) t) { s with heap := h', toks := tk' })
   (hexc : ∀ (e : Addr) (G h' : Heap) (tk' : Nat), ¬ (0 ≤ at' ∧ at' + 6 ≤ (ks.length : Int)) → Fr h₀ L G m → RaisedSN base G (envX cn cs L a ccd cl :: outer) e (.ref 44) news h' → G.UpToSlots h' → E (.ref e) { s with heap := h', toks := tk' }) :
   wpAny (model PySem.Challenge.rw_xm0974_01.row.prog w) (ktrTop dp un gd cn cs L a ccd cl outer) (call (.ref 112) [.bytes bs tb, .int at' ta]) Q E s := by
  revert X; k_fill; intro X
  refine wpAny_call ?_
  k_dflt cell_enter
  k_steps
  · refine leave_onSN (by assumption) (by assumption) (by assumption) (by assumption) fun h' R _ U => ?_
    exact hexc _ _ _ _ (by assumption) (by assumption) R U
  · exact hret _ _ _ (by assumption) (by assumption) (by assumption) (by assumption)
end
end
theorem offB6 : True := by
  w_top off
  trivial
section
section
open PySem.Calls PySem.Spec
variable {prog : Program} {w : World} {A₀ A : Around} {s : Shared} {base h₀ : Heap} {outer : List Env} {env : Env} {L a : Addr} {m : Str → Option Value} {news : List (Addr × Obj)} {K : Frag} {p : Program} {loose : List Str} {mean : ExcName → Option Value} {mg mb : Str → Option Value}
    {R : Result → Shared → Prop} {name qual : Str} {params : Arguments} {body : List Stmt} {scope : Scope} {dV kV doc pm cdv ct oc : Value} {an od : Option Addr} {osl : Array (Option Value)} {f : Addr} {args : Args} {binds : List (Str × Value)}
/-- how a def whose frames' slots may have turned is left -/
theorem leaveT (B : Below A₀ base outer h₀) (F : Fr h₀ L s.heap m) (N : News h₀ L s.heap news) (XB : K.In base) (TB : Top p loose mean mg mb base) (D : KtsDicts (outer.filterMap (·.frame)) h₀)
    (hA : A.frames = some (env :: outer)) (hf : env.frame = some L) (hke : env.scope.kind = .function) {v : Value} {s' : Shared}
    (hl : LeaveS ((env :: outer).filterMap (·.frame)) A₀ base outer K p loose mean mg mb h₀ h₀ L m (hideAll s.heap (news.map (·.1))) R v s') : R (.ok (.ret v)) s' := by
  obtain ⟨FG, BG, st, lv⟩ := groundX (R := R) B F N hA hf hke
  obtain ⟨oL, es, ep, hLg, hLd, hLk, hLf⟩ := FG.ns
  have hNs : ∀ (sl : Array (Option Value)) h', h'.get? L = some { oL with slots := sl } → Heap.Ns h' L m := fun sl h' e => ⟨_, es, ep, e, hLd, hLk, hLf⟩
  have nL₀ : h₀.get? L = none := kts_self F
  rcases hl with ⟨L', m', news', F', N', k⟩ | ⟨g', L', m', news', T', F', N', k⟩
  · exact lv v s' ⟨L', m', news', F', N', k⟩
  obtain ⟨sl, hs⟩ := T'.up hLg
  obtain ⟨T₁, S₁⟩ := kts_turn_at (h := s'.heap) (fs := outer.filterMap (·.frame)) (g := h₀)
    (fun b hb => by
      obtain ⟨_, o, ho', _⟩ := B.frames.mem hb
      exact ⟨o, ho'⟩)
    (fun b o e nmem => F'.keep b o (T'.other b o (st b o e) (fun q => by
      rcases frame_mem hf q with z | z
      · rw [z, nL₀] at e
        cases e
      · exact nmem z)))
    (fun b o e hm => by
      obtain ⟨sl', hs'⟩ := T'.up (st b o e)
      exact ⟨sl', F'.keep _ _ hs'⟩)
  have B₃ : Below A₀ base outer (ktsHeap s'.heap (outer.filterMap (·.frame)) h₀) := ⟨B.stack, fun b o e => T₁.other b o (B.stays b o e) (fun hm => by
    rw [(B.frames.mem hm).1] at e
    cases e), B.frames.of_keeps fun b o e _ => by
    obtain ⟨sl', hs'⟩ := T₁.up e
    exact ⟨_, hs', rfl⟩⟩
  refine k _ T₁ ⟨hNs sl _ (F'.keep _ _ hs), S₁, by rw [T₁.size]; exact F.above⟩ (fun p hp => ⟨(N' p hp).1, fun q => ?_, ?_⟩) B₃ (XB.keeps B₃.stays) (TB.keeps B₃.stays) (D.turn T₁)
  · have := (N' p hp).2.2; rw [q, hs] at this; cases this
  · refine T₁.none_ _ ?_
    cases q : h₀.get? p.1 with
    | none => rfl
    | some o =>
      obtain ⟨sl', hs'⟩ := T'.up (st _ _ q)
      have := (N' p hp).2.2
      rw [hs'] at this
      cases this
theorem dictsT (F : Fr h₀ L s.heap m) (D : KtsDicts (outer.filterMap (·.frame)) h₀) (hf : env.frame = some L) {g : Heap} (FG : Fr h₀ L g m) : KtsDicts ((env :: outer).filterMap (·.frame)) g := fun b hb => by
  rcases frame_mem hf hb with rfl | hb
  · obtain ⟨oL, es, ep, hL, hLd, _⟩ := FG.ns
    exact ⟨oL, es, ep, hL, hLd⟩
  · obtain ⟨o, es', n', ho', hd'⟩ := D b hb
    exact ⟨o, es', n', FG.keep b o ho', hd'⟩
/-- a call of a def that catches, or whose callees do: any caller's frame -/
theorem code_try (B : Below A₀ base outer h₀) (F : Fr h₀ L s.heap m) (X₀ : K.In h₀) (N : News h₀ L s.heap news) (T : Top p loose mean mg mb h₀) (XB : K.In base) (TB : Top p loose mean mg mb base) (D : KtsDicts (outer.filterMap (·.frame)) h₀)
    (hA : A.frames = some (env :: outer)) (hf : env.frame = some L) (hke : env.scope.kind = .function)
    (ho : K.lookup f = some ⟨oc, od, .func (fnOf name qual params body scope dV kV doc pm an cdv ct), osl⟩) (hcd : codeIn K cdv qual = true) (hroom : A.depth < recursionLimit)
    (hbind : BindsTo s (fnOf name qual params body scope dV kV doc pm an cdv ct) args binds) (hloc : ∀ y ∈ binds, scope.names.lookup y.1 = some .local)
    (h : ∀ g L' h₁, Fr h₀ L g m → Fr g L' h₁ (fun y => binds.reverse.lookup y) → News g L' h₁ news → Below A base (env :: outer) g → K.In g → Top p loose mean mg mb g → KtsDicts ((env :: outer).filterMap (·.frame)) g →
      wpAny (model prog w) (A.deeper (envOf qual scope L' f cdv)) (execs body (envOf qual scope L' f cdv))
        (fun fl s' => LeaveS ((env :: outer).filterMap (·.frame)) A₀ base outer K p loose mean mg mb h₀ h₀ L m g R (match fl with | .ret v => v | _ => .none) s')
        (fun e s' => wpAny (model prog w) (A.deeper (envOf qual scope L' f cdv)) (leaving (envOf qual scope L' f cdv) e) (fun _ s'' => R (.error e) s'') (fun e' s'' => R (.error e') s'') s')
        { s with heap := h₁, toks := s.toks + binds.length })
    (hco : scope.isCoroutine = false) (hgen : scope.isGenerator = false) (hk : scope.kind = .function)
    (hcell : ∀ x ∈ scope.names, x.2 ≠ .cell) : codeAny (model prog w) A (.call (.ref f) args) R s := by
  have X := X₀.keeps F.keep
  obtain ⟨FG, BG, st, lv⟩ := groundX (R := R) B F N hA hf hke
  refine codeAny_call_def (fd := fnOf name qual params body scope dV kV doc pm an cdv ct) (body := body) (binds := binds) hroom (X _ _ ho) rfl (T.nolimit.keeps F.keep) (codeRec_of X hcd) rfl hbind hcell hloc (fun h₁ hns hk₁ => ?_) hco hgen hk
  exact wpAny_mono (h _ s.heap.objs.size h₁ FG ⟨hns, fun b o e => hk₁ b o (of_hideAll _ e), Nat.le_of_eq (hideAll_size _ _)⟩
    (fun p hp => ⟨hk₁ _ _ (N p hp).1, Nat.ne_of_lt (Heap.lt_size (N p hp).1), hideAll_none _ (List.mem_map_of_mem hp)⟩) BG (X₀.keeps st) (T.keeps st) (dictsT F D hf FG)) (fun fl s' hl => leaveT B F N XB TB D hA hf hke hl) fun _ _ y => y
end
end
theorem offB7 : True := by
  w_top off
  trivial
section
section
open PySem.Calls PySem.Spec
variable {prog : Program} {w : World} {A : Around} {E : Value → Shared → Prop} {s : Shared}
abbrev ByteAt (b : Array UInt8) (i : Nat) (v : Value) : Prop := ∃ c u, b[i]? = some c ∧ v = .int (c.toNat : Int) u
theorem bytes_lenSlot : typeLookup (.type "bytes") "__len__" = pure (some (.builtin "bytes.__len__")) := by rw [typeLookup_type, builtinLookup_eq_fast]; kernel_rfl
theorem extend_bytes {R : Result → Shared → Prop} (hh : A.handled = none) (b : Array UInt8) (t : Tok) (S : Addr) (res : Value) (c₀ : Nat) (hS : s.heap.get? S = some { cls := .type "list", data := .seq #[] c₀ })
    (hR : ∀ h' tk acc' c', (∀ b o, b ≠ S → s.heap.get? b = some o → h'.get? b = some o) → h'.get? S = some { cls := .type "list", dict := none, data := .seq acc' c', slots := #[] } →
      ItemsOf (ByteAt b) acc' b.size → R (.ok (.ret res)) { s with heap := h', toks := tk }) (hn : b.size ≤ sizeLine) :
    wpAny (model prog w) A.in1 (Builtin.List.listExtendWith (.ref S) (.bytes b t) res)
      (fun fin s' => match fin with | .done f => R (.ok f) s' | .again c' => c'.quiet = true ∧ codeAny (model prog w) A c' R s') (fun e s' => R (.error e) s') s := by
  have hSI : S ≠ s.heap.objs.size := Nat.ne_of_lt (Heap.lt_size hS)
  have hSf : S ∉ [s.heap.objs.size] := fun hm => hSI (List.mem_singleton.mp hm)
  unfold Builtin.List.listExtendWith
  refine wpAny_bind (wpAny_typeOf (T := "bytes") (v := .bytes b t) rfl ?_)
  have h1 : Builtin.List.listSameRef (.ref S) (.bytes b t) = false := rfl
  have h2 : (Value.type "bytes" == Value.type "list") = false := by decide
  have h3 : (Value.type "bytes" == Value.type "tuple") = false := by decide
  simp only [h1, h2, h3, Bool.or_false, Bool.false_eq_true, if_false]
  refine wpAny_bind (KBw.pyIter_bytes ?_)
  refine wpAny_bind (wpAny_holding ?_)
  unfold Builtin.List.listLengthHint
  refine wpAny_bind (wpAny_specialOf (T := "bytes") (v := .bytes b t) rfl bytes_lenSlot ?_)
  wp_delta
  refine wpAny_bind (wpAny_isInstance (T := "bytes") (v := .bytes b t) (b := true) rfl (by rw [isSubtype_type]; kernel_rfl) ?_)
  show wpAny _ _ (typeOf (Value.bytes b t) >>= _) _ _ _
  refine wpAny_bind (wpAny_typeOf (T := "bytes") (v := .bytes b t) rfl ?_)
  refine wpAny_pure ?_
  rw [if_neg (by decide)]
  have W := KBw.walks (prog := prog) (w := w) (A := A.in1) hh s.heap.objs.size b t
  refine wpAny_pure ⟨plainId_quiet F.plain_extend_loop _, codeAny_extend_loopS W.toS hn _ hSf _ b.size 0 _ _ _ rfl (Nat.zero_le _) ⟨_, Heap.get?_push_size _ rfl, rfl, rfl⟩ (Heap.get?_push_of_some _ hS) (ItemsOf.nil _) fun s' acc' c' hm hS' hacc => ?_⟩
  rw [Moved.eq_with hm]
  refine hR s'.heap s'.toks acc' c' (fun b ob hb e => hm.heap b ob (fun hmem => ?_) (Heap.get?_push_of_some _ e)) hS' hacc
  rcases List.mem_cons.mp hmem with e' | hmem
  · exact hb e'
  · exact absurd (Heap.lt_size e) (by rw [List.mem_singleton.mp hmem]; exact Nat.lt_irrefl _)
theorem list_bytes {Q : Value → Shared → Prop} (hh : A.handled = none) (b : Array UInt8) (t : Tok)
    (hQ : ∀ h' tk acc' c', (∀ b o, s.heap.get? b = some o → h'.get? b = some o) →
      h'.get? s.heap.objs.size = some { cls := .type "list", dict := none, data := .seq acc' c', slots := #[] } → ItemsOf (ByteAt b) acc' b.size → Q (.ref s.heap.objs.size) { s with heap := h', toks := tk }) (hn : b.size ≤ sizeLine) :
    wpAny (model prog w) A (call (.type "list") [.bytes b t]) Q E s := by
  refine callType_codes (Q₁ := fun obj s₁ => obj = .ref s.heap.objs.size ∧ s₁ = { s with heap := s.heap.push { cls := .type "list", data := .seq #[] } }) F.called_list (F.typeCall_list_1 _) F.entry_list_init
    (code_list_new _ ⟨rfl, rfl⟩) fun obj s₁ h₁ => ?_
  obtain ⟨rfl, rfl⟩ := h₁
  have hS : (s.heap.push { cls := .type "list", data := .seq #[] }).get? s.heap.objs.size = some { cls := .type "list", data := .seq #[] } := Heap.get?_push_size _ rfl
  refine ⟨⟨_, hS, rfl⟩, F.args_list_init_2 _ _, ?_⟩
  show wpAny _ _ (do let old ← Builtin.List.listItems (.ref s.heap.objs.size); Builtin.List.listUpdate (.ref s.heap.objs.size) (fun _ => #[]); letGo old.toList.reverse; Builtin.List.listExtendWith (.ref s.heap.objs.size) (.bytes b t) .none) _ _ _
  refine wpAny_bind ?_
  unfold Builtin.List.listItems
  refine wpAny_bind (wpAny_seqItems hS rfl (wpAny_pure ?_))
  show wpAny _ _ (updateSeq s.heap.objs.size (fun _ => #[]) >>= fun _ => letGo (#[] : Array Value).toList.reverse >>= fun _ => Builtin.List.listExtendWith (.ref s.heap.objs.size) (.bytes b t) .none) _ _ _
  refine wpAny_bind (wpAny_updateSeq hS rfl ?_)
  have hS₂ := Heap.get?_update_self (Obj.mapSeq (fun _ => (#[] : Array Value))) hS rfl
  have oth : ∀ b o, b ≠ s.heap.objs.size → (s.heap.push { cls := .type "list", data := .seq #[] }).get? b = some o → ((s.heap.push { cls := .type "list", data := .seq #[] }).update s.heap.objs.size (Obj.mapSeq (fun _ => (#[] : Array Value)))).get? b = some o :=
    fun b o hb e => (Heap.get?_update_other _ _ (Ne.symm hb)).trans e
  refine wpAny_bind (wpAny_letGo ?_)
  refine extend_bytes (A := A.in1) hh b t s.heap.objs.size .none _ hS₂ (fun h' tk acc' c' hk hS' hacc => ?_) hn
  exact ⟨rfl, hQ h' tk acc' c' (fun b o e => hk b o (Nat.ne_of_lt (Heap.lt_size e)) (oth b o (Nat.ne_of_lt (Heap.lt_size e)) (Heap.get?_push_of_some _ e))) hS' hacc⟩
end
theorem intsAre_of : ∀ {vs : List Value} {ns : List Int}, vs.length = ns.length → (∀ (j : Nat) (v : Value), vs[j]? = some v → ∃ (k : Int) (t : Tok), ns[j]? = some k ∧ v = Value.int k t) → IntsAre vs ns
  | [], [], _, _ => .nil
  | v :: vs, n :: ns, hl, h => by
    obtain ⟨k, t, e, rfl⟩ := h 0 v rfl
    obtain rfl : n = k := Option.some.inj e
    refine .cons n t (intsAre_of (Nat.succ.inj hl) fun j v hj => ?_)
    exact h (j + 1) v hj
  | [], _ :: _, hl, _ => nomatch hl
  | _ :: _, [], hl, _ => nomatch hl
theorem listBytes_K {prog : Program} {w : World} {A : Around} {E : Value → Shared → Prop} {s : Shared} {h₀ : Heap} {L : Addr} {m : Str → Option Value} {news : List (Addr × Obj)} {ks : List Int} {t : Tok} {Q : Value → Shared → Prop}
    (F : Fr h₀ L s.heap m) (N : News h₀ L s.heap news) (hh : A.handled = none) (hin : ∀ z ∈ ks, 0 ≤ z ∧ z < 256) (hl : ks.length ≤ 16)
    (h : ∀ D vs n h' tk, IntsAre vs ks → (∀ p ∈ news, p.1 < D) → Fr h₀ L h' m → News h₀ L h' ((D, lstO vs n) :: news) → Q (.ref D) { s with heap := h', toks := tk }) :
    wpAny (model prog w) A (call (.type "list") [.bytes (byteArr ks) t]) Q E s := by
  have hb : KBw.bInts (byteArr ks) = ks := KBa.ints_make hin
  refine list_bytes hh _ _ (fun h' tk acc' c' hk hS' hacc => ?_) (by rw [byteArr_size, sizeLine_eq]; omega)
  have F' := F.keptAll hk
  refine h s.heap.objs.size acc'.toList c' h' tk (intsAre_of ?_ fun j v hj => ?_) (fun p hp => Heap.lt_size (N p hp).1) F' fun p hp => ?_
  · rw [Array.length_toList, hacc.1, byteArr_size]
  · obtain ⟨c, u, hc, rfl⟩ := hacc.2 j v (by simpa using hj)
    have := KBw.ints_get hc
    rw [hb] at this
    exact ⟨_, u, this, rfl⟩
  · rcases List.mem_cons.mp hp with rfl | hp
    · exact ⟨by simpa using hS', Nat.ne_of_gt F.ns.lt, next_is_new F⟩
    · exact ⟨hk _ _ (N p hp).1, (N p hp).2⟩
end
theorem offB8 : True := by
  w_top off
  trivial
section
section
open PySem.Calls PySem.Spec
variable {prog : Program} {w : World} {A₀ A : Around} {s : Shared} {base h₀ : Heap} {outer : List Env} {env : Env} {L a : Addr} {m : Str → Option Value} {news : List (Addr × Obj)} {K : Frag} {p : Program} {loose : List Str} {mean : ExcName → Option Value} {mg mb : Str → Option Value}
    {R : Result → Shared → Prop} {name qual : Str} {params : Arguments} {body : List Stmt} {scope : Scope} {dV kV doc pm cdv ct oc : Value} {an od : Option Addr} {osl : Array (Option Value)} {f : Addr} {args : Args} {binds : List (Str × Value)}
/-- code_try for a def with cells -/
theorem code_tryC (B : Below A₀ base outer h₀) (F : Fr h₀ L s.heap m) (X₀ : K.In h₀) (N : News h₀ L s.heap news) (T : Top p loose mean mg mb h₀) (XB : K.In base) (TB : Top p loose mean mg mb base) (D : KtsDicts (outer.filterMap (·.frame)) h₀)
    (hA : A.frames = some (env :: outer)) (hf : env.frame = some L) (hke : env.scope.kind = .function)
    (ho : K.lookup f = some ⟨oc, od, .func (fnOf name qual params body scope dV kV doc pm an cdv ct), osl⟩) (hcd : codeIn K cdv qual = true) (hroom : A.depth < recursionLimit)
    (hbind : BindsTo s (fnOf name qual params body scope dV kV doc pm an cdv ct) args binds) (hkind : (binds.all fun y => scope.names.lookup y.1 == some .local || scope.names.lookup y.1 == some .cell) = true)
    (hnd : ((cellsFrom 0 scope.names []).map (·.1)).Nodup)
    (h : ∀ g L' h₁ tk cells, Fr h₀ L g m → Fr g L' h₁ (bindL (envOfC qual scope L' f cdv).kindOf binds fun _ => none) → News g L' h₁ (cells ++ news) →
      CellsAre (bindC (envOfC qual scope L' f cdv).kindOf binds fun _ => none) (cellsFrom (L' + 1) scope.names []) cells → Below A base (env :: outer) g → K.In g → Top p loose mean mg mb g → KtsDicts ((env :: outer).filterMap (·.frame)) g → (∀ p ∈ news, p.1 < L') →
      wpAny (model prog w) (A.deeper (envOfC qual scope L' f cdv)) (execs body (envOfC qual scope L' f cdv))
        (fun fl s' => LeaveS ((env :: outer).filterMap (·.frame)) A₀ base outer K p loose mean mg mb h₀ h₀ L m g R (match fl with | .ret v => v | _ => .none) s')
        (fun e s' => wpAny (model prog w) (A.deeper (envOfC qual scope L' f cdv)) (leaving (envOfC qual scope L' f cdv) e) (fun _ s'' => R (.error e) s'') (fun e' s'' => R (.error e') s'') s')
        { s with heap := h₁, toks := tk })
    (hco : scope.isCoroutine = false) (hgen : scope.isGenerator = false) (hk : scope.kind = .function) : codeAny (model prog w) A (.call (.ref f) args) R s := by
  have X := X₀.keeps F.keep
  obtain ⟨FG, BG, st, lv⟩ := groundX (R := R) B F N hA hf hke
  refine codeAny_call_function hroom (X _ _ ho) rfl hco hgen rfl (codeRec_of X hcd) (hbind _ _ _ _ ?_)
  refine wpAny_newFunctionEnv_cells hk (kindsX hkind _) fun env' he s' x => ?_
  subst he
  refine ⟨(T.nolimit.keeps F.keep).keeps x.toInCall.keep, codeAny_func ?_⟩
  obtain ⟨h₁, tk, rfl, _⟩ := x.done
  have hk₁ := x.toInCall.keep
  obtain ⟨cells, NC, Y⟩ := Cl.news (h₀ := s.heap) (Nat.le_refl _) fun n c hm => ⟨x.cell n c (lookup_of_mem_nodup (cellsFrom_names scope.names 0 (s.heap.objs.size + 1) [] [] rfl ▸ hnd) hm), x.above n c hm⟩
  refine wpAny_mono (h _ s.heap.objs.size h₁ tk cells FG ⟨x.toInCall.ns, fun b o e => hk₁ b o (of_hideAll _ e), Nat.le_of_eq (hideAll_size _ _)⟩ (fun p hp => ?_) Y BG (X₀.keeps st) (T.keeps st) (dictsT F D hf FG) (fun p hp => Heap.lt_size (N p hp).1)) (fun fl s' hl => leaveT B F N XB TB D hA hf hke hl) fun _ _ y => y
  rcases List.mem_append.mp hp with hp | hp
  · refine ⟨(NC p hp).1, (NC p hp).2.1, ?_⟩
    cases q : (hideAll s.heap (news.map (·.1))).get? p.1 with
    | none => rfl
    | some o => have := of_hideAll _ q; rw [(NC p hp).2.2] at this; cases this
  · exact ⟨hk₁ _ _ (N p hp).1, Nat.ne_of_lt (Heap.lt_size (N p hp).1), hideAll_none _ (List.mem_map_of_mem hp)⟩
end
end
theorem offD2 : True := by
  w_top off
  trivial
section
section
local macro_rules | `(tactic| walk_at "call ref") => `(tactic| (k_here; (with_reducible show wpAny _ _ (call (Value.ref 63) _) _ _ _); k_dflt (refine' put_spec ?k1 ?k2 ?k3 ?k4 ?k5 ?kK ?b1 ?b2 ?b3 ?b4 ?kd ?ku ?kR ?kE; (case k1 => k_asm); (case k2 => k_asm); (case k3 => k_asm); (case k4 => k_asm); (case k5 => k_asm); (case kK => first | exact rfl | assumption); (case b1 => assumption); (case b2 => assumption); (case b3 => assumption); (case b4 => assumption); (case kd => ktr_room); (case ku => ktr_units)); (case' kR => (intro t9 h9 tk9 c9 d9 F9 N9; (try dsimp only); (try k_fold))); (case' kE => (intro e9 G9 h9 tk9 c9 F9 R9 U9; (try dsimp only); (try k_fold)))))
local macro_rules | `(tactic| walk_at "call ref") => `(tactic| (k_here; (first | ((with_reducible show wpAny _ _ (call (Value.ref 77) _) _ _ _); k_dflt (refine' put16_spec ?k1 ?k2 ?k3 ?k4 ?k5 ?kK ?b3 ?b4 ?kd ?ku ?kR ?kE)) | ((with_reducible show wpAny _ _ (call (Value.ref 84) _) _ _ _); k_dflt (refine' put32_spec ?k1 ?k2 ?k3 ?k4 ?k5 ?kK ?b3 ?b4 ?kd ?ku ?kR ?kE)) | ((with_reducible show wpAny _ _ (call (Value.ref 91) _) _ _ _); k_dflt (refine' put48_spec ?k1 ?k2 ?k3 ?k4 ?k5 ?kK ?b3 ?b4 ?kd ?ku ?kR ?kE))); k_dflt ((case k1 => k_asm); (case k2 => k_asm); (case k3 => k_asm); (case k4 => k_asm); (case k5 => k_asm); (case kK => first | exact rfl | assumption); (case b3 => assumption); (case b4 => assumption); (case kd => ktr_room); (case ku => ktr_units)); (case' kR => (intro t9 h9 tk9 c9 d9 F9 N9; (try dsimp only); (try k_fold))); (case' kE => (intro e9 G9 h9 tk9 c9 F9 R9 U9; (try dsimp only); (try k_fold)))))
local macro_rules | `(tactic| walk_at "call type:list") => `(tactic| (k_here; (with_reducible show wpAny _ _ (call (Value.type "list") [Value.bytes _ _]) _ _ _); k_dflt (refine' listBytes_K ?k1 ?k2 (by rfl) digits_in (by (rw [digits_length]; omega)) ?_; (case k1 => k_asm); (case k2 => k_asm); k_whole); intro D9 vs9 n9 h9 tk9 i9 l9 F9 N9; (try dsimp only); (try k_fold)))
theorem ltNe {D : Addr} {news : List (Addr × Obj)} (h : ∀ p ∈ news, p.1 < D) : ∀ z ∈ news, z.1 ≠ D := fun z hz => Nat.ne_of_lt (h z hz)
theorem lput_spec {w : World} {p : Program} {loose : List Str} {mean : ExcName → Option Value} {mg mb : Str → Option Value}
   {dp un : Nat} {gd : Option (List Code)} {cn : Str} {cs : Scope} {a : Addr} {ccd : Value} {cl : List (Str × Addr)} {outer : List Env} {A₀ : Around} {base h₀ : Heap} {L : Addr} {m : Str → Option Value} {s : Shared} {Q E : Value → Shared → Prop}
   {news : List (Addr × Obj)} {number many : Int} {tn tm : Tok} {b : Bool}
   (B : Below A₀ base outer h₀) (F : Fr h₀ L s.heap m) (X : (hd.heap_39 w.params).In h₀) (N : News h₀ L s.heap news) (T : Top p loose mean mg mb h₀) (hk : cs.kind = .function)
   (XB : (hd.heap_39 w.params).In base) (TB : Top p loose mean mg mb base) (D : KtsDicts (outer.filterMap (·.frame)) h₀)
   (hm0 : 0 ≤ many) (hm : many ≤ 16) (hlo : - B256 < number) (hhi : number < B256)
   (hdp : dp + 6 < recursionLimit) (hu : un + 32 < cLine)
   (hret : ∀ (q : Addr) (vs : List Value) (n : Nat) (g h' : Heap) (tk' : Nat), 0 ≤ number → number < 256 ^ many.toNat → IntsAre vs (digits number many.toNat) → (∀ z ∈ news, z.1 ≠ q) →
      KtsTurn (outer.filterMap (·.frame)) h₀ g → Fr g L h' m → News g L h' ((q, lstO vs n) :: news) → Below A₀ base outer g → (hd.heap_39 w.params).In g → Top p loose mean mg mb g → KtsDicts (outer.filterMap (·.frame)) g → Q (.ref q) { s with heap := h', toks := tk' })
   (hnone : ∀ (g h' : Heap) (tk' : Nat), ¬ (0 ≤ number ∧ number < 256 ^ many.toNat) →
      KtsTurn (outer.filterMap (·.frame)) h₀ g → Fr g L h' m → News g L h' news → Below A₀ base outer g → (hd.heap_39 w.params).In g → Top p loose mean mg mb g → KtsDicts (outer.filterMap (·.frame)) g → Q .none { s with heap := h', toks := tk' }) :
   wpAny (model PySem.Challenge.rw_xm0974_01.row.prog w) (ktrTop dp un gd cn cs L a ccd cl outer) (call (.ref 145) [.int number tn, .int many tm, .bool b]) Q E s := by
  revert X; k_fill; intro X
  cases b
  all_goals refine wpAny_call ?_
  all_goals k_dflt ((refine' code_try ?k1 ?k2 ?k3 ?k4 ?k5 ?kXB ?kTB ?kD ?kA ?kF ?kK ?k6 ?k7 ?k8 ?k9 ?kB ?_ ?c2 ?c3 ?c4 ?c5; (case kA => exact rfl); (case kF => exact rfl); (case kK => first | assumption | exact rfl); (case k1 => k_asm); (case k2 => k_asm); (case k3 => k_asm); (case k4 => k_asm); (case k5 => k_asm); (case kXB => assumption); (case kTB => assumption); (case kD => assumption); (case k6 => k_is); (case k7 => k_is); (case k8 => ktr_room); (case k9 => exact BindsTo.of_eq rfl); (case c5 => decide); (case kB => exact locs rfl); (case c2 => exact rfl); (case c3 => exact rfl); (case c4 => exact rfl); k_whole; intro g' L' h' FG' F' N' B' X' T' D'; (try dsimp only); (try k_fold)))
  all_goals k_steps
  all_goals (try walk_at "call ref")
  all_goals (try k_steps)
  all_goals (try walk_at "call ref")
  all_goals (try k_steps)
  all_goals first
    | (refine hnone _ _ _ ?_ (by assumption) (by assumption) (by assumption) (by assumption) (by assumption) (by assumption) (by assumption)
       first | assumption | (rw [show many.toNat = 2 by omega]; assumption) | (rw [show many.toNat = 4 by omega]; assumption) | (rw [show many.toNat = 6 by omega]; assumption))
    | (refine hret _ _ _ h₀ _ _ (by assumption) ?_ ?_ (fun z hz => ltNe (by assumption) z hz) KtsTurn.refl (by assumption) (by assumption) B (by assumption) T D
       all_goals first | assumption | (rw [show many.toNat = 2 by omega]; assumption) | (rw [show many.toNat = 4 by omega]; assumption) | (rw [show many.toNat = 6 by omega]; assumption))
end
end
theorem offD3 : True := by
  w_top off
  trivial
section
section
local macro_rules | `(tactic| walk_at "call ref") => `(tactic| (k_here; (with_reducible show wpAny _ _ (call (Value.ref 70) _) _ _ _); k_dflt (refine' get_spec ?k1 ?k2 ?k3 ?k4 ?k5 ?kK ?b1 ?b2 ?b3 ?b4 ?b5 ?b6 ?kd ?ku ?kR ?kE; (case k1 => k_asm); (case k2 => k_asm); (case k3 => k_asm); (case k4 => k_asm); (case k5 => k_asm); (case kK => first | exact rfl | assumption); (case b1 => assumption); (case b2 => assumption); (case b3 => assumption); (case b4 => assumption); (case b5 => assumption); (case b6 => assumption); (case kd => ktr_room); (case ku => ktr_units)); (case' kR => (intro t9 h9 tk9 c9 d9 F9 N9; (try dsimp only); (try k_fold))); (case' kE => (intro e9 G9 h9 tk9 c9 F9 R9 U9; (try dsimp only); (try k_fold)))))
local macro_rules | `(tactic| walk_at "call ref") => `(tactic| (k_here; (first | ((with_reducible show wpAny _ _ (call (Value.ref 98) _) _ _ _); k_dflt (refine' get16_spec ?k1 ?k2 ?k3 ?k4 ?k5 ?kK ?b1 ?b2 ?b3 ?b4 ?kd ?ku ?kR ?kE)) | ((with_reducible show wpAny _ _ (call (Value.ref 105) _) _ _ _); k_dflt (refine' get32_spec ?k1 ?k2 ?k3 ?k4 ?k5 ?kK ?b1 ?b2 ?b3 ?b4 ?kd ?ku ?kR ?kE)) | ((with_reducible show wpAny _ _ (call (Value.ref 112) _) _ _ _); k_dflt (refine' get48_spec ?k1 ?k2 ?k3 ?k4 ?k5 ?kK ?b1 ?b2 ?b3 ?b4 ?kd ?ku ?kR ?kE))); k_dflt ((case k1 => k_asm); (case k2 => k_asm); (case k3 => k_asm); (case k4 => k_asm); (case k5 => k_asm); (case kK => first | exact rfl | assumption); (case b1 => assumption); (case b2 => assumption); (case b3 => assumption); (case b4 => assumption); (case kd => ktr_room); (case ku => ktr_units)); (case' kR => (intro t9 h9 tk9 c9 d9 F9 N9; (try dsimp only); (try k_fold))); (case' kE => (intro e9 G9 h9 tk9 c9 F9 R9 U9; (try dsimp only); (try k_fold)))))
theorem lgot_spec {w : World} {p : Program} {loose : List Str} {mean : ExcName → Option Value} {mg mb : Str → Option Value}
   {dp un : Nat} {gd : Option (List Code)} {cn : Str} {cs : Scope} {a : Addr} {ccd : Value} {cl : List (Str × Addr)} {outer : List Env} {A₀ : Around} {base h₀ : Heap} {L : Addr} {m : Str → Option Value} {s : Shared} {Q E : Value → Shared → Prop}
   {news : List (Addr × Obj)} {bs : Array UInt8} {ks : List Int} {at' many : Int} {tb ta tm : Tok} {b : Bool}
   (B : Below A₀ base outer h₀) (F : Fr h₀ L s.heap m) (X : (hd.heap_39 w.params).In h₀) (N : News h₀ L s.heap news) (T : Top p loose mean mg mb h₀) (hk : cs.kind = .function)
   (XB : (hd.heap_39 w.params).In base) (TB : Top p loose mean mg mb base) (D : KtsDicts (outer.filterMap (·.frame)) h₀)
   (hb : KBw.bInts bs = ks) (hlen : ks.length ≤ 16) (ha1 : -32 ≤ at') (ha2 : at' ≤ 32) (hm0 : 0 ≤ many) (hm : many ≤ 16)
   (hdp : dp + 6 < recursionLimit) (hu : un + 32 < cLine)
   (hret : ∀ (t : Tok) (g h' : Heap) (tk' : Nat), 0 ≤ at' → at' + many ≤ (ks.length : Int) →
      KtsTurn (outer.filterMap (·.frame)) h₀ g → Fr g L h' m → News g L h' news → Below A₀ base outer g → (hd.heap_39 w.params).In g → Top p loose mean mg mb g → KtsDicts (outer.filterMap (·.frame)) g → Q (.int (worth ((ks.drop at'.toNat).take many.toNat)) t) { s with heap := h', toks := tk' })
   (hnone : ∀ (g h' : Heap) (tk' : Nat), ¬ (0 ≤ at' ∧ at' + many ≤ (ks.length : Int)) →
      KtsTurn (outer.filterMap (·.frame)) h₀ g → Fr g L h' m → News g L h' news → Below A₀ base outer g → (hd.heap_39 w.params).In g → Top p loose mean mg mb g → KtsDicts (outer.filterMap (·.frame)) g → Q .none { s with heap := h', toks := tk' }) :
   wpAny (model PySem.Challenge.rw_xm0974_01.row.prog w) (ktrTop dp un gd cn cs L a ccd cl outer) (call (.ref 152) [.bytes bs tb, .int at' ta, .int many tm, .bool b]) Q E s := by
  revert X; k_fill; intro X
  cases b
  all_goals refine wpAny_call ?_
  all_goals k_dflt ((refine' code_try ?k1 ?k2 ?k3 ?k4 ?k5 ?kXB ?kTB ?kD ?kA ?kF ?kK ?k6 ?k7 ?k8 ?k9 ?kB ?_ ?c2 ?c3 ?c4 ?c5; (case kA => exact rfl); (case kF => exact rfl); (case kK => first | assumption | exact rfl); (case k1 => k_asm); (case k2 => k_asm); (case k3 => k_asm); (case k4 => k_asm); (case k5 => k_asm); (case kXB => assumption); (case kTB => assumption); (case kD => assumption); (case k6 => k_is); (case k7 => k_is); (case k8 => ktr_room); (case k9 => exact BindsTo.of_eq rfl); (case c5 => decide); (case kB => exact locs rfl); (case c2 => exact rfl); (case c3 => exact rfl); (case c4 => exact rfl); k_whole; intro g' L' h' FG' F' N' B' X' T' D'; (try dsimp only); (try k_fold)))
  all_goals k_steps
  all_goals (try walk_at "call ref")
  all_goals (try k_steps)
  all_goals (try walk_at "call ref")
  all_goals (try k_steps)
  all_goals first
    | (refine hnone _ _ _ ?_ (by assumption) (by assumption) (by assumption) (by assumption) (by assumption) (by assumption) (by assumption)
       omega)
    | (refine ret_int ?_ (hret _ h₀ _ _ ?_ ?_ KtsTurn.refl (by assumption) (by assumption) B (by assumption) T D)
       all_goals first | assumption | rfl | (rw [show many.toNat = 2 by omega]) | (rw [show many.toNat = 4 by omega]) | (rw [show many.toNat = 6 by omega]) | omega)
end
end
theorem offB9 : True := by
  w_top off
  trivial
section
theorem hB9 : (9444732965739290427392 : Int) < B256 := by decide +kernel
theorem hiB {z : Int} (h : z < 9444732965739290427392) : z < B256 := Int.lt_trans h hB9
theorem loB {z : Int} (h : -9444732965739290427392 < z) : - B256 < z := Int.lt_trans (Int.neg_lt_neg hB9) h
section
open PySem.Calls PySem.Spec
variable {prog : Program} {w : World} {A : Around} {E : Value → Shared → Prop} {s : Shared} {env : Env} {target : Expr} {body : List Stmt} {Q : Flow → Shared → Prop}
/-- how a turn of a loop ends whose frozen heap may turn -/
def LoopEndT (C : Heap → Prop) (J : (Str → Option Value) → List (Addr × Obj) → Prop) (L : Addr) (s : Shared) (I : Addr) (io : Obj) (Q : Flow → Shared → Prop) (f : Flow) (s₃ : Shared) : Prop :=
  match f with
  | .ret v => Q (.ret v) s₃
  | .brk => Q .next s₃
  | _ => ∃ g h' tk m' news', s₃ = { s with heap := h', toks := tk } ∧ C g ∧ Fr g L h' m' ∧ News g L h' ((I, io) :: news') ∧ J m' news'
theorem LoopEndT.next {C : Heap → Prop} {J : (Str → Option Value) → List (Addr × Obj) → Prop} {L : Addr} {s : Shared} {I : Addr} {io : Obj} {g h' : Heap} {tk : Nat} {m' : Str → Option Value} {news' : List (Addr × Obj)}
    (c : C g) (F : Fr g L h' m') (N : News g L h' ((I, io) :: news')) (j : J m' news') : LoopEndT C J L s I io Q .next { s with heap := h', toks := tk } := ⟨g, h', tk, m', news', rfl, c, F, N, j⟩
theorem LoopEndT.ret {C : Heap → Prop} {J : (Str → Option Value) → List (Addr × Obj) → Prop} {L : Addr} {s s₃ : Shared} {I : Addr} {io : Obj} {v : Value}
    (h : Q (.ret v) s₃) : LoopEndT C J L s I io Q (.ret v) s₃ := h
def AtT (prog : Program) (w : World) (A : Around) (env : Env) (target : Expr) (body : List Stmt) (Q : Flow → Shared → Prop) (E : Value → Shared → Prop) (it : Value) (s₂ : Shared) : Prop :=
  codeAny (model prog w) A (.forLoop target it body [] env) (fun r s' => match r with | .ok f => Q f s' | .error e => cameBackBy (model prog w) A env E e s') s₂
theorem For_T {iter : Expr} {pos : Pos} 
    (h : wpAny (model prog w) A (eval iter env) (fun xv s₁ => wpAny (model prog w) A (pyIter xv) (fun it s₂ => AtT prog w A env target body Q E it s₂) E s₁) E s)
    (hs : ∀ x, foldedSetIterable iter env x = pure x := by intro _; rfl) :
    wpAny (model prog w) A (exec (.For target iter body [] pos) env) Q E s := wpAny_For h hs
theorem loopT {I : Addr} {fp : List Addr} {src : List (Addr × Obj)} {n : Nat} {P : Nat → Value → Prop} {St : Nat → Heap → Prop} {It : Nat → Obj → Prop} (W : Walks prog w A I fp [I] n P St)
    (hgo : ∀ i v (s : Shared) (Q : Unit → Shared → Prop) (E : Value → Shared → Prop), St i s.heap → Q () s → wpAny (model prog w) A (letOwnedTupleGo target (.ref I) v) Q E s)
    (hSt : ∀ i (h : Heap) io, h.get? I = some io → It i io → (∀ p ∈ src, h.get? p.1 = some p.2) → St i h) (hIt : ∀ i (h : Heap), St i h → ∃ io, h.get? I = some io ∧ It i io)
    (C : Heap → Prop) (J : Nat → (Str → Option Value) → List (Addr × Obj) → Prop) (hJ : ∀ i m news, J i m news → (∀ p ∈ src, p ∈ news) ∧ ∀ p ∈ news, p.1 ≠ I)
    {g : Heap} {io : Obj} {m : Str → Option Value} {news : List (Addr × Obj)} (hC : C g) (F : Fr g env.locals s.heap m) (N : News g env.locals s.heap ((I, io) :: news)) (hio : It 0 io) (h0 : J 0 m news)
    (step : ∀ i v g h tk m news io, i < n → P i v → C g → J i m news → Fr g env.locals h m → News g env.locals h ((I, io) :: news) → It (i + 1) io →
      wpAny (model prog w) A (assign target env v) (fun _ s₂ => wpAny (model prog w) A (execs body env) (LoopEndT C (J (i + 1)) env.locals s I io Q) E s₂) E { s with heap := h, toks := tk })
    (hQ : ∀ g h tk m news, C g → J n m news → Fr g env.locals h m → News g env.locals h news → Q .next { s with heap := h, toks := tk })
    (hE : PassesOwn (model prog w) A env E) : AtT prog w A env target body Q E (.ref I) s := by
  refine codeAny_forLoop_any
    (fun k s' => ∃ g h' tk m' news' io i, s' = { s with heap := h', toks := tk } ∧ C g ∧ Fr g env.locals h' m' ∧ News g env.locals h' ((I, io) :: news') ∧ It i io ∧ J i m' news' ∧ i ≤ n ∧ k = n + 1 - i) ?_ (n + 1)
    ⟨g, s.heap, s.toks, m, news, io, 0, rfl, hC, F, N, hio, h0, Nat.zero_le _, rfl⟩
  rintro k s' ⟨g', h', tk, m', news', io', i, rfl, hC', F', N', hio', hJ', hi, rfl⟩
  have hNI := N' _ (List.mem_cons_self ..)
  have old : ∀ b o, g'.get? b = some o → b ≠ I := fun b o e q => by rw [q, hNI.2.2] at e; cases e
  have hst' : St i h' := hSt i h' io' hNI.1 hio' fun p hp => (N' p (List.mem_cons_of_mem _ ((hJ _ _ _ hJ').1 p hp))).1
  have next : ∀ h₁ : Heap, (∀ b o, b ∉ [I] → h'.get? b = some o → h₁.get? b = some o) → Fr g' env.locals h₁ m' ∧ News g' env.locals h₁ news' := fun h₁ hk₁ =>
    ⟨⟨F'.ns.at' fun o e => hk₁ _ o (by simpa using fun q => hNI.2.1 q.symm) e, fun b o e => hk₁ b o (by simpa using old b o e) (F'.keep b o e), F'.above⟩,
      fun p hp => ⟨hk₁ _ _ (by simpa using (hJ _ _ _ hJ').2 p hp) (N' p (List.mem_cons_of_mem _ hp)).1, (N' p (List.mem_cons_of_mem _ hp)).2⟩⟩
  by_cases hlt : i < n
  · refine W.item i _ _ _ hlt hst' fun v h₁ tk₁ hP hst₁ hk₁ => ?_
    refine hgo (i + 1) v _ _ _ hst₁ ?_
    obtain ⟨F₁, N₁⟩ := next h₁ hk₁
    obtain ⟨io₁, hg₁, hi₁⟩ := hIt _ _ hst₁
    have N₂ : News g' env.locals h₁ ((I, io₁) :: news') := fun p hp => by
      rcases List.mem_cons.mp hp with rfl | hp
      · exact ⟨hg₁, hNI.2⟩
      · exact N₁ p hp
    refine wpAny_mono (step i v g' h₁ tk₁ m' news' io₁ hlt hP hC' hJ' F₁ N₂ hi₁) (fun _ s₂ h₂ => wpAny_mono (wpAny_passesOwn hE h₂) (fun f s₃ h₃ => ?_) fun _ _ e => e) hE
    cases f with
    | ret v => exact h₃
    | brk => exact h₃
    | cont =>
      obtain ⟨g₂, h₃', tk₃, m₂, news₂, rfl, c₂, F₂, N₂, j₂⟩ := h₃
      exact ⟨n + 1 - (i + 1), by omega, g₂, h₃', tk₃, m₂, news₂, io₁, i + 1, rfl, c₂, F₂, N₂, hi₁, j₂, hlt, rfl⟩
    | next =>
      obtain ⟨g₂, h₃', tk₃, m₂, news₂, rfl, c₂, F₂, N₂, j₂⟩ := h₃
      exact ⟨n + 1 - (i + 1), by omega, g₂, h₃', tk₃, m₂, news₂, io₁, i + 1, rfl, c₂, F₂, N₂, hi₁, j₂, hlt, rfl⟩
  · have hin : i = n := by omega
    subst hin
    refine W.done _ _ _ hst' fun h₁ tk₁ hk₁ => wpAny_execs_nil ?_
    obtain ⟨F₁, N₁⟩ := next h₁ hk₁
    exact hQ g' h₁ tk₁ m' news' hC' hJ' F₁ N₁
/-- over a list of the ledger -/
theorem iter_listT {a : Addr} {lo : Obj} {vs : List Value} {k : Nat} (C : Heap → Prop) (J : Nat → (Str → Option Value) → List (Addr × Obj) → Prop)
    {g : Heap} {m : Str → Option Value} {news : List (Addr × Obj)} (hh : A.handled = none) (F : Fr g env.locals s.heap m) (N : News g env.locals s.heap news) (hm : (a, lo) ∈ news) (hc : lo.cls = .type "list") (hd : lo.data = .seq vs.toArray k)
    (hC : C g) (hJ : ∀ i m' news', J i m' news' → (a, lo) ∈ news' ∧ news'.map (·.1) = news.map (·.1)) (h0 : J 0 m news)
    (step : ∀ I i v g h tk m news io, vs[i]? = some v → (∀ p ∈ news, p.1 < I) → C g → J i m news → Fr g env.locals h m → News g env.locals h ((I, io) :: news) → io.cls = .type "list_iterator" →
      wpAny (model prog w) A (assign target env v) (fun _ s₂ => wpAny (model prog w) A (execs body env) (LoopEndT C (J (i + 1)) env.locals { s with heap := s.heap.push { cls := .type "list_iterator", data := .fields #[.ref a, .int 0 0] } } I io Q) E s₂) E { s with heap := h, toks := tk })
    (hQ : ∀ g h tk m news, C g → J vs.length m news → Fr g env.locals h m → News g env.locals h news → Q .next { s with heap := h, toks := tk })
    (hE : PassesOwn (model prog w) A env E := by passes_own) : wpAny (model prog w) A (pyIter (.ref a)) (fun it s₂ => AtT prog w A env target body Q E it s₂) E s := by
  have hax := (N _ hm).1
  have hl : s.heap.IsList a vs.toArray := ⟨lo, hax, hc, k, hd⟩
  have hlt : a < s.heap.objs.size := Heap.lt_size hax
  refine wpAny_pyIter_list hl ?_
  have N' : News g env.locals (s.heap.push { cls := .type "list_iterator", data := .fields #[.ref a, .int 0 0] }) ((s.heap.objs.size, { cls := .type "list_iterator", data := .fields #[.ref a, .int 0 0] }) :: news) := fun p hp => by
    rcases List.mem_cons.mp hp with rfl | hp
    · exact ⟨Heap.get?_push_size _ rfl, Nat.ne_of_gt F.ns.lt, next_is_new F⟩
    · exact ⟨Heap.get?_push_of_some _ (N p hp).1, (N p hp).2⟩
  have lt : ∀ i m' news', J i m' news' → ∀ p ∈ news', p.1 < s.heap.objs.size := fun i m' news' j p hp => by
    have : p.1 ∈ news.map (·.1) := by rw [← (hJ _ _ _ j).2]; exact List.mem_map.mpr ⟨p, hp, rfl⟩
    obtain ⟨q, hq, e'⟩ := List.mem_map.mp this
    exact e' ▸ Heap.lt_size (N q hq).1
  refine loopT (src := [(a, lo)]) (It := fun i io => io.cls = .type "list_iterator" ∧ io.data = .fields #[.ref a, .int i 0]) (Walks.list hh s.heap.objs.size a (Nat.ne_of_lt hlt) vs.toArray) (fun i v s Q E st q => letGo_listiter st.1 q)
    (fun i h io e it hs => ⟨⟨io, e, it.1, it.2⟩, ⟨lo, hs _ (List.mem_singleton_self _), hc, k, hd⟩⟩) (fun i h st => by obtain ⟨o, ho, h1, h2⟩ := st.1; exact ⟨o, ho, h1, h2⟩)
    C J (fun i m' news' j => ⟨fun p hp => by rw [List.mem_singleton.mp hp]; exact (hJ _ _ _ j).1, fun p hp => ?_⟩) hC (F.push _) N' ⟨rfl, rfl⟩ h0 (fun i v g h tk m news io hi hP c j F N it => step _ i v g h tk m news io ?_ (lt _ _ _ j) c j F N it.1)
    (fun g h tk m news c j F N => hQ g h tk m news c ?_ F N) hE
  · exact Nat.ne_of_lt (lt _ _ _ j p hp)
  · have hP' : vs.toArray[i]? = some v := hP
    simpa using hP'
  · have : J vs.toArray.size m news := j
    simpa using this
/-- over a range -/
theorem iter_rangeT {x : Str} {px : Pos} {r : Addr} {a b : Int} {t u v : Tok} {n : Nat} (C : Heap → Prop) (J : Nat → (Str → Option Value) → List (Addr × Obj) → Prop)
    {g : Heap} {m : Str → Option Value} {news : List (Addr × Obj)} (hh : A.handled = none) (F : Fr g env.locals s.heap m) (N : News g env.locals s.heap news) (hr : IsRange s.heap r a b 1 t u v) (hsm : Builtin.Range.small a b 1 = true) (hn : Builtin.Range.rangeSize a b 1 = n)
    (hC : C g) (hJ : ∀ i m' news', J i m' news' → news'.map (·.1) = news.map (·.1)) (h0 : J 0 m news)
    (step : ∀ I i tv g h tk m news io, i < n → (∀ p ∈ news, p.1 < I) → C g → J i m news → Fr g env.locals h m → News g env.locals h ((I, io) :: news) → io.cls = .type "range_iterator" →
      wpAny (model prog w) A (assign (.Name x px) env (.int (a + i * 1) tv)) (fun _ s₂ => wpAny (model prog w) A (execs body env) (LoopEndT C (J (i + 1)) env.locals { s with heap := s.heap.push { cls := .type "range_iterator", data := .fields #[rawInt a, rawInt (Builtin.Range.rangeSize a b 1), rawInt 1] } } I io Q) E s₂) E { s with heap := h, toks := tk })
    (hQ : ∀ g h tk m news, C g → J n m news → Fr g env.locals h m → News g env.locals h news → Q .next { s with heap := h, toks := tk })
    (hE : PassesOwn (model prog w) A env E := by passes_own) : wpAny (model prog w) A (pyIter (.ref r)) (fun it s₂ => AtT prog w A env (.Name x px) body Q E it s₂) E s := by
  refine wpAny_pyIter_range hr hsm ?_
  have N' : News g env.locals (s.heap.push { cls := .type "range_iterator", data := .fields #[rawInt a, rawInt (Builtin.Range.rangeSize a b 1), rawInt 1] }) ((s.heap.objs.size, { cls := .type "range_iterator", data := .fields #[rawInt a, rawInt (Builtin.Range.rangeSize a b 1), rawInt 1] }) :: news) := fun p hp => by
    rcases List.mem_cons.mp hp with rfl | hp
    · exact ⟨Heap.get?_push_size _ rfl, Nat.ne_of_gt F.ns.lt, next_is_new F⟩
    · exact ⟨Heap.get?_push_of_some _ (N p hp).1, (N p hp).2⟩
  have lt : ∀ i m' news', J i m' news' → ∀ p ∈ news', p.1 < s.heap.objs.size := fun i m' news' j p hp => by
    have : p.1 ∈ news.map (·.1) := by rw [← hJ _ _ _ j]; exact List.mem_map.mpr ⟨p, hp, rfl⟩
    obtain ⟨q, hq, e'⟩ := List.mem_map.mp this
    exact e' ▸ Heap.lt_size (N q hq).1
  refine loopT (src := []) (It := fun i io => io = { cls := .type "range_iterator", dict := none, data := .fields #[rawInt (a + (i : Nat) * 1), rawInt ((n : Int) - (i : Nat)), rawInt 1], slots := #[] }) (Walks.range hh s.heap.objs.size a 1 n) (fun i v s Q E st q => wpAny_pure q)
    (fun i h io e it _ => by subst it; exact e) (fun i h st => ⟨_, st, rfl⟩)
    C J (fun i m' news' j => ⟨fun p hp => (nomatch hp), fun p hp => ?_⟩) hC (F.push _) N' ?_ h0 (fun i v g h tk m news io hi hP c j F N it => ?_)
    (fun g h tk m news c j F N => hQ g h tk m news c j F N) hE
  · exact Nat.ne_of_lt (lt _ _ _ j p hp)
  · rw [hn]; simp
  · obtain ⟨tv, rfl⟩ := hP
    exact step _ i tv g h tk m news io hi (lt _ _ _ j) c j F N (by rw [it])
end
end
theorem offB10 : True := by
  w_top off
  trivial
section
section
open PySem.Calls PySem.Spec
variable {prog : Program} {w : World} {A : Around} {E : Value → Shared → Prop} {s : Shared} {g : Heap} {L a b q r t : Addr} {news : List (Addr × Obj)} {oa ob oq orr ot : Obj} {xs ys zs : List Value} {ka kb kq kr kt : Nat} {ns ms : List Int} {Q : Value → Shared → Prop}
theorem isListN (N : News g L s.heap news) (m : (a, oa) ∈ news) (c : oa.cls = .type "list") (d : oa.data = .seq xs.toArray ka) : s.heap.IsList a xs.toArray := ⟨oa, (N _ m).1, c, ka, d⟩
theorem ne_same (N : News g L s.heap news) (ma : (a, oa) ∈ news) (ca : oa.cls = .type "list") (da : oa.data = .seq xs.toArray ka) (mb : (b, ob) ∈ news) (cb : ob.cls = .type "list") (db : ob.data = .seq ys.toArray kb)
    (hi : IntsAre xs ns) (hj : IntsAre ys ms) (hu : A.units + 64 < cLine) (e : ns = ms) (h : Q (.bool false) s) : wpAny (model prog w) A (compareOp .NotEq (.ref a) (.ref b)) Q E s :=
  ke_ne_ints (isListN N ma ca da) (isListN N mb cb db) hi hj hu (by rw [decide_eq_true e]; exact h)
theorem ne_two_none (N : News g L s.heap news) (ma : (a, oa) ∈ news) (ca : oa.cls = .type "list") (da : oa.data = .seq #[.none, .none] ka) (mb : (b, ob) ∈ news) (cb : ob.cls = .type "list") (db : ob.data = .seq #[.none, .none] kb)
    (hu : A.units + 64 < cLine) (h : Q (.bool false) s) : wpAny (model prog w) A (compareOp .NotEq (.ref a) (.ref b)) Q E s :=
  ne_dataH (reads_list_at (N.get ma) ca da (.cons .none (.cons .none .nil))) (reads_list_at (N.get mb) cb db (.cons .none (.cons .none .nil))) (by decide) (by decide) hu (by simpa [PyData.eqv, PyData.eqvAll] using h)
theorem eqvAll_ints : ∀ ns : List Int, PyData.eqvAll (ns.map PyData.int) (ns.map PyData.int) = true
  | [] => by simp [PyData.eqvAll]
  | _ :: r => by simp [PyData.eqvAll, PyData.eqv, eqvAll_ints r]
theorem ne_two_same (N : News g L s.heap news) (ma : (a, oa) ∈ news) (ca : oa.cls = .type "list") (da : oa.data = .seq #[.ref q, .ref r] ka) (mb : (b, ob) ∈ news) (cb : ob.cls = .type "list") (db : ob.data = .seq #[.ref t, .ref t] kb)
    (mq : (q, oq) ∈ news) (cq : oq.cls = .type "list") (dq : oq.data = .seq xs.toArray kq) (mr : (r, orr) ∈ news) (cr : orr.cls = .type "list") (dr : orr.data = .seq ys.toArray kr) (mt : (t, ot) ∈ news) (ct : ot.cls = .type "list") (dt : ot.data = .seq zs.toArray kt)
    (hi : IntsAre xs ns) (hj : IntsAre ys ns) (hk : IntsAre zs ms) (e : ms = ns)
    (hu : A.units + 64 < cLine) (h : Q (.bool false) s) : wpAny (model prog w) A (compareOp .NotEq (.ref a) (.ref b)) Q E s := by
  subst e
  have r1 := reads_newData (isListN N mq cq dq) (ke_carried hi)
  have r2 := reads_newData (isListN N mr cr dr) (ke_carried hj)
  have r3 := reads_newData (isListN N mt ct dt) (ke_carried hk)
  have sh : SeqAt.shaped (.list [.list (ms.map PyData.int), .list (ms.map PyData.int)]) = true := by
    simp [SeqAt.shaped, PyData.canLay0, PyData.canLayAll0, PyData.depth, PyData.depthAll, ke_canLayAll0, ke_depthAll]
  exact ne_dataH (reads_list_at (N.get ma) ca da (.cons r1 (.cons r2 .nil))) (reads_list_at (N.get mb) cb db (.cons r3 (.cons r3 .nil))) sh sh hu (by simpa [PyData.eqv, PyData.eqvAll, eqvAll_ints] using h)
end
theorem flat_rep (k : Nat) : (List.replicate k [(0 : Int)]).flatten = List.replicate k 0 := by
  induction k with
  | zero => rfl
  | succ k ih => rw [List.replicate_succ, List.replicate_succ, List.flatten_cons, ih]; rfl
theorem put_same {ns : List Int} {r : Int} (hv : ∀ z ∈ ns, 0 ≤ z ∧ z < 256) (h : 0 ≤ r) : digits (worth ns) ((ns.length : Int) + r).toNat = (List.replicate r.toNat [(0 : Int)]).flatten ++ ns := by
  rw [flat_rep, ← digits_worth hv r.toNat]; congr 1; omega
theorem room_more {ns : List Int} {r : Int} (hv : ∀ z ∈ ns, 0 ≤ z ∧ z < 256) (h : 0 ≤ r) : worth ns < 256 ^ ((ns.length : Int) + r).toNat := by
  have h1 := (worth_lt hv).2
  have h2 : ((ns.length : Int) + r).toNat = ns.length + r.toNat := by omega
  rw [h2, Int.pow_add]
  have h3 := pow256_pos ns.length
  have h4 := pow256_pos r.toNat
  have h5 : (256 : Int) ^ ns.length * 1 ≤ 256 ^ ns.length * 256 ^ r.toNat := Int.mul_le_mul_of_nonneg_left h4 (Int.le_of_lt h3)
  omega
theorem p256_le {i j : Nat} (h : i ≤ j) : (256 : Int) ^ i ≤ 256 ^ j := by
  rw [← Nat.add_sub_cancel' h, Int.pow_add]
  have h3 := pow256_pos i
  have h4 := pow256_pos (j - i)
  have h5 : (256 : Int) ^ i * 1 ≤ 256 ^ i * 256 ^ (j - i) := Int.mul_le_mul_of_nonneg_left h4 (Int.le_of_lt h3)
  omega
theorem p256_9 {i : Nat} (h : i ≤ 9) : (256 : Int) ^ i ≤ 4722366482869645213696 := p256_le h
theorem noPy {a b : Int} (h1 : -9444732965739290427392 < b) (h2 : b < 9444732965739290427392) : b.natAbs < 9444732965739290427392 := by omega
theorem pow_lo {z k : Int} (h1 : k < 0 + (((z - 0).toNat : Nat) : Int)) (h2 : 0 ≤ z) : 0 ≤ z - 1 - k := by omega
theorem pow_hi {z k : Int} (h1 : 0 ≤ k) (h2 : z ≤ 16) : z - 1 - k ≤ 1000000 := by omega
theorem pow_ne {k : Nat} : (256 : Int) ^ k ≠ 0 := Int.ne_of_gt (pow256_pos k)
theorem pow_py {z k : Int} {x : Int} (h1 : 0 ≤ k) (h2 : z ≤ 16) : Builtin.divisionGoesByPylong x (256 ^ (z - 1 - k).toNat) = false := by
  refine PyProof.noPylong_of_log2 ?_
  have h : (256 : Int) ^ (z - 1 - k).toNat ≤ 256 ^ 16 := p256_le (by omega)
  have h0 := pow256_pos (z - 1 - k).toNat
  have h3 : ((256 : Int) ^ (z - 1 - k).toNat).natAbs < 2 ^ 129 := by
    have : (256 : Int) ^ 16 < 2 ^ 129 := by decide
    omega
  have : ((256 : Int) ^ (z - 1 - k).toNat).natAbs.log2 < 129 := by
    rw [Nat.log2_lt (by omega)]; exact h3
  omega
theorem due_digits {u z : Int} (hz : 0 ≤ z) : List.map (fun k => Int.fmod (Int.fdiv u (256 ^ (z - 1 - k).toNat)) 256) (rangeKs 0 (z - 0).toNat) = digits u z.toNat := by
  unfold rangeKs digits
  have e : (z - 0).toNat = z.toNat := by omega
  rw [e, List.map_map]
  apply List.map_congr_left
  intro i hi
  have hi := List.mem_range.mp hi
  simp only [Function.comp]
  have e2 : (z - 1 - (0 + (i : Int))).toNat = z.toNat - 1 - i := by omega
  rw [e2, Int.fdiv_eq_ediv_of_nonneg _ (Int.le_of_lt (pow256_pos _)), Int.fmod_eq_emod_of_nonneg _ (by decide)]
end
theorem offB11 : True := by
  w_top off
  trivial
section
section
open PySem.Calls PySem.Spec
variable {prog : Program} {w : World} {A : Around} {E : Value → Shared → Prop} {s : Shared} {env : Env} {body : List Stmt} {Q : Flow → Shared → Prop}
/-- what holds of a frozen heap that has turned from another -/
def TC (A₀ : Around) (base : Heap) (outer : List Env) (K : Frag) (p : Program) (loose : List Str) (mean : ExcName → Option Value) (mg mb : Str → Option Value) (g₁ g : Heap) : Prop :=
  KtsTurn (outer.filterMap (·.frame)) g₁ g ∧ Below A₀ base outer g ∧ K.In g ∧ Top p loose mean mg mb g ∧ KtsDicts (outer.filterMap (·.frame)) g
theorem ifSame {x : Str} {M : Str → Option Value} : M = fun y => if y = x then M x else M y := by
  funext y
  by_cases h : y = x
  · rw [if_pos h, h]
  · rw [if_neg h]
/-- a loop over a list with one local name, whose turns leave nothing else behind -/
theorem iter_listW {A₀ : Around} {base : Heap} {outer : List Env} {K : Frag} {p : Program} {loose : List Str} {mean : ExcName → Option Value} {mg mb : Str → Option Value} {g₁ g : Heap}
    {x : Str} {px : Pos} {a : Addr} {lo : Obj} {vs : List Value} {k : Nat} {M : Str → Option Value} {news : List (Addr × Obj)}
    {L : Addr} (hL : env.locals = L) (T : KtsTurn (outer.filterMap (·.frame)) g₁ g) (B : Below A₀ base outer g) (X : K.In g) (P : Top p loose mean mg mb g) (D : KtsDicts (outer.filterMap (·.frame)) g)
    (F : Fr g L s.heap M) (N : News g L s.heap news) (hm : (a, lo) ∈ news) (hc : lo.cls = .type "list") (hd : lo.data = .seq vs.toArray k) (hh : A.handled = none)
    (step : ∀ (I : Addr) (i : Nat) v v' g h tk io, vs[i]? = some v → (∀ p ∈ news, p.1 < I) → KtsTurn (outer.filterMap (·.frame)) g₁ g → Below A₀ base outer g → K.In g → Top p loose mean mg mb g → KtsDicts (outer.filterMap (·.frame)) g →
      Fr g L h (fun y => if y = x then v' else M y) → News g L h ((I, io) :: news) → io.cls = .type "list_iterator" →
      wpAny (model prog w) A (assign (.Name x px) env v) (fun _ s₂ => wpAny (model prog w) A (execs body env) (LoopEndT (TC A₀ base outer K p loose mean mg mb g₁) (fun m' n' => n' = news ∧ ∃ v', m' = fun y => if y = x then v' else M y) L
        { s with heap := s.heap.push { cls := .type "list_iterator", data := .fields #[.ref a, .int 0 0] } } I io Q) E s₂) E { s with heap := h, toks := tk })
    (hQ : ∀ v' g h tk, KtsTurn (outer.filterMap (·.frame)) g₁ g → Below A₀ base outer g → K.In g → Top p loose mean mg mb g → KtsDicts (outer.filterMap (·.frame)) g →
      Fr g L h (fun y => if y = x then v' else M y) → News g L h news → Q .next { s with heap := h, toks := tk })
    (hE : PassesOwn (model prog w) A env E := by passes_own) : wpAny (model prog w) A (pyIter (.ref a)) (fun it s₂ => AtT prog w A env (.Name x px) body Q E it s₂) E s := by
  subst hL
  refine iter_listT (TC A₀ base outer K p loose mean mg mb g₁) (fun _ m' n' => n' = news ∧ ∃ v', m' = fun y => if y = x then v' else M y) hh F N hm hc hd ⟨T, B, X, P, D⟩ (fun i m' n' j => by rw [j.1]; exact ⟨hm, rfl⟩) ⟨rfl, _, ifSame⟩ ?_ ?_ hE
  · rintro I i v g h tk m n io hv hlt ⟨a1, a2, a3, a4, a5⟩ ⟨rfl, v', rfl⟩ F N hi
    exact step I i v v' g h tk io hv hlt a1 a2 a3 a4 a5 F N hi
  · rintro g h tk m n ⟨a1, a2, a3, a4, a5⟩ ⟨rfl, v', rfl⟩ F N
    exact hQ v' g h tk a1 a2 a3 a4 a5 F N
theorem LoopEndT.nextW {A₀ : Around} {base : Heap} {outer : List Env} {K : Frag} {p : Program} {loose : List Str} {mean : ExcName → Option Value} {mg mb : Str → Option Value} {g₁ g h' : Heap} {J : (Str → Option Value) → List (Addr × Obj) → Prop} {L : Addr} {I : Addr} {io : Obj} {tk : Nat} {m' : Str → Option Value} {all news' : List (Addr × Obj)}
    (T : KtsTurn (outer.filterMap (·.frame)) g₁ g) (B : Below A₀ base outer g) (X : K.In g) (P : Top p loose mean mg mb g) (D : KtsDicts (outer.filterMap (·.frame)) g)
    (F : Fr g L h' m') (N : News g L h' all) (hs : ∀ p ∈ (I, io) :: news', p ∈ all) (j : J m' news') : LoopEndT (TC A₀ base outer K p loose mean mg mb g₁) J L s I io Q .next { s with heap := h', toks := tk } :=
  LoopEndT.next ⟨T, B, X, P, D⟩ F (fun p hp => N p (hs p hp)) j
end
theorem four_cases {a b c d v : Value} {i : Nat} (h : [a, b, c, d][i]? = some v) : v = a ∨ v = b ∨ v = c ∨ v = d := by
  have := List.mem_of_getElem? h
  simpa using this
theorem three_cases {a b c v : Value} {i : Nat} (h : [a, b, c][i]? = some v) : v = a ∨ v = b ∨ v = c := by
  have := List.mem_of_getElem? h
  simpa using this
theorem ifTwice {x : Str} {v v' : Option Value} {M : Str → Option Value} : (fun y => if y = x then v else if y = x then v' else M y) = fun y => if y = x then v else M y := by
  funext y
  by_cases h : y = x
  · rw [if_pos h, if_pos h]
  · rw [if_neg h, if_neg h, if_neg h]
section
open PySem.Calls PySem.Spec
variable {prog : Program} {w : World} {A : Around} {E : Value → Shared → Prop} {s : Shared} {env : Env} {body : List Stmt} {Q : Flow → Shared → Prop} {target : Expr}
/-- names and ledger of a loop in a def with two cells and one local name of its turns -/
def JC (x : Str) (M : Str → Option Value) (a : Addr) (lo : Obj) (c1 c2 : Addr) (rest : List (Addr × Obj)) (m' : Str → Option Value) (n' : List (Addr × Obj)) : Prop :=
  ∃ o1 o2 w1 w2 v', n' = (a, lo) :: (c1, o1) :: (c2, o2) :: rest ∧ o1.data = .cell w1 ∧ o2.data = .cell w2 ∧ m' = fun y => if y = x then v' else M y
theorem iter_listC {A₀ : Around} {base : Heap} {outer : List Env} {K : Frag} {p : Program} {loose : List Str} {mean : ExcName → Option Value} {mg mb : Str → Option Value} {g₁ g : Heap}
    (x : Str) {a c1 c2 : Addr} {lo o1 o2 : Obj} {w1 w2 : Option Value} {vs : List Value} {k : Nat} {M : Str → Option Value} {rest : List (Addr × Obj)}
    {L : Addr} (hL : env.locals = L) (T : KtsTurn (outer.filterMap (·.frame)) g₁ g) (B : Below A₀ base outer g) (X : K.In g) (P : Top p loose mean mg mb g) (D : KtsDicts (outer.filterMap (·.frame)) g)
    (F : Fr g L s.heap M) (N : News g L s.heap ((a, lo) :: (c1, o1) :: (c2, o2) :: rest)) (hc : lo.cls = .type "list") (hd : lo.data = .seq vs.toArray k) (d1 : o1.data = .cell w1) (d2 : o2.data = .cell w2) (hh : A.handled = none)
    (step : ∀ (I : Addr) (i : Nat) v v' o1 o2 w1 w2 g h tk io, vs[i]? = some v → (∀ p ∈ (a, lo) :: (c1, o1) :: (c2, o2) :: rest, p.1 < I) → KtsTurn (outer.filterMap (·.frame)) g₁ g → Below A₀ base outer g → K.In g → Top p loose mean mg mb g → KtsDicts (outer.filterMap (·.frame)) g →
      o1.data = .cell w1 → o2.data = .cell w2 → Fr g L h (fun y => if y = x then v' else M y) → News g L h ((I, io) :: (a, lo) :: (c1, o1) :: (c2, o2) :: rest) → io.cls = .type "list_iterator" →
      wpAny (model prog w) A (assign target env v) (fun _ s₂ => wpAny (model prog w) A (execs body env) (LoopEndT (TC A₀ base outer K p loose mean mg mb g₁) (JC x M a lo c1 c2 rest) L
        { s with heap := s.heap.push { cls := .type "list_iterator", data := .fields #[.ref a, .int 0 0] } } I io Q) E s₂) E { s with heap := h, toks := tk })
    (hQ : ∀ v' o1 o2 w1 w2 g h tk, KtsTurn (outer.filterMap (·.frame)) g₁ g → Below A₀ base outer g → K.In g → Top p loose mean mg mb g → KtsDicts (outer.filterMap (·.frame)) g →
      o1.data = .cell w1 → o2.data = .cell w2 → Fr g L h (fun y => if y = x then v' else M y) → News g L h ((a, lo) :: (c1, o1) :: (c2, o2) :: rest) → Q .next { s with heap := h, toks := tk })
    (hE : PassesOwn (model prog w) A env E := by passes_own) : wpAny (model prog w) A (pyIter (.ref a)) (fun it s₂ => AtT prog w A env target body Q E it s₂) E s := by
  subst hL
  refine iter_listT (TC A₀ base outer K p loose mean mg mb g₁) (fun _ => JC x M a lo c1 c2 rest) hh F N (.head _) hc hd ⟨T, B, X, P, D⟩ (fun i m' n' j => ?_) ⟨o1, o2, w1, w2, M x, rfl, d1, d2, ifSame⟩ ?_ ?_ hE
  · obtain ⟨o1', o2', w1', w2', v', rfl, _, _, _⟩ := j
    exact ⟨.head _, rfl⟩
  · rintro I i v g h tk m n io hv hlt ⟨a1, a2, a3, a4, a5⟩ ⟨o1', o2', w1', w2', v', rfl, e1, e2, rfl⟩ F N hi
    exact step I i v v' o1' o2' w1' w2' g h tk io hv hlt a1 a2 a3 a4 a5 e1 e2 F N hi
  · rintro g h tk m n ⟨a1, a2, a3, a4, a5⟩ ⟨o1', o2', w1', w2', v', rfl, e1, e2, rfl⟩ F N
    exact hQ v' o1' o2' w1' w2' g h tk a1 a2 a3 a4 a5 e1 e2 F N
theorem LoopEndT.nextC {A₀ : Around} {base : Heap} {outer : List Env} {K : Frag} {p : Program} {loose : List Str} {mean : ExcName → Option Value} {mg mb : Str → Option Value} {g₁ g h' : Heap} {L : Addr} {I : Addr} {io : Obj} {tk : Nat} {m' : Str → Option Value} {all : List (Addr × Obj)}
    {x : Str} {M : Str → Option Value} {a c1 c2 : Addr} {lo o1 o2 : Obj} {w1 w2 v' : Option Value} {rest : List (Addr × Obj)}
    (T : KtsTurn (outer.filterMap (·.frame)) g₁ g) (B : Below A₀ base outer g) (X : K.In g) (P : Top p loose mean mg mb g) (D : KtsDicts (outer.filterMap (·.frame)) g)
    (F : Fr g L h' m') (N : News g L h' all) (hI : (I, io) ∈ all) (ha : (a, lo) ∈ all) (h1 : (c1, o1) ∈ all) (h2 : (c2, o2) ∈ all) (hs : ∀ p ∈ rest, p ∈ all) (d1 : o1.data = .cell w1) (d2 : o2.data = .cell w2) (hm : m' = fun y => if y = x then v' else M y) :
    LoopEndT (TC A₀ base outer K p loose mean mg mb g₁) (JC x M a lo c1 c2 rest) L s I io Q .next { s with heap := h', toks := tk } :=
  LoopEndT.next ⟨T, B, X, P, D⟩ F (fun p hp => N p (by
    rcases List.mem_cons.mp hp with rfl | hp
    · exact hI
    rcases List.mem_cons.mp hp with rfl | hp
    · exact ha
    rcases List.mem_cons.mp hp with rfl | hp
    · exact h1
    rcases List.mem_cons.mp hp with rfl | hp
    · exact h2
    exact hs p hp)) ⟨o1, o2, w1, w2, v', rfl, d1, d2, hm⟩
theorem News.cells {g h : Heap} {L a : Addr} {lo o1 o2 : Obj} {rest all : List (Addr × Obj)} (N : News g L h all) (ha : (a, lo) ∈ all) (h1 : (L + 1 + 1, o1) ∈ all) (h2 : (L + 1, o2) ∈ all) (hs : ∀ p ∈ rest, p ∈ all) :
    News g L h ((a, lo) :: (L + 1 + 1, o1) :: (L + 1, o2) :: rest) := fun p hp => N p (by
    rcases List.mem_cons.mp hp with rfl | hp
    · exact ha
    rcases List.mem_cons.mp hp with rfl | hp
    · exact h1
    rcases List.mem_cons.mp hp with rfl | hp
    · exact h2
    exact hs p hp)
end
theorem News.cells2 {g h : Heap} {L a l o : Addr} {lo o1 o2 ol oo : Obj} {rest all : List (Addr × Obj)} (N : News g L h all) (ha : (a, lo) ∈ all) (h1 : (L + 1 + 1, o1) ∈ all) (h2 : (L + 1, o2) ∈ all) (hl : (l, ol) ∈ all) (ho : (o, oo) ∈ all) (hs : ∀ p ∈ rest, p ∈ all) :
    News g L h ((a, lo) :: (L + 1 + 1, o1) :: (L + 1, o2) :: (l, ol) :: (o, oo) :: rest) :=
  News.cells N ha h1 h2 (List.forall_mem_cons.mpr ⟨hl, List.forall_mem_cons.mpr ⟨ho, hs⟩⟩)
theorem allLt_ne1 {d : Addr} : ∀ {l : List (Addr × Obj)}, AllLt d l → ∀ p ∈ l, p.1 ≠ d + 1
  | [], _, _, h => nomatch h
  | _ :: _, x, p, h => by
    rcases List.mem_cons.mp h with rfl | h
    · exact Nat.ne_of_lt (Nat.lt_succ_of_lt x.1)
    · exact allLt_ne1 x.2 p h
theorem allLt_ne2 {d : Addr} : ∀ {l : List (Addr × Obj)}, AllLt d l → ∀ p ∈ l, p.1 ≠ d + 1 + 1
  | [], _, _, h => nomatch h
  | _ :: _, x, p, h => by
    rcases List.mem_cons.mp h with rfl | h
    · exact Nat.ne_of_lt (Nat.lt_succ_of_lt (Nat.lt_succ_of_lt x.1))
    · exact allLt_ne2 x.2 p h
section
open PySem.Calls PySem.Spec
variable {prog : Program} {w : World} {A : Around} {E : Value → Shared → Prop} {s : Shared} {env : Env} {body : List Stmt} {Q : Flow → Shared → Prop} {target : Expr}
/-- names and ledger of a loop whose target is a cell, with one local name of its turns -/
def JC1 (x : Str) (M : Str → Option Value) (a : Addr) (lo : Obj) (c1 : Addr) (rest : List (Addr × Obj)) (m' : Str → Option Value) (n' : List (Addr × Obj)) : Prop :=
  ∃ o1 w1 v', n' = (a, lo) :: (c1, o1) :: rest ∧ o1.data = .cell w1 ∧ m' = fun y => if y = x then v' else M y
theorem iter_listC1 {A₀ : Around} {base : Heap} {outer : List Env} {K : Frag} {p : Program} {loose : List Str} {mean : ExcName → Option Value} {mg mb : Str → Option Value} {g₁ g : Heap}
    (x : Str) {a c1 : Addr} {lo o1 : Obj} {w1 : Option Value} {vs : List Value} {k : Nat} {M : Str → Option Value} {rest : List (Addr × Obj)}
    {L : Addr} (hL : env.locals = L) (T : KtsTurn (outer.filterMap (·.frame)) g₁ g) (B : Below A₀ base outer g) (X : K.In g) (P : Top p loose mean mg mb g) (D : KtsDicts (outer.filterMap (·.frame)) g)
    (F : Fr g L s.heap M) (N : News g L s.heap ((a, lo) :: (c1, o1) :: rest)) (hc : lo.cls = .type "list") (hd : lo.data = .seq vs.toArray k) (d1 : o1.data = .cell w1) (hh : A.handled = none)
    (step : ∀ (I : Addr) (i : Nat) v v' o1 w1 g h tk io, vs[i]? = some v → (∀ p ∈ (a, lo) :: (c1, o1) :: rest, p.1 < I) → KtsTurn (outer.filterMap (·.frame)) g₁ g → Below A₀ base outer g → K.In g → Top p loose mean mg mb g → KtsDicts (outer.filterMap (·.frame)) g →
      o1.data = .cell w1 → Fr g L h (fun y => if y = x then v' else M y) → News g L h ((I, io) :: (a, lo) :: (c1, o1) :: rest) → io.cls = .type "list_iterator" →
      wpAny (model prog w) A (assign target env v) (fun _ s₂ => wpAny (model prog w) A (execs body env) (LoopEndT (TC A₀ base outer K p loose mean mg mb g₁) (JC1 x M a lo c1 rest) L
        { s with heap := s.heap.push { cls := .type "list_iterator", data := .fields #[.ref a, .int 0 0] } } I io Q) E s₂) E { s with heap := h, toks := tk })
    (hQ : ∀ v' o1 w1 g h tk, KtsTurn (outer.filterMap (·.frame)) g₁ g → Below A₀ base outer g → K.In g → Top p loose mean mg mb g → KtsDicts (outer.filterMap (·.frame)) g →
      o1.data = .cell w1 → Fr g L h (fun y => if y = x then v' else M y) → News g L h ((a, lo) :: (c1, o1) :: rest) → Q .next { s with heap := h, toks := tk })
    (hE : PassesOwn (model prog w) A env E := by passes_own) : wpAny (model prog w) A (pyIter (.ref a)) (fun it s₂ => AtT prog w A env target body Q E it s₂) E s := by
  subst hL
  refine iter_listT (TC A₀ base outer K p loose mean mg mb g₁) (fun _ => JC1 x M a lo c1 rest) hh F N (.head _) hc hd ⟨T, B, X, P, D⟩ (fun i m' n' j => ?_) ⟨o1, w1, M x, rfl, d1, ifSame⟩ ?_ ?_ hE
  · obtain ⟨o1', w1', v', rfl, _, _⟩ := j
    exact ⟨.head _, rfl⟩
  · rintro I i v g h tk m n io hv hlt ⟨a1, a2, a3, a4, a5⟩ ⟨o1', w1', v', rfl, e1, rfl⟩ F N hi
    exact step I i v v' o1' w1' g h tk io hv hlt a1 a2 a3 a4 a5 e1 F N hi
  · rintro g h tk m n ⟨a1, a2, a3, a4, a5⟩ ⟨o1', w1', v', rfl, e1, rfl⟩ F N
    exact hQ v' o1' w1' g h tk a1 a2 a3 a4 a5 e1 F N
theorem LoopEndT.nextC1 {A₀ : Around} {base : Heap} {outer : List Env} {K : Frag} {p : Program} {loose : List Str} {mean : ExcName → Option Value} {mg mb : Str → Option Value} {g₁ g h' : Heap} {L : Addr} {I : Addr} {io : Obj} {tk : Nat} {m' : Str → Option Value} {all : List (Addr × Obj)}
    {x : Str} {M : Str → Option Value} {a c1 : Addr} {lo o1 : Obj} {w1 v' : Option Value} {rest : List (Addr × Obj)}
    (T : KtsTurn (outer.filterMap (·.frame)) g₁ g) (B : Below A₀ base outer g) (X : K.In g) (P : Top p loose mean mg mb g) (D : KtsDicts (outer.filterMap (·.frame)) g)
    (F : Fr g L h' m') (N : News g L h' all) (hI : (I, io) ∈ all) (ha : (a, lo) ∈ all) (h1 : (c1, o1) ∈ all) (hs : ∀ p ∈ rest, p ∈ all) (d1 : o1.data = .cell w1) (hm : m' = fun y => if y = x then v' else M y) :
    LoopEndT (TC A₀ base outer K p loose mean mg mb g₁) (JC1 x M a lo c1 rest) L s I io Q .next { s with heap := h', toks := tk } :=
  LoopEndT.next ⟨T, B, X, P, D⟩ F (fun p hp => N p (by
    rcases List.mem_cons.mp hp with rfl | hp
    · exact hI
    rcases List.mem_cons.mp hp with rfl | hp
    · exact ha
    rcases List.mem_cons.mp hp with rfl | hp
    · exact h1
    exact hs p hp)) ⟨o1, w1, v', rfl, d1, hm⟩
/-- the ledger of the inner loop -/
theorem News.inner {g h : Heap} {L a I q : Addr} {lo io oq o1 : Obj} {rest : List (Addr × Obj)} (N : News g L h ((a, lo) :: (I, io) :: (q, oq) :: (L + 1 + 1, o1) :: rest)) : News g L h ((a, lo) :: (L + 1 + 1, o1) :: (I, io) :: (q, oq) :: rest) :=
  fun p hp => N p (by
    rcases List.mem_cons.mp hp with rfl | hp
    · exact .head _
    rcases List.mem_cons.mp hp with rfl | hp
    · exact .tail _ (.tail _ (.tail _ (.head _)))
    rcases List.mem_cons.mp hp with rfl | hp
    · exact .tail _ (.head _)
    rcases List.mem_cons.mp hp with rfl | hp
    · exact .tail _ (.tail _ (.head _))
    exact .tail _ (.tail _ (.tail _ (.tail _ hp))))
end
end
theorem offB12 : True := by
  w_top off
  trivial
section
section
open PySem.Calls PySem.Spec
variable {prog : Program} {w : World} {A : Around} {E : Value → Shared → Prop} {s : Shared} {env : Env} {body : List Stmt} {Q : Flow → Shared → Prop} {target : Expr}
theorem over3 {x1 x2 x3 : Str} {M m' : Str → Option Value} (h : ∀ y, y ≠ x1 → y ≠ x2 → y ≠ x3 → m' y = M y) : ∃ v1 v2 v3, m' = fun y => if y = x1 then v1 else if y = x2 then v2 else if y = x3 then v3 else M y := by
  refine ⟨m' x1, m' x2, m' x3, ?_⟩
  funext y
  by_cases h1 : y = x1
  · rw [if_pos h1, h1]
  rw [if_neg h1]
  by_cases h2 : y = x2
  · rw [if_pos h2, h2]
  rw [if_neg h2]
  by_cases h3 : y = x3
  · rw [if_pos h3, h3]
  rw [if_neg h3]
  exact h y h1 h2 h3
theorem over4 {x1 x2 x3 x4 : Str} {M m' : Str → Option Value} (h : ∀ y, y ≠ x1 → y ≠ x2 → y ≠ x3 → y ≠ x4 → m' y = M y) : ∃ v1 v2 v3 v4, m' = fun y => if y = x1 then v1 else if y = x2 then v2 else if y = x3 then v3 else if y = x4 then v4 else M y := by
  refine ⟨m' x1, m' x2, m' x3, m' x4, ?_⟩
  funext y
  by_cases h1 : y = x1
  · rw [if_pos h1, h1]
  rw [if_neg h1]
  by_cases h2 : y = x2
  · rw [if_pos h2, h2]
  rw [if_neg h2]
  by_cases h3 : y = x3
  · rw [if_pos h3, h3]
  rw [if_neg h3]
  by_cases h4 : y = x4
  · rw [if_pos h4, h4]
  rw [if_neg h4]
  exact h y h1 h2 h3 h4
/-- names and ledger of a loop with three local names of its turns -/
def J3 (x1 x2 x3 : Str) (M : Str → Option Value) (news : List (Addr × Obj)) (m' : Str → Option Value) (n' : List (Addr × Obj)) : Prop :=
  n' = news ∧ ∀ y, y ≠ x1 → y ≠ x2 → y ≠ x3 → m' y = M y
def J4 (x1 x2 x3 x4 : Str) (M : Str → Option Value) (news : List (Addr × Obj)) (m' : Str → Option Value) (n' : List (Addr × Obj)) : Prop :=
  n' = news ∧ ∀ y, y ≠ x1 → y ≠ x2 → y ≠ x3 → y ≠ x4 → m' y = M y
theorem iter_list3 {A₀ : Around} {base : Heap} {outer : List Env} {K : Frag} {p : Program} {loose : List Str} {mean : ExcName → Option Value} {mg mb : Str → Option Value} {g₁ g : Heap}
    (x1 x2 x3 : Str) {a : Addr} {lo : Obj} {vs : List Value} {k : Nat} {M : Str → Option Value} {news : List (Addr × Obj)}
    {L : Addr} (hL : env.locals = L) (T : KtsTurn (outer.filterMap (·.frame)) g₁ g) (B : Below A₀ base outer g) (X : K.In g) (P : Top p loose mean mg mb g) (D : KtsDicts (outer.filterMap (·.frame)) g)
    (F : Fr g L s.heap M) (N : News g L s.heap news) (hm : (a, lo) ∈ news) (hc : lo.cls = .type "list") (hd : lo.data = .seq vs.toArray k) (hh : A.handled = none)
    (step : ∀ (I : Addr) (i : Nat) v v1 v2 v3 g h tk io, vs[i]? = some v → (∀ p ∈ news, p.1 < I) → KtsTurn (outer.filterMap (·.frame)) g₁ g → Below A₀ base outer g → K.In g → Top p loose mean mg mb g → KtsDicts (outer.filterMap (·.frame)) g →
      Fr g L h (fun y => if y = x1 then v1 else if y = x2 then v2 else if y = x3 then v3 else M y) → News g L h ((I, io) :: news) → io.cls = .type "list_iterator" →
      wpAny (model prog w) A (assign target env v) (fun _ s₂ => wpAny (model prog w) A (execs body env) (LoopEndT (TC A₀ base outer K p loose mean mg mb g₁) (J3 x1 x2 x3 M news) L
        { s with heap := s.heap.push { cls := .type "list_iterator", data := .fields #[.ref a, .int 0 0] } } I io Q) E s₂) E { s with heap := h, toks := tk })
    (hQ : ∀ v1 v2 v3 g h tk, KtsTurn (outer.filterMap (·.frame)) g₁ g → Below A₀ base outer g → K.In g → Top p loose mean mg mb g → KtsDicts (outer.filterMap (·.frame)) g →
      Fr g L h (fun y => if y = x1 then v1 else if y = x2 then v2 else if y = x3 then v3 else M y) → News g L h news → Q .next { s with heap := h, toks := tk })
    (hE : PassesOwn (model prog w) A env E := by passes_own) : wpAny (model prog w) A (pyIter (.ref a)) (fun it s₂ => AtT prog w A env target body Q E it s₂) E s := by
  subst hL
  refine iter_listT (TC A₀ base outer K p loose mean mg mb g₁) (fun _ => J3 x1 x2 x3 M news) hh F N hm hc hd ⟨T, B, X, P, D⟩ (fun i m' n' j => by rw [j.1]; exact ⟨hm, rfl⟩) ⟨rfl, fun _ _ _ _ => rfl⟩ ?_ ?_ hE
  · rintro I i v g h tk m n io hv hlt ⟨a1, a2, a3, a4, a5⟩ ⟨rfl, hm'⟩ F N hi
    obtain ⟨v1, v2, v3, rfl⟩ := over3 hm'
    exact step I i v v1 v2 v3 g h tk io hv hlt a1 a2 a3 a4 a5 F N hi
  · rintro g h tk m n ⟨a1, a2, a3, a4, a5⟩ ⟨rfl, hm'⟩ F N
    obtain ⟨v1, v2, v3, rfl⟩ := over3 hm'
    exact hQ v1 v2 v3 g h tk a1 a2 a3 a4 a5 F N
theorem LoopEndT.next3 {A₀ : Around} {base : Heap} {outer : List Env} {K : Frag} {p : Program} {loose : List Str} {mean : ExcName → Option Value} {mg mb : Str → Option Value} {g₁ g h' : Heap} {L : Addr} {I : Addr} {io : Obj} {tk : Nat} {m' : Str → Option Value} {all : List (Addr × Obj)}
    {x1 x2 x3 : Str} {M : Str → Option Value} {news : List (Addr × Obj)}
    (T : KtsTurn (outer.filterMap (·.frame)) g₁ g) (B : Below A₀ base outer g) (X : K.In g) (P : Top p loose mean mg mb g) (D : KtsDicts (outer.filterMap (·.frame)) g)
    (F : Fr g L h' m') (N : News g L h' all) (hs : ∀ p ∈ (I, io) :: news, p ∈ all) (hm : ∀ y, y ≠ x1 → y ≠ x2 → y ≠ x3 → m' y = M y) :
    LoopEndT (TC A₀ base outer K p loose mean mg mb g₁) (J3 x1 x2 x3 M news) L s I io Q .next { s with heap := h', toks := tk } :=
  LoopEndT.next ⟨T, B, X, P, D⟩ F (fun p hp => N p (hs p hp)) ⟨rfl, hm⟩
theorem iter_range4 {A₀ : Around} {base : Heap} {outer : List Env} {K : Frag} {p : Program} {loose : List Str} {mean : ExcName → Option Value} {mg mb : Str → Option Value} {g₁ g : Heap}
    (x1 x2 x3 x4 : Str) {x : Str} {px : Pos} {r : Addr} {a b : Int} {t u v : Tok} {M : Str → Option Value} {news : List (Addr × Obj)}
    {L : Addr} (hL : env.locals = L) (T : KtsTurn (outer.filterMap (·.frame)) g₁ g) (B : Below A₀ base outer g) (X : K.In g) (P : Top p loose mean mg mb g) (D : KtsDicts (outer.filterMap (·.frame)) g)
    (F : Fr g L s.heap M) (N : News g L s.heap news) (hr : IsRange s.heap r a b 1 t u v) (ha : -32 ≤ a) (hab : a ≤ b) (hb : b ≤ 32) (hh : A.handled = none)
    (step : ∀ (I : Addr) (z : Int) tv v1 v2 v3 v4 g h tk io, a ≤ z → z < b → (∀ p ∈ news, p.1 < I) → KtsTurn (outer.filterMap (·.frame)) g₁ g → Below A₀ base outer g → K.In g → Top p loose mean mg mb g → KtsDicts (outer.filterMap (·.frame)) g →
      Fr g L h (fun y => if y = x1 then v1 else if y = x2 then v2 else if y = x3 then v3 else if y = x4 then v4 else M y) → News g L h ((I, io) :: news) → io.cls = .type "range_iterator" →
      wpAny (model prog w) A (assign (.Name x px) env (.int z tv)) (fun _ s₂ => wpAny (model prog w) A (execs body env) (LoopEndT (TC A₀ base outer K p loose mean mg mb g₁) (J4 x1 x2 x3 x4 M news) L
        { s with heap := s.heap.push { cls := .type "range_iterator", data := .fields #[rawInt a, rawInt (Builtin.Range.rangeSize a b 1), rawInt 1] } } I io Q) E s₂) E { s with heap := h, toks := tk })
    (hQ : ∀ v1 v2 v3 v4 g h tk, KtsTurn (outer.filterMap (·.frame)) g₁ g → Below A₀ base outer g → K.In g → Top p loose mean mg mb g → KtsDicts (outer.filterMap (·.frame)) g →
      Fr g L h (fun y => if y = x1 then v1 else if y = x2 then v2 else if y = x3 then v3 else if y = x4 then v4 else M y) → News g L h news → Q .next { s with heap := h, toks := tk })
    (hE : PassesOwn (model prog w) A env E := by passes_own) : wpAny (model prog w) A (pyIter (.ref r)) (fun it s₂ => AtT prog w A env (.Name x px) body Q E it s₂) E s := by
  subst hL
  refine iter_rangeT (n := (b - a).toNat) (TC A₀ base outer K p loose mean mg mb g₁) (fun _ => J4 x1 x2 x3 x4 M news) hh F N hr (small_one (by omega) (by omega) (by omega) (by omega)) (rangeSize_nat a b) ⟨T, B, X, P, D⟩ (fun i m' n' j => by rw [j.1]) ⟨rfl, fun _ _ _ _ _ => rfl⟩ ?_ ?_ hE
  · rintro I i tv g h tk m n io hi hlt ⟨a1, a2, a3, a4, a5⟩ ⟨rfl, hm'⟩ F N hio
    obtain ⟨v1, v2, v3, v4, rfl⟩ := over4 hm'
    have e1 : a ≤ a + (i : Int) * 1 := by omega
    have e2 : a + (i : Int) * 1 < b := by omega
    exact step I (a + (i : Int) * 1) tv v1 v2 v3 v4 g h tk io e1 e2 hlt a1 a2 a3 a4 a5 F N hio
  · rintro g h tk m n ⟨a1, a2, a3, a4, a5⟩ ⟨rfl, hm'⟩ F N
    obtain ⟨v1, v2, v3, v4, rfl⟩ := over4 hm'
    exact hQ v1 v2 v3 v4 g h tk a1 a2 a3 a4 a5 F N
theorem LoopEndT.next4 {A₀ : Around} {base : Heap} {outer : List Env} {K : Frag} {p : Program} {loose : List Str} {mean : ExcName → Option Value} {mg mb : Str → Option Value} {g₁ g h' : Heap} {L : Addr} {I : Addr} {io : Obj} {tk : Nat} {m' : Str → Option Value} {all : List (Addr × Obj)}
    {x1 x2 x3 x4 : Str} {M : Str → Option Value} {news : List (Addr × Obj)}
    (T : KtsTurn (outer.filterMap (·.frame)) g₁ g) (B : Below A₀ base outer g) (X : K.In g) (P : Top p loose mean mg mb g) (D : KtsDicts (outer.filterMap (·.frame)) g)
    (F : Fr g L h' m') (N : News g L h' all) (hs : ∀ p ∈ (I, io) :: news, p ∈ all) (hm : ∀ y, y ≠ x1 → y ≠ x2 → y ≠ x3 → y ≠ x4 → m' y = M y) :
    LoopEndT (TC A₀ base outer K p loose mean mg mb g₁) (J4 x1 x2 x3 x4 M news) L s I io Q .next { s with heap := h', toks := tk } :=
  LoopEndT.next ⟨T, B, X, P, D⟩ F (fun p hp => N p (hs p hp)) ⟨rfl, hm⟩
end
end
theorem offD4 : True := by
  w_top off
  trivial
section
local macro_rules | `(tactic| walk_at "call ref") => `(tactic| (k_here; (with_reducible show wpAny _ _ (call (Value.ref 138) _) _ _ _); k_dflt (refine' worth_spec ?k1 ?k2 ?k3 ?k4 ?k5 ?kK ?km ?ki ?b1 ?b2 ?kd ?_; (case k1 => k_asm); (case k2 => k_asm); (case k3 => k_asm); (case k4 => k_asm); (case k5 => k_asm); (case kK => first | exact rfl | assumption); (case km => k_mem); (case ki => first | assumption | l_ints); (case b1 => first | assumption | omega | (simp only [List.length_take, List.length_drop]; omega)); (case b2 => assumption); (case kd => ktr_room)); intro t9 h9 tk9 F9 N9; (try dsimp only); (try k_fold)))
local macro_rules | `(tactic| walk_at "call ref") => `(tactic| (k_here; (with_reducible show wpAny _ _ (call (Value.ref 145) _) _ _ _); k_dflt (refine' lput_spec ?k1 ?k2 ?k3 ?k4 ?k5 ?kK ?kX ?kT ?kD ?b1 ?b2 ?b3 ?b4 ?kd ?ku ?kR ?kE; (case k1 => k_asm); (case k2 => k_asm); (case k3 => k_asm); (case k4 => k_asm); (case k5 => k_asm); (case kK => first | exact rfl | assumption); (case kX => assumption); (case kT => assumption); (case kD => assumption); (case b1 => first | (with_reducible assumption) | omega); (case b2 => first | (with_reducible assumption) | omega); (case b3 => exact loB (by first | (with_reducible assumption) | omega)); (case b4 => exact hiB (by first | (with_reducible assumption) | omega)); (case kd => ktr_room); (case ku => ktr_units)); (case' kR => (intro q9 vs9 n9 g9 h9 tk9 c9 d9 i9 l9 T9 F9 N9 B9 X9 P9 D9; (try dsimp only); (try k_fold))); (case' kE => (intro g9 h9 tk9 c9 T9 F9 N9 B9 X9 P9 D9; (try dsimp only); (try k_fold)))))
section
local macro_rules | `(tactic| walk_at "binaryOp Pow int int") => `(tactic| (k_here; (with_reducible refine pow_int_small ?kb1 ?kb2 ?kb3 ?_); (case kb1 => first | exact pow_lo (by with_reducible assumption) (by with_reducible assumption) | l_bnd); (case kb2 => first | exact pow_hi (by with_reducible assumption) (by with_reducible assumption) | l_bnd); (case kb3 => decide)))
local macro_rules | `(tactic| walk_at "binaryOp FloorDiv int int") => `(tactic| (k_here; (with_reducible refine floordiv_int ?kbe ?_ (Or.inl ?kbp)); (case kbe => exact pow_ne); (case kbp => exact pow_py (by with_reducible assumption) (by with_reducible assumption))))
local macro_rules | `(tactic| walk_at "binaryOp Mod int int") => `(tactic| (k_here; (with_reducible refine mod_int' ?kbe ?_); (case kbe => decide)))
local macro_rules | `(tactic| walk_at "exec For Name List cons nil") => `(tactic| (refine For_T ?_ (fun _ => rfl)))
local macro_rules | `(tactic| walk_at "compareOp NotEq ref ref") => `(tactic| (k_here; (try dsimp only); (with_reducible show wpAny _ _ (compareOp CmpOp.NotEq (Value.ref _) (Value.ref _)) _ _ _); k_dflt (refine' ne_same ?N ?a ?b ?c ?d ?e ?f ?i ?j ?u ?g ?_; (case N => k_asm); (case a => k_mem); (case b => exact rfl); (case c => exact rfl); (case d => k_mem); (case e => exact rfl); (case f => exact rfl); (case i => with_reducible assumption); (case j => with_reducible assumption); (case u => ktr_units); (case g => exact put_same hv (by assumption)))))
local macro_rules | `(tactic| walk_at "compareOp NotEq ref ref") => `(tactic| (k_here; (try dsimp only); (with_reducible show wpAny _ _ (compareOp CmpOp.NotEq (Value.ref _) (Value.ref _)) _ _ _); k_dflt (refine' ne_two_same ?N ?a ?b ?c ?d ?e ?f ?q1 ?q2 ?q3 ?r1 ?r2 ?r3 ?t1 ?t2 ?t3 ?i ?j ?k ?g ?u ?_; (case N => k_asm); (case a => k_mem); (case b => exact rfl); (case c => exact rfl); (case d => k_mem); (case e => exact rfl); (case f => exact rfl); (case q1 => k_mem); (case q2 => exact rfl); (case q3 => exact rfl); (case r1 => k_mem); (case r2 => exact rfl); (case r3 => exact rfl); (case t1 => k_mem); (case t2 => exact rfl); (case t3 => exact rfl); (case i => with_reducible assumption); (case j => with_reducible assumption); (case k => with_reducible assumption); (case g => exact due_digits (by with_reducible assumption)); (case u => ktr_units))))
local macro_rules | `(tactic| walk_at "compareOp NotEq ref ref") => `(tactic| (k_here; (try dsimp only); (with_reducible show wpAny _ _ (compareOp CmpOp.NotEq (Value.ref _) (Value.ref _)) _ _ _); k_dflt (refine' ne_two_none ?N ?a ?b ?c ?d ?e ?f ?u ?_; (case N => k_asm); (case a => k_mem); (case b => exact rfl); (case c => exact rfl); (case d => k_mem); (case e => exact rfl); (case f => exact rfl); (case u => ktr_units))))
theorem puts_spec {w : World} {p : Program} {loose : List Str} {mean : ExcName → Option Value} {mg mb : Str → Option Value}
   {dp un : Nat} {gd : Option (List Code)} {cn : Str} {cs : Scope} {a : Addr} {ccd : Value} {cl : List (Str × Addr)} {outer : List Env} {A₀ : Around} {base h₀ : Heap} {L : Addr} {m : Str → Option Value} {s : Shared} {Q E : Value → Shared → Prop}
   {news : List (Addr × Obj)} {l o : Addr} {x y : Int} {tx ty : Tok} {n k : Nat} {vs : List Value} {ns : List Int}
   (B : Below A₀ base outer h₀) (F : Fr h₀ L s.heap m) (X : (hd.heap_39 w.params).In h₀) (N : News h₀ L s.heap ((l, lstO [.int x tx, .int y ty] n) :: (o, lstO vs k) :: news)) (T : Top p loose mean mg mb h₀) (hk : cs.kind = .function)
   (XB : (hd.heap_39 w.params).In base) (TB : Top p loose mean mg mb base) (D : KtsDicts (outer.filterMap (·.frame)) h₀)
   (hne : ∀ q ∈ news, q.1 ≠ l) (hol : @Ne Nat o l) (hx : 0 ≤ x) (hy : 0 ≤ y) (hy2 : y < 2147483647)
   (hi : IntsAre vs ns) (hlen : ns.length ≤ 9) (hv : ∀ z ∈ ns, 0 ≤ z ∧ z < 256)
   (hdp : dp + 8 < recursionLimit) (hu : un + 128 < cLine)
   (hret : ∀ (x' y' : Int) (tx' ty' : Tok) (g h' : Heap) (tk' : Nat), 0 ≤ x' → 0 ≤ y' → y' < 2147483647 →
      KtsTurn (outer.filterMap (·.frame)) h₀ g → Fr g L h' m → News g L h' ((l, lstO [.int x' tx', .int y' ty'] n) :: (o, lstO vs k) :: news) → Below A₀ base outer g → (hd.heap_39 w.params).In g → Top p loose mean mg mb g → KtsDicts (outer.filterMap (·.frame)) g → Q (.bool true) { s with heap := h', toks := tk' }) :
   wpAny (model PySem.Challenge.rw_xm0974_01.row.prog w) (ktrTop dp un gd cn cs L a ccd cl outer) (call (.ref 157) [.ref l, .ref o]) Q E s := by
  revert X; k_fill; intro X
  have hlen16 : ns.length ≤ 16 := by omega
  have hw0 : 0 ≤ worth ns := (worth_lt hv).1
  have hw1 : worth ns < 4722366482869645213696 := Int.lt_of_lt_of_le (worth_lt hv).2 (p256_9 hlen)
  have hp1 : (0 : Int) < 256 ^ ((ns.length : Int)).toNat := pow256_pos _
  have hp2 : (256 : Int) ^ ((ns.length : Int)).toNat ≤ 4722366482869645213696 := p256_9 (by omega)
  refine wpAny_call ?_
  k_dflt ((refine' code_tryC ?k1 ?k2 ?k3 ?k4 ?k5 ?kXB ?kTB ?kD ?kA ?kF ?kK ?k6 ?k7 ?k8 ?k9 ?kB ?kN ?_ ?c2 ?c3 ?c4; (case kA => exact rfl); (case kF => exact rfl); (case kK => first | assumption | exact rfl); (case k1 => k_asm); (case k2 => k_asm); (case k3 => k_asm); (case k4 => k_asm); (case k5 => k_asm); (case kXB => assumption); (case kTB => assumption); (case kD => assumption); (case k6 => k_is); (case k7 => k_is); (case k8 => ktr_room); (case k9 => exact BindsTo.of_eq rfl); (case kB => exact rfl); (case kN => decide +kernel); (case c2 => exact rfl); (case c3 => exact rfl); (case c4 => exact rfl); k_whole; intro g' L' h' tk' cells' FG' F' N' Y' B' X' T' D' l1; (try k_lt l1); k_cells Y'; (try simp only [List.cons_append, List.nil_append] at N'); (try dsimp only); (try k_fold)))
  (rename (_ ∧ _ ∧ AllLt _ news) => hAL)
  have hn1 := allLt_ne1 hAL.2.2
  have hn2 := allLt_ne2 hAL.2.2
  k_steps
  all_goals (try walk_at "call ref")
  all_goals (try k_steps)
  all_goals (try walk_at "call ref")
  all_goals (try dsimp only)
  case kE =>
    rename_i h1
    exact absurd (show 0 ≤ worth ns ∧ worth ns < _ from ⟨hw0, room_more hv (by assumption)⟩) (by assumption)
  all_goals (try k_steps)
  all_goals (try (rename (¬ (digits _ _ = _)) => hA; exact absurd (put_same hv (by assumption)) hA))
  refine' iter_listW ?L ?T ?B ?X ?P ?D ?F ?N ?m ?c ?d ?h ?step ?Q
  case F => k_asm
  case L => exact rfl
  case N => k_asm
  case T => assumption
  case B => k_asm
  case X => k_asm
  case P => k_asm
  case D => assumption
  case m => k_mem
  case c => exact rfl
  case d => exact rfl
  case h => with_unfolding_all rfl
  case step =>
    intro I i v v' g h tk io hiv l1 T1 B1 X1 P1 D1 F1 N1 io1
    obtain ⟨z, t, rfl, hz1, hz2, hz3⟩ : ∃ z t, v = .int z t ∧ -9444732965739290427392 < z ∧ z < 9444732965739290427392 ∧ ¬ (0 ≤ z ∧ z < 256 ^ ((ns.length : Int)).toNat) := by
      rcases four_cases hiv with e | e | e | e
      all_goals exact ⟨_, _, e, by omega, by omega, by omega⟩
    clear hiv
    (try dsimp only)
    k_steps
    all_goals (try walk_at "call ref")
    all_goals (try k_steps)
    all_goals (try exact absurd (show 0 ≤ z ∧ z < _ from ⟨by assumption, by assumption⟩) hz3)
    refine' LoopEndT.nextW ?T ?B ?X ?P ?D ?F ?N ?s ⟨rfl, some (.int z t), ?j⟩
    case F => k_asm
    case N => k_asm
    case T => exact T1.trans (by assumption)
    case B => k_asm
    case X => k_asm
    case P => k_asm
    case D => assumption
    case s => first | exact fun _ h => h | exact fun _ h => .tail _ h | exact fun _ h => .tail _ (.tail _ h)
    case j => first | exact rfl | exact ifTwice
  case Q =>
    intro v' g h tk T1 B1 X1 P1 D1 F1 N1
    (try dsimp only)
    k_steps
    refine' iter_listC (Str.ofString "due") ?L ?T ?B ?X ?P ?D ?F (News.cells2 (l := l) (o := o) (rest := news) ?N ?na ?n1 ?n2 ?ns1 ?ns2 ?ns3) ?c ?d ?d1 ?d2 ?h ?step ?Q
    case F => k_asm
    case L => exact rfl
    case N => k_asm
    case na => exact .head _
    case n1 => k_mem
    case n2 => k_mem
    case ns1 => k_mem
    case ns2 => k_mem
    case ns3 => intro p hp; repeat (first | exact hp | apply List.mem_cons_of_mem)
    case T => exact T1
    case B => k_asm
    case X => k_asm
    case P => k_asm
    case D => assumption
    case c => exact rfl
    case d => exact rfl
    case d1 => with_reducible assumption
    case d2 => with_reducible assumption
    case h => with_unfolding_all rfl
    case step =>
      intro I i v v' o1 o2 w1 w2 g h tk io hiv l1 T2 B2 X2 P2 D2 d1 d2 F2 N2 io2
      k_lt l1
      obtain ⟨z, t, rfl, hz⟩ : ∃ z t, v = .int z t ∧ (z = 2 ∨ z = 4 ∨ z = 6) := by
        rcases three_cases hiv with e | e | e
        all_goals exact ⟨_, _, e, by omega⟩
      clear hiv
      (try dsimp only)
      k_steps
      have hz0 : 0 ≤ z := by omega
      have hz16 : z ≤ 16 := by omega
      have hq1 : (0 : Int) < 256 ^ z.toNat := pow256_pos _
      have hq2 : (256 : Int) ^ z.toNat ≤ 4722366482869645213696 := p256_9 (by omega)
      refine' iter_listC1 (Str.ofString "due") ?L ?T ?B ?X ?P ?D ?F (News.inner ?N) ?c ?d ?d1 ?h ?step3 ?Q3
      case F => k_asm
      case L => exact rfl
      case N => k_asm
      case T => exact T2
      case B => k_asm
      case X => k_asm
      case P => k_asm
      case D => assumption
      case c => exact rfl
      case d => exact rfl
      case d1 => exact d1
      case h => with_unfolding_all rfl
      case step3 =>
        clear T1 B1 X1 P1 D1
        intro I2 i2 v v2 o3 w3 g h tk io3 hiv l1 T3 B3 X3 P3 D3 d3 F3 N3 io3'
        k_lt l1
        obtain ⟨u, t2, rfl, hu1, hu2⟩ : ∃ u t, v = .int u t ∧ -9444732965739290427392 < u ∧ u < 9444732965739290427392 := by
          rcases four_cases hiv with e | e | e | e
          all_goals exact ⟨_, _, e, by omega, by omega⟩
        clear hiv
        (try dsimp only)
        k_steps
        all_goals (try walk_at "call ref")
        all_goals (try first | exact absurd (show 0 ≤ u ∧ u < _ from ⟨by assumption, by assumption⟩) (by assumption) | exact absurd (show 0 ≤ u by assumption) (by assumption) | exact absurd (show u < 256 ^ z.toNat by assumption) (by assumption))
        all_goals (try k_steps)
        all_goals (try walk_at "call ref")
        all_goals (try first | exact absurd (show 0 ≤ u ∧ u < _ from ⟨by assumption, by assumption⟩) (by assumption) | exact absurd (show 0 ≤ u by assumption) (by assumption) | exact absurd (show u < 256 ^ z.toNat by assumption) (by assumption))
        all_goals (try k_steps)
        all_goals ((refine' LoopEndT.nextC1 (KtsTurn.trans ?zT0 (KtsTurn.trans ?zT1 ?zT2)) ?zB ?zX ?zP ?zD ?zF ?zN ?zI ?za ?z1 ?zs ?zd ?zm; (case zF => k_asm); (case zT2 => assumption); (case zT1 => assumption); (case zT0 => assumption); (case zN => k_asm); (case zB => k_asm); (case zX => k_asm); (case zP => k_asm); (case zD => assumption); (case zI => k_mem); (case za => k_mem); (case z1 => k_mem); (case zs => intro p hp; repeat (first | exact hp | apply List.mem_cons_of_mem)); (case zd => first | exact rfl | assumption); (case zm => first | exact rfl | exact ifTwice)))
      case Q3 =>
        intro v' o3 w3 g h tk T3 B3 X3 P3 D3 d3 F3 N3
        (try dsimp only)
        k_steps
        refine' LoopEndT.nextC T3 B3 X3 P3 D3 F3 N3 ?yI ?ya ?y1 ?y2 ?ys ?yd1 ?yd2 ?ym
        case yI => k_mem
        case ya => k_mem
        case y1 => k_mem
        case y2 => k_mem
        case ys => intro p hp; repeat (first | exact hp | apply List.mem_cons_of_mem)
        case yd1 => first | exact rfl | assumption
        case yd2 => first | exact rfl | assumption
        case ym => first | exact rfl | exact ifTwice
    case Q =>
      intro v' o1 o2 w1 w2 g h tk T2 B2 X2 P2 D2 d1 d2 F2 N2
      (try dsimp only)
      k_steps
      refine' hret _ _ _ _ _ _ _ ?w1 ?w2 ?w3 ?wT ?wF (fun p hp => ?wN) ?wB ?wX ?wP ?wD
      case wF => assumption
      case wN =>
        (with_reducible (rename (News _ L _ _) => kN))
        refine kN p ?_
        repeat (first | exact hp | apply List.mem_cons_of_mem)
      case w1 => assumption
      case w2 => assumption
      case w3 => assumption
      case wT => assumption
      case wB => assumption
      case wX => assumption
      case wP => assumption
      case wD => assumption
end
end
theorem offD5 : True := by
  w_top off
  trivial
section
theorem sliceLen {ns : List Int} {i j n : Nat} (h : ns.length ≤ n) : (List.take i (List.drop j ns)).length ≤ n := by
  rw [List.length_take, List.length_drop]; omega
theorem sliceIn {ns : List Int} {i j : Nat} (hv : ∀ z ∈ ns, 0 ≤ z ∧ z < 256) : ∀ z ∈ List.take i (List.drop j ns), 0 ≤ z ∧ z < 256 :=
  fun z hz => hv z (List.mem_of_mem_drop (List.mem_of_mem_take hz))
theorem slice_eq {ns : List Int} {z many : Int} (h1 : 0 ≤ z) (h2 : many ≤ (ns.length : Int) - z) (h0 : 0 ≤ many) :
    worth (List.take (min (z + many).toNat ns.length - z.toNat) (List.drop z.toNat ns)) = worth (List.take many.toNat (List.drop z.toNat ns)) := by
  rw [show min (z + many).toNat ns.length - z.toNat = many.toNat by omega]
theorem gotNo1 {z many : Int} {n : Nat} (h1 : 0 ≤ z) (h2 : many ≤ (n : Int) - z) (h3 : ¬ (0 ≤ z ∧ z + many ≤ (n : Int))) : False := h3 ⟨h1, by omega⟩
theorem gotNo3 {z many : Int} {n : Nat} (h1 : ¬ many ≤ (n : Int) - z) (h2 : z + many ≤ (n : Int)) : False := h1 (by omega)
section
local macro_rules | `(tactic| walk_at "exec For Name Call cons nil") => `(tactic| (refine For_T ?_ (fun _ => rfl)))
local macro_rules | `(tactic| walk_at "exec For Tuple List cons nil") => `(tactic| (refine For_T ?_ (fun _ => rfl)))
local macro_rules | `(tactic| walk_at "call ref") => `(tactic| (k_here; (with_reducible show wpAny _ _ (call (Value.ref 152) _) _ _ _); k_dflt (refine' lgot_spec ?k1 ?k2 ?k3 ?k4 ?k5 ?kK ?kX ?kT ?kD ?hb ?b1 ?b2 ?b3 ?b4 ?b5 ?kd ?ku ?kR ?kE; (case k1 => k_asm); (case k2 => k_asm); (case k3 => k_asm); (case k4 => k_asm); (case k5 => k_asm); (case kK => first | exact rfl | assumption); (case kX => assumption); (case kT => assumption); (case kD => assumption); (case hb => exact KBa.ints_make (by with_reducible assumption)); (case b1 => first | (with_reducible assumption) | omega); (case b2 => first | (with_reducible assumption) | omega); (case b3 => first | (with_reducible assumption) | omega); (case b4 => first | (with_reducible assumption) | decide | omega); (case b5 => first | (with_reducible assumption) | decide | omega); (case kd => ktr_room); (case ku => ktr_units)); (case' kR => (intro t9 g9 h9 tk9 c9 d9 T9 F9 N9 B9 X9 P9 D9; (try dsimp only); (try k_fold))); (case' kE => (intro g9 h9 tk9 c9 T9 F9 N9 B9 X9 P9 D9; (try dsimp only); (try k_fold)))))
local macro_rules | `(tactic| walk_at "call ref") => `(tactic| (k_here; (with_reducible show wpAny _ _ (call (Value.ref 138) _) _ _ _); k_dflt (refine' worth_spec ?k1 ?k2 ?k3 ?k4 ?k5 ?kK ?km ?ki ?b1 ?b2 ?kd ?kR; (case k1 => k_asm); (case k2 => k_asm); (case k3 => k_asm); (case k4 => k_asm); (case k5 => k_asm); (case kK => first | exact rfl | assumption); (case km => k_mem); (case ki => with_reducible assumption); (case b1 => exact sliceLen (by with_reducible assumption)); (case b2 => exact sliceIn (by with_reducible assumption)); (case kd => ktr_room)); intro t9 h9 tk9 F9 N9; (try dsimp only); (try k_fold)))
theorem gets_spec {w : World} {p : Program} {loose : List Str} {mean : ExcName → Option Value} {mg mb : Str → Option Value}
   {dp un : Nat} {gd : Option (List Code)} {cn : Str} {cs : Scope} {a : Addr} {ccd : Value} {cl : List (Str × Addr)} {outer : List Env} {A₀ : Around} {base h₀ : Heap} {L : Addr} {m : Str → Option Value} {s : Shared} {Q E : Value → Shared → Prop}
   {news : List (Addr × Obj)} {r : Addr} {size : Int} {tz : Tok} {k : Nat} {vs : List Value} {ns : List Int}
   (B : Below A₀ base outer h₀) (F : Fr h₀ L s.heap m) (X : (hd.heap_39 w.params).In h₀) (N : News h₀ L s.heap ((r, lstO vs k) :: news)) (T : Top p loose mean mg mb h₀) (hk : cs.kind = .function)
   (XB : (hd.heap_39 w.params).In base) (TB : Top p loose mean mg mb base) (D : KtsDicts (outer.filterMap (·.frame)) h₀)
   (hi : IntsAre vs ns) (hlen : ns.length ≤ 15) (hv : ∀ z ∈ ns, 0 ≤ z ∧ z < 256) (hs0 : 0 ≤ size) (hs : size ≤ 8)
   (hdp : dp + 8 < recursionLimit) (hu : un + 128 < cLine)
   (hret : ∀ (g h' : Heap) (tk' : Nat),
      KtsTurn (outer.filterMap (·.frame)) h₀ g → Fr g L h' m → News g L h' ((r, lstO vs k) :: news) → Below A₀ base outer g → (hd.heap_39 w.params).In g → Top p loose mean mg mb g → KtsDicts (outer.filterMap (·.frame)) g → Q (.bool true) { s with heap := h', toks := tk' }) :
   wpAny (model PySem.Challenge.rw_xm0974_01.row.prog w) (ktrTop dp un gd cn cs L a ccd cl outer) (call (.ref 164) [.ref r, .int size tz]) Q E s := by
  revert X; k_fill; intro X
  refine wpAny_call ?_
  k_dflt ((refine' code_try ?k1 ?k2 ?k3 ?k4 ?k5 ?kXB ?kTB ?kD ?kA ?kF ?kK ?k6 ?k7 ?k8 ?k9 ?kB ?_ ?c2 ?c3 ?c4 ?c5; (case kA => exact rfl); (case kF => exact rfl); (case kK => first | assumption | exact rfl); (case k1 => k_asm); (case k2 => k_asm); (case k3 => k_asm); (case k4 => k_asm); (case k5 => k_asm); (case kXB => assumption); (case kTB => assumption); (case kD => assumption); (case k6 => k_is); (case k7 => k_is); (case k8 => ktr_room); (case k9 => exact BindsTo.of_eq rfl); (case c5 => decide); (case kB => exact locs rfl); (case c2 => exact rfl); (case c3 => exact rfl); (case c4 => exact rfl); k_whole; intro g' L' h' FG' F' N' B' X' T' D'; (try dsimp only); (try k_fold)))
  k_steps
  have hlen16 : ns.length ≤ 16 := by omega
  refine' iter_range4 (Str.ofString "at") (Str.ofString "many") (Str.ofString "is_named") (Str.ofString "due") ?L ?T ?B ?X ?P ?D ?F ?N ?r ?a ?ab ?b ?h ?step ?Q
  case F => k_asm
  case L => exact rfl
  case N => k_asm
  case r => assumption
  case T => exact KtsTurn.refl
  case B => k_asm
  case X => k_asm
  case P => k_asm
  case D => assumption
  case a => decide
  case ab => omega
  case b => omega
  case h => with_unfolding_all rfl
  case step =>
    intro I z tz' v1 v2 v3 v4 g h tk io hz1 hz2 l1 T1 B1 X1 P1 D1 F1 N1 io1
    have hz3 : -32 ≤ z := by omega
    have hz4 : z ≤ 32 := by omega
    clear hz1 hz2
    (try dsimp only)
    k_steps
    refine' iter_list3 (Str.ofString "many") (Str.ofString "is_named") (Str.ofString "due") ?L ?T ?B ?X ?P ?D ?F ?N ?m ?c ?d ?h ?step3 ?Q3
    case F => k_asm
    case L => exact rfl
    case N => k_asm
    case T => exact T1
    case B => k_asm
    case X => k_asm
    case P => k_asm
    case D => assumption
    case m => k_mem
    case c => exact rfl
    case d => exact rfl
    case h => with_unfolding_all rfl
    case step3 =>
      intro I2 i2 v w1 w2 w3 g h tk io2 hiv l2 T2 B2 X2 P2 D2 F2 N2 io2'
      clear T1 B1 X1 P1 D1
      (try dsimp only)
      rcases four_cases hiv with e | e | e | e
      all_goals (subst e; clear hiv)
      all_goals k_steps
      all_goals (try walk_at "call ref")
      all_goals (try k_steps)
      all_goals (try walk_at "call ref")
      all_goals (try first | exact (gotNo1 (by with_reducible assumption) (by with_reducible assumption) (by with_reducible assumption)).elim | exact absurd (show 0 ≤ z by with_reducible assumption) (by with_reducible assumption) | exact (gotNo3 (by with_reducible assumption) (by with_reducible assumption)).elim)
      all_goals (try k_steps)
      all_goals (try exact absurd (slice_eq (by with_reducible assumption) (by with_reducible assumption) (by first | (with_reducible assumption) | decide)).symm (by with_reducible assumption))
      all_goals (try (refine' LoopEndT.next3 (KtsTurn.trans ?zT1 ?zT2) ?zB ?zX ?zP ?zD ?zF ?zN ?zs ?zm; (case zF => k_asm); (case zT2 => assumption); (case zT1 => assumption); (case zN => k_asm); (case zB => k_asm); (case zX => k_asm); (case zP => k_asm); (case zD => assumption); (case zs => intro p hp; repeat (first | exact hp | apply List.mem_cons_of_mem)); (case zm => intro y h1 h2 h3; simp only [if_neg h1, if_neg h2, if_neg h3])))
    case Q3 =>
      intro w1 w2 w3 g h tk T2 B2 X2 P2 D2 F2 N2
      (try dsimp only)
      k_steps
      refine' LoopEndT.next4 T2 B2 X2 P2 D2 F2 N2 ?ys ?ym
      case ys => intro p hp; repeat (first | exact hp | apply List.mem_cons_of_mem)
      case ym => intro y h1 h2 h3 h4; simp only [if_neg h1, if_neg h2, if_neg h3, if_neg h4]
  case Q =>
    intro v1 v2 v3 v4 g h tk T1 B1 X1 P1 D1 F1 N1
    (try dsimp only)
    k_steps
    refine' hret _ _ _ ?wT ?wF ?wN ?wB ?wX ?wP ?wD
    case wF => assumption
    case wN => assumption
    case wT => assumption
    case wB => assumption
    case wX => assumption
    case wP => assumption
    case wD => assumption
end
end
theorem offB13 : True := by
  w_top off
  trivial
section
section
open PySem.Calls PySem.Spec
variable {prog : Program} {w : World} {A : Around} {h₀ : Heap} {L : Addr} {m : Str → Option Value} {env : Env} {elt : Expr} {x : Str} {scope : Scope} {cl : List (Str × Addr)} {s : Shared} {S : List (Addr × Obj) → Prop} {P : Nat → Value → Prop} {Fin : List Value → List (Addr × Obj) → Prop}
/-- what an element of the comprehension leaves that draws from the source -/
def SrcEl (l : Addr) (n0 : Nat) (rest : List (Addr × Obj)) (y : Value) (news' : List (Addr × Obj)) : Prop :=
  ∃ (x' y' : Int) (tx' ty' : Tok) (r : Int) (t : Tok), news' = (l, lstO [.int x' tx', .int y' ty'] n0) :: rest ∧ 0 ≤ x' ∧ 0 ≤ y' ∧ y' < 2147483647 ∧ y = .int r t ∧ 0 ≤ r ∧ r < 256
theorem comp_source {n n0 : Nat} {l : Addr} {rest : List (Addr × Obj)} {x0 y0 : Int} {tx0 ty0 : Tok} (h1 : 0 ≤ x0) (h2 : 0 ≤ y0) (h3 : y0 < 2147483647)
    (turn : ∀ v I oI C oC D m₂ ys h tk (E' : Value → Shared → Prop) (x1 y1 : Int) (tx ty : Tok), 0 ≤ x1 → 0 ≤ y1 → y1 < 2147483647 → LCg.NsObj oC m₂ → m₂ x = some v → Fr h₀ L h m →
      News h₀ L h ((I, oI) :: (C, oC) :: (D, LCg.lst ys) :: (l, lstO [.int x1 tx, .int y1 ty] n0) :: rest) → LCg.Off3 I C D ((l, lstO [.int x1 tx, .int y1 ty] n0) :: rest) → ((@Ne Nat I C) ∧ (@Ne Nat I D) ∧ (@Ne Nat C D)) →
      wpAny (model prog w) A (eval elt (compEnvC scope cl C env)) (LCg.CompEnd h₀ L m { s with heap := h, toks := tk } I oI C oC D (LCg.lst ys) S (SrcEl l n0 rest)) E' { s with heap := h, toks := tk })
    (fin : ∀ ys ns (x1 y1 : Int) (tx ty : Tok), IntsAre ys ns → ns.length = n → (∀ z ∈ ns, 0 ≤ z ∧ z < 256) → 0 ≤ x1 → 0 ≤ y1 → y1 < 2147483647 → Fin ys ((l, lstO [.int x1 tx, .int y1 ty] n0) :: rest)) :
    LCg.CompRest prog w A h₀ L m env elt x scope cl s S P Fin n 0 [] ((l, lstO [.int x0 tx0, .int y0 ty0] n0) :: rest) := by
  have key : ∀ (j i : Nat) (ys : List Value) (ns : List Int) (x1 y1 : Int) (tx ty : Tok), i + j = n → IntsAre ys ns → ns.length = i → (∀ z ∈ ns, 0 ≤ z ∧ z < 256) → 0 ≤ x1 → 0 ≤ y1 → y1 < 2147483647 →
      LCg.CompRest prog w A h₀ L m env elt x scope cl s S P Fin j i ys ((l, lstO [.int x1 tx, .int y1 ty] n0) :: rest) := by
    intro j
    induction j with
    | zero =>
      intro i ys ns x1 y1 tx ty hi hy hl hv b1 b2 b3
      exact LCg.CompRest.zero (fin ys ns x1 y1 tx ty hy (by omega) hv b1 b2 b3)
    | succ j ih =>
      intro i ys ns x1 y1 tx ty hi hy hl hv b1 b2 b3
      refine LCg.CompRest.succ ?_
      intro v I oI C oC D m₂ h tk E' _ hC hx F N off ne
      refine wpAny_mono (turn v I oI C oC D m₂ ys h tk E' x1 y1 tx ty b1 b2 b3 hC hx F N off ne) (fun y s₂ hq => ?_) fun _ _ e => e
      obtain ⟨h', tk', nw, e, F', N', off', hS, x', y', tx', ty', r, t, rfl, c1, c2, c3, rfl, c4, c5⟩ := hq
      refine ⟨h', tk', _, e, F', N', off', hS, ?_⟩
      refine ih (i + 1) (ys ++ [.int r t]) (ns ++ [r]) x' y' tx' ty' (by omega) (IntsAre.append hy (.cons r t .nil)) (by simp [hl]) (fun z hz => ?_) c1 c2 c3
      rcases List.mem_append.mp hz with hz | hz
      · exact hv z hz
      · rw [List.mem_singleton.mp hz]; exact ⟨c4, c5⟩
  exact key n 0 [] [] x0 y0 tx0 ty0 (by omega) .nil rfl (fun z hz => nomatch hz) h1 h2 h3
theorem srcEnd {h' : Heap} {tk : Nat} {all rest : List (Addr × Obj)} {I C D l : Addr} {oI oC oD o1 : Obj} {n0 : Nat} {x' y' r : Int} {tx' ty' t : Tok} {s₁ : Shared}
    (F : Fr h₀ L h' m) (N : News h₀ L h' all) (hI : (I, oI) ∈ all) (hC : (C, oC) ∈ all) (hD : (D, oD) ∈ all) (hl : (l, lstO [.int x' tx', .int y' ty'] n0) ∈ all) (hr : ∀ p ∈ rest, p ∈ all)
    (off : LCg.Off3 I C D ((l, o1) :: rest)) (c1 : 0 ≤ x') (c2 : 0 ≤ y') (c3 : y' < 2147483647) (c4 : 0 ≤ r) (c5 : r < 256) :
    LCg.CompEnd h₀ L m s₁ I oI C oC D oD (fun _ => True) (SrcEl l n0 rest) (.int r t) { s₁ with heap := h', toks := tk } :=
  ⟨h', tk, (l, lstO [.int x' tx', .int y' ty'] n0) :: rest, rfl, F, fun p hp => N p (by
    rcases List.mem_cons.mp hp with rfl | hp
    · exact hI
    rcases List.mem_cons.mp hp with rfl | hp
    · exact hC
    rcases List.mem_cons.mp hp with rfl | hp
    · exact hD
    rcases List.mem_cons.mp hp with rfl | hp
    · exact hl
    exact hr p hp), ⟨off.1, off.2⟩, trivial, x', y', tx', ty', r, t, rfl, c1, c2, c3, rfl, c4, c5⟩
end
end
theorem offD6 : True := by
  w_top off
  trivial
section
theorem dictsOf {A : Around} {base h : Heap} (K : Below A base [] h) : KtsDicts (([] : List Env).filterMap (·.frame)) h := ktsDicts_nil
theorem srcSmall {r : Int} (h0 : 0 ≤ r) (h : r < 10) : Builtin.Range.small 0 r 1 = true := small_one (by decide) (by decide) (by omega) (by omega)
theorem srcSize {r : Int} (h : r < 10) : (r - 0).toNat ≤ PySem.sizeLine := by
  rw [PySem.sizeLine_eq]; omega
theorem len9 {ns : List Int} {r : Int} (e : ns.length = (r - 0).toNat) (h : r < 10) : ns.length ≤ 9 := by omega
theorem rowLen {ns : List Int} {i j : Nat} (h : ns.length ≤ 9) : (List.take i [(7 : Int), 0, 255] ++ ns ++ List.take j [9, 255, 0]).length ≤ 15 := by
  simp only [List.length_append, List.length_take, List.length_cons, List.length_nil]; omega
theorem rowIn {ns : List Int} {i j : Nat} (hv : ∀ z ∈ ns, 0 ≤ z ∧ z < 256) : ∀ z ∈ List.take i [(7 : Int), 0, 255] ++ ns ++ List.take j [9, 255, 0], 0 ≤ z ∧ z < 256 := by
  intro z hz
  rcases List.mem_append.mp hz with hz | hz
  · rcases List.mem_append.mp hz with hz | hz
    · have := List.mem_of_mem_take hz
      simp only [List.mem_cons, List.not_mem_nil, or_false] at this
      omega
    · exact hv z hz
  · have := List.mem_of_mem_take hz
    simp only [List.mem_cons, List.not_mem_nil, or_false] at this
    omega
theorem le8 {r : Int} (h : r < 9) : r ≤ 8 := by omega
theorem goodW_turned {c : ClaimW} {cl : Str → Option Addr} {mean : ExcName → Option Value} {args : List WData} {s₁ s' : Shared} {L : Addr} {m : Str → Option Value} {b : Bool} {g1 g2 g3 g4 : Heap}
    (F : Fr g4 L s'.heap m) (T4 : KtsTurn (([] : List Env).filterMap (·.frame)) g3 g4) (T3 : KtsTurn (([] : List Env).filterMap (·.frame)) g2 g3) (T2 : KtsTurn (([] : List Env).filterMap (·.frame)) g1 g2) (T1 : KtsTurn (([] : List Env).filterMap (·.frame)) s₁.heap g1)
    (hg : s'.gens = #[]) (hn : ∀ cls, c.raises args cls = false) (hp : c.post args (.bool b) args = true) (hos : s'.os = s₁.os := by rfl) : GoodW c cl mean args s₁ (.ok (.ret (.bool b))) s' :=
  ⟨.inl ⟨_, _, _, rfl, hn, .bool b, hp, unshared_nil⟩, fun b o e => F.keep b o ((((T1.trans T2).trans T3).trans T4).other b o e (fun h => nomatch h)), hos, hg⟩
theorem five_in {r : Int} (h1 : 0 ≤ r) (h2 : r < 256) : ∀ z ∈ [0, 255, 128, 1, r], 0 ≤ z ∧ z < 256 := by
  intro z hz
  simp only [List.mem_cons, List.not_mem_nil, or_false] at hz
  omega
theorem puts_specR {w : World} {p : Program} {loose : List Str} {mean : ExcName → Option Value} {mg mb : Str → Option Value}
   {dp un : Nat} {gd : Option (List Code)} {cn : Str} {cs : Scope} {a : Addr} {ccd : Value} {cl : List (Str × Addr)} {outer : List Env} {A₀ : Around} {base h₀ : Heap} {L : Addr} {m : Str → Option Value} {s : Shared} {Q E : Value → Shared → Prop}
   {all news : List (Addr × Obj)} {l o : Addr} {x y : Int} {tx ty : Tok} {n k : Nat} {vs : List Value} {ns : List Int}
   (B : Below A₀ base outer h₀) (F : Fr h₀ L s.heap m) (X : (hd.heap_39 w.params).In h₀) (N : News h₀ L s.heap all) (T : Top p loose mean mg mb h₀) (hk : cs.kind = .function)
   (XB : (hd.heap_39 w.params).In base) (TB : Top p loose mean mg mb base) (D : KtsDicts (outer.filterMap (·.frame)) h₀)
   (hm : (l, lstO [.int x tx, .int y ty] n) ∈ all) (hr : Rest l all news) (ho : (o, lstO vs k) ∈ news) (hx : 0 ≤ x) (hy : 0 ≤ y) (hy2 : y < 2147483647)
   (hi : IntsAre vs ns) (hlen : ns.length ≤ 9) (hv : ∀ z ∈ ns, 0 ≤ z ∧ z < 256)
   (hdp : dp + 8 < recursionLimit) (hu : un + 128 < cLine)
   (hret : ∀ (x' y' : Int) (tx' ty' : Tok) (g h' : Heap) (tk' : Nat), 0 ≤ x' → 0 ≤ y' → y' < 2147483647 →
      KtsTurn (outer.filterMap (·.frame)) h₀ g → Fr g L h' m → News g L h' ((l, lstO [.int x' tx', .int y' ty'] n) :: news) → Below A₀ base outer g → (hd.heap_39 w.params).In g → Top p loose mean mg mb g → KtsDicts (outer.filterMap (·.frame)) g → Q (.bool true) { s with heap := h', toks := tk' }) :
   wpAny (model PySem.Challenge.rw_xm0974_01.row.prog w) (ktrTop dp un gd cn cs L a ccd cl outer) (call (.ref 157) [.ref l, .ref o]) Q E s :=
  puts_spec B F X (newsDup (hr.news N hm) ho) T hk XB TB D (fun q hq => (hr.mem q hq).2) (hr.mem _ ho).2 hx hy hy2 hi hlen hv hdp hu
    fun x' y' tx' ty' g h' tk' b1 b2 b3 T F N => hret x' y' tx' ty' g h' tk' b1 b2 b3 T F (newsDup1 N)
theorem gets_specR {w : World} {p : Program} {loose : List Str} {mean : ExcName → Option Value} {mg mb : Str → Option Value}
   {dp un : Nat} {gd : Option (List Code)} {cn : Str} {cs : Scope} {a : Addr} {ccd : Value} {cl : List (Str × Addr)} {outer : List Env} {A₀ : Around} {base h₀ : Heap} {L : Addr} {m : Str → Option Value} {s : Shared} {Q E : Value → Shared → Prop}
   {all : List (Addr × Obj)} {r : Addr} {size : Int} {tz : Tok} {k : Nat} {vs : List Value} {ns : List Int}
   (B : Below A₀ base outer h₀) (F : Fr h₀ L s.heap m) (X : (hd.heap_39 w.params).In h₀) (N : News h₀ L s.heap all) (T : Top p loose mean mg mb h₀) (hk : cs.kind = .function)
   (XB : (hd.heap_39 w.params).In base) (TB : Top p loose mean mg mb base) (D : KtsDicts (outer.filterMap (·.frame)) h₀)
   (hm : (r, lstO vs k) ∈ all) (hi : IntsAre vs ns) (hlen : ns.length ≤ 15) (hv : ∀ z ∈ ns, 0 ≤ z ∧ z < 256) (hs0 : 0 ≤ size) (hs : size ≤ 8)
   (hdp : dp + 8 < recursionLimit) (hu : un + 128 < cLine)
   (hret : ∀ (g h' : Heap) (tk' : Nat),
      KtsTurn (outer.filterMap (·.frame)) h₀ g → Fr g L h' m → News g L h' all → Below A₀ base outer g → (hd.heap_39 w.params).In g → Top p loose mean mg mb g → KtsDicts (outer.filterMap (·.frame)) g → Q (.bool true) { s with heap := h', toks := tk' }) :
   wpAny (model PySem.Challenge.rw_xm0974_01.row.prog w) (ktrTop dp un gd cn cs L a ccd cl outer) (call (.ref 164) [.ref r, .int size tz]) Q E s :=
  gets_spec B F X (fun q hq => (List.mem_cons.mp hq).elim (fun e => e ▸ N _ hm) (N q)) T hk XB TB D hi hlen hv hs0 hs hdp hu
    fun g h' tk' T F N => hret g h' tk' T F (fun q hq => N q (.tail _ hq))
theorem d258 : digits 258 (2 : Int).toNat = [1, 2] := by decide
theorem lput1 {w : World} {p : Program} {loose : List Str} {mean : ExcName → Option Value} {mg mb : Str → Option Value}
   {dp un : Nat} {gd : Option (List Code)} {cn : Str} {cs : Scope} {a : Addr} {ccd : Value} {cl : List (Str × Addr)} {outer : List Env} {A₀ : Around} {base h₀ : Heap} {L : Addr} {m : Str → Option Value} {s : Shared} {Q E : Value → Shared → Prop}
   {news : List (Addr × Obj)} {tn tm : Tok}
   (B : Below A₀ base outer h₀) (F : Fr h₀ L s.heap m) (X : (hd.heap_39 w.params).In h₀) (N : News h₀ L s.heap news) (T : Top p loose mean mg mb h₀) (hk : cs.kind = .function)
   (XB : (hd.heap_39 w.params).In base) (TB : Top p loose mean mg mb base) (D : KtsDicts (outer.filterMap (·.frame)) h₀)
   (hdp : dp + 6 < recursionLimit) (hu : un + 32 < cLine)
   (hret : ∀ (q : Addr) (vs : List Value) (n : Nat) (g h' : Heap) (tk' : Nat), IntsAre vs [1, 2] → (∀ z ∈ news, z.1 ≠ q) →
      KtsTurn (outer.filterMap (·.frame)) h₀ g → Fr g L h' m → News g L h' ((q, lstO vs n) :: news) → Below A₀ base outer g → (hd.heap_39 w.params).In g → Top p loose mean mg mb g → KtsDicts (outer.filterMap (·.frame)) g → Q (.ref q) { s with heap := h', toks := tk' }) :
   wpAny (model PySem.Challenge.rw_xm0974_01.row.prog w) (ktrTop dp un gd cn cs L a ccd cl outer) (call (.ref 145) [.int 258 tn, .int 2 tm, .bool true]) Q E s :=
  lput_spec B F X N T hk XB TB D (by decide) (by decide) (loB (by decide)) (hiB (by decide)) hdp hu
    (fun q vs n g h' tk' _ _ i l T F N B X P D => hret q vs n g h' tk' (d258 ▸ i) l T F N B X P D)
    (fun g h' tk' c => absurd (show (0 : Int) ≤ 258 ∧ (258 : Int) < 256 ^ (2 : Int).toNat from ⟨by decide, by decide⟩) c)
theorem lput2 {w : World} {p : Program} {loose : List Str} {mean : ExcName → Option Value} {mg mb : Str → Option Value}
   {dp un : Nat} {gd : Option (List Code)} {cn : Str} {cs : Scope} {a : Addr} {ccd : Value} {cl : List (Str × Addr)} {outer : List Env} {A₀ : Around} {base h₀ : Heap} {L : Addr} {m : Str → Option Value} {s : Shared} {Q E : Value → Shared → Prop}
   {news : List (Addr × Obj)} {tn tm : Tok}
   (B : Below A₀ base outer h₀) (F : Fr h₀ L s.heap m) (X : (hd.heap_39 w.params).In h₀) (N : News h₀ L s.heap news) (T : Top p loose mean mg mb h₀) (hk : cs.kind = .function)
   (XB : (hd.heap_39 w.params).In base) (TB : Top p loose mean mg mb base) (D : KtsDicts (outer.filterMap (·.frame)) h₀)
   (hdp : dp + 6 < recursionLimit) (hu : un + 32 < cLine)
   (hnone : ∀ (g h' : Heap) (tk' : Nat),
      KtsTurn (outer.filterMap (·.frame)) h₀ g → Fr g L h' m → News g L h' news → Below A₀ base outer g → (hd.heap_39 w.params).In g → Top p loose mean mg mb g → KtsDicts (outer.filterMap (·.frame)) g → Q .none { s with heap := h', toks := tk' }) :
   wpAny (model PySem.Challenge.rw_xm0974_01.row.prog w) (ktrTop dp un gd cn cs L a ccd cl outer) (call (.ref 145) [.int 256 tn, .int 1 tm, .bool false]) Q E s :=
  lput_spec B F X N T hk XB TB D (by decide) (by decide) (loB (by decide)) (hiB (by decide)) hdp hu
    (fun q vs n g h' tk' _ c => absurd c (by decide))
    (fun g h' tk' _ T F N B X P D => hnone g h' tk' T F N B X P D)
section
local macro_rules | `(tactic| walk_at "call ref") => `(tactic| (k_here; (with_reducible show wpAny _ _ (call (Value.ref 119) _) _ _ _); k_dflt (refine' pool_spec ?k1 ?k2 ?k3 ?k4 ?k5 ?kK ?kl ?ki ?b1 ?kd ?_; (case k1 => k_asm); (case k2 => k_asm); (case k3 => k_asm); (case k4 => k_asm); (case k5 => k_asm); (case kK => first | exact rfl | assumption); (case kl => assumption); (case ki => assumption); (case b1 => first | (with_reducible assumption) | omega); (case kd => ktr_room)); intro x9 y9 tx9 ty9 n9 q9 h9 tk9 b1' b2' b3' l1 F9 N9; (try k_lt l1); (try dsimp only); (try k_fold)))
local macro_rules | `(tactic| walk_at "call ref") => `(tactic| (k_here; (with_reducible show wpAny _ _ (call (Value.ref 133) _) _ _ _); k_dflt (refine' one_spec ?k1 ?k2 ?k3 ?k4 ?k5 ?kK ?km ?kr ?b1 ?b2 ?b3 ?hq ?hv ?kd ?_; (case k1 => k_asm); (case k2 => k_asm); (case k3 => k_asm); (case k4 => k_asm); (case k5 => k_asm); (case kK => first | exact rfl | assumption); (case km => k_mem); (case kr => walk_at "MINE rest"); (case b1 => assumption); (case b2 => assumption); (case b3 => assumption); (case hq => k_mem); (case hv => exact five_in (by assumption) (by assumption)); (case kd => ktr_room)); intro x9 y9 r9 tx9 ty9 tr9 h9 tk9 b1' b2' b3' b4' b5' F9 N9; (try dsimp only); (try k_fold)))
local macro_rules | `(tactic| walk_at "call ref") => `(tactic| (k_here; (with_reducible show wpAny _ _ (call (Value.ref 145) [.int 258 _, _, _]) _ _ _); k_dflt (refine' lput1 ?k1 ?k2 ?k3 ?k4 ?k5 ?kK ?kX ?kT ?kD ?kd ?ku ?_; (case k1 => k_asm); (case k2 => k_asm); (case k3 => k_asm); (case k4 => k_asm); (case k5 => k_asm); (case kK => first | exact rfl | assumption); (case kX => assumption); (case kT => assumption); (case kD => assumption); (case kd => ktr_room); (case ku => ktr_units)); (intro q9 vs9 n9 g9 h9 tk9 i9 l9 T9 F9 N9 B9 X9 P9 D9; (try dsimp only); (try k_fold))))
local macro_rules | `(tactic| walk_at "call ref") => `(tactic| (k_here; (with_reducible show wpAny _ _ (call (Value.ref 145) [.int 256 _, _, _]) _ _ _); k_dflt (refine' lput2 ?k1 ?k2 ?k3 ?k4 ?k5 ?kK ?kX ?kT ?kD ?kd ?ku ?_; (case k1 => k_asm); (case k2 => k_asm); (case k3 => k_asm); (case k4 => k_asm); (case k5 => k_asm); (case kK => first | exact rfl | assumption); (case kX => assumption); (case kT => assumption); (case kD => assumption); (case kd => ktr_room); (case ku => ktr_units)); (intro g9 h9 tk9 T9 F9 N9 B9 X9 P9 D9; (try dsimp only); (try k_fold))))
local macro_rules | `(tactic| walk_at "call ref") => `(tactic| (k_here; (with_reducible show wpAny _ _ (call (Value.ref 157) _) _ _ _); k_dflt (refine' puts_specR ?k1 ?k2 ?k3 ?k4 ?k5 ?kK ?kX ?kT ?kD ?km ?kr ?ko ?b1 ?b2 ?b3 ?ki ?b4 ?b5 ?kd ?ku ?_; (case k1 => k_asm); (case k2 => k_asm); (case k3 => k_asm); (case k4 => k_asm); (case k5 => k_asm); (case kK => first | exact rfl | assumption); (case kX => assumption); (case kT => assumption); (case kD => assumption); (case km => k_mem); (case kr => walk_at "MINE rest"); (case ko => k_mem); (case b1 => assumption); (case b2 => assumption); (case b3 => assumption); (case ki => assumption); (case b4 => exact len9 (by with_reducible assumption) (by with_reducible assumption)); (case b5 => assumption); (case kd => ktr_room); (case ku => ktr_units)); intro x9 y9 tx9 ty9 g9 h9 tk9 b1' b2' b3' T9 F9 N9 B9 X9 P9 D9; (try dsimp only); (try k_fold)))
local macro_rules | `(tactic| walk_at "call ref") => `(tactic| (k_here; (with_reducible show wpAny _ _ (call (Value.ref 164) _) _ _ _); k_dflt (refine' gets_specR ?k1 ?k2 ?k3 ?k4 ?k5 ?kK ?kX ?kT ?kD ?km ?ki ?b4 ?b5 ?b6 ?b7 ?kd ?ku ?_; (case k1 => k_asm); (case k2 => k_asm); (case k3 => k_asm); (case k4 => k_asm); (case k5 => k_asm); (case kK => first | exact rfl | assumption); (case kX => assumption); (case kT => assumption); (case kD => assumption); (case km => k_mem); (case ki => assumption); (case b4 => exact rowLen (len9 (by with_reducible assumption) (by with_reducible assumption))); (case b5 => exact rowIn (by with_reducible assumption)); (case b6 => with_reducible assumption); (case b7 => exact le8 (by with_reducible assumption)); (case kd => ktr_room); (case ku => ktr_units)); intro g9 h9 tk9 T9 F9 N9 B9 X9 P9 D9; (try dsimp only); (try k_fold)))
local macro_rules | `(tactic| walk_at "CompSrc") => `(tactic| (k_here; k_dflt (refine LCg.CompSrc.range (by rfl) (by k_asm) (by k_asm) (by assumption) (srcSmall (by with_reducible assumption) (by with_reducible assumption)) (rangeSize_nat _ _) (srcSize (by with_reducible assumption)) ?_; intro g'; (refine' comp_source (by assumption) (by assumption) (by assumption) (fun v' I' oI' C' oC' D' m' ys' h' tk' E' x1' y1' tx1' ty1' c1' c2' c3' hC' hx' F' N' off' ne' => ?_) (fun ys' ns' x1' y1' tx1' ty1' hi' hl' hv' c1' c2' c3' => ?_); (all_goals (try (have offK := off'; have offA := offK.1.1.symm; have offB := offK.1.2.1.symm; have offC := offK.1.2.2.symm; simp only [LCg.Off3, and_true] at off')))))))
local macro_rules | `(tactic| walk_at "CompEnd") => `(tactic| (k_dflt (refine' srcEnd ?F ?N ?hI ?hC ?hD ?hl ?hr ?off ?c1 ?c2 ?c3 ?c4 ?c5; (case F => k_asm); (case N => k_asm); (case hI => k_mem); (case hC => k_mem); (case hD => k_mem); (case hl => k_mem); (case hr => intro p hp; repeat (first | exact hp | apply List.mem_cons_of_mem)); (case off => assumption); (case c1 => assumption); (case c2 => assumption); (case c3 => assumption); (case c4 => assumption); (case c5 => assumption))))
local macro_rules | `(tactic| walk_at "subscriptTail Name Slice ref ref") => `(tactic| (k_here; (with_reducible show wpAny _ _ (subscriptTail _ (PySem.Expr.Slice none _ none _) (Value.ref _) (Value.ref _)) _ _ _); k_dflt (refine' kmk_slice_ints (s := ⟨_, _, _, _, _⟩) ?F ?N ?l ?p ?q ?i ?m ?c ?_ ?s ?t ?z; (case F => k_asm); (case N => k_asm); (case l => kmk_list); (case p => kmk_part); (case q => kmk_part); (case i => l_ints); (case m => exact kmk_upto (by l_ints) (by with_reducible assumption)); (case c => kmk_len); (case s => with_unfolding_all rfl); (case t => kmk_pure); (case z => exact Nat.le_of_ble_eq_true rfl)); intro D' ws' h' F' N' l1 hI' hC' hL'; (try k_lt l1); (try k_sweep)))
theorem law_holds : PySem.Challenge.rw_xm0974_01.Holds := hd (by
  k_go0
  (all_goals try k_fold)
  (rename (Below callerA _ [] _) => K0)
  (rename (Top _ _ _ _ _ _) => T0)
  (rename ((hd.heap_39 _).In _) => KX0)
  have D0 := dictsOf K0
  k_steps
  refine goodW_turned (by assumption) (by assumption) (by assumption) (by assumption) (by assumption) (by assumption) (raisesW_false ?_) ?_
  · wrow_none_raised
  · wrow_post)
end
end
end Mine
theorem PySem.Challenge.cw_xm0974_01_holds : PySem.Challenge.rw_xm0974_01.Holds :=
  Mine.law_holds
