import PyProof.Rows.All
import Wide.All
import OpenK.AllK
import Wide.FinOn
import PySem.Challenge.RW_qz0076_01
open PySem PySem.W PyProof.Rows PySem.Calls
set_option Elab.async false
set_option genSizeOf false
set_option genInjectivity false
set_option genCtorIdx false
-- Hd
namespace Mine
set_option maxRecDepth 100000 in
set_option maxHeartbeats 8000000 in
open_top hd for PySem.Challenge.rw_qz0076_01
end Mine
set_option maxRecDepth 100000
namespace Mine
local macro_rules | `(tactic| walk_at $s:str) => `(tactic| k_extra $s)
local macro_rules | `(tactic| k_all) => `(tactic| k_extra "all")
local macro_rules | `(tactic| k_ne) => `(tactic| k_extra "ne")
local macro_rules | `(tactic| k_room) => `(tactic| k_extra "room")
-- Base
section
noncomputable abbrev PQ : Program := PySem.Challenge.rw_qz0076_01.row.prog
abbrev TQ (mean : ExcName → Option Value) (mg mb : Str → Option Value) (h : Heap) : Prop := Top hd.view_39 (looseW hd.view_39 [Str.ofString "OTHER_CODES"]) mean mg mb h
noncomputable abbrev AQ (dp un : Nat) (fr : Option (List Env)) (gd : Option (List Code)) : Around := { handled := none, depth := dp, frames := fr, guards := gd, units := un }

theorem idx_lo {x k : Int} (h1 : 1 ≤ x) (h : k < 0 + ((x - 0).toNat : Int)) : 0 ≤ x - 1 - k := by omega
theorem idx_lo8 {x k : Int} (h1 : 1 ≤ x) (h : k < 0 + ((x - 0).toNat : Int)) : 0 ≤ 8 * (x - 1 - k) := by
  have := idx_lo h1 h
  omega

theorem enterP {prog : Program} {w : World} {K : Frag} {p : Program} {loose : List Str} {mean : ExcName → Option Value} {mg mb : Str → Option Value} {A : Around} {s : Shared} {E Q : Value → Shared → Prop}
    {name qual : Str} {params : Arguments} {body : List Stmt} {scope : Scope} {dV kV doc pm cdv ct oc : Value} {an od : Option Addr} {osl : Array (Option Value)} {f : Addr} {pos : List Value} {binds : List (Str × Value)}
    (X : K.In s.heap) (T : Top p loose mean mg mb s.heap)
    (ho : K.lookup f = some ⟨oc, od, .func (fnOf name qual params body scope dV kV doc pm an cdv ct), osl⟩) (hcd : codeIn K cdv qual = true) (hroom : A.depth < recursionLimit)
    (hbind : BindsTo s (fnOf name qual params body scope dV kV doc pm an cdv ct) ⟨pos, []⟩ binds) (hloc : ∀ y ∈ binds, scope.names.lookup y.1 = some .local)
    (h : ∀ QF : Flow → Shared → Prop, (∀ v s', Q v s' → QF (.ret v) s') → ∀ L' h₁, Fr s.heap L' h₁ (fun y => binds.reverse.lookup y) → News s.heap L' h₁ [] →
      wpAny (model prog w) (A.deeper (envOf qual scope L' f cdv)) (execs body (envOf qual scope L' f cdv))
        QF (fun _ _ => False)
        { s with heap := h₁, toks := s.toks + binds.length })
    (hco : scope.isCoroutine = false) (hgen : scope.isGenerator = false) (hk : scope.kind = .function)
    (hcell : ∀ x ∈ scope.names, x.2 ≠ .cell) : wpAny (model prog w) A (call (.ref f) pos) Q E s := by
  refine wpAny_call ?_
  refine codeAny_call_def (fd := fnOf name qual params body scope dV kV doc pm an cdv ct) (body := body) (binds := binds) hroom (X _ _ ho) rfl T.nolimit (codeRec_of X hcd) rfl hbind hcell hloc (fun h₁ hns hk₁ => ?_) hco hgen hk
  refine wpAny_mono (h (fun fl s' => Q (match fl with | .ret v => v | _ => .none) s') (fun _ _ hq => hq) _ h₁ ⟨hns, hk₁, Nat.le_refl _⟩ News.nil) (fun fl s' hl => ?_) fun _ _ x => x.elim
  exact hl

theorem enterC {prog : Program} {w : World} {K : Frag} {p : Program} {loose : List Str} {mean : ExcName → Option Value} {mg mb : Str → Option Value} {A : Around} {s : Shared} {E Q : Value → Shared → Prop}
    {name qual : Str} {params : Arguments} {body : List Stmt} {scope : Scope} {dV kV doc pm cdv ct oc : Value} {an od : Option Addr} {osl : Array (Option Value)} {f : Addr} {pos : List Value} {binds : List (Str × Value)}
    (X : K.In s.heap) (T : Top p loose mean mg mb s.heap)
    (ho : K.lookup f = some ⟨oc, od, .func (fnOf name qual params body scope dV kV doc pm an cdv ct), osl⟩) (hcd : codeIn K cdv qual = true) (hroom : A.depth < recursionLimit)
    (hbind : BindsTo s (fnOf name qual params body scope dV kV doc pm an cdv ct) ⟨pos, []⟩ binds)
    (hkind : (binds.all fun y => scope.names.lookup y.1 == some .local || scope.names.lookup y.1 == some .cell) = true)
    (hnd : ((cellsFrom 0 scope.names []).map (·.1)).Nodup)
    (h : ∀ QF : Flow → Shared → Prop, (∀ v s', Q v s' → QF (.ret v) s') → ∀ L' h₁ tk cells, Fr s.heap L' h₁ (bindL (envOfC qual scope L' f cdv).kindOf binds fun _ => none) → News s.heap L' h₁ cells →
      CellsAre (bindC (envOfC qual scope L' f cdv).kindOf binds fun _ => none) (cellsFrom (L' + 1) scope.names []) cells →
      wpAny (model prog w) (A.deeper (envOfC qual scope L' f cdv)) (execs body (envOfC qual scope L' f cdv))
        QF (fun _ _ => False)
        { s with heap := h₁, toks := tk })
    (hco : scope.isCoroutine = false) (hgen : scope.isGenerator = false) (hk : scope.kind = .function) : wpAny (model prog w) A (call (.ref f) pos) Q E s := by
  refine wpAny_call ?_
  refine codeAny_call_function hroom (X _ _ ho) rfl hco hgen rfl (codeRec_of X hcd) (hbind _ _ _ _ ?_)
  refine wpAny_newFunctionEnv_cells hk (kindsX hkind _) fun env' he s' x => ?_
  subst he
  refine ⟨T.nolimit.keeps x.toInCall.keep, codeAny_func ?_⟩
  obtain ⟨h₁, tk, rfl, _⟩ := x.done
  have hk₁ := x.toInCall.keep
  obtain ⟨cells, NC, Y⟩ := Cl.news (h₀ := s.heap) (Nat.le_refl _) fun n c hm => ⟨x.cell n c (lookup_of_mem_nodup (cellsFrom_names scope.names 0 (s.heap.objs.size + 1) [] [] rfl ▸ hnd) hm), x.above n c hm⟩
  refine wpAny_mono (h (fun fl s' => Q (match fl with | .ret v => v | _ => .none) s') (fun _ _ hq => hq) _ h₁ tk cells ⟨x.toInCall.ns, fun b o e => hk₁ b o e, Nat.le_refl _⟩ (fun p hp => ⟨(NC p hp).1, (NC p hp).2.1, (NC p hp).2.2⟩) Y) (fun fl s' hl => ?_) fun _ _ y => y.elim
  exact hl
/-- a body in two parts: what stands between them is a word of one's own -/
theorem execs_split {prog : Program} {w : World} {A : Around} {env : Env} {E : Value → Shared → Prop} {Q : Flow → Shared → Prop} {s : Shared} (P : Shared → Prop) (n : Nat) {ss : List Stmt}
    (h1 : ∀ QT : Flow → Shared → Prop, (∀ s', P s' → QT .next s') → (∀ v s', Q (.ret v) s' → QT (.ret v) s') → wpAny (model prog w) A (execs (ss.take n) env) QT E s)
    (h2 : ∀ s', P s' → wpAny (model prog w) A (execs (ss.drop n) env) Q E s') : wpAny (model prog w) A (execs ss env) Q E s := by
  intro Γ p hΓ
  replace h1 := h1 (fun f s' => match f with | .next => P s' | f => Q f s') (fun _ hp => hp) (fun _ _ hq => hq) Γ p hΓ
  induction n generalizing ss s p with
  | zero => exact h2 s h1 Γ p hΓ
  | succ n ih =>
    cases ss with
    | nil => exact h2 s h1 Γ p hΓ
    | cons a r =>
      rw [List.take_succ_cons, execs_cons, Sem.wp_bind'] at h1
      rw [List.drop_succ_cons] at h2
      rw [execs_cons, Sem.wp_bind']
      refine Sem.wp_mono _ Γ _ (fun f p' s' h' => ?_) (fun _ _ _ h' => h') _ _ h1
      cases f with
      | next => exact ih h2 p' h'
      | _ => exact h'
end
-- C1
section
noncomputable def codeOf (ks : List Int) : Int := ks.foldl (fun c k => 256 * c + k) 0
theorem codeOf_snoc (ks : List Int) (k : Int) : codeOf (ks ++ [k]) = 256 * codeOf ks + k := by simp [codeOf]
set_option maxRecDepth 100000 in
set_option maxHeartbeats 8000000 in
theorem code_of_ct {w : World} {mean : ExcName → Option Value} {mg mb : Str → Option Value} {dp un : Nat} {fr : Option (List Env)} {gd : Option (List Code)} {s : Shared} {E Q : Value → Shared → Prop} {b : Array UInt8} {tb : Tok}
    (X : (hd.heap_39 w.params).In s.heap) (T : TQ mean mg mb s.heap) (hd : dp + 1 < recursionLimit)
    (h : ∀ t h' tk', s.heap.StaysIn h' → Q (.int (codeOf (KBw.bInts b)) t) { s with heap := h', toks := tk' }) :
    wpAny (model PQ w) (AQ dp un fr gd) (call (.ref 56) [.bytes b tb]) Q E s := by
  k_with_none
  k_dflt (refine enterP (binds := [(Str.ofString "octets", .bytes b tb)]) X T (by k_is) (by k_is) ?room (BindsTo.of_eq rfl) (locs rfl) ?_ rfl rfl rfl (by decide))
  case room => exact (by dsimp only; omega)
  intro QF hQF L' h₁ F N
  k_with "state" => first | rfl | (rw [codeOf_snoc]; omega)
  k_with "pyIter bytes" => k_state (fun pre c => c = codeOf pre) "code"
  k_steps
  subst kInv
  rename Fr _ _ _ _ => kF
  exact hQF _ _ (h _ _ _ kF.keep)
end
-- C2
section
noncomputable def octAt (len code k : Int) : Int := code.fdiv (2 ^ (8 * (len - 1 - k)).toNat) % 256
noncomputable def codeOctets (len code : Int) : List Int := (rangeKs 0 len.toNat).map (octAt len code)
theorem octAt_lo (len code k : Int) : 0 ≤ octAt len code k := Int.emod_nonneg _ (by decide)
theorem octAt_hi (len code k : Int) : octAt len code k < 256 := Int.emod_lt_of_pos _ (by decide)
theorem codeOctets_in (len code : Int) : KBa.In (codeOctets len code) := by
  intro n hn
  obtain ⟨k, _, rfl⟩ := List.mem_map.mp hn
  exact ⟨octAt_lo _ _ _, octAt_hi _ _ _⟩
theorem codeOctets_len (len code : Int) : (codeOctets len code).length = len.toNat := by
  unfold codeOctets; rw [List.length_map, rangeKs_length]
theorem codeOctets_walk (len code : Int) : List.map (fun k' => Builtin.bitAnd (code.fdiv (2 ^ (8 * (len - 1 - k')).toNat)) 255) (rangeKs 0 (len - 0).toNat) = codeOctets len code := by
  rw [show (len - 0).toNat = len.toNat by rw [Int.sub_zero]]
  exact List.map_congr_left fun k _ => bitAnd_m8 _
set_option maxRecDepth 100000 in
set_option maxHeartbeats 8000000 in
theorem code_octets_ct {w : World} {mean : ExcName → Option Value} {mg mb : Str → Option Value} {dp un : Nat} {fr : Option (List Env)} {gd : Option (List Code)} {s : Shared} {E Q : Value → Shared → Prop} {len code : Int} {t1 t2 : Tok}
    (X : (hd.heap_39 w.params).In s.heap) (T : TQ mean mg mb s.heap) (hd : dp + 2 < recursionLimit) (h1 : 1 ≤ len) (h4 : len ≤ 4)
    (h : ∀ r t h' tk', s.heap.StaysIn h' → KBw.bInts r = codeOctets len code → (codeOctets len code).length = len.toNat → Q (.bytes r t) { s with heap := h', toks := tk' }) :
    wpAny (model PQ w) (AQ dp un fr gd) (call (.ref 61) [.int len t1, .int code t2]) Q E s := by
  k_with_none
  k_with "binaryOp RShift int int" => (k_here; (with_reducible refine rshift_int ?kb1 ?_); (case kb1 => exact idx_lo8 (by assumption) (by assumption)))
  k_dflt (refine enterC (binds := [(Str.ofString "length", .int len t1), (Str.ofString "code", .int code t2)]) X T (by k_is) (by k_is) ?room (BindsTo.of_eq rfl) (by rfl) (by decide) ?_ rfl rfl rfl)
  case room => exact (by dsimp only; omega)
  intro QF hQF L' h₁ tk cells F N Y
  k_cells Y
  k_steps
  rename IntsAre _ _ => hI
  rename Fr _ _ _ _ => kF
  rename News _ _ _ _ => kN
  rw [codeOctets_walk] at hI
  k_dflt (refine KBa.make_K kF kN rfl (News.isList kN (by k_mem)) hI (codeOctets_in _ _) (by rw [codeOctets_len]; omega) ?_)
  intro h' t' k F' N' hin
  exact hQF _ _ (h _ _ _ _ F'.keep (KBa.ints_make hin) (codeOctets_len _ _))
end
-- C3
section
noncomputable def fitB (len lo hi : Int) (ks : List Int) (k : Nat) : Bool := decide ((k : Int) < len) && decide (k < ks.length) && decide ((codeOctets len lo).getD k 0 ≤ ks.getD k 0) && decide (ks.getD k 0 ≤ (codeOctets len hi).getD k 0)
noncomputable def fitN (len lo hi : Int) (ks : List Int) : Nat := ((List.range len.toNat).takeWhile (fitB len lo hi ks)).length
theorem fitB_iff {len lo hi : Int} {ks : List Int} {k : Nat} : fitB len lo hi ks k = true ↔ (k : Int) < len ∧ k < ks.length ∧ (codeOctets len lo).getD k 0 ≤ ks.getD k 0 ∧ ks.getD k 0 ≤ (codeOctets len hi).getD k 0 := by
  unfold fitB
  simp only [Bool.and_eq_true, decide_eq_true_eq]
  constructor
  · rintro ⟨⟨⟨a, b⟩, c⟩, d⟩; exact ⟨a, b, c, d⟩
  · rintro ⟨a, b, c, d⟩; exact ⟨⟨⟨a, b⟩, c⟩, d⟩
theorem takeWhile_range_len (p : Nat → Bool) : ∀ (n j : Nat), (∀ k < j, p k = true) → j ≤ n → (j < n → p j = false) → ((List.range n).takeWhile p).length = j := by
  intro n j h1 h2 h3
  obtain ⟨d, rfl⟩ : ∃ d, n = j + d := ⟨n - j, by lia⟩
  rw [List.range_add, List.takeWhile_append_of_pos (fun k hk => h1 k (List.mem_range.mp hk))]
  cases d with
  | zero => simp
  | succ d =>
    have hj : p j = false := h3 (by lia)
    rw [List.range_succ_eq_map]
    simp [hj]
theorem fit_start {len lo hi : Int} {ks : List Int} (h1 : 1 ≤ len) : 0 ≤ (0 : Int) ∧ 0 ≤ len ∧ ∀ k : Nat, (k : Int) < 0 → fitB len lo hi ks k = true := ⟨by lia, by lia, fun k hk => by lia⟩
theorem fit_step {len lo hi p : Int} {ks : List Int} (h0 : 0 ≤ p) (ih : ∀ k : Nat, (k : Int) < p → fitB len lo hi ks k = true) (hl : p < len) (hk : p < ks.length) (h1 : (codeOctets len lo).getD p.toNat 0 ≤ ks.getD p.toNat 0) (h2 : ks.getD p.toNat 0 ≤ (codeOctets len hi).getD p.toNat 0) :
    0 ≤ p + 1 ∧ p + 1 ≤ len ∧ ∀ k : Nat, (k : Int) < p + 1 → fitB len lo hi ks k = true := by
  refine ⟨by lia, by lia, fun k hk' => ?_⟩
  by_cases e : (k : Int) < p
  · exact ih k e
  · have e' : k = p.toNat := by lia
    subst e'
    exact fitB_iff.mpr ⟨by lia, by lia, h1, h2⟩
theorem fit_end {len lo hi p : Int} {ks : List Int} (h0 : 0 ≤ p) (hl : p ≤ len) (ih : ∀ k : Nat, (k : Int) < p → fitB len lo hi ks k = true)
    (hn : ¬ p < len ∨ ¬ p < ks.length ∨ ¬ (codeOctets len lo).getD p.toNat 0 ≤ ks.getD p.toNat 0 ∨ ¬ ks.getD p.toNat 0 ≤ (codeOctets len hi).getD p.toNat 0) : (fitN len lo hi ks : Int) = p := by
  have e : fitN len lo hi ks = p.toNat := by
    refine takeWhile_range_len _ _ _ (fun k hk => ih k (by lia)) (by lia) fun hj => ?_
    cases hb : fitB len lo hi ks p.toNat with
    | false => rfl
    | true =>
      obtain ⟨a, b, c, d⟩ := fitB_iff.mp hb
      lia
  lia
theorem ret_int {h₀ : Heap} {s : Shared} {Q : Value → Shared → Prop} {x y : Int} {t : Tok} {h' : Heap} {tk' : Nat} (h : ∀ t h' tk', h₀.StaysIn h' → Q (.int x t) { s with heap := h', toks := tk' }) (e : x = y) (st : h₀.StaysIn h') : Q (.int y t) { s with heap := h', toks := tk' } := e ▸ h t h' tk' st

set_option maxRecDepth 100000 in
set_option maxHeartbeats 8000000 in
theorem fitting_ct {w : World} {mean : ExcName → Option Value} {mg mb : Str → Option Value} {dp un : Nat} {fr : Option (List Env)} {gd : Option (List Code)} {s : Shared} {E Q : Value → Shared → Prop} {a : Addr} {len lo hi : Int} {t1 t2 t3 : Tok} {b : Array UInt8} {tb : Tok} {ks : List Int}
    (X : (hd.heap_39 w.params).In s.heap) (T : TQ mean mg mb s.heap) (hd : dp + 3 < recursionLimit) (ht : IsTup s.heap a #[.int len t1, .int lo t2, .int hi t3]) (h1 : 1 ≤ len) (h4 : len ≤ 4)
    (hb : KBw.bInts b = ks) (hk : ks.length ≤ 100)
    (h : ∀ t h' tk', s.heap.StaysIn h' → Q (.int (fitN len lo hi ks) t) { s with heap := h', toks := tk' }) :
    wpAny (model PQ w) (AQ dp un fr gd) (call (.ref 68) [.ref a, .bytes b tb]) Q E s := by
  k_with_none
  k_with "call ref" => ((with_reducible show wpAny _ _ (call (Value.ref 61) [Value.int _ _, Value.int _ _]) _ _ _); (with_reducible rename Fr _ _ _ _ => kF); (with_reducible rename News _ _ _ _ => kN); (with_reducible rename Top _ _ _ _ _ _ => kT); (with_reducible rename Frag.In _ _ => kX); k_dflt (refine' code_octets_ct (kX.keeps kF.keep) (kT.keeps kF.keep) ?hd ?h1 ?h4 ?_; (case hd => (dsimp only [AQ, Around.deeper, Around.in1]; omega)); (case h1 => omega); (case h4 => omega)); intro r' t' h' tk' st' hr' hl'; (have F' := kF.keptAll st'); (have N' := kN.grown st'); clear st' kF kN)
  k_dflt (refine enterP (binds := [(Str.ofString "space", .ref a), (Str.ofString "octets", .bytes b tb)]) X T (by k_is) (by k_is) ?room (BindsTo.of_eq rfl) (locs rfl) ?_ rfl rfl rfl (by decide))
  case room => exact (by dsimp only; lia)
  intro QF hQF L' h₁ F N
  k_with "exec While BoolOp cons nil" => k_while (fun (_ : List Int) p => 0 ≤ p ∧ p ≤ len ∧ ∀ k : Nat, (k : Int) < p → fitB len lo hi ks k = true) (fun (_ : List Int) p => (len - p).toNat) "place"
  k_with "state" => first | exact fit_start (by assumption) | exact fit_step (by assumption) (by assumption) (by assumption) (by assumption) (by assumption) (by assumption)
  k_steps
  all_goals (rename Fr _ _ _ _ => kF; exact hQF _ _ (ret_int h (fit_end (by assumption) (by assumption) (by assumption) (by lia)) kF.keep))
end
-- P1
section
theorem pm1 {α : Type} {a b c d e : α} {r : List α} : (a :: b :: c :: d :: e :: r).Perm (d :: e :: a :: b :: c :: r) := List.perm_append_comm_assoc [a, b, c] [d, e] r
theorem pm2 {α : Type} {a b c d : α} {n t : List α} : (a :: b :: c :: (n ++ d :: t)).Perm (d :: a :: b :: c :: (n ++ t)) := List.perm_middle (l₁ := a :: b :: c :: n)
theorem pm3 {α : Type} {a b c d e f : α} {n t : List α} : (a :: b :: c :: d :: e :: (n ++ f :: t)).Perm (f :: d :: e :: a :: b :: c :: (n ++ t)) := (List.perm_middle (l₁ := a :: b :: c :: d :: e :: n)).trans (pm1.cons f)
/-- values that are refs to pairs of ints on the heap -/
inductive PrAt (h : Heap) : List Value → List (Int × Int) → Prop
  | nil : PrAt h [] []
  | cons {a : Addr} {x y : Int} {t u : Tok} {vs : List Value} {xs : List (Int × Int)} : IsTup h a #[.int x t, .int y u] → PrAt h vs xs → PrAt h (.ref a :: vs) ((x, y) :: xs)
theorem PrAt.length {h : Heap} {vs : List Value} {xs : List (Int × Int)} (r : PrAt h vs xs) : vs.length = xs.length := by
  induction r with
  | nil => rfl
  | cons _ _ ih => simp [ih]
theorem PrAt.mono {h h' : Heap} (k : h.StaysIn h') {vs : List Value} {xs : List (Int × Int)} (r : PrAt h vs xs) : PrAt h' vs xs := by
  induction r with
  | nil => exact .nil
  | cons ht _ ih => exact .cons (ht.keeps k) ih
theorem PrAt.snoc {h : Heap} {a : Addr} {x y : Int} {t u : Tok} {vs : List Value} {xs : List (Int × Int)} (r : PrAt h vs xs) (ht : IsTup h a #[.int x t, .int y u]) : PrAt h (vs ++ [.ref a]) (xs ++ [(x, y)]) := by
  induction r with
  | nil => exact .cons ht .nil
  | cons h1 _ ih => exact .cons h1 ih
theorem PrAt.get {h : Heap} {vs : List Value} {xs : List (Int × Int)} (r : PrAt h vs xs) {i : Nat} {v : Value} (hv : vs[i]? = some v) : ∃ a x y t u, v = .ref a ∧ xs[i]? = some (x, y) ∧ IsTup h a #[.int x t, .int y u] := by
  induction r generalizing i with
  | nil => simp at hv
  | cons h1 _ ih =>
    cases i with
    | zero => simp at hv; subst hv; exact ⟨_, _, _, _, _, rfl, rfl, h1⟩
    | succ i => exact ih hv
theorem take_filter_map {α : Type} (p : α → Bool) (f : α → Int) (l : List α) (i : Nat) (v : α) (h : l[i]? = some v) : ((l.take (i + 1)).filter p).map f = ((l.take i).filter p).map f ++ (if p v then [f v] else []) := by
  rw [List.take_add_one, h, List.filter_append, List.map_append]
  cases hp : p v <;> simp [hp]

section
variable {prog : Program} {w : World} {A : Around} {E : Value → Shared → Prop} {s : Shared}
noncomputable abbrev testsOf (ifs : List Expr) (env : Env) : Sem Bool := forIn ifs true fun c r => if r = true then do let ok ← isTrue c env (eval c env); pure (ForInStep.yield ok) else pure (ForInStep.yield r)

def PrN (prog : Program) (w : World) (A : Around) (env : Env) (R : Result → Shared → Prop) : Value → Shared → Prop := notedBy (model prog w) A env fun e s' => R (.error e) s'
def PrOk (prog : Program) (w : World) (A : Around) (elt : Expr) (acc : Value) (env : Env) (R : Result → Shared → Prop) (J : Shared → Prop) (ok : Bool) (s₃ : Shared) : Prop :=
  if ok = true then wpAny (model prog w) A (eval elt env) (fun x s₄ => wpAny (model prog w) A (call (.builtin "list.append") [acc, x]) (fun _ s₅ => J s₅) (PrN prog w A env R) s₄) (PrN prog w A env R) s₃ else J s₃
def PrIt (prog : Program) (w : World) (A : Around) (elt target : Expr) (ifs : List Expr) (it acc : Value) (env : Env) (R : Result → Shared → Prop) (J : Shared → Prop) (r : Option Value) (s₁ : Shared) : Prop :=
  match r with
  | none => R (.ok .next) s₁
  | some v => wpAny (model prog w) A (letOwnedTupleGo target it v) (fun _ s₀ => wpAny (model prog w) A (assign target env v) (fun _ s₂ => wpAny (model prog w) A (testsOf ifs env) (PrOk prog w A elt acc env R J) (PrN prog w A env R) s₂) (PrN prog w A env R) s₀) (PrN prog w A env R) s₁
theorem pr_loop {elt target iter : Expr} {ifs : List Expr} {scope : Scope} {pos : Pos} {it acc : Value} {env : Env} {R : Result → Shared → Prop} (I : Nat → Shared → Prop)
    (turn : ∀ n s, I n s → wpAny (model prog w) A (pyNext it) (PrIt prog w A elt target ifs it acc env R (fun s' => ∃ m, m < n ∧ I m s')) (PrN prog w A env R) s)
    (n : Nat) (h : I n s) : codeAny (model prog w) A (.compLoop (.ListComp elt [⟨target, iter, ifs, 0⟩] scope pos) 0 it acc env) R s := by
  refine codeAny_loop rfl I (fun n s hI => ?_) n h
  show wpAny _ A ((compTurn (.ListComp elt [⟨target, iter, ifs, 0⟩] scope pos) 0 it acc env).onRaise (fun x => do noteFrame x env; theTreesLotGoes x)) _ _ s
  refine wpAny_noted ?_
  rw [compTurn_list]
  refine wpAny_bind (wpAny_standAt (wpAny_bind (wpAny_mono (turn n s hI) (fun r s₁ h₁ => ?_) fun _ _ z => z)))
  cases r with
  | none => exact wpAny_pure h₁
  | some v =>
    refine wpAny_bind (wpAny_mono h₁ (fun _ s₀ h₂ => ?_) fun _ _ z => z)
    refine wpAny_bind (wpAny_mono h₂ (fun _ s₂ h₃ => ?_) fun _ _ z => z)
    refine wpAny_bind (wpAny_mono h₃ (fun ok s₃ h₄ => ?_) fun _ _ z => z)
    cases ok with
    | false => exact wpAny_pure ⟨rfl, h₄⟩
    | true =>
      refine wpAny_bind (wpAny_bind (wpAny_mono h₄ (fun x s₄ h₅ => ?_) fun _ _ z => z))
      exact wpAny_bind (wpAny_mono h₅ (fun _ s₅ h₆ => wpAny_pure (wpAny_pure ⟨rfl, h₆⟩)) fun _ _ z => z)
inductive PrInv (s₂ : Shared) (I ax : Addr) (n : Nat) (xs : List (Int × Int)) (p : Int × Int → Bool) (f : Int × Int → Int) (D C : Addr) : Nat → Shared → Prop
  | mk (h' : Heap) (tk i : Nat) (ys : List Value) (m' : Str → Option Value) : i ≤ n → ys.length ≤ i → h'.IsListIter I ax i → (∀ b o, b ≠ I → s₂.heap.get? b = some o → h'.get? b = some o) →
    h'.get? D = some (LCg.lst ys) → h'.Ns C m' → IntsAre ys (((xs.take i).filter p).map f) → PrInv s₂ I ax n xs p f D C (n + 1 - i) { s₂ with heap := h', toks := tk }

/-- a comprehension over a list of pairs of ints, its test and its element pure -/
theorem pr_block {elt iter : Expr} {a b : Str} {pa pb tp : Pos} {kk : Nat} {ifs : List Expr} {scope : Scope} {cl : List (Str × Addr)} {pos : Pos} {env : Env} {s₂ : Shared} {I ax : Addr} {vs : List Value} {xs : List (Int × Int)} (p : Int × Int → Bool) (f : Int × Int → Int) {RR : Value → Addr → Result → Shared → Prop}
    (hh : A.handled = none) (hcell : ∀ y ∈ scope.names, y.2 ≠ .cell) (hkind : scope.kind = .function) (ha : scope.names.lookup a = some .local) (hb : scope.names.lookup b = some .local) (hab : a ≠ b)
    (hit : s₂.heap.IsListIter I ax 0) (hl : s₂.heap.IsList ax vs.toArray) (hne : ax ≠ I) (hx : PrAt s₂.heap vs xs) (hsz : vs.length ≤ sizeLine)
    (htests : ∀ x ∈ xs, ∀ C s' m₂ t u E', s'.heap.Ns C m₂ → m₂ a = some (.int x.1 t) → m₂ b = some (.int x.2 u) → (∀ b o, b ≠ I → s₂.heap.get? b = some o → s'.heap.get? b = some o) → wpAny (model prog w) A (testsOf ifs (compEnvC scope cl C env)) (fun ok s₃ => ok = p x ∧ Keeps s' s₃) E' s')
    (helt : ∀ x ∈ xs, ∀ C s' m₂ t u E', s'.heap.Ns C m₂ → m₂ a = some (.int x.1 t) → m₂ b = some (.int x.2 u) → (∀ b o, b ≠ I → s₂.heap.get? b = some o → s'.heap.get? b = some o) → wpAny (model prog w) A (eval elt (compEnvC scope cl C env)) (fun y s₃ => (∃ t, y = .int (f x) t) ∧ Keeps s' s₃) E' s')
    (hRR : ∀ D C h' tk m' ys, (∀ b o, b ≠ I → s₂.heap.get? b = some o → h'.get? b = some o) → s₂.heap.objs.size ≤ D → s₂.heap.objs.size ≤ C → C ≠ D → h'.get? D = some (LCg.lst ys) → h'.Ns C m' → IntsAre ys ((xs.filter p).map f) → RR (.ref D) C (.ok .next) { s₂ with heap := h', toks := tk }) :
    wpAny (model prog w) A (newList []) (fun acc s₃ => wpAny (model prog w) A (newFunctionEnv scope env.globals cl [] env.qual none .none (some env)) (fun cenv s₄ =>
      codeAny (model prog w) A (.compStart (.ListComp elt [⟨.Tuple [.Name a pa, .Name b pb] kk tp, iter, ifs, 0⟩] scope pos) 0 (.ref I) acc { cenv with scope := relabel scope env }) (RR acc cenv.locals) s₄) E s₃) E s₂ := by
  refine wpAny_newObj_type (wpAny_newFunctionEnv hcell (by intro y hy; simp at hy) (fun h₁ hns₁ hsb₁ => ?_) hkind)
  dsimp only at hns₁ hsb₁ ⊢
  generalize hH : s₂.heap.push { cls := .type "list", dict := none, data := .seq ([] : List Value).toArray } = H at hns₁ hsb₁ ⊢
  have hC : H.objs.size = s₂.heap.objs.size + 1 := by rw [← hH, Heap.size_push]
  generalize hDe : s₂.heap.objs.size = D at hC
  have hHD : H.get? D = some (LCg.lst []) := by rw [← hH, ← hDe]; exact Heap.get?_push_size _ rfl
  have lt2 : ∀ b o, s₂.heap.get? b = some o → b ≠ D ∧ b ≠ H.objs.size := fun b o e => by
    have q : b < s₂.heap.objs.size := Heap.lt_size e
    rw [hDe] at q
    rw [hC]
    exact ⟨Nat.ne_of_lt q, Nat.ne_of_lt (Nat.lt_succ_of_lt q)⟩
  generalize hCe : H.objs.size = C at hns₁ hsb₁ hC lt2
  have hCD : C ≠ D := by rw [hC]; exact Nat.succ_ne_self D
  have old : ∀ b o, s₂.heap.get? b = some o → h₁.get? b = some o := fun b o e => hsb₁.extBut b o (lt2 b o e).2 (Heap.get?_push_of_some _ (hH ▸ Heap.get?_push_of_some _ e))
  have hacc : h₁.get? D = some (LCg.lst []) := hsb₁.extBut D _ (Ne.symm hCD) (Heap.get?_push_of_some _ hHD)
  obtain ⟨oI, hoI, hIr⟩ := id hit
  obtain ⟨ol, hol, hlr⟩ := id hl
  have hIC := (lt2 I oI hoI).2
  have hID := (lt2 I oI hoI).1
  have haC := (lt2 ax ol hol).2
  have haD := (lt2 ax ol hol).1
  have loop : ∀ s₃ : Shared, s₃ = { s₂ with heap := h₁, toks := s₂.toks + ([] : List (Str × Value)).length } →
      codeAny (model prog w) A (.compLoop (.ListComp elt [⟨.Tuple [.Name a pa, .Name b pb] kk tp, iter, ifs, 0⟩] scope pos) 0 (.ref I) (.ref D) (compEnvC scope cl C env)) (RR (.ref D) C) s₃ := by
    rintro s₃ rfl
    refine pr_loop (PrInv s₂ I ax vs.length xs p f D C) ?_ (vs.length + 1) (.mk h₁ _ 0 [] _ (Nat.zero_le _) (Nat.le_refl _) ⟨oI, old _ _ hoI, hIr⟩ (fun b o _ e => old b o e) hacc hns₁ (by simpa using IntsAre.nil))
    rintro k s' ⟨h', tk, i, ys, m', hi, hyl, hit', keep, hD', hn', hI⟩
    have hl' : h'.IsList ax vs.toArray := ⟨ol, keep _ _ hne hol, hlr⟩
    by_cases hlt : i < vs.length
    · have hv : vs[i]? = some vs[i] := List.getElem?_eq_getElem hlt
      obtain ⟨ta, x, y, t, u, hva, hxi, htu⟩ := hx.get hv
      refine wpAny_pyNext_list_item hit' hl' (x := vs[i]) (by simp [hlt]) fun h₂ hit₂ hs₂ => ?_
      rw [hva]
      obtain ⟨ot, hot, htr⟩ := id htu
      have htaI : ta ≠ I := by
        rintro rfl
        rw [hot] at hoI
        cases hoI
        obtain ⟨hc1, _⟩ := htr
        obtain ⟨hc2, _⟩ := hIr
        rw [hc1] at hc2
        exact absurd hc2 (by decide)
      have keep₂ : ∀ b o, b ≠ I → s₂.heap.get? b = some o → h₂.get? b = some o := fun b o hb e => hs₂.extBut b o hb (keep b o hb e)
      show wpAny _ A (letOwnedTupleGo _ _ _) _ _ _
      refine wpAny_letOwnedTupleGo_listiter hit₂ ?_
      refine assign_Tuple_tuple hh (⟨ot, keep₂ _ _ htaI hot, htr⟩ : IsTup _ ta _) rfl rfl fun h₃ he => ?_
      have he' : ∀ b o, h₂.get? b = some o → h₃.get? b = some o := fun b o e => he b o (Nat.ne_of_lt (Heap.lt_size e)) e
      have hn₃ : h₃.Ns C m' := (hn'.at' fun o e => hs₂.extBut C o (Ne.symm hIC) e).at' fun o e => he' _ o e
      refine assignInOrder_cons (wpAny_assign_Name (wpAny_storeName_local (lookup_relabel_local ha) hn₃ (fun h₄ hn₄ hs₄ => ?_) (by simp [compEnvC, relabel, hkind])))
      refine assignInOrder_cons (wpAny_assign_Name (wpAny_storeName_local (lookup_relabel_local hb) hn₄ (fun h₅ hn₅ hs₅ => ?_) (by simp [compEnvC, relabel, hkind])))
      refine assignInOrder_nil ?_
      have up : ∀ b o, b ≠ I → b ≠ C → h'.get? b = some o → h₅.get? b = some o := fun b o hbI hbC e => hs₅.extBut b o hbC (hs₄.extBut b o hbC (he' b o (hs₂.extBut b o hbI e)))
      have keep₅ : ∀ b o, b ≠ I → s₂.heap.get? b = some o → h₅.get? b = some o := fun b o hb e => up b o hb (lt2 b o e).2 (keep b o hb e)
      have hit₅ : h₅.IsListIter I ax (i + 1) := hit₂.at fun o e => hs₅.extBut I o hIC (hs₄.extBut I o hIC (he' I o e))
      have hD₅ : h₅.get? D = some (LCg.lst ys) := up D _ (Ne.symm hID) (Ne.symm hCD) hD'
      have hmem : (x, y) ∈ xs := List.mem_of_getElem? hxi
      refine wpAny_mono (htests (x, y) hmem C _ _ t u _ hn₅ (by simp [hab]) (by simp) keep₅) (fun ok s₆ h₆ => ?_) fun _ _ z => z
      obtain ⟨rfl, h₆, tk₆, rfl, hk₆⟩ := h₆
      have hstep := take_filter_map p f xs i (x, y) hxi
      cases hp : p (x, y) with
      | false =>
        show ∃ m, _
        rw [hp] at hstep
        simp only [Bool.false_eq_true, if_false, List.append_nil] at hstep
        exact ⟨_, Nat.sub_lt_sub_left (Nat.lt_succ_of_lt hlt) (Nat.lt_succ_self i), .mk h₆ tk₆ (i + 1) ys _ hlt (Nat.le_succ_of_le hyl) (hit₅.at fun o e => hk₆ _ o e) (fun b o hb e => hk₆ b o (keep₅ b o hb e)) (hk₆ _ _ hD₅) (hn₅.keeps hk₆) (hstep ▸ hI)⟩
      | true =>
        show wpAny _ A (eval elt _) _ _ _
        rw [hp] at hstep
        simp only [if_true] at hstep
        refine wpAny_mono (helt (x, y) hmem C _ _ t u _ (hn₅.keeps hk₆) (by simp [hab]) (by simp) fun b o hb e => hk₆ b o (keep₅ b o hb e)) (fun y' s₇ h₇ => ?_) fun _ _ z => z
        obtain ⟨⟨t', rfl⟩, h₇, tk₇, rfl, hk₇⟩ := h₇
        refine append_at (hsz := by rw [List.size_toArray]; exact Nat.le_trans hyl (Nat.le_trans hi hsz)) (hk₇ _ _ (hk₆ _ _ hD₅)) fun h₈ hs₈ hD₈ => ?_
        refine ⟨_, Nat.sub_lt_sub_left (Nat.lt_succ_of_lt hlt) (Nat.lt_succ_self i), .mk h₈ tk₇ (i + 1) (ys ++ [.int (f (x, y)) t']) _ hlt (by rw [List.length_append]; exact Nat.succ_le_succ hyl) (((hit₅.at fun o e => hk₆ _ o e).at fun o e => hk₇ _ o e).extBut hs₈.extBut hID) (fun b o hb e => hs₈.extBut b o (lt2 b o e).1 (hk₇ b o (hk₆ b o (keep₅ b o hb e)))) (hD₈.trans (congrArg some (LCg.lst_snoc _ _)))
          (((hn₅.keeps hk₆).keeps hk₇).sameBut hs₈ hCD) ?_⟩
        rw [hstep]
        exact IntsAre.append hI (.cons _ _ .nil)
    · obtain rfl : i = vs.length := by lia
      refine wpAny_pyNext_list_end hh hit' hl' (by simp) fun h₂ he₂ => ?_
      have hfull : xs.take vs.length = xs := by rw [hx.length]; exact List.take_length
      rw [hfull] at hI
      exact hRR D C h₂ tk _ ys (fun b o hb e => he₂ b o hb (keep b o hb e)) (Nat.le_of_eq hDe) (by rw [hDe, hC]; exact Nat.le_succ D) hCD (he₂ D _ (Ne.symm hID) hD') (hn'.at' fun o e => he₂ C o (Ne.symm hIC) e) hI
  have hit₁ : h₁.IsListIter I ax 0 := ⟨oI, old _ _ hoI, hIr⟩
  refine codeAny_compStart_list (loop _ rfl) (wpAny_pyIter_listiter hit₁ (loop _ rfl))

/-- what stands behind the iterable of such a comprehension -/
inductive PrSrc (prog : Program) (w : World) (A : Around) (h₀ : Heap) (L : Addr) (m : Str → Option Value) (env : Env) (elt : Expr) (a b : Str) (ifs : List Expr) (scope : Scope) (cl : List (Str × Addr)) (Fin : Shared → Addr → Heap → Nat → List Value → List (Addr × Obj) → List Int → Prop) : Value → Shared → Prop
  | mk (s₁ : Shared) (ax : Addr) (vs : List Value) (xs : List (Int × Int)) (p : Int × Int → Bool) (f : Int × Int → Int) (news : List (Addr × Obj)) : A.handled = none → Fr h₀ L s₁.heap m → News h₀ L s₁.heap news → s₁.heap.IsList ax vs.toArray → PrAt s₁.heap vs xs → vs.length ≤ sizeLine →
    (∀ x ∈ xs, ∀ C s' m₂ t u E', s'.heap.Ns C m₂ → m₂ a = some (.int x.1 t) → m₂ b = some (.int x.2 u) → s₁.heap.StaysIn s'.heap → wpAny (model prog w) A (testsOf ifs (compEnvC scope cl C env)) (fun ok s₃ => ok = p x ∧ Keeps s' s₃) E' s') →
    (∀ x ∈ xs, ∀ C s' m₂ t u E', s'.heap.Ns C m₂ → m₂ a = some (.int x.1 t) → m₂ b = some (.int x.2 u) → s₁.heap.StaysIn s'.heap → wpAny (model prog w) A (eval elt (compEnvC scope cl C env)) (fun y s₃ => (∃ t, y = .int (f x) t) ∧ Keeps s' s₃) E' s') →
    (∀ D h' tk ys, IntsAre ys ((xs.filter p).map f) → (∀ q ∈ news, q.1 < D) → Fin s₁ D h' tk ys news ((xs.filter p).map f)) → PrSrc prog w A h₀ L m env elt a b ifs scope cl Fin (.ref ax) s₁

theorem pr_ListComp {h₀ : Heap} {L : Addr} {m : Str → Option Value} {elt iter : Expr} {a b : Str} {pa pb tp : Pos} {kk : Nat} {ifs : List Expr} {scope : Scope} {cl : List (Str × Addr)} {pos : Pos} {env : Env} {Q : Value → Shared → Prop} (_F₀ : Fr h₀ L s.heap m)
    (hclos : closureFor scope env = pure cl) (hcell : ∀ y ∈ scope.names, y.2 ≠ .cell) (hkind : scope.kind = .function)
    (hnames : ∀ y ∈ scope.names, y.2 = .local → scope.names.lookup y.1 = some .local) (ha : scope.names.lookup a = some .local) (hb : scope.names.lookup b = some .local) (hab : a ≠ b)
    (h : wpAny (model prog w) A (eval iter env) (PrSrc prog w A h₀ L m env elt a b ifs scope cl (fun s₁ D h' tk ys news zs => Fr h₀ L h' m → News h₀ L h' ((D, LCg.lst ys) :: news) → Q (.ref D) { s₁ with heap := h', toks := tk })) E s)
    (hs : ∀ x, foldedSetIterable iter env x = pure x := by intro _; rfl) :
    wpAny (model prog w) A (eval (.ListComp elt [⟨.Tuple [.Name a pa, .Name b pb] kk tp, iter, ifs, 0⟩] scope pos) env) Q E s := by
  rw [eval_ListComp]
  refine wpAny_comprehension_free (use := none) rfl hs hclos hkind hnames (wpAny_mono h (fun xv s₁ h₁ => ?_) fun _ _ e => e)
  obtain ⟨_, ax, vs, xs, p, f, news, hh, F, N, hl, hx, hsz, htests, helt, fin⟩ := h₁
  have hlt : ax < s₁.heap.objs.size := by obtain ⟨_, e, _⟩ := hl; exact Heap.lt_size e
  refine wpAny_pyIter_list hl ?_
  have up : ∀ b o, s₁.heap.get? b = some o → (s₁.heap.push { cls := .type "list_iterator", data := .fields #[.ref ax, .int 0 0] }).get? b = some o := fun b o e => Heap.get?_push_of_some _ e
  have dn : ∀ {h' : Heap}, (∀ b o, b ≠ s₁.heap.objs.size → (s₁.heap.push { cls := .type "list_iterator", data := .fields #[.ref ax, .int 0 0] }).get? b = some o → h'.get? b = some o) → s₁.heap.StaysIn h' := fun k b o e => k b o (Nat.ne_of_lt (Heap.lt_size e)) (up b o e)
  refine pr_block p f hh hcell hkind ha hb hab ⟨_, Heap.get?_push_size _ rfl, rfl, rfl⟩ (hl.push _) (Nat.ne_of_lt hlt) (hx.mono up) hsz (fun x hx' C s' m₂ t u E' h1 h2 h3 h4 => htests x hx' C s' m₂ t u E' h1 h2 h3 (dn h4)) (fun x hx' C s' m₂ t u E' h1 h2 h3 h4 => helt x hx' C s' m₂ t u E' h1 h2 h3 (dn h4)) ?_
  intro D C h' tk m' ys keep hD hC hCD hgD hn hI
  have hD' : s₁.heap.objs.size < D := Nat.lt_of_lt_of_le (by rw [Heap.size_push]; exact Nat.lt_succ_self _) hD
  have hC' : s₁.heap.objs.size < C := Nat.lt_of_lt_of_le (by rw [Heap.size_push]; exact Nat.lt_succ_self _) hC
  have st := dn keep
  refine ⟨m', hn, fun h'' hs'' => ?_⟩
  have st' : s₁.heap.StaysIn h'' := fun b o e => hs''.extBut b o (Nat.ne_of_lt (Nat.lt_trans (Heap.lt_size e) hC')) (st b o e)
  refine fin D h'' tk ys hI (fun q hq => Nat.lt_trans (Heap.lt_size (N q hq).1) hD') (F.keeps st') fun q hq => ?_
  rcases List.mem_cons.mp hq with rfl | hq
  · refine ⟨hs''.extBut _ _ (Ne.symm hCD) hgD, Ne.symm (Nat.ne_of_lt (Nat.lt_trans F.ns.lt hD')), ?_⟩
    cases e : h₀.get? D with
    | none => rfl
    | some o => exact absurd (Heap.lt_size (F.keep _ _ e)) (Nat.not_lt.mpr (Nat.le_of_lt hD'))
  · exact ⟨st' _ _ (N q hq).1, (N q hq).2⟩

theorem pr_Assign {h₀ : Heap} {L : Addr} {m : Str → Option Value} {elt iter : Expr} {a b y : Str} {pa pb tp py : Pos} {kk : Nat} {ifs : List Expr} {scope : Scope} {cl : List (Str × Addr)} {pos spos : Pos} {env : Env} {Q : Flow → Shared → Prop} (_F₀ : Fr h₀ L s.heap m) (hLe : env.locals = L)
    (hsw : swapsWith (.ListComp elt [⟨.Tuple [.Name a pa, .Name b pb] kk tp, iter, ifs, 0⟩] scope pos) (some (.Name y py)) spos.line env = pure true)
    (hclos : closureFor scope env = pure cl) (hcell : ∀ y ∈ scope.names, y.2 ≠ .cell) (hkind : scope.kind = .function)
    (hnames : ∀ y ∈ scope.names, y.2 = .local → scope.names.lookup y.1 = some .local) (ha : scope.names.lookup a = some .local) (hb : scope.names.lookup b = some .local) (hab : a ≠ b)
    (hy : env.kindOf y = some .local) (hp : (env.scope.kind == .class || (env.scope.kind == .module && env.locals != env.globals)) = false)
    (h : wpAny (model prog w) A (eval iter env) (PrSrc prog w A h₀ L m env elt a b ifs scope cl (fun s₁ D h' tk ys news zs => Fr h₀ L h' (fun z => if z = y then some (.ref D) else m z) → News h₀ L h' ((D, LCg.lst ys) :: news) → Q .next { s₁ with heap := h', toks := tk })) E s)
    (hs : ∀ x, foldedSetIterable iter env x = pure x := by intro _; rfl) :
    wpAny (model prog w) A (exec (.Assign [.Name y py] (.ListComp elt [⟨.Tuple [.Name a pa, .Name b pb] kk tp, iter, ifs, 0⟩] scope pos) spos) env) Q E s := by
  subst hLe
  rw [exec_Assign_Name_used _ _ _ _ hsw]
  refine wpAny_bind (wpAny_standAt (wpAny_bind ?_))
  show wpAny _ A (do let _ ← comprehension (.ListComp elt [⟨.Tuple [.Name a pa, .Name b pb] kk tp, iter, ifs, 0⟩] scope pos) scope env _ (newList []) false (eval iter env) (some (assign (.Name y py) env))) _ _ s
  refine wpAny_bind (wpAny_mono (wpAny_comprehension_free (use := some (assign (.Name y py) env)) (Q := fun _ s' => Q .next s') rfl hs hclos hkind hnames
    (wpAny_mono h (fun xv s₁ h₁ => ?_) fun _ _ e => e)) (fun _ s' hq => wpAny_pure (wpAny_pure hq)) fun _ _ e => e)
  obtain ⟨_, ax, vs, xs, p, f, news, hh, F, N, hl, hx, hsz, htests, helt, fin⟩ := h₁
  have hlt : ax < s₁.heap.objs.size := by obtain ⟨_, e, _⟩ := hl; exact Heap.lt_size e
  refine wpAny_pyIter_list hl ?_
  have up : ∀ b o, s₁.heap.get? b = some o → (s₁.heap.push { cls := .type "list_iterator", data := .fields #[.ref ax, .int 0 0] }).get? b = some o := fun b o e => Heap.get?_push_of_some _ e
  have dn : ∀ {h' : Heap}, (∀ b o, b ≠ s₁.heap.objs.size → (s₁.heap.push { cls := .type "list_iterator", data := .fields #[.ref ax, .int 0 0] }).get? b = some o → h'.get? b = some o) → s₁.heap.StaysIn h' := fun k b o e => k b o (Nat.ne_of_lt (Heap.lt_size e)) (up b o e)
  refine pr_block p f hh hcell hkind ha hb hab ⟨_, Heap.get?_push_size _ rfl, rfl, rfl⟩ (hl.push _) (Nat.ne_of_lt hlt) (hx.mono up) hsz (fun x hx' C s' m₂ t u E' h1 h2 h3 h4 => htests x hx' C s' m₂ t u E' h1 h2 h3 (dn h4)) (fun x hx' C s' m₂ t u E' h1 h2 h3 h4 => helt x hx' C s' m₂ t u E' h1 h2 h3 (dn h4)) ?_
  intro D C h' tk m' ys keep hD hC hCD hgD hn hI
  have hD' : s₁.heap.objs.size < D := Nat.lt_of_lt_of_le (by rw [Heap.size_push]; exact Nat.lt_succ_self _) hD
  have hC' : s₁.heap.objs.size < C := Nat.lt_of_lt_of_le (by rw [Heap.size_push]; exact Nat.lt_succ_self _) hC
  have st := dn keep
  have F₁ : Fr h₀ env.locals h' m := F.keeps st
  have hCL : C ≠ env.locals := Ne.symm (Nat.ne_of_lt (Nat.lt_trans F.ns.lt hC'))
  have hDL : D ≠ env.locals := Ne.symm (Nat.ne_of_lt (Nat.lt_trans F.ns.lt hD'))
  have none₀ : ∀ x, s₁.heap.objs.size < x → h₀.get? x = none := fun x hx => by
    cases e : h₀.get? x with
    | none => rfl
    | some o => exact absurd (Heap.lt_size (F.keep _ _ e)) (Nat.not_lt.mpr (Nat.le_of_lt hx))
  show wpAny _ A (assign (.Name y py) env (.ref D)) _ _ _
  refine wpAny_assign_Name (wpAny_storeName_local hy F₁.ns (fun h₂ hn₂ hs₂ => ?_) hp)
  have hL₀ : h₀.get? env.locals = none := Heap.get?_none_of_le F₁.above
  refine ⟨m', hn.sameBut hs₂ hCL, fun h'' hs'' => ?_⟩
  have F₂ : Fr h₀ env.locals h₂ (fun z => if z = y then some (.ref D) else m z) := ⟨hn₂, fun b o e => hs₂.extBut b o (fun q => by rw [q, hL₀] at e; cases e) (F₁.keep b o e), F₁.above⟩
  have F₃ := F₂.change hs'' hCL (none₀ C hC')
  refine fin D h'' _ ys hI (fun q hq => Nat.lt_trans (Heap.lt_size (N q hq).1) hD') F₃ fun q hq => ?_
  · rcases List.mem_cons.mp hq with rfl | hq
    · exact ⟨hs''.extBut _ _ (Ne.symm hCD) (hs₂.extBut _ _ hDL hgD), hDL, none₀ D hD'⟩
    · exact ⟨hs''.extBut _ _ (Nat.ne_of_lt (Nat.lt_trans (Heap.lt_size (N q hq).1) hC')) (hs₂.extBut _ _ (N q hq).2.1 (st _ _ (N q hq).1)), (N q hq).2⟩
end
end
-- P2
section
noncomputable abbrev tupO (vs : List Value) : Obj := { cls := .type "tuple", data := .seq vs.toArray }
/-- refs to pairs of ints of the ledger -/
inductive PrIn (tl : List (Addr × Obj)) : List Value → List (Int × Int) → Prop
  | nil : PrIn tl [] []
  | cons {a : Addr} {x y : Int} {t u : Tok} {vs : List Value} {xs : List (Int × Int)} : (a, tupO [.int x t, .int y u]) ∈ tl → PrIn tl vs xs → PrIn tl (.ref a :: vs) ((x, y) :: xs)
theorem PrIn.mono {tl tl' : List (Addr × Obj)} (k : ∀ p ∈ tl, p ∈ tl') {vs : List Value} {xs : List (Int × Int)} (r : PrIn tl vs xs) : PrIn tl' vs xs := by
  induction r with
  | nil => exact .nil
  | cons ht _ ih => exact .cons (k _ ht) ih
theorem PrIn.snoc {tl : List (Addr × Obj)} {a : Addr} {x y : Int} {t u : Tok} {vs : List Value} {xs : List (Int × Int)} (r : PrIn tl vs xs) (ht : (a, tupO [.int x t, .int y u]) ∈ tl) : PrIn tl (vs ++ [.ref a]) (xs ++ [(x, y)]) := by
  induction r with
  | nil => exact .cons ht .nil
  | cons h1 _ ih => exact .cons h1 ih
theorem PrIn.at {h₀ h : Heap} {L : Addr} {tl news : List (Addr × Obj)} (N : News h₀ L h news) (k : ∀ p ∈ tl, p ∈ news) {vs : List Value} {xs : List (Int × Int)} (r : PrIn tl vs xs) : PrAt h vs xs := by
  induction r with
  | nil => exact .nil
  | cons ht _ ih => exact .cons ⟨_, (N _ (k _ ht)).1, rfl, _, rfl⟩ ih
theorem PrIn.length {tl : List (Addr × Obj)} {vs : List Value} {xs : List (Int × Int)} (r : PrIn tl vs xs) : vs.length = xs.length := by
  induction r with
  | nil => rfl
  | cons _ _ ih => simp [ih]
/-- new objects of h' -/
def Fresh (h h' : Heap) (tl : List (Addr × Obj)) : Prop := ∀ q ∈ tl, h'.get? q.1 = some q.2 ∧ h.get? q.1 = none
theorem Fresh.of {h h' : Heap} {L : Addr} {tl : List (Addr × Obj)} (N : News h L h' tl) : Fresh h h' tl := fun q hq => ⟨(N q hq).1, (N q hq).2.2⟩
theorem Fresh.down {h h₁ h' : Heap} {tl : List (Addr × Obj)} (k : h.StaysIn h₁) (G : Fresh h₁ h' tl) : Fresh h h' tl := fun q hq => ⟨(G q hq).1, by
  cases e : h.get? q.1 with
  | none => rfl
  | some o => have := (G q hq).2; rw [k _ _ e] at this; cases this⟩
theorem Fresh.news {h₀ h h' : Heap} {L : Addr} {m : Str → Option Value} {tl news : List (Addr × Obj)} (G : Fresh h h' tl) (F : Fr h₀ L h m) (N : News h₀ L h news) (k : h.StaysIn h') : News h₀ L h' (tl ++ news) := fun q hq => by
  rcases List.mem_append.mp hq with hq | hq
  · obtain ⟨a, b⟩ := G q hq
    refine ⟨a, ?_, ?_⟩
    · intro e
      obtain ⟨o, _, _, ho, _⟩ := F.ns
      rw [e, ho] at b
      cases b
    · cases e : h₀.get? q.1 with
      | none => rfl
      | some o => rw [F.keep _ _ e] at b; cases b
  · exact ⟨k _ _ (N q hq).1, (N q hq).2⟩
section
variable {prog : Program} {w : World} {A : Around} {E : Value → Shared → Prop} {s : Shared}
/-- the turns of a comprehension that lays a pair of ints a turn -/
theorem rk_rest {α : Type} {h₀ : Heap} {L : Addr} {m : Str → Option Value} {env : Env} {elt : Expr} {x : Str} {scope : Scope} {cl : List (Str × Addr)} {S : List (Addr × Obj) → Prop} {P : Nat → Value → Prop} {Fin : List Value → List (Addr × Obj) → Prop} {news : List (Addr × Obj)} (ps : List α) (g : α → Int × Int) (R : α → Value → Prop)
    (hP : ∀ i v, P i v → i < ps.length → ∃ p, ps[i]? = some p ∧ R p v)
    (turn : ∀ p v ys tl I oI C oC D m₂ h tk E', p ∈ ps → R p v → LCg.NsObj oC m₂ → m₂ x = some v → Fr h₀ L h m → News h₀ L h ((I, oI) :: (C, oC) :: (D, LCg.lst ys) :: (news ++ tl)) → LCg.Off3 I C D (news ++ tl) → ((@Ne Nat I C) ∧ (@Ne Nat I D) ∧ (@Ne Nat C D)) → S (news ++ tl) →
      wpAny (model prog w) A (eval elt (compEnvC scope cl C env)) (LCg.CompEnd h₀ L m { s with heap := h, toks := tk } I oI C oC D (LCg.lst ys) S (fun y news' => ∃ a t u, y = .ref a ∧ (∀ q ∈ news, q.1 ≠ a) ∧ news' = news ++ (a, tupO [.int (g p).1 t, .int (g p).2 u]) :: tl)) E' { s with heap := h, toks := tk })
    (hS : ∀ l l', S l → (∀ p ∈ l, p ∈ l') → S l') (hS0 : S news)
    (fin : ∀ ys tl, PrIn tl ys (ps.map g) → (∀ q ∈ news, ∀ p ∈ tl, p.1 ≠ q.1) → Fin ys (news ++ tl)) : LCg.CompRest prog w A h₀ L m env elt x scope cl s S P Fin ps.length 0 [] news := by
  have key : ∀ (j i : Nat) (ys : List Value) (tl : List (Addr × Obj)), i + j = ps.length → PrIn tl ys ((ps.take i).map g) → (∀ q ∈ news, ∀ p ∈ tl, p.1 ≠ q.1) → LCg.CompRest prog w A h₀ L m env elt x scope cl s S P Fin j i ys (news ++ tl) := by
    intro j
    induction j with
    | zero =>
      intro i ys tl hi hy ho
      have e : i = ps.length := by omega
      subst e
      rw [List.take_length] at hy
      exact LCg.CompRest.zero (fin ys tl hy ho)
    | succ j ih =>
      intro i ys tl hi hy ho
      refine LCg.CompRest.succ ?_
      intro v I oI C oC D m₂ h tk E' hv hC hx F N off ne
      obtain ⟨p, hp, hR⟩ := hP i v hv (by lia)
      refine wpAny_mono (turn p v ys tl I oI C oC D m₂ h tk E' (List.mem_of_getElem? hp) hR hC hx F N off ne (hS _ _ hS0 fun q hq => List.mem_append.mpr (.inl hq))) (fun y s₂ hq => ?_) fun _ _ e => e
      obtain ⟨h', tk', nw, e, F', N', off', hS', a, t, u, rfl, hoff, rfl⟩ := hq
      refine ⟨h', tk', _, e, F', N', off', hS', ?_⟩
      refine ih (i + 1) _ _ (by lia) ?_ ?_
      · rw [List.take_add_one, hp, Option.toList_some, List.map_append]
        exact (hy.mono fun q hq => List.mem_cons_of_mem _ hq).snoc List.mem_cons_self
      · intro q hq p' hp'
        rcases List.mem_cons.mp hp' with rfl | hp'
        · exact Ne.symm (hoff q hq)
        · exact ho q hq p' hp'
  have := key ps.length 0 [] [] (by lia) (by simpa using PrIn.nil) (fun _ _ _ h => nomatch h)
  rwa [List.append_nil] at this
theorem rk_end {h₀ h' : Heap} {L I C D a : Addr} {m : Str → Option Value} {s₁ : Shared} {oI oC oD : Obj} {S : List (Addr × Obj) → Prop} {x y : Int} {t u : Tok} {tk : Nat} {news tl : List (Addr × Obj)}
    (F : Fr h₀ L h' m) (N : News h₀ L h' ((a, tupO [.int x t, .int y u]) :: (I, oI) :: (C, oC) :: (D, oD) :: (news ++ tl))) (l : ∀ p ∈ (I, oI) :: (C, oC) :: (D, oD) :: (news ++ tl), p.1 < a) (off : LCg.Off3 I C D (news ++ tl)) (hS : ∀ l, S l) :
    LCg.CompEnd h₀ L m s₁ I oI C oC D oD S (fun v news' => ∃ a t u, v = .ref a ∧ (∀ q ∈ news, q.1 ≠ a) ∧ news' = news ++ (a, tupO [.int x t, .int y u]) :: tl) (.ref a) { s₁ with heap := h', toks := tk } := by
  refine LCg.CompEnd.intro F N (news ++ (a, tupO [.int x t, .int y u]) :: tl) ?_ ?_ (hS _) ⟨a, t, u, rfl, ?_, rfl⟩
  · intro q hq
    exact pm2.mem_iff.mp hq
  · refine LCg.Off3.of fun p hp => ?_
    simp only [List.mem_cons, List.mem_append] at hp
    rcases hp with h | h | h
    · exact off.mem p (List.mem_append.mpr (.inl h))
    · subst h
      exact ⟨Ne.symm (Nat.ne_of_lt (l _ (.head _))), Ne.symm (Nat.ne_of_lt (l _ (.tail _ (.head _)))), Ne.symm (Nat.ne_of_lt (l _ (.tail _ (.tail _ (.head _)))))⟩
    · exact off.mem p (List.mem_append.mpr (.inr h))
  · intro q hq
    exact Nat.ne_of_lt (l _ (by simp [hq]))
end
end
-- C4
section
structure Sp where
  len : Int
  lo : Int
  hi : Int
def Sp.Ok (p : Sp) : Prop := 1 ≤ p.len ∧ p.len ≤ 4
inductive SpAll (h : Heap) : List Value → List Sp → Prop
  | nil : SpAll h [] []
  | cons {a : Addr} {p : Sp} {t1 t2 t3 : Tok} {vs : List Value} {ps : List Sp} : IsTup h a #[.int p.len t1, .int p.lo t2, .int p.hi t3] → SpAll h vs ps → SpAll h (.ref a :: vs) (p :: ps)
theorem SpAll.length {h : Heap} {vs : List Value} {xs : List Sp} (r : SpAll h vs xs) : vs.length = xs.length := by
  induction r with
  | nil => rfl
  | cons _ _ ih => simp [ih]
theorem SpAll.mono {h h' : Heap} (k : h.StaysIn h') {vs : List Value} {xs : List Sp} (r : SpAll h vs xs) : SpAll h' vs xs := by
  induction r with
  | nil => exact .nil
  | cons ht _ ih => exact .cons (ht.keeps k) ih
theorem SpAll.get {h : Heap} {vs : List Value} {xs : List Sp} (r : SpAll h vs xs) {i : Nat} {v : Value} (hv : vs[i]? = some v) : ∃ a p t1 t2 t3, v = .ref a ∧ xs[i]? = some p ∧ IsTup h a #[.int p.len t1, .int p.lo t2, .int p.hi t3] := by
  induction r generalizing i with
  | nil => simp at hv
  | cons h1 _ ih =>
    cases i with
    | zero => simp at hv; subst hv; exact ⟨_, _, _, _, _, rfl, rfl, h1⟩
    | succ i => exact ih hv
theorem len_pos_of {ys : List Value} {ns : List Int} (hI : IntsAre ys ns) (h : ys.isEmpty = false) : 0 < ns.length := by
  rw [← hI.length]
  cases ys with
  | nil => cases h
  | cons a r => exact Nat.succ_pos _
theorem keeps_refl (s : Shared) : Keeps s s := ⟨_, _, rfl, fun _ _ e => e⟩
theorem rk_of {s : Heap} {vs : List Value} {ps : List Sp} (hs : SpAll s vs ps) : ∀ i v, vs.toArray[i]? = some v → i < ps.length → ∃ p, ps[i]? = some p ∧ ∃ a t1 t2 t3, v = .ref a ∧ IsTup s a #[.int p.len t1, .int p.lo t2, .int p.hi t3] := by
  intro i v hv _
  obtain ⟨a, p, t1, t2, t3, rfl, hp, ht⟩ := hs.get (by simpa using hv)
  exact ⟨p, hp, a, t1, t2, t3, rfl, ht⟩
noncomputable def minI : List Int → Int
  | [] => 0
  | [a] => a
  | a :: b :: r => min a (minI (b :: r))
noncomputable def maxI : List Int → Int
  | [] => 0
  | [a] => a
  | a :: b :: r => max a (maxI (b :: r))
theorem minI_of {ns : List Int} {M : Int} (hm : M ∈ ns) (hle : ∀ a, a ∈ ns → M ≤ a) : minI ns = M := by
  have key : ∀ l : List Int, l ≠ [] → minI l ∈ l ∧ ∀ a ∈ l, minI l ≤ a := by
    intro l
    induction l with
    | nil => intro h; exact absurd rfl h
    | cons x r ih =>
      intro _
      cases r with
      | nil => exact ⟨by simp [minI], by intro a ha; simp at ha; simp [minI, ha]⟩
      | cons y r =>
        obtain ⟨h1, h2⟩ := ih (by simp)
        simp only [minI]
        constructor
        · rcases Int.le_total x (minI (y :: r)) with q | q
          · rw [Int.min_eq_left q]; exact List.mem_cons_self
          · rw [Int.min_eq_right q]; exact List.mem_cons_of_mem _ h1
        · intro a ha
          rcases List.mem_cons.mp ha with rfl | ha
          · exact Int.min_le_left _ _
          · exact Int.le_trans (Int.min_le_right _ _) (h2 a ha)
  have hne : ns ≠ [] := by rintro rfl; cases hm
  obtain ⟨h1, h2⟩ := key ns hne
  exact Int.le_antisymm (h2 M hm) (hle _ h1)
theorem maxI_of {ns : List Int} {M : Int} (hm : M ∈ ns) (hle : ∀ a, a ∈ ns → a ≤ M) : maxI ns = M := by
  have key : ∀ l : List Int, l ≠ [] → maxI l ∈ l ∧ ∀ a ∈ l, a ≤ maxI l := by
    intro l
    induction l with
    | nil => intro h; exact absurd rfl h
    | cons x r ih =>
      intro _
      cases r with
      | nil => exact ⟨by simp [maxI], by intro a ha; simp at ha; simp [maxI, ha]⟩
      | cons y r =>
        obtain ⟨h1, h2⟩ := ih (by simp)
        simp only [maxI]
        constructor
        · rcases Int.le_total x (maxI (y :: r)) with q | q
          · rw [Int.max_eq_right q]; exact List.mem_cons_of_mem _ h1
          · rw [Int.max_eq_left q]; exact List.mem_cons_self
        · intro a ha
          rcases List.mem_cons.mp ha with rfl | ha
          · exact Int.le_max_left _ _
          · exact Int.le_trans (h2 a ha) (Int.le_max_right _ _)
  have hne : ns ≠ [] := by rintro rfl; cases hm
  obtain ⟨h1, h2⟩ := key ns hne
  exact Int.le_antisymm (hle _ h1) (h2 M hm)
noncomputable def rkOf (ps : List Sp) (ks : List Int) : List (Int × Int) := ps.map fun p => ((fitN p.len p.lo p.hi ks : Int), p.len)
noncomputable def ftOf (ps : List Sp) (ks : List Int) : List Int := ((rkOf ps ks).filter fun x => x.1 == x.2).map (·.2)
noncomputable def msOf (ps : List Sp) (ks : List Int) : List Int := (rkOf ps ks).map (·.1)
noncomputable def bsOf (ps : List Sp) (ks : List Int) (m : Int) : List Int := ((rkOf ps ks).filter fun x => x.1 == m).map (·.2)
noncomputable def nextLen (ps : List Sp) (ks : List Int) : Int :=
  if ps = [] then 1 else if ftOf ps ks = [] then minI (bsOf ps ks (maxI (msOf ps ks))) else minI (ftOf ps ks)
theorem nextLen_nil {ps : List Sp} {ks : List Int} (h : ps = []) : nextLen ps ks = 1 := by rw [nextLen, if_pos h]
theorem nextLen_fit {ps : List Sp} {ks : List Int} {M : Int} (h : ps ≠ []) (hm : M ∈ ftOf ps ks) (hle : ∀ a, a ∈ ftOf ps ks → M ≤ a) : nextLen ps ks = M := by
  rw [nextLen, if_neg h, if_neg (by rintro q; rw [q] at hm; cases hm), minI_of hm hle]
theorem nextLen_best {ps : List Sp} {ks : List Int} {M N : Int} (h : ps ≠ []) (hf : ftOf ps ks = []) (hm : M ∈ msOf ps ks) (hle : ∀ a, a ∈ msOf ps ks → a ≤ M) (hn : N ∈ bsOf ps ks M) (hle' : ∀ a, a ∈ bsOf ps ks M → N ≤ a) : nextLen ps ks = N := by
  rw [nextLen, if_neg h, if_pos hf, maxI_of hm hle, minI_of hn hle']
theorem bs_pos {ps : List Sp} {ks : List Int} {M : Int} (hM : M ∈ msOf ps ks) : 0 < (bsOf ps ks M).length := by
  obtain ⟨x, hx, rfl⟩ := List.mem_map.mp hM
  rw [bsOf, List.length_map]
  exact List.length_pos_of_mem (List.mem_filter.mpr ⟨hx, by simp⟩)
theorem minI_mem : ∀ {l : List Int}, l ≠ [] → minI l ∈ l := by
  intro l
  induction l with
  | nil => intro h; exact absurd rfl h
  | cons x r ih =>
    intro _
    cases r with
    | nil => simp [minI]
    | cons y r =>
      have h1 := ih (by simp)
      simp only [minI]
      rcases Int.le_total x (minI (y :: r)) with q | q
      · rw [Int.min_eq_left q]; exact List.mem_cons_self
      · rw [Int.min_eq_right q]; exact List.mem_cons_of_mem _ h1
theorem maxI_mem : ∀ {l : List Int}, l ≠ [] → maxI l ∈ l := by
  intro l
  induction l with
  | nil => intro h; exact absurd rfl h
  | cons x r ih =>
    intro _
    cases r with
    | nil => simp [maxI]
    | cons y r =>
      have h1 := ih (by simp)
      simp only [maxI]
      rcases Int.le_total x (maxI (y :: r)) with q | q
      · rw [Int.max_eq_right q]; exact List.mem_cons_of_mem _ h1
      · rw [Int.max_eq_left q]; exact List.mem_cons_self
theorem nextLen_range {ps : List Sp} {ks : List Int} (hok : ∀ p ∈ ps, p.Ok) : 1 ≤ nextLen ps ks ∧ nextLen ps ks ≤ 4 := by
  have rk : ∀ x ∈ rkOf ps ks, 1 ≤ x.2 ∧ x.2 ≤ 4 := by
    intro x hx
    obtain ⟨p, hp, rfl⟩ := List.mem_map.mp hx
    exact hok p hp
  have flt : ∀ (q : Int × Int → Bool) y, y ∈ ((rkOf ps ks).filter q).map (·.2) → 1 ≤ y ∧ y ≤ 4 := by
    intro q y hy
    obtain ⟨x, hx, rfl⟩ := List.mem_map.mp hy
    exact rk x (List.mem_filter.mp hx).1
  unfold nextLen
  by_cases h1 : ps = []
  · rw [if_pos h1]; exact ⟨by decide, by decide⟩
  · rw [if_neg h1]
    by_cases h2 : ftOf ps ks = []
    · rw [if_pos h2]
      have hm : msOf ps ks ≠ [] := by
        intro e
        have := congrArg List.length e
        rw [msOf, rkOf, List.length_map, List.length_map] at this
        exact h1 (List.eq_nil_of_length_eq_zero this)
      have hb := bs_pos (maxI_mem hm)
      exact flt _ _ (minI_mem (List.ne_nil_of_length_pos hb))
    · rw [if_neg h2]
      exact flt _ _ (minI_mem h2)
set_option maxHeartbeats 1000000 in
theorem next_length_ct {w : World} {mean : ExcName → Option Value} {mg mb : Str → Option Value} {dp un : Nat} {fr : Option (List Env)} {gd : Option (List Code)} {s : Shared} {E Q : Value → Shared → Prop} {l : Addr} {vs : List Value} {ps : List Sp} {b : Array UInt8} {tb : Tok} {ks : List Int}
    (X : (hd.heap_39 w.params).In s.heap) (T : TQ mean mg mb s.heap) (hd : dp + 5 < recursionLimit) (hl : s.heap.IsList l vs.toArray) (hs : SpAll s.heap vs ps) (hok : ∀ p ∈ ps, p.Ok) (hps : ps.length ≤ 100)
    (hb : KBw.bInts b = ks) (hk : ks.length ≤ 100)
    (h : ∀ t h' tk', s.heap.StaysIn h' → 1 ≤ nextLen ps ks ∧ nextLen ps ks ≤ 4 → Q (.int (nextLen ps ks) t) { s with heap := h', toks := tk' }) :
    wpAny (model PQ w) (AQ dp un fr gd) (call (.ref 73) [.ref l, .bytes b tb]) Q E s := by
  k_with_none
  k_with "all" => assumption
  k_with "truthy ref" => (k_here; (with_reducible rename Fr _ _ _ _ => kF); (first | refine wpAny_truthy_list (stays_list kF.keep (by assumption)) (by simp only [List.size_toArray]; lia) ?_ | (with_reducible rename News _ _ _ _ => kN; refine wpAny_truthy_list (News.isList kN (by k_mem)) (by simp only [List.size_toArray]; lia) ?_)); simp only [List.size_toArray])
  k_with "call ref" => ((with_reducible show wpAny _ _ (call (Value.ref 68) [Value.ref _, Value.bytes _ _]) _ _ _); (with_reducible rename Fr _ _ _ _ => kF); (with_reducible rename News _ _ _ _ => kN); (with_reducible rename Top _ _ _ _ _ _ => kT); (with_reducible rename Frag.In _ _ => kX); (with_reducible rename IsTup _ _ _ => kI); k_dflt (refine' fitting_ct (kX.keeps kF.keep) (kT.keeps kF.keep) ?hd (kI.keeps kF.keep) ?h1 ?h4 ?hb ?hk ?_; (case hd => (dsimp only [AQ, Around.deeper, Around.in1]; lia)); (case h1 => assumption); (case h4 => assumption); (case hb => assumption); (case hk => lia)); intro t' h' tk' st'; (have F' := kF.keptAll st'); (have N' := kN.grown st'); clear st' kF kN)
  k_with "newTuple" => (k_here; k_dflt (refine' kup_newTuple ?F ?N ?_ ?z; (case F => k_asm); (case N => k_asm); (case z => size_fits)); intro D' h' F' N' l1')
  k_with "exec Assign cons ListComp" => (k_here; (with_reducible show wpAny _ _ (exec (Stmt.Assign _ (Expr.ListComp _ [Comprehension.mk (Expr.Name _ _) _ _ _] _ _) _) _) _ _ _); k_dflt (refine LCg.Assign_ListComp_U (F₀ := by k_asm) (by rfl) (by with_unfolding_all rfl) (by with_unfolding_all rfl) (by decide) (by rfl) (by decide) (by rfl) (by rfl) (by rfl) ?_))
  k_with "exec Assign cons ListComp" => (k_here; (with_reducible show wpAny _ _ (exec (Stmt.Assign _ (Expr.ListComp _ [Comprehension.mk (Expr.Tuple _ _ _) _ _ _] _ _) _) _) _ _ _); k_dflt (refine pr_Assign (by k_asm) (by rfl) (by with_unfolding_all rfl) (by with_unfolding_all rfl) (by decide) (by rfl) (by decide) (by rfl) (by rfl) (by decide) (by rfl) (by rfl) ?_))
  k_with "eval ListComp" => (k_here; (with_reducible show wpAny _ _ (eval (Expr.ListComp _ [Comprehension.mk (Expr.Tuple _ _ _) _ _ _] _ _) _) _ _ _); k_dflt (refine pr_ListComp (by k_asm) (by with_unfolding_all rfl) (by decide) (by rfl) (by decide) (by rfl) (by rfl) (by decide) ?_))
  have hvl := hs.length
  have hrk := rk_of hs
  replace h : ∀ t h' tk', s.heap.StaysIn h' → Q (.int (nextLen ps ks) t) { s with heap := h', toks := tk' } := fun t h' tk' st => h t h' tk' st (nextLen_range hok)
  k_dflt (refine enterC (binds := [(Str.ofString "spaces", .ref l), (Str.ofString "octets", .bytes b tb)]) X T (by k_is) (by k_is) ?room (BindsTo.of_eq rfl) (by rfl) (by decide) ?_ rfl rfl rfl)
  case room => exact (by dsimp only; lia)
  intro QF hQF L' h₁ tk cells F N Y
  k_cells Y
  k_with "CompSrc" => (k_dflt (refine LCg.CompSrc.base (by rfl) (by k_asm) (by k_asm) hl (by simp only [List.size_toArray, sizeLine_eq]; lia) ?_); intro g'; rw [show vs.toArray.size = ps.length by rw [List.size_toArray]; exact hvl]; refine' rk_rest ps (fun p => ((fitN p.len p.lo p.hi ks : Int), p.len)) _ hrk ?turn (fun _ _ _ _ => .inl hl) (.inl hl) ?fin; (case' turn => (intro p v ys tl I oI C oC D m₂ h tk E' hp hR hC hx F N off ne hS; obtain ⟨a, t1, t2, t3, hv, ht⟩ := hR; subst hv; have hp1 := (hok p hp).1; have hp4 := (hok p hp).2; simp only [List.cons_append, List.nil_append] at N)); (case' fin => (intro ys tl hpr hoff)))
  k_steps
  · rename vs.isEmpty = true => hve
    have hpe : ps = [] := by
      have : vs = [] := by simpa using hve
      rw [this] at hvl; exact List.eq_nil_of_length_eq_zero hvl.symm
    exact hQF _ _ (ret_int h (nextLen_nil hpe) F.keep)
  · rename Fr _ _ _ _ => kF
    rename News _ _ _ _ => kN
    rename LCg.Off1 _ _ => ko1
    rename vs.isEmpty = false => hve
    have hpe : ps ≠ [] := by
      rintro rfl
      have : vs = [] := List.eq_nil_of_length_eq_zero hvl
      rw [this] at hve; cases hve
    have hyl := hpr.length
    rw [List.length_map] at hyl
    have hr1 := fun p hp => hoff _ (.head _) p hp
    have hr2 := fun p hp => hoff _ (.tail _ (.head _)) p hp
    simp only [LCg.Off1, List.cons_append, List.nil_append] at ko1
    change PrIn tl ys (rkOf ps ks) at hpr
    refine ⟨_, _, ys, _, (fun x => x.1 == x.2), (fun x => x.2), _, rfl, kF, kN, kN.isList (by k_mem), hpr.at kN (fun q hq => .tail _ (.tail _ (.tail _ hq))), by rw [sizeLine_eq]; lia, ?_, ?_, ?_⟩
    · intro x hx C s' m₂ t u E' hn ha hb st
      exact wpAny_tests_one (wpAny_isTrue_Compare1 (ldVarK hn ha (ldVarK hn hb (eq_int (wpAny_truthy_bool ⟨rfl, keeps_refl _⟩)))))
    · intro x hx C s' m₂ t u E' hn ha hb st
      exact ldVarK hn hb ⟨⟨_, rfl⟩, keeps_refl _⟩
    · intro D h' tk ys' hI hlt F' N'
      change IntsAre ys' (ftOf ps ks) at hI
      have hyl' : ys'.length ≤ 100 := by
        rw [hI.length, ftOf, List.length_map]
        refine Nat.le_trans (List.length_filter_le _ _) ?_
        rw [rkOf, List.length_map]; exact hps
      dsimp only
      clear kF kN
      k_lt hlt
      k_steps
      · rename ys'.isEmpty = true => hye
        have hft : ftOf ps ks = [] := by
          have : ys' = [] := by simpa using hye
          have q := hI.length
          rw [this] at q; exact List.eq_nil_of_length_eq_zero q.symm
        refine ⟨_, _, ys, _, (fun _ => true), (fun x => x.1), _, rfl, F', N', N'.isList (by k_mem), hpr.at N' (fun q hq => .tail _ (.tail _ (.tail _ (.tail _ hq)))), by rw [sizeLine_eq]; lia, ?_, ?_, ?_⟩
        · intro x hx C s' m₂ t u E' hn ha hb st
          exact wpAny_tests_nil ⟨rfl, keeps_refl _⟩
        · intro x hx C s' m₂ t u E' hn ha hb st
          exact ldVarK hn ha ⟨⟨_, rfl⟩, keeps_refl _⟩
        · intro D2 h' tk ys2 hI2 hlt2 F2 N2
          rw [List.filter_eq_self.mpr (fun _ _ => rfl)] at hI2
          change IntsAre ys2 (msOf ps ks) at hI2
          dsimp only
          clear F' N'
          k_lt hlt2
          k_steps
          k_dflt (refine kso_max F2 N2 (N2.isList (by k_mem)) hI2 (by rw [msOf, rkOf, List.length_map, List.length_map]; exact List.length_pos_iff.mpr hpe) rfl ?_)
          intro h3 M t3 tk3 F3 N3 hM hMx
          clear F2 N2
          dsimp only at hr1 hr2
          k_steps
          rename Fr _ _ _ _ => F4
          rename News _ _ _ _ => N4
          rename Obj.data _ = Data.cell (some (Value.int M t3)) => d4
          refine ⟨_, _, ys, _, (fun x => x.1 == M), (fun x => x.2), _, rfl, F4, N4, N4.isList (by k_mem), hpr.at N4 (fun q hq => .tail _ (.tail _ (.tail _ (.tail _ (.tail _ hq))))), by rw [sizeLine_eq]; lia, ?_, ?_, ?_⟩
          · intro x hx C s' m₂ t u E' hn ha hb st
            exact wpAny_tests_one (wpAny_isTrue_Compare1 (ldVarK hn ha (ldCellK (by rfl) ⟨_, st _ _ (N4.get (by k_mem)), d4⟩ (eq_int (wpAny_truthy_bool ⟨rfl, keeps_refl _⟩)))))
          · intro x hx C s' m₂ t u E' hn ha hb st
            exact ldVarK hn hb ⟨⟨_, rfl⟩, keeps_refl _⟩
          · intro D3 h4 tk4 ys3 hI3 hlt3 F5 N5
            change IntsAre ys3 (bsOf ps ks M) at hI3
            clear F4 N4
            k_steps
            k_dflt (refine kso_min F5 N5 (N5.isList (by k_mem)) hI3 (bs_pos hM) rfl ?_)
            intro h6 N t6 tk6 F6 N6 hN hNx
            exact hQF _ _ (ret_int h (nextLen_best hpe hft hM hMx hN hNx) F6.keep)
      · rename ys'.isEmpty = false => hye
        k_dflt (refine kso_min F' N' (N'.isList (by k_mem)) hI (len_pos_of hI hye) rfl ?_)
        intro h3 M t3 tk3 F3 N3 hM hMx
        exact hQF _ _ (ret_int h (nextLen_fit hpe hM hMx) F3.keep)
  · rename Fr _ _ _ _ => kF
    rename News _ _ _ _ => kN
    rename (∀ p : Addr × Obj, p ∈ _ → p.1 < _) => kl
    exact rk_end kF kN kl off (fun _ => .inl hl)
end
-- C5
section
theorem instAt_up {h h' : Heap} {x C : Addr} {dx : Addr} {od : Obj} (I : InstAt h x (instObj C dx) C (some od)) (k : h.StaysIn h') : InstAt h' x (instObj C dx) C (some od) :=
  ⟨k _ _ I.at_, I.cls, I.no, k _ _ I.dict⟩
theorem clip_in {n : Nat} {p : Int} (h0 : 0 ≤ p) (h1 : p ≤ n) : clipAt n p = p.toNat := by
  obtain ⟨k, rfl⟩ := Int.eq_ofNat_of_zero_le h0
  rw [clipAt_nat]
  simp only [Int.toNat_natCast]
  lia
theorem clip_ge {n : Nat} {p : Int} (h1 : (n : Int) ≤ p) : clipAt n p = n := by
  obtain ⟨k, rfl⟩ := Int.eq_ofNat_of_zero_le (Int.le_trans (Int.natCast_nonneg n) h1)
  rw [clipAt_nat]
  lia
section
variable {prog : Program} {w : World} {A : Around} {E : Value → Shared → Prop} {s : Shared} {value slice : PySem.Expr} {b : Array UInt8} {t t1 t2 : Tok} {h₀ : Heap} {L : Addr} {m : PySem.Str → Option Value} {news : List (Addr × Obj)} {lo hi : Int} {Q : Value → Shared → Prop} {ks : List Int}
theorem sl_mid (hF : Fr h₀ L s.heap m) (hN : News h₀ L s.heap news) (hk : KBw.bInts b = ks) (h0 : 0 ≤ lo) (h1 : lo < ks.length) (hz : ks.length ≤ 16777216)
    (h : ∀ r c h' t' k, Fr h₀ L h' m → News h₀ L h' news → c = (ks.drop lo.toNat).take 4 → KBw.bInts r = c → c.length ≤ 4 ∧ 1 ≤ c.length → Q (.bytes r t') { s with heap := h', toks := k })
    (hs : subscripted slice false (.bytes b t) (.ref s.heap.objs.size) = operate [.ref s.heap.objs.size, .bytes b t] (getItem (.bytes b t) (.ref s.heap.objs.size)) := by with_unfolding_all rfl)
    (ht : ∀ r, letTemporaryGo value (.bytes b t) r = pure () := by intro _; with_unfolding_all rfl) :
    wpAny (model prog w) A (subscriptTail value slice (.bytes b t) (.ref s.heap.objs.size)) Q E { s with heap := s.heap.push { cls := .type "slice", data := .fields #[.int lo t1, .int (lo + 4) t2, .none] } } := by
  refine KBc.slice_K (lo := some lo) (hi := some (lo + 4)) hF hN hk (by constructor) (by constructor) hz (fun h' t' k F' N' e => ?_) hs ht
  refine h _ _ h' t' k F' N' rfl ?_ ?_
  · rw [e]
    simp only [Option.elim]
    rw [clip_in h0 (Int.le_of_lt h1)]
    by_cases q : lo + 4 ≤ ks.length
    · rw [clip_in (by lia) q, show (lo + 4).toNat - lo.toNat = 4 by lia]
    · rw [clip_ge (by lia)]
      rw [List.take_of_length_le (by rw [List.length_drop]; lia), List.take_of_length_le (by rw [List.length_drop]; lia)]
  · rw [List.length_take, List.length_drop]
    lia
theorem sl_upto (hF : Fr h₀ L s.heap m) (hN : News h₀ L s.heap news) (hk : KBw.bInts b = ks) (h0 : 0 ≤ hi) (hz : ks.length ≤ 16777216)
    (h : ∀ r c h' t' k, Fr h₀ L h' m → News h₀ L h' news → c = ks.take hi.toNat → KBw.bInts r = c → (c.length : Int) ≤ hi ∧ c.length ≤ ks.length ∧ (1 ≤ hi → 1 ≤ ks.length → 1 ≤ c.length) → Q (.bytes r t') { s with heap := h', toks := k })
    (hs : subscripted slice false (.bytes b t) (.ref s.heap.objs.size) = operate [.ref s.heap.objs.size, .bytes b t] (getItem (.bytes b t) (.ref s.heap.objs.size)) := by with_unfolding_all rfl)
    (ht : ∀ r, letTemporaryGo value (.bytes b t) r = pure () := by intro _; with_unfolding_all rfl) :
    wpAny (model prog w) A (subscriptTail value slice (.bytes b t) (.ref s.heap.objs.size)) Q E { s with heap := s.heap.push { cls := .type "slice", data := .fields #[.none, .int hi t2, .none] } } := by
  refine KBc.slice_K (lo := none) (hi := some hi) hF hN hk (by constructor) (by constructor) hz (fun h' t' k F' N' e => ?_) hs ht
  refine h _ _ h' t' k F' N' rfl ?_ ?_
  · rw [e]
    simp only [Option.elim, List.drop_zero, Nat.sub_zero]
    by_cases q : hi ≤ ks.length
    · rw [clip_in h0 q]
    · rw [clip_ge (by lia), List.take_of_length_le (Nat.le_refl _), List.take_of_length_le (by lia)]
  · rw [List.length_take]
    refine ⟨by lia, by lia, fun h1 h2 => by lia⟩
end
/-- the codes of a string, put down to its end -/
noncomputable def splitF (ps : List Sp) : Nat → List Int → List (Int × Int)
  | 0, _ => []
  | f + 1, ks => if ks = [] then [] else
    let c := (ks.take 4).take (nextLen ps (ks.take 4)).toNat
    ((c.length : Int), codeOf c) :: splitF ps f (ks.drop c.length)
noncomputable def split (ps : List Sp) (ks : List Int) : List (Int × Int) := splitF ps ks.length ks

theorem take_pos {ps : List Sp} {ks : List Int} (hok : ∀ p ∈ ps, p.Ok) (h : ks ≠ []) : 1 ≤ ((ks.take 4).take (nextLen ps (ks.take 4)).toNat).length := by
  have h1 := (nextLen_range (ks := ks.take 4) hok).1
  have h2 : 0 < ks.length := List.length_pos_iff.mpr h
  rw [List.length_take, List.length_take]
  lia
theorem splitF_fuel {ps : List Sp} (hok : ∀ p ∈ ps, p.Ok) : ∀ (f g : Nat) (ks : List Int), ks.length ≤ f → ks.length ≤ g → splitF ps f ks = splitF ps g ks := by
  intro f
  induction f with
  | zero =>
    intro g ks hf _
    have e : ks = [] := List.eq_nil_of_length_eq_zero (by lia)
    subst e
    cases g <;> rfl
  | succ f ih =>
    intro g ks hf hg
    cases g with
    | zero =>
      have e : ks = [] := List.eq_nil_of_length_eq_zero (by lia)
      subst e
      rfl
    | succ g =>
      simp only [splitF]
      by_cases h : ks = []
      · rw [if_pos h, if_pos h]
      · rw [if_neg h, if_neg h]
        have hp := take_pos (ps := ps) hok h
        congr 1
        apply ih
        · rw [List.length_drop]; lia
        · rw [List.length_drop]; lia
theorem split_nil {ps : List Sp} : split ps [] = [] := rfl
theorem split_cons {ps : List Sp} {ks : List Int} (hok : ∀ p ∈ ps, p.Ok) (h : ks ≠ []) {a c : List Int} (ha : a = ks.take 4) (hc : c = a.take (nextLen ps a).toNat) : split ps ks = ((c.length : Int), codeOf c) :: split ps (ks.drop c.length) := by
  subst ha
  subst hc
  have h2 : 0 < ks.length := List.length_pos_iff.mpr h
  obtain ⟨f, hf⟩ : ∃ f, ks.length = f + 1 := ⟨ks.length - 1, by lia⟩
  have hp := take_pos (ps := ps) hok h
  unfold split
  rw [hf]
  simp only [splitF]
  rw [if_neg h]
  congr 1
  exact splitF_fuel hok _ _ _ (by rw [List.length_drop]; lia) (Nat.le_refl _)
def Stop (P : Prop) : Prop := P
theorem Stop.mk {P : Prop} (h : Stop P) : P := h
def scInv (ps : List Sp) (ks : List Int) (p : Int) (ys : List Value) (xs : List (Int × Int)) : Prop := 0 ≤ p ∧ p ≤ ks.length ∧ (ys.length : Int) ≤ p ∧ xs ++ split ps (ks.drop p.toNat) = split ps ks
theorem sc_next {ps : List Sp} {ks a c : List Int} {p : Int} {ys : List Value} {v : Value} {xs : List (Int × Int)} {r : Array UInt8} (hok : ∀ p ∈ ps, p.Ok) (h0 : 0 ≤ p) (hl : p < ks.length) (hy : (ys.length : Int) ≤ p) (he : xs ++ split ps (ks.drop p.toNat) = split ps ks) (ha : a = (ks.drop p.toNat).take 4) (hc : c = a.take (nextLen ps a).toNat) (hr : KBw.bInts r = c) (hle : a.length ≤ 4 ∧ 1 ≤ a.length) (hlen : (c.length : Int) ≤ nextLen ps a ∧ c.length ≤ a.length ∧ (1 ≤ nextLen ps a → 1 ≤ a.length → 1 ≤ c.length)) :
    scInv ps ks (p + c.length) (ys ++ [v]) (xs ++ [((c.length : Int), codeOf (KBw.bInts r))]) ∧ ks.length - (p + c.length).toNat < ks.length - p.toNat := by
  have h1 := (nextLen_range (ks := a) hok).1
  have hc1 := hlen.2.2 h1 hle.2
  have hal : a.length ≤ ks.length - p.toNat := by
    rw [ha, List.length_take, List.length_drop]; lia
  have hne : ks.drop p.toNat ≠ [] := by
    intro e
    have := congrArg List.length e
    rw [List.length_drop] at this
    simp at this
    lia
  refine ⟨⟨by lia, by lia, by rw [List.length_append, List.length_singleton]; lia, ?_⟩, by lia⟩
  rw [← he, split_cons hok hne ha hc, hr, List.append_assoc, List.drop_drop]
  rw [show (p + (c.length : Int)).toNat = p.toNat + c.length by lia]
  rfl
structure ScSt where
  place : Int
  t : Tok
  ys : List Value
  n : Nat
  tl : List (Addr × Obj)
  xs : List (Int × Int)
abbrev scPost (h₀ : Heap) (L : Addr) (s : Shared) (ps : List Sp) (ks : List Int) (D : Addr) (m₀ : Str → Option Value) (Q : Flow → Shared → Prop) (c : ScSt) : Flow → Shared → Prop :=
  KswPost h₀ L s (fun c : ScSt => (D, W.listOf c.ys.toArray c.n) :: c.tl) (fun c => [(Str.ofString "place", Value.int c.place c.t)]) (fun c => PrIn c.tl c.ys c.xs ∧ ∀ q ∈ c.tl, q.1 ≠ D) [Str.ofString "ahead", Str.ofString "code"] m₀ (fun c => scInv ps ks c.place c.ys c.xs) (fun c => ks.length - c.place.toNat) Q c
theorem sc_while {prog : Program} {w : World} {A : Around} {E : Value → Shared → Prop} {Q : Flow → Shared → Prop} {s : Shared} {env : Env} {h₀ : Heap} {L D : Addr} {test : Expr} {body : List Stmt} {pos : Pos} {m₀ : Str → Option Value} {t₀ : Tok} {ps : List Sp} {ks : List Int}
    (F : Fr h₀ L s.heap m₀) (N : News h₀ L s.heap [(D, W.listOf #[] 0)]) (hm : m₀ (Str.ofString "place") = some (.int 0 t₀))
    (turn : ∀ (place : Int) (t : Tok) (ys : List Value) (n : Nat) (tl : List (Addr × Obj)) (xs : List (Int × Int)) (u : Str → Option Value) h tk, PrIn tl ys xs → (∀ q ∈ tl, q.1 ≠ D) → scInv ps ks place ys xs →
      Fr h₀ L h (fun z => if z = Str.ofString "place" then some (Value.int place t) else if [Str.ofString "ahead", Str.ofString "code"].contains z then u z else m₀ z) → News h₀ L h ((D, W.listOf ys.toArray n) :: tl) →
      ∀ QA QC : Shared → Prop, (∀ s', (∀ QT : Flow → Shared → Prop, (∀ s'', scPost h₀ L s ps ks D m₀ Q ⟨place, t, ys, n, tl, xs⟩ .next s'' → QT .next s'') → wpAny (model prog w) A (execs body env) QT E s') → QA s') → (∀ s', Q .next s' → QC s') →
      wpAny (model prog w) A (isTrue test env (eval test env)) (fun b s₂ => if b = true then QA s₂ else QC s₂) E { s with heap := h, toks := tk })
    (hE : PassesOwn (model prog w) A env E := by passes_own) :
    wpAny (model prog w) A (exec (.While test body [] pos) env) Q E s := by
  refine ksw_while (σ := ScSt) (fun c => (D, W.listOf c.ys.toArray c.n) :: c.tl) (fun c => [(Str.ofString "place", Value.int c.place c.t)]) (fun c => PrIn c.tl c.ys c.xs ∧ ∀ q ∈ c.tl, q.1 ≠ D) [Str.ofString "ahead", Str.ofString "code"] (fun c => scInv ps ks c.place c.ys c.xs) (fun c => ks.length - c.place.toNat) ⟨0, t₀, [], 0, [], []⟩ F N ⟨.nil, fun _ h => nomatch h⟩ ?_ ⟨Int.le_refl _, Int.natCast_nonneg _, Int.le_refl _, by simp⟩ ?_ hE
  · intro p hp
    rcases List.mem_cons.mp hp with rfl | hp
    · exact hm
    · cases hp
  · rintro ⟨place, t, ys, n9, tl, xs⟩ u h9 tk9 ⟨hf1, hf2⟩ hp F9 N9
    exact turn place t ys n9 tl xs u h9 tk9 hf1 hf2 hp F9 N9 _ _ (fun s' hq => hq _ fun _ h => h) (fun s' hq => hq)
theorem sc_end {h₀ : Heap} {L D T : Addr} {s : Shared} {ps : List Sp} {ks : List Int} {m₀ m' : Str → Option Value} {place place' k c : Int} {t t' ta tb : Tok} {ys : List Value} {n n' : Nat} {tl : List (Addr × Obj)} {xs : List (Int × Int)} {h' : Heap} {tk' : Nat}
    (F : Fr h₀ L h' m') (N : News h₀ L h' ((T, tupO [.int k ta, .int c tb]) :: (D, W.listOf (ys.toArray.push (Value.ref T)) n') :: tl)) (hf : PrIn tl ys xs) (ho : ∀ q ∈ tl, q.1 ≠ D) (hT : T ≠ D) (hm : m' (Str.ofString "place") = some (.int place' t')) (hr : ∀ z, z ≠ Str.ofString "place" → z ≠ Str.ofString "ahead" → z ≠ Str.ofString "code" → m' z = m₀ z)
    (hp : scInv ps ks place' (ys ++ [Value.ref T]) (xs ++ [(k, c)])) (hlt : ks.length - place'.toNat < ks.length - place.toNat) :
    KswEnd h₀ L s (fun c : ScSt => (D, W.listOf c.ys.toArray c.n) :: c.tl) (fun c => [(Str.ofString "place", Value.int c.place c.t)]) (fun c => PrIn c.tl c.ys c.xs ∧ ∀ q ∈ c.tl, q.1 ≠ D) [Str.ofString "ahead", Str.ofString "code"] m₀ (fun c => scInv ps ks c.place c.ys c.xs) (fun c => ks.length - c.place.toNat) ⟨place, t, ys, n, tl, xs⟩ { s with heap := h', toks := tk' } := by
  rw [List.push_toArray] at N
  refine ksw_end (⟨place', t', ys ++ [Value.ref T], n', (T, tupO [.int k ta, .int c tb]) :: tl, xs ++ [(k, c)]⟩ : ScSt) F N ?_ ⟨(hf.mono fun q hq => List.mem_cons_of_mem _ hq).snoc List.mem_cons_self, ?_⟩ ?_ ?_ hp hlt
  · intro p hp
    simp only [List.mem_cons] at hp ⊢
    rcases hp with h | h | h <;> simp [h]
  · intro q hq
    rcases List.mem_cons.mp hq with rfl | hq
    · exact hT
    · exact ho q hq
  · intro p hp
    rcases List.mem_cons.mp hp with rfl | hp
    · exact hm
    · cases hp
  · intro z h1 h2
    have h1' := h1 _ (List.mem_cons_self)
    simp only [List.contains_cons, List.contains_nil, Bool.or_false, Bool.or_eq_false_iff, beq_eq_false_iff_ne, ne_eq] at h2
    exact hr z h1' h2.1 h2.2
set_option maxHeartbeats 1000000 in
theorem split_codes_ct {w : World} {mean : ExcName → Option Value} {mg mb : Str → Option Value} {dp un : Nat} {fr : Option (List Env)} {gd : Option (List Code)} {s : Shared} {E Q : Value → Shared → Prop} {x dx l : Addr} {es : List DictEntry} {n : Nat} {vs : List Value} {ps : List Sp} {b : Array UInt8} {tb : Tok} {ks : List Int}
    (X : (hd.heap_39 w.params).In s.heap) (T : TQ mean mg mb s.heap) (hd : dp + 6 < recursionLimit) (hx : InstAt s.heap x (instObj 45 dx) 45 (some (dictOf es n))) (hes : getL (Str.ofString "spaces") es = some (some (.ref l)))
    (hl : s.heap.IsList l vs.toArray) (hs : SpAll s.heap vs ps) (hok : ∀ p ∈ ps, p.Ok) (hps : ps.length ≤ 100)
    (hb : KBw.bInts b = ks) (hk : ks.length ≤ 100)
    (h : ∀ D n ys tl h' tk', s.heap.StaysIn h' → Fresh s.heap h' ((D, W.listOf ys.toArray n) :: tl) → PrIn tl ys (split ps ks) → Q (.ref D) { s with heap := h', toks := tk' }) :
    wpAny (model PQ w) (AQ dp un fr gd) (call (.ref 80) [.ref x, .bytes b tb]) Q E s := by
  k_with_none
  k_with "all" => assumption
  k_with "newTuple" => (k_here; k_dflt (refine' kup_newTuple ?F ?N ?_ ?z; (case F => k_asm); (case N => k_asm); (case z => size_fits)); intro D' h' F' N' l1'; (have l2' := l1'); (k_lt l1'))
  k_with "subscriptTail" => (k_here; (with_reducible show wpAny _ _ (subscriptTail _ (Expr.Slice _ _ none _) (Value.bytes _ _) (Value.ref _)) _ _ _); (with_reducible rename Fr _ _ _ _ => kF); (with_reducible rename News _ _ _ _ => kN); (first
    | (refine sl_mid (s := ⟨_, _, _, _, _⟩) kF kN (by assumption) (by lia) (by lia) (by lia) ?_; intro r' c' h' t' k' F' N' hc' hr' hlen')
    | (refine sl_upto (s := ⟨_, _, _, _, _⟩) kF kN (by assumption) (by lia) (by lia) ?_; intro r' c' h' t' k' F' N' hc' hr' hlen')); clear kF kN)
  k_with "getAttr ref" => (k_here; (with_reducible show wpAny _ _ (getAttr (Value.ref _) _ _) _ _ _); (with_reducible rename Fr _ _ _ _ => kF); (with_reducible rename Frag.In _ _ => kX); (with_reducible rename PySem.W.InstAt _ _ _ _ _ => kI); k_dflt (refine' get_own kF kX (instAt_up kI kF.keep) ?k4 ?k5 ?k6 ?k7 ?k8 ?k9 ?_; (case k4 => k_is); (case k5 => k_is); (case k6 => k_is); (case k7 => k_is); (case k8 => assumption); (case k9 => k_handed)))
  k_with "call ref" => ((with_reducible show wpAny _ _ (call (Value.ref 73) [Value.ref _, Value.bytes _ _]) _ _ _); (with_reducible rename Fr _ _ _ _ => kF); (with_reducible rename News _ _ _ _ => kN); (with_reducible rename Top _ _ _ _ _ _ => kT); (with_reducible rename Frag.In _ _ => kX); k_dflt (refine' next_length_ct (kX.keeps kF.keep) (kT.keeps kF.keep) ?hd (stays_list kF.keep (by assumption)) (SpAll.mono kF.keep (by assumption)) (by assumption) (by lia) ?hb ?hk ?_; (case hd => (dsimp only [AQ, Around.deeper, Around.in1]; lia)); (case hb => assumption); (case hk => lia)); intro t' h' tk' st' hn'; (have F' := kF.keptAll st'); (have N' := kN.grown st'); clear st' kF kN)
  k_with "call ref" => ((with_reducible show wpAny _ _ (call (Value.ref 56) [Value.bytes _ _]) _ _ _); (with_reducible rename Fr _ _ _ _ => kF); (with_reducible rename News _ _ _ _ => kN); (with_reducible rename Top _ _ _ _ _ _ => kT); (with_reducible rename Frag.In _ _ => kX); k_dflt (refine' code_of_ct (kX.keeps kF.keep) (kT.keeps kF.keep) ?hd ?_; (case hd => (dsimp only [AQ, Around.deeper, Around.in1]; lia))); intro t' h' tk' st'; (have F' := kF.keptAll st'); (have N' := kN.grown st'); clear st' kF kN)
  k_dflt (refine enterP (binds := [(Str.ofString "cmap", .ref x), (Str.ofString "octets", .bytes b tb)]) X T (by k_is) (by k_is) ?room (BindsTo.of_eq rfl) (locs rfl) ?_ rfl rfl rfl (by decide))
  case room => exact (by dsimp only; lia)
  intro QF hQF L' h₁ F N
  k_with "exec While Compare cons nil" => refine Stop.mk ?_
  k_steps
  unfold Stop
  (rename Fr _ _ _ _ => lF'); (rename News _ _ _ _ => lN')
  k_dflt (refine sc_while (ps := ps) (ks := ks) lF' lN' (by rfl) ?_)
  intro place t ys n9 tl xs u h9 tk9 hf1 hf2 hp F9 N9 QA QC hQA hQC
  clear lF' lN'
  have hp1 := hp.1
  have hp2 := hp.2.1
  have hp3 := hp.2.2.1
  have hp4 := hp.2.2.2
  k_steps
  · refine hQA _ fun QT hQT => ?_
    k_steps
    refine hQT _ ?_
    rename Fr _ _ _ _ => kF
    rename News _ _ _ _ => kN
    rename (∀ p : Addr × Obj, p ∈ _ → p.1 < _) => kl
    k_dflt (refine sc_end kF kN hf1 hf2 (Nat.ne_of_gt (kl _ (.head _))) (by rfl) ?_ (sc_next hok hp1 (by assumption) hp3 hp4 (by assumption) (by assumption) (by assumption) (by assumption) (by assumption)).1 (sc_next (v := Value.none) hok hp1 (by assumption) hp3 hp4 (by assumption) (by assumption) (by assumption) (by assumption) (by assumption)).2)
    intro z h1 h2 h3
    have h4 : [Str.ofString "ahead", Str.ofString "code"].contains z = false := by
      simp only [List.contains_cons, List.contains_nil, Bool.or_false, Bool.or_eq_false_iff, beq_eq_false_iff_ne, ne_eq]
      exact ⟨h2, h3⟩
    simp only [h1, h2, h3, h4, if_false, Bool.false_eq_true]
  · refine hQC _ ?_
    have e : place.toNat = ks.length := by lia
    rw [e, List.drop_length, split_nil, List.append_nil] at hp4
    subst hp4
    k_steps
    exact hQF _ _ (h _ _ _ _ _ _ F9.keep (Fresh.of N9) hf1)
end
-- P3
section
section
variable {prog : Program} {w : World} {A : Around} {E : Value → Shared → Prop} {s : Shared}
inductive BySrc (prog : Program) (w : World) (A : Around) (h₀ : Heap) (L : Addr) (m : Str → Option Value) (env : Env) (elt : Expr) (x : Str) (scope : Scope) (cl : List (Str × Addr)) (Fin : Shared → List Value → List (Addr × Obj) → Prop) : Value → Shared → Prop
  | mk (s₁ : Shared) (b : Array UInt8) (t : Tok) (news : List (Addr × Obj)) : A.handled = none → Fr h₀ L s₁.heap m → News h₀ L s₁.heap news → b.size ≤ sizeLine →
    (∀ g, LCg.CompRest prog w A h₀ L m env elt x scope cl { s₁ with heap := g } (fun _ => True) (fun i v => ∃ c u, b[i]? = some c ∧ v = .int (c.toNat : Int) u) (Fin { s₁ with heap := g }) b.size 0 [] news) → BySrc prog w A h₀ L m env elt x scope cl Fin (.bytes b t) s₁

theorem by_ListComp {h₀ : Heap} {L : Addr} {m : Str → Option Value} {env : Env} {elt iter : Expr} {x : Str} {px : Pos} {scope : Scope} {cl : List (Str × Addr)} {pos : Pos} {Q : Value → Shared → Prop} (_F₀ : Fr h₀ L s.heap m)
    (hclos : closureFor scope env = pure cl) (hcell : ∀ y ∈ scope.names, y.2 ≠ .cell) (hkind : scope.kind = .function)
    (hnames : ∀ y ∈ scope.names, y.2 = .local → scope.names.lookup y.1 = some .local) (hx : scope.names.lookup x = some .local)
    (h : wpAny (model prog w) A (eval iter env) (BySrc prog w A h₀ L m env elt x scope cl (fun s₂ => LCg.FinE h₀ L m s₂ Q)) E s)
    (hs : ∀ x, foldedSetIterable iter env x = pure x := by intro _; rfl) :
    wpAny (model prog w) A (eval (.ListComp elt [⟨.Name x px, iter, [], 0⟩] scope pos) env) Q E s := by
  rw [eval_ListComp]
  refine wpAny_comprehension_free (use := none) rfl hs hclos hkind hnames (wpAny_mono h (fun xv s₁ h₁ => ?_) fun _ _ e => e)
  obtain ⟨_, b, t, news, hh, F, N, hsz, R⟩ := h₁
  refine KBw.pyIter_bytes ?_
  have up : ∀ c o, s₁.heap.get? c = some o → (s₁.heap.push { cls := .type "bytes_iterator", data := .fields #[.bytes b t, .int 0 0] }).get? c = some o := fun c o e => Heap.get?_push_of_some _ e
  refine LCg.block_U (KBw.walks hh s₁.heap.objs.size b t) hsz (fun i h st => let ⟨o, e, _⟩ := st; ⟨o, e⟩) ?_ hcell hkind hx ⟨_, Heap.get?_push_size _ rfl, rfl, rfl⟩ (fun c hc => ?_)
    (F.keeps up) (N.grown up) (Nat.ne_of_lt F.ns.lt) (next_is_new F) (fun p hp => Nat.ne_of_lt (Heap.lt_size (N p hp).1)) (S := fun _ => True) trivial (R _) ?_
  · intro i h h' o nw st e e' _ _ _
    obtain ⟨o', q, r⟩ := st
    rw [e] at q
    cases q
    exact ⟨o, e', r⟩
  · rw [List.mem_singleton.mp hc]
    show s₁.heap.objs.size < (s₁.heap.push _).objs.size
    rw [Heap.size_push]
    exact Nat.lt_succ_self _
  · intro D C h' tk m' ys news' F' N' o1 hn hC₀ hD₀ hCL hDL hCD offC fin
    refine ⟨m', hn, fun h'' hs'' => fin D h'' tk (F'.change hs'' hCL hC₀) (fun p hp => ?_) o1⟩
    refine ⟨hs''.extBut _ _ ?_ (N' p hp).1, (N' p hp).2⟩
    rcases List.mem_cons.mp hp with rfl | hp
    · exact Ne.symm hCD
    · exact offC p hp
theorem by_of {b : Array UInt8} {ks : List Int} (hb : KBw.bInts b = ks) : ∀ (i : Nat) (v : Value), (∃ (c : UInt8) (u : Tok), b[i]? = some c ∧ v = Value.int (c.toNat : Int) u) → i < ks.length → ∃ p, ks[i]? = some p ∧ ∃ t, v = Value.int p t := by
  rintro i v ⟨c, u, hc, rfl⟩ _
  subst hb
  exact ⟨_, KBw.ints_get hc, u, rfl⟩
end
end
-- C6
section
/-- how a font is cut: by single octets, or by spaces -/
noncomputable def codesOf : Option (List Sp) → List Int → List (Int × Int)
  | none, ks => ks.map fun k => (1, k)
  | some ps, ks => split ps ks
/-- the font on the heap -/
inductive FontAt (h : Heap) (f : Addr) : Option (List Sp) → Prop
  | simple {df : Addr} {es : List DictEntry} {n : Nat} : PySem.W.InstAt h f (instObj 161 df) 161 (some (dictOf es n)) → getL (Str.ofString "cutting") es = some (some .none) → getL (Str.ofString "codes") es = some none → FontAt h f none
  | wide {df tu x dx l : Addr} {es ex : List DictEntry} {n nx : Nat} {v : Value} {vs : List Value} {ps : List Sp} : PySem.W.InstAt h f (instObj 161 df) 161 (some (dictOf es n)) → getL (Str.ofString "cutting") es = some (some (.ref tu)) → getL (Str.ofString "codes") es = some none → IsTup h tu #[.ref x, v] →
      PySem.W.InstAt h x (instObj 45 dx) 45 (some (dictOf ex nx)) → getL (Str.ofString "spaces") ex = some (some (.ref l)) → h.IsList l vs.toArray → SpAll h vs ps → (∀ p ∈ ps, p.Ok) → ps.length ≤ 100 → FontAt h f (some ps)
set_option maxHeartbeats 1000000 in
theorem codes_ct {w : World} {mean : ExcName → Option Value} {mg mb : Str → Option Value} {dp un : Nat} {fr : Option (List Env)} {gd : Option (List Code)} {s : Shared} {E Q : Value → Shared → Prop} {f : Addr} {c : Option (List Sp)} {b : Array UInt8} {tb : Tok} {ks : List Int}
    (X : (hd.heap_39 w.params).In s.heap) (T : TQ mean mg mb s.heap) (hd : dp + 7 < recursionLimit) (hf : FontAt s.heap f c) (hb : KBw.bInts b = ks) (hk : ks.length ≤ 100)
    (h : ∀ D n ys tl h' tk', s.heap.StaysIn h' → Fresh s.heap h' ((D, W.listOf ys.toArray n) :: tl) → PrIn tl ys (codesOf c ks) → Q (.ref D) { s with heap := h', toks := tk' }) :
    wpAny (model PQ w) (AQ dp un fr gd) (call (.ref 144) [.ref f, .bytes b tb]) Q E s := by
  k_with_none
  k_with "getAttr ref" => (k_here; (with_reducible show wpAny _ _ (getAttr (Value.ref _) _ _) _ _ _); (with_reducible rename Fr _ _ _ _ => kF); (with_reducible rename Frag.In _ _ => kX); k_dflt (refine' get_own kF kX ?kI ?k4 ?k5 ?k6 ?k7 ?k8 ?k9 ?_; (case kI => exact instAt_up (by assumption) kF.keep); (case k4 => k_is); (case k5 => k_is); (case k6 => k_is); (case k7 => k_is); (case k8 => assumption); (case k9 => k_handed)))
  k_with "call ref" => ((with_reducible show wpAny _ _ (call (Value.ref 80) [Value.ref _, Value.bytes _ _]) _ _ _); (with_reducible rename Fr _ _ _ _ => kF); (with_reducible rename News _ _ _ _ => kN); (with_reducible rename Top _ _ _ _ _ _ => kT); (with_reducible rename Frag.In _ _ => kX); k_dflt (refine' split_codes_ct (kX.keeps kF.keep) (kT.keeps kF.keep) ?hd (instAt_up (by assumption) kF.keep) (by assumption) (stays_list kF.keep (by assumption)) (SpAll.mono kF.keep (by assumption)) (by assumption) (by assumption) ?hb ?hk ?_; (case hd => (dsimp only [AQ, Around.deeper, Around.in1]; omega)); (case hb => assumption); (case hk => omega)); intro D' n' ys' tl' h' tk' st' hg' hp'; (have F' := kF.keptAll st'))
  k_with "newTuple" => (k_here; k_dflt (refine' kup_newTuple ?F ?N ?_ ?z; (case F => k_asm); (case N => k_asm); (case z => size_fits)); intro D' h' F' N' l1')
  k_with "eval ListComp" => (k_here; (with_reducible show wpAny _ _ (eval (Expr.ListComp _ [Comprehension.mk (Expr.Name _ _) _ _ _] _ _) _) _ _ _); k_dflt (refine by_ListComp (by k_asm) (by with_unfolding_all rfl) (by decide) (by rfl) (by decide) (by rfl) ?_))
  k_dflt (refine enterP (binds := [(Str.ofString "self", .ref f), (Str.ofString "octets", .bytes b tb)]) X T (by k_is) (by k_is) ?room (BindsTo.of_eq rfl) (locs rfl) ?_ rfl rfl rfl (by decide))
  case room => exact (by dsimp only; omega)
  intro QF hQF L' h₁ F N
  cases hf with
  | simple hi hc hm =>
    k_steps
    rename Fr _ _ _ _ => kF
    have hbs : b.size = ks.length := by rw [← KBw.ints_length, hb]
    refine ⟨_, b, tb, [], rfl, kF, N, by rw [hbs, sizeLine_eq]; omega, fun g => ?_⟩
    rw [hbs]
    refine rk_rest ks (fun k => (1, k)) _ (by_of hb) ?_ (fun _ _ _ _ => trivial) trivial ?_
    · clear kF N
      intro p v ys tl I oI C oC D m₂ h tk E' hp hR hC hx F N off ne hS
      obtain ⟨t, hv⟩ := hR
      subst hv
      simp only [List.nil_append] at N
      k_steps
      rename Fr _ _ _ _ => kF
      rename News _ _ _ _ => kN
      rename (∀ p : Addr × Obj, p ∈ _ → p.1 < _) => kl
      exact rk_end (news := []) kF kN kl off (fun _ => trivial)
    · intro ys tl hpr hoff D h' tk F' N' o1
      exact hQF _ _ (h _ _ _ _ _ _ F'.keep (Fresh.of N') hpr)
  | wide hi hc hm ht hx he hl hs hok hps =>
    have k1 : s.heap.StaysIn h₁ := F.keep
    k_steps
    rename Fr _ _ _ _ => kF
    rename PrIn _ _ _ => kp
    rename Fresh _ _ _ => kg
    exact hQF _ _ (h _ _ _ _ _ _ kF.keep (Fresh.down k1 kg) kp)
end
-- C7
section
noncomputable def holdsB (len lo hi : Int) (ks : List Int) : Bool := decide ((fitN len lo hi ks : Int) = len)
theorem pw_bd {n : Int} (h : n ≤ 3) : 0 < (256 : Int) ^ n.toNat ∧ (256 : Int) ^ n.toNat ≤ 16777216 := by
  have : n.toNat = 0 ∨ n.toNat = 1 ∨ n.toNat = 2 ∨ n.toNat = 3 := by lia
  rcases this with e | e | e | e <;> rw [e] <;> decide
theorem pw_nat {n : Int} (h : n ≤ 3) : ((256 : Int) ^ n.toNat).natAbs < 1073741824 := by
  have := pw_bd h
  omega
theorem octets_get {len code k : Int} (h0 : 0 ≤ k) (h1 : k < len) : (codeOctets len code).getD k.toNat 0 = octAt len code k := by
  unfold codeOctets
  rw [List.getD_eq_getElem?_getD, List.getElem?_map]
  have e : (rangeKs 0 len.toNat)[k.toNat]? = some k := by
    simp only [rangeKs, List.getElem?_map, List.getElem?_range (show k.toNat < len.toNat by omega), Option.map_some, Option.some.injEq]
    lia
  rw [e]
  rfl
theorem oct_eq {len code k : Int} (h0 : 0 ≤ k) (h1 : k < len) : (code.fdiv (256 ^ (len - 1 - k).toNat)).fmod 256 = (codeOctets len code).getD k.toNat 0 := by
  rw [octets_get h0 h1, octAt, Int.fmod_eq_emod_of_nonneg _ (by decide)]
  have e : (8 * (len - 1 - k)).toNat = 8 * (len - 1 - k).toNat := by lia
  rw [e, Int.pow_mul]
  rfl
theorem ret_bool {h₀ : Heap} {s : Shared} {Q : Value → Shared → Prop} {x y : Bool} {h' : Heap} {tk' : Nat} (h : ∀ h' tk', h₀.StaysIn h' → Q (.bool x) { s with heap := h', toks := tk' }) (e : x = y) (st : h₀.StaysIn h') : Q (.bool y) { s with heap := h', toks := tk' } := e ▸ h h' tk' st
theorem hs_start {len lo hi : Int} {ks : List Int} : ∀ j : Nat, j < ([] : List Int).length → fitB len lo hi ks j = true := fun j hj => absurd hj (Nat.not_lt_zero j)
theorem hs_step {len lo hi k : Int} {ks pre : List Int} (ih : ∀ j : Nat, j < pre.length → fitB len lo hi ks j = true) (hk : k = 0 + (pre.length : Int)) (hlt : pre.length < (len - 0).toNat) (hl : ¬ (ks.length : Int) < len)
    (h1 : (lo.fdiv (256 ^ (len - 1 - k).toNat)).fmod 256 ≤ ks.getD k.toNat 0) (h2 : ks.getD k.toNat 0 ≤ (hi.fdiv (256 ^ (len - 1 - k).toNat)).fmod 256) : ∀ j : Nat, j < (pre ++ [k]).length → fitB len lo hi ks j = true := by
  intro j hj
  rw [List.length_append, List.length_singleton] at hj
  by_cases q : j < pre.length
  · exact ih j q
  · have e : j = k.toNat := by omega
    rw [oct_eq (by lia) (by omega)] at h1 h2
    subst e
    exact fitB_iff.mpr ⟨by omega, by omega, h1, h2⟩
theorem hs_all {len lo hi : Int} {ks : List Int} (h1 : 1 ≤ len) (ih : ∀ j : Nat, j < (rangeKs 0 (len - 0).toNat).length → fitB len lo hi ks j = true) : holdsB len lo hi ks = true := by
  rw [rangeKs_length] at ih
  have := fit_end (len := len) (lo := lo) (hi := hi) (ks := ks) (p := len) (by lia) (Int.le_refl _) (fun k hk => ih k (by lia)) (.inl (Int.lt_irrefl _))
  simp [holdsB, this]
theorem hs_short {len lo hi : Int} {ks : List Int} (h : (ks.length : Int) < len) : holdsB len lo hi ks = false := by
  simp only [holdsB, decide_eq_false_iff_not]
  intro e
  have h0 : ((List.range len.toNat).takeWhile (fitB len lo hi ks)).length = len.toNat := by
    have : fitN len lo hi ks = len.toNat := by lia
    exact this
  have h1 : (List.range len.toNat).takeWhile (fitB len lo hi ks) = List.range len.toNat := by
    refine (List.takeWhile_prefix _).eq_of_length ?_
    rw [h0, List.length_range]
  have h2 : ks.length ∈ (List.range len.toNat).takeWhile (fitB len lo hi ks) := by
    rw [h1]
    exact List.mem_range.mpr (by lia)
  have h3 := List.all_eq_true.mp (List.all_takeWhile (p := fitB len lo hi ks) (l := List.range len.toNat)) _ h2
  have := (fitB_iff.mp h3).2.1
  lia
theorem hs_fail {len lo hi k : Int} {ks pre : List Int} (hk : k = 0 + (pre.length : Int)) (hlt : pre.length < (len - 0).toNat)
    (h : ¬ ((lo.fdiv (256 ^ (len - 1 - k).toNat)).fmod 256 ≤ ks.getD k.toNat 0) ∨ ¬ (ks.getD k.toNat 0 ≤ (hi.fdiv (256 ^ (len - 1 - k).toNat)).fmod 256)) (ih : ∀ j : Nat, j < pre.length → fitB len lo hi ks j = true) : holdsB len lo hi ks = false := by
  rw [oct_eq (by lia) (by omega), oct_eq (by lia) (by omega)] at h
  have := fit_end (len := len) (lo := lo) (hi := hi) (ks := ks) (p := k) (by lia) (by omega) (fun j hj => ih j (by lia)) (.inr (.inr h))
  simp only [holdsB, decide_eq_false_iff_not]
  lia
set_option maxHeartbeats 1000000 in
theorem holds_ct {w : World} {mean : ExcName → Option Value} {mg mb : Str → Option Value} {dp un : Nat} {fr : Option (List Env)} {gd : Option (List Code)} {s : Shared} {E Q : Value → Shared → Prop} {a : Addr} {len lo hi : Int} {t1 t2 t3 : Tok} {b : Array UInt8} {tb : Tok} {ks : List Int}
    (X : (hd.heap_39 w.params).In s.heap) (T : TQ mean mg mb s.heap) (hd : dp + 3 < recursionLimit) (ht : IsTup s.heap a #[.int len t1, .int lo t2, .int hi t3]) (h1 : 1 ≤ len) (h4 : len ≤ 4)
    (hb : KBw.bInts b = ks) (hk : ks.length ≤ 100)
    (h : ∀ h' tk', s.heap.StaysIn h' → Q (.bool (holdsB len lo hi ks)) { s with heap := h', toks := tk' }) :
    wpAny (model PQ w) (AQ dp un fr gd) (call (.ref 196) [.ref a, .bytes b tb]) Q E s := by
  k_with_none
  k_with "binaryOp FloorDiv int int" => (k_here; (with_reducible show wpAny _ _ (binaryOp _ (Value.int _ _) (Value.int (256 ^ _) _)) _ _ _); refine PyProof.Rows.floordiv_int (Int.ne_of_gt (pw_bd (by omega)).1) ?_ (Or.inl (PyProof.noPylong_small (pw_nat (by omega)))))
  k_dflt (refine enterP (binds := [(Str.ofString "space", .ref a), (Str.ofString "octets", .bytes b tb)]) X T (by k_is) (by k_is) ?room (BindsTo.of_eq rfl) (locs rfl) ?_ rfl rfl rfl (by decide))
  case room => exact (by dsimp only; omega)
  intro QF hQF L' h₁ F N
  k_with "pyIter ref" => k_search (fun (pre : List Int) => ∀ k : Nat, k < pre.length → fitB len lo hi ks k = true)
  k_with "state" => first | exact hs_start | exact hs_step (by assumption) (by assumption) (by assumption) (by assumption) (by assumption) (by assumption)
  repeat' (first | (k_unfold; (try dsimp only)) | (walk1 <;> try dsimp only) | (dsimp only; walk1) | fail "no step")
  · rename Fr _ _ _ _ => kF
    exact hQF _ _ (ret_bool h (hs_short (by assumption)) kF.keep)
  · rename Fr _ _ _ _ => kF
    exact hQF _ _ (ret_bool h (hs_fail (by assumption) (by assumption) (.inr (by assumption)) (by assumption)) kF.keep)
  · rename Fr _ _ _ _ => kF
    exact hQF _ _ (ret_bool h (hs_fail (by assumption) (by assumption) (.inl (by assumption)) (by assumption)) kF.keep)
  · rename Fr _ _ _ _ => kF
    exact hQF _ _ (ret_bool h (hs_all h1 (by assumption)) kF.keep)
end
-- P4
section
def PtEnd (h₀ : Heap) (L : Addr) (J : (Str → Option Value) → List (Addr × Obj) → Prop) (I : Addr) (oI : Obj) (s₁ s₂ : Shared) : Prop :=
  ∃ h' tk m' nx, s₂ = { s₁ with heap := h', toks := tk } ∧ Fr h₀ L h' m' ∧ News h₀ L h' ((I, oI) :: nx) ∧ (∀ p ∈ nx, p.1 ≠ I) ∧ J m' nx
def PtPost (h₀ : Heap) (L : Addr) (J : (Str → Option Value) → List (Addr × Obj) → Prop) (I : Addr) (oI : Obj) (s₁ : Shared) (Q : Flow → Shared → Prop) (f : Flow) (s₂ : Shared) : Prop :=
  match f with
  | .ret v => Q (.ret v) s₂
  | .brk => Q .next s₂
  | _ => PtEnd h₀ L J I oI s₁ s₂
section
variable {prog : Program} {w : World} {A : Around} {E : Value → Shared → Prop} {s : Shared}
/-- a for with a tuple of names over a list that stands still -/
theorem pt_iter {env : Env} {h₀ : Heap} {elts : List Expr} {kk : Nat} {tp : Pos} {body : List Stmt} {Q : Flow → Shared → Prop} {l : Addr} {vs : List Value} {obj : Obj} {m₀ : Str → Option Value} {news : List (Addr × Obj)} (J : Nat → (Str → Option Value) → List (Addr × Obj) → Prop)
    (hh : A.handled = none) (hobj : obj.cls = .type "list" ∧ ∃ n, obj.data = .seq vs.toArray n) (hsrc : ∀ i m nx, J i m nx → h₀.get? l = some obj ∨ (l, obj) ∈ nx)
    (F : Fr h₀ env.locals s.heap m₀) (N : News h₀ env.locals s.heap news) (hj : J 0 m₀ news)
    (turn : ∀ i v m₁ nx I oI h tk, vs[i]? = some v → J i m₁ nx → (∀ p ∈ nx, p.1 ≠ I) → Fr h₀ env.locals h m₁ → News h₀ env.locals h ((I, oI) :: nx) →
      ∀ QT : Flow → Shared → Prop, (∀ s', PtEnd h₀ env.locals (J (i + 1)) I oI { s with heap := h, toks := tk } s' → QT .next s') →
      wpAny (model prog w) A (assign (.Tuple elts kk tp) env v) (fun _ s₃ => wpAny (model prog w) A (execs body env) QT E s₃) E { s with heap := h, toks := tk })
    (done : ∀ m₁ nx h tk, J vs.length m₁ nx → Fr h₀ env.locals h m₁ → News h₀ env.locals h nx → Q .next { s with heap := h, toks := tk }) :
    wpAny (model prog w) A (pyIter (.ref l)) (fun it s₂ => TurnsAt prog w A h₀ env (.Tuple elts kk tp) body Q E it s₂) E s := by
  have look : ∀ {h : Heap} {m : Str → Option Value} {nx : List (Addr × Obj)} {i : Nat}, J i m nx → Fr h₀ env.locals h m → News h₀ env.locals h nx → h.get? l = some obj := fun hJ F N => by
    rcases hsrc _ _ _ hJ with e | e
    · exact F.keep _ _ e
    · exact (N _ e).1
  have hol := look hj F N
  have hls : s.heap.IsList l vs.toArray := ⟨obj, hol, hobj⟩
  have hlt : l < s.heap.objs.size := Heap.lt_size hol
  have hne : l ≠ s.heap.objs.size := Nat.ne_of_lt hlt
  refine wpAny_pyIter_list hls ?_
  have W := Walks.list (prog := prog) (w := w) hh s.heap.objs.size l hne vs.toArray
  have hlen : vs.toArray.size = vs.length := by simp
  rw [hlen] at W
  have W' := KTurns.ofWalks (target := .Tuple elts kk tp) W fun i v s' Q' E' st hQ => by
    cases v with
    | ref T => exact wpAny_letOwnedTupleGo_listiter st.1 hQ
    | _ => exact wpAny_pure hQ
  refine ⟨_, _, _, vs.length, _, _, _, m₀, news, J, rfl, W', ?_, ?_, ?_, ⟨⟨_, Heap.get?_push_size _ rfl, rfl, rfl⟩, hls.push _⟩, F.push _, (fun p hp => ⟨Heap.get?_push_of_some _ (N p hp).1, (N p hp).2⟩), hj, ?_, ?_⟩
  · intro hm
    rcases List.mem_cons.mp hm with e | hm
    · exact absurd F.ns.lt (e ▸ Nat.lt_irrefl _)
    · have e := List.mem_singleton.mp hm
      rcases hsrc _ _ _ hj with q | q
      · have := Heap.lt_size q
        exact absurd (Nat.lt_of_lt_of_le this F.above) (e ▸ Nat.lt_irrefl _)
      · exact (N _ q).2.1 e.symm
  · intro b hb
    rw [List.mem_singleton.mp hb]
    exact next_is_new F
  · intro p hp hI
    exact absurd (Heap.lt_size (N p hp).1) ((List.mem_singleton.mp hI) ▸ Nat.lt_irrefl _)
  · intro i v m₁ nx h tk own hin hP hJ hoff hown hget hfp hst F₁ N₁
    have hP' : vs[i]? = some v := by simpa using hP
    have hI0 : h₀.get? s.heap.objs.size = none := next_is_new F
    obtain ⟨⟨oI, hoI, _⟩, _⟩ := id hst
    have hIown : (s.heap.objs.size, oI) ∈ own := hfp _ (List.mem_cons.mpr (.inl rfl)) hI0 _ hoI
    have hoff' : ∀ p ∈ nx, p.1 ≠ s.heap.objs.size := fun p hp e => hoff p hp (List.mem_singleton.mpr e)
    have N₂ : News h₀ env.locals h ((s.heap.objs.size, oI) :: nx) := fun p hp => by
      rcases List.mem_cons.mp hp with rfl | hp
      · exact N₁ _ (List.mem_append.mpr (.inl hIown))
      · exact N₁ _ (List.mem_append.mpr (.inr hp))
    have hlo : h.get? l = some obj := look hJ F₁ fun p hp => N₁ p (List.mem_append.mpr (.inr hp))
    refine wpAny_mono (turn i v m₁ nx s.heap.objs.size oI h tk hP' hJ hoff' F₁ N₂ (PtPost h₀ env.locals (J (i + 1)) s.heap.objs.size oI { s with heap := h, toks := tk } Q) fun _ hq => hq) (fun _ s₃ h₃ => wpAny_mono h₃ (fun f s₄ p => ?_) fun _ _ e => e) fun _ _ e => e
    have fin : PtEnd h₀ env.locals (J (i + 1)) s.heap.objs.size oI { s with heap := h, toks := tk } s₄ →
        LoopStepU h₀ env.locals [s.heap.objs.size] own (J (i + 1)) { s with heap := h, toks := tk } .next s₄ := by
      rintro ⟨h', tk', m', nx', e, F', N', ho, hJ'⟩
      refine ⟨rfl, h', tk', m', nx', e, F', fun p hp => ?_, fun p hp hq => ho p hp (List.mem_singleton.mp hq), hJ'⟩
      rcases List.mem_append.mp hp with hp | hp
      · have hpo := N₁ p (List.mem_append.mpr (.inl hp))
        rcases List.mem_cons.mp (hown p hp) with e1 | e1
        · have : p = (s.heap.objs.size, oI) := Prod.ext e1 (by
            have := hpo.1
            rw [e1, hoI] at this
            exact (Option.some.inj this).symm)
          rw [this]
          exact N' _ (.head _)
        · have e2 := List.mem_singleton.mp e1
          have : p = (l, obj) := Prod.ext e2 (by
            have := hpo.1
            rw [e2, hlo] at this
            exact (Option.some.inj this).symm)
          rcases hsrc _ _ _ hJ' with q | q
          · have := hpo.2.2
            rw [e2, q] at this
            cases this
          · rw [this]
            exact N' _ (.tail _ q)
      · exact N' p (.tail _ hp)
    cases f with
    | ret v => exact .ret p
    | brk => exact .brk p
    | next => exact .next (fin p)
    | cont => exact .cont (fin p)
  · intro h' tk m' nx F' N' _ hJ
    exact done m' nx h' tk hJ F' N'
end
end
-- C8
section
noncomputable def downOf (xs : List (Int × Int)) : List Int := xs.flatMap fun x => codeOctets x.1 x.2
theorem down_walk (x y : Int) : List.map (fun k' => (y.fdiv (256 ^ (x - 1 - k').toNat)).fmod 256) (rangeKs 0 (x - 0).toNat) = codeOctets x y := by
  rw [show (x - 0).toNat = x.toNat by rw [Int.sub_zero]]
  refine List.map_congr_left fun k hk => ?_
  obtain ⟨h0, h1⟩ := mem_rangeKs hk
  rw [oct_eq h0 (by lia), octets_get h0 (by lia)]
structure DownJ (m₀ : Str → Option Value) (O c2 c1 : Addr) (xs : List (Int × Int)) (i : Nat) (m : Str → Option Value) (nx : List (Addr × Obj)) : Prop where
  em : m = m₀
  ex : ∃ ys n zs o2 o1 a2 a1, nx = [(O, W.listOf (List.toArray ys) n), (c2, o2), (c1, o1)] ∧ IntsAre ys zs ∧ zs = downOf (xs.take i) ∧ o2.data = .cell a2 ∧ o1.data = .cell a1
theorem downOf_in (xs : List (Int × Int)) : KBa.In (downOf xs) := by
  intro n hn
  obtain ⟨x, _, hx⟩ := List.mem_flatMap.mp hn
  exact codeOctets_in _ _ n hx
theorem downOf_len {xs : List (Int × Int)} (hok : ∀ x ∈ xs, 1 ≤ x.1 ∧ x.1 ≤ 4) : (downOf xs).length ≤ 4 * xs.length := by
  induction xs with
  | nil => simp [downOf]
  | cons x r ih =>
    have h1 := hok x List.mem_cons_self
    have h2 := ih fun y hy => hok y (List.mem_cons_of_mem _ hy)
    simp only [downOf, List.flatMap_cons, List.length_append, List.length_cons] at h2 ⊢
    rw [codeOctets_len]
    lia
theorem downOf_snoc {xs : List (Int × Int)} {i : Nat} {x : Int × Int} (h : xs[i]? = some x) : downOf (xs.take (i + 1)) = downOf (xs.take i) ++ codeOctets x.1 x.2 := by
  rw [List.take_add_one, h, Option.toList_some]
  simp [downOf]
set_option maxHeartbeats 1000000 in
theorem down_ct {w : World} {mean : ExcName → Option Value} {mg mb : Str → Option Value} {dp un : Nat} {fr : Option (List Env)} {gd : Option (List Code)} {s : Shared} {E Q : Value → Shared → Prop} {l : Addr} {vs : List Value} {xs : List (Int × Int)}
    (X : (hd.heap_39 w.params).In s.heap) (T : TQ mean mg mb s.heap) (hd : dp + 3 < recursionLimit) (hl : s.heap.IsList l vs.toArray) (hp : PrAt s.heap vs xs) (hok : ∀ x ∈ xs, 1 ≤ x.1 ∧ x.1 ≤ 4) (hn : xs.length ≤ 100)
    (h : ∀ r t h' tk', s.heap.StaysIn h' → KBw.bInts r = downOf xs → Q (.bytes r t) { s with heap := h', toks := tk' }) :
    wpAny (model PQ w) (AQ dp un fr gd) (call (.ref 189) [.ref l]) Q E s := by
  k_with_none
  k_with "ne" => (refine neN ?_; (try dsimp only); first | assumption | (refine Ne.symm ?_; assumption))
  k_with "binaryOp FloorDiv int int" => (k_here; (with_reducible show wpAny _ _ (binaryOp _ (Value.int _ _) (Value.int (256 ^ _) _)) _ _ _); refine PyProof.Rows.floordiv_int (Int.ne_of_gt (pw_bd (by lia)).1) ?_ (Or.inl (PyProof.noPylong_small (pw_nat (by lia)))))
  k_with "binaryOp Pow int int" => (k_here; (with_reducible refine pow_int_small ?kb1 ?kb2 ?kb3 ?_); (case kb1 => exact idx_lo (by assumption) (by assumption)); (case kb2 => l_bnd); (case kb3 => decide))
  k_with "exec For Tuple Name cons nil" => (k_here; (with_reducible rename Fr _ _ _ _ => kF); k_dflt (refine For_turns kF ?_))
  k_with "pyIter ref" => ((with_reducible show wpAny _ _ (pyIter (Value.ref _)) (fun it s₂ => TurnsAt _ _ _ _ _ _ _ _ _ it s₂) _ _); refine Stop.mk ?_)
  have hvl := hp.length
  k_dflt (refine enterC (binds := [(Str.ofString "codes", .ref l)]) X T (by k_is) (by k_is) ?room (BindsTo.of_eq rfl) (by rfl) (by decide) ?_ rfl rfl rfl)
  case room => exact (by dsimp only; lia)
  intro QF hQF L' h₁ tk cells F N Y
  k_cells Y
  repeat' (first | (k_unfold; (try dsimp only)) | (walk1 <;> try dsimp only) | (dsimp only; walk1) | fail "no step")
  rename_i o2 o1 d2 d1 O h8 hlt h9 kN
  obtain ⟨obj, hob, hoc, no, hod⟩ := id hl
  unfold Stop
  k_dflt (refine pt_iter (DownJ _ O (L' + 1 + 1) (L' + 1) xs) rfl ⟨hoc, no, hod⟩ (fun _ _ _ _ => .inl hob) kF kN ⟨rfl, [], 0, [], o2, o1, _, _, rfl, .nil, by simp [downOf], d2, d1⟩ ?_ ?_)
  · intro i v m₁ nx I oI h tk hv hJ hI F9 N9 QT hQT
    obtain ⟨em, ys0, n, zs, o2', o1', a2, a1, rfl, hys, hzs, e2, e1⟩ := hJ
    subst em
    obtain ⟨ta, x, y, t, u, rfl, hx, htu⟩ := hp.get hv
    have hxm := hok (x, y) (List.mem_of_getElem? hx)
    have hI0 := hI _ (.head _)
    have hI2 := hI _ (.tail _ (.head _))
    have hI1 := hI _ (.tail _ (.tail _ (.head _)))
    dsimp only at hI0 hI1 hI2 hxm
    change Fr s.heap L' h _ at F9
    change News s.heap L' h _ at N9
    obtain ⟨hx1, hx4⟩ := hxm
    clear kF kN
    repeat' (first | (k_unfold; (try dsimp only)) | (walk1 <;> try dsimp only) | (dsimp only; walk1) | fail "no step")
    rename Fr _ _ _ _ => kF
    rename News _ _ _ _ => kN
    rename IntsAre _ (List.map _ _) => kI
    rename_i hL8 D2 h2 tk2 ho1
    obtain ⟨_, _, _, _⟩ := ho1
    rw [down_walk] at kI
    have hyl := kI.length
    rw [codeOctets_len] at hyl
    have hzl := hys.length
    have hzl2 : zs.length ≤ 400 := by
      rw [hzs]
      refine Nat.le_trans (downOf_len fun x hx => hok x (List.mem_of_mem_take hx)) ?_
      rw [List.length_take]; lia
    k_dflt (refine kl_extend (its := ys0.toArray) (its2 := ys.toArray) (l := ys0 ++ ys) kF kN (by k_mem) (by simp) (by simp only [List.toList_toArray]; lia) (by k_upd) (by simp only [List.size_toArray, Builtin.List.listTooLong, sizeLine_eq, gt_iff_lt, Bool.and_eq_true, decide_eq_true_eq, not_and]; lia) (by simp only [List.toList_toArray, sizeLine_eq]; lia) (by simp only [List.size_toArray, sizeLine_eq]; lia) ?_)
    intro h3 F3 N3
    dsimp only
    refine wpAny_execs_nil ?_
    refine hQT _ ⟨h3, _, _, [_, _, _], rfl, F3, fun q hq => N3 q (List.mem_cons_of_mem _ hq), ?_, rfl, ys0 ++ ys, n + 1, zs ++ codeOctets x y, _, _, _, _, rfl, IntsAre.append hys kI, ?_, by assumption, by assumption⟩
    · intro q hq
      simp only [List.mem_cons, List.not_mem_nil, or_false] at hq
      rcases hq with rfl | rfl | rfl
      · exact hI0
      · exact hI2
      · exact hI1
    · rw [hzs, downOf_snoc hx]
  · intro m₁ nx h4 tk hJ F9 N9
    obtain ⟨em, ys0, n, zs, o2', o1', a2, a1, rfl, hys, hzs, e2, e1⟩ := hJ
    subst em
    rw [hvl, List.take_length] at hzs
    change Fr s.heap L' h4 _ at F9
    change News s.heap L' h4 _ at N9
    clear kF kN
    repeat' (first | (k_unfold; (try dsimp only)) | (walk1 <;> try dsimp only) | (dsimp only; walk1) | fail "no step")
    subst hzs
    have hdl := downOf_len hok
    k_dflt (refine KBa.make_K F9 N9 rfl (News.isList N9 (by k_mem)) hys (downOf_in xs) (by lia) ?_)
    intro h' t' k F' N' hin
    exact hQF _ _ (h _ _ _ _ F'.keep (KBa.ints_make hin))
end
-- B2
section
theorem enterL {prog : Program} {w : World} {K : Frag} {p : Program} {loose : List Str} {mean : ExcName → Option Value} {mg mb : Str → Option Value} {A : Around} {s : Shared} {h₀ : Heap} {E Q : Value → Shared → Prop}
    {name qual : Str} {params : Arguments} {body : List Stmt} {scope : Scope} {dV kV doc pm cdv ct oc : Value} {an od : Option Addr} {osl : Array (Option Value)} {f : Addr} {pos : List Value} {binds : List (Str × Value)} {news : List (Addr × Obj)}
    (st : h₀.StaysIn s.heap) (X : K.In h₀) (T : Top p loose mean mg mb h₀) (hn : ∀ x ∈ news, s.heap.get? x.1 = some x.2 ∧ h₀.get? x.1 = none)
    (ho : K.lookup f = some ⟨oc, od, .func (fnOf name qual params body scope dV kV doc pm an cdv ct), osl⟩) (hcd : codeIn K cdv qual = true) (hroom : A.depth < recursionLimit)
    (hbind : BindsTo s (fnOf name qual params body scope dV kV doc pm an cdv ct) ⟨pos, []⟩ binds) (hloc : ∀ y ∈ binds, scope.names.lookup y.1 = some .local)
    (h : ∀ QF : Flow → Shared → Prop, (∀ v s', Q v s' → QF (.ret v) s') → ∀ g L' h₁, (∀ b o, (∀ x ∈ news, b ≠ x.1) → s.heap.get? b = some o → g.get? b = some o) → K.In g → Top p loose mean mg mb g → Fr g L' h₁ (fun y => binds.reverse.lookup y) → News g L' h₁ news → (∀ x ∈ news, x.1 < L') →
      wpAny (model prog w) (A.deeper (envOf qual scope L' f cdv)) (execs body (envOf qual scope L' f cdv))
        QF (fun _ _ => False)
        { s with heap := h₁, toks := s.toks + binds.length })
    (hco : scope.isCoroutine = false) (hgen : scope.isGenerator = false) (hk : scope.kind = .function)
    (hcell : ∀ x ∈ scope.names, x.2 ≠ .cell) : wpAny (model prog w) A (call (.ref f) pos) Q E s := by
  refine wpAny_call ?_
  refine codeAny_call_def (fd := fnOf name qual params body scope dV kV doc pm an cdv ct) (body := body) (binds := binds) hroom (st _ _ (X _ _ ho)) rfl (T.nolimit.keeps st) (codeRec_of (X.keeps st) hcd) rfl hbind hcell hloc (fun h₁ hns hk₁ => ?_) hco hgen hk
  have hs : ∀ b o, (∀ x ∈ news, b ≠ x.1) → s.heap.get? b = some o → (hideAll s.heap (news.map Prod.fst)).get? b = some o := fun b o hb e => hideAll_get _ e fun q => by
    obtain ⟨x, hx, rfl⟩ := List.mem_map.mp q
    exact hb x hx rfl
  have sg : h₀.StaysIn (hideAll s.heap (news.map Prod.fst)) := fun b o e => hs b o (fun x hx q => by
    have := (hn x hx).2
    rw [← q, e] at this
    cases this) (st b o e)
  refine wpAny_mono (h (fun fl s' => Q (match fl with | .ret v => v | _ => .none) s') (fun _ _ hq => hq) (hideAll s.heap (news.map Prod.fst)) _ h₁ hs (X.keeps sg) (T.keeps sg) ⟨hns, fun b o e => hk₁ b o (of_hideAll _ e), Nat.le_of_eq (hideAll_size _ _)⟩ (fun x hx => ⟨hk₁ _ _ (hn x hx).1, Nat.ne_of_lt (Heap.lt_size (hn x hx).1), hideAll_none _ (List.mem_map_of_mem hx)⟩) (fun x hx => Heap.lt_size (hn x hx).1)) (fun fl s' hl => ?_) fun _ _ x => x.elim
  exact hl
/-- the pot of the law: its cells, its state, its place -/
structure Pot where
  vs : List Value
  ns : List Int
  st : Int
  t1 : Tok
  pl : Int
  t2 : Tok
  n : Nat
  n2 : Nat
noncomputable def Pot.led (c : Pot) (p q : Addr) : List (Addr × Obj) := [(p, W.listOf [.ref q, .int c.st c.t1, .int c.pl c.t2].toArray c.n), (q, W.listOf c.vs.toArray c.n2)]
structure Pot.Ok (c : Pot) (k : Int) : Prop where
  are : IntsAre c.vs c.ns
  len : c.ns.length ≤ 63
  st0 : 0 ≤ c.st
  st1 : c.st < 2147483647
  pl0 : 0 ≤ c.pl
  pl1 : c.pl ≤ k
end
-- C9
section
inductive DrawJ (s : Shared) (g : Heap) (L p q : Addr) (c : Pot) (m : Str → Option Value) : Shared → Prop
  | mk (h' : Heap) (tk' : Nat) (v1 v2 : Option Value) (t9 : Tok) (n9 : Nat) : Fr g L h' (fun y => if y = Str.ofString "here" then v1 else if y = Str.ofString "spot" then v2 else if y = Str.ofString "place" then some (.int c.pl c.t2) else m y) →
    News g L h' [(p, W.listOf #[.ref q, .int c.st c.t1, .int (c.pl + 1) t9] n9), (q, W.listOf c.vs.toArray c.n2)] → DrawJ s g L p q c m { s with heap := h', toks := tk' }
theorem two_over (M : Str → Option Value) (a b : Str) : (fun y => if y = a then M a else if y = b then M b else M y) = M := by
  funext y
  by_cases h1 : y = a
  · subst h1; simp
  · by_cases h2 : y = b
    · subst h2; simp [h1]
    · simp [h1, h2]
theorem draw_end {s : Shared} {g h' : Heap} {L' : Addr} {m : Str → Option Value} {Q : Value → Shared → Prop} {p q : Addr} {c : Pot} {k lim d : Int} {t : Tok} {tk' : Nat}
    (h : ∀ (c' : Pot) d t h' tk', c'.Ok (k + 1) → 0 ≤ d → d < lim → (∀ b o, b ≠ p → b ≠ q → s.heap.get? b = some o → h'.get? b = some o) → (∀ x ∈ c'.led p q, h'.get? x.1 = some x.2) → Q (.int d t) { s with heap := h', toks := tk' })
    (hg : ∀ b o, (∀ x ∈ c.led p q, b ≠ x.1) → s.heap.get? b = some o → g.get? b = some o) (F : Fr g L' h' m) {vs : List Value} {st pl : Int} {t1 t2 : Tok} {n n2 : Nat} (N : News g L' h' [(p, W.listOf #[.ref q, .int st t1, .int pl t2] n), (q, W.listOf vs.toArray n2)]) {ns : List Int} (i : IntsAre vs ns) (ok : ns.length ≤ 63 ∧ (0 ≤ st ∧ st < 2147483647) ∧ 0 ≤ pl ∧ pl ≤ k + 1) (h0 : 0 ≤ d) (h1 : d < lim) : Q (.int d t) { s with heap := h', toks := tk' } := by
  refine h ⟨vs, ns, st, t1, pl, t2, n, n2⟩ d t h' tk' ⟨i, ok.1, ok.2.1.1, ok.2.1.2, ok.2.2.1, ok.2.2.2⟩ h0 h1 (fun b o hp hq e => F.keep b o (hg b o (fun x hx => ?_) e)) fun x hx => (N x hx).1
  unfold Pot.led at hx
  simp only [List.mem_cons, List.not_mem_nil, or_false] at hx
  rcases hx with rfl | rfl
  · exact hp
  · exact hq
set_option maxHeartbeats 1000000 in
theorem draw_ct {w : World} {mean : ExcName → Option Value} {mg mb : Str → Option Value} {dp un : Nat} {fr : Option (List Env)} {gd : Option (List Code)} {s : Shared} {h₀ : Heap} {E Q : Value → Shared → Prop} {p q : Addr} {c : Pot} {k lim : Int} {tl : Tok}
    (st : h₀.StaysIn s.heap) (X : (hd.heap_39 w.params).In h₀) (T : TQ mean mg mb h₀) (hd : dp + 1 < recursionLimit) (hn : ∀ x ∈ c.led p q, s.heap.get? x.1 = some x.2 ∧ h₀.get? x.1 = none) (hpq : p ≠ q) (hc : c.Ok k) (hk : k ≤ 1000) (hl0 : 1 ≤ lim) (hl1 : lim ≤ 16)
    (h : ∀ (c' : Pot) d t h' tk', c'.Ok (k + 1) → 0 ≤ d → d < lim → (∀ b o, b ≠ p → b ≠ q → s.heap.get? b = some o → h'.get? b = some o) → (∀ x ∈ c'.led p q, h'.get? x.1 = some x.2) → Q (.int d t) { s with heap := h', toks := tk' }) :
    wpAny (model PQ w) (AQ dp un fr gd) (call (.ref 177) [.ref p, .int lim tl]) Q E s := by
  k_with_none
  k_dflt (refine enterL (binds := [(Str.ofString "pot", .ref p), (Str.ofString "limit", .int lim tl)]) st X T hn (by k_is) (by k_is) ?room (BindsTo.of_eq rfl) (locs rfl) ?_ rfl rfl rfl (by decide))
  case room => exact (by dsimp only; omega)
  intro QF hQF g L' h₁ hg Xg Tg F N hL
  obtain ⟨hi, hlen, hs0, hs1, hp0, hp1⟩ := hc
  have hpq' := neN hpq
  unfold Pot.led at N
  clear st X T
  have hvl := hi.length
  refine execs_split (DrawJ s g L' p q c (fun y => [(Str.ofString "pot", Value.ref p), (Str.ofString "limit", Value.int lim tl)].reverse.lookup y)) 3 ?_ ?_
  · intro QT hQT hQR
    dsimp only [List.take_succ_cons, List.take_zero]
    repeat' (first | (k_unfold; (try dsimp only)) | (walk1 <;> try dsimp only) | (dsimp only; walk1) | fail "no step")
    · rename Fr _ _ _ _ => kF
      rename News _ _ _ _ => kN
      refine hQR _ _ (hQF _ _ (draw_end h hg kF kN (by assumption) ⟨by omega, ⟨hs0, hs1⟩, by omega, by omega⟩ (fmod_lo _ (by omega)) (fmod_hi _ (by omega))))
    · rename Fr _ _ _ _ => kF
      rename News _ _ _ _ => kN
      exact hQT _ (.mk _ _ _ _ _ _ kF kN)
    · rename Fr _ _ _ _ => kF
      rename News _ _ _ _ => kN
      rw [← two_over (fun y => if y = Str.ofString "place" then some (Value.int c.pl c.t2) else List.lookup y [(Str.ofString "pot", Value.ref p), (Str.ofString "limit", Value.int lim tl)].reverse) (Str.ofString "here") (Str.ofString "spot")] at kF
      exact hQT _ (.mk _ _ _ _ _ _ kF kN)
  · intro s' hs'
    obtain ⟨h', tk', v1, v2, t9, n9, F9, N9⟩ := hs'
    clear F N
    dsimp only [List.drop]
    repeat' (first | (k_unfold; (try dsimp only)) | (walk1 <;> try dsimp only) | (dsimp only; walk1) | fail "no step")
    rename Fr _ _ _ _ => kF
    rename News _ _ _ _ => kN
    exact hQF _ _ (draw_end h hg kF kN hi ⟨by omega, ⟨fmod_lo _ (by decide), fmod_hi _ (by decide)⟩, by omega, by omega⟩ (fmod_lo _ (by omega)) (fmod_hi _ (by omega)))
end
-- C10
section
noncomputable def Pot.po (c : Pot) (q : Addr) : Obj := W.listOf [.ref q, .int c.st c.t1, .int c.pl c.t2].toArray c.n
noncomputable def Pot.qo (c : Pot) : Obj := W.listOf c.vs.toArray c.n2
theorem Pot.led_eq (c : Pot) (p q : Addr) : c.led p q = [(p, c.po q), (q, c.qo)] := rfl
theorem draw_K {w : World} {mean : ExcName → Option Value} {mg mb : Str → Option Value} {dp un : Nat} {fr : Option (List Env)} {gd : Option (List Code)} {s : Shared} {g : Heap} {L : Addr} {m : Str → Option Value} {rest : List (Addr × Obj)} {E Q : Value → Shared → Prop} {p q : Addr} {c : Pot} {k lim : Int} {tl : Tok}
    (F : Fr g L s.heap m) (X : (hd.heap_39 w.params).In g) (T : TQ mean mg mb g) (N : News g L s.heap ((p, c.po q) :: (q, c.qo) :: rest)) (hc : c.Ok k) (hd : dp + 1 < recursionLimit) (hpq : p ≠ q) (hr : ∀ x ∈ rest, x.1 ≠ p ∧ x.1 ≠ q) (hk : k ≤ 1000) (hl0 : 1 ≤ lim) (hl1 : lim ≤ 16)
    (h : ∀ (c' : Pot) d t h' tk', c'.Ok (k + 1) → 0 ≤ d → d < lim → Fr g L h' m → News g L h' ((p, c'.po q) :: (q, c'.qo) :: rest) → Q (.int d t) { s with heap := h', toks := tk' }) :
    wpAny (model PQ w) (AQ dp un fr gd) (call (.ref 177) [.ref p, .int lim tl]) Q E s := by
  have hp := N (p, c.po q) (.head _)
  have hq := N (q, c.qo) (.tail _ (.head _))
  refine draw_ct (c := c) (q := q) F.keep X T hd (fun x hx => ?_) hpq hc hk hl0 hl1 fun c' d t h' tk' ok h0 h1 keep hc' => ?_
  · rw [Pot.led_eq] at hx
    simp only [List.mem_cons, List.not_mem_nil, or_false] at hx
    rcases hx with rfl | rfl
    · exact ⟨hp.1, hp.2.2⟩
    · exact ⟨hq.1, hq.2.2⟩
  · refine h c' d t h' tk' ok h0 h1 ⟨F.ns.at' fun o e => keep L o (Ne.symm hp.2.1) (Ne.symm hq.2.1) e, fun b o e => ?_, F.above⟩ fun x hx => ?_
    · refine keep b o ?_ ?_ (F.keep b o e)
      · rintro rfl; rw [hp.2.2] at e; cases e
      · rintro rfl; rw [hq.2.2] at e; cases e
    · rcases List.mem_cons.mp hx with rfl | hx
      · exact ⟨hc' _ (by rw [Pot.led_eq]; exact .head _), hp.2⟩
      · rcases List.mem_cons.mp hx with rfl | hx
        · exact ⟨hc' _ (by rw [Pot.led_eq]; exact .tail _ (.head _)), hq.2⟩
        · have z := N x (.tail _ (.tail _ hx))
          exact ⟨keep _ _ (hr x hx).1 (hr x hx).2 z.1, z.2⟩
theorem Pot.Ok.mono {c : Pot} {a b : Int} (h : c.Ok a) (hl : a ≤ b) : c.Ok b := ⟨h.are, h.len, h.st0, h.st1, h.pl0, Int.le_trans h.pl1 hl⟩
structure SpSt where
  c : Pot
  lo : Int
  tlo : Tok
  hi : Int
  thi : Tok
noncomputable abbrev spLed (p q : Addr) (c : SpSt) : List (Addr × Obj) := [(p, c.c.po q), (q, c.c.qo)]
noncomputable abbrev spPs (c : SpSt) : List (Str × Value) := [(Str.ofString "low", .int c.lo c.tlo), (Str.ofString "high", .int c.hi c.thi)]
abbrev spInv (k : Int) (pre : List Int) (c : SpSt) : Prop := c.c.Ok (k + 1 + 2 * (pre.length : Int))
theorem sp_loop {prog : Program} {w : World} {A : Around} {E : Value → Shared → Prop} {s : Shared} {env : Env} {h₀ : Heap} {body : List Stmt} {Q : Flow → Shared → Prop} {r p q : Addr} {b₀ : Int} {t₀ u₀ v₀ t1 t2 : Tok} {m₀ : Str → Option Value} {c : Pot} {k : Int}
    (hh : A.handled = none) (hr : IsRange s.heap r 0 b₀ 1 t₀ u₀ v₀) (hb0 : 0 ≤ b₀) (hb : b₀ ≤ 4) (F : Fr h₀ env.locals s.heap m₀) (N : News h₀ env.locals s.heap [(p, c.po q), (q, c.qo)]) (hl : m₀ (Str.ofString "low") = some (.int 0 t1)) (hi : m₀ (Str.ofString "high") = some (.int 0 t2)) (hc : c.Ok (k + 1))
    (turn : ∀ (c : Pot) (lo hi : Int) (tlo thi : Tok) (pre : List Int) (n : Int) t (u : Str → Option Value) h tk own, (pre.length : Int) < b₀ → (∀ x ∈ own, x.1 ≠ p ∧ x.1 ≠ q) → c.Ok (k + 1 + 2 * (pre.length : Int)) →
      Fr h₀ env.locals h (fun y => if y = Str.ofString "place" then some (.int n t) else if y = Str.ofString "low" then some (.int lo tlo) else if y = Str.ofString "high" then some (.int hi thi) else if [Str.ofString "first"].contains y then u y else m₀ y) → News h₀ env.locals h ((p, c.po q) :: (q, c.qo) :: own) →
      ∀ QT : Flow → Shared → Prop, (∀ s', InvPostN h₀ env.locals (KstS (spLed p q) spPs (fun _ => True) (Str.ofString "place") [Str.ofString "first"] m₀ (spInv k) (pre ++ [n])) own [p, q] { s with heap := h, toks := tk } Q .next s' → QT .next s') →
      wpAny (model prog w) A (execs body env) QT E { s with heap := h, toks := tk })
    (done : ∀ (c : Pot) (lo hi : Int) (tlo thi : Tok) (u : Str → Option Value) h tk, c.Ok (k + 9) →
      Fr h₀ env.locals h (fun y => if y = Str.ofString "place" then u y else if y = Str.ofString "low" then some (.int lo tlo) else if y = Str.ofString "high" then some (.int hi thi) else if [Str.ofString "first"].contains y then u y else m₀ y) → News h₀ env.locals h [(p, c.po q), (q, c.qo)] → Q .next { s with heap := h, toks := tk }) :
    wpAny (model prog w) A (pyIter (.ref r)) (fun it s₂ => LoopAtV prog w A h₀ env (Str.ofString "place") body Q E it s₂) E s := by
  refine kst_range (σ := SpSt) (n := (b₀ - 0).toNat) (spLed p q) spPs (fun _ => True) [Str.ofString "first"] (spInv k) ⟨c, 0, t1, 0, t2⟩ hh hr (small_one (by omega) (by omega) (by omega) (by omega)) (rangeSize_nat _ _) F N trivial ?_ (hc.mono (by simp)) ?_ ?_
  · intro x hx
    simp only [List.mem_cons, List.not_mem_nil, or_false] at hx
    rcases hx with rfl | rfl
    · exact hl
    · exact hi
  · rintro ⟨c, lo, tlo, hi, thi⟩ pre n t u h tk own hn hlt hoff _ hp F9 N9
    refine turn c lo hi tlo thi pre n t u h tk own (by omega) (fun x hx => ⟨hoff x hx p (by simp), hoff x hx q (by simp)⟩) hp F9 N9 (InvPostN h₀ env.locals (KstS (spLed p q) spPs (fun _ => True) (Str.ofString "place") [Str.ofString "first"] m₀ (spInv k) (pre ++ [n])) own [p, q] { s with heap := h, toks := tk } Q) fun _ hq => hq
  · rintro ⟨c, lo, tlo, hi, thi⟩ u h tk _ hp F9 N9
    refine done c lo hi tlo thi u h tk (hp.mono ?_) F9 N9
    rw [rangeKs_length]
    omega
theorem sp_end {h₀ h' : Heap} {L p q : Addr} {m₀ m' : Str → Option Value} {own : List (Addr × Obj)} {s : Shared} {k n lo hi j : Int} {tlo thi : Tok} {pre : List Int} {c : Pot} {tk' : Nat}
    (F : Fr h₀ L h' m') (N : News h₀ L h' ((p, c.po q) :: (q, c.qo) :: own)) (hc : c.Ok j) (hj : j ≤ k + 1 + 2 * (((pre ++ [n]).length : Nat) : Int)) (hl : m' (Str.ofString "low") = some (.int lo tlo)) (hi' : m' (Str.ofString "high") = some (.int hi thi))
    (hr : ∀ z, z ≠ Str.ofString "place" → z ≠ Str.ofString "low" → z ≠ Str.ofString "high" → z ≠ Str.ofString "first" → m' z = m₀ z) :
    InvEndN h₀ L (KstS (spLed p q) spPs (fun _ => True) (Str.ofString "place") [Str.ofString "first"] m₀ (spInv k) (pre ++ [n])) own [p, q] s { s with heap := h', toks := tk' } := by
  refine kst_end (⟨c, lo, tlo, hi, thi⟩ : SpSt) F N (fun x hx => ?_) (fun x hx => .tail _ (.tail _ hx)) rfl trivial ?_ ?_ (hc.mono hj)
  · simp only [List.mem_cons, List.not_mem_nil, or_false] at hx ⊢
    rcases hx with h | h <;> simp [h]
  · intro x hx
    simp only [List.mem_cons, List.not_mem_nil, or_false] at hx
    rcases hx with rfl | rfl
    · exact hl
    · exact hi'
  · intro z h1 h2 h3
    have h4 := h2 _ (.head _)
    have h5 := h2 _ (.tail _ (.head _))
    simp only [List.contains_cons, List.contains_nil, Bool.or_false, beq_eq_false_iff_ne, ne_eq] at h3
    exact hr z h1 h4 h5 h3
theorem space_end {s : Shared} {g h' : Heap} {L0 L' D : Addr} {m : Str → Option Value} {Q : Value → Shared → Prop} {p q : Addr} {c₀ c : Pot} {k len lo hi : Int} {t1 t2 t3 : Tok} {tk' : Nat}
    (h : ∀ (c' : Pot) (S : Sp) (a : Addr) (t1 t2 t3 : Tok) h' tk', c'.Ok (k + 9) → S.Ok → s.heap.get? a = none → h'.get? a = some (tupO [.int S.len t1, .int S.lo t2, .int S.hi t3]) → (∀ b o, b ≠ p → b ≠ q → s.heap.get? b = some o → h'.get? b = some o) → (∀ x ∈ c'.led p q, h'.get? x.1 = some x.2) → Q (.ref a) { s with heap := h', toks := tk' })
    (hg : ∀ b o, (∀ x ∈ c₀.led p q, b ≠ x.1) → s.heap.get? b = some o → g.get? b = some o) (hL : ∀ x ∈ c₀.led p q, x.1 < L0) (F : Fr g L' h' m)
    (N : News g L' h' [(D, tupO [.int len t1, .int lo t2, .int hi t3]), (p, c.po q), (q, c.qo)]) (l1 : p ≠ D ∧ q ≠ D) (hc : c.Ok (k + 9)) (hS : (Sp.mk len lo hi).Ok) : Q (.ref D) { s with heap := h', toks := tk' } := by
  have hq : ∀ b o, b ≠ p → b ≠ q → s.heap.get? b = some o → g.get? b = some o := fun b o h1 h2 e => hg b o (fun x hx => by
    unfold Pot.led at hx
    simp only [List.mem_cons, List.not_mem_nil, or_false] at hx
    rcases hx with rfl | rfl
    · exact h1
    · exact h2) e
  have nD := N _ (.head _)
  refine h c ⟨len, lo, hi⟩ D t1 t2 t3 h' tk' hc hS ?_ nD.1 (fun b o h1 h2 e => F.keep b o (hq b o h1 h2 e)) (fun x hx => ?_)
  · cases e : s.heap.get? D with
    | none => rfl
    | some o =>
      have := hq D o (Ne.symm l1.1) (Ne.symm l1.2) e
      rw [nD.2.2] at this
      cases this
  · rw [Pot.led_eq] at hx
    exact (N x (.tail _ hx)).1
set_option maxHeartbeats 1000000 in
theorem space_ct {w : World} {mean : ExcName → Option Value} {mg mb : Str → Option Value} {dp un : Nat} {fr : Option (List Env)} {gd : Option (List Code)} {s : Shared} {h₀ : Heap} {E Q : Value → Shared → Prop} {p q : Addr} {c : Pot} {k : Int}
    (st : h₀.StaysIn s.heap) (X : (hd.heap_39 w.params).In h₀) (T : TQ mean mg mb h₀) (hd : dp + 3 < recursionLimit) (hn : ∀ x ∈ c.led p q, s.heap.get? x.1 = some x.2 ∧ h₀.get? x.1 = none) (hpq : p ≠ q) (hc : c.Ok k) (hk : k ≤ 900)
    (h : ∀ (c' : Pot) (S : Sp) (a : Addr) (t1 t2 t3 : Tok) h' tk', c'.Ok (k + 9) → S.Ok → s.heap.get? a = none → h'.get? a = some (tupO [.int S.len t1, .int S.lo t2, .int S.hi t3]) → (∀ b o, b ≠ p → b ≠ q → s.heap.get? b = some o → h'.get? b = some o) → (∀ x ∈ c'.led p q, h'.get? x.1 = some x.2) → Q (.ref a) { s with heap := h', toks := tk' }) :
    wpAny (model PQ w) (AQ dp un fr gd) (call (.ref 184) [.ref p]) Q E s := by
  k_with_none
  k_with "call ref" => ((with_reducible show wpAny _ _ (call (Value.ref 177) [Value.ref _, Value.int _ _]) _ _ _); (with_reducible rename Fr _ _ _ _ => kF); (with_reducible rename News _ _ _ _ => kN); (with_reducible rename Top _ _ _ _ _ _ => kT); (with_reducible rename Frag.In _ _ => kX); (with_reducible rename Pot.Ok _ _ => kc); k_dflt (refine' draw_K kF kX kT kN kc ?hd (by assumption) ?hr ?hk ?h0 ?h1 ?_; (case hd => (dsimp only [AQ, Around.deeper, Around.in1]; omega)); (case hr => assumption); (case hk => omega); (case h0 => decide); (case h1 => decide)); intro c' d' t' h' tk' ok' h0' h1' F' N'; clear kc kF kN)
  k_with "pyIter ref" => refine Stop.mk ?_
  k_dflt (refine enterL (binds := [(Str.ofString "pot", .ref p)]) st X T hn (by k_is) (by k_is) ?room (BindsTo.of_eq rfl) (locs rfl) ?_ rfl rfl rfl (by decide))
  case room => exact (by dsimp only; omega)
  intro QF hQF g L' h₁ hg Xg Tg F N hL
  rw [Pot.led_eq] at N
  clear st X T
  have hr0 : ∀ x ∈ ([] : List (Addr × Obj)), x.1 ≠ p ∧ x.1 ≠ q := fun _ hx => nomatch hx
  repeat' (first | (k_unfold; (try dsimp only)) | (walk1 <;> try dsimp only) | (dsimp only; walk1) | fail "no step")
  rename Fr _ _ _ _ => kF
  rename News _ _ _ _ => kN
  rename IsRange _ _ _ _ _ _ _ _ => kR
  rename Pot.Ok _ _ => kc
  unfold Stop
  k_dflt (refine sp_loop rfl kR (by omega) (by omega) kF kN (by rfl) (by rfl) kc ?_ ?_)
  · intro c lo hi tlo thi pre n t u h9 tk9 own hlt hro hc9 F9 N9 QT hQT
    clear kF kN kc
    repeat' (first | (k_unfold; (try dsimp only)) | (walk1 <;> try dsimp only) | (dsimp only; walk1) | fail "no step")
    rename Fr _ _ _ _ => kF
    rename News _ _ _ _ => kN
    rename Pot.Ok _ _ => kc
    refine hQT _ ?_
    k_dflt (refine sp_end kF kN kc (by rw [List.length_append, List.length_singleton]; omega) (by rfl) (by rfl) ?_)
    intro z h1 h2 h3 h4
    have h5 : [Str.ofString "first"].contains z = false := by
      simp only [List.contains_cons, List.contains_nil, Bool.or_false, beq_eq_false_iff_ne, ne_eq]
      exact h4
    simp only [h1, h2, h3, h4, h5, if_false, Bool.false_eq_true]
  · intro c lo hi tlo thi u h9 tk9 hc9 F9 N9
    clear kF kN kc
    repeat' (first | (k_unfold; (try dsimp only)) | (walk1 <;> try dsimp only) | (dsimp only; walk1) | fail "no step")
    rename Fr _ _ _ _ => kF
    rename News _ _ _ _ => kN
    exact hQF _ _ (space_end h hg hL kF kN ⟨Nat.ne_of_lt (by omega), Nat.ne_of_lt (by omega)⟩ hc9 ⟨by dsimp only; omega, by dsimp only; omega⟩)
end
-- C11
section
theorem pot_end {s : Shared} {h' : Heap} {L' p q : Addr} {m : Str → Option Value} {Q : Value → Shared → Prop} {vs : List Value} {ns : List Int} {st : Int} {t1 t2 : Tok} {rest : List (Addr × Obj)} {tk' : Nat}
    (h : ∀ (c' : Pot) (p q : Addr) h' tk', c'.Ok 0 → p ≠ q → s.heap.StaysIn h' → s.heap.get? p = none → s.heap.get? q = none → (∀ x ∈ c'.led p q, h'.get? x.1 = some x.2) → Q (.ref p) { s with heap := h', toks := tk' })
    (F : Fr s.heap L' h' m) (N : News s.heap L' h' ((p, W.listOf #[.ref q, .int st t1, .int 0 t2] 0) :: (q, LCg.lst vs) :: rest)) (hi : IntsAre vs ns) (hl : ns.length ≤ 63) (h0 : 0 ≤ st) (h1 : st < 2147483647) (hpq : p ≠ q) : Q (.ref p) { s with heap := h', toks := tk' } := by
  have ha := N _ (.head _)
  have hb := N _ (.tail _ (.head _))
  refine h ⟨vs, ns, st, t1, 0, t2, 0, vs.length⟩ p q h' tk' ⟨hi, hl, h0, h1, Int.le_refl _, Int.le_refl _⟩ hpq F.keep ha.2.2 hb.2.2 ?_
  intro x hx
  unfold Pot.led at hx
  simp only [List.mem_cons, List.not_mem_nil, or_false] at hx
  rcases hx with rfl | rfl
  · exact ha.1
  · exact hb.1
set_option maxHeartbeats 1000000 in
theorem pot_ct {w : World} {mean : ExcName → Option Value} {mg mb : Str → Option Value} {dp un : Nat} {fr : Option (List Env)} {gd : Option (List Code)} {s : Shared} {E Q : Value → Shared → Prop} {l : Addr} {vs : List Value} {ns : List Int}
    (X : (hd.heap_39 w.params).In s.heap) (T : TQ mean mg mb s.heap) (hd : dp + 1 < recursionLimit) (hl : s.heap.IsList l vs.toArray) (hi : IntsAre vs ns) (hlen : ns.length ≤ 63)
    (h : ∀ (c' : Pot) (p q : Addr) h' tk', c'.Ok 0 → p ≠ q → s.heap.StaysIn h' → s.heap.get? p = none → s.heap.get? q = none → (∀ x ∈ c'.led p q, h'.get? x.1 = some x.2) → Q (.ref p) { s with heap := h', toks := tk' }) :
    wpAny (model PQ w) (AQ dp un fr gd) (call (.ref 170) [.ref l]) Q E s := by
  k_with_none
  k_dflt (refine enterP (binds := [(Str.ofString "script", .ref l)]) X T (by k_is) (by k_is) ?room (BindsTo.of_eq rfl) (locs rfl) ?_ rfl rfl rfl (by decide))
  case room => exact (by dsimp only; lia)
  intro QF hQF L' h₁ F N
  have hvl := hi.length
  k_with "pyIter ref" => k_state (fun pre st => 0 ≤ st ∧ st < 2147483647) "state"
  repeat' (first | (k_unfold; (try dsimp only)) | (walk1 <;> try dsimp only) | (dsimp only; walk1) | fail "no step")
  rename Fr _ _ _ _ => kF
  rename News _ _ _ _ => kN
  refine hQF _ _ (pot_end h kF kN (by assumption) ?_ (by assumption) (by assumption) (Ne.symm (Nat.ne_of_lt (by lia))))
  simp only [List.length_map, List.length_take]
  lia
end
-- P5
section
/-- spaces held by the ledger -/
inductive SpIn (tl : List (Addr × Obj)) : List Value → List Sp → Prop
  | nil : SpIn tl [] []
  | cons {a : Addr} {p : Sp} {t1 t2 t3 : Tok} {vs : List Value} {ps : List Sp} : (a, tupO [.int p.len t1, .int p.lo t2, .int p.hi t3]) ∈ tl → SpIn tl vs ps → SpIn tl (.ref a :: vs) (p :: ps)
theorem SpIn.mono {tl tl' : List (Addr × Obj)} (k : ∀ p ∈ tl, p ∈ tl') {vs : List Value} {xs : List Sp} (r : SpIn tl vs xs) : SpIn tl' vs xs := by
  induction r with
  | nil => exact .nil
  | cons h _ ih => exact .cons (k _ h) ih
theorem SpIn.snoc {tl : List (Addr × Obj)} {a : Addr} {p : Sp} {t1 t2 t3 : Tok} {vs : List Value} {xs : List Sp} (r : SpIn tl vs xs) (ht : (a, tupO [.int p.len t1, .int p.lo t2, .int p.hi t3]) ∈ tl) : SpIn tl (vs ++ [.ref a]) (xs ++ [p]) := by
  induction r with
  | nil => exact .cons ht .nil
  | cons h _ ih => exact .cons h ih
theorem SpIn.at {h₀ h : Heap} {L : Addr} {tl news : List (Addr × Obj)} (N : News h₀ L h news) (k : ∀ p ∈ tl, p ∈ news) {vs : List Value} {xs : List Sp} (r : SpIn tl vs xs) : SpAll h vs xs := by
  induction r with
  | nil => exact .nil
  | cons h _ ih => exact .cons (News.isTup N (k _ h)) ih
theorem space_K {w : World} {mean : ExcName → Option Value} {mg mb : Str → Option Value} {dp un : Nat} {fr : Option (List Env)} {gd : Option (List Code)} {s : Shared} {g : Heap} {L : Addr} {m : Str → Option Value} {rest : List (Addr × Obj)} {E Q : Value → Shared → Prop} {p q : Addr} {c : Pot} {k : Int}
    (F : Fr g L s.heap m) (X : (hd.heap_39 w.params).In g) (T : TQ mean mg mb g) (N : News g L s.heap ((p, c.po q) :: (q, c.qo) :: rest)) (hc : c.Ok k) (hd : dp + 3 < recursionLimit) (hpq : p ≠ q) (hr : ∀ x ∈ rest, x.1 ≠ p ∧ x.1 ≠ q) (hk : k ≤ 900)
    (h : ∀ (c' : Pot) (S : Sp) (a : Addr) (t1 t2 t3 : Tok) h' tk', c'.Ok (k + 9) → S.Ok → (@Ne Nat p a) → (@Ne Nat q a) → (∀ x ∈ rest, @Ne Nat x.1 a) → Fr g L h' m → News g L h' ((a, tupO [.int S.len t1, .int S.lo t2, .int S.hi t3]) :: (p, c'.po q) :: (q, c'.qo) :: rest) → Q (.ref a) { s with heap := h', toks := tk' }) :
    wpAny (model PQ w) (AQ dp un fr gd) (call (.ref 184) [.ref p]) Q E s := by
  have hp := N (p, c.po q) (.head _)
  have hq := N (q, c.qo) (.tail _ (.head _))
  refine space_ct (c := c) (q := q) F.keep X T hd (fun x hx => ?_) hpq hc hk fun c' S a t1 t2 t3 h' tk' ok hS ha ht keep hc' => ?_
  · rw [Pot.led_eq] at hx
    simp only [List.mem_cons, List.not_mem_nil, or_false] at hx
    rcases hx with rfl | rfl
    · exact ⟨hp.1, hp.2.2⟩
    · exact ⟨hq.1, hq.2.2⟩
  · have dead : ∀ {b : Addr} {o : Obj}, s.heap.get? b = some o → b ≠ a := fun e q => by
      rw [q, ha] at e
      cases e
    refine h c' S a t1 t2 t3 h' tk' ok hS (dead hp.1) (dead hq.1) (fun x hx => dead (N x (.tail _ (.tail _ hx))).1) ⟨F.ns.at' fun o e => keep L o (Ne.symm hp.2.1) (Ne.symm hq.2.1) e, fun b o e => ?_, F.above⟩ fun x hx => ?_
    · refine keep b o ?_ ?_ (F.keep b o e)
      · rintro rfl; rw [hp.2.2] at e; cases e
      · rintro rfl; rw [hq.2.2] at e; cases e
    · rcases List.mem_cons.mp hx with rfl | hx
      · refine ⟨ht, ?_, ?_⟩
        · rintro rfl
          obtain ⟨oL, a1, a2, hL, a3⟩ := F.ns
          rw [ha] at hL
          cases hL
        · cases e : g.get? a with
          | none => rfl
          | some o =>
            have := F.keep _ _ e
            rw [ha] at this
            cases this
      · rcases List.mem_cons.mp hx with rfl | hx
        · exact ⟨hc' _ (by rw [Pot.led_eq]; exact .head _), hp.2⟩
        · rcases List.mem_cons.mp hx with rfl | hx
          · exact ⟨hc' _ (by rw [Pot.led_eq]; exact .tail _ (.head _)), hq.2⟩
          · have z := N x (.tail _ (.tail _ hx))
            exact ⟨keep _ _ (hr x hx).1 (hr x hx).2 z.1, z.2⟩
section
variable {prog : Program} {w : World} {A : Around} {E : Value → Shared → Prop} {s : Shared}
/-- the turns of a comprehension that draws from the pot -/
theorem pc_rest {h₀ : Heap} {L : Addr} {m : Str → Option Value} {env : Env} {elt : Expr} {x : Str} {scope : Scope} {cl : List (Str × Addr)} {P : Nat → Value → Prop} {Fin : List Value → List (Addr × Obj) → Prop} {p q : Addr} {rest : List (Addr × Obj)} {n : Nat}
    (J : Nat → Pot → List Value → List (Addr × Obj) → Prop) {c₀ : Pot}
    (turn : ∀ i c v ys tl I oI C oC D m₂ h tk E', i < n → J i c ys tl → LCg.NsObj oC m₂ → m₂ x = some v → Fr h₀ L h m → News h₀ L h ((p, c.po q) :: (q, c.qo) :: (I, oI) :: (C, oC) :: (D, LCg.lst ys) :: (rest ++ tl)) → LCg.Off3 I C D ((p, c.po q) :: (q, c.qo) :: (rest ++ tl)) → ((@Ne Nat I C) ∧ (@Ne Nat I D) ∧ (@Ne Nat C D)) →
      ∀ QT : Value → Shared → Prop, (∀ y s', LCg.CompEnd h₀ L m { s with heap := h, toks := tk } I oI C oC D (LCg.lst ys) (fun _ => True) (fun y news' => ∃ c' tl', news' = (p, c'.po q) :: (q, c'.qo) :: (rest ++ tl') ∧ J (i + 1) c' (ys ++ [y]) tl') y s' → QT y s') →
      wpAny (model prog w) A (eval elt (compEnvC scope cl C env)) QT E' { s with heap := h, toks := tk })
    (h0 : J 0 c₀ [] [])
    (fin : ∀ c ys tl, J n c ys tl → Fin ys ((p, c.po q) :: (q, c.qo) :: (rest ++ tl))) : LCg.CompRest prog w A h₀ L m env elt x scope cl s (fun _ => True) P Fin n 0 [] ((p, c₀.po q) :: (q, c₀.qo) :: rest) := by
  have key : ∀ (j i : Nat) (c : Pot) (ys : List Value) (tl : List (Addr × Obj)), i + j = n → J i c ys tl → LCg.CompRest prog w A h₀ L m env elt x scope cl s (fun _ => True) P Fin j i ys ((p, c.po q) :: (q, c.qo) :: (rest ++ tl)) := by
    intro j
    induction j with
    | zero =>
      intro i c ys tl hi hy
      have e : i = n := by omega
      subst e
      exact LCg.CompRest.zero (fin c ys tl hy)
    | succ j ih =>
      intro i c ys tl hi hy
      refine LCg.CompRest.succ ?_
      intro v I oI C oC D m₂ h tk E' hv hC hx F N off ne
      refine wpAny_mono (turn i c v ys tl I oI C oC D m₂ h tk E' (by lia) hy hC hx F (fun z hz => N z ?_) off ne _ fun _ _ hq => hq) (fun y s₂ hq => ?_) fun _ _ e => e
      · exact pm1.mem_iff.mpr hz
      obtain ⟨h', tk', nw, e, F', N', off', hS', c', tl', rfl, hJ⟩ := hq
      exact ⟨h', tk', _, e, F', N', off', hS', ih (i + 1) _ _ _ (by lia) hJ⟩
  have := key n 0 c₀ [] [] (by lia) h0
  rwa [List.append_nil] at this
end
theorem pc_end {h₀ h' : Heap} {L I C D p q : Addr} {m : Str → Option Value} {s₁ : Shared} {oI oC oD : Obj} {tk i : Nat} {rest tl : List (Addr × Obj)} {c : Pot} {y : Value} {ys : List Value} {J : Nat → Pot → List Value → List (Addr × Obj) → Prop}
    (F : Fr h₀ L h' m) (N : News h₀ L h' ((p, c.po q) :: (q, c.qo) :: (I, oI) :: (C, oC) :: (D, oD) :: (rest ++ tl))) (off : LCg.Off3 I C D ((p, c.po q) :: (q, c.qo) :: (rest ++ tl))) (hJ : J (i + 1) c (ys ++ [y]) tl) :
    LCg.CompEnd h₀ L m s₁ I oI C oC D oD (fun _ => True) (fun y news' => ∃ c' tl', news' = (p, c'.po q) :: (q, c'.qo) :: (rest ++ tl') ∧ J (i + 1) c' (ys ++ [y]) tl') y { s₁ with heap := h', toks := tk } :=
  LCg.CompEnd.intro F N ((p, c.po q) :: (q, c.qo) :: (rest ++ tl)) (fun z hz => by
    exact pm1.mem_iff.mp hz) off trivial ⟨c, tl, rfl, hJ⟩
def SpJ (p q : Addr) (rest : List (Addr × Obj)) (k : Int) (i : Nat) (c : Pot) (ys : List Value) (tl : List (Addr × Obj)) : Prop :=
  c.Ok (k + 9 * (i : Int)) ∧ (∀ x ∈ tl, x.1 ≠ p ∧ x.1 ≠ q ∧ ∀ z ∈ rest, x.1 ≠ z.1) ∧ ∃ ps, SpIn tl ys ps ∧ ps.length = i ∧ ∀ x ∈ ps, Sp.Ok x
theorem spj_end {h₀ h' : Heap} {L I C D p q a : Addr} {m : Str → Option Value} {s₁ : Shared} {oI oC oD : Obj} {tk i : Nat} {rest tl : List (Addr × Obj)} {c c₀ : Pot} {ys : List Value} {k : Int} {S : Sp} {t1 t2 t3 : Tok}
    (F : Fr h₀ L h' m) (N : News h₀ L h' ((a, tupO [.int S.len t1, .int S.lo t2, .int S.hi t3]) :: (p, c.po q) :: (q, c.qo) :: (I, oI) :: (C, oC) :: (D, oD) :: (rest ++ tl))) (off : LCg.Off3 I C D ((p, c₀.po q) :: (q, c₀.qo) :: (rest ++ tl)))
    (hp : @Ne Nat p a) (hq : @Ne Nat q a) (hx : ∀ x ∈ (I, oI) :: (C, oC) :: (D, oD) :: (rest ++ tl), @Ne Nat x.1 a) (hS : S.Ok) (hc : c.Ok (k + 9 * (i : Int) + 9)) (hJ : SpJ p q rest k i c₀ ys tl) :
    LCg.CompEnd h₀ L m s₁ I oI C oC D oD (fun _ => True) (fun y news' => ∃ c' tl', news' = (p, c'.po q) :: (q, c'.qo) :: (rest ++ tl') ∧ SpJ p q rest k (i + 1) c' (ys ++ [y]) tl') (.ref a) { s₁ with heap := h', toks := tk } := by
  obtain ⟨_, h2, ps, h3, h4, h5⟩ := hJ
  refine LCg.CompEnd.intro F N ((p, c.po q) :: (q, c.qo) :: (rest ++ ((a, tupO [.int S.len t1, .int S.lo t2, .int S.hi t3]) :: tl))) (fun z hz => ?_) ?_ trivial ⟨c, _, rfl, ?_, fun z hz => ?_, ps ++ [S], (h3.mono fun z hz => .tail _ hz).snoc (.head _), by rw [List.length_append, List.length_singleton, h4], fun z hz => ?_⟩
  · exact pm3.mem_iff.mp hz
  · refine LCg.Off3.of fun z hz => ?_
    simp only [List.mem_cons, List.mem_append] at hz
    rcases hz with h | h | h | h | h
    · subst h; exact off.mem (p, c₀.po q) (.head _)
    · subst h; exact off.mem (q, c₀.qo) (.tail _ (.head _))
    · exact off.mem z (.tail _ (.tail _ (List.mem_append.mpr (.inl h))))
    · subst h
      exact ⟨Ne.symm (hx _ (.head _)), Ne.symm (hx _ (.tail _ (.head _))), Ne.symm (hx _ (.tail _ (.tail _ (.head _))))⟩
    · exact off.mem z (.tail _ (.tail _ (List.mem_append.mpr (.inr h))))
  · exact hc.mono (by push_cast; lia)
  · rcases List.mem_cons.mp hz with rfl | hz
    · exact ⟨Ne.symm hp, Ne.symm hq, fun y hy => Ne.symm (hx y (.tail _ (.tail _ (.tail _ (List.mem_append.mpr (.inl hy))))))⟩
    · exact h2 z hz
  · rcases List.mem_append.mp hz with hz | hz
    · exact h5 z hz
    · rw [List.mem_singleton.mp hz]; exact hS
def ByJ (k : Int) (i : Nat) (c : Pot) (ys : List Value) (tl : List (Addr × Obj)) : Prop :=
  c.Ok (k + (i : Int)) ∧ tl = [] ∧ ∃ ks : List Int, IntsAre ys ks ∧ ks.length = i ∧ ∀ x ∈ ks, 0 ≤ x ∧ x < 256
theorem byj_next {k : Int} {i : Nat} {c c₀ : Pot} {ys : List Value} {tl : List (Addr × Obj)} {d : Int} {t : Tok} (hJ : ByJ k i c₀ ys tl) (hc : c.Ok (k + (i : Int) + 1)) (h0 : 0 ≤ d) (h1 : d < 16) : ByJ k (i + 1) c (ys ++ [.int (16 * d) t]) tl := by
  obtain ⟨_, h2, ks, h3, h4, h5⟩ := hJ
  refine ⟨hc.mono (by push_cast; lia), h2, ks ++ [16 * d], IntsAre.append h3 (.cons _ _ .nil), by rw [List.length_append, List.length_singleton, h4], fun z hz => ?_⟩
  rcases List.mem_append.mp hz with hz | hz
  · exact h5 z hz
  · rw [List.mem_singleton.mp hz]; lia
end
-- P6
section
section
variable {prog : Program} {w : World} {A : Around} {E : Value → Shared → Prop}
theorem sp_src {h₀ : Heap} {L : Addr} {m : Str → Option Value} {env : Env} {elt : Expr} {x : Str} {scope : Scope} {cl : List (Str × Addr)} {Fin : Shared → List Value → List (Addr × Obj) → Prop} {p q r : Addr} {rest : List (Addr × Obj)} {b k : Int} {t u v : Tok} {c₀ : Pot} {s₁ : Shared}
    (hh : A.handled = none) (F : Fr h₀ L s₁.heap m) (N : News h₀ L s₁.heap ((p, c₀.po q) :: (q, c₀.qo) :: rest)) (hr : IsRange s₁.heap r 0 b 1 t u v) (hb0 : 0 ≤ b) (hb : b ≤ 4) (hc : c₀.Ok k)
    (turn : ∀ g i c v ys tl I oI C oC D m₂ h tk E', i < 4 → SpJ p q rest k i c ys tl → LCg.NsObj oC m₂ → m₂ x = some v → Fr h₀ L h m → News h₀ L h ((p, c.po q) :: (q, c.qo) :: (I, oI) :: (C, oC) :: (D, LCg.lst ys) :: (rest ++ tl)) → LCg.Off3 I C D ((p, c.po q) :: (q, c.qo) :: (rest ++ tl)) → ((@Ne Nat I C) ∧ (@Ne Nat I D) ∧ (@Ne Nat C D)) →
      ∀ QT : Value → Shared → Prop, (∀ y s', LCg.CompEnd h₀ L m { { s₁ with heap := g } with heap := h, toks := tk } I oI C oC D (LCg.lst ys) (fun _ => True) (fun y news' => ∃ c' tl', news' = (p, c'.po q) :: (q, c'.qo) :: (rest ++ tl') ∧ SpJ p q rest k (i + 1) c' (ys ++ [y]) tl') y s' → QT y s') →
      wpAny (model prog w) A (eval elt (compEnvC scope cl C env)) QT E' { { s₁ with heap := g } with heap := h, toks := tk })
    (fin : ∀ g (c : Pot) ys tl ps, c.Ok (k + 36) → SpIn tl ys ps → ps.length ≤ 4 → (∀ x ∈ ps, Sp.Ok x) → (∀ x ∈ tl, x.1 ≠ p ∧ x.1 ≠ q ∧ ∀ z ∈ rest, x.1 ≠ z.1) → Fin { s₁ with heap := g } ys ((p, c.po q) :: (q, c.qo) :: (rest ++ tl))) :
    LCg.CompSrc prog w A h₀ L m env elt x scope cl Fin (.ref r) s₁ := by
  refine LCg.CompSrc.range (n := (b - 0).toNat) hh F N hr (small_one (by lia) (by lia) (by lia) (by lia)) (rangeSize_nat _ _) (by rw [sizeLine_eq]; lia) (fun g => pc_rest (rest := rest) (SpJ p q rest k) (fun i c v ys tl I oI C oC D m₂ h tk E' hi => turn g i c v ys tl I oI C oC D m₂ h tk E' (by lia)) ⟨hc.mono (by simp), (fun _ hx => nomatch hx), [], .nil, rfl, (fun _ hx => nomatch hx)⟩ (fun c ys tl hJ => ?_))
  obtain ⟨h1, h2, ps, h3, h4, h5⟩ := hJ
  exact fin g c ys tl ps (h1.mono (by lia)) h3 (by lia) h5 h2
theorem by_src {h₀ : Heap} {L : Addr} {m : Str → Option Value} {env : Env} {elt : Expr} {x : Str} {scope : Scope} {cl : List (Str × Addr)} {Fin : Shared → List Value → List (Addr × Obj) → Prop} {p q r : Addr} {rest : List (Addr × Obj)} {b k : Int} {t u v : Tok} {c₀ : Pot} {s₁ : Shared}
    (hh : A.handled = none) (F : Fr h₀ L s₁.heap m) (N : News h₀ L s₁.heap ((p, c₀.po q) :: (q, c₀.qo) :: rest)) (hr : IsRange s₁.heap r 0 b 1 t u v) (hb0 : 0 ≤ b) (hb : b ≤ 12) (hc : c₀.Ok k)
    (turn : ∀ g (i : Nat) (c : Pot) v ys I oI C oC D m₂ h tk E', c.Ok (k + (i : Int)) → i < 12 → ByJ k i c ys [] → LCg.NsObj oC m₂ → m₂ x = some v → Fr h₀ L h m → News h₀ L h ((p, c.po q) :: (q, c.qo) :: (I, oI) :: (C, oC) :: (D, LCg.lst ys) :: rest) → LCg.Off3 I C D ((p, c.po q) :: (q, c.qo) :: rest) → ((@Ne Nat I C) ∧ (@Ne Nat I D) ∧ (@Ne Nat C D)) →
      ∀ QT : Value → Shared → Prop, (∀ y s', LCg.CompEnd h₀ L m { { s₁ with heap := g } with heap := h, toks := tk } I oI C oC D (LCg.lst ys) (fun _ => True) (fun y news' => ∃ c' tl', news' = (p, c'.po q) :: (q, c'.qo) :: (rest ++ tl') ∧ ByJ k (i + 1) c' (ys ++ [y]) tl') y s' → QT y s') →
      wpAny (model prog w) A (eval elt (compEnvC scope cl C env)) QT E' { { s₁ with heap := g } with heap := h, toks := tk })
    (fin : ∀ g (c : Pot) ys ks, c.Ok (k + 12) → IntsAre ys ks → ks.length ≤ 12 → (∀ x ∈ ks, 0 ≤ x ∧ x < 256) → Fin { s₁ with heap := g } ys ((p, c.po q) :: (q, c.qo) :: rest)) :
    LCg.CompSrc prog w A h₀ L m env elt x scope cl Fin (.ref r) s₁ := by
  refine LCg.CompSrc.range (n := (b - 0).toNat) hh F N hr (small_one (by lia) (by lia) (by lia) (by lia)) (rangeSize_nat _ _) (by rw [sizeLine_eq]; lia) (fun g => pc_rest (rest := rest) (ByJ k) ?tt ⟨hc.mono (by simp), rfl, [], .nil, rfl, (fun _ hx => nomatch hx)⟩ (fun c ys tl hJ => ?_))
  case tt =>
    intro i c v ys tl I oI C oC D m₂ h tk E' hi hJ
    obtain ⟨j1, j2, j3⟩ := id hJ
    subst j2
    rw [List.append_nil]
    exact turn g i c v ys I oI C oC D m₂ h tk E' j1 (by lia) hJ
  obtain ⟨h1, h2, ks, h3, h4, h5⟩ := hJ
  subst h2
  rw [List.append_nil]
  exact fin g c ys ks (h1.mono (by lia)) h3 (by lia) h5
end
theorem byj_end {h₀ h' : Heap} {L I C D p q : Addr} {m : Str → Option Value} {s₁ : Shared} {oI oC oD : Obj} {tk i : Nat} {rest : List (Addr × Obj)} {c c₀ : Pot} {ys : List Value} {k d : Int} {t : Tok}
    (F : Fr h₀ L h' m) (N : News h₀ L h' ((p, c.po q) :: (q, c.qo) :: (I, oI) :: (C, oC) :: (D, oD) :: rest)) (off : LCg.Off3 I C D ((p, c₀.po q) :: (q, c₀.qo) :: rest)) (hJ : ByJ k i c₀ ys []) (hc : c.Ok (k + (i : Int) + 1)) (h0 : 0 ≤ d) (h1 : d < 16) :
    LCg.CompEnd h₀ L m s₁ I oI C oC D oD (fun _ => True) (fun y news' => ∃ c' tl', news' = (p, c'.po q) :: (q, c'.qo) :: (rest ++ tl') ∧ ByJ k (i + 1) c' (ys ++ [y]) tl') (.int (16 * d) t) { s₁ with heap := h', toks := tk } := by
  refine pc_end (rest := rest) (tl := []) (c := c) F (by rw [List.append_nil]; exact N) (by rw [List.append_nil]; exact off) (byj_next hJ hc h0 h1)
end
-- P7
section
theorem SpIn.all {h : Heap} {tl : List (Addr × Obj)} (k : ∀ p ∈ tl, h.get? p.1 = some p.2) {vs : List Value} {xs : List Sp} (r : SpIn tl vs xs) : SpAll h vs xs := by
  induction r with
  | nil => exact .nil
  | cons h1 _ ih => exact .cons ⟨_, k _ h1, rfl, _, rfl⟩ ih
def FontOk (fx : List (Addr × Obj)) (f : Addr) (c : Option (List Sp)) : Prop := ∀ h : Heap, (∀ x ∈ fx, h.get? x.1 = some x.2) → FontAt h f c
theorem FontOk.mono {fx gx : List (Addr × Obj)} {f : Addr} {c : Option (List Sp)} (k : ∀ x ∈ fx, x ∈ gx) (H : FontOk fx f c) : FontOk gx f c := fun h e => H h fun x hx => e x (k x hx)
theorem inst_all {h : Heap} {fx : List (Addr × Obj)} {x C dx : Addr} {od : Obj} (k : ∀ p ∈ fx, h.get? p.1 = some p.2) (h1 : (x, instObj C dx) ∈ fx) (h2 : (dx, od) ∈ fx) : PySem.W.InstAt h x (instObj C dx) C (some od) :=
  ⟨k _ h1, rfl, rfl, k _ h2⟩
theorem font_wide {fx : List (Addr × Obj)} {f df tu x dx D : Addr} {es ex : List DictEntry} {n nx : Nat} {v : Value} {vs : List Value} {ps : List Sp}
    (h1 : (f, instObj 161 df) ∈ fx) (h2 : (df, dictOf es n) ∈ fx) (g1 : getL (Str.ofString "cutting") es = some (some (.ref tu))) (g2 : getL (Str.ofString "codes") es = some none) (h3 : (tu, tupO [.ref x, v]) ∈ fx)
    (h4 : (x, instObj 45 dx) ∈ fx) (h5 : (dx, dictOf ex nx) ∈ fx) (g3 : getL (Str.ofString "spaces") ex = some (some (.ref D))) (h6 : (D, LCg.lst vs) ∈ fx) (hs : SpIn fx vs ps) (hok : ∀ p ∈ ps, p.Ok) (hl : ps.length ≤ 4) : FontOk fx f (some ps) :=
  fun _ e => .wide (inst_all e h1 h2) g1 g2 ⟨_, e _ h3, rfl, _, rfl⟩ (inst_all e h4 h5) g3 ⟨_, e _ h6, rfl, _, rfl⟩ (hs.all e) hok (by omega)
theorem font_simple {fx : List (Addr × Obj)} {f df : Addr} {es : List DictEntry} {n : Nat}
    (h1 : (f, instObj 161 df) ∈ fx) (h2 : (df, dictOf es n) ∈ fx) (g1 : getL (Str.ofString "cutting") es = some (some .none)) (g2 : getL (Str.ofString "codes") es = some none) : FontOk fx f none :=
  fun _ e => .simple (inst_all e h1 h2) g1 g2
end
-- P8
section
theorem font_method {w : World} {A : Around} {E : Value → Shared → Prop} {s : Shared} {g : Heap} {L : Addr} {m : Str → Option Value} {f : Addr} {c : Option (List Sp)} {pl : Sem Bool} {Q : Value × List Value → Shared → Prop}
    (F : Fr g L s.heap m) (X : (hd.heap_39 w.params).In g) (hf : FontAt s.heap f c) (h : Q (.ref 144, [.ref f]) s) : wpAny (model PQ w) A (getMethod (.ref f) (Str.ofString "codes") pl) Q E s := by
  cases hf with
  | simple hi hc hm => exact method_inst F X hi (by k_is) (by k_is) (by k_is) hm h
  | wide hi hc hm ht hx he hl hs hok hps => exact method_inst F X hi (by k_is) (by k_is) (by k_is) hm h
theorem codes_K {w : World} {mean : ExcName → Option Value} {mg mb : Str → Option Value} {dp un : Nat} {fr : Option (List Env)} {gd : Option (List Code)} {s : Shared} {g : Heap} {L : Addr} {m : Str → Option Value} {fx : List (Addr × Obj)} {E Q : Value → Shared → Prop} {f : Addr} {c : Option (List Sp)} {b : Array UInt8} {tb : Tok} {ks : List Int} {atc : Addr}
    (hf : FontOk fx f c) (hne : ∀ x ∈ fx, x.1 ≠ atc) (pre : List (Addr × Obj)) (F : Fr g L s.heap m) (X : (hd.heap_39 w.params).In g) (T : TQ mean mg mb g) (N : News g L s.heap (pre ++ fx)) (hat : ∃ o, s.heap.get? atc = some o) (hd : dp + 7 < recursionLimit) (hb : KBw.bInts b = ks) (hk : ks.length ≤ 100)
    (h : ∀ D n ys h' tk' gx, (∀ x ∈ fx, x ∈ gx) → FontOk gx f c → (∀ x ∈ gx, x.1 ≠ atc) → D ≠ atc → PrIn gx ys (codesOf c ks) → (∀ x ∈ pre, x.1 ≠ D) → Fr g L h' m → News g L h' ((D, W.listOf ys.toArray n) :: (pre ++ gx)) → Q (.ref D) { s with heap := h', toks := tk' }) :
    wpAny (model PQ w) (AQ dp un fr gd) (call (.ref 144) [.ref f, .bytes b tb]) Q E s := by
  refine codes_ct (X.keeps F.keep) (T.keeps F.keep) hd (hf _ fun x hx => (N x (List.mem_append.mpr (.inr hx))).1) hb hk fun D n ys tl h' tk' st G hp => ?_
  have N' := G.news F N st
  have dead : ∀ q ∈ (D, W.listOf ys.toArray n) :: tl, ∀ a o, s.heap.get? a = some o → q.1 ≠ a := fun q hq a o e hh => by
    have := (G q hq).2
    rw [hh, e] at this
    cases this
  obtain ⟨oat, hoat⟩ := hat
  refine h D n ys h' tk' (tl ++ fx) (fun x hx => List.mem_append.mpr (.inr hx)) (hf.mono fun x hx => List.mem_append.mpr (.inr hx)) (fun x hx => ?_) (dead _ (.head _) _ _ hoat) (hp.mono fun x hx => List.mem_append.mpr (.inl hx)) (fun x hx e => dead _ (.head _) _ _ (N x (List.mem_append.mpr (.inl hx))).1 e.symm) (F.keptAll st) fun z hz => N' z ?_
  · rcases List.mem_append.mp hx with hx | hx
    · exact dead x (.tail _ hx) _ _ hoat
    · exact hne x hx
  · simp only [List.mem_cons, List.mem_append, List.cons_append] at hz ⊢
    rcases hz with h | h | h | h <;> simp [h]
theorem list_K {prog : Program} {w : World} {A : Around} {E : Value → Shared → Prop} {s : Shared} {g : Heap} {L : Addr} {m : Str → Option Value} {news : List (Addr × Obj)} {b : Addr} {ys : List Value} {n : Nat} {Q : Value → Shared → Prop}
    (F : Fr g L s.heap m) (N : News g L s.heap ((b, W.listOf ys.toArray n) :: news)) (hz : ys.length ≤ 4096)
    (h : ∀ D c h', Fr g L h' m → News g L h' ((D, W.listOf ys.toArray c) :: news) → (∀ q ∈ news, q.1 ≠ D) → Q (.ref D) { s with heap := h' }) : wpAny (model prog w) A (call (.type "list") [.ref b]) Q E s :=
  kup_listOf F N (.head _) (List.toList_toArray) (fun D c h' F' N' l1 => h D c h' F' (fun z hz => N' z (by
    rcases List.mem_cons.mp hz with e | e
    · rw [e]; exact .head _
    · exact .tail _ (.tail _ e))) fun q hq => Nat.ne_of_lt (l1 q (.tail _ hq))) (by rw [List.toList_toArray, sizeLine_eq]; omega)
end
-- PL
section
theorem tw_ex (p : Nat → Bool) : ∀ n : Nat, ∃ j, (∀ k < j, p k = true) ∧ j ≤ n ∧ (j < n → p j = false) := by
  intro n
  induction n with
  | zero => exact ⟨0, fun k hk => absurd hk (Nat.not_lt_zero k), Nat.le_refl _, fun h => absurd h (Nat.lt_irrefl _)⟩
  | succ n ih =>
    obtain ⟨j, h1, h2, h3⟩ := ih
    by_cases q : j < n
    · exact ⟨j, h1, by lia, fun _ => h3 q⟩
    · have e : j = n := by lia
      subst e
      cases hp : p j with
      | false => exact ⟨j, h1, by lia, fun _ => hp⟩
      | true => exact ⟨j + 1, fun k hk => by
          by_cases e : k < j
          · exact h1 k e
          · have e : k = j := by lia
            rw [e, hp], Nat.le_refl _, fun h => absurd h (Nat.lt_irrefl _)⟩
theorem fitN_spec (len lo hi : Int) (ks : List Int) : (∀ k < fitN len lo hi ks, fitB len lo hi ks k = true) ∧ fitN len lo hi ks ≤ len.toNat ∧ (fitN len lo hi ks < len.toNat → fitB len lo hi ks (fitN len lo hi ks) = false) := by
  obtain ⟨j, h1, h2, h3⟩ := tw_ex (fitB len lo hi ks) len.toNat
  have e : fitN len lo hi ks = j := takeWhile_range_len _ _ _ h1 h2 h3
  rw [e]
  exact ⟨h1, h2, h3⟩
theorem fitB_take {len lo hi : Int} {ks : List Int} {n k : Nat} : fitB len lo hi (ks.take n) k = true ↔ fitB len lo hi ks k = true ∧ k < n := by
  have g : k < n → (ks.take n).getD k 0 = ks.getD k 0 := fun h => by
    rw [List.getD_eq_getElem?_getD, List.getD_eq_getElem?_getD, List.getElem?_take_of_lt h]
  rw [fitB_iff, fitB_iff, List.length_take]
  constructor
  · rintro ⟨a, b, c, d⟩
    have hk : k < n := by lia
    rw [g hk] at c d
    exact ⟨⟨a, by lia, c, d⟩, hk⟩
  · rintro ⟨⟨a, b, c, d⟩, hk⟩
    rw [g hk]
    exact ⟨a, by lia, c, d⟩
theorem fitN_take (len lo hi : Int) (ks : List Int) (n : Nat) : fitN len lo hi (ks.take n) = min (fitN len lo hi ks) n := by
  obtain ⟨h1, h2, h3⟩ := fitN_spec len lo hi ks
  refine takeWhile_range_len _ _ _ (fun k hk => fitB_take.mpr ⟨h1 k (by lia), by lia⟩) (by omega) fun hj => ?_
  cases hb : fitB len lo hi (ks.take n) (min (fitN len lo hi ks) n) with
  | false => rfl
  | true =>
    obtain ⟨a, b⟩ := fitB_take.mp hb
    have e : min (fitN len lo hi ks) n = fitN len lo hi ks := by lia
    rw [e] at a hj
    rw [h3 hj] at a
    cases a
theorem fitN_le_length (len lo hi : Int) (ks : List Int) : fitN len lo hi ks ≤ ks.length := by
  have := fitN_take len lo hi ks ks.length
  rw [List.take_length] at this
  lia
theorem fitN_le (len lo hi : Int) (ks : List Int) : fitN len lo hi ks ≤ len.toNat := (fitN_spec len lo hi ks).2.1
theorem mem_ft {ps : List Sp} {ks : List Int} {m : Int} : m ∈ ftOf ps ks ↔ ∃ p ∈ ps, (fitN p.len p.lo p.hi ks : Int) = p.len ∧ p.len = m := by
  simp only [ftOf, rkOf, List.mem_map, List.mem_filter, beq_iff_eq]
  constructor
  · rintro ⟨x, ⟨⟨p, hp, rfl⟩, hx⟩, rfl⟩; exact ⟨p, hp, hx, rfl⟩
  · rintro ⟨p, hp, hx, rfl⟩; exact ⟨_, ⟨⟨p, hp, rfl⟩, hx⟩, rfl⟩
theorem mem_ms {ps : List Sp} {ks : List Int} {m : Int} : m ∈ msOf ps ks ↔ ∃ p ∈ ps, (fitN p.len p.lo p.hi ks : Int) = m := by
  simp only [msOf, rkOf, List.mem_map]
  constructor
  · rintro ⟨x, ⟨p, hp, rfl⟩, rfl⟩; exact ⟨p, hp, rfl⟩
  · rintro ⟨p, hp, rfl⟩; exact ⟨_, ⟨p, hp, rfl⟩, rfl⟩
theorem mem_bs {ps : List Sp} {ks : List Int} {M m : Int} : m ∈ bsOf ps ks M ↔ ∃ p ∈ ps, (fitN p.len p.lo p.hi ks : Int) = M ∧ p.len = m := by
  simp only [bsOf, rkOf, List.mem_map, List.mem_filter, beq_iff_eq]
  constructor
  · rintro ⟨x, ⟨⟨p, hp, rfl⟩, hx⟩, rfl⟩; exact ⟨p, hp, hx, rfl⟩
  · rintro ⟨p, hp, hx, rfl⟩; exact ⟨_, ⟨⟨p, hp, rfl⟩, hx⟩, rfl⟩
theorem min_le : ∀ {l : List Int} {a : Int}, a ∈ l → minI l ≤ a := by
  intro l a ha
  have hne : l ≠ [] := by rintro rfl; cases ha
  induction l with
  | nil => exact absurd rfl hne
  | cons x r ih =>
    cases r with
    | nil => simp at ha; simp [minI, ha]
    | cons y r =>
      simp only [minI]
      rcases List.mem_cons.mp ha with rfl | ha
      · exact Int.min_le_left _ _
      · exact Int.le_trans (Int.min_le_right _ _) (ih ha (by simp))
theorem le_max : ∀ {l : List Int} {a : Int}, a ∈ l → a ≤ maxI l := by
  intro l a ha
  have hne : l ≠ [] := by rintro rfl; cases ha
  induction l with
  | nil => exact absurd rfl hne
  | cons x r ih =>
    cases r with
    | nil => simp at ha; simp [maxI, ha]
    | cons y r =>
      simp only [maxI]
      rcases List.mem_cons.mp ha with rfl | ha
      · exact Int.le_max_left _ _
      · exact Int.le_trans (ih ha (by simp)) (Int.le_max_right _ _)
theorem ms_ne {ps : List Sp} {ks : List Int} (h : ps ≠ []) : msOf ps ks ≠ [] := by
  intro e
  have := congrArg List.length e
  rw [msOf, rkOf, List.length_map, List.length_map] at this
  exact h (List.eq_nil_of_length_eq_zero this)
/-- cut ahead of the code's end, the length stands -/
theorem nextLen_take {ps : List Sp} {a : List Int} {n : Nat} (hok : ∀ p ∈ ps, p.Ok) (h : nextLen ps a ≤ (n : Int)) : nextLen ps (a.take n) = nextLen ps a := by
  by_cases h0 : ps = []
  · rw [nextLen_nil h0, nextLen_nil h0]
  by_cases h1 : ftOf ps a = []
  · have hM := maxI_mem (ms_ne (ks := a) h0)
    have hb := minI_mem (List.ne_nil_of_length_pos (bs_pos hM))
    have e : nextLen ps a = minI (bsOf ps a (maxI (msOf ps a))) := by rw [nextLen, if_neg h0, if_pos h1]
    rw [e] at h ⊢
    generalize hMM : maxI (msOf ps a) = M at *
    have hmax : ∀ x ∈ msOf ps a, x ≤ M := fun x hx => hMM ▸ le_max hx
    obtain ⟨p, hp, hp1, hp2⟩ := mem_bs.mp hb
    have lt : ∀ q ∈ ps, (fitN q.len q.lo q.hi a : Int) < q.len := fun q hq => by
      have h2 := fitN_le q.len q.lo q.hi a
      have h3 := hok q hq
      unfold Sp.Ok at h3
      have h4 : (fitN q.len q.lo q.hi a : Int) ≠ q.len := fun e => by
        have : q.len ∈ ftOf ps a := mem_ft.mpr ⟨q, hq, e, rfl⟩
        rw [h1] at this
        cases this
      lia
    have hMn : M < (n : Int) := by have := lt p hp; lia
    have same : ∀ q ∈ ps, fitN q.len q.lo q.hi (a.take n) = fitN q.len q.lo q.hi a := fun q hq => by
      rw [fitN_take]
      have := hmax _ (mem_ms.mpr ⟨q, hq, rfl⟩)
      lia
    refine nextLen_best (M := M) h0 ?_ ?_ ?_ ?_ ?_
    · cases hf : ftOf ps (a.take n) with
      | nil => rfl
      | cons x r =>
        have : x ∈ ftOf ps (a.take n) := by rw [hf]; exact List.mem_cons_self
        obtain ⟨q, hq, hq1, _⟩ := mem_ft.mp this
        rw [same q hq] at hq1
        have := lt q hq
        lia
    · exact mem_ms.mpr ⟨p, hp, by rw [same p hp]; exact hp1⟩
    · intro x hx
      obtain ⟨q, hq, rfl⟩ := mem_ms.mp hx
      rw [same q hq]
      exact hmax _ (mem_ms.mpr ⟨q, hq, rfl⟩)
    · exact mem_bs.mpr ⟨p, hp, by rw [same p hp]; exact hp1, hp2⟩
    · intro x hx
      obtain ⟨q, hq, hq1, rfl⟩ := mem_bs.mp hx
      rw [same q hq] at hq1
      exact min_le (mem_bs.mpr ⟨q, hq, hq1, rfl⟩)
  · have e : nextLen ps a = minI (ftOf ps a) := by rw [nextLen, if_neg h0, if_neg h1]
    rw [e] at h ⊢
    obtain ⟨p, hp, hp1, hp2⟩ := mem_ft.mp (minI_mem h1)
    refine nextLen_fit h0 (mem_ft.mpr ⟨p, hp, ?_, hp2⟩) fun x hx => ?_
    · rw [fitN_take]
      lia
    · obtain ⟨q, hq, hq1, rfl⟩ := mem_ft.mp hx
      rw [fitN_take] at hq1
      have := fitN_le q.len q.lo q.hi a
      have h3 := hok q hq
      unfold Sp.Ok at h3
      exact min_le (mem_ft.mpr ⟨q, hq, by lia, rfl⟩)
end
-- PL2
section
theorem pow_s (n : Nat) : (2 : Int) ^ (8 * (n + 1)) = 256 * 2 ^ (8 * n) := by
  rw [show 8 * (n + 1) = 8 * n + 8 by lia, Int.pow_add, Int.mul_comm]
  rfl
theorem oct_snoc {C k : Int} (h0 : 0 ≤ k) (h1 : k < 256) (n j : Nat) (hj : j < n) : octAt ((n + 1 : Nat) : Int) (256 * C + k) j = octAt (n : Int) C j := by
  unfold octAt
  have e1 : (8 * (((n + 1 : Nat) : Int) - 1 - j)).toNat = 8 * ((n - 1 - j) + 1) := by lia
  have e2 : (8 * ((n : Int) - 1 - j)).toNat = 8 * (n - 1 - j) := by omega
  rw [e1, e2, pow_s]
  have hp : (0 : Int) < 2 ^ (8 * (n - 1 - j)) := Int.pow_pos (by decide)
  rw [Int.fdiv_eq_ediv_of_nonneg _ (by lia), Int.fdiv_eq_ediv_of_nonneg _ (by lia), ← Int.ediv_ediv_of_nonneg (by decide)]
  congr 2
  lia
theorem oct_last {C k : Int} (h0 : 0 ≤ k) (h1 : k < 256) (n : Nat) : octAt ((n + 1 : Nat) : Int) (256 * C + k) n = k := by
  unfold octAt
  have e1 : (8 * (((n + 1 : Nat) : Int) - 1 - n)).toNat = 0 := by lia
  rw [e1]
  simp only [Int.pow_zero, Int.fdiv_one]
  lia
theorem octets_range (len : Nat) (code : Int) : codeOctets len code = (List.range len).map fun j : Nat => octAt len code (j : Int) := by
  unfold codeOctets rangeKs
  rw [Int.toNat_natCast, List.map_map]
  refine List.map_congr_left fun j _ => ?_
  simp
theorem octets_code_snoc : ∀ (r : List Int), (∀ x ∈ r, 0 ≤ x ∧ x < 256) → codeOctets (r.reverse.length : Int) (codeOf r.reverse) = r.reverse := by
  intro r
  induction r with
  | nil => intro _; rfl
  | cons k r ih =>
    intro h
    have hk := h k List.mem_cons_self
    have ih := ih fun x hx => h x (List.mem_cons_of_mem _ hx)
    rw [List.reverse_cons, codeOf_snoc, List.length_append, List.length_singleton, octets_range, List.range_succ, List.map_append, List.map_singleton, oct_last hk.1 hk.2]
    congr 1
    rw [octets_range] at ih
    refine Eq.trans (List.map_congr_left fun j hj => ?_) ih
    exact oct_snoc hk.1 hk.2 _ _ (List.mem_range.mp hj)
theorem octets_code (c : List Int) (h : ∀ x ∈ c, 0 ≤ x ∧ x < 256) : codeOctets (c.length : Int) (codeOf c) = c := by
  have := octets_code_snoc c.reverse fun x hx => h x (List.mem_reverse.mp hx)
  rwa [List.reverse_reverse] at this
/-- the length of the code at the head -/
noncomputable def headN (ps : List Sp) (ks : List Int) : Nat := min (nextLen ps (ks.take 4)).toNat ks.length
theorem head_take {ps : List Sp} (hok : ∀ p ∈ ps, p.Ok) (ks : List Int) : (ks.take 4).take (nextLen ps (ks.take 4)).toNat = ks.take (headN ps ks) := by
  have h := nextLen_range (ks := ks.take 4) hok
  rw [List.take_take, headN]
  by_cases q : (nextLen ps (ks.take 4)).toNat ≤ ks.length
  · congr 1; lia
  · rw [List.take_of_length_le (by lia), List.take_of_length_le (by lia)]
theorem head_range {ps : List Sp} (hok : ∀ p ∈ ps, p.Ok) {ks : List Int} (h : ks ≠ []) : 1 ≤ headN ps ks ∧ headN ps ks ≤ 4 ∧ headN ps ks ≤ ks.length := by
  have h1 := nextLen_range (ks := ks.take 4) hok
  have h2 : 0 < ks.length := List.length_pos_iff.mpr h
  unfold headN
  lia
theorem split_head {ps : List Sp} (hok : ∀ p ∈ ps, p.Ok) {ks : List Int} (h : ks ≠ []) : split ps ks = ((headN ps ks : Int), codeOf (ks.take (headN ps ks))) :: split ps (ks.drop (headN ps ks)) := by
  have h1 := head_range hok h
  have e := split_cons hok h rfl (head_take hok ks).symm
  have e2 : (ks.take (headN ps ks)).length = headN ps ks := by rw [List.length_take]; lia
  rw [e2] at e
  exact e
theorem head_cut {ps : List Sp} (hok : ∀ p ∈ ps, p.Ok) {ks : List Int} {n : Nat} (hn : headN ps ks ≤ n) (hl : n ≤ ks.length) : headN ps (ks.take n) = headN ps ks := by
  by_cases e : n = ks.length
  · rw [e, List.take_length]
  have h1 : nextLen ps (ks.take 4) ≤ (n : Int) := by
    unfold headN at hn
    lia
  have h2 := nextLen_take hok h1
  rw [List.take_take, Nat.min_comm, ← List.take_take] at h2
  have h3 := nextLen_range (ks := ks.take 4) hok
  rw [headN, headN, h2, List.length_take]
  lia
theorem codesOf_split {c : Option (List Sp)} (ks : List Int) : codesOf c ks = split (c.getD []) ks := by
  cases c with
  | some ps => rfl
  | none =>
    show ks.map (fun k => ((1 : Int), k)) = split [] ks
    induction ks with
    | nil => rfl
    | cons k r ih =>
      have hok : ∀ p ∈ ([] : List Sp), p.Ok := fun _ h => nomatch h
      have h1 : headN [] (k :: r) = 1 := by
        rw [headN, nextLen_nil rfl, List.length_cons]
        lia
      rw [split_head hok (by simp), h1, List.map_cons, ih]
      simp [codeOf]
theorem split_len {ps : List Sp} (hok : ∀ p ∈ ps, p.Ok) : ∀ (n : Nat) (ks : List Int), ks.length ≤ n → (split ps ks).length ≤ ks.length ∧ (∀ x ∈ split ps ks, 1 ≤ x.1 ∧ x.1 ≤ 4) ∧ ((∀ x ∈ ks, 0 ≤ x ∧ x < 256) → downOf (split ps ks) = ks) := by
  intro n
  induction n with
  | zero =>
    intro ks h
    have e : ks = [] := List.eq_nil_of_length_eq_zero (by lia)
    subst e
    exact ⟨Nat.le_refl _, (fun _ h => nomatch h), fun _ => rfl⟩
  | succ n ih =>
    intro ks h
    by_cases e : ks = []
    · subst e
      exact ⟨Nat.le_refl _, (fun _ h => nomatch h), fun _ => rfl⟩
    obtain ⟨a1, a2, a3⟩ := head_range hok e
    obtain ⟨i1, i2, i3⟩ := ih (ks.drop (headN ps ks)) (by rw [List.length_drop]; lia)
    rw [split_head hok e]
    refine ⟨?_, ?_, fun hb => ?_⟩
    · rw [List.length_cons]
      rw [List.length_drop] at i1
      lia
    · intro x hx
      rcases List.mem_cons.mp hx with rfl | hx
      · dsimp only; lia
      · exact i2 x hx
    · have e2 : (ks.take (headN ps ks)).length = headN ps ks := by rw [List.length_take]; lia
      have h3 := octets_code (ks.take (headN ps ks)) fun x hx => hb x (List.mem_of_mem_take hx)
      rw [e2] at h3
      unfold downOf at i3 ⊢
      rw [List.flatMap_cons, i3 fun x hx => hb x (List.mem_of_mem_drop hx), h3, List.take_append_drop]
/-- the place of the i-th code -/
noncomputable def placeN (xs : List (Int × Int)) (i : Nat) : Nat := ((xs.take i).map fun x => x.1.toNat).sum
theorem place_cut {ps : List Sp} (hok : ∀ p ∈ ps, p.Ok) : ∀ (i : Nat) (ks : List Int), i ≤ (split ps ks).length → placeN (split ps ks) i ≤ ks.length ∧ split ps (ks.take (placeN (split ps ks) i)) = (split ps ks).take i ∧ split ps (ks.drop (placeN (split ps ks) i)) = (split ps ks).drop i := by
  intro i
  induction i with
  | zero => intro ks _; simp [placeN, split_nil]
  | succ i ih =>
    intro ks hi
    have e : ks ≠ [] := by
      rintro rfl
      simp [split_nil] at hi
    obtain ⟨a1, a2, a3⟩ := head_range hok e
    have hs := split_head hok e
    have hp : placeN (split ps ks) (i + 1) = headN ps ks + placeN (split ps (ks.drop (headN ps ks))) i := by
      rw [hs]
      simp [placeN]
    obtain ⟨i1, i2, i3⟩ := ih (ks.drop (headN ps ks)) (by rw [hs, List.length_cons] at hi; lia)
    rw [List.length_drop] at i1
    generalize hq : placeN (split ps (ks.drop (headN ps ks))) i = q at *
    rw [hp]
    have hcut := head_cut hok (ps := ps) (ks := ks) (n := headN ps ks + q) (by lia) (by lia)
    have hne : ks.take (headN ps ks + q) ≠ [] := by
      intro e'
      have := congrArg List.length e'
      rw [List.length_take, List.length_nil] at this
      lia
    refine ⟨by lia, ?_, ?_⟩
    · rw [split_head hok hne, hcut, hs, List.take_succ_cons, List.take_take, Nat.min_eq_left (by lia), List.drop_take]
      rw [show headN ps ks + q - headN ps ks = q by lia, i2]
    · rw [hs, List.drop_succ_cons, ← i3, List.drop_drop]
end
-- PL3
section
noncomputable def szOf (ps : List Sp) (ks : List Int) : List Int := (ps.filter fun p => holdsB p.len p.lo p.hi ks).map (·.len)
theorem place_at {ps : List Sp} (hok : ∀ p ∈ ps, p.Ok) {ks : List Int} {i : Nat} {x : Int × Int} (h : (split ps ks)[i]? = some x) :
    placeN (split ps ks) (i + 1) = placeN (split ps ks) i + x.1.toNat ∧ ks.drop (placeN (split ps ks) i) ≠ [] ∧ x.1 = headN ps (ks.drop (placeN (split ps ks) i)) := by
  have hi : i < (split ps ks).length := by
    rcases Nat.lt_or_ge i (split ps ks).length with q | q
    · exact q
    · rw [List.getElem?_eq_none q] at h; cases h
  obtain ⟨a1, a2, a3⟩ := place_cut hok i ks (by lia)
  refine ⟨?_, ?_, ?_⟩
  · unfold placeN
    rw [List.take_add_one, h]
    simp
  · intro e
    rw [e, split_nil] at a3
    have := congrArg List.length a3
    rw [List.length_drop, List.length_nil] at this
    lia
  · have hne : ks.drop (placeN (split ps ks) i) ≠ [] := by
      intro e
      rw [e, split_nil] at a3
      have := congrArg List.length a3
      rw [List.length_drop, List.length_nil] at this
      lia
    rw [split_head hok hne] at a3
    have h2 : ((split ps ks).drop i)[0]? = some x := by rw [List.getElem?_drop]; simpa using h
    rw [← a3] at h2
    simp only [List.getElem?_cons_zero, Option.some.injEq] at h2
    rw [← h2]
theorem head_sizes {ps : List Sp} (hok : ∀ p ∈ ps, p.Ok) {r : List Int} {M : Int} (hm : M ∈ szOf ps r) (hle : ∀ a ∈ szOf ps r, M ≤ a) : (headN ps r : Int) = M := by
  have mem : ∀ m, m ∈ szOf ps r ↔ m ∈ ftOf ps (r.take 4) := fun m => by
    rw [mem_ft]
    simp only [szOf, List.mem_map, List.mem_filter, holdsB, decide_eq_true_eq]
    constructor
    · rintro ⟨p, ⟨hp, h1⟩, rfl⟩
      refine ⟨p, hp, ?_, rfl⟩
      have h2 := hok p hp
      unfold Sp.Ok at h2
      rw [fitN_take]
      lia
    · rintro ⟨p, hp, h1, rfl⟩
      refine ⟨p, ⟨hp, ?_⟩, rfl⟩
      have h2 := hok p hp
      have h3 := fitN_le p.len p.lo p.hi r
      unfold Sp.Ok at h2
      rw [fitN_take] at h1
      lia
  have h0 : ps ≠ [] := by
    rintro rfl
    simp [szOf] at hm
  have e : nextLen ps (r.take 4) = M := nextLen_fit h0 ((mem M).mp hm) fun a ha => hle a ((mem a).mpr ha)
  obtain ⟨p, hp, h1, h2⟩ := mem_ft.mp ((mem M).mp hm)
  have h3 := fitN_le_length p.len p.lo p.hi (r.take 4)
  rw [List.length_take] at h3
  have h4 := hok p hp
  unfold Sp.Ok at h4
  rw [headN, e]
  lia
/-- what the loop of the law sees at the i-th code -/
theorem law_turn {ps : List Sp} (hok : ∀ p ∈ ps, p.Ok) {ks : List Int} {i : Nat} {x : Int × Int} (h : (split ps ks)[i]? = some x) :
    1 ≤ x.1 ∧ x.1 ≤ 4 ∧ (ps = [] → x.1 = 1) ∧ (∀ M, M ∈ szOf ps (ks.drop (placeN (split ps ks) i)) → (∀ a ∈ szOf ps (ks.drop (placeN (split ps ks) i)), M ≤ a) → x.1 = M) ∧
    placeN (split ps ks) i + x.1.toNat ≤ ks.length ∧
    placeN (split ps ks) (i + 1) = placeN (split ps ks) i + x.1.toNat ∧
    split ps (ks.take (placeN (split ps ks) i + x.1.toNat)) ++ split ps (ks.drop (placeN (split ps ks) i + x.1.toNat)) = split ps ks := by
  obtain ⟨a1, a2, a3⟩ := place_at hok h
  have hr := head_range hok a2
  have hi : i < (split ps ks).length := by
    rcases Nat.lt_or_ge i (split ps ks).length with q | q
    · exact q
    · rw [List.getElem?_eq_none q] at h; cases h
  obtain ⟨b1, b2, b3⟩ := place_cut hok (i + 1) ks (by lia)
  rw [a1] at b1 b2 b3
  refine ⟨by lia, by lia, fun e => ?_, fun M hm hle => ?_, b1, a1, ?_⟩
  · subst e
    rw [a3, headN, nextLen_nil rfl]
    have : 0 < (ks.drop (placeN (split [] ks) i)).length := List.length_pos_iff.mpr a2
    lia
  · rw [a3]
    exact head_sizes hok hm hle
  · rw [b2, b3, List.take_append_drop]
theorem place_zero (xs : List (Int × Int)) : placeN xs 0 = 0 := by simp [placeN]
end
-- P9
section
theorem bInts_inj {r b : Array UInt8} (h : KBw.bInts r = KBw.bInts b) : r.toList = b.toList := by
  unfold KBw.bInts at h
  have key : ∀ (l l' : List UInt8), l.map (fun c => (c.toNat : Int)) = l'.map (fun c => (c.toNat : Int)) → l = l' := by
    intro l
    induction l with
    | nil => intro l' e; cases l' with
      | nil => rfl
      | cons _ _ => simp at e
    | cons x r ih => intro l' e; cases l' with
      | nil => simp at e
      | cons y r' =>
        simp only [List.map_cons, List.cons.injEq] at e
        rw [ih r' e.2, UInt8.toNat_inj.mp (by omega : x.toNat = y.toNat)]
  exact key _ _ h
theorem ne_absurd {r b : Array UInt8} {P : Prop} (h : KBw.bInts r = KBw.bInts b) (q : (r.toList != b.toList) = true) : P := by
  rw [bInts_inj h] at q
  simp at q
noncomputable abbrev lawNs : List Str := [Str.ofString "length", Str.ofString "code", Str.ofString "sizes"]
/-- what the loop of the law keeps -/
inductive LawJ (m₀ : Str → Option Value) (Dc Ds f c2 c3 : Addr) (nc : Nat) (o2 : Obj) (c0 : Option (List Sp)) (ys ys' : List Value) (ks : List Int) (i : Nat) : (Str → Option Value) → List (Addr × Obj) → Prop
  | mk (u : Str → Option Value) (o : Obj) (gx : List (Addr × Obj)) (t : Tok) : o.data = .cell (some (.int (placeN (split (c0.getD []) ks) i : Nat) t)) → FontOk gx f c0 → SpIn gx ys (c0.getD []) → PrIn gx ys' (split (c0.getD []) ks) → (∀ x ∈ gx, x.1 ≠ c3) →
    LawJ m₀ Dc Ds f c2 c3 nc o2 c0 ys ys' ks i (fun y => if lawNs.contains y then u y else m₀ y) ((Dc, W.listOf ys'.toArray nc) :: (Ds, LCg.lst ys) :: (c2, o2) :: (c3, o) :: gx)
theorem LawJ.start {m₀ : Str → Option Value} {Dc Ds f c2 c3 : Addr} {nc : Nat} {o2 o : Obj} {c0 : Option (List Sp)} {ys ys' : List Value} {ks : List Int} {t : Tok} {gx : List (Addr × Obj)}
    (ho : o.data = .cell (some (.int 0 t))) (hf : FontOk gx f c0) (hs : SpIn gx ys (c0.getD [])) (hp : PrIn gx ys' (split (c0.getD []) ks)) (hne : ∀ x ∈ gx, x.1 ≠ c3) :
    LawJ m₀ Dc Ds f c2 c3 nc o2 c0 ys ys' ks 0 m₀ ((Dc, W.listOf ys'.toArray nc) :: (Ds, LCg.lst ys) :: (c2, o2) :: (c3, o) :: gx) :=
  by
  have e : (fun y => if lawNs.contains y then m₀ y else m₀ y) = m₀ := by funext y; split <;> rfl
  have := LawJ.mk (m₀ := m₀) (Dc := Dc) (Ds := Ds) (f := f) (c2 := c2) (c3 := c3) (nc := nc) (o2 := o2) (c0 := c0) (ys := ys) (ys' := ys') (ks := ks) (i := 0) m₀ o gx t (by rw [place_zero]; exact ho) hf hs hp hne
  rwa [e] at this
theorem law_iter {prog : Program} {w : World} {A : Around} {E : Value → Shared → Prop} {s : Shared} {env : Env} {h₀ : Heap} {elts : List Expr} {kk : Nat} {tp : Pos} {body : List Stmt} {Q : Flow → Shared → Prop} {m₀ : Str → Option Value} {Dc Ds f c2 c3 : Addr} {nc : Nat} {o2 o : Obj} {c0 : Option (List Sp)} {ys ys' : List Value} {ks : List Int} {t : Tok} {gx : List (Addr × Obj)}
    (hh : A.handled = none) (F : Fr h₀ env.locals s.heap m₀) (N : News h₀ env.locals s.heap ((Dc, W.listOf ys'.toArray nc) :: (Ds, LCg.lst ys) :: (c2, o2) :: (c3, o) :: gx))
    (ho : o.data = .cell (some (.int 0 t))) (hf : FontOk gx f c0) (hs : SpIn gx ys (c0.getD [])) (hp : PrIn gx ys' (split (c0.getD []) ks)) (hne : ∀ x ∈ gx, x.1 ≠ c3)
    (turn : ∀ i v (u : Str → Option Value) oat gx tat I oI h tk, ys'[i]? = some v → oat.data = .cell (some (.int (placeN (split (c0.getD []) ks) i : Nat) tat)) → FontOk gx f c0 → SpIn gx ys (c0.getD []) → PrIn gx ys' (split (c0.getD []) ks) → (∀ x ∈ gx, x.1 ≠ c3) →
      Dc ≠ I → Ds ≠ I → c2 ≠ I → c3 ≠ I → (∀ x ∈ gx, x.1 ≠ I) → Fr h₀ env.locals h (fun y => if lawNs.contains y then u y else m₀ y) → News h₀ env.locals h ((I, oI) :: (Dc, W.listOf ys'.toArray nc) :: (Ds, LCg.lst ys) :: (c2, o2) :: (c3, oat) :: gx) →
      ∀ QT : Flow → Shared → Prop, (∀ s', PtEnd h₀ env.locals (LawJ m₀ Dc Ds f c2 c3 nc o2 c0 ys ys' ks (i + 1)) I oI { s with heap := h, toks := tk } s' → QT .next s') →
      wpAny (model prog w) A (assign (.Tuple elts kk tp) env v) (fun _ s₃ => wpAny (model prog w) A (execs body env) QT E s₃) E { s with heap := h, toks := tk })
    (done : ∀ (u : Str → Option Value) h tk, Fr h₀ env.locals h (fun y => if lawNs.contains y then u y else m₀ y) → Q .next { s with heap := h, toks := tk }) :
    wpAny (model prog w) A (pyIter (.ref Dc)) (fun it s₂ => TurnsAt prog w A h₀ env (.Tuple elts kk tp) body Q E it s₂) E s := by
  refine pt_iter (obj := W.listOf ys'.toArray nc) (vs := ys') (LawJ m₀ Dc Ds f c2 c3 nc o2 c0 ys ys' ks) hh ⟨rfl, _, rfl⟩ ?_ F N (LawJ.start ho hf hs hp hne) ?_ ?_
  · intro i m nx hJ
    obtain ⟨u, o, gx, t⟩ := hJ
    exact .inr (.head _)
  · intro i v m₁ nx I oI h tk hv hJ hI F9 N9 QT hQT
    obtain ⟨u, oat, gx, tat, hat, hfo, hsp9, hpr9, hne9⟩ := hJ
    exact turn i v u oat gx tat I oI h tk hv hat hfo hsp9 hpr9 hne9 (hI _ (.head _)) (hI _ (.tail _ (.head _))) (hI _ (.tail _ (.tail _ (.head _)))) (hI _ (.tail _ (.tail _ (.tail _ (.head _))))) (fun x hx => hI x (.tail _ (.tail _ (.tail _ (.tail _ hx))))) F9 N9 QT hQT
  · intro m₁ nx h4 tk hJ F9 N9
    obtain ⟨u, oat, gx, tat⟩ := hJ
    exact done u h4 tk F9
end
-- P10
section
theorem SpIn.get' {tl : List (Addr × Obj)} {vs : List Value} {xs : List Sp} (r : SpIn tl vs xs) {i : Nat} {v : Value} (hv : vs[i]? = some v) : ∃ a p t1 t2 t3, v = .ref a ∧ xs[i]? = some p ∧ (a, tupO [.int p.len t1, .int p.lo t2, .int p.hi t3]) ∈ tl := by
  induction r generalizing i with
  | nil => simp at hv
  | cons h1 _ ih =>
    cases i with
    | zero => simp at hv; subst hv; exact ⟨_, _, _, _, _, rfl, rfl, h1⟩
    | succ i => exact ih hv
theorem SpIn.length {tl : List (Addr × Obj)} {vs : List Value} {xs : List Sp} (r : SpIn tl vs xs) : vs.length = xs.length := by
  induction r with
  | nil => rfl
  | cons _ _ ih => simp [ih]
theorem szOf_take {ps : List Sp} {r : List Int} {i : Nat} {p : Sp} (h : ps[i]? = some p) : szOf (ps.take (i + 1)) r = szOf (ps.take i) r ++ (if holdsB p.len p.lo p.hi r then [p.len] else []) := by
  rw [List.take_add_one, h, Option.toList_some, szOf, szOf, List.filter_append, List.map_append]
  congr 1
  cases hb : holdsB p.len p.lo p.hi r <;> simp [List.filter_cons, hb]
section
variable {prog : Program} {w : World} {A : Around} {E : Value → Shared → Prop}
/-- the sizes of the spaces that hold: a comprehension with one test over the spaces of the ledger -/
theorem sz_src {h₀ : Heap} {L : Addr} {m : Str → Option Value} {env : Env} {ct elt : Expr} {x : Str} {scope : Scope} {cl : List (Str × Addr)} {Fin : Shared → List Value → List (Addr × Obj) → Prop} {ax : Addr} {gx news : List (Addr × Obj)} {vs : List Value} {ps : List Sp} {s₁ : Shared} (r : List Int)
    (hh : A.handled = none) (F : Fr h₀ L s₁.heap m) (N : News h₀ L s₁.heap news) (hm : (ax, LCg.lst vs) ∈ news) (hs : SpIn gx vs ps) (hsub : ∀ z ∈ gx, z ∈ news) (hl : ps.length ≤ 4)
    (turn : ∀ g (p : Sp) a t1 t2 t3 ys I oI C oC D m₂ h tk (E' : Value → Shared → Prop) (R : Value → List (Addr × Obj) → Prop) (R' : Value → List (Addr × Obj) → Prop), p ∈ ps → (a, tupO [.int p.len t1, .int p.lo t2, .int p.hi t3]) ∈ news → LCg.NsObj oC m₂ → m₂ x = some (.ref a) → Fr h₀ L h m → News h₀ L h ((I, oI) :: (C, oC) :: (D, LCg.lst ys) :: news) → LCg.Off3 I C D news → ((@Ne Nat I C) ∧ (@Ne Nat I D) ∧ (@Ne Nat C D)) →
      (holdsB p.len p.lo p.hi r = true → ∀ t, R (.int p.len t) news) → (holdsB p.len p.lo p.hi r = false → R' .none news) → LCg.SrcAt h₀ ax vs.toArray news →
      ∀ QB : Bool → Shared → Prop, (∀ s', wpAny (model prog w) A (eval elt (compEnvC scope cl C env)) (LCg.CompEnd h₀ L m { { s₁ with heap := g } with heap := h, toks := tk } I oI C oC D (LCg.lst ys) (LCg.SrcAt h₀ ax vs.toArray) R) E' s' → QB true s') →
      (∀ s', LCg.CompEnd h₀ L m { { s₁ with heap := g } with heap := h, toks := tk } I oI C oC D (LCg.lst ys) (LCg.SrcAt h₀ ax vs.toArray) R' Value.none s' → QB false s') →
      wpAny (model prog w) A (isTrue ct (compEnvC scope cl C env) (eval ct (compEnvC scope cl C env))) QB E' { { s₁ with heap := g } with heap := h, toks := tk })
    (fin : ∀ g ys, IntsAre ys (szOf ps r) → Fin { s₁ with heap := g } ys news) : LCt.CompSrcT prog w A h₀ L m env ct elt x scope cl Fin (.ref ax) s₁ := by
  have hlen := hs.length
  have hsrc : LCg.SrcAt h₀ ax vs.toArray news := .inr ⟨_, hm, rfl, _, rfl⟩
  refine LCt.CompSrcT.ledger hh F N hm (by rw [sizeLine_eq, List.size_toArray]; lia) fun g => ?_
  have key : ∀ (j i : Nat) (ys : List Value), i + j = vs.length → IntsAre ys (szOf (ps.take i) r) → LCt.CompRestT prog w A h₀ L m env ct elt x scope cl { s₁ with heap := g } (LCg.SrcAt h₀ ax vs.toArray) (fun i v => vs.toArray[i]? = some v) (Fin { s₁ with heap := g }) j i ys news := by
    intro j
    induction j with
    | zero =>
      intro i ys hi hy
      rw [List.take_of_length_le (by lia)] at hy
      exact LCt.CompRestT.zero (fin g ys hy)
    | succ j ih =>
      intro i ys hi hy
      refine LCt.CompRestT.succ ?_
      intro v I oI C oC D m₂ h tk E' hv hC hx F9 N9 off ne
      obtain ⟨a, p, t1, t2, t3, rfl, hp, hmem⟩ := hs.get' (by simpa using hv)
      refine turn g p a t1 t2 t3 ys I oI C oC D m₂ h tk E' _ _ (List.mem_of_getElem? hp) (hsub _ hmem) hC hx F9 N9 off ne (fun hb t => ?_) (fun hb => ?_) hsrc _ (fun s' hq => by rw [if_pos rfl]; exact hq) (fun s' hq => by rw [if_neg (by decide)]; exact hq)
      · refine ih (i + 1) _ (by lia) ?_
        rw [szOf_take hp, hb]
        exact IntsAre.append hy (.cons _ _ .nil)
      · refine ih (i + 1) _ (by lia) ?_
        rw [szOf_take hp, hb]
        simpa using hy
  have := key vs.length 0 [] (by lia) (by simpa [szOf] using IntsAre.nil)
  simpa using this
end
end
-- P11
section
noncomputable def pairD (x : Int × Int) : Dat := .tuple [.int x.1, .int x.2]
noncomputable def spD (p : Sp) : Dat := .tuple [.int p.len, .int p.lo, .int p.hi]
theorem PrIn.dat {tl : List (Addr × Obj)} {vs : List Value} {xs : List (Int × Int)} (r : PrIn tl vs xs) : DatAll tl vs (xs.map pairD) := by
  induction r with
  | nil => exact .nil
  | cons h _ ih => exact .cons (.tuple h (.cons (.int _ _) (.cons (.int _ _) .nil))) ih
theorem SpIn.dat {tl : List (Addr × Obj)} {vs : List Value} {xs : List Sp} (r : SpIn tl vs xs) : DatAll tl vs (xs.map spD) := by
  induction r with
  | nil => exact .nil
  | cons h _ ih => exact .cons (.tuple h (.cons (.int _ _) (.cons (.int _ _) (.cons (.int _ _) .nil)))) ih
theorem pairD_ok (xs : List (Int × Int)) : ∀ d ∈ xs.map pairD, kqdOk 8 d = true := by
  intro d hd
  obtain ⟨x, _, rfl⟩ := List.mem_map.mp hd
  rfl
theorem spD_ok (xs : List Sp) : ∀ d ∈ xs.map spD, kqdOk 8 d = true := by
  intro d hd
  obtain ⟨x, _, rfl⟩ := List.mem_map.mp hd
  rfl
section
variable {prog : Program} {w : World} {A : Around} {E : Value → Shared → Prop} {s : Shared} {h₀ : Heap} {L : Addr} {m : Str → Option Value} {news : List (Addr × Obj)}
/-- two lists of pairs that tell the same are not unequal -/
theorem ne_pairs {a b : Addr} {ka kb : Nat} {xs ys : List Value} {ps qs : List (Int × Int)} {gx gy : List (Addr × Obj)} {Q : Value → Shared → Prop}
    (N : News h₀ L s.heap news) (ma : (a, W.listOf xs.toArray ka) ∈ news) (Da : PrIn gx xs ps) (sa : ∀ p ∈ gx, p ∈ news) (mb : (b, W.listOf ys.toArray kb) ∈ news) (Db : PrIn gy ys qs) (sb : ∀ p ∈ gy, p ∈ news) (hu : A.units + 64 < cLine) (e : ps = qs)
    (h : Q (.bool false) s) : wpAny (model prog w) A (compareOp .NotEq (.ref a) (.ref b)) Q E s := by
  refine kqd_ne N ma rfl rfl Da.dat sa mb rfl rfl Db.dat sb (pairD_ok _) (pairD_ok _) hu ?_
  subst e
  simpa using h
theorem eq_spaces {a b : Addr} {ka kb : Nat} {xs : List Value} {ps : List Sp} {gx : List (Addr × Obj)} {Q : Value → Shared → Prop}
    (N : News h₀ L s.heap news) (ma : (a, W.listOf xs.toArray ka) ∈ news) (Da : SpIn gx xs ps) (sa : ∀ p ∈ gx, p ∈ news) (mb : (b, W.listOf (List.toArray []) kb) ∈ news) (hu : A.units + 64 < cLine)
    (h : Q (.bool ps.isEmpty) s) : wpAny (model prog w) A (compareOp .Eq (.ref a) (.ref b)) Q E s := by
  refine kqd_eq N ma rfl rfl Da.dat sa mb rfl rfl (DatAll.nil (news := [])) (fun _ hx => nomatch hx) (spD_ok _) (fun _ hx => nomatch hx) hu ?_
  have key : ∀ b : Bool, (b = true ↔ ps.map spD = []) → Q (.bool b) s := fun b hb => by
    have e : b = ps.isEmpty := by
      rw [Bool.eq_iff_iff, hb]
      simp
    rw [e]; exact h
  exact key _ decide_eq_true_iff
theorem add_K {a b : Addr} {ka kb : Nat} {vs ws : List Value} {Q : Value → Shared → Prop} (F : Fr h₀ L s.heap m) (N : News h₀ L s.heap news) (ma : (a, W.listOf vs.toArray ka) ∈ news) (mb : (b, W.listOf ws.toArray kb) ∈ news) (hz : vs.length + ws.length ≤ 4096)
    (h : ∀ D h', Fr h₀ L h' m → News h₀ L h' ((D, W.listOf (List.toArray (vs ++ ws)) 0) :: news) → (∀ p ∈ news, p.1 < D) → Q (.ref D) { s with heap := h' }) : wpAny (model prog w) A (binaryOp .Add (.ref a) (.ref b)) Q E s := by
  refine add_lists F N (News.isList N ma) (News.isList N mb) (fun h' F' N' => h _ h' F' N' fun p hp => Heap.lt_size (N p hp).1) (by rw [sizeLine_eq]; omega)
end
theorem PrIn.append {tl : List (Addr × Obj)} {vs ws : List Value} {xs ys : List (Int × Int)} (r : PrIn tl vs xs) (q : PrIn tl ws ys) : PrIn tl (vs ++ ws) (xs ++ ys) := by
  induction r with
  | nil => exact q
  | cons h _ ih => exact .cons h ih
end
-- P12
section

end
-- F1
section
/-- the call of a class of the text's own: its __init__ is walked upon the new object alone -/
theorem enterInit {prog : Program} {w : World} {K : Frag} {p : Program} {loose : List Str} {mean : ExcName → Option Value} {mg mb : Str → Option Value} {A : Around} {s : Shared} {E Q : Value → Shared → Prop}
    {name qual : Str} {params : Arguments} {body : List Stmt} {scope : Scope} {dV kV doc pm cdv ct oc : Value} {an od : Option Addr} {osl : Array (Option Value)} {C f : Addr} {pos : List Value} {binds : Addr → List (Str × Value)}
    (X : K.In s.heap) (T : Top p loose mean mg mb s.heap) (hm : makesIn K C = true) (hi : findIn K (.ref C) "__init__" = some (some (.ref f))) (hf : typeIn K (.ref f) = some (.type "function"))
    (ho : K.lookup f = some ⟨oc, od, .func (fnOf name qual params body scope dV kV doc pm an cdv ct), osl⟩) (hcd : codeIn K cdv qual = true) (hroom : (A.under (.builtin "type.__call__" ⟨.ref C :: pos, []⟩)).depth < recursionLimit)
    (hbind : ∀ (x : Addr) (s' : Shared), BindsTo s' (fnOf name qual params body scope dV kV doc pm an cdv ct) ⟨.ref x :: pos, []⟩ (binds x)) (hloc : ∀ x, ∀ y ∈ binds x, scope.names.lookup y.1 = some .local)
    (h : ∀ x dx g L' h₁ tk (QF : Flow → Shared → Prop), (∀ s', Q (.ref x) s' → QF .next s') → s.heap.StaysIn g → s.heap.get? x = none → s.heap.get? dx = none → dx < x → K.In g → Fr g L' h₁ (fun y => (binds x).reverse.lookup y) → News g L' h₁ [(x, instObj C dx), (dx, dictOf [] 0)] →
      wpAny (model prog w) ((A.under (.builtin "type.__call__" ⟨.ref C :: pos, []⟩)).deeper (envOf qual scope L' f cdv)) (execs body (envOf qual scope L' f cdv))
        QF (fun _ _ => False)
        { s with heap := h₁, toks := tk })
    (hco : scope.isCoroutine = false) (hgen : scope.isGenerator = false) (hk : scope.kind = .function)
    (hcell : ∀ x ∈ scope.names, x.2 ≠ .cell) : wpAny (model prog w) A (call (.ref C) pos) Q E s := by
  obtain ⟨hh, gs, d, t, os⟩ := s
  dsimp only at X T h
  have k2 : hh.StaysIn ((hh.push emptyDict).push (instObj C hh.objs.size)) := fun b o e => Heap.get?_push_of_some _ (Heap.get?_push_of_some _ e)
  have hdx : ((hh.push emptyDict).push (instObj C hh.objs.size)).get? hh.objs.size = some emptyDict := Heap.get?_push_of_some _ (Heap.get?_push_size _ rfl)
  have hx : ((hh.push emptyDict).push (instObj C hh.objs.size)).get? (hh.objs.size + 1) = some (instObj C hh.objs.size) := by
    have := Heap.get?_push_size (o := instObj C hh.objs.size) (hh.push emptyDict) rfl
    rwa [Heap.size_push] at this
  have none_of : ∀ a, hh.objs.size ≤ a → hh.get? a = none := fun a ha => by
    cases e : hh.get? a with
    | none => rfl
    | some o => exact absurd (Heap.lt_size e) (Nat.not_lt.mpr ha)
  generalize hH : (hh.push emptyDict).push (instObj C hh.objs.size) = H at k2 hdx hx
  refine wpAny_call (make_core (makes_of X hm) (looks_findIn X hi) (fun self => bind_fn X self hf) (.inl rfl) ?_)
  rw [hH]
  refine codeAny_call_def (fd := fnOf name qual params body scope dV kV doc pm an cdv ct) (body := body) (binds := binds (hh.objs.size + 1)) hroom ((X.keeps k2) _ _ ho) rfl (T.nolimit.keeps k2) (codeRec_of (X.keeps k2) hcd) rfl (hbind _ _) hcell (hloc _) (fun h₁ hns hk₁ => ?_) hco hgen hk
  have off : ∀ {b : Addr} {o : Obj}, hh.get? b = some o → b ∉ [hh.objs.size + 1, hh.objs.size] := fun {b o} e hb => by
    have hl := Heap.lt_size e
    simp only [List.mem_cons, List.not_mem_nil, or_false] at hb
    rcases hb with rfl | rfl
    · exact absurd hl (Nat.not_lt.mpr (Nat.le_succ _))
    · exact absurd hl (Nat.lt_irrefl _)
  have sg : hh.StaysIn (hideAll H [hh.objs.size + 1, hh.objs.size]) := fun b o e => hideAll_get _ (k2 _ _ e) (off e)
  refine wpAny_mono (h (hh.objs.size + 1) hh.objs.size (hideAll H [hh.objs.size + 1, hh.objs.size]) _ h₁ _ (fun (fl : Flow) (s' : Shared) => (match fl with | .ret v => v | _ => Value.none) = Value.none ∧ Q (.ref (hh.objs.size + 1)) s') (fun _ hq => ⟨rfl, hq⟩) sg (none_of _ (Nat.le_succ _)) (none_of _ (Nat.le_refl _)) (Nat.lt_succ_self _) (X.keeps sg)
    ⟨hns, fun b o e => hk₁ b o (of_hideAll _ e), Nat.le_of_eq (hideAll_size _ _)⟩ (fun x hx' => ?_)) (fun fl s' hl => hl) fun _ _ x => x.elim
  simp only [List.mem_cons, List.not_mem_nil, or_false] at hx'
  rcases hx' with rfl | rfl
  · exact ⟨hk₁ _ _ hx, Nat.ne_of_lt (Heap.lt_size hx), hideAll_none _ (.head _)⟩
  · exact ⟨hk₁ _ _ hdx, Nat.ne_of_lt (Heap.lt_size hdx), hideAll_none _ (.tail _ (.head _))⟩
end
-- F2
section
theorem init_end {s : Shared} {g h' : Heap} {L x dx C : Addr} {m : Str → Option Value} {es : List DictEntry} {n : Nat} (hg : s.heap.StaysIn g) (hx : s.heap.get? x = none) (hdx : s.heap.get? dx = none)
    (F : Fr g L h' m) (N : News g L h' [(x, instObj C dx), (dx, dictOf es n)]) : s.heap.StaysIn h' ∧ Fresh s.heap h' [(x, instObj C dx), (dx, dictOf es n)] :=
  ⟨fun b o e => F.keep b o (hg b o e), fun q hq => ⟨(N q hq).1, by
    simp only [List.mem_cons, List.not_mem_nil, or_false] at hq
    rcases hq with rfl | rfl
    · exact hx
    · exact hdx⟩⟩
set_option maxHeartbeats 1000000 in
theorem cmap_ct {w : World} {mean : ExcName → Option Value} {mg mb : Str → Option Value} {dp un : Nat} {fr : Option (List Env)} {gd : Option (List Code)} {s : Shared} {E Q : Value → Shared → Prop} {a1 a2 : Addr}
    (X : (hd.heap_39 w.params).In s.heap) (T : TQ mean mg mb s.heap) (hd : dp + 3 < recursionLimit)
    (h : ∀ x dx es n h' tk', getL (Str.ofString "spaces") es = some (some (.ref a1)) → s.heap.StaysIn h' → Fresh s.heap h' [(x, instObj 45 dx), (dx, dictOf es n)] → Q (.ref x) { s with heap := h', toks := tk' }) :
    wpAny (model PQ w) (AQ dp un fr gd) (call (.ref 45) [.ref a1, .ref a2]) Q E s := by
  k_with_none
  k_dflt (refine enterInit (binds := fun x => [(Str.ofString "self", .ref x), (Str.ofString "spaces", .ref a1), (Str.ofString "chars", .ref a2)]) X T (by k_is) (by k_is) (by k_is) (by k_is) (by k_is) ?room (fun _ _ => BindsTo.of_eq rfl) (fun _ => locs rfl) ?_ rfl rfl rfl (by decide))
  case room => exact (by simp only [depth_under_make]; omega)
  intro x dx g L' h₁ tk QF hQF hg hx hdx hlt Xg F N
  replace hlt := ltN hlt
  repeat' (first | (k_unfold; (try dsimp only)) | (walk1 <;> try dsimp only) | (dsimp only; walk1) | fail "no step")
  rename Fr _ _ _ _ => kF
  rename News _ _ _ _ => kN
  exact hQF _ (h _ _ _ _ _ _ (by rfl) (init_end hg hx hdx kF kN).1 (init_end hg hx hdx kF kN).2)
set_option maxHeartbeats 2000000 in
theorem font_ct {w : World} {mean : ExcName → Option Value} {mg mb : Str → Option Value} {dp un : Nat} {fr : Option (List Env)} {gd : Option (List Code)} {s : Shared} {E Q : Value → Shared → Prop} {a1 a4 a7 : Addr} {v : Value} {i5 i6 : Int} {t5 t6 : Tok}
    (X : (hd.heap_39 w.params).In s.heap) (T : TQ mean mg mb s.heap) (hd : dp + 3 < recursionLimit)
    (h : ∀ f df es n h' tk', getL (Str.ofString "cutting") es = some (some v) → getL (Str.ofString "codes") es = some none → s.heap.StaysIn h' → Fresh s.heap h' [(f, instObj 161 df), (df, dictOf es n)] → Q (.ref f) { s with heap := h', toks := tk' }) :
    wpAny (model PQ w) (AQ dp un fr gd) (call (.ref 161) [.ref a1, v, .none, .ref a4, .int i5 t5, .int i6 t6, .ref a7]) Q E s := by
  k_with_none
  k_dflt (refine enterInit (binds := fun x => [(Str.ofString "self", .ref x), (Str.ofString "names", .ref a1), (Str.ofString "cutting", v), (Str.ofString "unicode", .none), (Str.ofString "rows", .ref a4), (Str.ofString "default", .int i5 t5), (Str.ofString "unit", .int i6 t6), (Str.ofString "standard", .ref a7)]) X T (by k_is) (by k_is) (by k_is) (by k_is) (by k_is) ?room (fun _ _ => BindsTo.of_eq rfl) (fun _ => locs rfl) ?_ rfl rfl rfl (by decide))
  case room => exact (by simp only [depth_under_make]; omega)
  intro x dx g L' h₁ tk QF hQF hg hx hdx hlt Xg F N
  replace hlt := ltN hlt
  repeat' (first | (k_unfold; (try dsimp only)) | (walk1 <;> try dsimp only) | (dsimp only; walk1) | fail "no step")
  rename Fr _ _ _ _ => kF
  rename News _ _ _ _ => kN
  exact hQF _ (h _ _ _ _ _ _ (by rfl) (by rfl) (init_end hg hx hdx kF kN).1 (init_end hg hx hdx kF kN).2)
end
-- C13
section
theorem pot_K {w : World} {mean : ExcName → Option Value} {mg mb : Str → Option Value} {dp un : Nat} {fr : Option (List Env)} {gd : Option (List Code)} {s : Shared} {g : Heap} {L : Addr} {m : Str → Option Value} {rest : List (Addr × Obj)} {E Q : Value → Shared → Prop} {l : Addr} {vs : List Value} {ns : List Int}
    (F : Fr g L s.heap m) (X : (hd.heap_39 w.params).In g) (T : TQ mean mg mb g) (N : News g L s.heap rest) (hd : dp + 1 < recursionLimit) (hl : g.IsList l vs.toArray) (hi : IntsAre vs ns) (hlen : ns.length ≤ 63)
    (h : ∀ (c' : Pot) (p q : Addr) h' tk', c'.Ok 0 → p ≠ q → (∀ x ∈ rest, x.1 ≠ p ∧ x.1 ≠ q) → Fr g L h' m → News g L h' ((p, c'.po q) :: (q, c'.qo) :: rest) → Q (.ref p) { s with heap := h', toks := tk' }) :
    wpAny (model PQ w) (AQ dp un fr gd) (call (.ref 170) [.ref l]) Q E s := by
  refine pot_ct (X.keeps F.keep) (T.keeps F.keep) hd (stays_list F.keep hl) hi hlen fun c' p q h' tk' ok hpq st hp hq hc => ?_
  have G : Fresh s.heap h' (c'.led p q) := fun x hx => ⟨hc x hx, by
    rw [Pot.led_eq] at hx
    simp only [List.mem_cons, List.not_mem_nil, or_false] at hx
    rcases hx with rfl | rfl
    · exact hp
    · exact hq⟩
  refine h c' p q h' tk' ok hpq (fun x hx => ⟨?_, ?_⟩) (F.keptAll st) (G.news F N st)
  · rintro rfl
    rw [(N x hx).1] at hp
    cases hp
  · rintro rfl
    rw [(N x hx).1] at hq
    cases hq
theorem mul_op {prog : Program} {w : World} {A : Around} {E : Value → Shared → Prop} {s : Shared} {h₀ : Heap} {L : Addr} {m : Str → Option Value} {news : List (Addr × Obj)} {l : Addr} {v : Value} {u : Tok} {Q : Value → Shared → Prop} {k : Nat}
    (Fm : Fr h₀ L s.heap m) (N : News h₀ L s.heap ((l, W.listOf #[v] k) :: news))
    (h : ∀ D h' ws, Fr h₀ L h' m → News h₀ L h' ((D, W.listOf (List.toArray ws) 0) :: news) → (∀ p ∈ news, p.1 ≠ D) → Q (.ref D) { s with heap := h' }) : wpAny (model prog w) A (binaryOp .Mult (.ref l) (.int 256 u)) Q E s :=
  KMa.mul (vs := [v]) Fm N (News.isList N (.head _)) (by decide) (by decide) (by simp) rfl fun D h' F' N' l1 => h D h' (List.replicate (Int.toNat 256) [v]).flatten F' (fun z hz => N' z (by
    rcases List.mem_cons.mp hz with h | h
    · rw [h]; exact .head _
    · exact .tail _ (.tail _ h))) (fun z hz => Nat.ne_of_lt (l1 z (.tail _ hz)))
theorem Fresh.ne {h h' : Heap} {tl : List (Addr × Obj)} (G : Fresh h h' tl) {q : Addr × Obj} (hq : q ∈ tl) {a : Addr} {o : Obj} (e : h.get? a = some o) : q.1 ≠ a := by
  rintro rfl
  have := (G q hq).2
  rw [e] at this
  cases this
def MidQ (g : Heap) (L : Addr) (m : Str → Option Value) (led : List (Addr × Obj)) (s₀ s' : Shared) : Prop :=
  ∃ h' tk', s' = { s₀ with heap := h', toks := tk' } ∧ Fr g L h' m ∧ News g L h' led
theorem mid_false {prog : Program} {w : World} {A : Around} {E : Value → Shared → Prop} {Q : Bool → Shared → Prop} {s : Shared} {g : Heap} {L : Addr} {m : Str → Option Value} {led : List (Addr × Obj)} {t : Sem Bool} (_F : Fr g L s.heap m) (_N : News g L s.heap led)
    (h1 : ∀ QB : Bool → Shared → Prop, (∀ s', MidQ g L m led s s' → QB false s') → wpAny (model prog w) A t QB E s)
    (h2 : ∀ h' tk', Fr g L h' m → News g L h' led → Q false { s with heap := h', toks := tk' }) : wpAny (model prog w) A t Q E s := by
  refine wpAny_mono (h1 (fun b s' => b = false ∧ MidQ g L m led s s') fun _ hq => ⟨rfl, hq⟩) (fun b s' hb => ?_) fun _ _ e => e
  obtain ⟨rfl, h', tk', rfl, F, N⟩ := hb
  exact h2 h' tk' F N
theorem clip_add {n p : Nat} {x : Int} (h : 0 ≤ x) : clipAt n ((p : Int) + x) = min (p + x.toNat) n := by
  have e : (p : Int) + x = ((p + x.toNat : Nat) : Int) := by omega
  rw [e, clipAt_nat]
theorem law_map (u m₀ : Str → Option Value) (a b c : Option Value) : (fun z => if z = Str.ofString "sizes" then a else if z = Str.ofString "code" then b else if z = Str.ofString "length" then c else if lawNs.contains z = true then u z else m₀ z) =
    (fun z => if lawNs.contains z = true then (if z = Str.ofString "sizes" then a else if z = Str.ofString "code" then b else if z = Str.ofString "length" then c else u z) else m₀ z) := by
  funext z
  by_cases h1 : z = Str.ofString "sizes"
  · subst h1; rfl
  by_cases h2 : z = Str.ofString "code"
  · subst h2; rfl
  by_cases h3 : z = Str.ofString "length"
  · subst h3; rfl
  rw [if_neg h1, if_neg h2, if_neg h3, if_neg h1, if_neg h2, if_neg h3]
theorem turn_end {s : Shared} {env : Env} {m₀ u : Str → Option Value} {Dc Ds f c2 c3 I : Addr} {oI o2 o' : Obj} {nc : Nat} {c0 : Option (List Sp)} {ys ys' : List Value} {ks : List Int} {i : Nat} {s0 : Shared} {h' : Heap} {tk' : Nat} {gx led : List (Addr × Obj)} {a b c : Option Value} {x : Int} {t : Tok}
    (F : Fr s.heap env.locals h' (fun z => if z = Str.ofString "sizes" then a else if z = Str.ofString "code" then b else if z = Str.ofString "length" then c else if lawNs.contains z = true then u z else m₀ z))
    (N : News s.heap env.locals h' led) (hs : ∀ z ∈ (I, oI) :: (Dc, W.listOf ys'.toArray nc) :: (Ds, LCg.lst ys) :: (c2, o2) :: (c3, o') :: gx, z ∈ led) (hd : o'.data = .cell (some (.int ((placeN (split (c0.getD []) ks) i : Nat) + x) t))) (hp : placeN (split (c0.getD []) ks) (i + 1) = placeN (split (c0.getD []) ks) i + x.toNat) (hx : 1 ≤ x)
    (hf : FontOk gx f c0) (hS : SpIn gx ys (c0.getD [])) (hP : PrIn gx ys' (split (c0.getD []) ks)) (hne : ∀ x ∈ gx, x.1 ≠ c3) (h1 : Dc ≠ I) (h2 : Ds ≠ I) (h3 : c2 ≠ I) (h4 : c3 ≠ I) (h5 : ∀ x ∈ gx, x.1 ≠ I) :
    PtEnd s.heap env.locals (LawJ m₀ Dc Ds f c2 c3 nc o2 c0 ys ys' ks (i + 1)) I oI s0 { s0 with heap := h', toks := tk' } := by
  rw [law_map] at F
  refine ⟨h', tk', _, (Dc, W.listOf ys'.toArray nc) :: (Ds, LCg.lst ys) :: (c2, o2) :: (c3, o') :: gx, rfl, F, fun z hz => N z (hs z hz), ?_, .mk _ o' gx t ?_ hf hS hP hne⟩
  · intro p hp
    simp only [List.mem_cons] at hp
    rcases hp with rfl | rfl | rfl | rfl | hp
    · exact h1
    · exact h2
    · exact h3
    · exact h4
    · exact h5 p hp
  · have e : ((placeN (split (c0.getD []) ks) (i + 1) : Nat) : Int) = (placeN (split (c0.getD []) ks) i : Nat) + x := by omega
    rw [e]; exact hd
def MidP (x : Str) (g : Heap) (L : Addr) (m : Str → Option Value) (led : List (Addr × Obj)) (s₀ s' : Shared) : Prop :=
  ∃ h' tk' v, s' = { s₀ with heap := h', toks := tk' } ∧ Fr g L h' (fun z => if z = x then v else m z) ∧ News g L h' led
theorem split_mid {prog : Program} {w : World} {A : Around} {env : Env} {E : Value → Shared → Prop} {Q : Flow → Shared → Prop} {s : Shared} {g : Heap} {L : Addr} {m : Str → Option Value} {led : List (Addr × Obj)} (x : Str) (n : Nat) (_F : Fr g L s.heap m) (_N : News g L s.heap led) {ss : List Stmt}
    (h1 : ∀ QT : Flow → Shared → Prop, (∀ s', MidP x g L m led s s' → QT .next s') → wpAny (model prog w) A (execs (ss.take n) env) QT E s)
    (h2 : ∀ h' tk' v, Fr g L h' (fun z => if z = x then v else m z) → News g L h' led → wpAny (model prog w) A (execs (ss.drop n) env) Q E { s with heap := h', toks := tk' }) : wpAny (model prog w) A (execs ss env) Q E s :=
  execs_split (MidP x g L m led s) n (fun QT hQT _ => h1 QT hQT) fun s' hs => by
    obtain ⟨h', tk', v, rfl, F, N⟩ := hs
    exact h2 h' tk' v F N
theorem szOf_len (ps : List Sp) (r : List Int) : (szOf ps r).length ≤ ps.length := by
  rw [szOf, List.length_map]
  exact List.length_filter_le _ _
theorem cut_from (n : Nat) (ks : List Int) : List.take (ks.length - min n ks.length) (List.drop (min n ks.length) ks) = ks.drop n := by
  rcases Nat.le_total n ks.length with h | h
  · rw [Nat.min_eq_left h, List.take_of_length_le (by rw [List.length_drop]; omega)]
  · rw [Nat.min_eq_right h, List.drop_of_length_le (Nat.le_refl _), List.drop_of_length_le h, List.take_nil]
theorem cut_upto (n : Nat) (ks : List Int) : List.take (min n ks.length) ks = ks.take n := by
  rcases Nat.le_total n ks.length with h | h
  · rw [Nat.min_eq_left h]
  · rw [Nat.min_eq_right h, List.take_length, List.take_of_length_le h]
inductive SegA (s : Shared) (L : Addr) : Shared → Prop
  | mk (h' : Heap) (tk' : Nat) (c : Pot) (p q Ds : Addr) (ys : List Value) (tl : List (Addr × Obj)) (ps : List Sp) (bw : Bool) (o1 o2 o3 : Obj) (a2 a3 : Option Value) (u : Str → Option Value) : (c.Ok 50) → (p ≠ q) → (Fr s.heap L h' (fun y => if y = Str.ofString "spaces" then some (.ref Ds) else if y = Str.ofString "is_wide" then some (.bool bw) else u y)) → (News s.heap L h' ((p, c.po q) :: (q, c.qo) :: (Ds, LCg.lst ys) :: (L + 1 + 1 + 1, o3) :: (L + 1 + 1, o2) :: (L + 1, o1) :: tl)) → (o1.data = .cell (some (.ref p))) → (o2.data = .cell a2) → (o3.data = .cell a3) → (SpIn tl ys ps) → (ps.length ≤ 4) → ((∀ x ∈ ps, Sp.Ok x)) → ((bw = false → ps = [])) → ((∀ x ∈ (Ds, LCg.lst ys) :: (L + 1 + 1 + 1, o3) :: (L + 1 + 1, o2) :: (L + 1, o1) :: tl, x.1 ≠ p ∧ x.1 ≠ q)) → ((∀ x ∈ (Ds, LCg.lst ys) :: tl, x.1 ≠ L + 1 + 1 + 1 ∧ x.1 ≠ L + 1 + 1)) → SegA s L { s with heap := h', toks := tk' }
inductive SegB (s : Shared) (L : Addr) : Shared → Prop
  | mk (h' : Heap) (tk' : Nat) (Ds : Addr) (ys : List Value) (tl : List (Addr × Obj)) (ps : List Sp) (bw : Bool) (o2 o3 : Obj) (b : Array UInt8) (t : Tok) (ks : List Int) (a3 : Option Value) (u : Str → Option Value) : (Fr s.heap L h' (fun y => if y = Str.ofString "spaces" then some (.ref Ds) else if y = Str.ofString "is_wide" then some (.bool bw) else u y)) → (News s.heap L h' ((Ds, LCg.lst ys) :: (L + 1 + 1, o2) :: (L + 1 + 1 + 1, o3) :: tl)) → (o2.data = .cell (some (.bytes b t))) → (o3.data = .cell a3) → (KBw.bInts b = ks) → (ks.length ≤ 12) → ((∀ x ∈ ks, 0 ≤ x ∧ x < 256)) → (SpIn tl ys ps) → (ps.length ≤ 4) → ((∀ x ∈ ps, Sp.Ok x)) → ((bw = false → ps = [])) → ((∀ x ∈ (Ds, LCg.lst ys) :: tl, x.1 ≠ L + 1 + 1 + 1)) → SegB s L { s with heap := h', toks := tk' }
inductive SegC (s : Shared) (L : Addr) : Shared → Prop
  | mk (h' : Heap) (tk' : Nat) (f Ds : Addr) (ys : List Value) (fx : List (Addr × Obj)) (c0 : Option (List Sp)) (o2 o3 : Obj) (b : Array UInt8) (t : Tok) (ks : List Int) (a3 : Option Value) (u : Str → Option Value) : (Fr s.heap L h' (fun y => if y = Str.ofString "font" then some (.ref f) else if y = Str.ofString "spaces" then some (.ref Ds) else u y)) → (News s.heap L h' ((Ds, LCg.lst ys) :: (L + 1 + 1, o2) :: (L + 1 + 1 + 1, o3) :: fx)) → (o2.data = .cell (some (.bytes b t))) → (o3.data = .cell a3) → (KBw.bInts b = ks) → (ks.length ≤ 12) → ((∀ x ∈ ks, 0 ≤ x ∧ x < 256)) → (FontOk fx f c0) → (SpIn fx ys (c0.getD [])) → ((∀ x ∈ c0.getD [], Sp.Ok x)) → ((c0.getD []).length ≤ 4) → ((∀ x ∈ fx, x.1 ≠ L + 1 + 1 + 1)) → (Ds ≠ L + 1 + 1 + 1) → (L + 1 + 1 ≠ L + 1 + 1 + 1) → SegC s L { s with heap := h', toks := tk' }
theorem segC_wide {s : Shared} {L : Addr} {h' : Heap} {tk' : Nat} {f df tu x dx Ds : Addr} {es ex : List DictEntry} {n nx : Nat} {v : Value} {ys : List Value} {ps : List Sp} {led tl : List (Addr × Obj)} {o2 o3 : Obj} {b : Array UInt8} {t : Tok} {ks : List Int} {a3 : Option Value} {u : Str → Option Value}
    (F : Fr s.heap L h' (fun y => if y = Str.ofString "font" then some (.ref f) else if y = Str.ofString "spaces" then some (.ref Ds) else u y)) (N : News s.heap L h' led)
    (h1 : (f, instObj 161 df) ∈ led) (h2 : (df, dictOf es n) ∈ led) (g1 : getL (Str.ofString "cutting") es = some (some (.ref tu))) (g2 : getL (Str.ofString "codes") es = some none) (h3 : (tu, tupO [.ref x, v]) ∈ led)
    (h4 : (x, instObj 45 dx) ∈ led) (h5 : (dx, dictOf ex nx) ∈ led) (g3 : getL (Str.ofString "spaces") ex = some (some (.ref Ds))) (h6 : (Ds, LCg.lst ys) ∈ led) (h7 : (L + 1 + 1, o2) ∈ led) (h8 : (L + 1 + 1 + 1, o3) ∈ led) (ht : ∀ z ∈ tl, z ∈ led)
    (d2 : o2.data = .cell (some (.bytes b t))) (d3 : o3.data = .cell a3) (hB : KBw.bInts b = ks) (hks : ks.length ≤ 12) (hin : ∀ x ∈ ks, 0 ≤ x ∧ x < 256) (hS : SpIn tl ys ps) (hps : ps.length ≤ 4) (hok : ∀ x ∈ ps, Sp.Ok x)
    (n1 : f ≠ L + 1 + 1 + 1) (n2 : df ≠ L + 1 + 1 + 1) (n3 : tu ≠ L + 1 + 1 + 1) (n4 : x ≠ L + 1 + 1 + 1) (n5 : dx ≠ L + 1 + 1 + 1) (hoff : ∀ x ∈ (Ds, LCg.lst ys) :: tl, x.1 ≠ L + 1 + 1 + 1) : SegC s L { s with heap := h', toks := tk' } := by
  refine ⟨h', tk', f, Ds, ys, (f, instObj 161 df) :: (df, dictOf es n) :: (tu, tupO [.ref x, v]) :: (x, instObj 45 dx) :: (dx, dictOf ex nx) :: (Ds, LCg.lst ys) :: tl, some ps, o2, o3, b, t, ks, a3, u, F, fun z hz => N z ?_, d2, d3, hB, hks, hin, ?_, hS.mono (fun z hz => .tail _ (.tail _ (.tail _ (.tail _ (.tail _ (.tail _ hz)))))), hok, hps, fun z hz => ?_, hoff _ (.head _), Nat.ne_of_lt (Nat.lt_succ_self _)⟩
  · simp only [List.mem_cons] at hz
    rcases hz with rfl | rfl | rfl | rfl | rfl | rfl | rfl | rfl | rfl | hz <;> first | assumption | exact ht _ hz
  · exact font_wide (.head _) (.tail _ (.head _)) g1 g2 (.tail _ (.tail _ (.head _))) (.tail _ (.tail _ (.tail _ (.head _)))) (.tail _ (.tail _ (.tail _ (.tail _ (.head _))))) g3 (.tail _ (.tail _ (.tail _ (.tail _ (.tail _ (.head _)))))) (hS.mono (fun z hz => .tail _ (.tail _ (.tail _ (.tail _ (.tail _ (.tail _ hz))))))) hok hps
  · simp only [List.mem_cons] at hz
    rcases hz with rfl | rfl | rfl | rfl | rfl | hz
    · exact n1
    · exact n2
    · exact n3
    · exact n4
    · exact n5
    · exact hoff z (List.mem_cons.mpr hz)
theorem segC_simple {s : Shared} {L : Addr} {h' : Heap} {tk' : Nat} {f df Ds : Addr} {es : List DictEntry} {n : Nat} {ys : List Value} {led : List (Addr × Obj)} {o2 o3 : Obj} {b : Array UInt8} {t : Tok} {ks : List Int} {a3 : Option Value} {u : Str → Option Value} {tl : List (Addr × Obj)} {ps : List Sp}
    (F : Fr s.heap L h' (fun y => if y = Str.ofString "font" then some (.ref f) else if y = Str.ofString "spaces" then some (.ref Ds) else u y)) (N : News s.heap L h' led)
    (h1 : (f, instObj 161 df) ∈ led) (h2 : (df, dictOf es n) ∈ led) (g1 : getL (Str.ofString "cutting") es = some (some .none)) (g2 : getL (Str.ofString "codes") es = some none)
    (h6 : (Ds, LCg.lst ys) ∈ led) (h7 : (L + 1 + 1, o2) ∈ led) (h8 : (L + 1 + 1 + 1, o3) ∈ led)
    (d2 : o2.data = .cell (some (.bytes b t))) (d3 : o3.data = .cell a3) (hB : KBw.bInts b = ks) (hks : ks.length ≤ 12) (hin : ∀ x ∈ ks, 0 ≤ x ∧ x < 256) (hS : SpIn tl ys ps) (hps : ps = [])
    (n1 : f ≠ L + 1 + 1 + 1) (n2 : df ≠ L + 1 + 1 + 1) (n3 : Ds ≠ L + 1 + 1 + 1) : SegC s L { s with heap := h', toks := tk' } := by
  subst hps
  cases hS
  refine ⟨h', tk', f, Ds, [], (f, instObj 161 df) :: (df, dictOf es n) :: [], none, o2, o3, b, t, ks, a3, u, F, fun z hz => N z ?_, d2, d3, hB, hks, hin, font_simple (.head _) (.tail _ (.head _)) g1 g2, .nil, (fun _ hx => nomatch hx), Nat.zero_le _, fun z hz => ?_, n3, Nat.ne_of_lt (Nat.lt_succ_self _)⟩
  · simp only [List.mem_cons, List.not_mem_nil, or_false] at hz
    rcases hz with rfl | rfl | rfl | rfl | rfl <;> assumption
  · simp only [List.mem_cons, List.not_mem_nil, or_false] at hz
    rcases hz with rfl | rfl
    · exact n1
    · exact n2
theorem segA_end {s : Shared} {L : Addr} {h' : Heap} {tk' : Nat} {c : Pot} {k : Int} {p q Ds : Addr} {ys : List Value} {led tl : List (Addr × Obj)} {ps : List Sp} {bw : Bool} {o1 o2 o3 : Obj} {a2 a3 : Option Value} {u : Str → Option Value}
    (F : Fr s.heap L h' (fun y => if y = Str.ofString "spaces" then some (.ref Ds) else if y = Str.ofString "is_wide" then some (.bool bw) else u y)) (N : News s.heap L h' led) (kc : c.Ok k) (hk : k ≤ 50) (hpq : p ≠ q)
    (m1 : (p, c.po q) ∈ led) (m2 : (q, c.qo) ∈ led) (m3 : (Ds, LCg.lst ys) ∈ led) (m4 : (L + 1 + 1 + 1, o3) ∈ led) (m5 : (L + 1 + 1, o2) ∈ led) (m6 : (L + 1, o1) ∈ led) (ht : ∀ z ∈ tl, z ∈ led)
    (d1 : o1.data = .cell (some (.ref p))) (d2 : o2.data = .cell a2) (d3 : o3.data = .cell a3) (hsp : SpIn tl ys ps) (hps : ps.length ≤ 4) (hok : ∀ x ∈ ps, Sp.Ok x) (hbw : bw = false → ps = [])
    (hr : L + 1 + 1 + 1 ≠ p ∧ L + 1 + 1 + 1 ≠ q ∧ L + 1 + 1 ≠ p ∧ L + 1 + 1 ≠ q ∧ L + 1 ≠ p ∧ L + 1 ≠ q) (n1 : Ds ≠ p) (n2 : Ds ≠ q) (n3 : Ds ≠ L + 1 + 1 + 1) (n4 : Ds ≠ L + 1 + 1) (t1 : ∀ x ∈ tl, x.1 ≠ p ∧ x.1 ≠ q) (t2 : ∀ x ∈ tl, x.1 ≠ L + 1 + 1 + 1) (t3 : ∀ x ∈ tl, x.1 ≠ L + 1 + 1) : SegA s L { s with heap := h', toks := tk' } := by
  obtain ⟨r1, r2, r3, r4, r5, r6⟩ := hr
  refine ⟨h', tk', c, p, q, Ds, ys, tl, ps, bw, o1, o2, o3, a2, a3, u, kc.mono hk, hpq, F, fun z hz => N z ?_, d1, d2, d3, hsp, hps, hok, hbw, ?_, ?_⟩
  · simp only [List.mem_cons] at hz
    rcases hz with rfl | rfl | rfl | rfl | rfl | rfl | hz <;> first | assumption | exact ht _ hz
  · simp only [List.forall_mem_cons]
    exact ⟨⟨n1, n2⟩, ⟨r1, r2⟩, ⟨r3, r4⟩, ⟨r5, r6⟩, t1⟩
  · simp only [List.forall_mem_cons]
    exact ⟨⟨n3, n4⟩, fun x hx => ⟨t2 x hx, t3 x hx⟩⟩
theorem segB_end {s : Shared} {L : Addr} {h' : Heap} {tk' : Nat} {Ds : Addr} {ys : List Value} {led tl : List (Addr × Obj)} {ps : List Sp} {bw : Bool} {o2 o3 : Obj} {b : Array UInt8} {t : Tok} {ks : List Int} {a3 : Option Value} {u : Str → Option Value}
    (F : Fr s.heap L h' (fun y => if y = Str.ofString "spaces" then some (.ref Ds) else if y = Str.ofString "is_wide" then some (.bool bw) else u y)) (N : News s.heap L h' led)
    (m3 : (Ds, LCg.lst ys) ∈ led) (m5 : (L + 1 + 1, o2) ∈ led) (m4 : (L + 1 + 1 + 1, o3) ∈ led) (ht : ∀ z ∈ tl, z ∈ led) (d2 : o2.data = .cell (some (.bytes b t))) (d3 : o3.data = .cell a3) (hB : KBw.bInts b = ks) (hks : ks.length ≤ 12) (hin : ∀ x ∈ ks, 0 ≤ x ∧ x < 256)
    (hsp : SpIn tl ys ps) (hps : ps.length ≤ 4) (hok : ∀ x ∈ ps, Sp.Ok x) (hbw : bw = false → ps = []) (n3 : Ds ≠ L + 1 + 1 + 1) (t2 : ∀ x ∈ tl, x.1 ≠ L + 1 + 1 + 1 ∧ x.1 ≠ L + 1 + 1) : SegB s L { s with heap := h', toks := tk' } := by
  refine ⟨h', tk', Ds, ys, tl, ps, bw, o2, o3, b, t, ks, a3, u, F, fun z hz => N z ?_, d2, d3, hB, hks, hin, hsp, hps, hok, hbw, ?_⟩
  · simp only [List.mem_cons] at hz
    rcases hz with rfl | rfl | rfl | hz <;> first | assumption | exact ht _ hz
  · simp only [List.forall_mem_cons]
    exact ⟨n3, fun x hx => (t2 x hx).1⟩
theorem PrAt.get_elim {h : Heap} {vs : List Value} {xs : List (Int × Int)} (r : PrAt h vs xs) {i : Nat} {v : Value} {G : Value → Prop} (hv : vs[i]? = some v) (k : ∀ a x y t u, xs[i]? = some (x, y) → IsTup h a #[.int x t, .int y u] → G (.ref a)) : G v := by
  obtain ⟨a, x, y, t, u, rfl, hx, ht⟩ := r.get hv
  exact k a x y t u hx ht
set_option maxHeartbeats 8000000 in
theorem law_ct {w : World} {mean : ExcName → Option Value} {mg mb : Str → Option Value} {dp un : Nat} {gd : Option (List Code)} {s : Shared} {E Q : Value → Shared → Prop} {l : Addr} {vs : List Value} {ns : List Int}
    (X : (hd.heap_39 w.params).In s.heap) (T : TQ mean mg mb s.heap) (hd : dp + 12 < recursionLimit) (hun : un + 200 < cLine) (hl : s.heap.IsList l vs.toArray) (hi : IntsAre vs ns) (hlen : ns.length ≤ 63)
    (h : ∀ h' tk', s.heap.StaysIn h' → Q (.bool true) { s with heap := h', toks := tk' }) :
    wpAny (model PQ w) (AQ dp un (some []) gd) (call (.ref 201) [.ref l]) Q E s := by
  have K0 : Below (AQ dp un (some []) gd) s.heap [] s.heap := ⟨rfl, fun _ _ e => e, trivial⟩
  k_dflt (refine enterC (binds := [(Str.ofString "script", .ref l)]) X T (by k_is) (by k_is) ?room (BindsTo.of_eq rfl) (by rfl) (by decide) ?_ rfl rfl rfl)
  case room => exact (by dsimp only; omega)
  intro QF hQF L' h₁ tk₁ cells F N Y
  k_cells Y
  refine execs_split (SegA s L') 3 ?_ ?_
  · k_with_none
    k_with "call ref" => ((with_reducible show wpAny _ _ (call (Value.ref 170) [Value.ref _]) _ _ _); k_dflt ((with_reducible rename Fr _ _ _ _ => kF); (with_reducible rename News _ _ _ _ => kN); (with_reducible rename Top _ _ _ _ _ _ => kT); (with_reducible rename Frag.In _ _ => kX); k_dflt (refine' pot_K kF kX kT kN ?hd (by assumption) (by assumption) (by assumption) ?_; (case hd => (dsimp only [AQ, Around.deeper, Around.in1]; omega))); intro c' p' q' h' tk' ok' hpq' hr' F' N'; (have r1' := hr' _ (.head _)); (have r2' := hr' _ (.tail _ (.head _))); (have r3' := hr' _ (.tail _ (.tail _ (.head _)))); (dsimp only at r1' r2' r3'); (have r11' := r1'.1); (have r12' := r1'.2); (have r21' := r2'.1); (have r22' := r2'.2); (have r31' := r3'.1); (have r32' := r3'.2); clear hr' r1' r2' r3'; clear kF kN))
    k_with "call ref" => ((with_reducible show wpAny _ _ (call (Value.ref 177) [Value.ref _, Value.int _ _]) _ _ _); k_dflt ((with_reducible rename Fr _ _ _ _ => kF); (with_reducible rename News _ _ _ _ => kN); (with_reducible rename Top _ _ _ _ _ _ => kT); (with_reducible rename Frag.In _ _ => kX); (with_reducible rename Pot.Ok _ _ => kc); k_dflt (refine' draw_K kF kX kT kN kc ?hd (by assumption) ?hr ?hk ?h0 ?h1 ?_; (case hd => (dsimp only [AQ, Around.deeper, Around.in1]; omega)); (case hr => ((try dsimp only [List.cons_append, List.nil_append]); (repeat' (first | assumption | exact List.forall_mem_nil _ | refine List.forall_mem_cons.mpr ⟨⟨?_, ?_⟩, ?_⟩)) <;> (first | assumption | (dsimp only; first | assumption | (refine Ne.symm ?_; assumption)) | k_ne))); (case hk => omega); (case h0 => decide); (case h1 => decide)); intro c' d' t' h' tk' ok' h0' h1' F' N'; clear kc kF kN))
    k_with "call ref" => ((with_reducible show wpAny _ _ (call (Value.ref 184) [Value.ref _]) _ _ _); k_dflt ((with_reducible rename Fr _ _ _ _ => kF); (with_reducible rename News _ _ _ _ => kN); (with_reducible rename Top _ _ _ _ _ _ => kT); (with_reducible rename Frag.In _ _ => kX); (with_reducible rename Pot.Ok _ _ => kc); k_dflt (refine' space_K kF kX kT kN kc ?hd (by assumption) ?hr ?hk ?_; (case hd => (dsimp only [AQ, Around.deeper, Around.in1]; omega)); (case hr => ((try dsimp only [List.cons_append, List.nil_append]); (repeat' (first | assumption | exact List.forall_mem_nil _ | refine List.forall_mem_cons.mpr ⟨⟨?_, ?_⟩, ?_⟩)) <;> (first | assumption | (dsimp only; first | assumption | (refine Ne.symm ?_; assumption)) | k_ne))); (case hk => omega)); intro c' S' a' t1' t2' t3' h' tk' ok' hS' hp' hq' hx' F' N'; clear kc kF kN))
    k_with "CompSrc" => refine Stop.mk ?_
    k_with "all" => assumption
    k_with "ne" => (refine neN ?_; (try dsimp only); first | assumption | (refine Ne.symm ?_; assumption) | ((repeat (with_reducible rename And _ _ => hAnd; obtain ⟨_, _⟩ := hAnd)); first | assumption | (refine Ne.symm ?_; assumption)))
    k_with "room" => ((try simp only [depth_mark, depth_under_make, depth_under_kw, depth_in1, depth_deeper]); (try dsimp only [AQ, Around.deeper, Around.in1]); omega)
    intro QT hQT _
    dsimp only [List.take_succ_cons, List.take_zero]
    repeat' (first | (k_unfold; (try dsimp only)) | (walk1 <;> try dsimp only) | (dsimp only; walk1) | fail "no step")
    · (with_reducible rename Fr _ _ _ _ => kF); (with_reducible rename News _ _ _ _ => kN)
      rename IsRange _ _ _ _ _ _ _ _ => kR
      rename Pot.Ok _ _ => kc
      rename 0 < _ => hw
      unfold Stop
      k_dflt (refine sp_src rfl kF kN kR (by omega) (by omega) kc ?_ ?_)
      · intro g i c v ys tl I oI C oC D m₂ h9 tk9 E9 hi9 hJ hC hx F9 N9 off ne QE hQE
        clear kF kN kc
        have hc9 := hJ.1
        have hoff9 := fun x hx => And.intro (hJ.2.1 x hx).1 (hJ.2.1 x hx).2.1
        have hI1 := ne.1
        have hI2 := ne.2.1
        have hI3 := ne.2.2
        clear ne
        have off9 := off
        have z00 := off9.1.1
        have z01 := off9.1.2.1
        have z02 := off9.1.2.2
        have z10 := off9.2.1.1
        have z11 := off9.2.1.2.1
        have z12 := off9.2.1.2.2
        have z20 := off9.2.2.1.1
        have z21 := off9.2.2.1.2.1
        have z22 := off9.2.2.1.2.2
        have z30 := off9.2.2.2.1.1
        have z31 := off9.2.2.2.1.2.1
        have z32 := off9.2.2.2.1.2.2
        have z40 := off9.2.2.2.2.1.1
        have z41 := off9.2.2.2.2.1.2.1
        have z42 := off9.2.2.2.2.1.2.2
        clear off9
        dsimp only [List.cons_append, List.nil_append] at N9
        dsimp only
        repeat' (first | (k_unfold; (try dsimp only)) | (walk1 <;> try dsimp only) | (dsimp only; walk1) | fail "no step")
        rename Fr _ _ _ _ => kF
        rename News _ _ _ _ => kN
        exact hQE _ _ <| spj_end (rest := [_, _, _]) kF kN off (by assumption) (by assumption) (by assumption) (by assumption) (by assumption) hJ
      · intro g c ys tl ps hc9 hsp hps hok9 hoff
        have hoff9 := fun x hx => And.intro (hoff x hx).1 (hoff x hx).2.1
        have hoff1 := fun x hx => (hoff x hx).2.2 _ (.head _)
        have hoff2 := fun x hx => (hoff x hx).2.2 _ (.tail _ (.head _))
        dsimp only at hoff1 hoff2
        clear hoff
        clear kF kN kc
        dsimp only [List.cons_append, List.nil_append]
        repeat' (first | (k_unfold; (try dsimp only)) | (walk1 <;> try dsimp only) | (dsimp only; walk1) | fail "no step")
        (with_reducible rename Fr _ _ _ _ => kF); (with_reducible rename News _ _ _ _ => kN)
        exact hQT _ <| segA_end kF kN hc9 (by decide) hpq' (by k_mem) (by k_mem) (by k_mem) (by k_mem) (by k_mem) (by k_mem) (fun z hz => by repeat (first | exact hz | refine List.Mem.tail _ ?_)) (by assumption) (by assumption) (by assumption) hsp hps hok9 (fun e => absurd hw (of_decide_eq_false e)) ⟨r11', r12', r21', r22', r31', r32'⟩ (by first | assumption | (refine Ne.symm ?_; assumption) | k_ne) (by first | assumption | (refine Ne.symm ?_; assumption) | k_ne) (by first | assumption | (refine Ne.symm ?_; assumption) | k_ne) (by first | assumption | (refine Ne.symm ?_; assumption) | k_ne) hoff9 hoff1 hoff2
    · (with_reducible rename Fr _ _ _ _ => kF); (with_reducible rename News _ _ _ _ => kN)
      rename Pot.Ok _ _ => kc
      exact hQT _ <| segA_end (ys := []) (tl := []) (ps := []) kF kN kc (by decide) hpq' (by k_mem) (by k_mem) (by k_mem) (by k_mem) (by k_mem) (by k_mem) (fun _ hz => nomatch hz) (by assumption) (by assumption) (by assumption) .nil (by decide) (fun _ hz => nomatch hz) (fun _ => rfl) ⟨r11', r12', r21', r22', r31', r32'⟩ (by first | assumption | (refine Ne.symm ?_; assumption) | k_ne) (by first | assumption | (refine Ne.symm ?_; assumption) | k_ne) (by first | assumption | (refine Ne.symm ?_; assumption) | k_ne) (by first | assumption | (refine Ne.symm ?_; assumption) | k_ne) (fun _ hz => nomatch hz) (fun _ hz => nomatch hz) (fun _ hz => nomatch hz)
  intro s1 hs1
  rename_i o9 o8 o7 e9 e8 e7
  clear e9 e8 e7 N F hi hl hlen
  obtain ⟨h2, tk2, c, p, q, Ds, ys, tl, ps, bw, o1, o2, o3, a2, a3, u, kc, hpq, F2, N2, d1, d2, d3, hsp, hps, hok, hbw, hoff, hoff2⟩ := hs1
  dsimp only [List.drop]
  refine execs_split (SegB s L') 1 ?_ ?_
  · k_with_none
    k_with "call ref" => ((with_reducible show wpAny _ _ (call (Value.ref 177) [Value.ref _, Value.int _ _]) _ _ _); k_dflt ((with_reducible rename Fr _ _ _ _ => kF); (with_reducible rename News _ _ _ _ => kN); (with_reducible rename Top _ _ _ _ _ _ => kT); (with_reducible rename Frag.In _ _ => kX); (with_reducible rename Pot.Ok _ _ => kc); k_dflt (refine' draw_K kF kX kT kN kc ?hd (by assumption) ?hr ?hk ?h0 ?h1 ?_; (case hd => (dsimp only [AQ, Around.deeper, Around.in1]; omega)); (case hr => ((try dsimp only [List.cons_append, List.nil_append]); (repeat' (first | assumption | exact List.forall_mem_nil _ | refine List.forall_mem_cons.mpr ⟨⟨?_, ?_⟩, ?_⟩)) <;> (first | assumption | (dsimp only; first | assumption | (refine Ne.symm ?_; assumption)) | k_ne))); (case hk => omega); (case h0 => decide); (case h1 => decide)); intro c' d' t' h' tk' ok' h0' h1' F' N'; clear kc kF kN))
    k_with "CompSrc" => refine Stop.mk ?_
    k_with "all" => assumption
    k_with "ne" => (refine neN ?_; (try dsimp only); first | assumption | (refine Ne.symm ?_; assumption) | ((repeat (with_reducible rename And _ _ => hAnd; obtain ⟨_, _⟩ := hAnd)); first | assumption | (refine Ne.symm ?_; assumption)))
    k_with "room" => ((try simp only [depth_mark, depth_under_make, depth_under_kw, depth_in1, depth_deeper]); (try dsimp only [AQ, Around.deeper, Around.in1]); omega)
    intro QT hQT _
    dsimp only [List.take_succ_cons, List.take_zero]
    have y0 := hoff _ (.head _)
    have y00 := y0.1
    have y01 := y0.2
    have y1 := hoff _ (.tail _ (.head _))
    have y10 := y1.1
    have y11 := y1.2
    have y2 := hoff _ (.tail _ (.tail _ (.head _)))
    have y20 := y2.1
    have y21 := y2.2
    have y3 := hoff _ (.tail _ (.tail _ (.tail _ (.head _))))
    have y30 := y3.1
    have y31 := y3.2
    replace hoff := fun x hx => hoff x (.tail _ (.tail _ (.tail _ (.tail _ hx))))
    have x0 := hoff2 _ (.head _)
    have x1 := x0.1
    have x2 := x0.2
    replace hoff2 := fun x hx => hoff2 x (.tail _ hx)
    dsimp only at y00 y01 y10 y11 y20 y21 y30 y31 x1 x2
    clear y0 y1 y2 y3 x0
    have h23 : L' + 1 + 1 ≠ L' + 1 + 1 + 1 := Nat.ne_of_lt (Nat.lt_succ_self _)
    have h12 : L' + 1 ≠ L' + 1 + 1 := Nat.ne_of_lt (Nat.lt_succ_self _)
    have hoff3 := fun x hx => (hoff2 x hx).2
    repeat' (first | (k_unfold; (try dsimp only)) | (walk1 <;> try dsimp only) | (dsimp only; walk1) | fail "no step")
    (with_reducible rename Fr _ _ _ _ => kF); (with_reducible rename News _ _ _ _ => kN)
    rename IsRange _ _ _ _ _ _ _ _ => kR
    rename Pot.Ok _ _ => kc
    unfold Stop
    k_dflt (refine by_src rfl kF kN kR (by omega) (by omega) kc ?_ ?_)
    · intro g i c v ys I oI C oC D m₂ h9 tk9 E9 hc9 hi9 hJ hC hx F9 N9 off ne QE hQE
      clear kF kN kc
      have hI1 := ne.1
      have hI2 := ne.2.1
      have hI3 := ne.2.2
      clear ne
      have off9 := off
      have z00 := off9.1.1
      have z01 := off9.1.2.1
      have z02 := off9.1.2.2
      have z10 := off9.2.1.1
      have z11 := off9.2.1.2.1
      have z12 := off9.2.1.2.2
      have z20 := off9.2.2.1.1
      have z21 := off9.2.2.1.2.1
      have z22 := off9.2.2.1.2.2
      have z30 := off9.2.2.2.1.1
      have z31 := off9.2.2.2.1.2.1
      have z32 := off9.2.2.2.1.2.2
      have z40 := off9.2.2.2.2.1.1
      have z41 := off9.2.2.2.2.1.2.1
      have z42 := off9.2.2.2.2.1.2.2
      have z50 := off9.2.2.2.2.2.1.1
      have z51 := off9.2.2.2.2.2.1.2.1
      have z52 := off9.2.2.2.2.2.1.2.2
      clear off9
      dsimp only
      repeat' (first | (k_unfold; (try dsimp only)) | (walk1 <;> try dsimp only) | (dsimp only; walk1) | fail "no step")
      rename Fr _ _ _ _ => kF
      rename News _ _ _ _ => kN
      exact hQE _ _ <| byj_end kF kN off hJ (by assumption) (by assumption) (by assumption)
    · intro g c ys2 ks hc9 hys2 hks hin2
      clear kF kN kc
      repeat' (first | (k_unfold; (try dsimp only)) | (walk1 <;> try dsimp only) | (dsimp only; walk1) | fail "no step")
      (with_reducible rename Fr _ _ _ _ => kF); (with_reducible rename News _ _ _ _ => kN)
      rename KBa.In _ => kI
      refine hQT _ <| segB_end kF kN (by k_mem) (by k_mem) (by k_mem) (fun z hz => by repeat (first | exact hz | refine List.Mem.tail _ ?_)) (by assumption) (by assumption) (KBa.ints_make kI) hks hin2 hsp hps hok hbw (by assumption) hoff2
  intro s2 hs2
  clear hoff hoff2 hbw hok hps hsp d1 d2 d3 N2 F2 hpq kc
  obtain ⟨h2, tk2, Ds, ys, tl, ps, bw, o2, o3, b, t, ks, a3, u, F2, N2, d2, d3, hB, hks, hin, hsp, hps, hok, hbw, hoff⟩ := hs2
  dsimp only [List.drop]
  refine execs_split (SegC s L') 1 ?_ ?_
  · k_with_none
    k_with "binaryOp Mult ref int" => ((with_reducible rename Fr _ _ _ _ => kF); (with_reducible rename News _ _ _ _ => kN); k_dflt (refine mul_op kF kN ?_); intro D' h' ws' F' N' l1'; (have m1' := l1' (L' + 1 + 1 + 1, o3) (by k_mem)); (dsimp only at m1'); clear kF kN)
    k_with "call ref" => ((with_reducible show wpAny _ _ (call (Value.ref 45) [_, _]) _ _ _); k_dflt ((with_reducible rename Fr _ _ _ _ => kF); (with_reducible rename News _ _ _ _ => kN); (with_reducible rename Top _ _ _ _ _ _ => kT); (with_reducible rename Frag.In _ _ => kX); k_dflt (refine' cmap_ct (kX.keeps kF.keep) (kT.keeps kF.keep) ?hd ?_; (case hd => (dsimp only [AQ, Around.deeper, Around.in1]; omega))); intro f' df' es' n' h' tk' g1' st' G'; (have e1' := G'.ne (.head _) (kN (L' + 1 + 1 + 1, o3) (by k_mem)).1); (have e2' := G'.ne (.tail _ (.head _)) (kN (L' + 1 + 1 + 1, o3) (by k_mem)).1); (dsimp only at e1' e2'); (have N' := G'.news kF kN st'); (have F' := kF.keptAll st'); (dsimp only [List.cons_append, List.nil_append] at N'); clear st' G' kF kN))
    k_with "call ref" => ((with_reducible show wpAny _ _ (call (Value.ref 161) [_, _, _, _, _, _, _]) _ _ _); k_dflt ((with_reducible rename Fr _ _ _ _ => kF); (with_reducible rename News _ _ _ _ => kN); (with_reducible rename Top _ _ _ _ _ _ => kT); (with_reducible rename Frag.In _ _ => kX); k_dflt (refine' font_ct (kX.keeps kF.keep) (kT.keeps kF.keep) ?hd ?_; (case hd => (dsimp only [AQ, Around.deeper, Around.in1]; omega))); intro f' df' es' n' h' tk' g1' g2' st' G'; (have e1' := G'.ne (.head _) (kN (L' + 1 + 1 + 1, o3) (by k_mem)).1); (have e2' := G'.ne (.tail _ (.head _)) (kN (L' + 1 + 1 + 1, o3) (by k_mem)).1); (dsimp only at e1' e2'); (have N' := G'.news kF kN st'); (have F' := kF.keptAll st'); (dsimp only [List.cons_append, List.nil_append] at N'); clear st' G' kF kN))
    k_with "all" => assumption
    k_with "ne" => (refine neN ?_; (try dsimp only); first | assumption | (refine Ne.symm ?_; assumption) | ((repeat (with_reducible rename And _ _ => hAnd; obtain ⟨_, _⟩ := hAnd)); first | assumption | (refine Ne.symm ?_; assumption)))
    k_with "room" => ((try simp only [depth_mark, depth_under_make, depth_under_kw, depth_in1, depth_deeper]); (try dsimp only [AQ, Around.deeper, Around.in1]); omega)
    intro QT hQT _
    dsimp only [List.take_succ_cons, List.take_zero]
    cases bw
    · repeat' (first | (k_unfold; (try dsimp only)) | (walk1 <;> try dsimp only) | (dsimp only; walk1) | fail "no step")
      (with_reducible rename Fr _ _ _ _ => kF); (with_reducible rename News _ _ _ _ => kN)
      exact hQT _ <| segC_simple kF kN (by k_mem) (by k_mem) (by assumption) (by assumption) (by k_mem) (by k_mem) (by k_mem) d2 d3 hB hks hin hsp (hbw rfl) (by first | assumption | (refine Ne.symm ?_; assumption) | k_ne) (by first | assumption | (refine Ne.symm ?_; assumption) | k_ne) (hoff _ (.head _))
    · repeat' (first | (k_unfold; (try dsimp only)) | (walk1 <;> try dsimp only) | (dsimp only; walk1) | fail "no step")
      (with_reducible rename Fr _ _ _ _ => kF); (with_reducible rename News _ _ _ _ => kN)
      exact hQT _ <| segC_wide kF kN (by k_mem) (by k_mem) (by assumption) (by assumption) (by k_mem) (by k_mem) (by k_mem) (by assumption) (by k_mem) (by k_mem) (by k_mem) (fun z hz => by repeat (first | exact hz | refine List.Mem.tail _ ?_)) d2 d3 hB hks hin hsp hps hok (by first | assumption | (refine Ne.symm ?_; assumption) | k_ne) (by first | assumption | (refine Ne.symm ?_; assumption) | k_ne) (by first | assumption | (refine Ne.symm ?_; assumption) | k_ne) (by first | assumption | (refine Ne.symm ?_; assumption) | k_ne) (by first | assumption | (refine Ne.symm ?_; assumption) | k_ne) hoff
  intro s3 hs3
  clear hoff hbw hok hps hsp d2 d3 N2 F2 hin hks hB
  obtain ⟨h2, tk2, f, Ds, ys, fx, c0, o2, o3, b, t, ks, a3, u, F2, N2, d2, d3, hB, hks, hin, hFont, hSp, hOk, hPs, hne, hDs, h23⟩ := hs3
  dsimp only [List.drop]
  k_with_none
  k_with "getMethod ref" => ((with_reducible show wpAny _ _ (getMethod (Value.ref _) (Str.ofString "codes") _) _ _ _); (with_reducible rename Fr _ _ _ _ => kF); (with_reducible rename News _ _ _ _ => kN); (with_reducible rename Frag.In _ _ => kX); (with_reducible rename FontOk _ _ _ => kFo); k_dflt (refine font_method kF kX (kFo _ (fun x hx => (kN x (by repeat (first | exact hx | refine List.Mem.tail _ ?_))).1)) ?_))
  k_with "call ref" => ((with_reducible show wpAny _ _ (call (Value.ref 144) [Value.ref _, Value.bytes _ _]) _ _ _); refine Stop.mk ?_)
  k_with "call ref" => ((with_reducible show wpAny _ _ (call (Value.ref 189) [Value.ref _]) _ _ _); refine Stop.mk ?_)
  k_with "call type:list" => ((with_reducible rename Fr _ _ _ _ => kF); (with_reducible rename News _ _ _ _ => kN); k_dflt (refine list_K kF kN (by omega) ?_); intro D' c' h' F' N' l1'; clear kF kN)
  k_with "exec For Tuple Name cons nil" => (k_here; (with_reducible rename Fr _ _ _ _ => kF); k_dflt (refine For_turns kF ?_))
  k_with "pyIter ref" => ((with_reducible show wpAny _ _ (pyIter (Value.ref _)) (fun it s₂ => TurnsAt _ _ _ _ _ _ _ _ _ it s₂) _ _); refine Stop.mk ?_)
  k_with "exec Assign cons ListComp" => ((with_reducible show wpAny _ _ (exec (Stmt.Assign [Expr.Name (Str.ofString "sizes") _] _ _) _) _ _ _); refine Stop.mk ?_)
  k_with "call ref" => ((with_reducible show wpAny _ _ (call (Value.ref 196) [Value.ref _, Value.bytes _ _]) _ _ _); (with_reducible rename Fr _ _ _ _ => kF); (with_reducible rename News _ _ _ _ => kN); (with_reducible rename Top _ _ _ _ _ _ => kT); (with_reducible rename Frag.In _ _ => kX); refine Stop.mk ?_)
  k_with "compareOp Eq ref ref" => ((with_reducible show wpAny _ _ (compareOp CmpOp.Eq (Value.ref _) (Value.ref _)) _ _ _); refine Stop.mk ?_)
  k_with "compareOp NotEq ref ref" => ((with_reducible show wpAny _ _ (compareOp CmpOp.NotEq (Value.ref _) (Value.ref _)) _ _ _); refine Stop.mk ?_)
  k_with "binaryOp Add ref ref" => ((with_reducible show wpAny _ _ (binaryOp _ (Value.ref _) (Value.ref _)) _ _ _); refine Stop.mk ?_)
  k_with "truthy ref" => ((with_reducible show wpAny _ _ (truthy (Value.ref _)) _ _ _); refine Stop.mk ?_)
  k_with "call builtin:min" => refine Stop.mk ?_
  k_with "execs cons" => ((with_reducible show wpAny _ _ (execs (Stmt.Assign [Expr.Name (Str.ofString "sizes") _] _ _ :: _) _) _ _ _); refine Stop.mk ?_)
  k_with "isTrue BoolOp" => ((with_reducible show wpAny _ _ (PySem.isTrue (Expr.BoolOp BoolOp.And (_ :: _ :: []) _) _ _) _ _ _); refine Stop.mk ?_)
  k_with "all" => assumption
  k_with "ne" => (refine neN ?_; (try dsimp only); first | assumption | (refine Ne.symm ?_; assumption) | ((repeat (with_reducible rename And _ _ => hAnd; obtain ⟨_, _⟩ := hAnd)); first | assumption | (refine Ne.symm ?_; assumption)))
  k_with "room" => ((try simp only [depth_mark, depth_under_make, depth_under_kw, depth_in1, depth_deeper]); (try dsimp only [AQ, Around.deeper, Around.in1]); omega)
  repeat' (first | (k_unfold; (try dsimp only)) | (walk1 <;> try dsimp only) | (dsimp only; walk1) | fail "no step")
  unfold Stop
  (with_reducible rename Fr _ _ _ _ => kF); (with_reducible rename News _ _ _ _ => kN); (with_reducible rename Top _ _ _ _ _ _ => kT); (with_reducible rename Frag.In _ _ => kX); (with_reducible rename FontOk _ _ _ => kFo)
  k_dflt (refine' codes_K kFo ?hne [_, _, _] kF kX kT kN ⟨_, (kN (_, _) ?hmem).1⟩ ?hd ?hb ?hk ?_)
  (case hne => assumption)
  (case hmem => k_mem)
  (case hd => (dsimp only [AQ, Around.deeper, Around.in1]; omega))
  (case hb => assumption)
  (case hk => omega)
  intro D' n' ys' h' tk' gx' hsub' hFo' hne' hD' hp' hpre' F' N'; (dsimp only [List.cons_append, List.nil_append] at N'); clear hpre'; clear kFo kF kN
  rw [codesOf_split] at hp'
  have hyl := hp'.length
  have hspl := split_len hOk _ ks (Nat.le_refl _)
  have hxl := hspl.1
  have hx4 := hspl.2.1
  have hxd := hspl.2.2
  clear hspl
  repeat' (first | (k_unfold; (try dsimp only)) | (walk1 <;> try dsimp only) | (dsimp only; walk1) | fail "no step")
  unfold Stop
  (with_reducible rename Fr _ _ _ _ => kF); (with_reducible rename News _ _ _ _ => kN)
  k_dflt (refine' down_ct (xs := split (c0.getD []) ks) (vs := ys') (kX.keeps kF.keep) (kT.keeps kF.keep) ?hd (News.isList kN ?hm) (PrIn.at kN ?hs hp') hx4 ?hn ?_)
  (case hd => (dsimp only [AQ, Around.deeper, Around.in1]; omega))
  (case hm => k_mem)
  (case hs => exact fun z hz => by repeat (first | exact hz | refine List.Mem.tail _ ?_))
  (case hn => omega)
  intro r9 t9 h9 tk9 st9 hr9
  (have F' := kF.keptAll st9); (have N' := kN.grown st9); clear st9 kF kN
  have e39 := l1' (L' + 1 + 1 + 1, o3) (by k_mem)
  dsimp only at e39
  rw [hxd hin] at hr9
  repeat' (first | (k_unfold; (try dsimp only)) | (walk1 <;> try dsimp only) | (dsimp only; walk1) | fail "no step")
  · exact ne_absurd (hr9.trans hB.symm) (by assumption)
  · unfold Stop
    (with_reducible rename Fr _ _ _ _ => kF); (with_reducible rename News _ _ _ _ => kN)
    k_dflt (refine law_iter (ks := ks) rfl kF kN (by assumption) hFo' (hSp.mono hsub') hp' hne' ?_ ?_)
    · intro i v u oat gx tat I oI h9 tk9 hv hat hfo hsp9 hpr9 hne9 hI1 hI2 hI3 hI4 hI5 F9 N9 QT hQT
      clear kF kN
      change Fr s.heap L' h9 _ at F9
      change News s.heap L' h9 _ at N9
      have hpa := hpr9.at N9 (fun z hz => by repeat (first | exact hz | refine List.Mem.tail _ ?_))
      refine PrAt.get_elim (G := fun v => wpAny (model PQ w) _ (assign _ _ v) _ _ _) hpa hv ?_
      intro ta x y t u hx htu
      clear hv hpa
      have hlt := law_turn hOk hx
      have lt1 := hlt.1
      have lt2 := hlt.2.1
      have lt3 := hlt.2.2.1
      have lt4 := hlt.2.2.2.1
      have lt5 := hlt.2.2.2.2.1
      have lt6 := hlt.2.2.2.2.2.1
      have lt7 := hlt.2.2.2.2.2.2
      clear hlt
      repeat' (first | (k_unfold; (try dsimp only)) | (walk1 <;> try dsimp only) | (dsimp only; walk1) | fail "no step")
      unfold Stop
      (with_reducible rename Fr _ _ _ _ => kF); (with_reducible rename News _ _ _ _ => kN)
      k_dflt (refine split_mid (Str.ofString "sizes") 2 kF kN ?_ ?_)
      · intro QM hQM
        dsimp only [List.take_succ_cons, List.take_zero]
        dsimp only at lt1 lt2 lt3 lt4 lt5 lt6 lt7
        refine wpAny_execs_cons ?_
        repeat' (first | (k_unfold; (try dsimp only)) | (walk1 <;> try dsimp only) | (dsimp only; walk1) | fail "no step")
        unfold Stop
        (with_reducible rename Fr _ _ _ _ => kF); (with_reducible rename News _ _ _ _ => kN)
        k_dflt (refine LCt.Assign_ListComp_T (F₀ := kF) (by rfl) (by with_unfolding_all rfl) (by with_unfolding_all rfl) (by decide) (by rfl) (by decide) (by rfl) (by rfl) (by rfl) ?_)
        walk1
        k_dflt (refine sz_src (ks.drop (placeN (split (c0.getD []) ks) i)) rfl kF kN (by k_mem) hsp9 (fun z hz => by repeat (first | exact hz | refine List.Mem.tail _ ?_)) hPs ?_ ?_)
        · intro g p a t1 t2 t3 ys9 I9 oI9 C9 oC9 D9 m9 h9 tk9 E9 R R' hp9 hmem hC hxm F9 N9 off ne hR hR' hS QB hQt hQf
          clear kF kN
          repeat' (first | (k_unfold; (try dsimp only)) | (walk1 <;> try dsimp only) | (dsimp only; walk1) | fail "no step")
          (with_reducible rename Fr _ _ _ _ => kF); (with_reducible rename News _ _ _ _ => kN); (with_reducible rename Top _ _ _ _ _ _ => kT); (with_reducible rename Frag.In _ _ => kX); rename KBw.bInts (KBy.picked _ _ _) = _ => kC
          rw [cut_from] at kC
          have hpo := hOk _ hp9
          unfold Sp.Ok at hpo
          unfold Stop
          k_dflt (refine' holds_ct (kX.keeps kF.keep) (kT.keeps kF.keep) ?hd (News.isTup kN ?hm) hpo.1 hpo.2 kC ?hk ?_)
          (case hd => (dsimp only [AQ, Around.deeper, Around.in1]; omega))
          (case hm => exact List.mem_append_right [_, _, _] hmem)
          (case hk => (rw [List.length_drop]; omega))
          intro h8 tk8 st8
          (have F' := kF.keptAll st8); (have N' := kN.grown st8); clear st8 kF kN kC
          cases hb9 : holdsB p.len p.lo p.hi (List.drop (placeN (split (c0.getD []) ks) i) ks)
          · repeat' (first | (k_unfold; (try dsimp only)) | (walk1 <;> try dsimp only) | (dsimp only; walk1) | fail "no step")
            exact hQf _ (LCg.CompEnd.intro F' N' _ (fun z hz => hz) off hS (hR' hb9))
          · repeat' (first | (k_unfold; (try dsimp only)) | (walk1 <;> try dsimp only) | (dsimp only; walk1) | fail "no step")
            refine hQt _ ?_
            repeat' (first | (k_unfold; (try dsimp only)) | (walk1 <;> try dsimp only) | (dsimp only; walk1) | fail "no step")
            k_dflt (refine' item_tupleT ?q1 ?q2 ?q3 ?q4 ?q5 ?_; (case q1 => exact News.isTup N' (.tail _ (.tail _ (.tail _ hmem)))); (case q2 => decide); (case q3 => decide); (case q4 => rfl); (case q5 => rfl))
            exact LCg.CompEnd.intro F' N' _ (fun z hz => hz) off hS (hR hb9 _)
        · intro g9 ys9 hI9
          clear kF kN
          repeat' (first | (k_unfold; (try dsimp only)) | (walk1 <;> try dsimp only) | (dsimp only; walk1) | fail "no step")
          unfold Stop
          (with_reducible rename Fr _ _ _ _ => kF); (with_reducible rename News _ _ _ _ => kN)
          k_dflt (refine mid_false kF kN ?_ ?_)
          · intro QB hQB
            k_with_none
            k_with "compareOp Eq ref ref" => ((with_reducible show wpAny _ _ (compareOp CmpOp.Eq (Value.ref _) (Value.ref _)) _ _ _); refine Stop.mk ?_)
            k_with "truthy ref" => ((with_reducible show wpAny _ _ (truthy (Value.ref _)) _ _ _); refine Stop.mk ?_)
            k_with "call builtin:min" => refine Stop.mk ?_
            k_with "all" => assumption
            k_with "ne" => (refine neN ?_; (try dsimp only); first | assumption | (refine Ne.symm ?_; assumption) | ((repeat (with_reducible rename And _ _ => hAnd; obtain ⟨_, _⟩ := hAnd)); first | assumption | (refine Ne.symm ?_; assumption)))
            k_with "room" => ((try simp only [depth_mark, depth_under_make, depth_under_kw, depth_in1, depth_deeper]); (try dsimp only [AQ, Around.deeper, Around.in1]); omega)
            repeat' (first | (k_unfold; (try dsimp only)) | (walk1 <;> try dsimp only) | (dsimp only; walk1) | fail "no step")
            unfold Stop
            (with_reducible rename Fr _ _ _ _ => kF); (with_reducible rename News _ _ _ _ => kN)
            k_dflt (refine' eq_spaces (ps := c0.getD []) (gx := gx) kN ?ma hsp9 ?sa ?mb ?hu ?_)
            (case ma => k_mem)
            (case sa => exact fun z hz => by repeat (first | exact hz | refine List.Mem.tail _ ?_))
            (case mb => k_mem)
            (case hu => (dsimp only [AQ, Around.deeper, Around.in1]; omega))
            have hx1 : (c0.getD []).isEmpty = true → x = 1 := fun he => lt3 (List.isEmpty_iff.mp he)
            generalize (c0.getD []).isEmpty = be at hx1 ⊢
            cases be
            · repeat' (first | (k_unfold; (try dsimp only)) | (walk1 <;> try dsimp only) | (dsimp only; walk1) | fail "no step")
              all_goals exact hQB _ ⟨_, _, rfl, kF, fun z hz => kN z (.tail _ hz)⟩
            · have hx1 := hx1 rfl
              repeat' (first | (k_unfold; (try dsimp only)) | (walk1 <;> try dsimp only) | (dsimp only; walk1) | fail "no step")
              all_goals first | exact absurd hx1 (by assumption) | exact hQB _ ⟨_, _, rfl, kF, fun z hz => kN z (.tail _ hz)⟩
          intro h6 tk6 F6 N6
          clear kF kN
          have hyl9 := hI9.length
          have hsl9 := szOf_len (c0.getD []) (List.drop (placeN (split (c0.getD []) ks) i) ks)
          k_with_none
          k_with "getMethod ref" => ((with_reducible show wpAny _ _ (getMethod (Value.ref _) (Str.ofString "codes") _) _ _ _); (with_reducible rename Fr _ _ _ _ => kF); (with_reducible rename News _ _ _ _ => kN); (with_reducible rename Frag.In _ _ => kX); (with_reducible rename FontOk _ _ _ => kFo); k_dflt (refine font_method kF kX (kFo _ (fun x hx => (kN x (by repeat (first | exact hx | refine List.Mem.tail _ ?_))).1)) ?_))
          k_with "call ref" => ((with_reducible show wpAny _ _ (call (Value.ref 144) [Value.ref _, Value.bytes _ _]) _ _ _); refine Stop.mk ?_)
          k_with "call ref" => ((with_reducible show wpAny _ _ (call (Value.ref 189) [Value.ref _]) _ _ _); refine Stop.mk ?_)
          k_with "call type:list" => ((with_reducible rename Fr _ _ _ _ => kF); (with_reducible rename News _ _ _ _ => kN); k_dflt (refine list_K kF kN (by omega) ?_); intro D' c' h' F' N' l1'; clear kF kN)
          k_with "exec For Tuple Name cons nil" => (k_here; (with_reducible rename Fr _ _ _ _ => kF); k_dflt (refine For_turns kF ?_))
          k_with "pyIter ref" => ((with_reducible show wpAny _ _ (pyIter (Value.ref _)) (fun it s₂ => TurnsAt _ _ _ _ _ _ _ _ _ it s₂) _ _); refine Stop.mk ?_)
          k_with "exec Assign cons ListComp" => ((with_reducible show wpAny _ _ (exec (Stmt.Assign [Expr.Name (Str.ofString "sizes") _] _ _) _) _ _ _); refine Stop.mk ?_)
          k_with "call ref" => ((with_reducible show wpAny _ _ (call (Value.ref 196) [Value.ref _, Value.bytes _ _]) _ _ _); (with_reducible rename Fr _ _ _ _ => kF); (with_reducible rename News _ _ _ _ => kN); (with_reducible rename Top _ _ _ _ _ _ => kT); (with_reducible rename Frag.In _ _ => kX); refine Stop.mk ?_)
          k_with "compareOp Eq ref ref" => ((with_reducible show wpAny _ _ (compareOp CmpOp.Eq (Value.ref _) (Value.ref _)) _ _ _); refine Stop.mk ?_)
          k_with "compareOp NotEq ref ref" => ((with_reducible show wpAny _ _ (compareOp CmpOp.NotEq (Value.ref _) (Value.ref _)) _ _ _); refine Stop.mk ?_)
          k_with "binaryOp Add ref ref" => ((with_reducible show wpAny _ _ (binaryOp _ (Value.ref _) (Value.ref _)) _ _ _); refine Stop.mk ?_)
          k_with "truthy ref" => ((with_reducible show wpAny _ _ (truthy (Value.ref _)) _ _ _); refine Stop.mk ?_)
          k_with "call builtin:min" => refine Stop.mk ?_
          k_with "execs cons" => ((with_reducible show wpAny _ _ (execs (Stmt.Assign [Expr.Name (Str.ofString "sizes") _] _ _ :: _) _) _ _ _); refine Stop.mk ?_)
          k_with "isTrue BoolOp" => ((with_reducible show wpAny _ _ (PySem.isTrue (Expr.BoolOp BoolOp.And (_ :: _ :: []) _) _ _) _ _ _); refine Stop.mk ?_)
          k_with "all" => assumption
          k_with "ne" => (refine neN ?_; (try dsimp only); first | assumption | (refine Ne.symm ?_; assumption) | ((repeat (with_reducible rename And _ _ => hAnd; obtain ⟨_, _⟩ := hAnd)); first | assumption | (refine Ne.symm ?_; assumption)))
          k_with "room" => ((try simp only [depth_mark, depth_under_make, depth_under_kw, depth_in1, depth_deeper]); (try dsimp only [AQ, Around.deeper, Around.in1]); omega)
          repeat' (first | (k_unfold; (try dsimp only)) | (walk1 <;> try dsimp only) | (dsimp only; walk1) | fail "no step")
          unfold Stop
          (with_reducible rename Fr _ _ _ _ => kF); (with_reducible rename News _ _ _ _ => kN)
          k_dflt (refine mid_false kF kN ?_ ?_)
          · intro QB hQB
            k_with_none
            k_with "compareOp Eq ref ref" => ((with_reducible show wpAny _ _ (compareOp CmpOp.Eq (Value.ref _) (Value.ref _)) _ _ _); refine Stop.mk ?_)
            k_with "truthy ref" => ((with_reducible show wpAny _ _ (truthy (Value.ref _)) _ _ _); refine Stop.mk ?_)
            k_with "call builtin:min" => refine Stop.mk ?_
            k_with "all" => assumption
            k_with "ne" => (refine neN ?_; (try dsimp only); first | assumption | (refine Ne.symm ?_; assumption) | ((repeat (with_reducible rename And _ _ => hAnd; obtain ⟨_, _⟩ := hAnd)); first | assumption | (refine Ne.symm ?_; assumption)))
            k_with "room" => ((try simp only [depth_mark, depth_under_make, depth_under_kw, depth_in1, depth_deeper]); (try dsimp only [AQ, Around.deeper, Around.in1]); omega)
            repeat' (first | (k_unfold; (try dsimp only)) | (walk1 <;> try dsimp only) | (dsimp only; walk1) | fail "no step")
            unfold Stop
            refine wpAny_truthy_list (News.isList kN (by k_mem)) (by simp only [List.size_toArray]; omega) ?_
            have hz9 : ys9.toArray.isEmpty = false → 0 < (szOf (c0.getD []) (List.drop (placeN (split (c0.getD []) ks) i) ks)).length := fun e => by
              rw [← hyl9]
              cases ys9 with
              | nil => cases e
              | cons _ _ => exact Nat.succ_pos _
            generalize ys9.toArray.isEmpty = bz at hz9 ⊢
            cases bz
            · have hz9 := hz9 rfl
              dsimp only [Bool.not_false]
              repeat' (first | (k_unfold; (try dsimp only)) | (walk1 <;> try dsimp only) | (dsimp only; walk1) | fail "no step")
              unfold Stop
              (with_reducible rename Fr _ _ _ _ => kF); (with_reducible rename News _ _ _ _ => kN)
              k_dflt (refine kso_min kF kN (News.isList kN (by k_mem)) hI9 hz9 rfl ?_)
              intro h7 M t7 tk7 F7 N7 hM hMx
              clear kF kN
              have hxM := lt4 M hM hMx
              repeat' (first | (k_unfold; (try dsimp only)) | (walk1 <;> try dsimp only) | (dsimp only; walk1) | fail "no step")
              all_goals first | exact absurd hxM (by assumption) | exact hQB _ ⟨_, _, rfl, F7, N7⟩
            · dsimp only [Bool.not_true]
              repeat' (first | (k_unfold; (try dsimp only)) | (walk1 <;> try dsimp only) | (dsimp only; walk1) | fail "no step")
              all_goals exact hQB _ ⟨_, _, rfl, kF, kN⟩
          intro h5 tk5 F5 N5
          clear kF kN
          k_with_none
          k_with "getMethod ref" => ((with_reducible show wpAny _ _ (getMethod (Value.ref _) (Str.ofString "codes") _) _ _ _); (with_reducible rename Fr _ _ _ _ => kF); (with_reducible rename News _ _ _ _ => kN); (with_reducible rename Frag.In _ _ => kX); (with_reducible rename FontOk _ _ _ => kFo); k_dflt (refine font_method kF kX (kFo _ (fun x hx => (kN x (by repeat (first | exact hx | refine List.Mem.tail _ ?_))).1)) ?_))
          k_with "call ref" => ((with_reducible show wpAny _ _ (call (Value.ref 144) [Value.ref _, Value.bytes _ _]) _ _ _); refine Stop.mk ?_)
          k_with "call ref" => ((with_reducible show wpAny _ _ (call (Value.ref 189) [Value.ref _]) _ _ _); refine Stop.mk ?_)
          k_with "call type:list" => ((with_reducible rename Fr _ _ _ _ => kF); (with_reducible rename News _ _ _ _ => kN); k_dflt (refine list_K kF kN (by omega) ?_); intro D' c' h' F' N' l1'; clear kF kN)
          k_with "exec For Tuple Name cons nil" => (k_here; (with_reducible rename Fr _ _ _ _ => kF); k_dflt (refine For_turns kF ?_))
          k_with "pyIter ref" => ((with_reducible show wpAny _ _ (pyIter (Value.ref _)) (fun it s₂ => TurnsAt _ _ _ _ _ _ _ _ _ it s₂) _ _); refine Stop.mk ?_)
          k_with "exec Assign cons ListComp" => ((with_reducible show wpAny _ _ (exec (Stmt.Assign [Expr.Name (Str.ofString "sizes") _] _ _) _) _ _ _); refine Stop.mk ?_)
          k_with "call ref" => ((with_reducible show wpAny _ _ (call (Value.ref 196) [Value.ref _, Value.bytes _ _]) _ _ _); (with_reducible rename Fr _ _ _ _ => kF); (with_reducible rename News _ _ _ _ => kN); (with_reducible rename Top _ _ _ _ _ _ => kT); (with_reducible rename Frag.In _ _ => kX); refine Stop.mk ?_)
          k_with "compareOp Eq ref ref" => ((with_reducible show wpAny _ _ (compareOp CmpOp.Eq (Value.ref _) (Value.ref _)) _ _ _); refine Stop.mk ?_)
          k_with "compareOp NotEq ref ref" => ((with_reducible show wpAny _ _ (compareOp CmpOp.NotEq (Value.ref _) (Value.ref _)) _ _ _); refine Stop.mk ?_)
          k_with "binaryOp Add ref ref" => ((with_reducible show wpAny _ _ (binaryOp _ (Value.ref _) (Value.ref _)) _ _ _); refine Stop.mk ?_)
          k_with "truthy ref" => ((with_reducible show wpAny _ _ (truthy (Value.ref _)) _ _ _); refine Stop.mk ?_)
          k_with "call builtin:min" => refine Stop.mk ?_
          k_with "execs cons" => ((with_reducible show wpAny _ _ (execs (Stmt.Assign [Expr.Name (Str.ofString "sizes") _] _ _ :: _) _) _ _ _); refine Stop.mk ?_)
          k_with "isTrue BoolOp" => ((with_reducible show wpAny _ _ (PySem.isTrue (Expr.BoolOp BoolOp.And (_ :: _ :: []) _) _ _) _ _ _); refine Stop.mk ?_)
          k_with "all" => assumption
          k_with "ne" => (refine neN ?_; (try dsimp only); first | assumption | (refine Ne.symm ?_; assumption) | ((repeat (with_reducible rename And _ _ => hAnd; obtain ⟨_, _⟩ := hAnd)); first | assumption | (refine Ne.symm ?_; assumption)))
          k_with "room" => ((try simp only [depth_mark, depth_under_make, depth_under_kw, depth_in1, depth_deeper]); (try dsimp only [AQ, Around.deeper, Around.in1]); omega)
          repeat' (first | (k_unfold; (try dsimp only)) | (walk1 <;> try dsimp only) | (dsimp only; walk1) | fail "no step")
          all_goals first | (exfalso; omega) | exact hQM _ ⟨_, _, _, rfl, F5, fun z hz => N5 z (.tail _ hz)⟩
      · intro hM tkM vM FM NM
        dsimp only [List.drop]
        clear kF kN
        have hfo1 := hfo
        dsimp only at lt1 lt2 lt3 lt4 lt5 lt6 lt7
        repeat' (first | (k_unfold; (try dsimp only)) | (walk1 <;> try dsimp only) | (dsimp only; walk1) | fail "no step")
        (with_reducible rename Fr _ _ _ _ => kF); (with_reducible rename News _ _ _ _ => kN); (with_reducible rename Top _ _ _ _ _ _ => kT); (with_reducible rename Frag.In _ _ => kX); (with_reducible rename FontOk _ _ _ => kFo); rename KBw.bInts (KBy.picked _ _ _) = _ => kC
        rw [clip_add (by omega), cut_upto] at kC
        unfold Stop
        k_dflt (refine' codes_K (ks := ks.take (placeN (split (c0.getD []) ks) i + x.toNat)) kFo ?hne [_, _, _, _, _] kF kX kT kN ⟨_, (kN (_, _) ?hmem).1⟩ ?hd kC ?hk ?_)
        (case hne => assumption)
        (case hmem => k_mem)
        (case hd => (dsimp only [AQ, Around.deeper, Around.in1]; omega))
        (case hk => (first | rw [List.length_take] | rw [List.length_drop]); omega)
        intro DA nA yA hA tkA gA hsubA hFoA hneA hDA hpA hpreA FA NA
        (dsimp only [List.cons_append, List.nil_append] at NA); clear hpreA; clear kFo kF kN kC
        rw [codesOf_split] at hpA
        have hyA := hpA.length
        have hlA := (split_len hOk _ (ks.take (placeN (split (c0.getD []) ks) i + x.toNat)) (Nat.le_refl _)).1
        rw [List.length_take] at hlA
        repeat' (first | (k_unfold; (try dsimp only)) | (walk1 <;> try dsimp only) | (dsimp only; walk1) | fail "no step")
        (with_reducible rename Fr _ _ _ _ => kF); (with_reducible rename News _ _ _ _ => kN); (with_reducible rename Top _ _ _ _ _ _ => kT); (with_reducible rename Frag.In _ _ => kX); (with_reducible rename FontOk _ _ _ => kFo); rename KBw.bInts (KBy.picked _ _ _) = _ => kC
        rw [clip_add (by omega), cut_from] at kC
        unfold Stop
        k_dflt (refine' codes_K (ks := ks.drop (placeN (split (c0.getD []) ks) i + x.toNat)) kFo ?hne [_, _, _, _, _, _] kF kX kT kN ⟨_, (kN (_, _) ?hmem).1⟩ ?hd kC ?hk ?_)
        (case hne => assumption)
        (case hmem => k_mem)
        (case hd => (dsimp only [AQ, Around.deeper, Around.in1]; omega))
        (case hk => (first | rw [List.length_take] | rw [List.length_drop]); omega)
        intro DB nB yB hB9 tkB gB hsubB hFoB hneB hDB hpB hpreB FB NB
        (dsimp only [List.cons_append, List.nil_append] at NB); clear hpreB; clear kFo kF kN kC
        rw [codesOf_split] at hpB
        have hyB := hpB.length
        have hlB := (split_len hOk _ (ks.drop (placeN (split (c0.getD []) ks) i + x.toNat)) (Nat.le_refl _)).1
        rw [List.length_drop] at hlB
        repeat' (first | (k_unfold; (try dsimp only)) | (walk1 <;> try dsimp only) | (dsimp only; walk1) | fail "no step")
        (with_reducible rename Fr _ _ _ _ => kF); (with_reducible rename News _ _ _ _ => kN)
        unfold Stop
        k_dflt (refine' add_K (vs := yA) (ws := yB) kF kN ?ma ?mb ?hz ?_)
        (case ma => k_mem)
        (case mb => k_mem)
        (case hz => omega)
        intro DC hC9 FC NC lC
        clear kF kN lC
        repeat' (first | (k_unfold; (try dsimp only)) | (walk1 <;> try dsimp only) | (dsimp only; walk1) | fail "no step")
        (with_reducible rename Fr _ _ _ _ => kF); (with_reducible rename News _ _ _ _ => kN)
        unfold Stop
        k_dflt (refine' ne_pairs (gx := gB) (gy := gB) kN ?ma ((hpA.mono hsubB).append hpB) ?sa ?mb ((hpr9.mono hsubA).mono hsubB) ?sb ?hu lt7 ?_)
        (case ma => k_mem)
        (case sa => exact fun z hz => by repeat (first | exact hz | refine List.Mem.tail _ ?_))
        (case mb => k_mem)
        (case sb => exact fun z hz => by repeat (first | exact hz | refine List.Mem.tail _ ?_))
        (case hu => (dsimp only [AQ, Around.deeper, Around.in1]; omega))
        repeat' (first | (k_unfold; (try dsimp only)) | (walk1 <;> try dsimp only) | (dsimp only; walk1) | fail "no step")
        rename Obj.data _ = Data.cell (some (Value.int (_ + _) _)) => hdat
        refine hQT _ <| turn_end kF kN ?hs hdat lt6 lt1 hfo hsp9 hpr9 hne9 hI1 hI2 hI3 hI4 hI5
        case hs =>
          intro z hz
          simp only [List.mem_cons] at hz ⊢
          rcases hz with hz | hz | hz | hz | hz | hz <;> (first | simp [hz] | simp [hsubB _ (hsubA _ hz)])
    · intro u h9 tk9 F9
      clear kF kN
      change Fr s.heap L' h9 _ at F9
      repeat' (first | (k_unfold; (try dsimp only)) | (walk1 <;> try dsimp only) | (dsimp only; walk1) | fail "no step")
      exact hQF _ _ (h _ _ F9.keep)
end
-- C14
section
set_option maxHeartbeats 8000000 in
theorem fin : PySem.Challenge.rw_qz0076_01.Holds := Mine.hd (by
  k_fill
  intro w s₀ s₁ mg mb G Y fa o pm cd doc dV kV ho hd hcd hD hmg hg args vals as hpre hlay hrd hwl hlo
  have KX := kIn_of Y
  have X := (Ground.X G).1
  refine Ground.open G ?_
  intro T B D TE TW
  wrow_args hpre hlay hrd hwl hlo
  clear hd hcd ho hD
  rename Heap.IsList _ _ _ => hl
  rename IntsAre _ _ => hi
  rename ¬ _ => hc
  have e1 := mg_of (n := Str.ofString "law") (v := .ref 201) KX T.g (by k_is)
  have e2 : mg (Str.ofString "law") = some (.ref fa) := hmg
  rw [e1] at e2
  cases e2
  refine law_ct (dp := 1 + claimMargin) (un := 4) (gd := some []) KX T (by decide) (by decide) hl hi (by omega) fun h' tk' st => ?_
  refine GoodW.toG ⟨.inl ⟨_, _, [], rfl, (fun _ => rfl), ReadsW.bool true, ?_, (fun _ => ⟨List.nodup_nil, fun _ h => nomatch h⟩)⟩, st, rfl, hg⟩
  first | with_unfolding_all rfl | (simp; trace_state; done))
end
end Mine
theorem PySem.Challenge.cw_qz0076_01_holds : PySem.Challenge.rw_qz0076_01.Holds :=
  Mine.fin
