import PyProof.Rows.All
import Wide.All
import OpenK.AllK
import Wide.FinOn
import PySem.Challenge.RW_sa0080_01
set_option Elab.async false
set_option maxRecDepth 100000
section -- part Head
open PySem PySem.W PyProof.Rows
set_option maxHeartbeats 8000000
namespace Mine
open_top hd for PySem.Challenge.rw_sa0080_01
end Mine
end
theorem Mine.top_off : True := by
  w_top off
  trivial
section -- part C1
open PySem PySem.W PyProof.Rows PySem.Calls
set_option maxHeartbeats 8000000
namespace Mine
structure Base (w : World) (h : Heap) : Prop where
  X : (Mine.hd.heap_39 w.params).In h
  T : ∃ loose mean mg mb, Top Mine.hd.view_39 loose mean mg mb h
structure Amb (A : Around) (n : Nat) : Prop where
  hand : A.handled = none
  room : A.depth + n < recursionLimit
  units : A.units + 8 * n + 80 < cLine
noncomputable def Keep (h h' : Heap) : Prop := ∀ b o, h.get? b = some o → h'.get? b = some o
theorem Keep.refl (h : Heap) : Keep h h := fun _ _ e => e
theorem Keep.trans {h h' h'' : Heap} (k : Keep h h') (k' : Keep h' h'') : Keep h h'' := fun b o e => k' b o (k b o e)
theorem Base.keep {w : World} {h h' : Heap} (B : Base w h) (k : Keep h h') : Base w h' :=
  ⟨B.X.keeps k, let ⟨l, m, a, b, T⟩ := B.T; ⟨l, m, a, b, T.keeps k⟩⟩
theorem Amb.down {A : Around} {n : Nat} {env : PySem.Env} (a : Amb A (n + 1)) : Amb (A.deeper env) n := by
  refine ⟨a.hand, ?_, ?_⟩
  · have := a.room; rw [depth_deeper]; omega
  · have := a.units; rw [units_deeper]; omega
theorem Amb.less {A : Around} {n m : Nat} (a : Amb A n) (h : m ≤ n) : Amb A m := ⟨a.hand, by have := a.room; omega, by have := a.units; omega⟩
/-- what a call of f with these arguments gives, from any state whose heap meets pre -/
noncomputable def Spec (w : World) (f : Addr) (n : Nat) (vs : List Value) (pre : Heap → Prop) (post : Heap → Heap → Value → Prop) : Prop :=
  ∀ (A : Around) (s : Shared) (Q E : Value → Shared → Prop), Amb A n → Base w s.heap → pre s.heap →
    (∀ v h' tk', Keep s.heap h' → post s.heap h' v → Q v { s with heap := h', toks := tk' }) →
    wpAny (model PySem.Challenge.rw_sa0080_01.row.prog w) A (call (.ref f) vs) Q E s
theorem enter {w : World} {A : Around} {s : Shared} {Q E : Value → Shared → Prop} {n : Nat} {name qual : Str} {params : Arguments} {body : List Stmt} {scope : Scope} {dV kV doc pm cdv ct oc : Value} {an od : Option Addr} {osl : Array (Option Value)} {f : Addr} {vs : List Value} {binds : List (Str × Value)}
    (a : Amb A (n + 1)) (B : Base w s.heap)
    (ho : (Mine.hd.heap_39 w.params).lookup f = some ⟨oc, od, .func (fnOf name qual params body scope dV kV doc pm an cdv ct), osl⟩) (hcd : codeIn (Mine.hd.heap_39 w.params) cdv qual = true)
    (hbind : BindsTo s (fnOf name qual params body scope dV kV doc pm an cdv ct) ⟨vs, []⟩ binds) (hloc : ∀ y ∈ binds, scope.names.lookup y.1 = some .local)
    (hcell : ∀ x ∈ scope.names, x.2 ≠ .cell)
    (hco : scope.isCoroutine = false) (hgen : scope.isGenerator = false) (hk : scope.kind = .function)
    (h : ∀ L h₁, Fr s.heap L h₁ (fun y => binds.reverse.lookup y) → News s.heap L h₁ [] →
      wpAny (model PySem.Challenge.rw_sa0080_01.row.prog w) (A.deeper (envOf qual scope L f cdv)) (execs body (envOf qual scope L f cdv))
        (fun fl s' => Q (match fl with | .ret v => v | _ => .none) s') (fun _ _ => False)
        { s with heap := h₁, toks := s.toks + binds.length }) :
    wpAny (model PySem.Challenge.rw_sa0080_01.row.prog w) A (call (.ref f) vs) Q E s := by
  obtain ⟨X, loose, mean, mg, mb, T⟩ := B
  refine wpAny_call ?_
  refine codeAny_call_def (fd := fnOf name qual params body scope dV kV doc pm an cdv ct) (body := body) (binds := binds) (by have := a.room; omega) (X _ _ ho) rfl T.nolimit (codeRec_of X hcd) rfl hbind hcell hloc (fun h₁ hns hk₁ => ?_) hco hgen hk
  exact wpAny_mono (h _ h₁ ⟨hns, hk₁, Nat.le_refl _⟩ News.nil) (fun fl s' x => x) (fun _ _ x => x.elim)
end Mine
end
section -- part C2
open PySem PySem.W PyProof.Rows PySem.Calls
set_option maxHeartbeats 8000000
namespace Mine
variable {w : World}
structure Hold (P : Prop) : Prop where un ::
  mk : P
theorem hold_wp {α : Type} {M : Model} {A : Around} {t : Sem α} {Q : α → Shared → Prop} {E : Value → Shared → Prop} {s : Shared} (h : Hold (wpAny M A t Q E s)) : wpAny M A t Q E s := h.mk
local macro_rules | `(tactic| walk_at "exec While Compare cons nil") => `(tactic| (refine hold_wp ?_))
theorem gcd_step (a b : Int) (ha : 0 ≤ a) (hb : 0 ≤ b) : Int.gcd b (Int.fmod a b) = Int.gcd a b := by
  obtain ⟨a, rfl⟩ := Int.eq_ofNat_of_zero_le ha
  obtain ⟨b, rfl⟩ := Int.eq_ofNat_of_zero_le hb
  rw [Int.fmod_eq_emod_of_nonneg _ hb]
  show Nat.gcd b (a % b) = Nat.gcd a b
  rw [Nat.gcd_comm b, ← Nat.gcd_rec, Nat.gcd_comm]
theorem two_of {m₁ m₀ : Str → Option Value} {x y : Str} {v u : Option Value} (hx : m₁ x = v) (hy : m₁ y = u) (hr : ∀ z, z ≠ x → z ≠ y → m₁ z = m₀ z) :
    m₁ = fun z => if z = x then v else if z = y then u else m₀ z := by
  funext z
  by_cases h1 : z = x
  · subst h1; simp [hx]
  · by_cases h2 : z = y
    · subst h2; simp [hy, h1]
    · simp [h1, h2, hr z h1 h2]
theorem gcd_spec (n : Nat) (x y : Int) (t u : Tok) : Spec w 41 (n + 1) [.int x t, .int y u] (fun _ => True) (fun _ _ v => ∃ t, v = .int (Int.gcd x y) t) := by
  unfold Spec
  rintro ⟨hd9, dp, fr, gd, un⟩ s Q E ⟨hh, hroom, hunits⟩ B _ ret
  cases hh
  dsimp only at hroom hunits
  have X := B.X
  obtain ⟨loose, mean, mg, mb, T⟩ := B.T
  revert X
  k_fill
  intro X
  refine' enter (binds := [(Str.ofString "a", .int x t), (Str.ofString "b", .int y u)]) ⟨rfl, hroom, hunits⟩ B ?k6 ?k7 ?k9 ?kB ?c5 ?c2 ?c3 ?c4 ?_
  case k6 => k_is
  case k7 => k_is
  case k9 => exact BindsTo.of_eq rfl
  case kB => exact locs rfl
  case c5 => decide
  case c2 => exact rfl
  case c3 => exact rfl
  case c4 => exact rfl
  intro L h₁ F N
  (try dsimp only)
  k_fold
  k_steps
  refine Hold.un ?_
  clear h₁
  rename Fr _ _ _ _ => F
  rename News _ _ _ _ => N
  refine While_inv (n₀ := y.natAbs) (fun n m₁ news₁ => ∃ (a b : Int) (ta tb : Tok), m₁ (Str.ofString "a") = some (.int a ta) ∧ m₁ (Str.ofString "b") = some (.int b tb) ∧ (∀ z, z ≠ Str.ofString "a" → z ≠ Str.ofString "b" → m₁ z = List.lookup z ([(Str.ofString "a", Value.int x t), (Str.ofString "b", Value.int y u)].reverse)) ∧ 0 ≤ a ∧ 0 ≤ b ∧ Int.gcd a b = Int.gcd x y ∧ n = b.natAbs) F N ⟨_, _, _, _, rfl, rfl, (by intro z h1 h2; simp only [h1, h2, if_false]), ?_, ?_, ?_, ?_⟩ ?_
  · split <;> omega
  · split <;> omega
  · split <;> split <;> simp
  · split <;> omega
  clear F N
  rintro n m₁ news₁ h₁ tk₁ F₁ N₁ ⟨a, b, ta, tb, ea, eb, er, ha, hb, hg, rfl⟩
  have e := two_of ea eb er
  subst e
  clear ea eb er
  with_reducible show wpAny _ _ _ _ _ _
  k_fold
  k_steps
  · rename Ne b 0 => hne
    refine WhileStep.intro (by assumption) (by assumption) ?_ ⟨b, Int.fmod a b, _, _, rfl, rfl, (by intro z h1 h2; simp only [h1, h2, if_false]), hb, ?_, ?_, rfl⟩
    · have h1 := Int.fmod_nonneg_of_pos a (show 0 < b by omega)
      have h2 := Int.fmod_lt_of_pos a (show 0 < b by omega)
      omega
    · exact Int.fmod_nonneg_of_pos a (by omega)
    · rw [← hg, gcd_step a b ha hb]
  · rename b = 0 => hb0
    subst hb0
    refine ret _ _ _ (Fr.keep (by assumption)) ⟨ta, ?_⟩
    rw [← hg, Int.gcd_zero_right, Int.natAbs_of_nonneg ha]
end Mine
end
section -- part C3
open PySem PySem.W PyProof.Rows PySem.Calls
set_option maxHeartbeats 8000000
namespace Mine
variable {w : World}
local macro_rules | `(tactic| walk_at "call ref") => `(tactic| (refine hold_wp ?_))
theorem use_spec {f : Addr} {n : Nat} {vs : List Value} {pre : Heap → Prop} {post : Heap → Heap → Value → Prop} (S : Spec w f n vs pre post) {A : Around} {s : Shared} {Q E : Value → Shared → Prop} {h₀ : Heap} {L : Addr} {m : Str → Option Value} {news : List (Addr × Obj)}
    (a : Amb A n) (B : Base w h₀) (F : Fr h₀ L s.heap m) (N : News h₀ L s.heap news) (hp : pre s.heap)
    (k : ∀ v h' tk', Fr h₀ L h' m → News h₀ L h' news → Keep s.heap h' → post s.heap h' v → Q v { s with heap := h', toks := tk' }) :
    wpAny (model PySem.Challenge.rw_sa0080_01.row.prog w) A (call (.ref f) vs) Q E s := by
  refine S A s Q E a (B.keep F.keep) hp fun v h' tk' kp hq => k v h' tk' ⟨?_, ?_, F.above⟩ ?_ kp hq
  · exact F.ns.keeps kp
  · exact fun b o e => kp b o (F.keep b o e)
  · exact fun p hp => ⟨kp _ _ (N p hp).1, (N p hp).2⟩
/-- the object of a pair of ints -/
noncomputable def PairO (p : Int × Int) (o : Obj) : Prop := ∃ t1 t2 c, o = { cls := .type "tuple", data := .seq #[.int p.1 t1, .int p.2 t2] c }
/-- v is a pair of ints in h -/
noncomputable def Is (h : Heap) (v : Value) (p : Int × Int) : Prop := ∃ a o, v = .ref a ∧ h.get? a = some o ∧ PairO p o
/-- a new pair -/
noncomputable def NewPair (p : Int × Int) (h h' : Heap) (v : Value) : Prop := ∃ D o, v = .ref D ∧ h.get? D = none ∧ h'.get? D = some o ∧ PairO p o
theorem Is.keep {h h' : Heap} {v : Value} {p : Int × Int} (x : Is h v p) (k : Keep h h') : Is h' v p :=
  let ⟨a, o, e, ho, r⟩ := x; ⟨a, o, e, k _ _ ho, r⟩
theorem use_new {f : Addr} {n : Nat} {vs : List Value} {pre : Heap → Prop} {p : Int × Int} (S : Spec w f n vs pre (NewPair p)) {A : Around} {s : Shared} {Q E : Value → Shared → Prop} {h₀ : Heap} {L : Addr} {m : Str → Option Value} {news : List (Addr × Obj)}
    (a : Amb A n) (B : Base w h₀) (F : Fr h₀ L s.heap m) (N : News h₀ L s.heap news) (hp : pre s.heap)
    (k : ∀ D t1 t2 c h' tk', Fr h₀ L h' m → News h₀ L h' ((D, ({ cls := .type "tuple", data := .seq #[.int p.1 t1, .int p.2 t2] c } : Obj)) :: news) → (∀ q ∈ news, q.1 ≠ D) → Keep s.heap h' → Q (.ref D) { s with heap := h', toks := tk' }) :
    wpAny (model PySem.Challenge.rw_sa0080_01.row.prog w) A (call (.ref f) vs) Q E s := by
  refine use_spec S a B F N hp ?_
  rintro v h' tk' F' N' kp ⟨D, o, rfl, hn, ho, t1, t2, c, rfl⟩
  refine k D t1 t2 c h' tk' F' (fun q hq => ?_) (fun q hq e => ?_) kp
  · rcases List.mem_cons.mp hq with rfl | hq
    · refine ⟨ho, fun e => ?_, ?_⟩
      · obtain ⟨oL, _, _, hL, _⟩ := F.ns
        have e' : D = L := e
        rw [← e', hn] at hL
        cases hL
      · cases q : h₀.get? D with
        | none => rfl
        | some o => have := F.keep _ _ q; rw [hn] at this; cases this
    · exact N' q hq
  · have := (N q hq).1
    rw [e, hn] at this
    cases this
noncomputable def ratF (t b : Int) : Int × Int :=
  let g : Int := if 0 < b then (Int.gcd t b : Int) else 0 - (Int.gcd t b : Int)
  (Int.fdiv t g, Int.fdiv b g)
theorem newPair_of {h₀ h : Heap} {L D : Addr} {news : List (Addr × Obj)} {p : Int × Int} {o : Obj} (N : News h₀ L h news) (hm : (D, o) ∈ news) (ho : PairO p o) : NewPair p h₀ h (.ref D) :=
  ⟨D, o, rfl, (N _ hm).2.2, (N _ hm).1, ho⟩
theorem pairO_of {p : Int × Int} {a b : Int} {t1 t2 : Tok} {c : Nat} (e1 : a = p.1) (e2 : b = p.2) : PairO p { cls := .type "tuple", data := .seq #[.int a t1, .int b t2] c } := by
  subst e1; subst e2; exact ⟨t1, t2, c, rfl⟩
theorem noPy {x y g : Int} (hb : y.natAbs < 2 ^ 200) (hg : g.natAbs ≤ y.natAbs) : Builtin.divisionGoesByPylong x g = false := by
  refine PyProof.noPylong_of_log2 ?_
  by_cases h0 : g.natAbs = 0
  · rw [h0]; decide +kernel
  · have := (Nat.log2_lt h0).mpr (Nat.lt_of_le_of_lt hg hb)
    omega
theorem gcd_le_right (x y : Int) (hy : y ≠ 0) : Int.gcd x y ≤ y.natAbs :=
  Nat.le_of_dvd (Int.natAbs_pos.mpr hy) (Nat.gcd_dvd_right _ _)
local macro_rules | `(tactic| walk_at "binaryOp FloorDiv int int") => `(tactic| (refine floordiv_int (by assumption) ?_ (Or.inl (by assumption))))
theorem rat_spec (n : Nat) (x y : Int) (t u : Tok) (hy : y ≠ 0) (hb : y.natAbs < 2 ^ 200) : Spec w 57 (n + 2) [.int x t, .int y u] (fun _ => True) (NewPair (ratF x y)) := by
  w_top off
  unfold Spec
  rintro ⟨hd9, dp, fr, gd, un⟩ s Q E ⟨hh, hroom, hunits⟩ B _ ret
  cases hh
  dsimp only at hroom hunits
  have X := B.X
  obtain ⟨loose, mean, mg, mb, T⟩ := B.T
  revert X
  k_fill
  intro X
  refine' enter (binds := [(Str.ofString "top", .int x t), (Str.ofString "bottom", .int y u)]) ⟨rfl, hroom, hunits⟩ B ?k6 ?k7 ?k9 ?kB ?c5 ?c2 ?c3 ?c4 ?_
  case k6 => k_is
  case k7 => k_is
  case k9 => exact BindsTo.of_eq rfl
  case kB => exact locs rfl
  case c5 => decide
  case c2 => exact rfl
  case c3 => exact rfl
  case c4 => exact rfl
  intro L h₁ F N
  have a : ∀ env, Amb ({ handled := none, depth := dp, frames := fr, guards := gd, units := un : Around }.deeper env) _ := fun env => Amb.down ⟨rfl, hroom, hunits⟩
  with_reducible show wpAny _ _ _ _ _ _
  k_fold
  k_steps
  · exact absurd (by assumption) hy
  · have hg : (0 : Int) < (Int.gcd x y : Int) := by have := Int.gcd_pos_of_ne_zero_right x hy; omega
    have hg0 : (Int.gcd x y : Int) ≠ 0 := by omega
    have hle := gcd_le_right x y hy
    have p1 : Builtin.divisionGoesByPylong x (Int.gcd x y : Int) = false := noPy hb (by simpa using hle)
    have p2 : Builtin.divisionGoesByPylong y (Int.gcd x y : Int) = false := noPy hb (by simpa using hle)
    refine Hold.un (use_spec (gcd_spec n x y t u) (a _) B F N trivial ?_)
    rintro v h' tk' F' N' kp ⟨t', rfl⟩
    with_reducible show wpAny _ _ _ _ _ _
    k_steps
    rename 0 < y => hp
    refine ret _ _ _ (Fr.keep (by assumption)) (newPair_of (by assumption) (.head _) (pairO_of ?_ ?_)) <;> (unfold ratF; rw [if_pos hp])
  · have hg : (0 : Int) < (Int.gcd x y : Int) := by have := Int.gcd_pos_of_ne_zero_right x hy; omega
    have hg0 : 0 - (Int.gcd x y : Int) ≠ 0 := by omega
    have hle := gcd_le_right x y hy
    have p1 : Builtin.divisionGoesByPylong x (0 - (Int.gcd x y : Int)) = false := noPy hb (by omega)
    have p2 : Builtin.divisionGoesByPylong y (0 - (Int.gcd x y : Int)) = false := noPy hb (by omega)
    refine Hold.un (use_spec (gcd_spec n x y t u) (a _) B F N trivial ?_)
    rintro v h' tk' F' N' kp ⟨t', rfl⟩
    with_reducible show wpAny _ _ _ _ _ _
    k_steps
    rename ¬ 0 < y => hp
    refine ret _ _ _ (Fr.keep (by assumption)) (newPair_of (by assumption) (.head _) (pairO_of ?_ ?_)) <;> (unfold ratF; rw [if_neg hp])
end Mine
end
section -- part C4
open PySem PySem.W PyProof.Rows PySem.Calls
set_option maxHeartbeats 8000000
namespace Mine
variable {w : World}
local macro_rules | `(tactic| walk_at "call ref") => `(tactic| (refine hold_wp ?_))
/-- within 2^62 -/
noncomputable def Sm (p : Int × Int) : Prop := (-4611686018427387904 < p.1 ∧ p.1 < 4611686018427387904) ∧ (-4611686018427387904 < p.2 ∧ p.2 < 4611686018427387904)
theorem mul_big {y v : Int} (h1 : -4611686018427387904 < y ∧ y < 4611686018427387904) (h2 : -4611686018427387904 < v ∧ v < 4611686018427387904) : (y * v).natAbs < 2 ^ 200 := by
  rw [Int.natAbs_mul]
  have a : y.natAbs ≤ 4611686018427387904 := by omega
  have b : v.natAbs ≤ 4611686018427387904 := by omega
  have := Nat.mul_le_mul a b
  omega
theorem Is.tup {h : Heap} {a : Addr} {p : Int × Int} (x : Is h (.ref a) p) : ∃ t1 t2, IsTup h a #[.int p.1 t1, .int p.2 t2] := by
  obtain ⟨_, o, e, ho, t1, t2, c, rfl⟩ := x
  cases e
  exact ⟨t1, t2, _, ho, rfl, _, rfl⟩
noncomputable def raddF (p q : Int × Int) : Int × Int := ratF (p.1 * q.2 + q.1 * p.2) (p.2 * q.2)
noncomputable def rsubF (p q : Int × Int) : Int × Int := ratF (p.1 * q.2 - q.1 * p.2) (p.2 * q.2)
noncomputable def rmulF (p q : Int × Int) : Int × Int := ratF (p.1 * q.1) (p.2 * q.2)
noncomputable def rdivF (p q : Int × Int) : Int × Int := ratF (p.1 * q.2) (p.2 * q.1)
theorem radd_spec (n : Nat) (ra rb : Addr) (p q : Int × Int) (hp : Sm p) (hq : Sm q) (h1 : p.2 ≠ 0) (h2 : q.2 ≠ 0) : Spec w 64 (n + 3) [.ref ra, .ref rb] (fun h => Is h (.ref ra) p ∧ Is h (.ref rb) q) (NewPair (raddF p q)) := by
  obtain ⟨x, y⟩ := p
  obtain ⟨z, v⟩ := q
  obtain ⟨hp1, hp2⟩ := hp
  obtain ⟨hq1, hq2⟩ := hq
  dsimp only at *
  w_top off
  unfold Spec
  rintro ⟨hd9, dp, fr, gd, un⟩ s Q E ⟨hh, hroom, hunits⟩ B ⟨ia, ib⟩ ret
  cases hh
  dsimp only at hroom hunits
  have X := B.X
  obtain ⟨loose, mean, mg, mb, T⟩ := B.T
  revert X
  k_fill
  intro X
  refine' enter (binds := [(Str.ofString "a", .ref ra), (Str.ofString "b", .ref rb)]) ⟨rfl, hroom, hunits⟩ B ?k6 ?k7 ?k9 ?kB ?c5 ?c2 ?c3 ?c4 ?_
  case k6 => k_is
  case k7 => k_is
  case k9 => exact BindsTo.of_eq rfl
  case kB => exact locs rfl
  case c5 => decide
  case c2 => exact rfl
  case c3 => exact rfl
  case c4 => exact rfl
  intro L h₁ F N
  have a : ∀ env, Amb ({ handled := none, depth := dp, frames := fr, guards := gd, units := un : Around }.deeper env) _ := fun env => Amb.down ⟨rfl, hroom, hunits⟩
  with_reducible show wpAny _ _ _ _ _ _
  k_fold
  obtain ⟨t1, t2, I1⟩ := ia.tup
  obtain ⟨t3, t4, I2⟩ := ib.tup
  dsimp only at I1 I2
  with_reducible show wpAny _ _ _ _ _ _
  k_steps
  refine Hold.un (use_new (rat_spec n _ _ _ _ (Int.mul_ne_zero h1 h2) (mul_big hp2 hq2)) (a _) B F N trivial ?_)
  intro D t1' t2' c h' tk' F' N' _ _
  exact ret _ _ _ F'.keep (newPair_of N' (.head _) (pairO_of rfl rfl))
theorem rsub_spec (n : Nat) (ra rb : Addr) (p q : Int × Int) (hp : Sm p) (hq : Sm q) (h1 : p.2 ≠ 0) (h2 : q.2 ≠ 0) : Spec w 71 (n + 3) [.ref ra, .ref rb] (fun h => Is h (.ref ra) p ∧ Is h (.ref rb) q) (NewPair (rsubF p q)) := by
  obtain ⟨x, y⟩ := p
  obtain ⟨z, v⟩ := q
  obtain ⟨hp1, hp2⟩ := hp
  obtain ⟨hq1, hq2⟩ := hq
  dsimp only at *
  w_top off
  unfold Spec
  rintro ⟨hd9, dp, fr, gd, un⟩ s Q E ⟨hh, hroom, hunits⟩ B ⟨ia, ib⟩ ret
  cases hh
  dsimp only at hroom hunits
  have X := B.X
  obtain ⟨loose, mean, mg, mb, T⟩ := B.T
  revert X
  k_fill
  intro X
  refine' enter (binds := [(Str.ofString "a", .ref ra), (Str.ofString "b", .ref rb)]) ⟨rfl, hroom, hunits⟩ B ?k6 ?k7 ?k9 ?kB ?c5 ?c2 ?c3 ?c4 ?_
  case k6 => k_is
  case k7 => k_is
  case k9 => exact BindsTo.of_eq rfl
  case kB => exact locs rfl
  case c5 => decide
  case c2 => exact rfl
  case c3 => exact rfl
  case c4 => exact rfl
  intro L h₁ F N
  have a : ∀ env, Amb ({ handled := none, depth := dp, frames := fr, guards := gd, units := un : Around }.deeper env) _ := fun env => Amb.down ⟨rfl, hroom, hunits⟩
  with_reducible show wpAny _ _ _ _ _ _
  k_fold
  obtain ⟨t1, t2, I1⟩ := ia.tup
  obtain ⟨t3, t4, I2⟩ := ib.tup
  dsimp only at I1 I2
  with_reducible show wpAny _ _ _ _ _ _
  k_steps
  refine Hold.un (use_new (rat_spec n _ _ _ _ (Int.mul_ne_zero h1 h2) (mul_big hp2 hq2)) (a _) B F N trivial ?_)
  intro D t1' t2' c h' tk' F' N' _ _
  exact ret _ _ _ F'.keep (newPair_of N' (.head _) (pairO_of rfl rfl))
theorem rmul_spec (n : Nat) (ra rb : Addr) (p q : Int × Int) (hp : Sm p) (hq : Sm q) (h1 : p.2 ≠ 0) (h2 : q.2 ≠ 0) : Spec w 78 (n + 3) [.ref ra, .ref rb] (fun h => Is h (.ref ra) p ∧ Is h (.ref rb) q) (NewPair (rmulF p q)) := by
  obtain ⟨x, y⟩ := p
  obtain ⟨z, v⟩ := q
  obtain ⟨hp1, hp2⟩ := hp
  obtain ⟨hq1, hq2⟩ := hq
  dsimp only at *
  w_top off
  unfold Spec
  rintro ⟨hd9, dp, fr, gd, un⟩ s Q E ⟨hh, hroom, hunits⟩ B ⟨ia, ib⟩ ret
  cases hh
  dsimp only at hroom hunits
  have X := B.X
  obtain ⟨loose, mean, mg, mb, T⟩ := B.T
  revert X
  k_fill
  intro X
  refine' enter (binds := [(Str.ofString "a", .ref ra), (Str.ofString "b", .ref rb)]) ⟨rfl, hroom, hunits⟩ B ?k6 ?k7 ?k9 ?kB ?c5 ?c2 ?c3 ?c4 ?_
  case k6 => k_is
  case k7 => k_is
  case k9 => exact BindsTo.of_eq rfl
  case kB => exact locs rfl
  case c5 => decide
  case c2 => exact rfl
  case c3 => exact rfl
  case c4 => exact rfl
  intro L h₁ F N
  have a : ∀ env, Amb ({ handled := none, depth := dp, frames := fr, guards := gd, units := un : Around }.deeper env) _ := fun env => Amb.down ⟨rfl, hroom, hunits⟩
  with_reducible show wpAny _ _ _ _ _ _
  k_fold
  obtain ⟨t1, t2, I1⟩ := ia.tup
  obtain ⟨t3, t4, I2⟩ := ib.tup
  dsimp only at I1 I2
  with_reducible show wpAny _ _ _ _ _ _
  k_steps
  refine Hold.un (use_new (rat_spec n _ _ _ _ (Int.mul_ne_zero h1 h2) (mul_big hp2 hq2)) (a _) B F N trivial ?_)
  intro D t1' t2' c h' tk' F' N' _ _
  exact ret _ _ _ F'.keep (newPair_of N' (.head _) (pairO_of rfl rfl))
theorem rdiv_spec (n : Nat) (ra rb : Addr) (p q : Int × Int) (hp : Sm p) (hq : Sm q) (h1 : p.2 ≠ 0) (h2 : q.1 ≠ 0) : Spec w 85 (n + 3) [.ref ra, .ref rb] (fun h => Is h (.ref ra) p ∧ Is h (.ref rb) q) (NewPair (rdivF p q)) := by
  obtain ⟨x, y⟩ := p
  obtain ⟨z, v⟩ := q
  obtain ⟨hp1, hp2⟩ := hp
  obtain ⟨hq1, hq2⟩ := hq
  dsimp only at *
  w_top off
  unfold Spec
  rintro ⟨hd9, dp, fr, gd, un⟩ s Q E ⟨hh, hroom, hunits⟩ B ⟨ia, ib⟩ ret
  cases hh
  dsimp only at hroom hunits
  have X := B.X
  obtain ⟨loose, mean, mg, mb, T⟩ := B.T
  revert X
  k_fill
  intro X
  refine' enter (binds := [(Str.ofString "a", .ref ra), (Str.ofString "b", .ref rb)]) ⟨rfl, hroom, hunits⟩ B ?k6 ?k7 ?k9 ?kB ?c5 ?c2 ?c3 ?c4 ?_
  case k6 => k_is
  case k7 => k_is
  case k9 => exact BindsTo.of_eq rfl
  case kB => exact locs rfl
  case c5 => decide
  case c2 => exact rfl
  case c3 => exact rfl
  case c4 => exact rfl
  intro L h₁ F N
  have a : ∀ env, Amb ({ handled := none, depth := dp, frames := fr, guards := gd, units := un : Around }.deeper env) _ := fun env => Amb.down ⟨rfl, hroom, hunits⟩
  with_reducible show wpAny _ _ _ _ _ _
  k_fold
  obtain ⟨t1, t2, I1⟩ := ia.tup
  obtain ⟨t3, t4, I2⟩ := ib.tup
  dsimp only at I1 I2
  with_reducible show wpAny _ _ _ _ _ _
  k_steps
  refine Hold.un (use_new (rat_spec n _ _ _ _ (Int.mul_ne_zero h1 h2) (mul_big hp2 hq1)) (a _) B F N trivial ?_)
  intro D t1' t2' c h' tk' F' N' _ _
  exact ret _ _ _ F'.keep (newPair_of N' (.head _) (pairO_of rfl rfl))
end Mine
end
section -- part C5
open PySem PySem.W PyProof.Rows PySem.Calls
set_option maxHeartbeats 8000000
namespace Mine
variable {w : World}
local macro_rules | `(tactic| walk_at "call ref") => `(tactic| (refine hold_wp ?_))
theorem is_vast_spec (n : Nat) (ra : Addr) (p : Int × Int) (hp : Sm p) : Spec w 92 (n + 1) [.ref ra] (fun h => Is h (.ref ra) p) (fun _ _ v => v = .bool false) := by
  obtain ⟨x, y⟩ := p
  obtain ⟨hp1, hp2⟩ := hp
  dsimp only at *
  w_top off
  unfold Spec
  rintro ⟨hd9, dp, fr, gd, un⟩ s Q E ⟨hh, hroom, hunits⟩ B ia ret
  cases hh
  dsimp only at hroom hunits
  have X := B.X
  obtain ⟨loose, mean, mg, mb, T⟩ := B.T
  revert X
  k_fill
  intro X
  refine' enter (binds := [(Str.ofString "a", .ref ra)]) ⟨rfl, hroom, hunits⟩ B ?k6 ?k7 ?k9 ?kB ?c5 ?c2 ?c3 ?c4 ?_
  case k6 => k_is
  case k7 => k_is
  case k9 => exact BindsTo.of_eq rfl
  case kB => exact locs rfl
  case c5 => decide
  case c2 => exact rfl
  case c3 => exact rfl
  case c4 => exact rfl
  intro L h₁ F N
  have a : ∀ env, Amb ({ handled := none, depth := dp, frames := fr, guards := gd, units := un : Around }.deeper env) _ := fun env => Amb.down ⟨rfl, hroom, hunits⟩
  with_reducible show wpAny _ _ _ _ _ _
  k_fold
  obtain ⟨t1, t2, I1⟩ := ia.tup
  dsimp only at I1
  with_reducible show wpAny _ _ _ _ _ _
  have e64 : (2 : Int) ^ (Int.toNat 64) = 18446744073709551616 := by decide
  k_steps
  refine ret _ _ _ (Fr.keep (by assumption)) ?_
  rw [decide_eq_false]
  rw [e64]
  split <;> split <;> omega
theorem rcompare_spec (n : Nat) (ra rb : Addr) (p q : Int × Int) (hp : Sm p) (hq : Sm q) : Spec w 99 (n + 1) [.ref ra, .ref rb] (fun h => Is h (.ref ra) p ∧ Is h (.ref rb) q) (fun _ _ v => ∃ t r, v = .int r t ∧ (p.1 * q.2 - q.1 * p.2 = 0 → r = 0)) := by
  obtain ⟨x, y⟩ := p
  obtain ⟨z, v⟩ := q
  obtain ⟨hp1, hp2⟩ := hp
  obtain ⟨hq1, hq2⟩ := hq
  dsimp only at *
  w_top off
  unfold Spec
  rintro ⟨hd9, dp, fr, gd, un⟩ s Q E ⟨hh, hroom, hunits⟩ B ⟨ia, ib⟩ ret
  cases hh
  dsimp only at hroom hunits
  have X := B.X
  obtain ⟨loose, mean, mg, mb, T⟩ := B.T
  revert X
  k_fill
  intro X
  refine' enter (binds := [(Str.ofString "a", .ref ra), (Str.ofString "b", .ref rb)]) ⟨rfl, hroom, hunits⟩ B ?k6 ?k7 ?k9 ?kB ?c5 ?c2 ?c3 ?c4 ?_
  case k6 => k_is
  case k7 => k_is
  case k9 => exact BindsTo.of_eq rfl
  case kB => exact locs rfl
  case c5 => decide
  case c2 => exact rfl
  case c3 => exact rfl
  case c4 => exact rfl
  intro L h₁ F N
  have a : ∀ env, Amb ({ handled := none, depth := dp, frames := fr, guards := gd, units := un : Around }.deeper env) _ := fun env => Amb.down ⟨rfl, hroom, hunits⟩
  with_reducible show wpAny _ _ _ _ _ _
  k_fold
  obtain ⟨t1, t2, I1⟩ := ia.tup
  obtain ⟨t3, t4, I2⟩ := ib.tup
  dsimp only at I1 I2
  with_reducible show wpAny _ _ _ _ _ _
  k_steps
  exact ret _ _ _ (Fr.keep (by assumption)) ⟨_, _, rfl, fun h => by rw [h]; rfl⟩
theorem let_spec (n : Nat) (ra : Addr) (p : Int × Int) (hp : Sm p) : Spec w 106 (n + 2) [.ref ra] (fun h => Is h (.ref ra) p) (fun _ _ v => v = .ref ra) := by
  w_top off
  unfold Spec
  rintro ⟨hd9, dp, fr, gd, un⟩ s Q E ⟨hh, hroom, hunits⟩ B ia ret
  cases hh
  dsimp only at hroom hunits
  have X := B.X
  obtain ⟨loose, mean, mg, mb, T⟩ := B.T
  revert X
  k_fill
  intro X
  refine' enter (binds := [(Str.ofString "number", .ref ra)]) ⟨rfl, hroom, hunits⟩ B ?k6 ?k7 ?k9 ?kB ?c5 ?c2 ?c3 ?c4 ?_
  case k6 => k_is
  case k7 => k_is
  case k9 => exact BindsTo.of_eq rfl
  case kB => exact locs rfl
  case c5 => decide
  case c2 => exact rfl
  case c3 => exact rfl
  case c4 => exact rfl
  intro L h₁ F N
  have a : ∀ env, Amb ({ handled := none, depth := dp, frames := fr, guards := gd, units := un : Around }.deeper env) _ := fun env => Amb.down ⟨rfl, hroom, hunits⟩
  with_reducible show wpAny _ _ _ _ _ _
  k_fold
  k_steps
  refine Hold.un (use_spec (is_vast_spec n ra p hp) (a _) B F N (ia.keep F.keep) ?_)
  rintro v h' tk' F' N' kp rfl
  with_reducible show wpAny _ _ _ _ _ _
  k_steps
  exact ret _ _ _ (Fr.keep (by assumption)) rfl
end Mine
end
section -- part C6
open PySem PySem.W PyProof.Rows PySem.Calls PySem.Spec
set_option maxHeartbeats 8000000
namespace Mine
variable {w : World}
noncomputable def pairD (p : Int × Int) : PyData := .tuple [.int p.1, .int p.2]
noncomputable def rowD (qs : List (Int × Int)) : PyData := .list (qs.map pairD)
theorem Is.reads {h : Heap} {v : Value} {p : Int × Int} (x : Is h v p) : Reads h v (pairD p) [] := by
  obtain ⟨a, o, rfl, ho, t1, t2, c, rfl⟩ := x
  exact reads_tuple_at ho rfl rfl (.cons (.int _ _) (.cons (.int _ _) .nil))
/-- a list of pairs -/
inductive AllIs (h : Heap) : List Value → List (Int × Int) → Prop where
  | nil : AllIs h [] []
  | cons {v vs p ps} : Is h v p → AllIs h vs ps → AllIs h (v :: vs) (p :: ps)
theorem AllIs.keep {h h' : Heap} (k : Keep h h') : ∀ {vs ps}, AllIs h vs ps → AllIs h' vs ps
  | _, _, .nil => .nil
  | _, _, .cons a r => .cons (a.keep k) (r.keep k)
theorem AllIs.length {h : Heap} : ∀ {vs ps}, AllIs h vs ps → vs.length = ps.length
  | _, _, .nil => rfl
  | _, _, .cons _ r => congrArg (· + 1) r.length
theorem AllIs.get {h : Heap} : ∀ {vs ps} (i : Nat) (d : Int × Int), AllIs h vs ps → i < ps.length → ∃ v, vs[i]? = some v ∧ Is h v (ps.getD i d)
  | _, _, _, _, .nil, hi => absurd hi (Nat.not_lt_zero _)
  | _, _, 0, _, .cons a _, _ => ⟨_, rfl, a⟩
  | _, _, i + 1, d, .cons _ r, hi => r.get i d (Nat.lt_of_succ_lt_succ hi)
theorem AllIs.snoc {h : Heap} {v p} (a : Is h v p) : ∀ {vs ps}, AllIs h vs ps → AllIs h (vs ++ [v]) (ps ++ [p])
  | _, _, .nil => .cons a .nil
  | _, _, .cons b r => .cons b (r.snoc a)
theorem AllIs.reads {h : Heap} : ∀ {vs ps}, AllIs h vs ps → ReadsAll h vs (ps.map pairD) []
  | _, _, .nil => .nil
  | _, _, .cons a r => ReadsAll.cons (as := []) a.reads r.reads
noncomputable def Row (h : Heap) (v : Value) (qs : List (Int × Int)) : Prop := ∃ a vs, v = .ref a ∧ h.IsList a vs.toArray ∧ AllIs h vs qs
theorem IsList.keepK {h h' : Heap} {a : Addr} {items : Array Value} (x : h.IsList a items) (k : Keep h h') : h'.IsList a items := x.at fun o e => k _ o e
theorem Row.keep {h h' : Heap} {v : Value} {qs : List (Int × Int)} (x : Row h v qs) (k : Keep h h') : Row h' v qs :=
  let ⟨a, vs, e, hl, r⟩ := x; ⟨a, vs, e, IsList.keepK hl k, r.keep k⟩
theorem Row.reads {h : Heap} {v : Value} {qs : List (Int × Int)} (x : Row h v qs) : ∃ as, Reads h v (rowD qs) as := by
  obtain ⟨a, vs, rfl, ⟨o, ho, hc, n, hd⟩, r⟩ := x
  exact ⟨_, reads_list_at ho hc hd (by simpa using r.reads)⟩
theorem pair_shaped (p : Int × Int) : SeqAt.shaped (pairD p) = true := by
  simp [SeqAt.shaped, pairD, PyData.canLay0, PyData.canLayAll0, PyData.depth, PyData.depthAll]
theorem row_lay : ∀ qs : List (Int × Int), PyData.canLayAll0 (qs.map pairD) = true ∧ PyData.depthAll (qs.map pairD) ≤ 1
  | [] => by simp [PyData.canLayAll0, PyData.depthAll]
  | p :: qs => by
    have := row_lay qs
    simp [PyData.canLayAll0, PyData.depthAll, pairD, PyData.canLay0, PyData.depth] at this ⊢
    exact ⟨this.1, by omega⟩
theorem row_shaped (qs : List (Int × Int)) : SeqAt.shaped (rowD qs) = true := by
  have := row_lay qs
  unfold SeqAt.shaped rowD
  rw [PyData.canLay0, this.1, Bool.true_and]
  refine decide_eq_true ?_
  rw [PyData.depth]
  omega
theorem pair_eqv (p q : Int × Int) : PyData.eqv (pairD p) (pairD q) = decide (p = q) := by
  obtain ⟨a, b⟩ := p
  obtain ⟨c, d⟩ := q
  rw [Bool.eq_iff_iff]
  simp [pairD, PyData.eqv, PyData.eqvAll, Prod.ext_iff]
theorem rows_eqv : ∀ ps qs : List (Int × Int), PyData.eqvAll (ps.map pairD) (qs.map pairD) = decide (ps = qs)
  | [], [] => by simp [PyData.eqvAll]
  | [], q :: qs => by simp [PyData.eqvAll]
  | p :: ps, [] => by simp [PyData.eqvAll]
  | p :: ps, q :: qs => by
    simp only [List.map_cons, PyData.eqvAll, pair_eqv, rows_eqv ps qs, List.cons.injEq]
    by_cases h1 : p = q <;> by_cases h2 : ps = qs <;> simp [h1, h2]
theorem row_eqv (ps qs : List (Int × Int)) : PyData.eqv (rowD ps) (rowD qs) = decide (ps = qs) := by
  unfold rowD
  rw [PyData.eqv, rows_eqv]
section
variable {prog : Program} {A : Around} {E : Value → Shared → Prop} {s : Shared} {u v : Value} {Q : Value → Shared → Prop}
theorem ne_pair {p q : Int × Int} (a : Is s.heap u p) (b : Is s.heap v q) (hu : A.units + 64 < cLine) (h : Q (.bool (!decide (p = q))) s) : wpAny (model prog w) A (compareOp .NotEq u v) Q E s :=
  ne_dataH a.reads b.reads (pair_shaped p) (pair_shaped q) hu (by rw [pair_eqv]; exact h)
theorem eq_pair {p q : Int × Int} (a : Is s.heap u p) (b : Is s.heap v q) (hu : A.units + 64 < cLine) (h : Q (.bool (decide (p = q))) s) : wpAny (model prog w) A (compareOp .Eq u v) Q E s :=
  eq_dataH a.reads b.reads (pair_shaped p) (pair_shaped q) hu (by rw [pair_eqv]; exact h)
theorem ne_row {p q : List (Int × Int)} (a : Row s.heap u p) (b : Row s.heap v q) (hu : A.units + 64 < cLine) (h : Q (.bool (!decide (p = q))) s) : wpAny (model prog w) A (compareOp .NotEq u v) Q E s := by
  obtain ⟨_, ra⟩ := a.reads
  obtain ⟨_, rb⟩ := b.reads
  exact ne_dataH ra rb (row_shaped p) (row_shaped q) hu (by rw [row_eqv]; exact h)
theorem eq_row {p q : List (Int × Int)} (a : Row s.heap u p) (b : Row s.heap v q) (hu : A.units + 64 < cLine) (h : Q (.bool (decide (p = q))) s) : wpAny (model prog w) A (compareOp .Eq u v) Q E s := by
  obtain ⟨_, ra⟩ := a.reads
  obtain ⟨_, rb⟩ := b.reads
  exact eq_dataH ra rb (row_shaped p) (row_shaped q) hu (by rw [row_eqv]; exact h)
/-- an item of a list of values, the place known -/
theorem item_at {value slice : PySem.Expr} {l : Addr} {vs : List Value} {k : Int} {u : Tok} {v : Value}
    (hl : s.heap.IsList l vs.toArray) (h0 : 0 ≤ k) (hhi : k < 2 ^ 63) (hx : vs[k.toNat]? = some v) (h : Q v s)
    (hs : subscripted slice false (.ref l) (.int k u) = operate [.ref l, .int k u] (getItem (.ref l) (.int k u)) := by with_unfolding_all rfl) :
    wpAny (model prog w) A (subscriptTail value slice (.ref l) (.int k u)) Q E s :=
  tail_any hl.typeIs slot_list_getitem.lookup (wpAny_getItem_list hl h0 hhi (by simpa using hx) h) hs
end
/-- the value v holds the pair p: an object of the base or of the ledger -/
noncomputable def Here (h₀ : Heap) (nx : List (Addr × Obj)) (v : Value) (p : Int × Int) : Prop := ∃ a o, v = .ref a ∧ PairO p o ∧ (h₀.get? a = some o ∨ (a, o) ∈ nx)
theorem Here.is {h₀ h : Heap} {L : Addr} {m : Str → Option Value} {nx news : List (Addr × Obj)} {v : Value} {p : Int × Int} (x : Here h₀ nx v p) (F : Fr h₀ L h m) (N : News h₀ L h news) (hs : ∀ q ∈ nx, q ∈ news) : Is h v p := by
  obtain ⟨a, o, rfl, ho, hb | hb⟩ := x
  · exact ⟨a, o, rfl, F.keep _ _ hb, ho⟩
  · exact ⟨a, o, rfl, (N _ (hs _ hb)).1, ho⟩
theorem Here.mono {h₀ : Heap} {nx nx' : List (Addr × Obj)} {v : Value} {p : Int × Int} (x : Here h₀ nx v p) (hs : ∀ q ∈ nx, q ∈ nx') : Here h₀ nx' v p := by
  obtain ⟨a, o, rfl, ho, hb | hb⟩ := x
  · exact ⟨a, o, rfl, ho, .inl hb⟩
  · exact ⟨a, o, rfl, ho, .inr (hs _ hb)⟩
theorem Here.ofIs {h₀ : Heap} {nx : List (Addr × Obj)} {v : Value} {p : Int × Int} (x : Is h₀ v p) : Here h₀ nx v p := by
  obtain ⟨a, o, rfl, ho, r⟩ := x
  exact ⟨a, o, rfl, r, .inl ho⟩
section
variable {prog : Program} {A : Around} {E : Value → Shared → Prop} {s : Shared} {env : PySem.Env} {h₀ : Heap} {x : Str} {body : List Stmt} {Q : Flow → Shared → Prop}
/-- a loop over a range by ones, by an invariant over the frame's map and a ledger -/
theorem for_range {r : Addr} {a₀ b₀ : Int} {t₀ u₀ v₀ : Tok} (n : Nat) {m₀ : Str → Option Value} {news : List (Addr × Obj)} (nx₀ : List (Addr × Obj)) (J : Nat → (Str → Option Value) → List (Addr × Obj) → Prop)
    (hh : A.handled = none) (hr : IsRange s.heap r a₀ b₀ 1 t₀ u₀ v₀) (hsmall : Builtin.Range.small a₀ b₀ 1 = true) (hsz : Builtin.Range.rangeSize a₀ b₀ 1 = (n : Int)) (F : Fr h₀ env.locals s.heap m₀) (N : News h₀ env.locals s.heap news) (hn : ∀ p ∈ nx₀, p ∈ news) (hj : J 0 m₀ nx₀)
    (turn : ∀ i k t m₁ nx h tk own, i < n → k = a₀ + (i : Int) → OwnOff own (nx.map (·.1)) → J i m₁ nx → Fr h₀ env.locals h (fun y => if y = x then some (.int k t) else m₁ y) → News h₀ env.locals h (nx ++ own) →
      wpAny (model prog w) A (execs body env) (InvPostG h₀ env.locals (J (i + 1)) own { s with heap := h, toks := tk } Q) E { s with heap := h, toks := tk })
    (done : ∀ m₁ nx h tk, J n m₁ nx → Fr h₀ env.locals h m₁ → News h₀ env.locals h nx → Q .next { s with heap := h, toks := tk }) :
    wpAny (model prog w) A (pyIter (.ref r)) (fun it s₂ => LoopAtV prog w A h₀ env x body Q E it s₂) E s := by
  refine wpAny_pyIter_range hr hsmall ?_
  have W : Walks prog w A s.heap.objs.size [s.heap.objs.size] [s.heap.objs.size] n (fun i v => i < n ∧ ∃ t, v = .int (a₀ + i * 1) t)
      (fun i h => IsRangeIter h s.heap.objs.size (a₀ + (i : Nat) * 1) ((n : Int) - (i : Nat)) 1) := (Walks.range hh _ a₀ 1 n).bound
  refine kdr_loop J W (fun _ h => h) (fun _ h => h) ?_ ?_ ?_ ?_ (by show IsRangeIter _ _ _ _ _; rw [hsz]; simpa using Heap.get?_push_size _ rfl) (F.push _) (fun p hp => ⟨Heap.get?_push_of_some _ (N p (hn p hp)).1, (N p (hn p hp)).2⟩) hj ?_ ?_
  · intro i h hi b hb
    rw [List.mem_singleton.mp hb]
    exact ⟨_, hi⟩
  · intro hm
    exact absurd F.ns.lt ((List.mem_singleton.mp hm) ▸ Nat.lt_irrefl _)
  · intro b hb
    rw [List.mem_singleton.mp hb]
    exact next_is_new F
  · intro p hp hI
    exact absurd (Heap.lt_size (N p (hn p hp)).1) ((List.mem_singleton.mp hI) ▸ Nat.lt_irrefl _)
  · rintro i v m₁ nx h tk own hi ⟨_, t, rfl⟩ hoff hJ F₁ N₁
    have e1 : a₀ + (i : Int) * 1 = a₀ + (i : Int) := by omega
    rw [e1] at F₁
    exact turn i _ t m₁ nx h tk own hi rfl hoff hJ F₁ N₁
  · intro m₁ nx h tk hJ F₁ N₁
    exact done m₁ nx h tk hJ F₁ N₁
end
end Mine
end
section -- part C7
open PySem PySem.W PyProof.Rows PySem.Calls PySem.Spec PySem.F
set_option maxHeartbeats 8000000
namespace Mine
variable {w : World}
local macro_rules | `(tactic| walk_at "call ref") => `(tactic| (refine hold_wp ?_))
local macro_rules | `(tactic| walk_at "exec For Name Call cons nil") => `(tactic| ((rename Fr _ _ _ _ => lF'); (with_unfolding_all refine' For_invVF lF' ?k1 ?k2 ?_; (case k1 => exact rfl); (case k2 => exact rfl); k_whole)))
local macro_rules | `(tactic| walk_at "pyIter ref") => `(tactic| (refine hold_wp ?_))
local macro_rules | `(tactic| walk_at "subscriptTail Name Name ref int") => `(tactic| (refine hold_wp ?_))
local macro_rules | `(tactic| walk_at "subscriptTail Name BinOp ref int") => `(tactic| (refine hold_wp ?_))
local macro_rules | `(tactic| walk_at "compareOp NotEq ref ref") => `(tactic| (refine hold_wp ?_))
noncomputable def smB (p : Int × Int) : Bool := decide (-4611686018427387904 < p.1) && decide (p.1 < 4611686018427387904) && decide (-4611686018427387904 < p.2) && decide (p.2 < 4611686018427387904)
theorem smB_sm {p : Int × Int} (h : smB p = true) : Sm p := by
  unfold smB at h
  simp only [Bool.and_eq_true, decide_eq_true_eq] at h
  exact ⟨⟨h.1.1.1, h.1.1.2⟩, h.1.2, h.2⟩
noncomputable def fitB (p q : Int × Int) : Bool := smB p && smB q && p.2 != 0 && q.2 != 0
theorem fitB_use {p q : Int × Int} (h : fitB p q = true) : Sm p ∧ Sm q ∧ p.2 ≠ 0 ∧ q.2 ≠ 0 := by
  unfold fitB at h
  simp only [Bool.and_eq_true, bne_iff_ne] at h
  exact ⟨smB_sm h.1.1.1, smB_sm h.1.1.2, h.1.2, h.2⟩
noncomputable def when (b : Bool) (r : Int × Int) : Option (Int × Int) := if b = true then some r else none
theorem when_some {b : Bool} {r s : Int × Int} (h : when b r = some s) : b = true ∧ s = r := by
  unfold when at h
  split at h
  · exact ⟨by assumption, (Option.some.inj h).symm⟩
  · cases h
noncomputable def raddO (p q : Int × Int) : Option (Int × Int) := when (fitB p q) (raddF p q)
noncomputable def rsubO (p q : Int × Int) : Option (Int × Int) := when (fitB p q) (rsubF p q)
noncomputable def rmulO (p q : Int × Int) : Option (Int × Int) := when (fitB p q) (rmulF p q)
noncomputable def rdivO (p q : Int × Int) : Option (Int × Int) := when (fitB p q && q.1 != 0) (rdivF p q)
noncomputable def iterO {α : Type} (f : Nat → α → Option α) (x : α) : Nat → Option α
  | 0 => some x
  | i + 1 => (iterO f x i).bind (f i)
theorem iterO_some {α : Type} {f : Nat → α → Option α} {x r : α} : ∀ {n : Nat}, iterO f x n = some r → ∀ i, i ≤ n → ∃ y, iterO f x i = some y
  | 0, h, i, hi => by cases Nat.le_zero.mp hi; exact ⟨_, h⟩
  | n + 1, h, i, hi => by
    rcases Nat.lt_or_ge i (n + 1) with hl | hl
    · rw [iterO] at h
      cases q : iterO f x n with
      | none => rw [q] at h; cases h
      | some y => exact iterO_some q i (Nat.le_of_lt_succ hl)
    · have : i = n + 1 := by omega
      subst this
      exact ⟨_, h⟩
noncomputable def mixStep (qs rs : List (Int × Int)) (at_ i : Nat) (acc : Int × Int) : Option (Int × Int) :=
  if qs.getD i (0, 1) ≠ (0, 1) ∧ rs.getD (at_ - i) (0, 1) ≠ (0, 1) then (rmulO (qs.getD i (0, 1)) (rs.getD (at_ - i) (0, 1))).bind (raddO acc) else some acc
noncomputable def mixO (qs rs : List (Int × Int)) (at_ : Nat) : Option (Int × Int) := iterO (mixStep qs rs at_) (0, 1) (at_ + 1)
theorem fr2 {h₀ h : Heap} {L : Addr} {x y : Str} {v u : Option Value} {m₁ m₀ : Str → Option Value} (F : Fr h₀ L h (fun z => if z = x then v else m₁ z)) (hy : m₁ y = u) (hr : ∀ z, z ≠ y → z ≠ x → m₁ z = m₀ z) :
    Fr h₀ L h (fun z => if z = x then v else if z = y then u else m₀ z) := by
  have e : (fun z => if z = x then v else m₁ z) = fun z => if z = x then v else if z = y then u else m₀ z := by
    funext z
    by_cases h1 : z = x
    · simp [h1]
    · by_cases h2 : z = y
      · subst h2; simp [h1, hy]
      · simp [h1, h2, hr z h2 h1]
  rw [← e]
  exact F
theorem fr1 {h₀ h : Heap} {L : Addr} {y : Str} {u : Option Value} {m₁ : Str → Option Value} (F : Fr h₀ L h m₁) (hy : m₁ y = u) : Fr h₀ L h (fun z => if z = y then u else m₁ z) := by
  have e : (fun z => if z = y then u else m₁ z) = m₁ := by
    funext z
    by_cases h1 : z = y
    · subst h1; simp [hy]
    · simp [h1]
  rw [e]
  exact F
theorem offOne {own l : List (Addr × Obj)} {D : Addr} {o : Obj} (h : ∀ q ∈ l, q.1 ≠ D) (hs : ∀ q ∈ own, q ∈ l) : OwnOff own ([(D, o)].map (·.1)) := by
  intro p hp b hb
  rw [List.map_cons, List.map_nil, List.mem_singleton] at hb
  subst hb
  exact h p (hs p hp)
theorem rsize {a b : Int} {n : Nat} (h : b - a = (n : Int)) : Builtin.Range.rangeSize a b 1 = (n : Int) := by
  unfold Builtin.Range.rangeSize
  split
  · split <;> omega
  · omega
theorem R0_is {w : World} {h : Heap} (B : Base w h) : Is h (.ref 49) (0, 1) := ⟨49, _, rfl, B.X _ _ rfl, _, _, _, rfl⟩
theorem R1_is {w : World} {h : Heap} (B : Base w h) : Is h (.ref 50) (1, 1) := ⟨50, _, rfl, B.X _ _ rfl, _, _, _, rfl⟩
/-- the value handed back: the written 0, or a new pair -/
noncomputable def Got (p : Int × Int) (h h' : Heap) (v : Value) : Prop := (v = .ref 49 ∧ p = (0, 1)) ∨ NewPair p h h' v
/-- ref a holds p: the written 0, or a pair of the ledger -/
noncomputable def Held (nx : List (Addr × Obj)) (a : Addr) (p : Int × Int) : Prop := (a = 49 ∧ p = (0, 1)) ∨ ∃ o, (a, o) ∈ nx ∧ PairO p o
theorem Held.is {w : World} {h₀ h : Heap} {L : Addr} {m : Str → Option Value} {nx news : List (Addr × Obj)} {a : Addr} {p : Int × Int} (x : Held nx a p) (B : Base w h₀) (F : Fr h₀ L h m) (N : News h₀ L h news) (hs : ∀ q ∈ nx, q ∈ news) : Is h (.ref a) p := by
  rcases x with ⟨rfl, rfl⟩ | ⟨o, hm, ho⟩
  · exact (R0_is B).keep F.keep
  · exact ⟨a, o, rfl, (N _ (hs _ hm)).1, ho⟩
theorem mixed_spec (n : Nat) (ra rb : Addr) (qs rs : List (Int × Int)) (i : Nat) (t : Tok) (r : Int × Int) (h1 : i < qs.length) (h2 : i < rs.length) (hi : i < 1000) (hr : mixO qs rs i = some r) :
    Spec w 113 (n + 4) [.ref ra, .ref rb, .int (i : Int) t] (fun h => Row h (.ref ra) qs ∧ Row h (.ref rb) rs) (fun h h' v => Got r h h' v) := by
  w_top off
  unfold Spec
  rintro ⟨hd9, dp, fr, gd, un⟩ s Q E ⟨hh, hroom, hunits⟩ B ⟨ia, ib⟩ ret
  cases hh
  dsimp only at hroom hunits
  have X := B.X
  obtain ⟨loose, mean, mg, mb, T⟩ := B.T
  revert X
  k_fill
  intro X
  refine' enter (binds := [(Str.ofString "a", .ref ra), (Str.ofString "b", .ref rb), (Str.ofString "at", .int (i : Int) t)]) ⟨rfl, hroom, hunits⟩ B ?k6 ?k7 ?k9 ?kB ?c5 ?c2 ?c3 ?c4 ?_
  case k6 => k_is
  case k7 => k_is
  case k9 => exact BindsTo.of_eq rfl
  case kB => exact locs rfl
  case c5 => decide
  case c2 => exact rfl
  case c3 => exact rfl
  case c4 => exact rfl
  intro L h₁ F N
  have a : ∀ env, Amb ({ handled := none, depth := dp, frames := fr, guards := gd, units := un : Around }.deeper env) _ := fun env => Amb.down ⟨rfl, hroom, hunits⟩
  with_reducible show wpAny _ _ _ _ _ _
  k_fold
  obtain ⟨_, vs, e1, l1, A1⟩ := ia
  cases e1
  obtain ⟨_, us, e2, l2, A2⟩ := ib
  cases e2
  with_reducible show wpAny _ _ _ _ _ _
  k_steps
  rename IsRange _ _ _ _ _ _ _ _ => hR
  rename Fr _ _ _ _ => F
  rename News _ _ _ _ => N
  refine Hold.un (for_range (i + 1) [] (fun j m nx => ∃ fa acc, m (Str.ofString "found") = some (.ref fa) ∧ (∀ z, z ≠ Str.ofString "found" → z ≠ Str.ofString "spot" → m z = List.lookup z [(Str.ofString "a", Value.ref ra), (Str.ofString "b", Value.ref rb), (Str.ofString "at", Value.int (i : Int) t)].reverse) ∧ iterO (mixStep qs rs i) (0, 1) j = some acc ∧ Held nx fa acc)
    rfl hR ?_ ?_ F N (fun _ h => h) ⟨49, (0, 1), rfl, (by intro z h1 h2; simp only [h1, if_false]), rfl, .inl ⟨rfl, rfl⟩⟩ ?_ ?_)
  · exact small_one (by omega) (by omega) (by omega) (by omega)
  · exact rsize (by omega)
  · rintro j k tk m₁ nx h tk' own hj hk hoff ⟨fa, acc, ef, er, hacc, hH⟩ F₁ N₁
    obtain rfl : k = (j : Int) := by omega
    have F₂ := fr2 F₁ ef er
    clear F₁ ef er F N
    obtain ⟨v, hv, hvI⟩ := A1.get j (0, 1) (by omega)
    obtain ⟨u, hu, huI⟩ := A2.get (i - j) (0, 1) (by omega)
    obtain ⟨av, ov, rfl, hv2⟩ := id hvI
    obtain ⟨au, ou, rfl, hu2⟩ := id huI
    have hun : un + 3 + 64 < cLine := by omega
    with_reducible show wpAny _ _ _ _ _ _
    k_fold
    k_steps
    refine Hold.un (item_at (vs := vs) (IsList.keepK l1 F₂.keep) (by omega) (by omega) (by simpa using hv) ?_)
    with_reducible show wpAny _ _ _ _ _ _
    k_steps
    refine Hold.un (ne_pair (hvI.keep (Fr.keep (by assumption))) ((R0_is B).keep (Fr.keep (by assumption))) hun ?_)
    with_reducible show wpAny _ _ _ _ _ _
    k_steps
    · rename qs.getD j (0, 1) = (0, 1) => hz
      refine InvEndG.intro F₂ N₁ ⟨fa, acc, rfl, (by intro z h1 h2; simp only [h1, h2, if_false]), ?_, hH⟩ hoff (fun p hp => List.mem_append_left _ hp) (fun p hp => List.mem_append_right _ hp)
      rw [iterO, hacc]
      show mixStep qs rs i j acc = some acc
      unfold mixStep
      rw [if_neg (fun h => h.1 hz)]
    rename ¬ qs.getD j (0, 1) = (0, 1) => hz
    have ek' : ((i : Int) - (j : Int)).toNat = i - j := by omega
    refine Hold.un (item_at (vs := us) (IsList.keepK l2 F₂.keep) (by omega) (by omega) (by rw [ek']; exact hu) ?_)
    with_reducible show wpAny _ _ _ _ _ _
    k_steps
    refine Hold.un (ne_pair (huI.keep (Fr.keep (by assumption))) ((R0_is B).keep (Fr.keep (by assumption))) hun ?_)
    with_reducible show wpAny _ _ _ _ _ _
    k_steps
    · rename rs.getD (i - j) (0, 1) = (0, 1) => hy
      refine InvEndG.intro F₂ N₁ ⟨fa, acc, rfl, (by intro z h1 h2; simp only [h1, h2, if_false]), ?_, hH⟩ hoff (fun p hp => List.mem_append_left _ hp) (fun p hp => List.mem_append_right _ hp)
      rw [iterO, hacc]
      show mixStep qs rs i j acc = some acc
      unfold mixStep
      rw [if_neg (fun h => h.2 hy)]
    rename ¬ rs.getD (i - j) (0, 1) = (0, 1) => hy
    obtain ⟨acc', hacc'⟩ := iterO_some hr (j + 1) (by omega)
    have hstep : mixStep qs rs i j acc = some acc' := by rw [iterO, hacc] at hacc'; exact hacc'
    have hst2 := hstep
    unfold mixStep at hst2
    rw [if_pos ⟨hz, hy⟩] at hst2
    cases hm : rmulO (qs.getD j (0, 1)) (rs.getD (i - j) (0, 1)) with
    | none => rw [hm] at hst2; cases hst2
    | some mm =>
      rw [hm] at hst2
      change raddO acc mm = some acc' at hst2
      obtain ⟨f1, rfl⟩ := when_some hm
      obtain ⟨f2, rfl⟩ := when_some hst2
      obtain ⟨s1, s2, n1, n2⟩ := fitB_use f1
      obtain ⟨s3, s4, n3, n4⟩ := fitB_use f2
      refine Hold.un (item_at (vs := vs) (IsList.keepK l1 F₂.keep) (by omega) (by omega) (by simpa using hv) ?_)
      with_reducible show wpAny _ _ _ _ _ _
      k_steps
      refine Hold.un (item_at (vs := us) (IsList.keepK l2 F₂.keep) (by omega) (by omega) (by rw [ek']; exact hu) ?_)
      with_reducible show wpAny _ _ _ _ _ _
      k_steps
      refine Hold.un (use_new (rmul_spec n av au _ _ s1 s2 n1 n2) (a _) B F₂ N₁ ⟨hvI.keep F₂.keep, huI.keep F₂.keep⟩ ?_)
      intro D t1 t2 c h2 tk2 F₃ N₃ hD _
      with_reducible show wpAny _ _ _ _ _ _
      k_steps
      refine Hold.un (use_new (radd_spec n fa D acc _ s3 s4 n3 n4) (a _) B F₃ N₃ ⟨hH.is B F₃ N₃ (fun q hq => .tail _ (List.mem_append_left _ hq)), ⟨D, _, rfl, (N₃ _ (.head _)).1, pairO_of rfl rfl⟩⟩ ?_)
      intro D2 t3 t4 c2 h3 tk3 F₄ N₄ hD2 _
      with_reducible show wpAny _ _ _ _ _ _
      k_steps
      refine InvEndG.intro (nx := [(D2, _)]) (by assumption) (by assumption) ⟨D2, raddF acc (rmulF (qs.getD j (0, 1)) (rs.getD (i - j) (0, 1))), rfl, (by intro z h1 h2; simp only [h1, h2, if_false]), hacc', .inr ⟨_, .head _, pairO_of rfl rfl⟩⟩ (offOne hD2 (fun q hq => .tail _ (List.mem_append_right _ hq))) (fun p hp => by rw [List.mem_singleton.mp hp]; exact .head _) (fun p hp => .tail _ (.tail _ (List.mem_append_right _ hp)))
  · rintro m₁ nx h tk ⟨fa, acc, ef, er, hacc, hH⟩ F₁ N₁
    have F₂ := fr1 F₁ ef
    clear F₁ er ef F N
    have hr2 : iterO (mixStep qs rs i) (0, 1) (i + 1) = some r := hr
    rw [hr2] at hacc
    cases hacc
    dsimp only
    with_reducible show wpAny _ _ _ _ _ _
    k_steps
    refine ret _ _ _ (Fr.keep (by assumption)) ?_
    rcases hH with ⟨rfl, rfl⟩ | ⟨o, hm, ho⟩
    · exact .inl ⟨rfl, rfl⟩
    · exact .inr (newPair_of (by assumption) hm ho)
end Mine
end
section -- part C7b
open PySem PySem.W PyProof.Rows PySem.Calls PySem.Spec PySem.F
set_option maxHeartbeats 800000
namespace Mine
theorem Held.mono {nx nx' : List (Addr × Obj)} {a : Addr} {p : Int × Int} (x : Held nx a p) (hs : ∀ q ∈ nx, q ∈ nx') : Held nx' a p := by
  rcases x with h | ⟨o, hm, ho⟩
  · exact .inl h
  · exact .inr ⟨o, hs _ hm, ho⟩
/-- a written 1, or a value of Held -/
noncomputable def Held1 (nx : List (Addr × Obj)) (a : Addr) (p : Int × Int) : Prop := (a = 50 ∧ p = (1, 1)) ∨ Held nx a p
theorem Held1.is {w : World} {h₀ h : Heap} {L : Addr} {m : Str → Option Value} {nx news : List (Addr × Obj)} {a : Addr} {p : Int × Int} (x : Held1 nx a p) (B : Base w h₀) (F : Fr h₀ L h m) (N : News h₀ L h news) (hs : ∀ q ∈ nx, q ∈ news) : Is h (.ref a) p := by
  rcases x with ⟨rfl, rfl⟩ | x
  · exact (R1_is B).keep F.keep
  · exact x.is B F N hs
theorem Held1.mono {nx nx' : List (Addr × Obj)} {a : Addr} {p : Int × Int} (x : Held1 nx a p) (hs : ∀ q ∈ nx, q ∈ nx') : Held1 nx' a p := x.imp id fun y => y.mono hs
inductive AllBy (R : Addr → Int × Int → Prop) : List Value → List (Int × Int) → Prop where
  | nil : AllBy R [] []
  | cons {a vs p ps} : R a p → AllBy R vs ps → AllBy R (.ref a :: vs) (p :: ps)
theorem AllBy.mono {R R' : Addr → Int × Int → Prop} (hs : ∀ a p, R a p → R' a p) : ∀ {vs ps}, AllBy R vs ps → AllBy R' vs ps
  | _, _, .nil => .nil
  | _, _, .cons a r => .cons (hs _ _ a) (r.mono hs)
theorem AllBy.snoc {R : Addr → Int × Int → Prop} {a : Addr} {p : Int × Int} (x : R a p) : ∀ {vs ps}, AllBy R vs ps → AllBy R (vs ++ [.ref a]) (ps ++ [p])
  | _, _, .nil => .cons x .nil
  | _, _, .cons b r => .cons b (r.snoc x)
theorem AllBy.length {R : Addr → Int × Int → Prop} : ∀ {vs ps}, AllBy R vs ps → vs.length = ps.length
  | _, _, .nil => rfl
  | _, _, .cons _ r => congrArg (· + 1) r.length
theorem AllBy.get {R : Addr → Int × Int → Prop} : ∀ {vs ps} (i : Nat) (d : Int × Int), AllBy R vs ps → i < ps.length → ∃ a, vs[i]? = some (.ref a) ∧ R a (ps.getD i d)
  | _, _, _, _, .nil, hi => absurd hi (Nat.not_lt_zero _)
  | _, _, 0, _, .cons a _, _ => ⟨_, rfl, a⟩
  | _, _, i + 1, d, .cons _ r, hi => r.get i d (Nat.lt_of_succ_lt_succ hi)
theorem AllBy.is {h : Heap} {R : Addr → Int × Int → Prop} (hR : ∀ a p, R a p → Is h (.ref a) p) : ∀ {vs ps}, AllBy R vs ps → AllIs h vs ps
  | _, _, .nil => .nil
  | _, _, .cons a r => .cons (hR _ _ a) (r.is hR)
/-- a new list of pairs: fresh, or of the two written pairs -/
noncomputable def NewRow (ps : List (Int × Int)) (h h' : Heap) (v : Value) : Prop := ∃ D vs cnt tl, v = .ref D ∧ AllBy (Held1 tl) vs ps ∧ ∀ q ∈ (D, listOf vs.toArray cnt) :: tl, h.get? q.1 = none ∧ h'.get? q.1 = some q.2
theorem newRow_of {h₀ h : Heap} {L D : Addr} {news tl : List (Addr × Obj)} {ys : List Value} {cnt : Nat} {ps : List (Int × Int)} {o : Obj} (N : News h₀ L h news) (hD : (D, o) ∈ news) (hs : ∀ q ∈ tl, q ∈ news) (hA : AllBy (Held1 tl) ys ps) (ho : o = listOf ys.toArray cnt := by exact rfl) : NewRow ps h₀ h (.ref D) :=
  ⟨D, ys, cnt, tl, rfl, hA, fun q hq => by
    rcases List.mem_cons.mp hq with rfl | hq
    · exact ⟨(N _ hD).2.2, ho ▸ (N _ hD).1⟩
    · exact ⟨(N _ (hs q hq)).2.2, (N _ (hs q hq)).1⟩⟩
noncomputable def NewInts (ns : List Int) (h h' : Heap) (v : Value) : Prop := ∃ D vs cnt, v = .ref D ∧ IntsAre vs ns ∧ h.get? D = none ∧ h'.get? D = some (listOf vs.toArray cnt)
theorem newInts_of {h₀ h : Heap} {L D : Addr} {news : List (Addr × Obj)} {ys : List Value} {cnt : Nat} {ns : List Int} (N : News h₀ L h news) (hD : (D, listOf ys.toArray cnt) ∈ news) (hA : IntsAre ys ns) : NewInts ns h₀ h (.ref D) :=
  ⟨D, ys, cnt, rfl, hA, (N _ hD).2.2, (N _ hD).1⟩
end Mine
end
section -- part C8
open PySem PySem.W PyProof.Rows PySem.Calls PySem.Spec PySem.F
set_option maxHeartbeats 800000
namespace Mine
variable {w : World}
theorem hold_cs {prog : Program} {w : World} {A : Around} {h₀ : Heap} {L : Addr} {m : Str → Option Value} {env : PySem.Env} {elt : PySem.Expr} {x : Str} {scope : Scope} {cl : List (Str × Addr)} {Fin : Shared → List Value → List (Addr × Obj) → Prop} {xv : Value} {s₁ : Shared}
  (h : Hold (LCg.CompSrc prog w A h₀ L m env elt x scope cl Fin xv s₁)) : LCg.CompSrc prog w A h₀ L m env elt x scope cl Fin xv s₁ := h.mk
local macro_rules | `(tactic| walk_at "call ref") => `(tactic| (refine hold_wp ?_))
local macro_rules | `(tactic| walk_at "CompSrc") => `(tactic| (refine hold_cs ?_))
local macro_rules | `(tactic| walk_at "call builtin:len") => `(tactic| (refine hold_wp ?_))
theorem enterC {w : World} {A : Around} {s : Shared} {Q E : Value → Shared → Prop} {n : Nat} {name qual : Str} {params : Arguments} {body : List Stmt} {scope : Scope} {dV kV doc pm cdv ct oc : Value} {an od : Option Addr} {osl : Array (Option Value)} {f : Addr} {vs : List Value} {binds : List (Str × Value)}
    (a : Amb A (n + 1)) (B : Base w s.heap)
    (ho : (Mine.hd.heap_39 w.params).lookup f = some ⟨oc, od, .func (fnOf name qual params body scope dV kV doc pm an cdv ct), osl⟩) (hcd : codeIn (Mine.hd.heap_39 w.params) cdv qual = true)
    (hbind : BindsTo s (fnOf name qual params body scope dV kV doc pm an cdv ct) ⟨vs, []⟩ binds) (hkind : (binds.all fun y => scope.names.lookup y.1 == some .local || scope.names.lookup y.1 == some .cell) = true)
    (hnd : ((cellsFrom 0 scope.names []).map (·.1)).Nodup)
    (hco : scope.isCoroutine = false) (hgen : scope.isGenerator = false) (hk : scope.kind = .function)
    (h : ∀ L h₁ tk cells, Fr s.heap L h₁ (bindL (envOfC qual scope L f cdv).kindOf binds fun _ => none) → News s.heap L h₁ cells →
      CellsAre (bindC (envOfC qual scope L f cdv).kindOf binds fun _ => none) (cellsFrom (L + 1) scope.names []) cells →
      wpAny (model PySem.Challenge.rw_sa0080_01.row.prog w) (A.deeper (envOfC qual scope L f cdv)) (execs body (envOfC qual scope L f cdv))
        (fun fl s' => Q (match fl with | .ret v => v | _ => .none) s') (fun _ _ => False)
        { s with heap := h₁, toks := tk }) :
    wpAny (model PySem.Challenge.rw_sa0080_01.row.prog w) A (call (.ref f) vs) Q E s := by
  obtain ⟨X, loose, mean, mg, mb, T⟩ := B
  refine wpAny_call ?_
  refine codeAny_call_function (by have := a.room; omega) (X _ _ ho) rfl hco hgen rfl (codeRec_of X hcd) (hbind _ _ _ _ ?_)
  refine wpAny_newFunctionEnv_cells hk (kindsX hkind _) fun env' he s' x => ?_
  subst he
  refine ⟨T.nolimit.keeps x.toInCall.keep, codeAny_func ?_⟩
  obtain ⟨h₁, tk, rfl, _⟩ := x.done
  have hk₁ := x.toInCall.keep
  obtain ⟨cells, NC, Y⟩ := Cl.news (h₀ := s.heap) (Nat.le_refl _) fun n c hm => ⟨x.cell n c (lookup_of_mem_nodup (cellsFrom_names scope.names 0 (s.heap.objs.size + 1) [] [] rfl ▸ hnd) hm), x.above n c hm⟩
  exact wpAny_mono (h s.heap.objs.size h₁ tk cells ⟨x.toInCall.ns, hk₁, Nat.le_refl _⟩ NC Y) (fun fl s' x => x) (fun _ _ x => x.elim)
theorem compRest_inv {prog : Program} {w : World} {A : Around} {h₀ : Heap} {L : Addr} {m : Str → Option Value} {env : PySem.Env} {elt : PySem.Expr} {x : Str} {scope : Scope} {cl : List (Str × Addr)} {s : Shared} {S : List (Addr × Obj) → Prop} {P : Nat → Value → Prop} {Fin : List Value → List (Addr × Obj) → Prop} {n : Nat}
    (Inv : Nat → List Value → List (Addr × Obj) → Prop)
    (step : ∀ i ys news, i < n → Inv i ys news → ∀ v I oI C oC D m₂ h tk (E' : Value → Shared → Prop), P i v → LCg.NsObj oC m₂ → m₂ x = some v → Fr h₀ L h m → News h₀ L h ((I, oI) :: (C, oC) :: (D, LCg.lst ys) :: news) → LCg.Off3 I C D news → ((@Ne Nat I C) ∧ (@Ne Nat I D) ∧ (@Ne Nat C D)) →
      wpAny (model prog w) A (eval elt (compEnvC scope cl C env)) (LCg.CompEnd h₀ L m { s with heap := h, toks := tk } I oI C oC D (LCg.lst ys) S (fun y news' => Inv (i + 1) (ys ++ [y]) news')) E' { s with heap := h, toks := tk })
    (fin : ∀ ys news, Inv n ys news → Fin ys news) :
    ∀ k i ys news, i + k = n → Inv i ys news → LCg.CompRest prog w A h₀ L m env elt x scope cl s S P Fin k i ys news
  | 0, i, ys, news, e, hi => LCg.CompRest.zero (fin _ _ (by rw [← e]; exact hi))
  | k + 1, i, ys, news, e, hi => by
    refine LCg.CompRest.succ ?_
    intro v I oI C oC D m₂ h tk E' hv hn hx F N off ne
    refine wpAny_mono (step i ys news (by omega) hi v I oI C oC D m₂ h tk E' hv hn hx F N off ne) ?_ fun _ _ x => x
    rintro y s₂ ⟨h', tk', news', e2, F', N', off', hS, r⟩
    exact ⟨h', tk', news', e2, F', N', off', hS, compRest_inv Inv step fin k (i + 1) _ _ (by omega) r⟩
noncomputable def letO (p : Int × Int) : Option (Int × Int) := when (smB p) p
noncomputable def smulAt (qs rs : List (Int × Int)) (i : Nat) : Option (Int × Int) := (mixO qs rs i).bind letO
noncomputable def collect {α : Type} (f : Nat → Option α) : Nat → Option (List α)
  | 0 => some []
  | n + 1 => (collect f n).bind fun l => (f n).map fun x => l ++ [x]
noncomputable def smulO (qs rs : List (Int × Int)) : Option (List (Int × Int)) := collect (smulAt qs rs) (min qs.length rs.length)
theorem collect_some {α : Type} {f : Nat → Option α} : ∀ {n : Nat} {l : List α}, collect f n = some l → ∀ i, i ≤ n → ∃ l', collect f i = some l'
  | 0, l, h, i, hi => by cases Nat.le_zero.mp hi; exact ⟨_, h⟩
  | n + 1, l, h, i, hi => by
    rcases Nat.lt_or_ge i (n + 1) with hl | hl
    · rw [collect] at h
      cases q : collect f n with
      | none => rw [q] at h; cases h
      | some y => exact collect_some q i (Nat.le_of_lt_succ hl)
    · have : i = n + 1 := by omega
      subst this
      exact ⟨_, h⟩
theorem collect_step {α : Type} {f : Nat → Option α} {n : Nat} {l l' : List α} (h : collect f n = some l) (h' : collect f (n + 1) = some l') : ∃ x, f n = some x ∧ l' = l ++ [x] := by
  rw [collect, h] at h'
  change (f n).map (fun x => l ++ [x]) = some l' at h'
  cases q : f n with
  | none => rw [q] at h'; cases h'
  | some x => rw [q] at h'; exact ⟨x, rfl, (Option.some.inj h').symm⟩
/-- a list of values that hold these pairs -/
inductive AllHeld (nx : List (Addr × Obj)) : List Value → List (Int × Int) → Prop where
  | nil : AllHeld nx [] []
  | cons {a vs p ps} : Held nx a p → AllHeld nx vs ps → AllHeld nx (.ref a :: vs) (p :: ps)
theorem AllHeld.mono {nx nx' : List (Addr × Obj)} (hs : ∀ q ∈ nx, q ∈ nx') : ∀ {vs ps}, AllHeld nx vs ps → AllHeld nx' vs ps
  | _, _, .nil => .nil
  | _, _, .cons a r => .cons (a.mono hs) (r.mono hs)
theorem AllHeld.by1 {nx : List (Addr × Obj)} : ∀ {vs ps}, AllHeld nx vs ps → AllBy (Held1 nx) vs ps
  | _, _, .nil => .nil
  | _, _, .cons x r => .cons (.inr x) r.by1
theorem AllHeld.snoc {nx : List (Addr × Obj)} {a : Addr} {p : Int × Int} (x : Held nx a p) : ∀ {vs ps}, AllHeld nx vs ps → AllHeld nx (vs ++ [.ref a]) (ps ++ [p])
  | _, _, .nil => .cons x .nil
  | _, _, .cons b r => .cons b (r.snoc x)
theorem AllHeld.is {w : World} {h₀ h : Heap} {L : Addr} {m : Str → Option Value} {nx news : List (Addr × Obj)} (B : Base w h₀) (F : Fr h₀ L h m) (N : News h₀ L h news) (hs : ∀ q ∈ nx, q ∈ news) : ∀ {vs ps}, AllHeld nx vs ps → AllIs h vs ps
  | _, _, .nil => .nil
  | _, _, .cons a r => .cons (a.is B F N hs) (r.is B F N hs)
theorem news_new {h₀ h h' : Heap} {L D : Addr} {m : Str → Option Value} {news : List (Addr × Obj)} {o : Obj} (F : Fr h₀ L h m) (N : News h₀ L h news) (N' : News h₀ L h' news) (hn : h.get? D = none) (ho : h'.get? D = some o) : News h₀ L h' ((D, o) :: news) ∧ ∀ q ∈ news, q.1 ≠ D := by
  refine ⟨fun q hq => ?_, fun q hq e => ?_⟩
  · rcases List.mem_cons.mp hq with rfl | hq
    · refine ⟨ho, fun e => ?_, ?_⟩
      · obtain ⟨oL, _, _, hL, _⟩ := F.ns
        have e' : D = L := e
        rw [← e', hn] at hL
        cases hL
      · cases q : h₀.get? D with
        | none => rfl
        | some o => have := F.keep _ _ q; rw [hn] at this; cases this
    · exact N' q hq
  · have := (N q hq).1
    rw [e, hn] at this
    cases this
theorem hold_ce {h₀ : Heap} {L : Addr} {m : Str → Option Value} {s₁ : Shared} {I : Addr} {oI : Obj} {C : Addr} {oC : Obj} {D : Addr} {oD : Obj} {S : List (Addr × Obj) → Prop} {rest : Value → List (Addr × Obj) → Prop} {y : Value} {s₂ : Shared}
  (h : Hold (LCg.CompEnd h₀ L m s₁ I oI C oC D oD S rest y s₂)) : LCg.CompEnd h₀ L m s₁ I oI C oC D oD S rest y s₂ := h.mk
local macro_rules | `(tactic| walk_at "CompEnd") => `(tactic| (refine hold_ce ?_))
theorem letO_some {p q : Int × Int} (h : letO p = some q) : Sm p ∧ q = p := by
  obtain ⟨h1, h2⟩ := when_some h
  exact ⟨smB_sm h1, h2⟩
theorem smul_spec (n : Nat) (ra rb : Addr) (qs rs : List (Int × Int)) (c : Nat) (h1 : qs.length = c) (h2 : rs.length = c) (hc : c < 1000) (out : List (Int × Int)) (ho : collect (smulAt qs rs) c = some out) :
    Spec w 118 (n + 5) [.ref ra, .ref rb] (fun h => Row h (.ref ra) qs ∧ Row h (.ref rb) rs) (NewRow out) := by
  w_top off
  unfold Spec
  rintro ⟨hd9, dp, fr, gd, un⟩ s Q E ⟨hh, hroom, hunits⟩ B ⟨ia, ib⟩ ret
  cases hh
  dsimp only at hroom hunits
  have X := B.X
  obtain ⟨loose, mean, mg, mb, T⟩ := B.T
  revert X
  k_fill
  intro X
  refine' enterC (binds := [(Str.ofString "a", .ref ra), (Str.ofString "b", .ref rb)]) ⟨rfl, hroom, hunits⟩ B ?k6 ?k7 ?k9 ?kB ?c5 ?c2 ?c3 ?c4 ?_
  case k6 => k_is
  case k7 => k_is
  case k9 => exact BindsTo.of_eq rfl
  case kB => exact rfl
  case c5 => decide +kernel
  case c2 => exact rfl
  case c3 => exact rfl
  case c4 => exact rfl
  intro L h₁ tk cells F N Y
  obtain ⟨o1, o2, hE, d1, d2⟩ := CellsAre.two Y
  subst hE
  clear Y
  have a : ∀ env, Amb ({ handled := none, depth := dp, frames := fr, guards := gd, units := un : Around }.deeper env) _ := fun env => Amb.down ⟨rfl, hroom, hunits⟩
  (try dsimp only)
  with_reducible show wpAny _ _ _ _ _ _
  k_fold
  obtain ⟨_, vs, e1, l1, A1⟩ := id ia
  cases e1
  obtain ⟨_, us, e2, l2, A2⟩ := id ib
  cases e2
  with_reducible show wpAny _ _ _ _ _ _
  k_steps
  have e1 := A1.length
  have e2 := A2.length
  have z1 : (vs.toArray.size : Int) = (c : Int) := by simp [e1, h1]
  have z2 : (us.toArray.size : Int) = (c : Int) := by simp [e2, h2]
  refine Hold.un (len_list (IsList.keepK l1 F.keep) (by omega) ?_)
  with_reducible show wpAny _ _ _ _ _ _
  k_steps
  refine Hold.un (len_list (IsList.keepK l2 F.keep) (by omega) ?_)
  with_reducible show wpAny _ _ _ _ _ _
  rw [z1, z2]
  k_steps
  rename IsRange _ _ _ _ _ _ _ _ => hR
  rename Fr _ _ _ _ => F2
  rename News _ _ _ _ => N2
  simp only [ite_self] at hR
  refine Hold.un (LCg.CompSrc.range (n := c) rfl F2 N2 hR (small_one (by omega) (by omega) (by omega) (by omega)) (rsize (by omega)) (by rw [sizeLine_eq]; omega) ?_)
  intro g
  refine compRest_inv (fun i ys news => ∃ tl ps, news = (L + 1 + 1, o1) :: (L + 1, o2) :: tl ∧ collect (smulAt qs rs) i = some ps ∧ AllHeld tl ys ps) ?_ ?_ c 0 [] _ (Nat.zero_add c) ⟨[], [], rfl, rfl, .nil⟩
  · rintro i ys news hi ⟨tl, ps, rfl, hps, hH⟩ v I oI C oC D m₂ h tk E' ⟨tv, hv⟩ hns hx F3 N3 hoff hne
    rw [Int.zero_add] at hv
    subst hv
    with_reducible show wpAny _ _ _ _ _ _
    k_steps
    obtain ⟨ps', hps'⟩ := collect_some ho (i + 1) (by omega)
    obtain ⟨x, hx1, rfl⟩ := collect_step hps hps'
    unfold smulAt at hx1
    cases hm : mixO qs rs i with
    | none => rw [hm] at hx1; cases hx1
    | some r =>
      rw [hm] at hx1
      obtain ⟨hsm, rfl⟩ := letO_some (show letO r = some x from hx1)
      refine Hold.un (use_spec (mixed_spec n ra rb qs rs i tv x (by omega) (by omega) (by omega) hm) (a _) B F3 N3 ⟨ia.keep F3.keep, ib.keep F3.keep⟩ ?_)
      rintro v h2 tk2 F4 N4 kp (⟨rfl, rfl⟩ | ⟨D2, o, rfl, hn, ho2, hpo⟩)
      · with_reducible show wpAny _ _ _ _ _ _
        k_steps
        refine Hold.un (use_spec (let_spec (n + 2) 49 (0, 1) hsm) (a _) B F4 N4 ((R0_is B).keep F4.keep) ?_)
        rintro v h5 tk5 F5 N5 kp5 rfl
        exact LCg.CompEnd.intro F5 N5 _ (fun _ h => h) hoff trivial ⟨tl, _, rfl, hps', hH.snoc (.inl ⟨rfl, rfl⟩)⟩
      · obtain ⟨N5, hD⟩ := news_new F3 N3 N4 hn ho2
        clear N4
        with_reducible show wpAny _ _ _ _ _ _
        k_steps
        refine Hold.un (use_spec (let_spec (n + 2) D2 x hsm) (a _) B F4 N5 ⟨_, _, rfl, (N5 _ (.head _)).1, hpo⟩ ?_)
        rintro v h5 tk5 F5 N6 kp5 rfl
        refine LCg.CompEnd.intro F5 N6 ((L + 1 + 1, o1) :: (L + 1, o2) :: (D2, o) :: tl) ?_ ?_ trivial ⟨(D2, o) :: tl, _, rfl, hps', (hH.mono fun _ h => .tail _ h).snoc (.inr ⟨o, .head _, hpo⟩)⟩
        · intro p hp
          simp only [List.mem_cons] at hp ⊢
          rcases hp with h | h | h | h | h | h | h <;> simp [h]
        · have hm := LCg.Off3.mem hoff
          refine LCg.Off3.of fun p hp => ?_
          simp only [List.mem_cons] at hp
          rcases hp with h | h | h | h
          · exact hm p (by simp [h])
          · exact hm p (by simp [h])
          · subst h
            exact ⟨fun e => hD (I, oI) (by simp) e.symm, fun e => hD (C, oC) (by simp) e.symm, fun e => hD (D, LCg.lst ys) (by simp) e.symm⟩
          · exact hm p (by simp [h])
  · rintro ys news ⟨tl, ps, rfl, hps, hH⟩
    rw [ho] at hps
    cases hps
    unfold LCg.FinE
    intro D' h3 tk3 F' N' _
    exact ret _ _ _ F'.keep (newRow_of (cnt := ys.length) N' (.head _) (fun q hq => .tail _ (.tail _ (.tail _ hq))) hH.by1)
end Mine
end
section -- part C9
open PySem PySem.W PyProof.Rows PySem.Calls PySem.Spec PySem.F
set_option maxHeartbeats 800000
namespace Mine
variable {w : World}
local macro_rules | `(tactic| walk_at "call ref") => `(tactic| (refine hold_wp ?_))
local macro_rules | `(tactic| walk_at "call builtin:len") => `(tactic| (refine hold_wp ?_))
local macro_rules | `(tactic| walk_at "subscriptTail Name Constant ref int") => `(tactic| (refine hold_wp ?_))
theorem need_begin_spec (n : Nat) (ra rb : Addr) (qs : List (Int × Int)) (p : Int × Int) (hc : qs.length < 1000) (h0 : 0 < qs.length) (s1 : Sm (qs.getD 0 (0, 1))) (s2 : Sm p) (he : (qs.getD 0 (0, 1)).1 * p.2 - p.1 * (qs.getD 0 (0, 1)).2 = 0) :
    Spec w 132 (n + 2) [.ref ra, .ref rb] (fun h => Row h (.ref ra) qs ∧ Is h (.ref rb) p) (fun _ _ v => v = .none) := by
  w_top off
  unfold Spec
  rintro ⟨hd9, dp, fr, gd, un⟩ s Q E ⟨hh, hroom, hunits⟩ B ⟨ia, ib⟩ ret
  cases hh
  dsimp only at hroom hunits
  have X := B.X
  obtain ⟨loose, mean, mg, mb, T⟩ := B.T
  revert X
  k_fill
  intro X
  refine' enter (binds := [(Str.ofString "a", .ref ra), (Str.ofString "number", .ref rb)]) ⟨rfl, hroom, hunits⟩ B ?k6 ?k7 ?k9 ?kB ?c5 ?c2 ?c3 ?c4 ?_
  case k6 => k_is
  case k7 => k_is
  case k9 => exact BindsTo.of_eq rfl
  case kB => exact locs rfl
  case c5 => decide
  case c2 => exact rfl
  case c3 => exact rfl
  case c4 => exact rfl
  intro L h₁ F N
  have a : ∀ env, Amb ({ handled := none, depth := dp, frames := fr, guards := gd, units := un : Around }.deeper env) _ := fun env => Amb.down ⟨rfl, hroom, hunits⟩
  with_reducible show wpAny _ _ _ _ _ _
  k_fold
  obtain ⟨_, vs, e1, l1, A1⟩ := id ia
  cases e1
  obtain ⟨v, hv, hvI⟩ := A1.get 0 (0, 1) h0
  obtain ⟨av, ov, rfl, hv2⟩ := id hvI
  have e1 := A1.length
  have z1 : (vs.toArray.size : Int) = (qs.length : Int) := by simp [e1]
  with_reducible show wpAny _ _ _ _ _ _
  k_steps
  refine Hold.un (len_list (IsList.keepK l1 F.keep) (by omega) ?_)
  with_reducible show wpAny _ _ _ _ _ _
  rw [z1]
  k_steps
  · refine Hold.un (item_at (vs := vs) (IsList.keepK l1 F.keep) (by omega) (by omega) hv ?_)
    with_reducible show wpAny _ _ _ _ _ _
    k_steps
    refine Hold.un (use_spec (rcompare_spec n av rb _ p s1 s2) (a _) B F N ⟨hvI.keep F.keep, ib.keep F.keep⟩ ?_)
    rintro v h2 tk2 F2 N2 kp ⟨t2, r, rfl, hr⟩
    have hr0 := hr he
    subst hr0
    with_reducible show wpAny _ _ _ _ _ _
    k_steps
    exact ret _ _ _ F2.keep rfl
end Mine
end
section -- part C10
open PySem PySem.W PyProof.Rows PySem.Calls PySem.Spec PySem.F
set_option maxHeartbeats 800000
namespace Mine
variable {w : World}
local macro_rules | `(tactic| walk_at "call ref") => `(tactic| (refine hold_wp ?_))
local macro_rules | `(tactic| walk_at "call builtin:len") => `(tactic| (refine hold_wp ?_))
local macro_rules | `(tactic| walk_at "call builtin:list.append") => `(tactic| (refine hold_wp ?_))
local macro_rules | `(tactic| walk_at "exec For Name Call cons nil") => `(tactic| ((rename Fr _ _ _ _ => lF'); (with_unfolding_all refine' For_invVF lF' ?k1 ?k2 ?_; (case k1 => exact rfl); (case k2 => exact rfl); k_whole)))
local macro_rules | `(tactic| walk_at "pyIter ref") => `(tactic| (refine hold_wp ?_))
local macro_rules | `(tactic| walk_at "subscriptTail Name Name ref int") => `(tactic| (refine hold_wp ?_))
local macro_rules | `(tactic| walk_at "subscriptTail Name BinOp ref int") => `(tactic| (refine hold_wp ?_))
noncomputable def powStep (p : Int × Int) (qs found : List (Int × Int)) (at_ j : Nat) (total : Int × Int) : Option (Int × Int) :=
  (rmulO p (1 + (j : Int), 1)).bind fun m1 => (rsubO m1 ((at_ : Int) - (1 + (j : Int)), 1)).bind fun tm => (rmulO tm (qs.getD (j + 1) (0, 1))).bind fun m2 => (rmulO m2 (found.getD (at_ - (j + 1)) (0, 1))).bind fun m3 => raddO total m3
noncomputable def powAt (p : Int × Int) (qs found : List (Int × Int)) (at_ : Nat) : Option (Int × Int) :=
  (iterO (powStep p qs found at_) (0, 1) at_).bind fun total => if at_ = 0 then some (1, 1) else (rdivO total ((at_ : Int), 1)).bind letO
noncomputable def powO (p : Int × Int) (qs : List (Int × Int)) : Nat → Option (List (Int × Int))
  | 0 => some []
  | n + 1 => (powO p qs n).bind fun found => (powAt p qs found n).map fun x => found ++ [x]
theorem powO_some {p : Int × Int} {qs : List (Int × Int)} : ∀ {n : Nat} {l : List (Int × Int)}, powO p qs n = some l → ∀ i, i ≤ n → ∃ l', powO p qs i = some l'
  | 0, l, h, i, hi => by cases Nat.le_zero.mp hi; exact ⟨_, h⟩
  | n + 1, l, h, i, hi => by
    rcases Nat.lt_or_ge i (n + 1) with hl | hl
    · rw [powO] at h
      cases q : powO p qs n with
      | none => rw [q] at h; cases h
      | some y => exact powO_some q i (Nat.le_of_lt_succ hl)
    · have : i = n + 1 := by omega
      subst this
      exact ⟨_, h⟩
theorem powO_step {p : Int × Int} {qs : List (Int × Int)} {n : Nat} {l l' : List (Int × Int)} (h : powO p qs n = some l) (h' : powO p qs (n + 1) = some l') : ∃ x, powAt p qs l n = some x ∧ l' = l ++ [x] := by
  rw [powO, h] at h'
  change (powAt p qs l n).map (fun x => l ++ [x]) = some l' at h'
  cases q : powAt p qs l n with
  | none => rw [q] at h'; cases h'
  | some x => rw [q] at h'; exact ⟨x, rfl, (Option.some.inj h').symm⟩
theorem powO_length {p : Int × Int} {qs : List (Int × Int)} : ∀ {n : Nat} {l : List (Int × Int)}, powO p qs n = some l → l.length = n
  | 0, l, h => by cases h; rfl
  | n + 1, l, h => by
    obtain ⟨l', h'⟩ := powO_some h n (Nat.le_succ n)
    obtain ⟨x, _, rfl⟩ := powO_step h' h
    rw [List.length_append, powO_length h']; rfl
theorem bind_some {α β : Type} {x : Option α} {f : α → Option β} {r : β} (h : x.bind f = some r) : ∃ y, x = some y ∧ f y = some r := by
  cases x with
  | none => cases h
  | some y => exact ⟨y, rfl, h⟩
theorem fr5 {h₀ h : Heap} {L : Addr} {x y a b c : Str} {v u : Option Value} {m₁ m₀ : Str → Option Value} (F : Fr h₀ L h (fun z => if z = x then v else m₁ z)) (hy : m₁ y = u) (hr : ∀ z, z ≠ x → z ≠ y → z ≠ a → z ≠ b → z ≠ c → m₁ z = m₀ z) :
    Fr h₀ L h (fun z => if z = x then v else if z = y then u else if z = a then m₁ a else if z = b then m₁ b else if z = c then m₁ c else m₀ z) := by
  have e : (fun z => if z = x then v else m₁ z) = (fun z => if z = x then v else if z = y then u else if z = a then m₁ a else if z = b then m₁ b else if z = c then m₁ c else m₀ z) := by
    funext z
    by_cases h1 : z = x
    · simp [h1]
    by_cases h2 : z = y
    · subst h2; simp [h1, hy]
    by_cases h3 : z = a
    · subst h3; simp [h1, h2]
    by_cases h4 : z = b
    · subst h4; simp [h1, h2, h3]
    by_cases h5 : z = c
    · subst h5; simp [h1, h2, h3, h4]
    simp [h1, h2, h3, h4, h5, hr z h1 h2 h3 h4 h5]
  rw [← e]
  exact F
theorem fr3 {h₀ h : Heap} {L : Addr} {x y a : Str} {v u : Option Value} {m₁ m₀ : Str → Option Value} (F : Fr h₀ L h (fun z => if z = x then v else m₁ z)) (hy : m₁ y = u) (hr : ∀ z, z ≠ x → z ≠ y → z ≠ a → m₁ z = m₀ z) :
    Fr h₀ L h (fun z => if z = x then v else if z = y then u else if z = a then m₁ a else m₀ z) := by
  have e : (fun z => if z = x then v else m₁ z) = (fun z => if z = x then v else if z = y then u else if z = a then m₁ a else m₀ z) := by
    funext z
    by_cases h1 : z = x
    · simp [h1]
    by_cases h2 : z = y
    · subst h2; simp [h1, hy]
    by_cases h3 : z = a
    · subst h3; simp [h1, h2]
    simp [h1, h2, h3, hr z h1 h2 h3]
  rw [← e]
  exact F
theorem fr3d {h₀ h : Heap} {L : Addr} {x y a : Str} {u : Option Value} {m₁ m₀ : Str → Option Value} (F : Fr h₀ L h m₁) (hy : m₁ y = u) (hr : ∀ z, z ≠ x → z ≠ y → z ≠ a → m₁ z = m₀ z) :
    Fr h₀ L h (fun z => if z = x then m₁ x else if z = y then u else if z = a then m₁ a else m₀ z) := by
  refine fr3 (m₁ := m₁) ?_ hy hr
  have e : (fun z => if z = x then m₁ x else m₁ z) = m₁ := by
    funext z
    by_cases h1 : z = x
    · subst h1; simp
    · simp [h1]
  rw [e]
  exact F
theorem News.sub {h₀ h : Heap} {L : Addr} {a b : List (Addr × Obj)} (N : News h₀ L h b) (hs : ∀ q ∈ a, q ∈ b) : News h₀ L h a := fun p hp => N p (hs p hp)
theorem use_newO {f : Addr} {n : Nat} {vs : List Value} {pre : Heap → Prop} {p : Int × Int} (S : Spec w f n vs pre (NewPair p)) {A : Around} {s : Shared} {Q E : Value → Shared → Prop} {h₀ : Heap} {L : Addr} {m : Str → Option Value} {news : List (Addr × Obj)}
    (a : Amb A n) (B : Base w h₀) (F : Fr h₀ L s.heap m) (N : News h₀ L s.heap news) (hp : pre s.heap)
    (k : ∀ D o h' tk', PairO p o → Fr h₀ L h' m → News h₀ L h' ((D, o) :: news) → (∀ q ∈ news, q.1 ≠ D) → Q (.ref D) { s with heap := h', toks := tk' }) :
    wpAny (model PySem.Challenge.rw_sa0080_01.row.prog w) A (call (.ref f) vs) Q E s := by
  refine use_spec S a B F N hp ?_
  rintro v h' tk' F' N' kp ⟨D, o, rfl, hn, ho, hpo⟩
  obtain ⟨N5, hD⟩ := news_new F N N' hn ho
  exact k D o h' tk' hpo F' N5 hD
theorem off_sub {own a b : List (Addr × Obj)} (h : OwnOff own (a.map (·.1))) (hs : ∀ q ∈ b, q ∈ a ∨ ∀ p ∈ own, p.1 ≠ q.1) : OwnOff own (b.map (·.1)) := by
  intro p hp x hx
  obtain ⟨q, hq, rfl⟩ := List.mem_map.mp hx
  rcases hs q hq with h1 | h1
  · exact h p hp _ (List.mem_map.mpr ⟨q, h1, rfl⟩)
  · exact h1 p hp
theorem with_addr {P : Prop} {h₀ h : Heap} {L fd : Addr} {o : Obj} {l : List (Addr × Obj)} (_ : News h₀ L h ((fd, o) :: l)) (k : ∀ fd', fd' = fd → P) : P := k fd rfl
section
variable {prog : Program} {A : Around} {E : Value → Shared → Prop} {s : Shared} {env : PySem.Env} {h₀ : Heap} {x : Str} {body : List Stmt} {Q : Flow → Shared → Prop}
/-- for_range, its invariant told of the frame's map at the start too -/
theorem for_rangeM {r : Addr} {a₀ b₀ : Int} {t₀ u₀ v₀ : Tok} (n : Nat) {m₀ : Str → Option Value} {news : List (Addr × Obj)} (nx₀ : List (Addr × Obj)) (J : (Str → Option Value) → Nat → (Str → Option Value) → List (Addr × Obj) → Prop)
    (hh : A.handled = none) (hr : IsRange s.heap r a₀ b₀ 1 t₀ u₀ v₀) (hsmall : Builtin.Range.small a₀ b₀ 1 = true) (hsz : Builtin.Range.rangeSize a₀ b₀ 1 = (n : Int)) (F : Fr h₀ env.locals s.heap m₀) (N : News h₀ env.locals s.heap news) (hn : ∀ p ∈ nx₀, p ∈ news) (hj : J m₀ 0 m₀ nx₀)
    (turn : ∀ i k t m₁ nx h tk own, i < n → k = a₀ + (i : Int) → OwnOff own (nx.map (·.1)) → J m₀ i m₁ nx → Fr h₀ env.locals h (fun y => if y = x then some (.int k t) else m₁ y) → News h₀ env.locals h (nx ++ own) →
      wpAny (model prog w) A (execs body env) (InvPostG h₀ env.locals (J m₀ (i + 1)) own { s with heap := h, toks := tk } Q) E { s with heap := h, toks := tk })
    (done : ∀ m₁ nx h tk, J m₀ n m₁ nx → Fr h₀ env.locals h m₁ → News h₀ env.locals h nx → Q .next { s with heap := h, toks := tk }) :
    wpAny (model prog w) A (pyIter (.ref r)) (fun it s₂ => LoopAtV prog w A h₀ env x body Q E it s₂) E s :=
  for_range n nx₀ (J m₀) hh hr hsmall hsz F N hn hj turn done
end
theorem spower_spec (n : Nat) (ra rb : Addr) (qs : List (Int × Int)) (p : Int × Int) (hc : qs.length < 1000) (h0 : 0 < qs.length) (s1 : Sm (qs.getD 0 (0, 1))) (he : (qs.getD 0 (0, 1)).1 - (qs.getD 0 (0, 1)).2 = 0) (out : List (Int × Int)) (ho : powO p qs qs.length = some out) :
    Spec w 139 (n + 4) [.ref ra, .ref rb] (fun h => Row h (.ref ra) qs ∧ Is h (.ref rb) p) (NewRow out) := by
  w_top off
  unfold Spec
  rintro ⟨hd9, dp, fr, gd, un⟩ s Q E ⟨hh, hroom, hunits⟩ B ⟨ia, ib⟩ ret
  cases hh
  dsimp only at hroom hunits
  have X := B.X
  obtain ⟨loose, mean, mg, mb, T⟩ := B.T
  revert X
  k_fill
  intro X
  refine' enter (binds := [(Str.ofString "a", .ref ra), (Str.ofString "number", .ref rb)]) ⟨rfl, hroom, hunits⟩ B ?k6 ?k7 ?k9 ?kB ?c5 ?c2 ?c3 ?c4 ?_
  case k6 => k_is
  case k7 => k_is
  case k9 => exact BindsTo.of_eq rfl
  case kB => exact locs rfl
  case c5 => decide
  case c2 => exact rfl
  case c3 => exact rfl
  case c4 => exact rfl
  intro L h₁ F N
  have a : ∀ env, Amb ({ handled := none, depth := dp, frames := fr, guards := gd, units := un : Around }.deeper env) _ := fun env => Amb.down ⟨rfl, hroom, hunits⟩
  with_reducible show wpAny _ _ _ _ _ _
  k_fold
  obtain ⟨_, vs, e1, l1, A1⟩ := id ia
  cases e1
  have e1 := A1.length
  have z1 : (vs.toArray.size : Int) = (qs.length : Int) := by simp [e1]
  with_reducible show wpAny _ _ _ _ _ _
  k_steps
  refine Hold.un (use_spec (need_begin_spec (n + 1) ra 50 qs (1, 1) hc h0 s1 ⟨⟨by decide, by decide⟩, by decide, by decide⟩ (by omega)) (a _) B F N ⟨ia.keep F.keep, (R1_is B).keep F.keep⟩ ?_)
  rintro v h2 tk2 F2 N2 kp rfl
  clear F N
  with_reducible show wpAny _ _ _ _ _ _
  k_steps
  refine Hold.un (len_list (IsList.keepK l1 (Fr.keep (by assumption))) (by omega) ?_)
  with_reducible show wpAny _ _ _ _ _ _
  rw [z1]
  k_steps
  rename IsRange _ _ _ _ _ _ _ _ => hR
  rename Fr _ _ _ _ => F
  rename News _ _ _ [_] => N
  refine with_addr N fun fd hfd => ?_
  subst hfd
  refine Hold.un (for_rangeM qs.length [(fd, listOf #[] 0)] (fun M0 i m nx => ∃ us cnt tl ps, m (Str.ofString "found") = some (.ref fd) ∧ (∀ z, z ≠ Str.ofString "at" → z ≠ Str.ofString "found" → z ≠ Str.ofString "total" → z ≠ Str.ofString "spot" → z ≠ Str.ofString "times" → m z = M0 z) ∧ nx = (fd, listOf us.toArray cnt) :: tl ∧ (∀ q ∈ tl, q.1 ≠ fd) ∧ powO p qs i = some ps ∧ AllBy (Held1 tl) us ps)
    rfl hR (small_one (by omega) (by omega) (by omega) (by omega)) (rsize (by omega)) F N (fun _ h => h) ⟨[], 0, [], [], rfl, (fun _ _ _ _ _ _ => rfl), rfl, (fun _ h => nomatch h), rfl, .nil⟩ ?_ ?_)
  · rintro i k tk m₁ nx h tk' own hj hk hoff ⟨us, cnt, tl, ps, ef, er, rfl, htl, hps, hA⟩ F₁ N₁
    rw [Int.zero_add] at hk
    subst hk
    have F₂ := fr5 F₁ ef er
    clear F₁ ef er F N
    rw [List.cons_append] at N₁
    have hun : un + 3 + 64 < cLine := by omega
    with_reducible show wpAny _ _ _ _ _ _
    k_fold
    k_steps
    rename IsRange _ _ _ _ _ _ _ _ => hR2
    rename Fr _ _ _ _ => F5
    rename News _ _ _ _ => N5
    have hlen := powO_length hps
    obtain ⟨ps', hps'⟩ := powO_some ho (i + 1) (by omega)
    obtain ⟨x, hx1, rfl⟩ := powO_step hps hps'
    obtain ⟨tot, hit, hx2⟩ := bind_some hx1
    refine Hold.un (for_rangeM i ((fd, listOf us.toArray cnt) :: (tl ++ own)) (fun M1 j m nx => ∃ ta acc ext, m (Str.ofString "total") = some (.ref ta) ∧ (∀ z, z ≠ Str.ofString "spot" → z ≠ Str.ofString "total" → z ≠ Str.ofString "times" → m z = M1 z) ∧ nx = (fd, listOf us.toArray cnt) :: (ext ++ (tl ++ own)) ∧ iterO (powStep p qs ps i) (0, 1) j = some acc ∧ Held ext ta acc)
      rfl hR2 (small_one (by omega) (by omega) (by omega) (by omega)) (rsize (by omega)) F5 N5 (fun _ h => h) ⟨49, (0, 1), [], rfl, (fun _ _ _ _ => rfl), rfl, rfl, .inl ⟨rfl, rfl⟩⟩ ?_ ?_)
    · rintro j k2 tk2 m₂ nx2 h2 tk3 own2 hj2 hk2 hoff2 ⟨ta, acc, ext, et, er2, rfl, hacc, hH⟩ F₃ N₃
      subst hk2
      have F₄ := fr3 F₃ et er2
      clear F₃ et er2 F5 N5 F₂ N₁ hR2
      rw [List.cons_append] at N₃
      obtain ⟨v, hv, hvI⟩ := A1.get (j + 1) (0, 1) (by omega)
      obtain ⟨av, ov, rfl, _⟩ := id hvI
      obtain ⟨af, haf, hfI⟩ := hA.get (i - (j + 1)) (0, 1) (by omega)
      obtain ⟨acc', hacc'⟩ := iterO_some hit (j + 1) (by omega)
      have hstep : powStep p qs ps i j acc = some acc' := by rw [iterO, hacc] at hacc'; exact hacc'
      obtain ⟨q1, hq1, hstep⟩ := bind_some hstep
      obtain ⟨q2, hq2, hstep⟩ := bind_some hstep
      obtain ⟨q3, hq3, hstep⟩ := bind_some hstep
      obtain ⟨q4, hq4, hstep⟩ := bind_some hstep
      obtain ⟨f1, rfl⟩ := when_some hq1
      obtain ⟨f2, rfl⟩ := when_some hq2
      obtain ⟨f3, rfl⟩ := when_some hq3
      obtain ⟨f4, rfl⟩ := when_some hq4
      obtain ⟨f5, rfl⟩ := when_some hstep
      obtain ⟨s11, s12, n11, n12⟩ := fitB_use f1
      obtain ⟨s21, s22, n21, n22⟩ := fitB_use f2
      obtain ⟨s31, s32, n31, n32⟩ := fitB_use f3
      obtain ⟨s41, s42, n41, n42⟩ := fitB_use f4
      obtain ⟨s51, s52, n51, n52⟩ := fitB_use f5
      with_reducible show wpAny _ _ _ _ _ _
      k_fold
      k_steps
      rename Fr _ _ _ _ => F6
      rename News _ _ _ _ => N6
      refine Hold.un (use_new (rmul_spec n rb _ p _ s11 s12 n11 n12) (a _) B F6 N6 ⟨ib.keep F6.keep, ⟨_, _, rfl, (N6 _ (.head _)).1, pairO_of rfl rfl⟩⟩ ?_)
      intro D1 t1 t2 c1 h3 tk4 F7 N7 hD1 _
      with_reducible show wpAny _ _ _ _ _ _
      k_steps
      rename Fr _ _ _ _ => F8
      rename News _ _ _ _ => N8
      refine Hold.un (use_new (rsub_spec n D1 _ _ _ s21 s22 n21 n22) (a _) B F8 N8 ⟨⟨D1, _, rfl, (N8 _ (.tail _ (.head _))).1, pairO_of rfl rfl⟩, ⟨_, _, rfl, (N8 _ (.head _)).1, pairO_of rfl rfl⟩⟩ ?_)
      intro D2 t3 t4 c2 h4 tk5 F9 N9 hD2 _
      with_reducible show wpAny _ _ _ _ _ _
      k_steps
      have ek1 : ((1 : Int) + (j : Int)).toNat = j + 1 := by omega
      have ek2 : ((i : Int) - (1 + (j : Int))).toNat = i - (j + 1) := by omega
      refine Hold.un (item_at (vs := vs) (IsList.keepK l1 (Fr.keep (by assumption))) (by omega) (by omega) (by rw [ek1]; exact hv) ?_)
      with_reducible show wpAny _ _ _ _ _ _
      k_steps
      rename Fr _ _ _ _ => F10
      rename News _ _ _ _ => N10
      refine Hold.un (use_new (rmul_spec n D2 av _ _ s31 s32 n31 n32) (a _) B F10 N10 ⟨⟨D2, _, rfl, (N10 _ (.head _)).1, pairO_of rfl rfl⟩, hvI.keep F10.keep⟩ ?_)
      intro D3 t5 t6 c3 h5 tk6 F11 N11 hD3 _
      with_reducible show wpAny _ _ _ _ _ _
      k_steps
      rename Fr _ _ _ _ => F12
      rename News _ _ _ _ => N12
      have mfd := N12 (fd, listOf us.toArray cnt) (by simp)
      have lfd : ∀ g, g = _ → Heap.IsList g fd us.toArray := fun g e => e ▸ ⟨_, mfd.1, rfl, _, rfl⟩
      refine Hold.un (item_at (vs := us) (lfd _ rfl) (by omega) (by omega) (by rw [ek2]; exact haf) ?_)
      with_reducible show wpAny _ _ _ _ _ _
      k_steps
      refine Hold.un (use_new (rmul_spec n D3 af _ _ s41 s42 n41 n42) (a _) B F12 N12 ⟨⟨D3, _, rfl, (N12 _ (.head _)).1, pairO_of rfl rfl⟩, hfI.is B F12 N12 (fun q hq => by simp [hq])⟩ ?_)
      intro D4 t7 t8 c4 h6 tk7 F13 N13 hD4 _
      with_reducible show wpAny _ _ _ _ _ _
      k_steps
      refine Hold.un (use_newO (radd_spec n ta D4 acc _ s51 s52 n51 n52) (a _) B F13 N13 ⟨hH.is B F13 N13 (fun q hq => by simp [hq]), ⟨D4, _, rfl, (N13 _ (.head _)).1, pairO_of rfl rfl⟩⟩ ?_)
      intro D5 o5 h7 tk8 hpo5 F14 N14 hD5
      with_reducible show wpAny _ _ _ _ _ _
      k_steps
      refine InvEndG.intro (nx := (fd, listOf us.toArray cnt) :: ([(D5, o5)] ++ (tl ++ own))) (by assumption) (by assumption) ⟨D5, _, [(D5, o5)], rfl, (by intro z h1 h2 h3; simp only [h1, h2, h3, if_false]), rfl, hacc', .inr ⟨o5, .head _, hpo5⟩⟩ (off_sub hoff2 ?_) ?_ ?_
      · intro q hq
        simp only [List.mem_cons, List.mem_append, List.not_mem_nil, or_false] at hq
        rcases hq with h | h | h | h
        · exact .inl (by simp [h])
        · right
          intro r hr
          subst h
          exact hD5 r (by simp [hr])
        · exact .inl (by simp [h])
        · exact .inl (by simp [h])
      · intro q hq
        simp only [List.mem_cons, List.mem_append, List.not_mem_nil, or_false] at hq
        rcases hq with h | h | h | h <;> simp [h]
      · intro q hq
        simp [hq]
    · rintro m₂ nx2 h2 tk3 ⟨ta, acc, ext, et, er2, rfl, hacc, hH⟩ F₃ N₃
      have F₄ := fr3d F₃ et er2
      clear F₃ et er2 F5 N5 F₂ N₁ hR2
      rw [hit] at hacc
      cases hacc
      have hne : ∀ q ∈ tl ++ own, q.1 ≠ fd := by
        intro q hq
        rcases List.mem_append.mp hq with h | h
        · exact htl q h
        · exact hoff q h fd (by simp)
      dsimp only
      with_reducible show wpAny _ _ _ _ _ _
      k_steps
      · rename (i : Int) = 0 => hi0
        obtain rfl : i = 0 := by omega
        rw [if_pos rfl] at hx2
        cases hx2
        have N₄ : News s.heap L h2 ((fd, listOf us.toArray cnt) :: (tl ++ own)) := News.sub N₃ (fun q hq => by
          simp only [List.mem_cons, List.mem_append] at hq
          rcases hq with h | h | h <;> simp [h])
        refine Hold.un (append_K F₄ N₄ (Upd.head hne) ?_ (by rw [sizeLine_eq]; simp [hA.length]; omega))
        intro h7 F15 N15
        have e7 : us.toArray.push (Value.ref 50) = (us ++ [Value.ref 50]).toArray := by simp
        rw [e7] at N15
        with_reducible show wpAny _ _ _ _ _ _
        k_steps
        exact InvEndG.intro (nx := (fd, listOf (us ++ [Value.ref 50]).toArray (cnt + 1)) :: tl) F15 N15 ⟨us ++ [Value.ref 50], cnt + 1, tl, _, rfl, (by intro z h1 h2 h3 h4 h5; simp only [h1, h2, h3, h4, h5, if_false]), rfl, htl, hps', hA.snoc (.inl ⟨rfl, rfl⟩)⟩ hoff (fun q hq => by
          simp only [List.mem_cons] at hq
          rcases hq with h | h <;> simp [h]) (fun q hq => by simp [hq])
      · rename ¬ (i : Int) = 0 => hi0
        rw [if_neg (by omega)] at hx2
        obtain ⟨d, hd, hx3⟩ := bind_some hx2
        obtain ⟨hf, rfl⟩ := when_some hd
        obtain ⟨hsm, rfl⟩ := letO_some hx3
        rw [Bool.and_eq_true, bne_iff_ne] at hf
        obtain ⟨s61, s62, n61, n62⟩ := fitB_use hf.1
        rename Fr _ _ _ _ => F15
        rename News _ _ _ _ => N15
        refine Hold.un (use_newO (rdiv_spec n ta _ tot _ s61 s62 n61 hf.2) (a _) B F15 N15 ⟨hH.is B F15 N15 (fun q hq => by simp [hq]), ⟨_, _, rfl, (N15 _ (.head _)).1, pairO_of rfl rfl⟩⟩ ?_)
        intro D6 o6 h8 tk9 hpo6 F16 N16 hD6
        with_reducible show wpAny _ _ _ _ _ _
        k_steps
        refine Hold.un (use_spec (let_spec (n + 1) D6 _ hsm) (a _) B F16 N16 ⟨_, _, rfl, (N16 _ (.head _)).1, hpo6⟩ ?_)
        rintro v h9 tk10 F17 N17 kp9 rfl
        with_reducible show wpAny _ _ _ _ _ _
        k_steps
        have N18 : News s.heap L h9 ((fd, listOf us.toArray cnt) :: ((D6, o6) :: (tl ++ own))) := News.sub N17 (fun q hq => by
          simp only [List.mem_cons, List.mem_append] at hq
          rcases hq with h | h | h | h <;> simp [h])
        refine Hold.un (append_K F17 N18 (Upd.head ?_) ?_ (by rw [sizeLine_eq]; simp [hA.length]; omega))
        · intro q hq
          rcases List.mem_cons.mp hq with h | h
          · rw [h]
            exact fun e => hD6 (fd, listOf us.toArray cnt) (by simp) e.symm
          · exact hne q h
        intro h10 F19 N19
        have e7 : us.toArray.push (Value.ref D6) = (us ++ [Value.ref D6]).toArray := by simp
        rw [e7] at N19
        with_reducible show wpAny _ _ _ _ _ _
        k_steps
        refine InvEndG.intro (nx := (fd, listOf (us ++ [Value.ref D6]).toArray (cnt + 1)) :: (D6, o6) :: tl) F19 N19 ⟨us ++ [Value.ref D6], cnt + 1, (D6, o6) :: tl, _, rfl, (by intro z h1 h2 h3 h4 h5; simp only [h1, h2, h3, h4, h5, if_false]), rfl, ?_, hps', (hA.mono fun _ _ h => h.mono fun _ h => .tail _ h).snoc (.inr (.inr ⟨o6, .head _, hpo6⟩))⟩ (off_sub hoff ?_) (fun q hq => by
          simp only [List.mem_cons] at hq
          rcases hq with h | h | h <;> simp [h]) (fun q hq => by simp [hq])
        · intro q hq
          rcases List.mem_cons.mp hq with h | h
          · rw [h]
            exact fun e => hD6 (fd, listOf us.toArray cnt) (by simp) e.symm
          · exact htl q h
        · intro q hq
          simp only [List.mem_cons] at hq
          rcases hq with h | h | h
          · right
            intro r hr e
            rw [h] at e
            exact hoff r hr fd (by simp) e
          · right
            intro r hr
            rw [h]
            exact hD6 r (by simp [hr])
          · exact .inl (by simp [h])
  · rintro m₁ nx h tk ⟨us, cnt, tl, ps, ef, er, rfl, htl, hps, hA⟩ F₁ N₁
    have F₂ := fr1 F₁ ef
    clear F₁ er ef F N
    rw [ho] at hps
    cases hps
    dsimp only
    with_reducible show wpAny _ _ _ _ _ _
    k_steps
    exact ret _ _ _ (Fr.keep (by assumption)) (newRow_of N₁ (.head _) (fun q hq => .tail _ hq) hA)
end Mine
end
section -- part C11
open PySem PySem.W PyProof.Rows PySem.Calls PySem.Spec PySem.F
set_option maxHeartbeats 800000
namespace Mine
variable {w : World}
local macro_rules | `(tactic| walk_at "call ref") => `(tactic| (refine hold_wp ?_))
local macro_rules | `(tactic| walk_at "call builtin:len") => `(tactic| (refine hold_wp ?_))
local macro_rules | `(tactic| walk_at "call builtin:list.append") => `(tactic| (refine hold_wp ?_))
local macro_rules | `(tactic| walk_at "exec For Name Call cons nil") => `(tactic| ((rename Fr _ _ _ _ => lF'); (with_unfolding_all refine' For_invVF lF' ?k1 ?k2 ?_; (case k1 => exact rfl); (case k2 => exact rfl); k_whole)))
local macro_rules | `(tactic| walk_at "pyIter ref") => `(tactic| (refine hold_wp ?_))
local macro_rules | `(tactic| walk_at "subscriptTail Name Name ref int") => `(tactic| (refine hold_wp ?_))
local macro_rules | `(tactic| walk_at "subscriptTail Name BinOp ref int") => `(tactic| (refine hold_wp ?_))
local macro_rules | `(tactic| walk_at "subscriptTail Name Constant ref int") => `(tactic| (refine hold_wp ?_))
local macro_rules | `(tactic| walk_at "compareOp Eq ref ref") => `(tactic| (refine hold_wp ?_))
noncomputable def invStep (qs found : List (Int × Int)) (at_ j : Nat) (total : Int × Int) : Option (Int × Int) :=
  (rmulO (qs.getD (j + 1) (0, 1)) (found.getD (at_ - (j + 1)) (0, 1))).bind fun m => rsubO total m
noncomputable def invAt (qs found : List (Int × Int)) (at_ : Nat) : Option (Int × Int) :=
  (iterO (invStep qs found at_) (if at_ = 0 then (1, 1) else (0, 1)) at_).bind fun total => (rdivO total (qs.getD 0 (0, 1))).bind letO
noncomputable def invO (qs : List (Int × Int)) : Nat → Option (List (Int × Int))
  | 0 => some []
  | n + 1 => (invO qs n).bind fun found => (invAt qs found n).map fun x => found ++ [x]
theorem invO_some {qs : List (Int × Int)} : ∀ {n : Nat} {l : List (Int × Int)}, invO qs n = some l → ∀ i, i ≤ n → ∃ l', invO qs i = some l'
  | 0, l, h, i, hi => by cases Nat.le_zero.mp hi; exact ⟨_, h⟩
  | n + 1, l, h, i, hi => by
    rcases Nat.lt_or_ge i (n + 1) with hl | hl
    · rw [invO] at h
      cases q : invO qs n with
      | none => rw [q] at h; cases h
      | some y => exact invO_some q i (Nat.le_of_lt_succ hl)
    · have : i = n + 1 := by omega
      subst this
      exact ⟨_, h⟩
theorem invO_step {qs : List (Int × Int)} {n : Nat} {l l' : List (Int × Int)} (h : invO qs n = some l) (h' : invO qs (n + 1) = some l') : ∃ x, invAt qs l n = some x ∧ l' = l ++ [x] := by
  rw [invO, h] at h'
  change (invAt qs l n).map (fun x => l ++ [x]) = some l' at h'
  cases q : invAt qs l n with
  | none => rw [q] at h'; cases h'
  | some x => rw [q] at h'; exact ⟨x, rfl, (Option.some.inj h').symm⟩
theorem invO_length {qs : List (Int × Int)} : ∀ {n : Nat} {l : List (Int × Int)}, invO qs n = some l → l.length = n
  | 0, l, h => by cases h; rfl
  | n + 1, l, h => by
    obtain ⟨l', h'⟩ := invO_some h n (Nat.le_succ n)
    obtain ⟨x, _, rfl⟩ := invO_step h' h
    rw [List.length_append, invO_length h']; rfl
theorem sinverse_spec (n : Nat) (ra : Addr) (qs : List (Int × Int)) (hc : qs.length < 1000) (h0 : 0 < qs.length) (hz : qs.getD 0 (0, 1) ≠ (0, 1)) (out : List (Int × Int)) (ho : invO qs qs.length = some out) :
    Spec w 125 (n + 4) [.ref ra] (fun h => Row h (.ref ra) qs) (NewRow out) := by
  w_top off
  unfold Spec
  rintro ⟨hd9, dp, fr, gd, un⟩ s Q E ⟨hh, hroom, hunits⟩ B ia ret
  cases hh
  dsimp only at hroom hunits
  have X := B.X
  obtain ⟨loose, mean, mg, mb, T⟩ := B.T
  revert X
  k_fill
  intro X
  refine' enter (binds := [(Str.ofString "a", .ref ra)]) ⟨rfl, hroom, hunits⟩ B ?k6 ?k7 ?k9 ?kB ?c5 ?c2 ?c3 ?c4 ?_
  case k6 => k_is
  case k7 => k_is
  case k9 => exact BindsTo.of_eq rfl
  case kB => exact locs rfl
  case c5 => decide
  case c2 => exact rfl
  case c3 => exact rfl
  case c4 => exact rfl
  intro L h₁ F N
  have a : ∀ env, Amb ({ handled := none, depth := dp, frames := fr, guards := gd, units := un : Around }.deeper env) _ := fun env => Amb.down ⟨rfl, hroom, hunits⟩
  with_reducible show wpAny _ _ _ _ _ _
  k_fold
  obtain ⟨_, vs, e1, l1, A1⟩ := id ia
  cases e1
  have e1 := A1.length
  have z1 : (vs.toArray.size : Int) = (qs.length : Int) := by simp [e1]
  obtain ⟨vz, hvz, hvzI⟩ := A1.get 0 (0, 1) h0
  obtain ⟨az, oz, rfl, _⟩ := id hvzI
  have hun : un + 3 + 64 < cLine := by omega
  with_reducible show wpAny _ _ _ _ _ _
  k_steps
  refine Hold.un (len_list (IsList.keepK l1 (Fr.keep (by assumption))) (by omega) ?_)
  with_reducible show wpAny _ _ _ _ _ _
  rw [z1]
  k_steps
  refine Hold.un (item_at (vs := vs) (IsList.keepK l1 (Fr.keep (by assumption))) (by omega) (by omega) hvz ?_)
  with_reducible show wpAny _ _ _ _ _ _
  k_steps
  refine Hold.un (eq_pair (hvzI.keep (Fr.keep (by assumption))) ((R0_is B).keep (Fr.keep (by assumption))) hun ?_)
  with_reducible show wpAny _ _ _ _ _ _
  k_steps
  refine Hold.un (len_list (IsList.keepK l1 (Fr.keep (by assumption))) (by omega) ?_)
  with_reducible show wpAny _ _ _ _ _ _
  rw [z1]
  k_steps
  rename IsRange _ _ _ _ _ _ _ _ => hR
  rename Fr _ _ _ _ => F
  rename News _ _ _ [_] => N
  refine with_addr N fun fd hfd => ?_
  subst hfd
  refine Hold.un (for_rangeM qs.length [(fd, listOf #[] 0)] (fun M0 i m nx => ∃ us cnt tl ps, m (Str.ofString "found") = some (.ref fd) ∧ (∀ z, z ≠ Str.ofString "at" → z ≠ Str.ofString "found" → z ≠ Str.ofString "total" → z ≠ Str.ofString "spot" → z ≠ Str.ofString "times" → m z = M0 z) ∧ nx = (fd, listOf us.toArray cnt) :: tl ∧ (∀ q ∈ tl, q.1 ≠ fd) ∧ invO qs i = some ps ∧ AllBy (Held1 tl) us ps)
    rfl hR (small_one (by omega) (by omega) (by omega) (by omega)) (rsize (by omega)) F N (fun _ h => h) ⟨[], 0, [], [], rfl, (fun _ _ _ _ _ _ => rfl), rfl, (fun _ h => nomatch h), rfl, .nil⟩ ?_ ?_)
  · rintro i k tk m₁ nx h tk' own hj hk hoff ⟨us, cnt, tl, ps, ef, er, rfl, htl, hps, hA⟩ F₁ N₁
    rw [Int.zero_add] at hk
    subst hk
    have F₂ := fr5 F₁ ef er
    clear F₁ ef er F N
    rw [List.cons_append] at N₁
    have hlen := invO_length hps
    obtain ⟨ps', hps'⟩ := invO_some ho (i + 1) (by omega)
    obtain ⟨x, hx1, rfl⟩ := invO_step hps hps'
    obtain ⟨tot, hit, hx2⟩ := bind_some hx1
    obtain ⟨d, hd, hx3⟩ := bind_some hx2
    obtain ⟨hf, rfl⟩ := when_some hd
    obtain ⟨hsm, rfl⟩ := letO_some hx3
    rw [Bool.and_eq_true, bne_iff_ne] at hf
    obtain ⟨s61, s62, n61, n62⟩ := fitB_use hf.1
    with_reducible show wpAny _ _ _ _ _ _
    k_fold
    k_steps
    · rename IsRange _ _ _ _ _ _ _ _ => hR2
      rename Fr _ _ _ _ => F5
      rename News _ _ _ _ => N5
      rename (i : Int) = 0 => hi0
      rw [if_pos (by omega)] at hit
      refine Hold.un (for_rangeM i ((fd, listOf us.toArray cnt) :: (tl ++ own)) (fun M1 j m nx => ∃ ta acc ext, m (Str.ofString "total") = some (.ref ta) ∧ (∀ z, z ≠ Str.ofString "spot" → z ≠ Str.ofString "total" → m z = M1 z) ∧ nx = (fd, listOf us.toArray cnt) :: (ext ++ (tl ++ own)) ∧ iterO (invStep qs ps i) (1, 1) j = some acc ∧ Held1 ext ta acc)
        rfl hR2 (small_one (by omega) (by omega) (by omega) (by omega)) (rsize (by omega)) F5 N5 (fun _ h => h) ⟨50, (1, 1), [], rfl, (fun _ _ _ => rfl), rfl, rfl, .inl ⟨rfl, rfl⟩⟩ ?_ ?_)
      · rintro j k2 tk2 m₂ nx2 h2 tk3 own2 hj2 hk2 hoff2 ⟨ta, acc, ext, et, er2, rfl, hacc, hH⟩ F₃ N₃
        exact absurd hj2 (by omega)
      · rintro m₂ nx2 h2 tk3 ⟨ta, acc, ext, et, er2, rfl, hacc, hH⟩ F₃ N₃
        have F₄ := fr3d (x := Str.ofString "spot") (a := Str.ofString "times") F₃ et (fun z h1 h2 _ => er2 z h1 h2)
        clear F₃ et er2 F5 N5 F₂ N₁ hR2
        rw [hit] at hacc
        cases hacc
        have hne : ∀ q ∈ tl ++ own, q.1 ≠ fd := by
          intro q hq
          rcases List.mem_append.mp hq with h | h
          · exact htl q h
          · exact hoff q h fd (by simp)
        dsimp only
        with_reducible show wpAny _ _ _ _ _ _
        k_steps
        refine Hold.un (item_at (vs := vs) (IsList.keepK l1 (Fr.keep (by assumption))) (by omega) (by omega) hvz ?_)
        with_reducible show wpAny _ _ _ _ _ _
        k_steps
        rename Fr _ _ _ _ => F15
        rename News _ _ _ _ => N15
        refine Hold.un (use_newO (rdiv_spec n ta az tot _ s61 s62 n61 hf.2) (a _) B F15 N15 ⟨hH.is B F15 N15 (fun q hq => by simp [hq]), hvzI.keep F15.keep⟩ ?_)
        intro D6 o6 h8 tk9 hpo6 F16 N16 hD6
        with_reducible show wpAny _ _ _ _ _ _
        k_steps
        refine Hold.un (use_spec (let_spec (n + 1) D6 _ hsm) (a _) B F16 N16 ⟨_, _, rfl, (N16 _ (.head _)).1, hpo6⟩ ?_)
        rintro v h9 tk10 F17 N17 kp9 rfl
        with_reducible show wpAny _ _ _ _ _ _
        k_steps
        have N18 : News s.heap L h9 ((fd, listOf us.toArray cnt) :: ((D6, o6) :: (tl ++ own))) := News.sub N17 (fun q hq => by
          simp only [List.mem_cons, List.mem_append] at hq
          rcases hq with h | h | h | h <;> simp [h])
        refine Hold.un (append_K F17 N18 (Upd.head ?_) ?_ (by rw [sizeLine_eq]; simp [hA.length]; omega))
        · intro q hq
          rcases List.mem_cons.mp hq with h | h
          · rw [h]
            exact fun e => hD6 (fd, listOf us.toArray cnt) (by simp) e.symm
          · exact hne q h
        intro h10 F19 N19
        have e7 : us.toArray.push (Value.ref D6) = (us ++ [Value.ref D6]).toArray := by simp
        rw [e7] at N19
        with_reducible show wpAny _ _ _ _ _ _
        k_steps
        refine InvEndG.intro (nx := (fd, listOf (us ++ [Value.ref D6]).toArray (cnt + 1)) :: (D6, o6) :: tl) F19 N19 ⟨us ++ [Value.ref D6], cnt + 1, (D6, o6) :: tl, _, rfl, (by intro z h1 h2 h3 h4 h5; simp only [h1, h2, h3, h4, h5, if_false]), rfl, ?_, hps', (hA.mono fun _ _ h => h.mono fun _ h => .tail _ h).snoc (.inr (.inr ⟨o6, .head _, hpo6⟩))⟩ (off_sub hoff ?_) (fun q hq => by
          simp only [List.mem_cons] at hq
          rcases hq with h | h | h <;> simp [h]) (fun q hq => by simp [hq])
        · intro q hq
          rcases List.mem_cons.mp hq with h | h
          · rw [h]
            exact fun e => hD6 (fd, listOf us.toArray cnt) (by simp) e.symm
          · exact htl q h
        · intro q hq
          simp only [List.mem_cons] at hq
          rcases hq with h | h | h
          · right
            intro r hr e
            rw [h] at e
            exact hoff r hr fd (by simp) e
          · right
            intro r hr
            rw [h]
            exact hD6 r (by simp [hr])
          · exact .inl (by simp [h])
    · rename IsRange _ _ _ _ _ _ _ _ => hR2
      rename Fr _ _ _ _ => F5
      rename News _ _ _ _ => N5
      rename ¬ (i : Int) = 0 => hi0
      rw [if_neg (by omega)] at hit
      refine Hold.un (for_rangeM i ((fd, listOf us.toArray cnt) :: (tl ++ own)) (fun M1 j m nx => ∃ ta acc ext, m (Str.ofString "total") = some (.ref ta) ∧ (∀ z, z ≠ Str.ofString "spot" → z ≠ Str.ofString "total" → m z = M1 z) ∧ nx = (fd, listOf us.toArray cnt) :: (ext ++ (tl ++ own)) ∧ iterO (invStep qs ps i) (0, 1) j = some acc ∧ Held1 ext ta acc)
        rfl hR2 (small_one (by omega) (by omega) (by omega) (by omega)) (rsize (by omega)) F5 N5 (fun _ h => h) ⟨49, (0, 1), [], rfl, (fun _ _ _ => rfl), rfl, rfl, .inr (.inl ⟨rfl, rfl⟩)⟩ ?_ ?_)
      · rintro j k2 tk2 m₂ nx2 h2 tk3 own2 hj2 hk2 hoff2 ⟨ta, acc, ext, et, er2, rfl, hacc, hH⟩ F₃ N₃
        subst hk2
        have F₄ := fr2 F₃ et (fun z h1 h2 => er2 z h2 h1)
        clear F₃ et er2 F5 N5 F₂ N₁ hR2
        rw [List.cons_append] at N₃
        obtain ⟨v, hv, hvI⟩ := A1.get (j + 1) (0, 1) (by omega)
        obtain ⟨av, ov, rfl, _⟩ := id hvI
        obtain ⟨af, haf, hfI⟩ := hA.get (i - (j + 1)) (0, 1) (by omega)
        obtain ⟨acc', hacc'⟩ := iterO_some hit (j + 1) (by omega)
        have hstep : invStep qs ps i j acc = some acc' := by rw [iterO, hacc] at hacc'; exact hacc'
        obtain ⟨q1, hq1, hstep⟩ := bind_some hstep
        obtain ⟨f1, rfl⟩ := when_some hq1
        obtain ⟨f2, rfl⟩ := when_some hstep
        obtain ⟨s11, s12, n11, n12⟩ := fitB_use f1
        obtain ⟨s21, s22, n21, n22⟩ := fitB_use f2
        have ek1 : ((1 : Int) + (j : Int)).toNat = j + 1 := by omega
        have ek2 : ((i : Int) - (1 + (j : Int))).toNat = i - (j + 1) := by omega
        with_reducible show wpAny _ _ _ _ _ _
        k_fold
        k_steps
        refine Hold.un (item_at (vs := vs) (IsList.keepK l1 (Fr.keep (by assumption))) (by omega) (by omega) (by rw [ek1]; exact hv) ?_)
        with_reducible show wpAny _ _ _ _ _ _
        k_steps
        rename Fr _ _ _ _ => F12
        rename News _ _ _ _ => N12
        have mfd := N12 (fd, listOf us.toArray cnt) (by simp)
        have lfd : ∀ g, g = _ → Heap.IsList g fd us.toArray := fun g e => e ▸ ⟨_, mfd.1, rfl, _, rfl⟩
        refine Hold.un (item_at (vs := us) (lfd _ rfl) (by omega) (by omega) (by rw [ek2]; exact haf) ?_)
        with_reducible show wpAny _ _ _ _ _ _
        k_steps
        refine Hold.un (use_newO (rmul_spec n av af _ _ s11 s12 n11 n12) (a _) B F12 N12 ⟨hvI.keep F12.keep, hfI.is B F12 N12 (fun q hq => by simp [hq])⟩ ?_)
        intro D4 o4 h6 tk7 hpo4 F13 N13 hD4
        with_reducible show wpAny _ _ _ _ _ _
        k_steps
        refine Hold.un (use_newO (rsub_spec n ta D4 acc _ s21 s22 n21 n22) (a _) B F13 N13 ⟨hH.is B F13 N13 (fun q hq => by simp [hq]), ⟨D4, _, rfl, (N13 _ (.head _)).1, hpo4⟩⟩ ?_)
        intro D5 o5 h7 tk8 hpo5 F14 N14 hD5
        with_reducible show wpAny _ _ _ _ _ _
        k_steps
        refine InvEndG.intro (nx := (fd, listOf us.toArray cnt) :: ([(D5, o5)] ++ (tl ++ own))) (by assumption) (by assumption) ⟨D5, _, [(D5, o5)], rfl, (by intro z h1 h2; simp only [h1, h2, if_false]), rfl, hacc', .inr (.inr ⟨o5, .head _, hpo5⟩)⟩ (off_sub hoff2 ?_) ?_ ?_
        · intro q hq
          simp only [List.mem_cons, List.mem_append, List.not_mem_nil, or_false] at hq
          rcases hq with h | h | h | h
          · exact .inl (by simp [h])
          · right
            intro r hr
            subst h
            exact hD5 r (by simp [hr])
          · exact .inl (by simp [h])
          · exact .inl (by simp [h])
        · intro q hq
          simp only [List.mem_cons, List.mem_append, List.not_mem_nil, or_false] at hq
          rcases hq with h | h | h | h <;> simp [h]
        · intro q hq
          simp [hq]
      · rintro m₂ nx2 h2 tk3 ⟨ta, acc, ext, et, er2, rfl, hacc, hH⟩ F₃ N₃
        have F₄ := fr3d (x := Str.ofString "spot") (a := Str.ofString "times") F₃ et (fun z h1 h2 _ => er2 z h1 h2)
        clear F₃ et er2 F5 N5 F₂ N₁ hR2
        rw [hit] at hacc
        cases hacc
        have hne : ∀ q ∈ tl ++ own, q.1 ≠ fd := by
          intro q hq
          rcases List.mem_append.mp hq with h | h
          · exact htl q h
          · exact hoff q h fd (by simp)
        dsimp only
        with_reducible show wpAny _ _ _ _ _ _
        k_steps
        refine Hold.un (item_at (vs := vs) (IsList.keepK l1 (Fr.keep (by assumption))) (by omega) (by omega) hvz ?_)
        with_reducible show wpAny _ _ _ _ _ _
        k_steps
        rename Fr _ _ _ _ => F15
        rename News _ _ _ _ => N15
        refine Hold.un (use_newO (rdiv_spec n ta az tot _ s61 s62 n61 hf.2) (a _) B F15 N15 ⟨hH.is B F15 N15 (fun q hq => by simp [hq]), hvzI.keep F15.keep⟩ ?_)
        intro D6 o6 h8 tk9 hpo6 F16 N16 hD6
        with_reducible show wpAny _ _ _ _ _ _
        k_steps
        refine Hold.un (use_spec (let_spec (n + 1) D6 _ hsm) (a _) B F16 N16 ⟨_, _, rfl, (N16 _ (.head _)).1, hpo6⟩ ?_)
        rintro v h9 tk10 F17 N17 kp9 rfl
        with_reducible show wpAny _ _ _ _ _ _
        k_steps
        have N18 : News s.heap L h9 ((fd, listOf us.toArray cnt) :: ((D6, o6) :: (tl ++ own))) := News.sub N17 (fun q hq => by
          simp only [List.mem_cons, List.mem_append] at hq
          rcases hq with h | h | h | h <;> simp [h])
        refine Hold.un (append_K F17 N18 (Upd.head ?_) ?_ (by rw [sizeLine_eq]; simp [hA.length]; omega))
        · intro q hq
          rcases List.mem_cons.mp hq with h | h
          · rw [h]
            exact fun e => hD6 (fd, listOf us.toArray cnt) (by simp) e.symm
          · exact hne q h
        intro h10 F19 N19
        have e7 : us.toArray.push (Value.ref D6) = (us ++ [Value.ref D6]).toArray := by simp
        rw [e7] at N19
        with_reducible show wpAny _ _ _ _ _ _
        k_steps
        refine InvEndG.intro (nx := (fd, listOf (us ++ [Value.ref D6]).toArray (cnt + 1)) :: (D6, o6) :: tl) F19 N19 ⟨us ++ [Value.ref D6], cnt + 1, (D6, o6) :: tl, _, rfl, (by intro z h1 h2 h3 h4 h5; simp only [h1, h2, h3, h4, h5, if_false]), rfl, ?_, hps', (hA.mono fun _ _ h => h.mono fun _ h => .tail _ h).snoc (.inr (.inr ⟨o6, .head _, hpo6⟩))⟩ (off_sub hoff ?_) (fun q hq => by
          simp only [List.mem_cons] at hq
          rcases hq with h | h | h <;> simp [h]) (fun q hq => by simp [hq])
        · intro q hq
          rcases List.mem_cons.mp hq with h | h
          · rw [h]
            exact fun e => hD6 (fd, listOf us.toArray cnt) (by simp) e.symm
          · exact htl q h
        · intro q hq
          simp only [List.mem_cons] at hq
          rcases hq with h | h | h
          · right
            intro r hr e
            rw [h] at e
            exact hoff r hr fd (by simp) e
          · right
            intro r hr
            rw [h]
            exact hD6 r (by simp [hr])
          · exact .inl (by simp [h])
  · rintro m₁ nx h tk ⟨us, cnt, tl, ps, ef, er, rfl, htl, hps, hA⟩ F₁ N₁
    have F₂ := fr1 F₁ ef
    clear F₁ er ef F N
    rw [ho] at hps
    cases hps
    dsimp only
    with_reducible show wpAny _ _ _ _ _ _
    k_steps
    exact ret _ _ _ (Fr.keep (by assumption)) (newRow_of N₁ (.head _) (fun q hq => .tail _ hq) hA)
end Mine
end
section -- part C12
open PySem PySem.W PyProof.Rows PySem.Calls PySem.Spec PySem.F
set_option maxHeartbeats 800000
namespace Mine
variable {w : World}
local macro_rules | `(tactic| walk_at "call ref") => `(tactic| (refine hold_wp ?_))
local macro_rules | `(tactic| walk_at "CompSrc") => `(tactic| (refine hold_cs ?_))
local macro_rules | `(tactic| walk_at "CompEnd") => `(tactic| (refine hold_ce ?_))
/-- a list of ints -/
noncomputable def Ints (h : Heap) (v : Value) (ns : List Int) : Prop := ∃ a vs, v = .ref a ∧ h.IsList a vs.toArray ∧ IntsAre vs ns
theorem Ints.keep {h h' : Heap} {v : Value} {ns : List Int} (x : Ints h v ns) (k : Keep h h') : Ints h' v ns :=
  let ⟨a, vs, e, hl, r⟩ := x; ⟨a, vs, e, IsList.keepK hl k, r⟩
noncomputable def rowF (ns : List Int) : List (Int × Int) := ns.map fun n => (n, 1)
theorem compEnd_new {h₀ : Heap} {L I C D D' : Addr} {m : Str → Option Value} {s₁ : Shared} {oI oC oD o : Obj} {S : List (Addr × Obj) → Prop} {rest : Value → List (Addr × Obj) → Prop} {y : Value} {h' : Heap} {tk : Nat} {news : List (Addr × Obj)}
    (F : Fr h₀ L h' m) (N : News h₀ L h' ((D', o) :: (I, oI) :: (C, oC) :: (D, oD) :: news)) (h1 : I < D') (h2 : C < D') (h3 : D < D') (off : LCg.Off3 I C D news) (hS : S ((D', o) :: news)) (r : rest y ((D', o) :: news)) :
    LCg.CompEnd h₀ L m s₁ I oI C oC D oD S rest y { s₁ with heap := h', toks := tk } := by
  refine LCg.CompEnd.intro F N ((D', o) :: news) ?_ ?_ hS r
  · intro p hp
    simp only [List.mem_cons] at hp ⊢
    rcases hp with h | h | h | h | h <;> simp [h]
  · exact LCg.Off3.of fun p hp => by
      rcases List.mem_cons.mp hp with h | h
      · rw [h]
        exact ⟨Nat.ne_of_gt h1, Nat.ne_of_gt h2, Nat.ne_of_gt h3⟩
      · exact LCg.Off3.mem off p h
theorem row_spec (n : Nat) (ra : Addr) (ns : List Int) (hc : ns.length < 1000) :
    Spec w 151 (n + 1) [.ref ra] (fun h => Ints h (.ref ra) ns) (NewRow (rowF ns)) := by
  w_top off
  unfold Spec
  rintro ⟨hd9, dp, fr, gd, un⟩ s Q E ⟨hh, hroom, hunits⟩ B ia ret
  cases hh
  dsimp only at hroom hunits
  have X := B.X
  obtain ⟨loose, mean, mg, mb, T⟩ := B.T
  revert X
  k_fill
  intro X
  refine' enter (binds := [(Str.ofString "numbers", .ref ra)]) ⟨rfl, hroom, hunits⟩ B ?k6 ?k7 ?k9 ?kB ?c5 ?c2 ?c3 ?c4 ?_
  case k6 => k_is
  case k7 => k_is
  case k9 => exact BindsTo.of_eq rfl
  case kB => exact locs rfl
  case c5 => decide
  case c2 => exact rfl
  case c3 => exact rfl
  case c4 => exact rfl
  intro L h₁ F N
  have a : ∀ env, Amb ({ handled := none, depth := dp, frames := fr, guards := gd, units := un : Around }.deeper env) _ := fun env => Amb.down ⟨rfl, hroom, hunits⟩
  with_reducible show wpAny _ _ _ _ _ _
  k_fold
  obtain ⟨_, vs, e1, l1, A1⟩ := id ia
  cases e1
  have e1 := A1.length
  with_reducible show wpAny _ _ _ _ _ _
  k_steps
  refine Hold.un (LCg.CompSrc.base rfl (by assumption) (by assumption) l1 (by rw [sizeLine_eq]; simp; omega) ?_)
  intro g
  have esz : vs.toArray.size = ns.length := by simp [e1]
  rw [esz]
  refine compRest_inv (fun i ys news => AllBy (Held1 news) ys (rowF (ns.take i))) ?_ ?_ ns.length 0 [] _ (Nat.zero_add _) .nil
  · rintro i ys news hi hH v I oI C oC D m₂ h tk E' hv hns hx F3 N3 hoff hne
    obtain ⟨t, hx2⟩ := A1.get i ns[i] (by simp [hi])
    have hv2 : v = .int ns[i] t := by
      have hv' : vs[i]? = some v := by simpa using hv
      rw [hx2] at hv'; exact (Option.some.inj hv').symm
    subst hv2
    with_reducible show wpAny _ _ _ _ _ _
    k_steps
    rename Fr _ _ _ _ => F4
    rename News _ _ _ _ => N4
    rename (_ < _ ∧ _ < _ ∧ _ < _ ∧ _) => hl
    refine Hold.un (compEnd_new F4 N4 hl.1 hl.2.1 hl.2.2.1 hoff (.inl l1) ?_)
    have e2 : rowF (ns.take (i + 1)) = rowF (ns.take i) ++ [(ns[i], 1)] := by
      unfold rowF
      rw [List.take_add_one, List.getElem?_eq_getElem hi, List.map_append]
      rfl
    rw [e2]
    exact (hH.mono fun _ _ h => h.mono fun _ h => .tail _ h).snoc (.inr (.inr ⟨_, .head _, pairO_of rfl rfl⟩))
  · intro ys news hH
    rw [List.take_length] at hH
    unfold LCg.FinE
    intro D' h3 tk3 F' N' _
    exact ret _ _ _ F'.keep (newRow_of (cnt := ys.length) N' (.head _) (fun q hq => .tail _ hq) hH)
end Mine
end
section -- part C13
open PySem PySem.W PyProof.Rows PySem.Calls PySem.Spec PySem.F
set_option maxHeartbeats 4000000
namespace Mine
variable {w : World}
local macro_rules | `(tactic| walk_at "call ref") => `(tactic| (refine hold_wp ?_))
local macro_rules | `(tactic| walk_at "exec For Name Call cons nil") => `(tactic| ((rename Fr _ _ _ _ => lF'); (with_unfolding_all refine' For_invVF lF' ?k1 ?k2 ?_; (case k1 => exact rfl); (case k2 => exact rfl); k_whole)))
local macro_rules | `(tactic| walk_at "pyIter ref") => `(tactic| (refine hold_wp ?_))
local macro_rules | `(tactic| walk_at "setItem ref int") => `(tactic| (refine hold_wp ?_))
theorem zeros_are (c : Nat) (t : Tok) : IntsAre (List.replicate c [Value.int 0 t]).flatten (List.replicate c 0) := by
  induction c with
  | zero => exact .nil
  | succ c ih => exact .cons _ _ ih
noncomputable def eulStep (c i : Nat) (l : List Int) : Option (List Int) :=
  let k : Int := 1 - (c : Int) + (i : Int)
  let x : Int := Int.fdiv (k * (3 * k - 1)) 2
  if x < (c : Int) then (if 0 ≤ x ∧ x < (l.length : Int) then some (l.set x.toNat (if Int.fmod k 2 = 0 then 1 else -1)) else none) else some l
noncomputable def eulO (c : Nat) : Option (List Int) := iterO (eulStep c) (List.replicate c 0) (2 * c - 1)
theorem euler_spec (n : Nat) (c : Nat) (t : Tok) (hc : c < 1000) (h0 : 0 < c) (out : List Int) (ho : eulO c = some out) :
    Spec w 158 (n + 1) [.int (c : Int) t] (fun _ => True) (NewInts out) := by
  w_top off
  unfold Spec
  rintro ⟨hd9, dp, fr, gd, un⟩ s Q E ⟨hh, hroom, hunits⟩ B _ ret
  cases hh
  dsimp only at hroom hunits
  have X := B.X
  obtain ⟨loose, mean, mg, mb, T⟩ := B.T
  revert X
  k_fill
  intro X
  refine' enter (binds := [(Str.ofString "size", .int (c : Int) t)]) ⟨rfl, hroom, hunits⟩ B ?k6 ?k7 ?k9 ?kB ?c5 ?c2 ?c3 ?c4 ?_
  case k6 => k_is
  case k7 => k_is
  case k9 => exact BindsTo.of_eq rfl
  case kB => exact locs rfl
  case c5 => decide
  case c2 => exact rfl
  case c3 => exact rfl
  case c4 => exact rfl
  intro L h₁ F N
  have a : ∀ env, Amb ({ handled := none, depth := dp, frames := fr, guards := gd, units := un : Around }.deeper env) _ := fun env => Amb.down ⟨rfl, hroom, hunits⟩
  with_reducible show wpAny _ _ _ _ _ _
  k_fold
  k_steps
  rename IsRange _ _ _ _ _ _ _ _ => hR
  rename Fr _ _ _ _ => F
  rename News _ _ _ _ => N
  refine with_addr N fun fd hfd => ?_
  subst hfd
  refine Hold.un (for_rangeM (2 * c - 1) [(fd, listOf _ 0)] (fun M0 i m nx => ∃ us ns, m (Str.ofString "found") = some (.ref fd) ∧ (∀ z, z ≠ Str.ofString "found" → z ≠ Str.ofString "k" → m z = M0 z) ∧ nx = [(fd, listOf us.toArray 0)] ∧ iterO (eulStep c) (List.replicate c 0) i = some ns ∧ IntsAre us ns)
    rfl hR (small_one (by omega) (by omega) (by omega) (by omega)) (rsize (by omega)) F N (fun _ h => by rw [List.mem_singleton.mp h]; exact .head _) ⟨_, _, rfl, (fun _ _ _ => rfl), rfl, rfl, zeros_are c _⟩ ?_ ?_)
  · rintro i k tk m₁ nx h tk' own hj hk hoff ⟨us, ns, ef, er, rfl, hns, hA⟩ F₁ N₁
    have F₂ := fr2 F₁ ef er
    clear F₁ ef er F N
    rw [List.cons_append, List.nil_append] at N₁
    have hk1 : -1000 < k := by omega
    have hk2 : k < 1000 := by omega
    have hne : ∀ q ∈ own, q.1 ≠ fd := fun q hq => hoff q hq fd (by simp)
    have hne' : ∀ q ∈ own, ∀ b ∈ [fd], q.1 ≠ b := fun q hq b hb => by rw [List.mem_singleton.mp hb]; exact hne q hq
    have hw : Hold (∃ ns', iterO (eulStep c) (List.replicate c 0) (i + 1) = some ns') := Hold.un (iterO_some ho (i + 1) (by omega))
    with_reducible show wpAny _ _ _ _ _ _
    k_fold
    k_steps
    all_goals (try dsimp only)
    · obtain ⟨ns', hns'⟩ := hw.mk
      have hstep : eulStep c i ns = some ns' := by rw [iterO, hns] at hns'; exact hns'
      unfold eulStep at hstep
      rw [← hk] at hstep
      dsimp only at hstep
      rename Int.fdiv _ _ < _ => hlt
      rename Int.fmod k 2 = 0 => hm
      rw [if_pos hlt, if_pos hm] at hstep
      split at hstep
      case isFalse => cases hstep
      rename 0 ≤ _ ∧ _ => hcond
      cases hstep
      refine Hold.un (ksa_set F₂ N₁ (Upd.head hne) hA hcond.1 hcond.2 (by omega) ?_)
      intro h7 F7 N7 hA7 _ _
      with_reducible show wpAny _ _ _ _ _ _
      k_steps
      exact InvEndG.intro (nx := [(fd, _)]) F7 N7 ⟨_, _, rfl, (by intro z h1 h2; simp only [h1, h2, if_false]), rfl, hns', hA7⟩ (fun p hp b hb => hne' p hp b hb) (fun q hq => by rw [List.mem_singleton.mp hq]; exact .head _) (fun q hq => .tail _ hq)
    · obtain ⟨ns', hns'⟩ := hw.mk
      have hstep : eulStep c i ns = some ns' := by rw [iterO, hns] at hns'; exact hns'
      unfold eulStep at hstep
      rw [← hk] at hstep
      dsimp only at hstep
      rename Int.fdiv _ _ < _ => hlt
      rename ¬ Int.fmod k 2 = 0 => hm
      rw [if_pos hlt, if_neg hm] at hstep
      split at hstep
      case isFalse => cases hstep
      rename 0 ≤ _ ∧ _ => hcond
      cases hstep
      refine Hold.un (ksa_set F₂ N₁ (Upd.head hne) hA hcond.1 hcond.2 (by omega) ?_)
      intro h7 F7 N7 hA7 _ _
      with_reducible show wpAny _ _ _ _ _ _
      k_steps
      exact InvEndG.intro (nx := [(fd, _)]) F7 N7 ⟨_, _, rfl, (by intro z h1 h2; simp only [h1, h2, if_false]), rfl, hns', hA7⟩ (fun p hp b hb => hne' p hp b hb) (fun q hq => by rw [List.mem_singleton.mp hq]; exact .head _) (fun q hq => .tail _ hq)
    · obtain ⟨ns', hns'⟩ := hw.mk
      have hstep : eulStep c i ns = some ns' := by rw [iterO, hns] at hns'; exact hns'
      unfold eulStep at hstep
      rw [← hk] at hstep
      dsimp only at hstep
      rename ¬ Int.fdiv _ _ < _ => hlt
      rw [if_neg hlt] at hstep
      cases hstep
      exact InvEndG.intro (nx := [(fd, _)]) F₂ N₁ ⟨_, _, rfl, (by intro z h1 h2; simp only [h1, h2, if_false]), rfl, hns', hA⟩ (fun p hp b hb => hne' p hp b hb) (fun q hq => by rw [List.mem_singleton.mp hq]; exact .head _) (fun q hq => .tail _ hq)
  · rintro m₁ nx h tk ⟨us, ns, ef, er, rfl, hns, hA⟩ F₁ N₁
    have F₂ := fr1 F₁ ef
    clear F₁ er ef F N
    have hns2 : iterO (eulStep c) (List.replicate c 0) (2 * c - 1) = some out := ho
    rw [hns2] at hns
    cases hns
    dsimp only
    with_reducible show wpAny _ _ _ _ _ _
    k_steps
    exact ret _ _ _ (Fr.keep (by assumption)) (newInts_of N₁ (.head _) hA)
end Mine
end
section -- part C14
open PySem PySem.W PyProof.Rows PySem.Calls PySem.Spec PySem.F
set_option maxHeartbeats 4000000
namespace Mine
variable {w : World}
local macro_rules | `(tactic| walk_at "call ref") => `(tactic| (refine hold_wp ?_))
local macro_rules | `(tactic| walk_at "exec For Name Call cons nil") => `(tactic| ((rename Fr _ _ _ _ => lF'); (with_unfolding_all refine' For_invVF lF' ?k1 ?k2 ?_; (case k1 => exact rfl); (case k2 => exact rfl); k_whole)))
local macro_rules | `(tactic| walk_at "pyIter ref") => `(tactic| (refine hold_wp ?_))
local macro_rules | `(tactic| walk_at "setItem ref int") => `(tactic| (refine hold_wp ?_))
noncomputable def jacStep (c i : Nat) (l : List Int) : Option (List Int) :=
  let k : Int := (i : Int)
  let x : Int := Int.fdiv (k * (k + 1)) 2
  if x < (c : Int) then (if 0 ≤ x ∧ x < (l.length : Int) then some (l.set x.toNat ((1 - 2 * Int.fmod k 2) * (2 * k + 1))) else none) else some l
noncomputable def jacO (c : Nat) : Option (List Int) := iterO (jacStep c) (List.replicate c 0) c
theorem jacobi_spec (n : Nat) (c : Nat) (t : Tok) (hc : c < 1000) (h0 : 0 < c) (out : List Int) (ho : jacO c = some out) :
    Spec w 165 (n + 1) [.int (c : Int) t] (fun _ => True) (NewInts out) := by
  w_top off
  unfold Spec
  rintro ⟨hd9, dp, fr, gd, un⟩ s Q E ⟨hh, hroom, hunits⟩ B _ ret
  cases hh
  dsimp only at hroom hunits
  have X := B.X
  obtain ⟨loose, mean, mg, mb, T⟩ := B.T
  revert X
  k_fill
  intro X
  refine' enter (binds := [(Str.ofString "size", .int (c : Int) t)]) ⟨rfl, hroom, hunits⟩ B ?k6 ?k7 ?k9 ?kB ?c5 ?c2 ?c3 ?c4 ?_
  case k6 => k_is
  case k7 => k_is
  case k9 => exact BindsTo.of_eq rfl
  case kB => exact locs rfl
  case c5 => decide
  case c2 => exact rfl
  case c3 => exact rfl
  case c4 => exact rfl
  intro L h₁ F N
  have a : ∀ env, Amb ({ handled := none, depth := dp, frames := fr, guards := gd, units := un : Around }.deeper env) _ := fun env => Amb.down ⟨rfl, hroom, hunits⟩
  with_reducible show wpAny _ _ _ _ _ _
  k_fold
  k_steps
  rename IsRange _ _ _ _ _ _ _ _ => hR
  rename Fr _ _ _ _ => F
  rename News _ _ _ _ => N
  refine with_addr N fun fd hfd => ?_
  subst hfd
  refine Hold.un (for_rangeM c [(fd, listOf _ 0)] (fun M0 i m nx => ∃ us ns, m (Str.ofString "found") = some (.ref fd) ∧ (∀ z, z ≠ Str.ofString "found" → z ≠ Str.ofString "k" → m z = M0 z) ∧ nx = [(fd, listOf us.toArray 0)] ∧ iterO (jacStep c) (List.replicate c 0) i = some ns ∧ IntsAre us ns)
    rfl hR (small_one (by omega) (by omega) (by omega) (by omega)) (rsize (by omega)) F N (fun _ h => by rw [List.mem_singleton.mp h]; exact .head _) ⟨_, _, rfl, (fun _ _ _ => rfl), rfl, rfl, zeros_are c _⟩ ?_ ?_)
  · rintro i k tk m₁ nx h tk' own hj hk hoff ⟨us, ns, ef, er, rfl, hns, hA⟩ F₁ N₁
    have F₂ := fr2 F₁ ef er
    clear F₁ ef er F N
    rw [List.cons_append, List.nil_append] at N₁
    rw [Int.zero_add] at hk
    have hk1 : -1000 < k := by omega
    have hk2 : k < 1000 := by omega
    have hne : ∀ q ∈ own, q.1 ≠ fd := fun q hq => hoff q hq fd (by simp)
    have hne' : ∀ q ∈ own, ∀ b ∈ [fd], q.1 ≠ b := fun q hq b hb => by rw [List.mem_singleton.mp hb]; exact hne q hq
    have hw : Hold (∃ ns', iterO (jacStep c) (List.replicate c 0) (i + 1) = some ns') := Hold.un (iterO_some ho (i + 1) (by omega))
    with_reducible show wpAny _ _ _ _ _ _
    k_fold
    k_steps
    all_goals (try dsimp only)
    · obtain ⟨ns', hns'⟩ := hw.mk
      have hstep : jacStep c i ns = some ns' := by rw [iterO, hns] at hns'; exact hns'
      unfold jacStep at hstep
      rw [← hk] at hstep
      dsimp only at hstep
      rename Int.fdiv _ _ < _ => hlt
      rw [if_pos hlt] at hstep
      split at hstep
      case isFalse => cases hstep
      rename 0 ≤ _ ∧ _ => hcond
      cases hstep
      refine Hold.un (ksa_set F₂ N₁ (Upd.head hne) hA hcond.1 hcond.2 (by omega) ?_)
      intro h7 F7 N7 hA7 _ _
      with_reducible show wpAny _ _ _ _ _ _
      k_steps
      exact InvEndG.intro (nx := [(fd, _)]) F7 N7 ⟨_, _, rfl, (by intro z h1 h2; simp only [h1, h2, if_false]), rfl, hns', hA7⟩ (fun p hp b hb => hne' p hp b hb) (fun q hq => by rw [List.mem_singleton.mp hq]; exact .head _) (fun q hq => .tail _ hq)
    · obtain ⟨ns', hns'⟩ := hw.mk
      have hstep : jacStep c i ns = some ns' := by rw [iterO, hns] at hns'; exact hns'
      unfold jacStep at hstep
      rw [← hk] at hstep
      dsimp only at hstep
      rename ¬ Int.fdiv _ _ < _ => hlt
      rw [if_neg hlt] at hstep
      cases hstep
      exact InvEndG.intro (nx := [(fd, _)]) F₂ N₁ ⟨_, _, rfl, (by intro z h1 h2; simp only [h1, h2, if_false]), rfl, hns', hA⟩ (fun p hp b hb => hne' p hp b hb) (fun q hq => by rw [List.mem_singleton.mp hq]; exact .head _) (fun q hq => .tail _ hq)
  · rintro m₁ nx h tk ⟨us, ns, ef, er, rfl, hns, hA⟩ F₁ N₁
    have F₂ := fr1 F₁ ef
    clear F₁ er ef F N
    have hns2 : iterO (jacStep c) (List.replicate c 0) c = some out := ho
    rw [hns2] at hns
    cases hns
    dsimp only
    with_reducible show wpAny _ _ _ _ _ _
    k_steps
    exact ret _ _ _ (Fr.keep (by assumption)) (newInts_of N₁ (.head _) hA)
end Mine
end
section -- part C15
open PySem PySem.W PyProof.Rows PySem.Calls PySem.Spec PySem.F
set_option maxHeartbeats 4000000
namespace Mine
variable {w : World}
local macro_rules | `(tactic| walk_at "call ref") => `(tactic| (refine hold_wp ?_))
local macro_rules | `(tactic| walk_at "exec For Name Call cons nil") => `(tactic| ((rename Fr _ _ _ _ => lF'); (with_unfolding_all refine' For_invVF lF' ?k1 ?k2 ?_; (case k1 => exact rfl); (case k2 => exact rfl); k_whole)))
local macro_rules | `(tactic| walk_at "pyIter ref") => `(tactic| (refine hold_wp ?_))
local macro_rules | `(tactic| walk_at "setItem ref int") => `(tactic| (refine hold_wp ?_))
local macro_rules | `(tactic| walk_at "subscriptTail Name Name ref int") => `(tactic| (refine hold_wp ?_))
local macro_rules | `(tactic| walk_at "subscriptTail Name BinOp ref int") => `(tactic| (refine hold_wp ?_))
noncomputable def parStep (part j : Nat) (l : List Int) : Option (List Int) :=
  if part + j < l.length then some (l.set (part + j) (l.getD (part + j) 0 + l.getD j 0)) else none
noncomputable def parRow (c i : Nat) (l : List Int) : Option (List Int) := iterO (parStep (i + 1)) l (c - (i + 1))
noncomputable def parO (c : Nat) : Option (List Int) := iterO (parRow c) (1 :: List.replicate (c - 1) 0) (c - 1)
theorem flat_zeros : ∀ n : Nat, (List.replicate n [(0 : Int)]).flatten = List.replicate n 0
  | 0 => rfl
  | n + 1 => by rw [List.replicate_succ, List.flatten_cons, flat_zeros n]; rfl
theorem fr0 {h₀ h : Heap} {L : Addr} {x : Str} {v : Option Value} {m₁ m₀ : Str → Option Value} (F : Fr h₀ L h (fun z => if z = x then v else m₁ z)) (hr : ∀ z, z ≠ x → m₁ z = m₀ z) :
    Fr h₀ L h (fun z => if z = x then v else m₀ z) := by
  have e : (fun z => if z = x then v else m₁ z) = fun z => if z = x then v else m₀ z := by
    funext z
    by_cases h1 : z = x
    · simp [h1]
    · simp [h1, hr z h1]
  rw [← e]
  exact F
theorem fr0d {h₀ h : Heap} {L : Addr} {x : Str} {m₁ m₀ : Str → Option Value} (F : Fr h₀ L h m₁) (hr : ∀ z, z ≠ x → m₁ z = m₀ z) : Fr h₀ L h (fun z => if z = x then m₁ x else m₀ z) := by
  refine fr0 (m₁ := m₁) ?_ hr
  have e : (fun z => if z = x then m₁ x else m₁ z) = m₁ := by
    funext z
    by_cases h1 : z = x
    · subst h1; simp
    · simp [h1]
  rw [e]
  exact F
theorem partitions_spec (n : Nat) (c : Nat) (t : Tok) (hc : c < 1000) (h0 : 0 < c) (out : List Int) (ho : parO c = some out) :
    Spec w 172 (n + 1) [.int (c : Int) t] (fun _ => True) (NewInts out) := by
  w_top off
  unfold Spec
  rintro ⟨hd9, dp, fr, gd, un⟩ s Q E ⟨hh, hroom, hunits⟩ B _ ret
  cases hh
  dsimp only at hroom hunits
  have X := B.X
  obtain ⟨loose, mean, mg, mb, T⟩ := B.T
  revert X
  k_fill
  intro X
  refine' enter (binds := [(Str.ofString "size", .int (c : Int) t)]) ⟨rfl, hroom, hunits⟩ B ?k6 ?k7 ?k9 ?kB ?c5 ?c2 ?c3 ?c4 ?_
  case k6 => k_is
  case k7 => k_is
  case k9 => exact BindsTo.of_eq rfl
  case kB => exact locs rfl
  case c5 => decide
  case c2 => exact rfl
  case c3 => exact rfl
  case c4 => exact rfl
  intro L h₁ F N
  have a : ∀ env, Amb ({ handled := none, depth := dp, frames := fr, guards := gd, units := un : Around }.deeper env) _ := fun env => Amb.down ⟨rfl, hroom, hunits⟩
  with_reducible show wpAny _ _ _ _ _ _
  k_fold
  k_steps
  rename IsRange _ _ _ _ _ _ _ _ => hR
  rename Fr _ _ _ _ => F
  rename News _ _ _ _ => N
  rename IntsAre _ _ => hI
  have e0 : (((c : Int) - 1).toNat) = c - 1 := by omega
  rw [flat_zeros, e0] at hI
  refine with_addr N fun fd hfd => ?_
  subst hfd
  refine Hold.un (for_rangeM (c - 1) [(fd, listOf _ 0)] (fun M0 i m nx => ∃ us ns, m (Str.ofString "found") = some (.ref fd) ∧ (∀ z, z ≠ Str.ofString "part" → z ≠ Str.ofString "found" → z ≠ Str.ofString "total" → m z = M0 z) ∧ nx = [(fd, listOf us.toArray 0)] ∧ iterO (parRow c) (1 :: List.replicate (c - 1) 0) i = some ns ∧ IntsAre us ns)
    rfl hR (small_one (by omega) (by omega) (by omega) (by omega)) (rsize (by omega)) F N (fun _ h => by rw [List.mem_singleton.mp h]; exact .head _) ⟨_, _, rfl, (fun _ _ _ _ => rfl), rfl, rfl, hI⟩ ?_ ?_)
  · rintro i k tk m₁ nx h tk' own hj hk hoff ⟨us, ns, ef, er, rfl, hns, hA⟩ F₁ N₁
    subst hk
    have F₂ := fr3 F₁ ef er
    clear F₁ ef er F N hI
    rw [List.cons_append, List.nil_append] at N₁
    have hne : ∀ q ∈ own, q.1 ≠ fd := fun q hq => hoff q hq fd (by simp)
    have hne' : ∀ q ∈ own, ∀ b ∈ [fd], q.1 ≠ b := fun q hq b hb => by rw [List.mem_singleton.mp hb]; exact hne q hq
    have hw : Hold (∃ ns', iterO (parRow c) (1 :: List.replicate (c - 1) 0) (i + 1) = some ns') := Hold.un (iterO_some ho (i + 1) (by omega))
    with_reducible show wpAny _ _ _ _ _ _
    k_fold
    k_steps
    rename IsRange _ _ _ _ _ _ _ _ => hR2
    rename Fr _ _ _ _ => F5
    rename News _ _ _ _ => N5
    obtain ⟨ns', hns'⟩ := hw.mk
    have hrow : iterO (parStep (i + 1)) ns (c - (i + 1)) = some ns' := by rw [iterO, hns] at hns'; exact hns'
    refine Hold.un (for_rangeM (c - (i + 1)) ((fd, listOf us.toArray 0) :: own) (fun M1 j m nx => ∃ us2 ns2, (∀ z, z ≠ Str.ofString "total" → m z = M1 z) ∧ nx = (fd, listOf us2.toArray 0) :: own ∧ iterO (parStep (i + 1)) ns j = some ns2 ∧ IntsAre us2 ns2)
      rfl hR2 (small_one (by omega) (by omega) (by omega) (by omega)) (rsize (by omega)) F5 N5 (fun _ h => h) ⟨us, ns, (fun _ _ => rfl), rfl, rfl, hA⟩ ?_ ?_)
    · rintro j k2 tk2 m₂ nx2 h2 tk3 own2 hj2 hk2 hoff2 ⟨us2, ns2, er2, rfl, hns2, hA2⟩ F₃ N₃
      subst hk2
      have F₄ := fr0 F₃ er2
      clear F₃ er2 F5 N5 hR2
      rw [List.cons_append] at N₃
      obtain ⟨ns3, hns3⟩ := iterO_some hrow (j + 1) (by omega)
      have hstep : parStep (i + 1) j ns2 = some ns3 := by rw [iterO, hns2] at hns3; exact hns3
      unfold parStep at hstep
      split at hstep
      case isFalse => cases hstep
      rename _ < ns2.length => hlen
      cases hstep
      have ek1 : ((1 : Int) + (i : Int) + (j : Int)).toNat = i + 1 + j := by omega
      have ek2 : ((1 : Int) + (i : Int) + (j : Int) - (1 + (i : Int))).toNat = j := by omega
      have hne2 : ∀ q ∈ own ++ own2, q.1 ≠ fd := by
        intro q hq
        rcases List.mem_append.mp hq with h | h
        · exact hne q h
        · exact hoff2 q h fd (by simp)
      have hw3 : Hold (iterO (parStep (i + 1)) ns (j + 1) = some (ns2.set (i + 1 + j) (ns2.getD (i + 1 + j) 0 + ns2.getD j 0))) := Hold.un hns3
      clear hns3
      with_reducible show wpAny _ _ _ _ _ _
      k_fold
      k_steps
      refine Hold.un (ksa_sub (vs := us2) (ns := ns2) (n := 0) (by assumption) (.head _) hA2 (by omega) (by omega) (by omega) ?_)
      intro t1
      with_reducible show wpAny _ _ _ _ _ _
      k_steps
      refine Hold.un (ksa_sub (vs := us2) (ns := ns2) (n := 0) (by assumption) (.head _) hA2 (by omega) (by omega) (by omega) ?_)
      intro t2
      with_reducible show wpAny _ _ _ _ _ _
      k_steps
      all_goals (try dsimp only)
      refine Hold.un (ksa_set F₄ N₃ (Upd.head hne2) hA2 (by omega) (by omega) (by omega) ?_)
      intro h7 F7 N7 hA7 _ _
      with_reducible show wpAny _ _ _ _ _ _
      k_steps
      rw [ek1, ek2] at hA7
      rw [ek1, ek2] at N7
      refine InvEndG.intro (nx := (fd, _) :: own) F7 N7 ⟨_, _, (by intro z h1; simp only [h1, if_false]), rfl, hw3.mk, hA7⟩ (off_sub hoff2 ?_) (fun q hq => ?_) (fun q hq => ?_)
      · intro q hq
        rcases List.mem_cons.mp hq with h | h
        · right
          intro r hr e
          rw [h] at e
          exact hoff2 r hr fd (by simp) e
        · exact .inl (by simp [h])
      · rcases List.mem_cons.mp hq with h | h <;> simp [h]
      · simp [hq]
    · rintro m₂ nx2 h2 tk3 ⟨us2, ns2, er2, rfl, hns2, hA2⟩ F₃ N₃
      have F₄ := fr0d F₃ er2
      clear F₃ er2 F5 N5 hR2
      rw [hrow] at hns2
      cases hns2
      dsimp only
      with_reducible show wpAny _ _ _ _ _ _
      k_steps
      exact InvEndG.intro (nx := [(fd, _)]) F₄ N₃ ⟨_, _, rfl, (by intro z h1 h2 h3; simp only [h1, h2, h3, if_false]), rfl, hns', hA2⟩ (fun p hp b hb => hne' p hp b hb) (fun q hq => by rw [List.mem_singleton.mp hq]; exact .head _) (fun q hq => .tail _ hq)
  · rintro m₁ nx h tk ⟨us, ns, ef, er, rfl, hns, hA⟩ F₁ N₁
    have F₂ := fr1 F₁ ef
    clear F₁ er ef F N
    have hns2 : iterO (parRow c) (1 :: List.replicate (c - 1) 0) (c - 1) = some out := ho
    rw [hns2] at hns
    cases hns
    dsimp only
    with_reducible show wpAny _ _ _ _ _ _
    k_steps
    exact ret _ _ _ (Fr.keep (by assumption)) (newInts_of N₁ (.head _) hA)
end Mine
end
section -- part C16
open PySem PySem.W PyProof.Rows PySem.Calls PySem.Spec PySem.F
set_option maxHeartbeats 2000000
namespace Mine
/-- one turn of a comprehension over pairs -/
noncomputable def PTurnT (prog : Program) (w : World) (A : Around) (h₀ : Heap) (L : Addr) (m : Str → Option Value) (env : PySem.Env) (c : PySem.Expr) (elt : PySem.Expr) (a b : Str) (scope : Scope) (cl : List (Str × Addr)) (s : Shared) (ps : List (Int × Int)) (need : List (Addr × Obj)) (J : Nat → List Value → List (Addr × Obj) → Prop) : Prop :=
  ∀ i ys nw, i < ps.length → J i ys nw → (∀ q ∈ need, q ∈ nw) → ∀ (t1 t2 : Tok) I oI C oC D m₂ h tk (E' : Value → Shared → Prop), LCg.NsObj oC m₂ → m₂ a = some (.int (ps.getD i (0, 1)).1 t1) → m₂ b = some (.int (ps.getD i (0, 1)).2 t2) →
    Fr h₀ L h m → News h₀ L h ((I, oI) :: (C, oC) :: (D, LCg.lst ys) :: nw) → LCg.Off3 I C D nw → ((@Ne Nat I C) ∧ (@Ne Nat I D) ∧ (@Ne Nat C D)) →
      wpAny (model prog w) A (isTrue c (compEnvC scope cl C env) (eval c (compEnvC scope cl C env))) (fun ok s' => if ok = true then
        wpAny (model prog w) A (eval elt (compEnvC scope cl C env)) (LCg.CompEnd h₀ L m { s with heap := h, toks := tk } I oI C oC D (LCg.lst ys) (fun nw' => ∀ q ∈ need, q ∈ nw') (fun y nw' => J (i + 1) (ys ++ [y]) nw')) E' s'
        else LCg.CompEnd h₀ L m { s with heap := h, toks := tk } I oI C oC D (LCg.lst ys) (fun nw' => ∀ q ∈ need, q ∈ nw') (fun _ nw' => J (i + 1) ys nw') Value.none s') E' { s with heap := h, toks := tk }
/-- a comprehension's source: a list of pairs -/
noncomputable def PSrcT (prog : Program) (w : World) (A : Around) (h₀ : Heap) (L : Addr) (m : Str → Option Value) (env : PySem.Env) (c : PySem.Expr) (elt : PySem.Expr) (a b : Str) (scope : Scope) (cl : List (Str × Addr)) (Q : Value → Shared → Prop) (xv : Value) (s₁ : Shared) : Prop :=
  ∃ ax its ps need news J, xv = .ref ax ∧ A.handled = none ∧ Fr h₀ L s₁.heap m ∧ News h₀ L s₁.heap news ∧ its.length ≤ sizeLine ∧
    (∀ g nw, Keep h₀ g → News h₀ L g nw → (∀ q ∈ need, q ∈ nw) → Heap.IsList g ax its.toArray ∧ AllIs g its ps) ∧ (∀ q ∈ need, q ∈ news) ∧ J 0 [] news ∧
    PTurnT prog w A h₀ L m env c elt a b scope cl s₁ ps need J ∧ (∀ ys nw g, J ps.length ys nw → LCg.FinE h₀ L m { s₁ with heap := g } Q ys nw)
theorem pairs_T {prog : Program} {w : World} {A : Around} {E : Value → Shared → Prop} {s : Shared} {h₀ : Heap} {L : Addr} {m : Str → Option Value} {env : PySem.Env} {elt iter : PySem.Expr} {c : PySem.Expr} {a b : Str} {pa pb tp : Pos} {kk : Nat} {scope : Scope} {cl : List (Str × Addr)} {pos : Pos} {Q : Value → Shared → Prop} (_F₀ : Fr h₀ L s.heap m)
    (hclos : closureFor scope env = pure cl) (hcell : ∀ y ∈ scope.names, y.2 ≠ .cell) (hkind : scope.kind = .function)
    (hnames : ∀ y ∈ scope.names, y.2 = .local → scope.names.lookup y.1 = some .local) (ha : scope.names.lookup a = some .local) (hb : scope.names.lookup b = some .local) (hab : ¬ a = b)
    (h : wpAny (model prog w) A (eval iter env) (PSrcT prog w A h₀ L m env c elt a b scope cl Q) E s)
    (hs : ∀ x, foldedSetIterable iter env x = pure x := by intro _; rfl) :
    wpAny (model prog w) A (eval (.ListComp elt [⟨.Tuple [.Name a pa, .Name b pb] kk tp, iter, [c], 0⟩] scope pos) env) Q E s := by
  rw [eval_ListComp]
  refine wpAny_comprehension_free (use := none) rfl hs hclos hkind hnames (wpAny_mono h (fun xv s₁ h₁ => ?_) fun _ _ e => e)
  obtain ⟨ax, its, ps, need, news, J, rfl, hh, F, N, hsz, hit, hneed, hJ0, turn, fin⟩ := h₁
  obtain ⟨hl, hA⟩ := hit _ _ F.keep N hneed
  have hlen := hA.length
  have hax : ax < s₁.heap.objs.size := by obtain ⟨_, e, _⟩ := hl; exact Heap.lt_size e
  refine wpAny_pyIter_list hl ?_
  generalize hn : its.length = n at *
  have hLlt : L < s₁.heap.objs.size := F.ns.lt
  generalize hI : s₁.heap.objs.size = I at *
  generalize hG : s₁.heap.push { cls := .type "list_iterator", data := .fields #[.ref ax, .int 0 0] } = g₁
  have up1 : Keep s₁.heap g₁ := fun b o e => hG ▸ Heap.get?_push_of_some _ e
  have sz1 : g₁.objs.size = I + 1 := by rw [← hG, Heap.size_push, hI]
  have itI : g₁.IsListIter I ax 0 := ⟨_, by rw [← hG, ← hI]; exact Heap.get?_push_size _ rfl, rfl, rfl⟩
  refine wpAny_newObj_type (wpAny_newFunctionEnv hcell (by intro y hy; simp at hy) (fun h₁ hns₁ hsb₁ => ?_) hkind)
  dsimp only at hns₁ hsb₁ ⊢
  generalize hH2 : g₁.push { cls := .type "list", dict := none, data := .seq ([] : List Value).toArray } = H2 at hns₁ hsb₁ ⊢
  have sz2 : H2.objs.size = I + 1 + 1 := by rw [← hH2, Heap.size_push, sz1]
  generalize hC : H2.objs.size = C at *
  generalize hD : g₁.objs.size = D at *
  have hDI : I ≠ D := by omega
  have hIC : I ≠ C := by omega
  have hCD : C ≠ D := by omega
  have ltID : @LT.lt Nat _ I D := by omega
  have ltIC : @LT.lt Nat _ I C := by omega
  have ltDC : @LT.lt Nat _ D C := by omega
  have hCL : C ≠ L := Nat.ne_of_gt (Nat.lt_trans hLlt ltIC)
  have hDL : D ≠ L := Nat.ne_of_gt (Nat.lt_trans hLlt ltID)
  have hIL : L ≠ I := Nat.ne_of_lt hLlt
  have old : ∀ b o, b < C → H2.get? b = some o → h₁.get? b = some o := fun b o hb e => hsb₁.extBut b o (Nat.ne_of_lt hb) (Heap.get?_push_of_some _ e)
  have up2 : Keep g₁ h₁ := fun b o e => old b o (Nat.lt_trans (by have := Heap.lt_size e; rw [hD] at this; exact this) ltDC) (hH2 ▸ Heap.get?_push_of_some _ e)
  have up : Keep s₁.heap h₁ := up1.trans up2
  have hacc : h₁.get? D = some (LCg.lst []) := old D _ ltDC (by rw [← hH2, ← hD]; exact Heap.get?_push_size _ rfl)
  have fresh : ∀ x, I ≤ x → h₀.get? x = none := fun x hx => by
    cases e : h₀.get? x with
    | none => rfl
    | some o =>
      have := Heap.lt_size (F.keep x o e)
      rw [hI] at this
      exact absurd this (Nat.not_lt.mpr hx)
  have hD₀ : h₀.get? D = none := fresh D (Nat.le_of_lt ltID)
  have hC₀ : h₀.get? C = none := fresh C (Nat.le_of_lt ltIC)
  have hI₀ : h₀.get? I = none := fresh I (Nat.le_refl _)
  have off₀ : LCg.Off3 I C D news := LCg.Off3.of fun p hp => by
    have := Heap.lt_size (N p hp).1
    rw [hI] at this
    exact ⟨Nat.ne_of_lt this, Nat.ne_of_lt (Nat.lt_trans this ltIC), Nat.ne_of_lt (Nat.lt_trans this ltID)⟩
  have loop : ∀ s₃ : Shared, s₃ = { s₁ with heap := h₁, toks := s₁.toks + ([] : List (Str × Value)).length } →
      ∀ R : Result → Shared → Prop, (∀ h tk m' ys nw, Fr h₀ L h m → News h₀ L h ((D, LCg.lst ys) :: nw) → LCg.Off1 D nw → h.Ns C m' → (∀ p ∈ nw, p.1 ≠ C) → J n ys nw → R (.ok .next) { s₁ with heap := h, toks := tk }) →
      codeAny (model prog w) A (.compLoop (.ListComp elt [⟨.Tuple [.Name a pa, .Name b pb] kk tp, iter, [c], 0⟩] scope pos) 0 (.ref I) (.ref D) (compEnvC scope cl C env)) R s₃ := by
    rintro s₃ rfl R hR
    refine kct_loop
      (fun k s' => ∃ h' tk i ys m' nw, s' = { s₁ with heap := h', toks := tk } ∧ i ≤ n ∧ k = n + 1 - i ∧ ys.length ≤ i ∧ h'.IsListIter I ax i ∧ Fr h₀ L h' m ∧ h'.Ns C m' ∧ News h₀ L h' ((D, LCg.lst ys) :: nw) ∧
        LCg.Off3 I C D nw ∧ (∀ q ∈ need, q ∈ nw) ∧ J i ys nw) ?_ (n + 1)
      ⟨h₁, _, 0, [], _, news, rfl, Nat.zero_le _, rfl, Nat.le_refl _, itI.at fun o e => up2 _ o e, F.keeps up, hns₁, fun p hp => ?_, off₀, hneed, hJ0⟩
    · rintro k s' ⟨h', tk, i, ys, m', nw, rfl, hi, rfl, hyl, it', F', hn', N', off, hS, hJ⟩
      obtain ⟨hl', hA'⟩ := hit _ _ F'.keep (fun p hp => N' p (.tail _ hp)) hS
      have W := Walks.list (prog := prog) (w := w) hh I ax (Nat.ne_of_lt hax) its.toArray
      have esz : its.toArray.size = n := by rw [List.size_toArray, hn]
      rw [esz] at W
      by_cases hlt : i < n
      · refine W.item i _ _ _ hlt ⟨it', hl'⟩ fun v h₂ tk₂ hPv hst₂ hk₂ => ?_
        have hv : its[i]? = some v := by simpa using hPv
        have N₂ : News h₀ L h₂ ((D, LCg.lst ys) :: nw) := LCg.news_but N' hk₂ fun p hp => by
          rcases List.mem_cons.mp hp with rfl | hp
          · exact Ne.symm hDI
          · exact (LCg.Off3.mem off p hp).1
        have F₂ : Fr h₀ L h₂ m := LCg.fr_but F' hk₂ hIL hI₀
        obtain ⟨_, hA₂⟩ := hit _ _ F₂.keep (fun p hp => N₂ p (.tail _ hp)) hS
        obtain ⟨u, hu, hIs⟩ := hA₂.get i (0, 1) (by omega)
        rw [hv] at hu
        cases hu
        obtain ⟨T, oT, rfl, hoT, t1, t2, cT, rfl⟩ := hIs
        have hC₂ : h₂.Ns C m' := hn'.at' fun o e => hk₂ _ o (by simpa using Ne.symm hIC) e
        refine wpAny_letOwnedTupleGo_listiter hst₂.1 ?_
        refine kcp_assign (env := compEnvC scope cl C env) hh ⟨_, hoT, rfl, _, rfl⟩ (lookup_relabel_local ha) (lookup_relabel_local hb) (by simp [compEnvC, relabel, hkind]) hC₂ (fun h₃ tk₃ hn₃ hs₃ => ?_)
        have old3 : ∀ x o, x ≠ C → h₂.get? x = some o → h₃.get? x = some o := fun x o hx e => hs₃ x o hx e
        have it₃ : h₃.IsListIter I ax (i + 1) := hst₂.1.at fun o e => old3 I o hIC e
        obtain ⟨oI, heI⟩ : ∃ o, h₃.get? I = some o := by obtain ⟨o, e, _⟩ := it₃; exact ⟨o, e⟩
        obtain ⟨oC, heC, hoC⟩ := LCg.ns_obj hn₃
        have F₃ : Fr h₀ L h₃ m := ⟨F₂.ns.at' fun o e => old3 L o (Ne.symm hCL) e, fun x o e => old3 x o (fun q => by rw [q, hC₀] at e; cases e) (F₂.keep x o e), F₂.above⟩
        have N₃ : News h₀ L h₃ ((I, oI) :: (C, oC) :: (D, LCg.lst ys) :: nw) := fun p hp => by
          rcases List.mem_cons.mp hp with rfl | hp
          · exact ⟨heI, Ne.symm hIL, hI₀⟩
          rcases List.mem_cons.mp hp with rfl | hp
          · exact ⟨heC, hCL, hC₀⟩
          have z := N₂ p hp
          refine ⟨old3 _ _ ?_ z.1, z.2⟩
          rcases List.mem_cons.mp hp with rfl | hp
          · exact Ne.symm hCD
          · exact (LCg.Off3.mem off p hp).2.1
        refine wpAny_mono (turn i ys nw (by omega) hJ hS t1 t2 I oI C oC D _ h₃ _ _ hoC (by simp [hab]) (by simp) F₃ N₃ off ⟨hIC, hDI, hCD⟩) (fun ok s₃ h₃' => ?_) fun _ _ e => e
        cases ok with
        | true =>
          simp only [if_true] at h₃' ⊢
          refine wpAny_mono h₃' (fun y s₄ h₄ => ?_) fun _ _ e => e
          obtain ⟨h₄, tk₄, nw₄, rfl, F₄, N₄, off₄, hS₄, hJ₄⟩ := h₄
          have zI := (N₄ (I, oI) (.head _)).1
          have zC := (N₄ (C, oC) (.tail _ (.head _))).1
          have zD := (N₄ (D, LCg.lst ys) (.tail _ (.tail _ (.head _)))).1
          have N₅ : News h₀ L h₄ nw₄ := fun p hp => N₄ p (.tail _ (.tail _ (.tail _ hp)))
          have it₄ : h₄.IsListIter I ax (i + 1) := by
            obtain ⟨o', e', r⟩ := it₃
            rw [heI] at e'
            cases e'
            exact ⟨oI, zI, r⟩
          refine append_at (hsz := by show ys.toArray.size ≤ sizeLine; rw [List.size_toArray]; omega) zD fun h₅ hs₅ hD₅ => ?_
          refine ⟨n + 1 - (i + 1), by omega, h₅, tk₄, i + 1, ys ++ [y], _, nw₄, rfl, hlt, rfl, by rw [List.length_append, List.length_singleton]; omega, it₄.at fun o e => hs₅.extBut I o hDI e, F₄.change hs₅ hDL hD₀, (hoC.ns zC).sameBut hs₅ hCD, fun p hp => ?_, off₄, hS₄, hJ₄⟩
          rcases List.mem_cons.mp hp with rfl | hp
          · exact ⟨hD₅.trans (congrArg some (LCg.lst_snoc ys y)), hDL, hD₀⟩
          · exact ⟨hs₅.extBut _ _ (LCg.Off3.mem off₄ p hp).2.2 (N₅ p hp).1, (N₅ p hp).2⟩
        | false =>
          simp only [Bool.false_eq_true, if_false] at h₃' ⊢
          have h₄ := h₃'
          obtain ⟨h₄, tk₄, nw₄, rfl, F₄, N₄, off₄, hS₄, hJ₄⟩ := h₄
          have zI := (N₄ (I, oI) (.head _)).1
          have zC := (N₄ (C, oC) (.tail _ (.head _))).1
          have zD := (N₄ (D, LCg.lst ys) (.tail _ (.tail _ (.head _)))).1
          have N₅ : News h₀ L h₄ nw₄ := fun p hp => N₄ p (.tail _ (.tail _ (.tail _ hp)))
          have it₄ : h₄.IsListIter I ax (i + 1) := by
            obtain ⟨o', e', r⟩ := it₃
            rw [heI] at e'
            cases e'
            exact ⟨oI, zI, r⟩
          exact ⟨n + 1 - (i + 1), by omega, h₄, tk₄, i + 1, ys, _, nw₄, rfl, hlt, rfl, by omega, it₄, F₄, hoC.ns zC, fun p hp => N₄ p (.tail _ (.tail _ hp)), off₄, hS₄, hJ₄⟩
      · obtain rfl : i = n := Nat.le_antisymm hi (Nat.not_lt.mp hlt)
        refine W.done _ _ _ ⟨it', hl'⟩ fun h₂ tk₂ hk₂ => ?_
        refine hR h₂ tk₂ _ ys nw (LCg.fr_but F' hk₂ hIL hI₀) (LCg.news_but N' hk₂ fun p hp => ?_) off.one (hn'.at' fun o e => hk₂ _ o (by simpa using Ne.symm hIC) e) (fun p hp => (LCg.Off3.mem off p hp).2.1) hJ
        rcases List.mem_cons.mp hp with rfl | hp
        · exact Ne.symm hDI
        · exact (LCg.Off3.mem off p hp).1
    · rcases List.mem_cons.mp hp with rfl | hp
      · exact ⟨hacc, hDL, hD₀⟩
      · exact ⟨up _ _ (N p hp).1, (N p hp).2⟩
  have fin' : ∀ h tk m' ys nw, Fr h₀ L h m → News h₀ L h ((D, LCg.lst ys) :: nw) → LCg.Off1 D nw → h.Ns C m' → (∀ p ∈ nw, p.1 ≠ C) → J n ys nw →
      compPost (model prog w) A E none Q (.ref D) C (.ok .next) { s₁ with heap := h, toks := tk } := by
    intro h tk m' ys nw F' N' o1 hn' offC hJ
    refine ⟨m', hn', fun h'' hs'' => fin ys nw h'' (by rw [← hlen]; exact hJ) D h'' tk (F'.change hs'' hCL hC₀) (fun p hp => ?_) o1⟩
    refine ⟨hs''.extBut _ _ ?_ (N' p hp).1, (N' p hp).2⟩
    rcases List.mem_cons.mp hp with rfl | hp
    · exact Ne.symm hCD
    · exact offC p hp
  have Ws := Walks.list (prog := prog) (w := w) hh I ax (Nat.ne_of_lt hax) its.toArray
  exact codeAny_compStart_list (loop _ rfl _ fin') (Ws.self 0 _ _ _ ⟨itI.at fun o e => up2 _ o e, IsList.keepK hl up⟩ (loop _ rfl _ fin'))
/-- one turn of a comprehension over pairs -/
noncomputable def PTurnN (prog : Program) (w : World) (A : Around) (h₀ : Heap) (L : Addr) (m : Str → Option Value) (env : PySem.Env) (elt : PySem.Expr) (a b : Str) (scope : Scope) (cl : List (Str × Addr)) (s : Shared) (ps : List (Int × Int)) (need : List (Addr × Obj)) (J : Nat → List Value → List (Addr × Obj) → Prop) : Prop :=
  ∀ i ys nw, i < ps.length → J i ys nw → (∀ q ∈ need, q ∈ nw) → ∀ (t1 t2 : Tok) I oI C oC D m₂ h tk (E' : Value → Shared → Prop), LCg.NsObj oC m₂ → m₂ a = some (.int (ps.getD i (0, 1)).1 t1) → m₂ b = some (.int (ps.getD i (0, 1)).2 t2) →
    Fr h₀ L h m → News h₀ L h ((I, oI) :: (C, oC) :: (D, LCg.lst ys) :: nw) → LCg.Off3 I C D nw → ((@Ne Nat I C) ∧ (@Ne Nat I D) ∧ (@Ne Nat C D)) →
      wpAny (model prog w) A (eval elt (compEnvC scope cl C env)) (LCg.CompEnd h₀ L m { s with heap := h, toks := tk } I oI C oC D (LCg.lst ys) (fun nw' => ∀ q ∈ need, q ∈ nw') (fun y nw' => J (i + 1) (ys ++ [y]) nw')) E' { s with heap := h, toks := tk }
/-- a comprehension's source: a list of pairs -/
noncomputable def PSrcN (prog : Program) (w : World) (A : Around) (h₀ : Heap) (L : Addr) (m : Str → Option Value) (env : PySem.Env) (elt : PySem.Expr) (a b : Str) (scope : Scope) (cl : List (Str × Addr)) (Q : Value → Shared → Prop) (xv : Value) (s₁ : Shared) : Prop :=
  ∃ ax its ps need news J, xv = .ref ax ∧ A.handled = none ∧ Fr h₀ L s₁.heap m ∧ News h₀ L s₁.heap news ∧ its.length ≤ sizeLine ∧
    (∀ g nw, Keep h₀ g → News h₀ L g nw → (∀ q ∈ need, q ∈ nw) → Heap.IsList g ax its.toArray ∧ AllIs g its ps) ∧ (∀ q ∈ need, q ∈ news) ∧ J 0 [] news ∧
    PTurnN prog w A h₀ L m env elt a b scope cl s₁ ps need J ∧ (∀ ys nw g, J ps.length ys nw → LCg.FinE h₀ L m { s₁ with heap := g } Q ys nw)
theorem pairs_N {prog : Program} {w : World} {A : Around} {E : Value → Shared → Prop} {s : Shared} {h₀ : Heap} {L : Addr} {m : Str → Option Value} {env : PySem.Env} {elt iter : PySem.Expr} {a b : Str} {pa pb tp : Pos} {kk : Nat} {scope : Scope} {cl : List (Str × Addr)} {pos : Pos} {Q : Value → Shared → Prop} (_F₀ : Fr h₀ L s.heap m)
    (hclos : closureFor scope env = pure cl) (hcell : ∀ y ∈ scope.names, y.2 ≠ .cell) (hkind : scope.kind = .function)
    (hnames : ∀ y ∈ scope.names, y.2 = .local → scope.names.lookup y.1 = some .local) (ha : scope.names.lookup a = some .local) (hb : scope.names.lookup b = some .local) (hab : ¬ a = b)
    (h : wpAny (model prog w) A (eval iter env) (PSrcN prog w A h₀ L m env elt a b scope cl Q) E s)
    (hs : ∀ x, foldedSetIterable iter env x = pure x := by intro _; rfl) :
    wpAny (model prog w) A (eval (.ListComp elt [⟨.Tuple [.Name a pa, .Name b pb] kk tp, iter, [], 0⟩] scope pos) env) Q E s := by
  rw [eval_ListComp]
  refine wpAny_comprehension_free (use := none) rfl hs hclos hkind hnames (wpAny_mono h (fun xv s₁ h₁ => ?_) fun _ _ e => e)
  obtain ⟨ax, its, ps, need, news, J, rfl, hh, F, N, hsz, hit, hneed, hJ0, turn, fin⟩ := h₁
  obtain ⟨hl, hA⟩ := hit _ _ F.keep N hneed
  have hlen := hA.length
  have hax : ax < s₁.heap.objs.size := by obtain ⟨_, e, _⟩ := hl; exact Heap.lt_size e
  refine wpAny_pyIter_list hl ?_
  generalize hn : its.length = n at *
  have hLlt : L < s₁.heap.objs.size := F.ns.lt
  generalize hI : s₁.heap.objs.size = I at *
  generalize hG : s₁.heap.push { cls := .type "list_iterator", data := .fields #[.ref ax, .int 0 0] } = g₁
  have up1 : Keep s₁.heap g₁ := fun b o e => hG ▸ Heap.get?_push_of_some _ e
  have sz1 : g₁.objs.size = I + 1 := by rw [← hG, Heap.size_push, hI]
  have itI : g₁.IsListIter I ax 0 := ⟨_, by rw [← hG, ← hI]; exact Heap.get?_push_size _ rfl, rfl, rfl⟩
  refine wpAny_newObj_type (wpAny_newFunctionEnv hcell (by intro y hy; simp at hy) (fun h₁ hns₁ hsb₁ => ?_) hkind)
  dsimp only at hns₁ hsb₁ ⊢
  generalize hH2 : g₁.push { cls := .type "list", dict := none, data := .seq ([] : List Value).toArray } = H2 at hns₁ hsb₁ ⊢
  have sz2 : H2.objs.size = I + 1 + 1 := by rw [← hH2, Heap.size_push, sz1]
  generalize hC : H2.objs.size = C at *
  generalize hD : g₁.objs.size = D at *
  have hDI : I ≠ D := by omega
  have hIC : I ≠ C := by omega
  have hCD : C ≠ D := by omega
  have ltID : @LT.lt Nat _ I D := by omega
  have ltIC : @LT.lt Nat _ I C := by omega
  have ltDC : @LT.lt Nat _ D C := by omega
  have hCL : C ≠ L := Nat.ne_of_gt (Nat.lt_trans hLlt ltIC)
  have hDL : D ≠ L := Nat.ne_of_gt (Nat.lt_trans hLlt ltID)
  have hIL : L ≠ I := Nat.ne_of_lt hLlt
  have old : ∀ b o, b < C → H2.get? b = some o → h₁.get? b = some o := fun b o hb e => hsb₁.extBut b o (Nat.ne_of_lt hb) (Heap.get?_push_of_some _ e)
  have up2 : Keep g₁ h₁ := fun b o e => old b o (Nat.lt_trans (by have := Heap.lt_size e; rw [hD] at this; exact this) ltDC) (hH2 ▸ Heap.get?_push_of_some _ e)
  have up : Keep s₁.heap h₁ := up1.trans up2
  have hacc : h₁.get? D = some (LCg.lst []) := old D _ ltDC (by rw [← hH2, ← hD]; exact Heap.get?_push_size _ rfl)
  have fresh : ∀ x, I ≤ x → h₀.get? x = none := fun x hx => by
    cases e : h₀.get? x with
    | none => rfl
    | some o =>
      have := Heap.lt_size (F.keep x o e)
      rw [hI] at this
      exact absurd this (Nat.not_lt.mpr hx)
  have hD₀ : h₀.get? D = none := fresh D (Nat.le_of_lt ltID)
  have hC₀ : h₀.get? C = none := fresh C (Nat.le_of_lt ltIC)
  have hI₀ : h₀.get? I = none := fresh I (Nat.le_refl _)
  have off₀ : LCg.Off3 I C D news := LCg.Off3.of fun p hp => by
    have := Heap.lt_size (N p hp).1
    rw [hI] at this
    exact ⟨Nat.ne_of_lt this, Nat.ne_of_lt (Nat.lt_trans this ltIC), Nat.ne_of_lt (Nat.lt_trans this ltID)⟩
  have loop : ∀ s₃ : Shared, s₃ = { s₁ with heap := h₁, toks := s₁.toks + ([] : List (Str × Value)).length } →
      ∀ R : Result → Shared → Prop, (∀ h tk m' ys nw, Fr h₀ L h m → News h₀ L h ((D, LCg.lst ys) :: nw) → LCg.Off1 D nw → h.Ns C m' → (∀ p ∈ nw, p.1 ≠ C) → J n ys nw → R (.ok .next) { s₁ with heap := h, toks := tk }) →
      codeAny (model prog w) A (.compLoop (.ListComp elt [⟨.Tuple [.Name a pa, .Name b pb] kk tp, iter, [], 0⟩] scope pos) 0 (.ref I) (.ref D) (compEnvC scope cl C env)) R s₃ := by
    rintro s₃ rfl R hR
    refine LCp.codeAny_compLoop_pair
      (fun k s' => ∃ h' tk i ys m' nw, s' = { s₁ with heap := h', toks := tk } ∧ i ≤ n ∧ k = n + 1 - i ∧ ys.length ≤ i ∧ h'.IsListIter I ax i ∧ Fr h₀ L h' m ∧ h'.Ns C m' ∧ News h₀ L h' ((D, LCg.lst ys) :: nw) ∧
        LCg.Off3 I C D nw ∧ (∀ q ∈ need, q ∈ nw) ∧ J i ys nw) ?_ (n + 1)
      ⟨h₁, _, 0, [], _, news, rfl, Nat.zero_le _, rfl, Nat.le_refl _, itI.at fun o e => up2 _ o e, F.keeps up, hns₁, fun p hp => ?_, off₀, hneed, hJ0⟩
    · rintro k s' ⟨h', tk, i, ys, m', nw, rfl, hi, rfl, hyl, it', F', hn', N', off, hS, hJ⟩
      obtain ⟨hl', hA'⟩ := hit _ _ F'.keep (fun p hp => N' p (.tail _ hp)) hS
      have W := Walks.list (prog := prog) (w := w) hh I ax (Nat.ne_of_lt hax) its.toArray
      have esz : its.toArray.size = n := by rw [List.size_toArray, hn]
      rw [esz] at W
      by_cases hlt : i < n
      · refine W.item i _ _ _ hlt ⟨it', hl'⟩ fun v h₂ tk₂ hPv hst₂ hk₂ => ?_
        have hv : its[i]? = some v := by simpa using hPv
        have N₂ : News h₀ L h₂ ((D, LCg.lst ys) :: nw) := LCg.news_but N' hk₂ fun p hp => by
          rcases List.mem_cons.mp hp with rfl | hp
          · exact Ne.symm hDI
          · exact (LCg.Off3.mem off p hp).1
        have F₂ : Fr h₀ L h₂ m := LCg.fr_but F' hk₂ hIL hI₀
        obtain ⟨_, hA₂⟩ := hit _ _ F₂.keep (fun p hp => N₂ p (.tail _ hp)) hS
        obtain ⟨u, hu, hIs⟩ := hA₂.get i (0, 1) (by omega)
        rw [hv] at hu
        cases hu
        obtain ⟨T, oT, rfl, hoT, t1, t2, cT, rfl⟩ := hIs
        have hC₂ : h₂.Ns C m' := hn'.at' fun o e => hk₂ _ o (by simpa using Ne.symm hIC) e
        refine wpAny_letOwnedTupleGo_listiter hst₂.1 ?_
        refine kcp_assign (env := compEnvC scope cl C env) hh ⟨_, hoT, rfl, _, rfl⟩ (lookup_relabel_local ha) (lookup_relabel_local hb) (by simp [compEnvC, relabel, hkind]) hC₂ (fun h₃ tk₃ hn₃ hs₃ => ?_)
        have old3 : ∀ x o, x ≠ C → h₂.get? x = some o → h₃.get? x = some o := fun x o hx e => hs₃ x o hx e
        have it₃ : h₃.IsListIter I ax (i + 1) := hst₂.1.at fun o e => old3 I o hIC e
        obtain ⟨oI, heI⟩ : ∃ o, h₃.get? I = some o := by obtain ⟨o, e, _⟩ := it₃; exact ⟨o, e⟩
        obtain ⟨oC, heC, hoC⟩ := LCg.ns_obj hn₃
        have F₃ : Fr h₀ L h₃ m := ⟨F₂.ns.at' fun o e => old3 L o (Ne.symm hCL) e, fun x o e => old3 x o (fun q => by rw [q, hC₀] at e; cases e) (F₂.keep x o e), F₂.above⟩
        have N₃ : News h₀ L h₃ ((I, oI) :: (C, oC) :: (D, LCg.lst ys) :: nw) := fun p hp => by
          rcases List.mem_cons.mp hp with rfl | hp
          · exact ⟨heI, Ne.symm hIL, hI₀⟩
          rcases List.mem_cons.mp hp with rfl | hp
          · exact ⟨heC, hCL, hC₀⟩
          have z := N₂ p hp
          refine ⟨old3 _ _ ?_ z.1, z.2⟩
          rcases List.mem_cons.mp hp with rfl | hp
          · exact Ne.symm hCD
          · exact (LCg.Off3.mem off p hp).2.1
        refine wpAny_mono (turn i ys nw (by omega) hJ hS t1 t2 I oI C oC D _ h₃ _ _ hoC (by simp [hab]) (by simp) F₃ N₃ off ⟨hIC, hDI, hCD⟩) (fun y s₄ h₄ => ?_) fun _ _ e => e
        · obtain ⟨h₄, tk₄, nw₄, rfl, F₄, N₄, off₄, hS₄, hJ₄⟩ := h₄
          have zI := (N₄ (I, oI) (.head _)).1
          have zC := (N₄ (C, oC) (.tail _ (.head _))).1
          have zD := (N₄ (D, LCg.lst ys) (.tail _ (.tail _ (.head _)))).1
          have N₅ : News h₀ L h₄ nw₄ := fun p hp => N₄ p (.tail _ (.tail _ (.tail _ hp)))
          have it₄ : h₄.IsListIter I ax (i + 1) := by
            obtain ⟨o', e', r⟩ := it₃
            rw [heI] at e'
            cases e'
            exact ⟨oI, zI, r⟩
          refine append_at (hsz := by show ys.toArray.size ≤ sizeLine; rw [List.size_toArray]; omega) zD fun h₅ hs₅ hD₅ => ?_
          refine ⟨n + 1 - (i + 1), by omega, h₅, tk₄, i + 1, ys ++ [y], _, nw₄, rfl, hlt, rfl, by rw [List.length_append, List.length_singleton]; omega, it₄.at fun o e => hs₅.extBut I o hDI e, F₄.change hs₅ hDL hD₀, (hoC.ns zC).sameBut hs₅ hCD, fun p hp => ?_, off₄, hS₄, hJ₄⟩
          rcases List.mem_cons.mp hp with rfl | hp
          · exact ⟨hD₅.trans (congrArg some (LCg.lst_snoc ys y)), hDL, hD₀⟩
          · exact ⟨hs₅.extBut _ _ (LCg.Off3.mem off₄ p hp).2.2 (N₅ p hp).1, (N₅ p hp).2⟩
      · obtain rfl : i = n := Nat.le_antisymm hi (Nat.not_lt.mp hlt)
        refine W.done _ _ _ ⟨it', hl'⟩ fun h₂ tk₂ hk₂ => ?_
        refine hR h₂ tk₂ _ ys nw (LCg.fr_but F' hk₂ hIL hI₀) (LCg.news_but N' hk₂ fun p hp => ?_) off.one (hn'.at' fun o e => hk₂ _ o (by simpa using Ne.symm hIC) e) (fun p hp => (LCg.Off3.mem off p hp).2.1) hJ
        rcases List.mem_cons.mp hp with rfl | hp
        · exact Ne.symm hDI
        · exact (LCg.Off3.mem off p hp).1
    · rcases List.mem_cons.mp hp with rfl | hp
      · exact ⟨hacc, hDL, hD₀⟩
      · exact ⟨up _ _ (N p hp).1, (N p hp).2⟩
  have fin' : ∀ h tk m' ys nw, Fr h₀ L h m → News h₀ L h ((D, LCg.lst ys) :: nw) → LCg.Off1 D nw → h.Ns C m' → (∀ p ∈ nw, p.1 ≠ C) → J n ys nw →
      compPost (model prog w) A E none Q (.ref D) C (.ok .next) { s₁ with heap := h, toks := tk } := by
    intro h tk m' ys nw F' N' o1 hn' offC hJ
    refine ⟨m', hn', fun h'' hs'' => fin ys nw h'' (by rw [← hlen]; exact hJ) D h'' tk (F'.change hs'' hCL hC₀) (fun p hp => ?_) o1⟩
    refine ⟨hs''.extBut _ _ ?_ (N' p hp).1, (N' p hp).2⟩
    rcases List.mem_cons.mp hp with rfl | hp
    · exact Ne.symm hCD
    · exact offC p hp
  have Ws := Walks.list (prog := prog) (w := w) hh I ax (Nat.ne_of_lt hax) its.toArray
  exact codeAny_compStart_list (loop _ rfl _ fin') (Ws.self 0 _ _ _ ⟨itI.at fun o e => up2 _ o e, IsList.keepK hl up⟩ (loop _ rfl _ fin'))
end Mine
end
section -- part C16b
open PySem PySem.W PyProof.Rows PySem.Calls PySem.Spec PySem.F
set_option maxHeartbeats 2000000
namespace Mine
/-- one turn of a comprehension over pairs -/
noncomputable def PTurnU (prog : Program) (w : World) (A : Around) (h₀ : Heap) (L : Addr) (m : Str → Option Value) (env : PySem.Env) (c : PySem.Expr) (elt : PySem.Expr) (a b : Str) (scope : Scope) (cl : List (Str × Addr)) (s : Shared) (ps : List (Int × Int)) (need : List (Addr × Obj)) (J : Nat → List Value → List (Addr × Obj) → Prop) : Prop :=
  ∀ i ys nw, i < ps.length → J i ys nw → (∀ q ∈ need, q ∈ nw) → ∀ (t1 t2 : Tok) I oI C oC D m₂ h tk (E' : Value → Shared → Prop), LCg.NsObj oC m₂ → m₂ a = some (.int (ps.getD i (0, 1)).1 t1) → m₂ b = some (.int (ps.getD i (0, 1)).2 t2) →
    Fr h₀ L h m → News h₀ L h ((I, oI) :: (C, oC) :: (D, LCg.lst ys) :: nw) → LCg.Off3 I C D nw → ((@Ne Nat I C) ∧ (@Ne Nat I D) ∧ (@Ne Nat C D)) →
      wpAny (model prog w) A (isTrue c (compEnvC scope cl C env) (eval c (compEnvC scope cl C env))) (fun ok s' => if ok = true then
        wpAny (model prog w) A (eval elt (compEnvC scope cl C env)) (LCg.CompEnd h₀ L m { s with heap := h, toks := tk } I oI C oC D (LCg.lst ys) (fun nw' => ∀ q ∈ need, q ∈ nw') (fun y nw' => J (i + 1) (ys ++ [y]) nw')) E' s'
        else LCg.CompEnd h₀ L m { s with heap := h, toks := tk } I oI C oC D (LCg.lst ys) (fun nw' => ∀ q ∈ need, q ∈ nw') (fun _ nw' => J (i + 1) ys nw') Value.none s') E' { s with heap := h, toks := tk }
/-- a comprehension's source: a list of pairs -/
noncomputable def PSrcU (prog : Program) (w : World) (A : Around) (h₀ : Heap) (L : Addr) (m : Str → Option Value) (env : PySem.Env) (c : PySem.Expr) (elt : PySem.Expr) (a b : Str) (scope : Scope) (cl : List (Str × Addr)) (y : Str) (Q : Flow → Shared → Prop) (xv : Value) (s₁ : Shared) : Prop :=
  ∃ ax its ps need news J, xv = .ref ax ∧ A.handled = none ∧ Fr h₀ L s₁.heap m ∧ News h₀ L s₁.heap news ∧ its.length ≤ sizeLine ∧
    (∀ g nw, Keep h₀ g → News h₀ L g nw → (∀ q ∈ need, q ∈ nw) → IsTup g ax its.toArray ∧ AllIs g its ps) ∧ (∀ q ∈ need, q ∈ news) ∧ J 0 [] news ∧
    PTurnU prog w A h₀ L m env c elt a b scope cl s₁ ps need J ∧ (∀ ys nw g, J ps.length ys nw → LCg.FinA h₀ L m { s₁ with heap := g } y Q ys nw)
theorem pairs_U {prog : Program} {w : World} {A : Around} {E : Value → Shared → Prop} {s : Shared} {h₀ : Heap} {L : Addr} {m : Str → Option Value} {env : PySem.Env} {elt iter : PySem.Expr} {c : PySem.Expr} {a b : Str} {pa pb tp : Pos} {kk : Nat} {scope : Scope} {cl : List (Str × Addr)} {pos spos : Pos} {y : Str} {py : Pos} {Q : Flow → Shared → Prop} (_F₀ : Fr h₀ L s.heap m) (hLe : env.locals = L) (hsw : swapsWith (.ListComp elt [⟨.Tuple [.Name a pa, .Name b pb] kk tp, iter, [c], 0⟩] scope pos) (some (.Name y py)) spos.line env = pure true)
    (hy : env.kindOf y = some .local) (hp : (env.scope.kind == .class || (env.scope.kind == .module && env.locals != env.globals)) = false)
    (hclos : closureFor scope env = pure cl) (hcell : ∀ y ∈ scope.names, y.2 ≠ .cell) (hkind : scope.kind = .function)
    (hnames : ∀ y ∈ scope.names, y.2 = .local → scope.names.lookup y.1 = some .local) (ha : scope.names.lookup a = some .local) (hb : scope.names.lookup b = some .local) (hab : ¬ a = b)
    (h : wpAny (model prog w) A (eval iter env) (PSrcU prog w A h₀ L m env c elt a b scope cl y Q) E s)
    (hs : ∀ x, foldedSetIterable iter env x = pure x := by intro _; rfl) :
    wpAny (model prog w) A (exec (.Assign [.Name y py] (.ListComp elt [⟨.Tuple [.Name a pa, .Name b pb] kk tp, iter, [c], 0⟩] scope pos) spos) env) Q E s := by
  subst hLe
  rw [exec_Assign_Name_used _ _ _ _ hsw]
  refine wpAny_bind (wpAny_standAt (wpAny_bind ?_))
  show wpAny _ A (do let _ ← comprehension (.ListComp elt [⟨.Tuple [.Name a pa, .Name b pb] kk tp, iter, [c], 0⟩] scope pos) scope env _ (newList []) false (eval iter env) (some (assign (.Name y py) env))) _ _ s
  refine wpAny_bind (wpAny_mono (wpAny_comprehension_free (use := some (assign (.Name y py) env)) (Q := fun _ s' => Q .next s') rfl hs hclos hkind hnames
    (wpAny_mono h (fun xv s₁ h₁ => ?_) fun _ _ e => e)) (fun _ s' hq => wpAny_pure (wpAny_pure hq)) fun _ _ e => e)
  obtain ⟨ax, its, ps, need, news, J, rfl, hh, F, N, hsz, hit, hneed, hJ0, turn, fin⟩ := h₁
  obtain ⟨hl, hA⟩ := hit _ _ F.keep N hneed
  have hlen := hA.length
  have hax : ax < s₁.heap.objs.size := by obtain ⟨_, e, _⟩ := hl; exact Heap.lt_size e
  have hl' : s₁.heap.IsTuple ax its.toArray := hl
  refine wpAny_pyIter_tuple hl' ?_
  generalize hn : its.length = n at *
  have hLlt : env.locals < s₁.heap.objs.size := F.ns.lt
  generalize hI : s₁.heap.objs.size = I at *
  generalize hG : s₁.heap.push { cls := .type "tuple_iterator", data := .fields #[.ref ax, .int 0 0] } = g₁
  have up1 : Keep s₁.heap g₁ := fun b o e => hG ▸ Heap.get?_push_of_some _ e
  have sz1 : g₁.objs.size = I + 1 := by rw [← hG, Heap.size_push, hI]
  have itI : g₁.IsTupleIter I ax 0 := ⟨_, by rw [← hG, ← hI]; exact Heap.get?_push_size _ rfl, rfl, rfl⟩
  refine wpAny_newObj_type (wpAny_newFunctionEnv hcell (by intro y hy; simp at hy) (fun h₁ hns₁ hsb₁ => ?_) hkind)
  dsimp only at hns₁ hsb₁ ⊢
  generalize hH2 : g₁.push { cls := .type "list", dict := none, data := .seq ([] : List Value).toArray } = H2 at hns₁ hsb₁ ⊢
  have sz2 : H2.objs.size = I + 1 + 1 := by rw [← hH2, Heap.size_push, sz1]
  generalize hC : H2.objs.size = C at *
  generalize hD : g₁.objs.size = D at *
  have hDI : I ≠ D := by omega
  have hIC : I ≠ C := by omega
  have hCD : C ≠ D := by omega
  have ltID : @LT.lt Nat _ I D := by omega
  have ltIC : @LT.lt Nat _ I C := by omega
  have ltDC : @LT.lt Nat _ D C := by omega
  have hCL : C ≠ env.locals := Nat.ne_of_gt (Nat.lt_trans hLlt ltIC)
  have hDL : D ≠ env.locals := Nat.ne_of_gt (Nat.lt_trans hLlt ltID)
  have hIL : env.locals ≠ I := Nat.ne_of_lt hLlt
  have old : ∀ b o, b < C → H2.get? b = some o → h₁.get? b = some o := fun b o hb e => hsb₁.extBut b o (Nat.ne_of_lt hb) (Heap.get?_push_of_some _ e)
  have up2 : Keep g₁ h₁ := fun b o e => old b o (Nat.lt_trans (by have := Heap.lt_size e; rw [hD] at this; exact this) ltDC) (hH2 ▸ Heap.get?_push_of_some _ e)
  have up : Keep s₁.heap h₁ := up1.trans up2
  have hacc : h₁.get? D = some (LCg.lst []) := old D _ ltDC (by rw [← hH2, ← hD]; exact Heap.get?_push_size _ rfl)
  have fresh : ∀ x, I ≤ x → h₀.get? x = none := fun x hx => by
    cases e : h₀.get? x with
    | none => rfl
    | some o =>
      have := Heap.lt_size (F.keep x o e)
      rw [hI] at this
      exact absurd this (Nat.not_lt.mpr hx)
  have hD₀ : h₀.get? D = none := fresh D (Nat.le_of_lt ltID)
  have hC₀ : h₀.get? C = none := fresh C (Nat.le_of_lt ltIC)
  have hI₀ : h₀.get? I = none := fresh I (Nat.le_refl _)
  have off₀ : LCg.Off3 I C D news := LCg.Off3.of fun p hp => by
    have := Heap.lt_size (N p hp).1
    rw [hI] at this
    exact ⟨Nat.ne_of_lt this, Nat.ne_of_lt (Nat.lt_trans this ltIC), Nat.ne_of_lt (Nat.lt_trans this ltID)⟩
  have loop : ∀ s₃ : Shared, s₃ = { s₁ with heap := h₁, toks := s₁.toks + ([] : List (Str × Value)).length } →
      ∀ R : Result → Shared → Prop, (∀ h tk m' ys nw, Fr h₀ env.locals h m → News h₀ env.locals h ((D, LCg.lst ys) :: nw) → LCg.Off1 D nw → h.Ns C m' → (∀ p ∈ nw, p.1 ≠ C) → J n ys nw → R (.ok .next) { s₁ with heap := h, toks := tk }) →
      codeAny (model prog w) A (.compLoop (.ListComp elt [⟨.Tuple [.Name a pa, .Name b pb] kk tp, iter, [c], 0⟩] scope pos) 0 (.ref I) (.ref D) (compEnvC scope cl C env)) R s₃ := by
    rintro s₃ rfl R hR
    refine kct_loop
      (fun k s' => ∃ h' tk i ys m' nw, s' = { s₁ with heap := h', toks := tk } ∧ i ≤ n ∧ k = n + 1 - i ∧ ys.length ≤ i ∧ h'.IsTupleIter I ax i ∧ Fr h₀ env.locals h' m ∧ h'.Ns C m' ∧ News h₀ env.locals h' ((D, LCg.lst ys) :: nw) ∧
        LCg.Off3 I C D nw ∧ (∀ q ∈ need, q ∈ nw) ∧ J i ys nw) ?_ (n + 1)
      ⟨h₁, _, 0, [], _, news, rfl, Nat.zero_le _, rfl, Nat.le_refl _, itI.at fun o e => up2 _ o e, F.keeps up, hns₁, fun p hp => ?_, off₀, hneed, hJ0⟩
    · rintro k s' ⟨h', tk, i, ys, m', nw, rfl, hi, rfl, hyl, it', F', hn', N', off, hS, hJ⟩
      obtain ⟨hl', hA'⟩ := hit _ _ F'.keep (fun p hp => N' p (.tail _ hp)) hS
      have W := Walks.tuple (prog := prog) (w := w) hh I ax (Nat.ne_of_lt hax) its.toArray
      have esz : its.toArray.size = n := by rw [List.size_toArray, hn]
      rw [esz] at W
      by_cases hlt : i < n
      · refine W.item i _ _ _ hlt ⟨it', hl'⟩ fun v h₂ tk₂ hPv hst₂ hk₂ => ?_
        have hv : its[i]? = some v := by simpa using hPv
        have N₂ : News h₀ env.locals h₂ ((D, LCg.lst ys) :: nw) := LCg.news_but N' hk₂ fun p hp => by
          rcases List.mem_cons.mp hp with rfl | hp
          · exact Ne.symm hDI
          · exact (LCg.Off3.mem off p hp).1
        have F₂ : Fr h₀ env.locals h₂ m := LCg.fr_but F' hk₂ hIL hI₀
        obtain ⟨_, hA₂⟩ := hit _ _ F₂.keep (fun p hp => N₂ p (.tail _ hp)) hS
        obtain ⟨u, hu, hIs⟩ := hA₂.get i (0, 1) (by omega)
        rw [hv] at hu
        cases hu
        obtain ⟨T, oT, rfl, hoT, t1, t2, cT, rfl⟩ := hIs
        have hC₂ : h₂.Ns C m' := hn'.at' fun o e => hk₂ _ o (by simpa using Ne.symm hIC) e
        refine letGo_tupleiter hst₂.1 ?_
        refine kcp_assign (env := compEnvC scope cl C env) hh ⟨_, hoT, rfl, _, rfl⟩ (lookup_relabel_local ha) (lookup_relabel_local hb) (by simp [compEnvC, relabel, hkind]) hC₂ (fun h₃ tk₃ hn₃ hs₃ => ?_)
        have old3 : ∀ x o, x ≠ C → h₂.get? x = some o → h₃.get? x = some o := fun x o hx e => hs₃ x o hx e
        have it₃ : h₃.IsTupleIter I ax (i + 1) := hst₂.1.at fun o e => old3 I o hIC e
        obtain ⟨oI, heI⟩ : ∃ o, h₃.get? I = some o := by obtain ⟨o, e, _⟩ := it₃; exact ⟨o, e⟩
        obtain ⟨oC, heC, hoC⟩ := LCg.ns_obj hn₃
        have F₃ : Fr h₀ env.locals h₃ m := ⟨F₂.ns.at' fun o e => old3 env.locals o (Ne.symm hCL) e, fun x o e => old3 x o (fun q => by rw [q, hC₀] at e; cases e) (F₂.keep x o e), F₂.above⟩
        have N₃ : News h₀ env.locals h₃ ((I, oI) :: (C, oC) :: (D, LCg.lst ys) :: nw) := fun p hp => by
          rcases List.mem_cons.mp hp with rfl | hp
          · exact ⟨heI, Ne.symm hIL, hI₀⟩
          rcases List.mem_cons.mp hp with rfl | hp
          · exact ⟨heC, hCL, hC₀⟩
          have z := N₂ p hp
          refine ⟨old3 _ _ ?_ z.1, z.2⟩
          rcases List.mem_cons.mp hp with rfl | hp
          · exact Ne.symm hCD
          · exact (LCg.Off3.mem off p hp).2.1
        refine wpAny_mono (turn i ys nw (by omega) hJ hS t1 t2 I oI C oC D _ h₃ _ _ hoC (by simp [hab]) (by simp) F₃ N₃ off ⟨hIC, hDI, hCD⟩) (fun ok s₃ h₃' => ?_) fun _ _ e => e
        cases ok with
        | true =>
          simp only [if_true] at h₃' ⊢
          refine wpAny_mono h₃' (fun y s₄ h₄ => ?_) fun _ _ e => e
          obtain ⟨h₄, tk₄, nw₄, rfl, F₄, N₄, off₄, hS₄, hJ₄⟩ := h₄
          have zI := (N₄ (I, oI) (.head _)).1
          have zC := (N₄ (C, oC) (.tail _ (.head _))).1
          have zD := (N₄ (D, LCg.lst ys) (.tail _ (.tail _ (.head _)))).1
          have N₅ : News h₀ env.locals h₄ nw₄ := fun p hp => N₄ p (.tail _ (.tail _ (.tail _ hp)))
          have it₄ : h₄.IsTupleIter I ax (i + 1) := by
            obtain ⟨o', e', r⟩ := it₃
            rw [heI] at e'
            cases e'
            exact ⟨oI, zI, r⟩
          refine append_at (hsz := by show ys.toArray.size ≤ sizeLine; rw [List.size_toArray]; omega) zD fun h₅ hs₅ hD₅ => ?_
          refine ⟨n + 1 - (i + 1), by omega, h₅, tk₄, i + 1, ys ++ [y], _, nw₄, rfl, hlt, rfl, by rw [List.length_append, List.length_singleton]; omega, it₄.at fun o e => hs₅.extBut I o hDI e, F₄.change hs₅ hDL hD₀, (hoC.ns zC).sameBut hs₅ hCD, fun p hp => ?_, off₄, hS₄, hJ₄⟩
          rcases List.mem_cons.mp hp with rfl | hp
          · exact ⟨hD₅.trans (congrArg some (LCg.lst_snoc ys y)), hDL, hD₀⟩
          · exact ⟨hs₅.extBut _ _ (LCg.Off3.mem off₄ p hp).2.2 (N₅ p hp).1, (N₅ p hp).2⟩
        | false =>
          simp only [Bool.false_eq_true, if_false] at h₃' ⊢
          have h₄ := h₃'
          obtain ⟨h₄, tk₄, nw₄, rfl, F₄, N₄, off₄, hS₄, hJ₄⟩ := h₄
          have zI := (N₄ (I, oI) (.head _)).1
          have zC := (N₄ (C, oC) (.tail _ (.head _))).1
          have zD := (N₄ (D, LCg.lst ys) (.tail _ (.tail _ (.head _)))).1
          have N₅ : News h₀ env.locals h₄ nw₄ := fun p hp => N₄ p (.tail _ (.tail _ (.tail _ hp)))
          have it₄ : h₄.IsTupleIter I ax (i + 1) := by
            obtain ⟨o', e', r⟩ := it₃
            rw [heI] at e'
            cases e'
            exact ⟨oI, zI, r⟩
          exact ⟨n + 1 - (i + 1), by omega, h₄, tk₄, i + 1, ys, _, nw₄, rfl, hlt, rfl, by omega, it₄, F₄, hoC.ns zC, fun p hp => N₄ p (.tail _ (.tail _ hp)), off₄, hS₄, hJ₄⟩
      · obtain rfl : i = n := Nat.le_antisymm hi (Nat.not_lt.mp hlt)
        refine W.done _ _ _ ⟨it', hl'⟩ fun h₂ tk₂ hk₂ => ?_
        refine hR h₂ tk₂ _ ys nw (LCg.fr_but F' hk₂ hIL hI₀) (LCg.news_but N' hk₂ fun p hp => ?_) off.one (hn'.at' fun o e => hk₂ _ o (by simpa using Ne.symm hIC) e) (fun p hp => (LCg.Off3.mem off p hp).2.1) hJ
        rcases List.mem_cons.mp hp with rfl | hp
        · exact Ne.symm hDI
        · exact (LCg.Off3.mem off p hp).1
    · rcases List.mem_cons.mp hp with rfl | hp
      · exact ⟨hacc, hDL, hD₀⟩
      · exact ⟨up _ _ (N p hp).1, (N p hp).2⟩
  have fin' : ∀ h tk m' ys nw, Fr h₀ env.locals h m → News h₀ env.locals h ((D, LCg.lst ys) :: nw) → LCg.Off1 D nw → h.Ns C m' → (∀ p ∈ nw, p.1 ≠ C) → J n ys nw →
      compPost (model prog w) A E (some (assign (.Name y py) env)) (fun _ s' => Q .next s') (.ref D) C (.ok .next) { s₁ with heap := h, toks := tk } := by
    intro h tk m' ys nw F' N' o1 hn' offC hJ
    show wpAny _ A (assign (.Name y py) env (.ref D)) _ _ _
    refine wpAny_assign_Name (wpAny_storeName_local hy F'.ns (fun h₂ hn₂ hs₂ => ?_) hp)
    have hL₀ : h₀.get? env.locals = none := Heap.get?_none_of_le F'.above
    have F₂ : Fr h₀ env.locals h₂ (fun z => if z = y then some (.ref D) else m z) := ⟨hn₂, fun b o e => hs₂.extBut b o (fun q => by rw [q, hL₀] at e; cases e) (F'.keep b o e), F'.above⟩
    refine ⟨m', hn'.sameBut hs₂ hCL, fun h'' hs'' => fin ys nw h'' (by rw [← hlen]; exact hJ) D h'' _ (F₂.change hs'' hCL hC₀) (fun p hp => ?_) o1⟩
    have z : h₂.get? p.1 = some p.2 := hs₂.extBut _ _ (N' p hp).2.1 (N' p hp).1
    refine ⟨hs''.extBut _ _ ?_ z, (N' p hp).2⟩
    rcases List.mem_cons.mp hp with rfl | hp
    · exact Ne.symm hCD
    · exact offC p hp
  have Ws := Walks.tuple (prog := prog) (w := w) hh I ax (Nat.ne_of_lt hax) its.toArray
  exact codeAny_compStart_list (loop _ rfl _ fin') (Ws.self 0 _ _ _ ⟨itI.at fun o e => up2 _ o e, Heap.IsTuple.at hl fun o e => up ax o e⟩ (loop _ rfl _ fin'))
end Mine
end
section -- part C17a
open PySem PySem.W PyProof.Rows PySem.Calls PySem.Spec PySem.F
set_option maxHeartbeats 4000000
namespace Mine
variable {w : World}
theorem hold_ps {prog : Program} {A : Around} {h₀ : Heap} {L : Addr} {m : Str → Option Value} {env : PySem.Env} {c elt : PySem.Expr} {a b : Str} {scope : Scope} {cl : List (Str × Addr)} {Q : Value → Shared → Prop} {xv : Value} {s₁ : Shared}
  (h : Hold (PSrcT prog w A h₀ L m env c elt a b scope cl Q xv s₁)) : PSrcT prog w A h₀ L m env c elt a b scope cl Q xv s₁ := h.mk
local macro_rules | `(tactic| walk_at "call ref") => `(tactic| (refine hold_wp ?_))
local macro_rules | `(tactic| walk_at "exec For Name Call cons nil") => `(tactic| (refine hold_wp ?_))
local macro_rules | `(tactic| walk_at "eval ListComp") => `(tactic| (refine hold_wp ?_))
local macro_rules | `(tactic| walk_at "exec Assign cons ListComp") => `(tactic| (refine hold_wp ?_))
local macro_rules | `(tactic| walk_at "CompEnd") => `(tactic| (refine hold_ce ?_))
local macro_rules | `(tactic| walk_at "pyIter ref") => `(tactic| (refine hold_wp ?_))
local macro_rules | `(tactic| walk_at "compareOp NotEq ref ref") => `(tactic| (refine hold_wp ?_))
local macro_rules | `(tactic| walk_at "compareOp Eq ref ref") => `(tactic| (refine hold_wp ?_))
local macro_rules | `(tactic| walk_at "call builtin:sum") => `(tactic| (refine hold_wp ?_))
theorem hold_cst {prog : Program} {w : World} {A : Around} {h₀ : Heap} {L : Addr} {m : Str → Option Value} {env : PySem.Env} {ct elt : PySem.Expr} {x : Str} {scope : Scope} {cl : List (Str × Addr)} {Fin : Shared → List Value → List (Addr × Obj) → Prop} {xv : Value} {s₁ : Shared}
  (h : Hold (LCt.CompSrcT prog w A h₀ L m env ct elt x scope cl Fin xv s₁)) : LCt.CompSrcT prog w A h₀ L m env ct elt x scope cl Fin xv s₁ := h.mk
local macro_rules | `(tactic| walk_at "CompSrcT") => `(tactic| (refine hold_cst ?_))
local macro_rules | `(tactic| walk_at "subscriptTail Name Name ref int") => `(tactic| (refine hold_wp ?_))
local macro_rules | `(tactic| walk_at "subscriptTail Name Constant ref int") => `(tactic| (refine hold_wp ?_))
theorem turns_range {prog : Program} {A : Around} {E : Value → Shared → Prop} {s : Shared} {env : PySem.Env} {h₀ : Heap} {x : Str} {px : Pos} {body : List Stmt} {Q : Flow → Shared → Prop} {r : Addr} {a₀ b₀ : Int} {t₀ u₀ v₀ : Tok} (n : Nat) {m₀ : Str → Option Value} {news : List (Addr × Obj)} (nx₀ : List (Addr × Obj)) (J : (Str → Option Value) → Nat → (Str → Option Value) → List (Addr × Obj) → Prop)
    (hh : A.handled = none) (hr : IsRange s.heap r a₀ b₀ 1 t₀ u₀ v₀) (hsmall : Builtin.Range.small a₀ b₀ 1 = true) (hsz : Builtin.Range.rangeSize a₀ b₀ 1 = (n : Int)) (F : Fr h₀ env.locals s.heap m₀) (N : News h₀ env.locals s.heap news) (hn : ∀ p ∈ nx₀, p ∈ news) (hj : J m₀ 0 m₀ nx₀)
    (turn : ∀ i k t m₁ nx h tk own, i < n → k = a₀ + (i : Int) → OwnOff own (nx.map (·.1)) → J m₀ i m₁ nx → Fr h₀ env.locals h m₁ → News h₀ env.locals h (nx ++ own) →
      wpAny (model prog w) A (assign (.Name x px) env (.int k t)) (fun _ s₃ => wpAny (model prog w) A (execs body env) (InvPostG h₀ env.locals (J m₀ (i + 1)) own { s with heap := h, toks := tk } Q) E s₃) E { s with heap := h, toks := tk })
    (done : ∀ m₁ nx h tk, J m₀ n m₁ nx → Fr h₀ env.locals h m₁ → News h₀ env.locals h nx → Q .next { s with heap := h, toks := tk }) :
    wpAny (model prog w) A (pyIter (.ref r)) (fun it s₂ => TurnsAt prog w A h₀ env (.Name x px) body Q E it s₂) E s := by
  refine wpAny_pyIter_range hr hsmall ?_
  have W : Walks prog w A s.heap.objs.size [s.heap.objs.size] [s.heap.objs.size] n (fun i v => i < n ∧ ∃ t, v = .int (a₀ + i * 1) t)
      (fun i h => IsRangeIter h s.heap.objs.size (a₀ + (i : Nat) * 1) ((n : Int) - (i : Nat)) 1) := (Walks.range hh _ a₀ 1 n).bound
  have WT := KTurns.ofWalks (target := .Name x px) W (fun _ _ _ _ _ _ hq => wpAny_pure hq)
  refine ⟨_, _, _, n, _, _, _, m₀, nx₀, J m₀, rfl, WT, ?_, ?_, ?_, (by show IsRangeIter _ _ _ _ _; rw [hsz]; simpa using Heap.get?_push_size _ rfl), F.push _, (fun p hp => ⟨Heap.get?_push_of_some _ (N p (hn p hp)).1, (N p (hn p hp)).2⟩), hj, ?_, ?_⟩
  · intro hm
    exact absurd F.ns.lt ((List.mem_singleton.mp hm) ▸ Nat.lt_irrefl _)
  · intro b hb
    rw [List.mem_singleton.mp hb]
    exact next_is_new F
  · intro p hp hI
    exact absurd (Heap.lt_size (N p (hn p hp)).1) ((List.mem_singleton.mp hI) ▸ Nat.lt_irrefl _)
  · rintro i v m₁ nx h tk own hi ⟨_, t, rfl⟩ hJ hoff hown _ hmem hst F₁ N₁
    have e1 : a₀ + (i : Int) * 1 = a₀ + (i : Int) := by omega
    rw [e1]
    have hsep : OwnOff own (nx.map (·.1)) := by
      intro p hp b hb e
      obtain ⟨q, hq, rfl⟩ := List.mem_map.mp hb
      exact hoff q hq (e ▸ hown p hp)
    have N₂ : News h₀ env.locals h (nx ++ own) := fun p hp => N₁ p ((List.mem_append.mp hp).elim (fun h => List.mem_append.mpr (.inr h)) fun h => List.mem_append.mpr (.inl h))
    refine wpAny_mono (turn i _ t m₁ nx h tk own hi rfl hsep hJ F₁ N₂) (fun _ s₃ p => wpAny_mono p (fun f s₂ p => ?_) fun _ _ e => e) fun _ _ e => e
    have fin : InvEndG h₀ env.locals (J m₀ (i + 1)) own { s with heap := h, toks := tk } s₂ → LoopStepU h₀ env.locals [s.heap.objs.size] own (J m₀ (i + 1)) { s with heap := h, toks := tk } .next s₂ := by
      rintro ⟨h', tk', m', news', nx', e, F', N', hn', ho, ha, hm⟩
      refine ⟨rfl, h', tk', m', nx', e, F', fun p hp => N' p ((List.mem_append.mp hp).elim (ho p) (hn' p)), fun p hp hq => ?_, hm⟩
      rw [List.mem_singleton] at hq
      have hb : (s.heap.objs.size, _) ∈ own := hmem _ (List.mem_singleton.mpr rfl) (next_is_new F) _ hst
      exact ha _ hb p.1 (List.mem_map.mpr ⟨p, hp, rfl⟩) hq.symm
    cases f with
    | ret v => exact .ret p
    | brk => exact .brk p
    | next => exact .next (fin p)
    | cont => exact .cont (fin p)
  · intro h' tk m' news' F' N' _ hJ
    exact done m' news' h' tk hJ F' N'
theorem compRestT_inv {prog : Program} {w : World} {A : Around} {h₀ : Heap} {L : Addr} {m : Str → Option Value} {env : PySem.Env} {ct elt : PySem.Expr} {x : Str} {scope : Scope} {cl : List (Str × Addr)} {s : Shared} {S : List (Addr × Obj) → Prop} {P : Nat → Value → Prop} {Fin : List Value → List (Addr × Obj) → Prop} {n : Nat}
    (Inv : Nat → List Value → List (Addr × Obj) → Prop)
    (step : ∀ i ys news, i < n → Inv i ys news → ∀ v I oI C oC D m₂ h tk (E' : Value → Shared → Prop), P i v → LCg.NsObj oC m₂ → m₂ x = some v → Fr h₀ L h m → News h₀ L h ((I, oI) :: (C, oC) :: (D, LCg.lst ys) :: news) → LCg.Off3 I C D news → ((@Ne Nat I C) ∧ (@Ne Nat I D) ∧ (@Ne Nat C D)) →
      wpAny (model prog w) A (isTrue ct (compEnvC scope cl C env) (eval ct (compEnvC scope cl C env))) (fun ok s' => if ok = true then
        wpAny (model prog w) A (eval elt (compEnvC scope cl C env)) (LCg.CompEnd h₀ L m { s with heap := h, toks := tk } I oI C oC D (LCg.lst ys) S (fun y news' => Inv (i + 1) (ys ++ [y]) news')) E' s'
        else LCg.CompEnd h₀ L m { s with heap := h, toks := tk } I oI C oC D (LCg.lst ys) S (fun _ news' => Inv (i + 1) ys news') Value.none s') E' { s with heap := h, toks := tk })
    (fin : ∀ ys news, Inv n ys news → Fin ys news) :
    ∀ k i ys news, i + k = n → Inv i ys news → LCt.CompRestT prog w A h₀ L m env ct elt x scope cl s S P Fin k i ys news
  | 0, i, ys, news, e, hi => LCt.CompRestT.zero (fin _ _ (by rw [← e]; exact hi))
  | k + 1, i, ys, news, e, hi => by
    refine LCt.CompRestT.succ ?_
    intro v I oI C oC D m₂ h tk E' hv hn hx F N off ne
    refine wpAny_mono (step i ys news (by omega) hi v I oI C oC D m₂ h tk E' hv hn hx F N off ne) ?_ fun _ _ x => x
    intro ok s₃ h₃
    cases ok with
    | true =>
      simp only [if_true] at h₃ ⊢
      refine wpAny_mono h₃ ?_ fun _ _ x => x
      rintro y s₂ ⟨h', tk', news', e2, F', N', off', hS, r⟩
      exact ⟨h', tk', news', e2, F', N', off', hS, compRestT_inv Inv step fin k (i + 1) _ _ (by omega) r⟩
    | false =>
      simp only [Bool.false_eq_true, if_false] at h₃ ⊢
      obtain ⟨h', tk', news', e2, F', N', off', hS, r⟩ := h₃
      exact ⟨h', tk', news', e2, F', N', off', hS, compRestT_inv Inv step fin k (i + 1) _ _ (by omega) r⟩
theorem news_15 {h₀ h : Heap} {L : Addr} {e1 e2 e3 c1 c2 : Addr × Obj} (N : News h₀ L h [e1, e2, e3, c1, c2]) : News h₀ L h [e1, c1, c2] := News.sub N fun q hq => by
  simp only [List.mem_cons, List.not_mem_nil, or_false] at hq ⊢
  rcases hq with h | h | h <;> simp [h]
end Mine
end
section -- part C17b
open PySem PySem.W PyProof.Rows PySem.Calls PySem.Spec PySem.F
set_option maxHeartbeats 2000000
namespace Mine
variable {w : World}
theorem PSrcU.three {prog : Program} {A : Around} {h₀ : Heap} {L : Addr} {m : Str → Option Value} {env : PySem.Env} {c elt : PySem.Expr} {a b : Str} {scope : Scope} {cl : List (Str × Addr)} {y : Str} {Q : Flow → Shared → Prop} {s₁ : Shared}
    {Da Db Dc Dt D3 L1 : Addr} {oa ob oc ot o3 o1 : Obj} {n : Nat} {rest : List (Addr × Obj)} (qa qb qc : Int × Int) (R : Nat → List (Int × Int))
    (hh : A.handled = none) (F : Fr h₀ L s₁.heap m) (N : News h₀ L s₁.heap ((Dt, ot) :: (Dc, oc) :: (Db, ob) :: (Da, oa) :: rest))
    (hot : ot = { cls := .type "tuple", data := .seq #[.ref Da, .ref Db, .ref Dc] n }) (pa : PairO qa oa) (pb : PairO qb ob) (pc : PairO qc oc)
    (h3 : (D3, o3) ∈ rest) (h1 : (L1, o1) ∈ rest) (hR : R 0 = [])
    (turn : PTurnU prog w A h₀ L m env c elt a b scope cl s₁ [qa, qb, qc] [(Dt, ot), (Dc, oc), (Db, ob), (Da, oa)] (fun i ys nw => ∃ tl, nw = (D3, o3) :: (L1, o1) :: tl ∧ AllBy (Held1 tl) ys (R i)))
    (fin : ∀ ys tl g, AllBy (Held1 tl) ys (R 3) → LCg.FinA h₀ L m { s₁ with heap := g } y Q ys ((D3, o3) :: (L1, o1) :: tl)) :
    PSrcU prog w A h₀ L m env c elt a b scope cl y Q (.ref Dt) s₁ := by
  have N' : News h₀ L s₁.heap ((D3, o3) :: (L1, o1) :: [(Dt, ot), (Dc, oc), (Db, ob), (Da, oa)]) := News.sub N fun q hq => by
    rcases List.mem_cons.mp hq with rfl | hq
    · exact .tail _ (.tail _ (.tail _ (.tail _ h3)))
    rcases List.mem_cons.mp hq with rfl | hq
    · exact .tail _ (.tail _ (.tail _ (.tail _ h1)))
    · simp only [List.mem_cons, List.not_mem_nil, or_false] at hq ⊢
      rcases hq with h | h | h | h <;> simp [h]
  refine ⟨Dt, [.ref Da, .ref Db, .ref Dc], [qa, qb, qc], [(Dt, ot), (Dc, oc), (Db, ob), (Da, oa)], _, _, rfl, hh, F, N', (by rw [sizeLine_eq]; show 3 ≤ _; decide), ?_, (fun q hq => .tail _ (.tail _ hq)), ⟨[(Dt, ot), (Dc, oc), (Db, ob), (Da, oa)], rfl, by rw [hR]; exact .nil⟩, turn, ?_⟩
  · intro g nw _ Ng hn
    refine ⟨⟨_, (Ng _ (hn _ (.head _))).1, ?_⟩, .cons ⟨_, _, rfl, (Ng _ (hn _ (.tail _ (.tail _ (.tail _ (.head _)))))).1, pa⟩ (.cons ⟨_, _, rfl, (Ng _ (hn _ (.tail _ (.tail _ (.head _))))).1, pb⟩ (.cons ⟨_, _, rfl, (Ng _ (hn _ (.tail _ (.head _)))).1, pc⟩ .nil))⟩
    rw [hot]
    exact ⟨rfl, _, rfl⟩
  · rintro ys nw g ⟨tl, rfl, hA⟩
    exact fin ys tl g hA
theorem Held1.isK {w : World} {h₀ h : Heap} {L : Addr} {nx news : List (Addr × Obj)} {a : Addr} {p : Int × Int} (x : Held1 nx a p) (B : Base w h₀) (k : Keep h₀ h) (N : News h₀ L h news) (hs : ∀ q ∈ nx, q ∈ news) : Is h (.ref a) p := by
  rcases x with ⟨rfl, rfl⟩ | ⟨rfl, rfl⟩ | ⟨o, hm, ho⟩
  · exact (R1_is B).keep k
  · exact (R0_is B).keep k
  · exact ⟨a, o, rfl, (N _ (hs _ hm)).1, ho⟩
theorem compEnd_new2 {h₀ : Heap} {L I C D D' : Addr} {m : Str → Option Value} {s₁ : Shared} {oI oC oD o : Obj} {S : List (Addr × Obj) → Prop} {rest : Value → List (Addr × Obj) → Prop} {y : Value} {h' : Heap} {tk : Nat} {e1 e2 : Addr × Obj} {tl : List (Addr × Obj)}
    (F : Fr h₀ L h' m) (N : News h₀ L h' ((D', o) :: (I, oI) :: (C, oC) :: (D, oD) :: e1 :: e2 :: tl)) (h1 : I < D') (h2 : C < D') (h3 : D < D') (off : LCg.Off3 I C D (e1 :: e2 :: tl)) (hS : S (e1 :: e2 :: (D', o) :: tl)) (r : rest y (e1 :: e2 :: (D', o) :: tl)) :
    LCg.CompEnd h₀ L m s₁ I oI C oC D oD S rest y { s₁ with heap := h', toks := tk } := by
  refine LCg.CompEnd.intro F N (e1 :: e2 :: (D', o) :: tl) ?_ ?_ hS r
  · intro p hp
    simp only [List.mem_cons] at hp ⊢
    rcases hp with h | h | h | h | h | h | h <;> simp [h]
  · exact LCg.Off3.of fun p hp => by
      simp only [List.mem_cons] at hp
      rcases hp with h | h | h | h
      · exact LCg.Off3.mem off p (by simp [h])
      · exact LCg.Off3.mem off p (by simp [h])
      · rw [h]
        exact ⟨Nat.ne_of_gt h1, Nat.ne_of_gt h2, Nat.ne_of_gt h3⟩
      · exact LCg.Off3.mem off p (by simp [h])
theorem getD_mem {α : Type} {l : List α} {i : Nat} {d : α} (h : i < l.length) : l.getD i d ∈ l := by
  rw [List.getD_eq_getElem?_getD, List.getElem?_eq_getElem h]
  exact List.getElem_mem h
theorem news_rot {h₀ h : Heap} {L : Addr} {e1 e2 e3 : Addr × Obj} {tl : List (Addr × Obj)} (N : News h₀ L h (e1 :: e2 :: e3 :: tl)) : News h₀ L h (e2 :: e3 :: e1 :: tl) := News.sub N fun q hq => by
  simp only [List.mem_cons] at hq ⊢
  rcases hq with h | h | h | h <;> simp [h]
theorem ksa_subv {prog : Program} {A : Around} {E : Value → Shared → Prop} {s : Shared} {h₀ : Heap} {L D : Addr} {news : List (Addr × Obj)} {vs : List Value} {ns : List Int} {n : Nat} {k v : Int} {u : Tok} {value slice : PySem.Expr} {Q : Value → Shared → Prop} (N : News h₀ L s.heap news) (hm : (D, listOf vs.toArray n) ∈ news) (hi : IntsAre vs ns) (h0 : 0 ≤ k) (h1 : k < ns.length) (hfit : k < 2 ^ 63) (hv : ns.getD k.toNat 0 = v) (h : ∀ t, Q (.int v t) s)
    (hs : subscripted slice false (.ref D) (.int k u) = operate [.ref D, .int k u] (getItem (.ref D) (.int k u)) := by with_unfolding_all rfl) :
    wpAny (model prog w) A (subscriptTail value slice (.ref D) (.int k u)) Q E s := by
  subst hv
  exact ksa_sub N hm hi h0 h1 hfit h hs
theorem mul_intv {prog : Program} {A : Around} {E : Value → Shared → Prop} {s : Shared} {a b v : Int} {t u : Tok} {Q : Value → Shared → Prop} (hv : v = a * b) (hm : IntMulOk a b) (h : ∀ t', Q (.int v t') { s with toks := s.toks + 1 }) : wpAny (model prog w) A (binaryOp .Mult (.int a t) (.int b u)) Q E s := by
  subst hv
  exact mul_int (h _) hm
noncomputable def qs0 : List (Int × Int) := [(2, 1), (2, 2), (3, 1)]
noncomputable def higherTo (n : Nat) (i : Nat) : List (Int × Int) := (qs0.take i).filter fun q => decide (q.1 ^ (q.2 + 1).toNat < (n : Int))
theorem higherTo_3 (n : Nat) : ∀ q ∈ higherTo n 3, q ∈ qs0 ∧ q.1 ^ (q.2 + 1).toNat < (n : Int) := by
  intro q hq
  obtain ⟨h1, h2⟩ := List.mem_filter.mp hq
  exact ⟨h1, of_decide_eq_true h2⟩
theorem higherTo_in (n : Nat) (i : Nat) (hi : i < 3) (h : (qs0.getD i (0, 1)).1 ^ ((qs0.getD i (0, 1)).2 + 1).toNat < (n : Int)) : higherTo n (i + 1) = higherTo n i ++ [qs0.getD i (0, 1)] := by
  unfold higherTo
  have e : qs0.take (i + 1) = qs0.take i ++ [qs0.getD i (0, 1)] := by
    rcases i with _ | _ | _ | i
    · rfl
    · rfl
    · rfl
    · omega
  rw [e, List.filter_append]
  congr 1
  rw [List.filter_cons, if_pos (decide_eq_true h), List.filter_nil]
theorem higherTo_out (n : Nat) (i : Nat) (hi : i < 3) (h : ¬ (qs0.getD i (0, 1)).1 ^ ((qs0.getD i (0, 1)).2 + 1).toNat < (n : Int)) : higherTo n (i + 1) = higherTo n i := by
  unfold higherTo
  have e : qs0.take (i + 1) = qs0.take i ++ [qs0.getD i (0, 1)] := by
    rcases i with _ | _ | _ | i
    · rfl
    · rfl
    · rfl
    · omega
  rw [e, List.filter_append, List.filter_cons, if_neg (by simpa using h), List.filter_nil, List.append_nil]
end Mine
end
section -- part C17
open PySem PySem.W PyProof.Rows PySem.Calls PySem.Spec PySem.F
set_option maxHeartbeats 4000000
namespace Mine
variable {w : World}
local macro_rules | `(tactic| walk_at "call ref") => `(tactic| (refine hold_wp ?_))
local macro_rules | `(tactic| walk_at "exec For Name Call cons nil") => `(tactic| (refine hold_wp ?_))
local macro_rules | `(tactic| walk_at "eval ListComp") => `(tactic| (refine hold_wp ?_))
local macro_rules | `(tactic| walk_at "exec Assign cons ListComp") => `(tactic| (refine hold_wp ?_))
local macro_rules | `(tactic| walk_at "CompEnd") => `(tactic| (refine hold_ce ?_))
local macro_rules | `(tactic| walk_at "pyIter ref") => `(tactic| (refine hold_wp ?_))
local macro_rules | `(tactic| walk_at "compareOp NotEq ref ref") => `(tactic| (refine hold_wp ?_))
local macro_rules | `(tactic| walk_at "compareOp Eq ref ref") => `(tactic| (refine hold_wp ?_))
local macro_rules | `(tactic| walk_at "call builtin:len") => `(tactic| (refine hold_wp ?_))
local macro_rules | `(tactic| walk_at "binaryOp Mult int int") => `(tactic| (refine hold_wp ?_))
local macro_rules | `(tactic| walk_at "ite") => `(tactic| first | with_reducible refine ite_tt ?_ | with_reducible refine ite_ff ?_)
local macro_rules | `(tactic| walk_at "isTrue BoolOp") => `(tactic| (refine hold_wp ?_))
local macro_rules | `(tactic| walk_at "subscriptTail Name BinOp ref int") => `(tactic| (refine hold_wp ?_))
local macro_rules | `(tactic| walk_at "call builtin:sum") => `(tactic| (refine hold_wp ?_))
local macro_rules | `(tactic| walk_at "CompSrcT") => `(tactic| (refine hold_cst ?_))
local macro_rules | `(tactic| walk_at "subscriptTail Name Name ref int") => `(tactic| (refine hold_wp ?_))
local macro_rules | `(tactic| walk_at "subscriptTail Name Constant ref int") => `(tactic| (refine hold_wp ?_))
noncomputable def tops (ps : List (Int × Int)) : List Int := ps.map (·.1)
/-- the eleventh powers of n's divisors among 1 .. i -/
noncomputable def divs (n : Int) : Nat → List Int
  | 0 => []
  | i + 1 => if Int.fmod n (1 + (i : Int)) = 0 then divs n i ++ [(1 + (i : Int)) ^ 11] else divs n i
noncomputable def tauAt (tau : List Int) (i : Nat) : Bool := decide (Int.fmod (tau.getD (1 + (i : Int)).toNat 0 - (divs (1 + (i : Int)) (i + 1)).sum) 691 = 0)
noncomputable def tauPow (T : List Int) (p many : Int) : Bool := decide (T.getD (p ^ (many + 1).toNat).toNat 0 = T.getD p.toNat 0 * T.getD (p ^ many.toNat).toNat 0 - p ^ 11 * T.getD (p ^ (many - 1).toNat).toNat 0)
theorem tau_spec (n : Nat) (ra : Addr) (ps : List (Int × Int)) (hc : ps.length < 1000) (hone : ∀ i, i < ps.length → (ps.getD i (0, 1)).2 = 1) (htau : ∀ i, i < ps.length → tauAt (0 :: tops ps) i = true)
    (hbig : ∀ i : Nat, -1000000 ≤ (0 :: tops ps).getD i 0 ∧ (0 :: tops ps).getD i 0 ≤ 1000000) (hmul : 6 < 1 + ps.length → (0 :: tops ps).getD 6 0 = (0 :: tops ps).getD 2 0 * (0 :: tops ps).getD 3 0)
    (hpow : ∀ p many, (p, many) ∈ higherTo (1 + ps.length) 3 → tauPow (0 :: tops ps) p many = true) :
    Spec w 177 (n + 1) [.ref ra] (fun h => Row h (.ref ra) ps) (fun _ _ v => v = .bool true) := by
  w_top off
  unfold Spec
  rintro ⟨hd9, dp, fr, gd, un⟩ s Q E ⟨hh, hroom, hunits⟩ B ia ret
  cases hh
  dsimp only at hroom hunits
  have X := B.X
  obtain ⟨loose, mean, mg, mb, T⟩ := B.T
  revert X
  k_fill
  intro X
  refine' enterC (binds := [(Str.ofString "told", .ref ra)]) ⟨rfl, hroom, hunits⟩ B ?k6 ?k7 ?k9 ?kB ?c5 ?c2 ?c3 ?c4 ?_
  case k6 => k_is
  case k7 => k_is
  case k9 => exact BindsTo.of_eq rfl
  case kB => exact rfl
  case c5 => decide +kernel
  case c2 => exact rfl
  case c3 => exact rfl
  case c4 => exact rfl
  intro L h₁ tk cells F N Y
  obtain ⟨o1, o2, hE, d1, d2⟩ := CellsAre.two Y
  subst hE
  clear Y
  have a : ∀ env, Amb ({ handled := none, depth := dp, frames := fr, guards := gd, units := un : Around }.deeper env) _ := fun env => Amb.down ⟨rfl, hroom, hunits⟩
  (try dsimp only)
  with_reducible show wpAny _ _ _ _ _ _
  k_fold
  obtain ⟨_, vs, e1, l1, A1⟩ := id ia
  cases e1
  have e1 := A1.length
  with_reducible show wpAny _ _ _ _ _ _
  k_steps
  refine Hold.un (pairs_T F (by with_unfolding_all rfl) (by decide) (by rfl) (by decide) (by rfl) (by rfl) (by decide) ?_)
  k_steps
  refine ⟨ra, vs, ps, [], _, (fun i ys nw => ys = [] ∧ nw = [((L + 1 + 1 : Addr), o1), ((L + 1 : Addr), o2)]), rfl, rfl, F, N, (by rw [sizeLine_eq]; omega), (fun g nw k _ _ => ⟨IsList.keepK l1 k, A1.keep k⟩), (fun _ h => nomatch h), ⟨rfl, rfl⟩, ?_, ?_⟩
  · rintro i ys nw hi ⟨rfl, rfl⟩ hneed t1 t2 I oI C oC D m₂ h tk E' hns hx1 hx2 F3 N3 hoff hne
    rw [hone i hi] at hx2
    with_reducible show wpAny _ _ _ _ _ _
    k_steps
    exact Hold.un (LCg.CompEnd.intro F3 N3 _ (fun _ h => h) hoff (fun _ h => nomatch h) ⟨rfl, rfl⟩)
  rintro ys nw g ⟨rfl, rfl⟩
  unfold LCg.FinE
  intro D1 h3 tk3 F3 N3 ho3
  simp only [LCg.Off1, and_true] at ho3
  clear F N
  have hun : un + 3 + 64 < cLine := by omega
  with_reducible show wpAny _ _ _ _ _ _
  k_steps
  rename Fr _ _ _ _ => F4
  rename News _ _ _ _ => N4
  refine Hold.un (ke_ne_ints (xs := []) (ys := []) (ns := []) (ms := []) ⟨_, (N4 _ (.tail _ (.head _))).1, rfl, _, rfl⟩ ⟨_, (N4 _ (.head _)).1, rfl, _, rfl⟩ .nil .nil hun ?_)
  with_reducible show wpAny _ _ _ _ _ _
  k_steps
  rename Fr _ _ _ _ => F5
  rename News _ _ _ _ => N5
  have N6 := news_15 N5
  clear N5
  refine Hold.un (pairs_N F5 (by with_unfolding_all rfl) (by decide) (by rfl) (by decide) (by rfl) (by rfl) (by decide) ?_)
  with_reducible show wpAny _ _ _ _ _ _
  k_steps
  refine with_addr N6 fun z hz => ?_
  subst hz
  refine ⟨ra, vs, ps, [], _, (fun i ys nw => IntsAre ys ((tops ps).take i) ∧ nw = [(z, _), ((L + 1 + 1 : Addr), o1), ((L + 1 : Addr), o2)]), rfl, rfl, F5, N6, (by rw [sizeLine_eq]; omega), (fun g nw k _ _ => ⟨IsList.keepK l1 k, A1.keep k⟩), (fun _ h => nomatch h), ⟨.nil, rfl⟩, ?_, ?_⟩
  · rintro i ys nw hi ⟨hys, rfl⟩ hneed t1 t2 I oI C oC D m₂ h tk E' hns hx1 hx2 F3 N3 hoff hne
    with_reducible show wpAny _ _ _ _ _ _
    k_steps
    refine Hold.un (LCg.CompEnd.intro F3 N3 _ (fun _ h => h) hoff (fun _ h => nomatch h) ⟨?_, rfl⟩)
    have e2 : (tops ps).take (i + 1) = (tops ps).take i ++ [(ps.getD i (0, 1)).1] := by
      unfold tops
      rw [List.take_add_one, List.getElem?_eq_getElem (by rw [List.length_map]; exact hi), List.getElem_map, List.getD_eq_getElem?_getD, List.getElem?_eq_getElem hi]
      rfl
    rw [e2]
    exact IntsAre.append hys (.cons _ _ .nil)
  rintro ys nw g ⟨hys, rfl⟩
  unfold LCg.FinE
  intro D2 h4 tk4 F6 N7 ho4
  simp only [LCg.Off1, and_true] at ho4
  have et : (tops ps).take ps.length = tops ps := List.take_of_length_le (by simp [tops])
  rw [et] at hys
  clear F5 N6
  with_reducible show wpAny _ _ _ _ _ _
  k_steps
  refine kmk_add_ints F6 N7 ⟨_, (N7 _ (.tail _ (.head _))).1, rfl, _, rfl⟩ ⟨_, (N7 _ (.head _)).1, rfl, _, rfl⟩ (.cons 0 _ .nil) hys ?_ (by rw [sizeLine_eq]; simp [tops]; omega)
  intro D3 ws h5 F8 N8 hlt hws
  have lt1 : @LT.lt Nat _ (L + 1 + 1) D3 := hlt (L + 1 + 1, o1) (by simp)
  have lt2 : @LT.lt Nat _ (L + 1) D3 := hlt (L + 1, o2) (by simp)
  have N9 := news_15 N8
  clear N8 N7 F6 hlt hys ho4
  with_reducible show wpAny _ _ _ _ _ _
  k_steps
  rename Fr _ _ _ _ => F10
  rename News _ _ _ _ => N10
  rename Obj.data _ = _ => d3
  refine Hold.un (For_turns F10 ?_)
  with_reducible show wpAny _ _ _ _ _ _
  k_steps
  have ewl : ws.length = 1 + ps.length := by rw [IntsAre.length hws]; simp [tops]; omega
  have ews : (ws.toArray.size : Int) = (1 + ps.length : Nat) := by simp [ewl]
  refine Hold.un (len_list ⟨_, (N10 _ (.head _)).1, rfl, _, rfl⟩ (by omega) ?_)
  with_reducible show wpAny _ _ _ _ _ _
  rw [ews]
  k_steps
  rename IsRange _ _ _ _ _ _ _ _ => hR
  rename Fr _ _ _ _ => F11
  rename News _ _ _ _ => N11
  refine Hold.un (turns_range ps.length [(D3, listOf ws.toArray 0), ((L + 1 + 1 : Addr), o1), ((L + 1 : Addr), _)] (fun M0 i m nx => ∃ on vn, m = M0 ∧ nx = [(D3, listOf ws.toArray 0), ((L + 1 + 1 : Addr), on), ((L + 1 : Addr), _)] ∧ Obj.data on = .cell vn)
    rfl hR (small_one (by omega) (by omega) (by omega) (by omega)) (rsize (by omega)) F11 N11 (fun _ h => h) ⟨o1, _, rfl, rfl, d1⟩ ?_ ?_)
  · rintro i k t m₁ nx h tk own hi hk hoff ⟨on, vn, rfl, rfl, hdn⟩ F12 N12
    simp only [List.cons_append, List.nil_append] at N12
    have hno : ∀ q ∈ own, q.1 ≠ (L + 1 + 1 : Addr) := fun q hq => hoff q hq _ (by simp)
    have ne1 : D3 ≠ (L + 1 + 1 : Addr) := Nat.ne_of_gt lt1
    refine wpAny_assign_Name (storeX_C (cl := [(Str.ofString "n", (L + 1 + 1 : Addr)), (Str.ofString "tau", (L + 1 : Addr))]) F12 N12 rfl (.tail ne1 (.head (fun q hq => ?_))) hdn (fun h6 on2 F13 N13 hd13 => ?_))
    · rcases List.mem_cons.mp hq with e | e
      · rw [e]
        exact Nat.ne_of_lt (Nat.lt_succ_self _)
      · exact hno q e
    with_reducible show wpAny _ _ _ _ _ _
    k_steps
    have hk1 : 1 ≤ k := by omega
    have hk2 : k ≤ 1000 := by omega
    have elen : ([0] ++ tops ps : List Int).length = 1 + ps.length := by simp [tops]; omega
    refine Hold.un (ksa_sub (vs := ws) (ns := [0] ++ tops ps) (n := 0) N13 (.head _) hws (by omega) (by omega) (by omega) ?_)
    intro t1
    with_reducible show wpAny _ _ _ _ _ _
    k_steps
    refine Hold.un (LCt.ListComp_T F13 (by with_unfolding_all rfl) (by decide) (by rfl) (by decide) (by rfl) ?_)
    with_reducible show wpAny _ _ _ _ _ _
    k_steps
    rename IsRange _ _ _ _ _ _ _ _ => hR2
    rename Fr _ _ _ _ => F14
    rename News _ _ _ _ => N14
    refine Hold.un (LCt.CompSrcT.range (n := i + 1) rfl F14 N14 hR2 (small_one (by omega) (by omega) (by omega) (by omega)) (rsize (by omega)) (by rw [sizeLine_eq]; omega) ?_)
    intro g
    refine compRestT_inv (fun j ys nw => IntsAre ys (divs k j) ∧ nw = (D3, listOf ws.toArray 0) :: ((L + 1 + 1 : Addr), on2) :: ((L + 1 : Addr), _) :: own) ?_ ?_ (i + 1) 0 [] _ (Nat.zero_add _) ⟨.nil, rfl⟩
    · rintro j ys nw hj ⟨hys, rfl⟩ v I oI C oC D m₂ h tk E' ⟨tv, rfl⟩ hns hx F15 N15 hoff2 hne
      have hd1 : (1 : Int) + (j : Int) ≠ 0 := by omega
      have hd2 : (0 : Int) ≤ 1 + (j : Int) := by omega
      have hd3 : (1 : Int) + (j : Int) ≤ 1000 := by omega
      with_reducible show wpAny _ _ _ _ _ _
      k_steps
      · rename Int.fmod k _ = 0 => hm
        refine Hold.un (LCg.CompEnd.intro F15 N15 _ (fun _ h => h) hoff2 trivial ⟨?_, rfl⟩)
        have e2 : divs k (j + 1) = divs k j ++ [(1 + (j : Int)) ^ 11] := by rw [divs, if_pos hm]
        rw [e2]
        exact IntsAre.append hys (.cons _ _ .nil)
      · rename ¬ Int.fmod k _ = 0 => hm
        refine Hold.un (LCg.CompEnd.intro F15 N15 _ (fun _ h => h) hoff2 trivial ⟨?_, rfl⟩)
        have e2 : divs k (j + 1) = divs k j := by rw [divs, if_neg hm]
        rw [e2]
        exact hys
    rintro ys nw ⟨hys, rfl⟩
    unfold LCg.FinE
    intro D4 h7 tk7 F16 N16 ho7
    with_reducible show wpAny _ _ _ _ _ _
    k_steps
    refine Hold.un (sumK rfl F16 N16 ⟨_, (N16 _ (.head _)).1, rfl, _, rfl⟩ hys ?_)
    intro h8 tk8 t8 F17 N17
    have ht : Int.fmod ((0 :: tops ps).getD k.toNat 0 - (divs k (i + 1)).sum) 691 = 0 := by
      have := htau i hi
      unfold tauAt at this
      rw [← hk] at this
      exact of_decide_eq_true this
    clear F16 N16 ho7 hys F14 N14 hR2
    with_reducible show wpAny _ _ _ _ _ _
    k_steps
    · exact absurd ht (by assumption)
    · exact InvEndG.intro (nx := [(D3, listOf ws.toArray 0), ((L + 1 + 1 : Addr), on2), ((L + 1 : Addr), _)]) F17 N17 ⟨on2, _, rfl, rfl, hd13⟩ hoff (fun q hq => .tail _ (by
        rcases List.mem_cons.mp hq with h | hq
        · exact h ▸ .head _
        rcases List.mem_cons.mp hq with h | hq
        · exact h ▸ .tail _ (.head _)
        · exact (List.mem_singleton.mp hq) ▸ .tail _ (.tail _ (.head _)))) (fun q hq => .tail _ (.tail _ (.tail _ (.tail _ hq))))
  rintro m₁ nx h tk ⟨on, vn, rfl, rfl, hdn⟩ F18 N18
  dsimp only
  clear N11 F11 hR
  with_reducible show wpAny _ _ _ _ _ _
  k_steps
  refine Hold.un (wpAny_mono (Q := fun b s₂ => b = false ∧ ∃ tk', s₂ = { s with heap := h, toks := tk' }) ?_ ?_ fun _ _ e => e)
  · first | with_reducible refine isTrue_and_nil ?_ | with_reducible refine isTrue_and ?_
    k_steps
    refine Hold.un (len_list ⟨_, (N18 _ (.head _)).1, rfl, _, rfl⟩ (by omega) ?_)
    rw [ews]
    with_reducible show wpAny _ _ _ _ _ _
    k_steps
    first | refine Hold.un (with_reducible isTrue_and_nil ?_) | refine Hold.un (isTrue_and ?_)
    k_steps
    all_goals (try dsimp only)
    have hs6 : 6 < ([0] ++ tops ps : List Int).length := by simp [tops]; omega
    have b6 := hbig 6
    have b2 := hbig 2
    have b3 := hbig 3
    have hm := hmul (by omega)
    have q6 : ([0] ++ tops ps : List Int).getD (6 : Int).toNat 0 = (0 :: tops ps).getD 6 0 := rfl
    have q2 : ([0] ++ tops ps : List Int).getD (2 : Int).toNat 0 = (0 :: tops ps).getD 2 0 := rfl
    have q3 : ([0] ++ tops ps : List Int).getD (3 : Int).toNat 0 = (0 :: tops ps).getD 3 0 := rfl
    refine Hold.un (ksa_sub (vs := ws) (ns := [0] ++ tops ps) (n := 0) N18 (.head _) hws (by omega) (by omega) (by omega) ?_)
    rw [q6]
    generalize (0 :: tops ps).getD 6 0 = T6 at *
    intro t6
    with_reducible show wpAny _ _ _ _ _ _
    k_steps
    refine Hold.un (ksa_sub (vs := ws) (ns := [0] ++ tops ps) (n := 0) N18 (.head _) hws (by omega) (by omega) (by omega) ?_)
    rw [q2]
    generalize (0 :: tops ps).getD 2 0 = T2 at *
    intro t2
    with_reducible show wpAny _ _ _ _ _ _
    k_steps
    refine Hold.un (ksa_sub (vs := ws) (ns := [0] ++ tops ps) (n := 0) N18 (.head _) hws (by omega) (by omega) (by omega) ?_)
    rw [q3]
    generalize (0 :: tops ps).getD 3 0 = T3 at *
    intro t3
    clear hs6 q6 q2 q3
    with_reducible show wpAny _ _ _ _ _ _
    k_steps
    clear hmul
    refine Hold.un (mul_int (a := T2) (b := T3) ?_ (by mul_fits))
    rw [← hm]
    clear hm
    with_reducible show wpAny _ _ _ _ _ _
    k_steps
    all_goals first | exact absurd rfl (by assumption) | exact ⟨rfl, _, rfl⟩
  rintro b s₂ ⟨rfl, tk2, rfl⟩
  k_steps
  with_reducible refine Hold.un (pairs_U (cl := [(Str.ofString "tau", L + 1)]) F18 ?e1 ?e2 ?e3 ?e4 ?e5 ?e6 ?e7 ?e8 ?e9 ?e10 ?e11 ?_ ?e12)
  case e1 => exact rfl
  case e2 => with_unfolding_all exact rfl
  case e3 => exact rfl
  case e4 => exact rfl
  case e5 => with_unfolding_all exact rfl
  case e6 => decide
  case e7 => exact rfl
  case e8 => decide
  case e9 => exact rfl
  case e10 => exact rfl
  case e11 => decide
  case e12 => exact fun _ => rfl
  k_steps
  rename Fr _ _ _ _ => F19
  rename News _ _ _ _ => N19
  refine PSrcU.three (D3 := D3) (o3 := listOf ws.toArray 0) (L1 := L + 1) (2, 1) (2, 2) (3, 1) (higherTo (1 + ps.length)) rfl F19 N19 rfl (pairO_of rfl rfl) (pairO_of rfl rfl) (pairO_of rfl rfl) (.head _) (.tail _ (.tail _ (.head _))) rfl ?_ ?_
  · rintro i ys nw hi ⟨tl, rfl, hA⟩ hneed t1 t2 I oI C oC D m₂ h6 tk6 E' hns hx1 hx2 F20 N20 hoff hne
    have hi3 : i < 3 := hi
    obtain rfl | rfl | rfl : i = 0 ∨ i = 1 ∨ i = 2 := by omega
    · replace hx1 : m₂ (Str.ofString "p") = some (.int 2 t1) := hx1
      replace hx2 : m₂ (Str.ofString "many") = some (.int 1 t2) := hx2
      with_reducible show wpAny _ _ _ _ _ _
      k_steps
      refine Hold.un (len_list ⟨_, (N20 _ (.tail _ (.tail _ (.tail _ (.head _))))).1, rfl, _, rfl⟩ (by omega) ?_)
      rw [ews]
      with_reducible show wpAny _ _ _ _ _ _
      k_steps
      · rename Fr _ _ _ _ => F22
        rename News _ _ _ _ => N22
        rename (_ < _ ∧ _ < _ ∧ _ < _ ∧ _) => hl
        refine Hold.un (compEnd_new2 F22 N22 hl.1 hl.2.1 hl.2.2.1 hoff (fun q hq => ?_) ⟨_ :: tl, rfl, ?_⟩)
        · rcases List.mem_cons.mp (hneed q hq) with h | h
          · exact h ▸ .head _
          rcases List.mem_cons.mp h with h | h
          · exact h ▸ .tail _ (.head _)
          · exact .tail _ (.tail _ (.tail _ h))
        · rw [higherTo_in _ 0 (by omega) (by assumption)]
          exact (hA.mono fun _ _ h => h.mono fun _ h => .tail _ h).snoc (.inr (.inr ⟨_, .head _, pairO_of rfl rfl⟩))
      · refine Hold.un (LCg.CompEnd.intro F20 N20 _ (fun _ h => h) hoff hneed ⟨tl, rfl, ?_⟩)
        rw [higherTo_out _ 0 (by omega) (by assumption)]
        exact hA
    · replace hx1 : m₂ (Str.ofString "p") = some (.int 2 t1) := hx1
      replace hx2 : m₂ (Str.ofString "many") = some (.int 2 t2) := hx2
      with_reducible show wpAny _ _ _ _ _ _
      k_steps
      refine Hold.un (len_list ⟨_, (N20 _ (.tail _ (.tail _ (.tail _ (.head _))))).1, rfl, _, rfl⟩ (by omega) ?_)
      rw [ews]
      with_reducible show wpAny _ _ _ _ _ _
      k_steps
      · rename Fr _ _ _ _ => F22
        rename News _ _ _ _ => N22
        rename (_ < _ ∧ _ < _ ∧ _ < _ ∧ _) => hl
        refine Hold.un (compEnd_new2 F22 N22 hl.1 hl.2.1 hl.2.2.1 hoff (fun q hq => ?_) ⟨_ :: tl, rfl, ?_⟩)
        · rcases List.mem_cons.mp (hneed q hq) with h | h
          · exact h ▸ .head _
          rcases List.mem_cons.mp h with h | h
          · exact h ▸ .tail _ (.head _)
          · exact .tail _ (.tail _ (.tail _ h))
        · rw [higherTo_in _ 1 (by omega) (by assumption)]
          exact (hA.mono fun _ _ h => h.mono fun _ h => .tail _ h).snoc (.inr (.inr ⟨_, .head _, pairO_of rfl rfl⟩))
      · refine Hold.un (LCg.CompEnd.intro F20 N20 _ (fun _ h => h) hoff hneed ⟨tl, rfl, ?_⟩)
        rw [higherTo_out _ 1 (by omega) (by assumption)]
        exact hA
    · replace hx1 : m₂ (Str.ofString "p") = some (.int 3 t1) := hx1
      replace hx2 : m₂ (Str.ofString "many") = some (.int 1 t2) := hx2
      with_reducible show wpAny _ _ _ _ _ _
      k_steps
      refine Hold.un (len_list ⟨_, (N20 _ (.tail _ (.tail _ (.tail _ (.head _))))).1, rfl, _, rfl⟩ (by omega) ?_)
      rw [ews]
      with_reducible show wpAny _ _ _ _ _ _
      k_steps
      · rename Fr _ _ _ _ => F22
        rename News _ _ _ _ => N22
        rename (_ < _ ∧ _ < _ ∧ _ < _ ∧ _) => hl
        refine Hold.un (compEnd_new2 F22 N22 hl.1 hl.2.1 hl.2.2.1 hoff (fun q hq => ?_) ⟨_ :: tl, rfl, ?_⟩)
        · rcases List.mem_cons.mp (hneed q hq) with h | h
          · exact h ▸ .head _
          rcases List.mem_cons.mp h with h | h
          · exact h ▸ .tail _ (.head _)
          · exact .tail _ (.tail _ (.tail _ h))
        · rw [higherTo_in _ 2 (by omega) (by assumption)]
          exact (hA.mono fun _ _ h => h.mono fun _ h => .tail _ h).snoc (.inr (.inr ⟨_, .head _, pairO_of rfl rfl⟩))
      · refine Hold.un (LCg.CompEnd.intro F20 N20 _ (fun _ h => h) hoff hneed ⟨tl, rfl, ?_⟩)
        rw [higherTo_out _ 2 (by omega) (by assumption)]
        exact hA
  intro ys tl g hA
  unfold LCg.FinA
  intro D5 h7 tk7 F21 N21 ho5
  with_reducible show wpAny _ _ _ _ _ _
  k_steps
  refine Hold.un (pairs_T F21 (by with_unfolding_all rfl) (by decide) (by rfl) (by decide) (by rfl) (by rfl) (by decide) ?_)
  with_reducible show wpAny _ _ _ _ _ _
  k_steps
  have hlh : (higherTo (1 + ps.length) 3).length ≤ 3 := List.length_filter_le _ _
  have N23 := news_rot N21
  refine ⟨D5, ys, higherTo (1 + ps.length) 3, (D5, LCg.lst ys) :: tl, _, (fun i zs nw => zs = [] ∧ nw = (D3, listOf ws.toArray 0) :: ((L + 1 : Addr), _) :: (D5, LCg.lst ys) :: tl), rfl, rfl, F21, N23, (by rw [sizeLine_eq, hA.length]; omega), (fun g nw k N hs => ⟨⟨_, (N _ (hs _ (.head _))).1, rfl, _, rfl⟩, hA.is fun a p h => h.isK B k N fun q hq => hs q (.tail _ hq)⟩), (fun _ h => .tail _ (.tail _ h)), ⟨rfl, rfl⟩, ?_, ?_⟩
  · rintro i zs nw hi ⟨rfl, rfl⟩ hneed2 t1 t2 I oI C oC D m₂ h8 tk8 E' hns hx1 hx2 F24 N24 hoff hne
    have hq : (higherTo (1 + ps.length) 3).getD i (0, 1) ∈ higherTo (1 + ps.length) 3 := getD_mem hi
    generalize (higherTo (1 + ps.length) 3).getD i (0, 1) = q at hx1 hx2 hq
    obtain ⟨hq1, hq2⟩ := higherTo_3 _ q hq
    have hpw := hpow q.1 q.2 hq
    simp only [qs0, List.mem_cons, List.not_mem_nil, or_false] at hq1
    have elen : ([0] ++ tops ps : List Int).length = 1 + ps.length := by simp [tops]; omega
    rcases hq1 with rfl | rfl | rfl
    · replace hx1 : m₂ (Str.ofString "p") = some (.int 2 t1) := hx1
      replace hx2 : m₂ (Str.ofString "many") = some (.int 1 t2) := hx2
      replace hq2 : (4 : Int) < ((1 + ps.length : Nat) : Int) := hq2
      replace hpw : (0 :: tops ps).getD 4 0 = (0 :: tops ps).getD 2 0 * (0 :: tops ps).getD 2 0 - 2048 * (0 :: tops ps).getD 1 0 := of_decide_eq_true hpw
      have b1 := hbig 1
      have q1 : ([0] ++ tops ps : List Int).getD (1 : Int).toNat 0 = (0 :: tops ps).getD 1 0 := rfl
      have b2 := hbig 2
      have q2 : ([0] ++ tops ps : List Int).getD (2 : Int).toNat 0 = (0 :: tops ps).getD 2 0 := rfl
      have b4 := hbig 4
      have q4 : ([0] ++ tops ps : List Int).getD (4 : Int).toNat 0 = (0 :: tops ps).getD 4 0 := rfl
      generalize (0 :: tops ps).getD 1 0 = T1 at *
      generalize (0 :: tops ps).getD 2 0 = T2 at *
      generalize (0 :: tops ps).getD 4 0 = T4 at *
      have hM : ∃ M, M = T2 * T2 := ⟨_, rfl⟩
      obtain ⟨M, hM⟩ := hM
      rw [← hM] at hpw
      with_reducible show wpAny _ _ _ _ _ _
      k_steps
      refine Hold.un (ksa_subv (vs := ws) (ns := [0] ++ tops ps) (n := 0) N24 (.tail _ (.tail _ (.tail _ (.head _)))) hws (by decide) (Int.lt_of_le_of_lt (Int.le_of_eq (show _ = (4 : Int) from rfl)) (by omega)) (by decide) q4 ?_)
      intro u1
      (try dsimp only)
      with_reducible show wpAny _ _ _ _ _ _
      k_steps
      refine Hold.un (ksa_subv (vs := ws) (ns := [0] ++ tops ps) (n := 0) N24 (.tail _ (.tail _ (.tail _ (.head _)))) hws (by decide) (Int.lt_of_le_of_lt (Int.le_of_eq (show _ = (2 : Int) from rfl)) (by omega)) (by decide) q2 ?_)
      intro u2
      (try dsimp only)
      with_reducible show wpAny _ _ _ _ _ _
      k_steps
      refine Hold.un (ksa_subv (vs := ws) (ns := [0] ++ tops ps) (n := 0) N24 (.tail _ (.tail _ (.tail _ (.head _)))) hws (by decide) (Int.lt_of_le_of_lt (Int.le_of_eq (show _ = (2 : Int) from rfl)) (by omega)) (by decide) q2 ?_)
      intro u3
      (try dsimp only)
      with_reducible show wpAny _ _ _ _ _ _
      k_steps
      refine Hold.un (mul_intv hM (by mul_fits) ?_)
      clear hM
      intro u5
      (try dsimp only)
      with_reducible show wpAny _ _ _ _ _ _
      k_steps
      refine Hold.un (ksa_subv (vs := ws) (ns := [0] ++ tops ps) (n := 0) N24 (.tail _ (.tail _ (.tail _ (.head _)))) hws (by decide) (Int.lt_of_le_of_lt (Int.le_of_eq (show _ = (1 : Int) from rfl)) (by omega)) (by decide) q1 ?_)
      intro u4
      (try dsimp only)
      with_reducible show wpAny _ _ _ _ _ _
      k_steps
      refine Hold.un (mul_intv (v := 2048 * T1) rfl (IntMulOk.of_left (by decide)) ?_)
      intro u6
      (try dsimp only)
      with_reducible show wpAny _ _ _ _ _ _
      k_steps
      · exact absurd hpw (by assumption)
      · exact Hold.un (LCg.CompEnd.intro F24 N24 _ (fun _ h => h) hoff hneed2 ⟨rfl, rfl⟩)
    · replace hx1 : m₂ (Str.ofString "p") = some (.int 2 t1) := hx1
      replace hx2 : m₂ (Str.ofString "many") = some (.int 2 t2) := hx2
      replace hq2 : (8 : Int) < ((1 + ps.length : Nat) : Int) := hq2
      replace hpw : (0 :: tops ps).getD 8 0 = (0 :: tops ps).getD 2 0 * (0 :: tops ps).getD 4 0 - 2048 * (0 :: tops ps).getD 2 0 := of_decide_eq_true hpw
      have b2 := hbig 2
      have q2 : ([0] ++ tops ps : List Int).getD (2 : Int).toNat 0 = (0 :: tops ps).getD 2 0 := rfl
      have b4 := hbig 4
      have q4 : ([0] ++ tops ps : List Int).getD (4 : Int).toNat 0 = (0 :: tops ps).getD 4 0 := rfl
      have b8 := hbig 8
      have q8 : ([0] ++ tops ps : List Int).getD (8 : Int).toNat 0 = (0 :: tops ps).getD 8 0 := rfl
      generalize (0 :: tops ps).getD 2 0 = T2 at *
      generalize (0 :: tops ps).getD 4 0 = T4 at *
      generalize (0 :: tops ps).getD 8 0 = T8 at *
      have hM : ∃ M, M = T2 * T4 := ⟨_, rfl⟩
      obtain ⟨M, hM⟩ := hM
      rw [← hM] at hpw
      with_reducible show wpAny _ _ _ _ _ _
      k_steps
      refine Hold.un (ksa_subv (vs := ws) (ns := [0] ++ tops ps) (n := 0) N24 (.tail _ (.tail _ (.tail _ (.head _)))) hws (by decide) (Int.lt_of_le_of_lt (Int.le_of_eq (show _ = (8 : Int) from rfl)) (by omega)) (by decide) q8 ?_)
      intro u1
      (try dsimp only)
      with_reducible show wpAny _ _ _ _ _ _
      k_steps
      refine Hold.un (ksa_subv (vs := ws) (ns := [0] ++ tops ps) (n := 0) N24 (.tail _ (.tail _ (.tail _ (.head _)))) hws (by decide) (Int.lt_of_le_of_lt (Int.le_of_eq (show _ = (2 : Int) from rfl)) (by omega)) (by decide) q2 ?_)
      intro u2
      (try dsimp only)
      with_reducible show wpAny _ _ _ _ _ _
      k_steps
      refine Hold.un (ksa_subv (vs := ws) (ns := [0] ++ tops ps) (n := 0) N24 (.tail _ (.tail _ (.tail _ (.head _)))) hws (by decide) (Int.lt_of_le_of_lt (Int.le_of_eq (show _ = (4 : Int) from rfl)) (by omega)) (by decide) q4 ?_)
      intro u3
      (try dsimp only)
      with_reducible show wpAny _ _ _ _ _ _
      k_steps
      refine Hold.un (mul_intv hM (by mul_fits) ?_)
      clear hM
      intro u5
      (try dsimp only)
      with_reducible show wpAny _ _ _ _ _ _
      k_steps
      refine Hold.un (ksa_subv (vs := ws) (ns := [0] ++ tops ps) (n := 0) N24 (.tail _ (.tail _ (.tail _ (.head _)))) hws (by decide) (Int.lt_of_le_of_lt (Int.le_of_eq (show _ = (2 : Int) from rfl)) (by omega)) (by decide) q2 ?_)
      intro u4
      (try dsimp only)
      with_reducible show wpAny _ _ _ _ _ _
      k_steps
      refine Hold.un (mul_intv (v := 2048 * T2) rfl (IntMulOk.of_left (by decide)) ?_)
      intro u6
      (try dsimp only)
      with_reducible show wpAny _ _ _ _ _ _
      k_steps
      · exact absurd hpw (by assumption)
      · exact Hold.un (LCg.CompEnd.intro F24 N24 _ (fun _ h => h) hoff hneed2 ⟨rfl, rfl⟩)
    · replace hx1 : m₂ (Str.ofString "p") = some (.int 3 t1) := hx1
      replace hx2 : m₂ (Str.ofString "many") = some (.int 1 t2) := hx2
      replace hq2 : (9 : Int) < ((1 + ps.length : Nat) : Int) := hq2
      replace hpw : (0 :: tops ps).getD 9 0 = (0 :: tops ps).getD 3 0 * (0 :: tops ps).getD 3 0 - 177147 * (0 :: tops ps).getD 1 0 := of_decide_eq_true hpw
      have b1 := hbig 1
      have q1 : ([0] ++ tops ps : List Int).getD (1 : Int).toNat 0 = (0 :: tops ps).getD 1 0 := rfl
      have b3 := hbig 3
      have q3 : ([0] ++ tops ps : List Int).getD (3 : Int).toNat 0 = (0 :: tops ps).getD 3 0 := rfl
      have b9 := hbig 9
      have q9 : ([0] ++ tops ps : List Int).getD (9 : Int).toNat 0 = (0 :: tops ps).getD 9 0 := rfl
      generalize (0 :: tops ps).getD 1 0 = T1 at *
      generalize (0 :: tops ps).getD 3 0 = T3 at *
      generalize (0 :: tops ps).getD 9 0 = T9 at *
      have hM : ∃ M, M = T3 * T3 := ⟨_, rfl⟩
      obtain ⟨M, hM⟩ := hM
      rw [← hM] at hpw
      with_reducible show wpAny _ _ _ _ _ _
      k_steps
      refine Hold.un (ksa_subv (vs := ws) (ns := [0] ++ tops ps) (n := 0) N24 (.tail _ (.tail _ (.tail _ (.head _)))) hws (by decide) (Int.lt_of_le_of_lt (Int.le_of_eq (show _ = (9 : Int) from rfl)) (by omega)) (by decide) q9 ?_)
      intro u1
      (try dsimp only)
      with_reducible show wpAny _ _ _ _ _ _
      k_steps
      refine Hold.un (ksa_subv (vs := ws) (ns := [0] ++ tops ps) (n := 0) N24 (.tail _ (.tail _ (.tail _ (.head _)))) hws (by decide) (Int.lt_of_le_of_lt (Int.le_of_eq (show _ = (3 : Int) from rfl)) (by omega)) (by decide) q3 ?_)
      intro u2
      (try dsimp only)
      with_reducible show wpAny _ _ _ _ _ _
      k_steps
      refine Hold.un (ksa_subv (vs := ws) (ns := [0] ++ tops ps) (n := 0) N24 (.tail _ (.tail _ (.tail _ (.head _)))) hws (by decide) (Int.lt_of_le_of_lt (Int.le_of_eq (show _ = (3 : Int) from rfl)) (by omega)) (by decide) q3 ?_)
      intro u3
      (try dsimp only)
      with_reducible show wpAny _ _ _ _ _ _
      k_steps
      refine Hold.un (mul_intv hM (by mul_fits) ?_)
      clear hM
      intro u5
      (try dsimp only)
      with_reducible show wpAny _ _ _ _ _ _
      k_steps
      refine Hold.un (ksa_subv (vs := ws) (ns := [0] ++ tops ps) (n := 0) N24 (.tail _ (.tail _ (.tail _ (.head _)))) hws (by decide) (Int.lt_of_le_of_lt (Int.le_of_eq (show _ = (1 : Int) from rfl)) (by omega)) (by decide) q1 ?_)
      intro u4
      (try dsimp only)
      with_reducible show wpAny _ _ _ _ _ _
      k_steps
      refine Hold.un (mul_intv (v := 177147 * T1) rfl (IntMulOk.of_left (by decide)) ?_)
      intro u6
      (try dsimp only)
      with_reducible show wpAny _ _ _ _ _ _
      k_steps
      · exact absurd hpw (by assumption)
      · exact Hold.un (LCg.CompEnd.intro F24 N24 _ (fun _ h => h) hoff hneed2 ⟨rfl, rfl⟩)
  rintro zs nw g ⟨rfl, rfl⟩
  unfold LCg.FinE
  intro D6 h9 tk9 F25 N25 ho6
  with_reducible show wpAny _ _ _ _ _ _
  k_steps
  rename Fr _ _ _ _ => F26
  rename News _ _ _ _ => N26
  refine Hold.un (ke_eq_ints (xs := []) (ys := []) (ns := []) (ms := []) ⟨_, (N26 _ (.tail _ (.head _))).1, rfl, _, rfl⟩ ⟨_, (N26 _ (.head _)).1, rfl, _, rfl⟩ .nil .nil hun ?_)
  exact ret _ _ _ F26.keep rfl
end Mine
end
section -- part C18
open PySem PySem.W PyProof.Rows PySem.Calls PySem.Spec PySem.F
set_option maxHeartbeats 2000000
namespace Mine
variable {w : World}
theorem news_old {h₀ h : Heap} {L : Addr} {m : Str → Option Value} {nx : List (Addr × Obj)} (F : Fr h₀ L h m) {h' : Heap} (hx : ∀ q ∈ nx, h.get? q.1 = none ∧ h'.get? q.1 = some q.2) : News h₀ L h' nx := fun q hq => by
  obtain ⟨hn, ho⟩ := hx q hq
  refine ⟨ho, fun e => ?_, ?_⟩
  · obtain ⟨oL, _, _, hL, _⟩ := F.ns
    rw [← e, hn] at hL
    cases hL
  · cases z : h₀.get? q.1 with
    | none => rfl
    | some o => have := F.keep _ _ z; rw [hn] at this; cases this
theorem use_row {f : Addr} {n : Nat} {vs : List Value} {pre : Heap → Prop} {ps : List (Int × Int)} (S : Spec w f n vs pre (NewRow ps)) {A : Around} {s : Shared} {Q E : Value → Shared → Prop} {h₀ : Heap} {L : Addr} {m : Str → Option Value} {news : List (Addr × Obj)}
    (a : Amb A n) (B : Base w h₀) (F : Fr h₀ L s.heap m) (N : News h₀ L s.heap news) (hp : pre s.heap)
    (k : ∀ D us cnt tl h' tk', AllBy (Held1 tl) us ps → Fr h₀ L h' m → News h₀ L h' ((D, listOf us.toArray cnt) :: (tl ++ news)) → (∀ q ∈ news, ∀ p ∈ (D, listOf us.toArray cnt) :: tl, p.1 ≠ q.1) → Q (.ref D) { s with heap := h', toks := tk' }) :
    wpAny (model PySem.Challenge.rw_sa0080_01.row.prog w) A (call (.ref f) vs) Q E s := by
  refine use_spec S a B F N hp ?_
  rintro v h' tk' F' N' kp ⟨D, us, cnt, tl, rfl, hA, hx⟩
  have N1 := news_old F hx
  refine k D us cnt tl h' tk' hA F' (fun q hq => ?_) (fun q hq p hp e => ?_)
  · rcases List.mem_cons.mp hq with rfl | hq
    · exact N1 _ (.head _)
    rcases List.mem_append.mp hq with hq | hq
    · exact N1 _ (.tail _ hq)
    · exact N' q hq
  · have h1 := (N q hq).1
    rw [← e, (hx p hp).1] at h1
    cases h1
theorem use_ints {f : Addr} {n : Nat} {vs : List Value} {pre : Heap → Prop} {ns : List Int} (S : Spec w f n vs pre (NewInts ns)) {A : Around} {s : Shared} {Q E : Value → Shared → Prop} {h₀ : Heap} {L : Addr} {m : Str → Option Value} {news : List (Addr × Obj)}
    (a : Amb A n) (B : Base w h₀) (F : Fr h₀ L s.heap m) (N : News h₀ L s.heap news) (hp : pre s.heap)
    (k : ∀ D us cnt h' tk', IntsAre us ns → Fr h₀ L h' m → News h₀ L h' ((D, listOf us.toArray cnt) :: news) → (∀ q ∈ news, D ≠ q.1) → Q (.ref D) { s with heap := h', toks := tk' }) :
    wpAny (model PySem.Challenge.rw_sa0080_01.row.prog w) A (call (.ref f) vs) Q E s := by
  refine use_spec S a B F N hp ?_
  rintro v h' tk' F' N' kp ⟨D, us, cnt, rfl, hA, hn, ho⟩
  have N1 : News h₀ L h' [(D, listOf us.toArray cnt)] := news_old F (fun q hq => by rw [List.mem_singleton.mp hq]; exact ⟨hn, ho⟩)
  refine k D us cnt h' tk' hA F' (fun q hq => ?_) (fun q hq e => ?_)
  · rcases List.mem_cons.mp hq with rfl | hq
    · exact N1 _ (.head _)
    · exact N' q hq
  · have h1 := (N q hq).1
    rw [← e, hn] at h1
    cases h1
theorem allBy_row {h₀ h : Heap} {L D : Addr} {tl news : List (Addr × Obj)} {us : List Value} {cnt : Nat} {ps : List (Int × Int)} (B : Base w h₀) (k : Keep h₀ h) (N : News h₀ L h news) (hD : (D, listOf us.toArray cnt) ∈ news) (hs : ∀ q ∈ tl, q ∈ news) (hA : AllBy (Held1 tl) us ps) : Row h (.ref D) ps :=
  ⟨D, us, rfl, ⟨_, (N _ hD).1, rfl, _, rfl⟩, hA.is fun a p x => x.isK B k N hs⟩
theorem ints_of {h₀ h : Heap} {L D : Addr} {news : List (Addr × Obj)} {us : List Value} {cnt : Nat} {ns : List Int} (N : News h₀ L h news) (hD : (D, listOf us.toArray cnt) ∈ news) (hA : IntsAre us ns) : Ints h (.ref D) ns :=
  ⟨D, us, rfl, ⟨_, (N _ hD).1, rfl, _, rfl⟩, hA⟩
noncomputable def Drawn (s : Shared) (h₀ : Heap) (L : Addr) (m : Str → Option Value) (l D : Addr) (o : Obj) (rest : List (Addr × Obj)) (k many : Int) (v : Value) (s' : Shared) : Prop :=
  ∃ r t h2 tk2 t2, v = .int r t ∧ 0 ≤ r ∧ r < many ∧ s' = { s with heap := h2, toks := tk2 } ∧ Fr h₀ L h2 m ∧ News h₀ L h2 ((l, listOf [.ref D, .int k t2].toArray 0) :: (D, o) :: rest)
theorem draw_mono {prog : Program} {A : Around} {E Q : Value → Shared → Prop} {s : Shared} {h₀ : Heap} {L l D : Addr} {m : Str → Option Value} {t0 : Tok} {k : Int} {o : Obj} {rest : List (Addr × Obj)} {f : Addr} {many : Int} {tm : Tok} (_F : Fr h₀ L s.heap m) (_N : News h₀ L s.heap ((l, listOf [.ref D, .int k t0].toArray 0) :: (D, o) :: rest))
    (h1 : wpAny (model prog w) A (call (.ref f) [.ref l, .int many tm]) (Drawn s h₀ L m l D o rest (k + 1) many) E s)
    (h2 : ∀ r t h2 tk2 t2, 0 ≤ r → r < many → Fr h₀ L h2 m → News h₀ L h2 ((l, listOf [.ref D, .int (k + 1) t2].toArray 0) :: (D, o) :: rest) → Q (.int r t) { s with heap := h2, toks := tk2 }) :
    wpAny (model prog w) A (call (.ref f) [.ref l, .int many tm]) Q E s := by
  refine wpAny_mono h1 ?_ fun _ _ e => e
  rintro v s' ⟨r, t, g, tk2, t2, rfl, h0, h3, rfl, F, N⟩
  exact h2 r t g tk2 t2 h0 h3 F N
end Mine
end
section -- part C18b
open PySem PySem.W PyProof.Rows PySem.Calls PySem.Spec PySem.F
set_option maxHeartbeats 2000000
namespace Mine
theorem fr2d {h₀ h : Heap} {L : Addr} {x y : Str} {u : Option Value} {m₁ m₀ : Str → Option Value} (F : Fr h₀ L h m₁) (hy : m₁ y = u) (hr : ∀ z, z ≠ y → z ≠ x → m₁ z = m₀ z) :
    Fr h₀ L h (fun z => if z = x then m₁ x else if z = y then u else m₀ z) := by
  refine fr2 (m₁ := m₁) ?_ hy hr
  have e : (fun z => if z = x then m₁ x else m₁ z) = m₁ := by
    funext z
    by_cases h1 : z = x
    · rw [if_pos h1, h1]
    · rw [if_neg h1]
  rw [e]
  exact F
theorem news_top {h₀ h : Heap} {L : Addr} {e : Addr × Obj} {l suf : List (Addr × Obj)} (N : News h₀ L h (e :: l)) (hs : ∀ q ∈ suf, q ∈ l) : News h₀ L h (e :: suf) := fun q hq => by
  rcases List.mem_cons.mp hq with rfl | hq
  · exact N _ (.head _)
  · exact N _ (.tail _ (hs q hq))
noncomputable def startN (c : Nat) : List Int := 1 :: List.replicate (c - 1) 0
noncomputable def factN (c k : Nat) : List Int := 1 :: (List.replicate (k - 1) 0 ++ -1 :: List.replicate (c - k - 1) 0)
theorem fact_eq {c i : Nat} {k : Int} (hk : k = 1 + (i : Int)) : ([1] ++ (List.replicate (k - 1).toNat [0]).flatten ++ [-1] ++ (List.replicate ((c : Int) - k - 1).toNat [0]).flatten : List Int) = factN c (i + 1) := by
  have h1 : (k - 1).toNat = i := by omega
  have h2 : ((c : Int) - k - 1).toNat = c - (i + 1) - 1 := by omega
  rw [h1, h2, List.flatten_replicate_singleton, List.flatten_replicate_singleton]
  unfold factN
  simp
theorem fact_len {c i : Nat} (h : i + 1 < c) : (rowF (factN c (i + 1))).length = c := by
  unfold rowF factN
  simp
  omega
noncomputable def wholeO (c : Nat) : Nat → Option (List (Int × Int))
  | 0 => some (rowF (startN c))
  | i + 1 => (wholeO c i).bind fun x => collect (smulAt x (rowF (factN c (i + 1)))) c
/-- what the product is: Euler's row -/
noncomputable def wholeF (c : Nat) : List (Int × Int) := ((eulO c).map rowF).getD []
noncomputable def good0 (c : Nat) : Bool := (eulO c).isSome && (jacO c).isSome && (parO c).isSome && decide (wholeO c (c - 1) = (eulO c).map rowF) && decide ((wholeF c).length = c) && decide ((wholeF c).getD 0 (0, 1) = (1, 1)) && ((List.range c).all fun i => (wholeO c i).any fun x => decide (x.length = c))
noncomputable def good1 (c : Nat) : Bool := decide (powO (1, 1) (wholeF c) c = some (wholeF c))
noncomputable def good2 (c : Nat) : Bool := decide (powO (3, 1) (wholeF c) c = (jacO c).map rowF) && decide (((jacO c).getD []).length = c)
noncomputable def tauOk (ps : List (Int × Int)) : Bool :=
  (ps.all fun p => decide (p.2 = 1)) && ((List.range ps.length).all fun i => tauAt (0 :: tops ps) i) && ((0 :: tops ps).all fun x => decide (-1000000 ≤ x ∧ x ≤ 1000000)) &&
  (decide (6 < 1 + ps.length → (0 :: tops ps).getD 6 0 = (0 :: tops ps).getD 2 0 * (0 :: tops ps).getD 3 0)) && ((higherTo (1 + ps.length) 3).all fun q => tauPow (0 :: tops ps) q.1 q.2)
noncomputable def good3 (c : Nat) : Bool := (powO (24, 1) (wholeF c) c).any fun ps => tauOk ps && decide (ps.length = c)
noncomputable def good4 (c : Nat) : Bool := decide (invO (wholeF c) c = (parO c).map rowF)
noncomputable def sizes : List Nat := [4, 5, 6, 7, 8, 9]
theorem g0 : sizes.all good0 = true := by decide +kernel
theorem g1 : sizes.all good1 = true := by decide +kernel
theorem g2 : sizes.all good2 = true := by decide +kernel
theorem g3 : sizes.all good3 = true := by decide +kernel
theorem g4 : sizes.all good4 = true := by decide +kernel
noncomputable def good5 (c : Nat) : Bool := match parO c with | some ps => decide (ps.length = c) && (List.range c).all fun i => decide (i % 5 = 4 → (ps.getD i 0).fmod 5 = 0) | none => false
theorem g5 : sizes.all good5 = true := by decide +kernel
theorem in_sizes {c : Nat} (h4 : 4 ≤ c) (h9 : c ≤ 9) : c ∈ sizes := by
  have : c = 4 ∨ c = 5 ∨ c = 6 ∨ c = 7 ∨ c = 8 ∨ c = 9 := by omega
  rcases this with rfl | rfl | rfl | rfl | rfl | rfl <;> decide
theorem good_whole {c : Nat} (h4 : 4 ≤ c) (h9 : c ≤ 9) : ∀ i, i < c → ∃ x, wholeO c i = some x ∧ x.length = c := by
  intro i hi
  have h := List.all_eq_true.mp g0 c (in_sizes h4 h9)
  unfold good0 at h
  simp only [Bool.and_eq_true] at h
  have h1 := List.all_eq_true.mp h.2 i (List.mem_range.mpr hi)
  cases q : wholeO c i with
  | none => rw [q] at h1; cases h1
  | some x => rw [q] at h1; exact ⟨x, rfl, of_decide_eq_true h1⟩
theorem good_euler {c : Nat} (h4 : 4 ≤ c) (h9 : c ≤ 9) : ∃ es, eulO c = some es ∧ wholeF c = rowF es ∧ wholeO c (c - 1) = some (wholeF c) ∧ (wholeF c).length = c ∧ (wholeF c).getD 0 (0, 1) = (1, 1) := by
  have h := List.all_eq_true.mp g0 c (in_sizes h4 h9)
  unfold good0 at h
  simp only [Bool.and_eq_true, decide_eq_true_eq] at h
  obtain ⟨⟨⟨⟨⟨⟨a1, _⟩, _⟩, a2⟩, a3⟩, a4⟩, _⟩ := h
  cases q : eulO c with
  | none => rw [q] at a1; cases a1
  | some es =>
    have e : wholeF c = rowF es := by unfold wholeF; rw [q]; rfl
    exact ⟨es, rfl, e, by rw [a2, q, e]; rfl, a3, a4⟩
theorem good_jac {c : Nat} (h4 : 4 ≤ c) (h9 : c ≤ 9) : ∃ es, jacO c = some es ∧ powO (3, 1) (wholeF c) c = some (rowF es) ∧ es.length = c := by
  have h := List.all_eq_true.mp g2 c (in_sizes h4 h9)
  have h' := List.all_eq_true.mp g0 c (in_sizes h4 h9)
  unfold good0 at h'
  unfold good2 at h
  simp only [Bool.and_eq_true, decide_eq_true_eq] at h h'
  obtain ⟨⟨⟨⟨⟨⟨_, a1⟩, _⟩, _⟩, _⟩, _⟩, _⟩ := h'
  cases q : jacO c with
  | none => rw [q] at a1; cases a1
  | some es => exact ⟨es, rfl, by rw [h.1, q]; rfl, by have := h.2; rw [q] at this; exact this⟩
theorem good_par {c : Nat} (h4 : 4 ≤ c) (h9 : c ≤ 9) : ∃ es, parO c = some es ∧ invO (wholeF c) c = some (rowF es) ∧ es.length = c ∧ ∀ i, i < c → i % 5 = 4 → (es.getD i 0).fmod 5 = 0 := by
  have h := List.all_eq_true.mp g4 c (in_sizes h4 h9)
  have h' := List.all_eq_true.mp g0 c (in_sizes h4 h9)
  have h5 := List.all_eq_true.mp g5 c (in_sizes h4 h9)
  unfold good0 at h'
  unfold good4 at h
  unfold good5 at h5
  simp only [Bool.and_eq_true, decide_eq_true_eq] at h h'
  obtain ⟨⟨⟨⟨⟨⟨_, _⟩, a1⟩, _⟩, _⟩, _⟩, _⟩ := h'
  cases q : parO c with
  | none => rw [q] at a1; cases a1
  | some es =>
    rw [q] at h5
    simp only [Bool.and_eq_true, decide_eq_true_eq] at h5
    obtain ⟨h6, h5⟩ := h5
    refine ⟨es, rfl, by rw [h, q]; rfl, h6, fun i hi hm => of_decide_eq_true (List.all_eq_true.mp h5 i (List.mem_range.mpr hi)) hm⟩
theorem good_one {c : Nat} (h4 : 4 ≤ c) (h9 : c ≤ 9) : powO (1, 1) (wholeF c) c = some (wholeF c) := of_decide_eq_true (List.all_eq_true.mp g1 c (in_sizes h4 h9))
theorem good_tau {c : Nat} (h4 : 4 ≤ c) (h9 : c ≤ 9) : ∃ ps, powO (24, 1) (wholeF c) c = some ps ∧ ps.length = c ∧ tauOk ps = true := by
  have h := List.all_eq_true.mp g3 c (in_sizes h4 h9)
  unfold good3 at h
  cases q : powO (24, 1) (wholeF c) c with
  | none => rw [q] at h; cases h
  | some ps =>
    rw [q] at h
    simp only [Option.any_some, Bool.and_eq_true, decide_eq_true_eq] at h
    exact ⟨ps, rfl, h.2, h.1⟩
theorem tauOk_use {ps : List (Int × Int)} (h : tauOk ps = true) : (∀ i, i < ps.length → (ps.getD i (0, 1)).2 = 1) ∧ (∀ i, i < ps.length → tauAt (0 :: tops ps) i = true) ∧ (∀ i : Nat, -1000000 ≤ (0 :: tops ps).getD i 0 ∧ (0 :: tops ps).getD i 0 ≤ 1000000) ∧
    (6 < 1 + ps.length → (0 :: tops ps).getD 6 0 = (0 :: tops ps).getD 2 0 * (0 :: tops ps).getD 3 0) ∧ (∀ p many, (p, many) ∈ higherTo (1 + ps.length) 3 → tauPow (0 :: tops ps) p many = true) := by
  unfold tauOk at h
  simp only [Bool.and_eq_true] at h
  obtain ⟨⟨⟨⟨a1, a2⟩, a3⟩, a4⟩, a5⟩ := h
  refine ⟨fun i hi => of_decide_eq_true (List.all_eq_true.mp a1 _ (getD_mem hi)), fun i hi => List.all_eq_true.mp a2 i (List.mem_range.mpr hi), fun i => ?_, of_decide_eq_true a4, fun p many hq => List.all_eq_true.mp a5 (p, many) hq⟩
  by_cases hi : i < (0 :: tops ps).length
  · exact of_decide_eq_true (List.all_eq_true.mp a3 _ (getD_mem hi))
  · rw [List.getD_eq_getElem?_getD, List.getElem?_eq_none (Nat.not_lt.mp hi)]
    decide
theorem slice5_key : ∀ n ∈ sizes, sliceRange (sliceBounds (some 4) none (some 5) n).1 (sliceBounds (some 4) none (some 5) n).2.1 (sliceBounds (some 4) none (some 5) n).2.2 = if 4 < n then [4] else [] := by decide +kernel
theorem slice5 (up : List Value) (h4 : 4 ≤ up.length) (h9 : up.length ≤ 9) : (slicePick up.toArray (some 4) none (some 5)).toList = (up[4]?).toList := by
  unfold slicePick
  have e : up.toArray.size = up.length := List.size_toArray ..
  rw [e, slice5_key up.length (in_sizes h4 h9)]
  by_cases h : 4 < up.length
  · rw [if_pos h, List.getElem?_eq_getElem h]
    simp [List.getElem?_eq_getElem h]
  · rw [if_neg h, List.getElem?_eq_none (by omega)]
    rfl
theorem slice5_by {R : Addr → Int × Int → Prop} {up : List Value} {qs : List Int} (hA : AllBy R up (rowF qs)) (h4 : 4 ≤ qs.length) (h9 : qs.length ≤ 9) (hq : ∀ i, i < qs.length → i % 5 = 4 → (qs.getD i 0).fmod 5 = 0) :
    ∃ ps, AllBy R (slicePick up.toArray (some 4) none (some 5)).toList ps ∧ ps.length ≤ 1 ∧ ∀ i, i < ps.length → (ps.getD i (0, 1)).1.fmod 5 = 0 := by
  have hl : up.length = qs.length := by rw [hA.length]; simp [rowF]
  rw [slice5 up (by omega) (by omega)]
  by_cases h : 4 < qs.length
  · obtain ⟨a, ha, hR⟩ := hA.get 4 (0, 1) (by simpa [rowF] using h)
    rw [ha]
    have e : (rowF qs).getD 4 (0, 1) = (qs.getD 4 0, 1) := by
      unfold rowF
      rw [List.getD_eq_getElem?_getD, List.getElem?_map, List.getElem?_eq_getElem h, List.getD_eq_getElem?_getD, List.getElem?_eq_getElem h]
      rfl
    rw [e] at hR
    refine ⟨[(qs.getD 4 0, 1)], .cons hR .nil, Nat.le_refl _, fun i hi => ?_⟩
    obtain rfl : i = 0 := by simpa using hi
    exact hq 4 h rfl
  · rw [List.getElem?_eq_none (by omega)]
    exact ⟨[], .nil, Nat.zero_le _, fun i hi => absurd hi (Nat.not_lt_zero _)⟩
end Mine
end
section -- part C19
open PySem PySem.W PyProof.Rows PySem.Calls PySem.Spec PySem.F
set_option maxHeartbeats 100000000
namespace Mine
local macro_rules | `(tactic| walk_at "exec For Name Call cons nil") => `(tactic| ((rename Fr _ _ _ _ => lF'); (with_unfolding_all refine' For_invVF lF' ?k1 ?k2 ?_; (case k1 => exact rfl); (case k2 => exact rfl); k_whole)))
local macro_rules | `(tactic| walk_at "pyIter ref") => `(tactic| (refine hold_wp ?_))
local macro_rules | `(tactic| walk_at "compareOp NotEq ref ref") => `(tactic| (refine hold_wp ?_))
local macro_rules | `(tactic| walk_at "compareOp Eq ref ref") => `(tactic| (refine hold_wp ?_))
local macro_rules | `(tactic| walk_at "ite") => `(tactic| first | with_reducible refine ite_tt ?_ | with_reducible refine ite_ff ?_)
local macro_rules | `(tactic| walk_at "call ref") => `(tactic| (refine hold_wp ?_))
theorem law1 : PySem.Challenge.rw_sa0080_01.Holds := by
  refine Mine.hd ?_
  k_go0
  all_goals (try k_fold)
  with_reducible show wpAny _ _ _ _ _ _
  k_steps
  rename Fr _ _ _ _ => F1
  rename News _ _ _ _ => N1
  refine Hold.un (draw_mono F1 N1 ?_ ?_)
  · refine wpAny_call ?_
    k_enter
    k_steps
    all_goals exact ⟨_, _, _, _, _, rfl, Int.fmod_nonneg_of_pos _ (by decide), Int.fmod_lt_of_pos _ (by decide), rfl, by assumption, by assumption⟩
  intro r1 t1 h2 tk2 t2 hr1 hr2 F2 N2
  dsimp only
  with_reducible show wpAny _ _ _ _ _ _
  k_steps
  refine Hold.un (draw_mono F2 N2 ?_ ?_)
  · refine wpAny_call ?_
    k_enter
    k_steps
    all_goals exact ⟨_, _, _, _, _, rfl, Int.fmod_nonneg_of_pos _ (by decide), Int.fmod_lt_of_pos _ (by decide), rfl, by assumption, by assumption⟩
  intro r2 t3 h3 tk3 t4 hr3 hr4 F3 N3
  clear F1 N1 F2 N2
  dsimp only
  obtain ⟨c, hc⟩ : ∃ c : Nat, (4 : Int) + r2 = (c : Int) := ⟨(4 + r2).toNat, by omega⟩
  have hc4 : 4 ≤ c := by omega
  have hc9 : c ≤ 9 := by omega
  have Au : ∀ env : PySem.Env, (callerA.deeper env).units + 64 < cLine := fun env => by rw [units_deeper]; decide +kernel
  have Am : ∀ env : PySem.Env, Amb (callerA.deeper env) 20 := fun env => ⟨rfl, by rw [depth_deeper]; decide +kernel, by rw [units_deeper]; decide +kernel⟩
  with_reducible show wpAny _ _ _ _ _ _
  k_steps
  rw [hc] at *
  rename IntsAre _ _ => hI2
  have e1 : ([1] ++ (List.replicate ((c : Int) - 1).toNat [0]).flatten : List Int) = startN c := by
    unfold startN
    rw [List.flatten_replicate_singleton, List.singleton_append]
    congr 2
    omega
  rw [e1] at hI2
  rename Fr _ _ _ _ => F4
  rename News _ _ _ _ => N4
  have Ba : Base _ _ := ⟨by assumption, ⟨_, _, _, _, by assumption⟩⟩
  refine Hold.un (use_row (row_spec 18 _ (startN c) (by simp [startN]; omega)) ((Am _).less (by decide)) Ba F4 N4 (ints_of N4 (.head _) hI2) ?_)
  intro Dw us cnt tl h5 tk5 hA F5 N5 ho5
  have N6 := News.sub N5 (a := (Dw, listOf us.toArray cnt) :: tl) fun q hq => by
    rcases List.mem_cons.mp hq with h | h
    · exact h ▸ .head _
    · exact .tail _ (List.mem_append_left _ h)
  clear N5 ho5 F4 N4
  dsimp only
  with_reducible show wpAny _ _ _ _ _ _
  k_steps
  rename IsRange _ _ _ _ _ _ _ _ => hR
  rename Fr _ _ _ _ => F6
  rename News _ _ _ _ => N7
  have hS := good_whole hc4 hc9
  refine Hold.un (for_rangeM (c - 1) ((Dw, listOf us.toArray cnt) :: tl) (fun M0 i m nx => ∃ Dw us cnt tl out, m (Str.ofString "whole") = some (.ref Dw) ∧ (∀ z, z ≠ Str.ofString "whole" → z ≠ Str.ofString "k" → m z = M0 z) ∧ nx = (Dw, listOf us.toArray cnt) :: tl ∧ wholeO c i = some out ∧ AllBy (Held1 tl) us out)
    rfl hR (small_one (by omega) (by omega) (by omega) (by omega)) (rsize (by omega)) F6 N7 (fun _ h => h) ⟨Dw, us, cnt, tl, _, rfl, (fun _ _ _ => rfl), rfl, rfl, hA⟩ ?_ ?_)
  · clear hA N7 F6 hR
    rintro i k t m₁ nx h6 tk6 own hi hk hoff ⟨Dw, us, cnt, tl, out, ew, er, rfl, hout, hA⟩ F7 N8
    have F8 := fr2 F7 ew er
    rw [List.cons_append] at N8
    clear F7 ew er
    have hk1 : 1 ≤ k := by omega
    have hk2 : k < (c : Int) := by omega
    with_reducible show wpAny _ _ _ _ _ _
    k_steps
    rename IntsAre _ _ => hI3
    rw [fact_eq hk] at hI3
    rename Fr _ _ _ _ => F9
    rename News _ _ _ _ => N9
    have N10 := news_top (suf := (Dw, listOf us.toArray cnt) :: (tl ++ own)) N9 (fun q hq => by repeat (first | exact hq | refine List.mem_cons_of_mem _ ?_))
    clear N9
    obtain ⟨o2, h, hl⟩ := hS i (by omega)
    obtain rfl : out = o2 := by rw [hout] at h; exact Option.some.inj h
    obtain ⟨out', ho', hl'⟩ := hS (i + 1) (by omega)
    have hst : collect (smulAt out (rowF (factN c (i + 1)))) c = some out' := by rw [wholeO, hout] at ho'; exact ho'
    have hfl := fact_len (c := c) (i := i) (by omega)
    refine Hold.un (use_row (row_spec 18 _ (factN c (i + 1)) (by simpa [rowF] using (show (rowF (factN c (i + 1))).length < 1000 by omega))) ((Am _).less (by decide)) Ba F9 N10 (ints_of N10 (.head _) hI3) ?_)
    intro Dr ur cr tr h8 tk8 hR1 F10 N11 _
    have N12 := news_top (suf := tr ++ ((Dw, listOf us.toArray cnt) :: (tl ++ own))) N11 (fun q hq => by
      rcases List.mem_append.mp hq with hq | hq
      · exact List.mem_append_left _ hq
      · exact List.mem_append_right _ (.tail _ hq))
    clear N11 N10
    dsimp only
    with_reducible show wpAny _ _ _ _ _ _
    k_steps
    rename Fr _ _ _ _ => F11
    rename News _ _ _ _ => N13
    refine Hold.un (use_row (smul_spec 14 Dw Dr out (rowF (factN c (i + 1))) c hl hfl (by omega) out' hst) ((Am _).less (by decide)) Ba F11 N13 ⟨allBy_row Ba F11.keep N13 (.tail _ (List.mem_append_right _ (.head _))) (fun q hq => .tail _ (List.mem_append_right _ (.tail _ (List.mem_append_left _ hq)))) hA, allBy_row Ba F11.keep N13 (.head _) (fun q hq => .tail _ (List.mem_append_left _ hq)) hR1⟩ ?_)
    intro Dn un cn tn h9 tk9 hA2 F12 N14 hoff2
    dsimp only
    with_reducible show wpAny _ _ _ _ _ _
    k_steps
    rename Fr _ _ _ _ => F13
    rename News _ _ _ _ => N15
    refine InvEndG.intro (nx := (Dn, listOf un.toArray cn) :: tn) F13 N15 ⟨Dn, un, cn, tn, out', rfl, (by intro z h1 h2; simp only [h1, h2, if_false]), rfl, ho', hA2⟩ ?_ ?_ ?_
    · intro p hp x hx
      obtain ⟨q, hq, rfl⟩ := List.mem_map.mp hx
      exact fun e => hoff2 p (.tail _ (List.mem_append_right _ (.tail _ (List.mem_append_right _ hp)))) q hq e.symm
    · intro q hq
      rcases List.mem_cons.mp hq with h | h
      · exact h ▸ .head _
      · exact .tail _ (List.mem_append_left _ h)
    · intro q hq
      exact .tail _ (List.mem_append_right _ (.tail _ (List.mem_append_right _ (.tail _ (List.mem_append_right _ hq)))))
  rintro m₁ nx h6 tk6 ⟨Dx, us, cnt, tl, out, ew, er, rfl, hout, hA⟩ F7 N8
  have F8 := fr2d F7 ew er
  with_reducible show wpAny _ _ _ _ _ _
  k_steps
  obtain ⟨es, hes, ewf, hlast, hlen, hhead⟩ := good_euler hc4 hc9
  obtain rfl : out = wholeF c := by rw [hout] at hlast; exact Option.some.inj hlast
  have eel : es.length = c := by rw [ewf] at hlen; simpa [rowF] using hlen
  rename Fr _ _ _ _ => F9
  rename News _ _ _ _ => N9
  refine Hold.un (use_ints (euler_spec 18 c _ (by omega) (by omega) es hes) ((Am _).less (by decide)) Ba F9 N9 trivial ?_)
  intro De ues ce h7 tk7 hE F10 N10 _
  dsimp only
  with_reducible show wpAny _ _ _ _ _ _
  k_steps
  rename Fr _ _ _ _ => F11
  rename News _ _ _ _ => N11
  refine Hold.un (use_row (row_spec 18 De es (by omega)) ((Am _).less (by decide)) Ba F11 N11 (ints_of N11 (.head _) hE) ?_)
  intro Dr ur cr tr h8 tk8 hR1 F12 N12 _
  dsimp only
  with_reducible show wpAny _ _ _ _ _ _
  k_steps
  rename Fr _ _ _ _ => F13
  rename News _ _ _ _ => N13
  refine Hold.un (ne_row (allBy_row Ba F13.keep N13 (.tail _ (List.mem_append_right _ (.tail _ (.head _)))) (fun q hq => .tail _ (List.mem_append_right _ (.tail _ (.tail _ hq)))) hA) (allBy_row Ba F13.keep N13 (.head _) (fun q hq => .tail _ (List.mem_append_left _ hq)) hR1) (Au _) ?_)
  rw [show (!decide (wholeF c = rowF es)) = false by rw [ewf]; simp]
  have N14 := News.sub N13 (a := (Dx, listOf us.toArray cnt) :: tl) fun q hq => .tail _ (List.mem_append_right _ (.tail _ hq))
  clear N13
  with_reducible show wpAny _ _ _ _ _ _
  k_steps
  · have hsm : Sm ((wholeF c).getD 0 (0, 1)) := by rw [hhead]; exact ⟨by decide, by decide⟩
    have hhe : ((wholeF c).getD 0 (0, 1)).1 - ((wholeF c).getD 0 (0, 1)).2 = 0 := by rw [hhead]; rfl
    rename Fr _ _ _ _ => F14
    rename News _ _ _ _ => N15
    refine Hold.un (use_row (spower_spec 16 Dx _ (wholeF c) (1, 1) (by omega) (by omega) hsm hhe (wholeF c) (by rw [hlen]; exact good_one hc4 hc9)) ((Am _).less (by decide)) Ba F14 N15 ⟨allBy_row Ba F14.keep N15 (.tail _ (.head _)) (fun q hq => .tail _ (.tail _ hq)) hA, ⟨_, _, rfl, (N15 _ (.head _)).1, pairO_of rfl rfl⟩⟩ ?_)
    intro Dp up cp tp h9 tk9 hP F15 N16 _
    dsimp only
    with_reducible show wpAny _ _ _ _ _ _
    k_steps
    rename Fr _ _ _ _ => F16
    rename News _ _ _ _ => N17
    refine Hold.un (eq_row (allBy_row Ba F16.keep N17 (.head _) (fun q hq => .tail _ (List.mem_append_left _ hq)) hP) (allBy_row Ba F16.keep N17 (.tail _ (List.mem_append_right _ (.tail _ (.head _)))) (fun q hq => .tail _ (List.mem_append_right _ (.tail _ (.tail _ hq)))) hA) (Au _) ?_)
    rw [show decide (wholeF c = wholeF c) = true by simp]
    k_steps
  · have hsm : Sm ((wholeF c).getD 0 (0, 1)) := by rw [hhead]; exact ⟨by decide, by decide⟩
    have hhe : ((wholeF c).getD 0 (0, 1)).1 - ((wholeF c).getD 0 (0, 1)).2 = 0 := by rw [hhead]; rfl
    obtain ⟨js, hj1, hj2, jel⟩ := good_jac hc4 hc9
    rename Fr _ _ _ _ => F14
    rename News _ _ _ _ => N15
    refine Hold.un (use_row (spower_spec 16 Dx _ (wholeF c) (3, 1) (by omega) (by omega) hsm hhe (rowF js) (by rw [hlen]; exact hj2)) ((Am _).less (by decide)) Ba F14 N15 ⟨allBy_row Ba F14.keep N15 (.tail _ (.head _)) (fun q hq => .tail _ (.tail _ hq)) hA, ⟨_, _, rfl, (N15 _ (.head _)).1, pairO_of rfl rfl⟩⟩ ?_)
    intro Dp up cp tp h9 tk9 hP F15 N16 _
    dsimp only
    with_reducible show wpAny _ _ _ _ _ _
    k_steps
    rename Fr _ _ _ _ => F16
    rename News _ _ _ _ => N17
    refine Hold.un (use_ints (jacobi_spec 18 c _ (by omega) (by omega) js hj1) ((Am _).less (by decide)) Ba F16 N17 trivial ?_)
    intro Dj uj cj h10 tk10 hJ F17 N18 _
    dsimp only
    with_reducible show wpAny _ _ _ _ _ _
    k_steps
    rename Fr _ _ _ _ => F18
    rename News _ _ _ _ => N19
    refine Hold.un (use_row (row_spec 18 Dj js (by omega)) ((Am _).less (by decide)) Ba F18 N19 (ints_of N19 (.head _) hJ) ?_)
    intro Dk uk ck tk h11 tk11 hK F19 N20 _
    dsimp only
    with_reducible show wpAny _ _ _ _ _ _
    k_steps
    rename Fr _ _ _ _ => F20
    rename News _ _ _ _ => N21
    refine Hold.un (eq_row (allBy_row Ba F20.keep N21 (.tail _ (List.mem_append_right _ (.tail _ (.head _)))) (fun q hq => .tail _ (List.mem_append_right _ (.tail _ (.tail _ (List.mem_append_left _ hq))))) hP) (allBy_row Ba F20.keep N21 (.head _) (fun q hq => .tail _ (List.mem_append_left _ hq)) hK) (Au _) ?_)
    rw [show decide (rowF js = rowF js) = true by simp]
    k_steps
  · have hsm : Sm ((wholeF c).getD 0 (0, 1)) := by rw [hhead]; exact ⟨by decide, by decide⟩
    have hhe : ((wholeF c).getD 0 (0, 1)).1 - ((wholeF c).getD 0 (0, 1)).2 = 0 := by rw [hhead]; rfl
    obtain ⟨ts, ht1, ht2, ht3⟩ := good_tau hc4 hc9
    obtain ⟨u1, u2, u3, u4, u5⟩ := tauOk_use ht3
    rename Fr _ _ _ _ => F14
    rename News _ _ _ _ => N15
    refine Hold.un (use_row (spower_spec 16 Dx _ (wholeF c) (24, 1) (by omega) (by omega) hsm hhe ts (by rw [hlen]; exact ht1)) ((Am _).less (by decide)) Ba F14 N15 ⟨allBy_row Ba F14.keep N15 (.tail _ (.head _)) (fun q hq => .tail _ (.tail _ hq)) hA, ⟨_, _, rfl, (N15 _ (.head _)).1, pairO_of rfl rfl⟩⟩ ?_)
    intro Dp up cp tp h9 tk9 hP F15 N16 _
    dsimp only
    with_reducible show wpAny _ _ _ _ _ _
    k_steps
    rename Fr _ _ _ _ => F16
    rename News _ _ _ _ => N17
    refine Hold.un (use_spec (tau_spec 18 Dp ts (by omega) u1 u2 u3 u4 u5) ((Am _).less (by decide)) Ba F16 N17 (allBy_row Ba F16.keep N17 (.head _) (fun q hq => .tail _ (List.mem_append_left _ hq)) hP) ?_)
    rintro v h10 tk10 F17 N18 _ rfl
    dsimp only
    k_steps
  · obtain ⟨qs, hp1, hp2, hp3, hp4⟩ := good_par hc4 hc9
    rename Fr _ _ _ _ => F14
    rename News _ _ _ _ => N15
    refine Hold.un (use_row (sinverse_spec 16 Dx (wholeF c) (by omega) (by omega) (by rw [hhead]; decide) (rowF qs) (by rw [hlen]; exact hp2)) ((Am _).less (by decide)) Ba F14 N15 (allBy_row Ba F14.keep N15 (.head _) (fun q hq => .tail _ hq) hA) ?_)
    intro Dp up cp tp h9 tk9 hP F15 N16 _
    dsimp only
    with_reducible show wpAny _ _ _ _ _ _
    k_steps
    rename Fr _ _ _ _ => F16
    rename News _ _ _ _ => N17
    refine Hold.un (use_ints (partitions_spec 18 c _ (by omega) (by omega) qs hp1) ((Am _).less (by decide)) Ba F16 N17 trivial ?_)
    intro Dj uj cj h10 tk10 hJ F17 N18 _
    dsimp only
    with_reducible show wpAny _ _ _ _ _ _
    k_steps
    rename Fr _ _ _ _ => F18
    rename News _ _ _ _ => N19
    refine Hold.un (use_row (row_spec 18 Dj qs (by omega)) ((Am _).less (by decide)) Ba F18 N19 (ints_of N19 (.head _) hJ) ?_)
    intro Dk uk ck tk h11 tk11 hK F19 N20 _
    dsimp only
    with_reducible show wpAny _ _ _ _ _ _
    k_steps
    rename Fr _ _ _ _ => F20
    rename News _ _ _ _ => N21
    refine Hold.un (eq_row (allBy_row Ba F20.keep N21 (.tail _ (List.mem_append_right _ (.tail _ (.head _)))) (fun q hq => .tail _ (List.mem_append_right _ (.tail _ (.tail _ (List.mem_append_left _ hq))))) hP) (allBy_row Ba F20.keep N21 (.head _) (fun q hq => .tail _ (List.mem_append_left _ hq)) hK) (Au _) ?_)
    rw [show decide (rowF qs = rowF qs) = true by simp]
    with_reducible show wpAny _ _ _ _ _ _
    walk1
    walk1
    walk1
    walk1
    with_reducible refine pairs_T (cl := []) F20 ?e5 ?e6 ?e7 ?e8 ?e9 ?e10 ?e11 ?_ ?e12
    case e5 => with_unfolding_all exact rfl
    case e6 => decide
    case e7 => exact rfl
    case e8 => decide
    case e9 => exact rfl
    case e10 => exact rfl
    case e11 => decide
    case e12 => exact fun _ => rfl
    repeat (fail_if_success (with_reducible show wpAny _ _ (subscriptTail _ _ _ _) _ _ _)); (first | walk1 | (dsimp only; walk1))
    obtain ⟨ps, hS, hsl, hsq⟩ := slice5_by hP (by omega) (by omega) (fun i hi => hp4 i (by omega))
    refine' kmk_slice3_lit F20 N21 ?l (IsPart.int _ _) IsPart.none (IsPart.int _ _) (by decide) (rfl : (slicePick up.toArray (some 4) none (some 5)).toList = _) ?_ ?s ?t ?z
    case l => exact ⟨_, (N21 _ (.tail _ (List.mem_append_right _ (.tail _ (.head _))))).1, rfl, _, rfl⟩
    case s => with_unfolding_all rfl
    case t => intro _; with_unfolding_all rfl
    case z => rw [sizeLine_eq, List.size_toArray, hP.length]; simp [rowF]; omega
    intro D5 h12 F22 N23 _
    have N24 := news_top (suf := tp) N23 (fun q hq => .tail _ (List.mem_append_right _ (.tail _ (.tail _ (List.mem_append_left _ hq)))))
    refine ⟨D5, (slicePick up.toArray (some 4) none (some 5)).toList, ps, (D5, listOf (slicePick up.toArray (some 4) none (some 5)).toList.toArray 0) :: tp, (D5, listOf (slicePick up.toArray (some 4) none (some 5)).toList.toArray 0) :: tp, (fun i ys nw => ys = [] ∧ nw = (D5, listOf (slicePick up.toArray (some 4) none (some 5)).toList.toArray 0) :: tp), rfl, rfl, F22, N24, (by rw [sizeLine_eq, hS.length]; omega), (fun g nw k N hs => ⟨⟨_, (N _ (hs _ (.head _))).1, rfl, _, rfl⟩, hS.is fun a p x => x.isK Ba k N fun q hq => hs q (.tail _ hq)⟩), (fun _ h => h), ⟨rfl, rfl⟩, ?_, ?_⟩
    · rintro i ys nw hi ⟨rfl, rfl⟩ hneed t5 t6 I oI C oC D m₂ h13 tk13 E' hns hx1 hx2 F23 N25 hoff hne
      have hq5 := hsq i hi
      generalize (ps.getD i (0, 1)).1 = x at hx1 hq5
      with_reducible show wpAny _ _ _ _ _ _
      k_steps
      · exact absurd hq5 (by assumption)
      · exact LCg.CompEnd.intro F23 N25 _ (fun _ h => h) hoff hneed ⟨rfl, rfl⟩
    rintro ys nw g ⟨rfl, rfl⟩
    unfold LCg.FinE
    intro D6 h14 tk14 F24 N26 _
    dsimp only
    with_reducible show wpAny _ _ _ _ _ _
    k_steps
    rename Fr _ _ _ _ => F25
    rename News _ _ _ _ => N27
    refine Hold.un (ke_eq_ints (xs := []) (ys := []) (ns := []) (ms := []) ⟨_, (N27 _ (.tail _ (.head _))).1, rfl, _, rfl⟩ ⟨_, (N27 _ (.head _)).1, rfl, _, rfl⟩ .nil .nil (Au _) ?_)
    rw [show decide (([] : List Int) = []) = true from rfl]
    k_steps
end Mine
end
theorem PySem.Challenge.cw_sa0080_01_holds : PySem.Challenge.rw_sa0080_01.Holds := by
  exact Mine.law1
