import PyProof.Rows.All
import Wide.All
import OpenK.AllK
import Wide.FinOn
import PySem.Challenge.RW_sa0100_01
open PySem PySem.W PyProof.Rows
set_option Elab.async false
set_option maxRecDepth 100000
namespace Mine
set_option maxRecDepth 100000 in
set_option maxHeartbeats 8000000 in
open_top hd for PySem.Challenge.rw_sa0100_01
end Mine
open PySem.Spec PySem.Calls
namespace Mine
local macro_rules | `(tactic| walk_at $s:str) => `(tactic| k_extra $s)
abbrev Ext (h h' : Heap) : Prop := ∀ b o, h.get? b = some o → h'.get? b = some o

section
variable {prog : Program} {w : World} {A A₀ : Around} {s : Shared} {K : Frag} {L : Addr} {h₀ base : Heap} {m mg mb : Str → Option Value} {p : Program} {loose : List Str} {mean : ExcName → Option Value}
theorem code_pure {env : Env} {outer : List Env} {R : Result → Shared → Prop} {name qual : Str} {params : Arguments} {body : List Stmt} {scope : Scope} {dV kV doc pm cdv ct oc : Value} {an od : Option Addr} {osl : Array (Option Value)} {f : Addr} {args : Args} {binds : List (Str × Value)}
    (B : Below A₀ base outer h₀) (F : Fr h₀ L s.heap m) (X₀ : K.In h₀) (T : Top p loose mean mg mb h₀) (hA : A.frames = some (env :: outer)) (hf : env.frame = some L) (hke : env.scope.kind = .function)
    (ho : K.lookup f = some ⟨oc, od, .func (fnOf name qual params body scope dV kV doc pm an cdv ct), osl⟩) (hcd : codeIn K cdv qual = true) (hroom : A.depth < recursionLimit)
    (hbind : BindsTo s (fnOf name qual params body scope dV kV doc pm an cdv ct) args binds) (hloc : ∀ y ∈ binds, scope.names.lookup y.1 = some .local)
    (h : ∀ (QQ : Flow → Shared → Prop), (∀ v s', R (.ok (.ret v)) s' → QQ (.ret v) s') → (∀ s', R (.ok (.ret .none)) s' → QQ .next s') → ∀ L' h₁, Fr s.heap L' h₁ (fun y => binds.reverse.lookup y) → News s.heap L' h₁ [] → Below A base (env :: outer) s.heap → K.In s.heap → Top p loose mean mg mb s.heap →
      wpAny (model prog w) (A.deeper (envOf qual scope L' f cdv)) (execs body (envOf qual scope L' f cdv)) QQ (fun _ _ => False)
        { s with heap := h₁, toks := s.toks + binds.length })
    (hco : scope.isCoroutine = false) (hgen : scope.isGenerator = false) (hk : scope.kind = .function)
    (hcell : ∀ x ∈ scope.names, x.2 ≠ .cell) : codeAny (model prog w) A (.call (.ref f) args) R s := by
  have B₁ := pushX B F hf hke
  refine codeAny_call_def (fd := fnOf name qual params body scope dV kV doc pm an cdv ct) (body := body) (binds := binds) hroom ((X₀.keeps F.keep) _ _ ho) rfl (T.nolimit.keeps F.keep) (codeRec_of (X₀.keeps F.keep) hcd) rfl hbind hcell hloc (fun h₁ hns hk₁ => ?_) hco hgen hk
  exact wpAny_noRaise <| h _ (fun _ _ q => q) (fun _ q => q) _ h₁ ⟨hns, hk₁, Nat.le_refl _⟩ News.nil ⟨hA, fun b o e => F.keep b o (B.stays b o e), B₁.frames⟩ (X₀.keeps F.keep) (T.keeps F.keep)
end

theorem un_lt {un a b : Nat} (h : un + 8 * a < cLine) (hab : 3 + 8 * b ≤ 8 * a) : un + 3 + 8 * b < cLine := by omega
theorem dp_lt {dp a b : Nat} (h : dp + a < recursionLimit) (hab : 1 + b ≤ a) : dp + 1 + b < recursionLimit := by omega
theorem dp_in {dp a : Nat} (h : dp + a < recursionLimit) : dp < recursionLimit := by omega
noncomputable def Halt (P : Prop) : Prop := P
theorem halt {P : Prop} (h : Halt P) : P := h
noncomputable def Tells (w : World) (f : Addr) (N : Nat) (vs : List Value) (Pre : Heap → Prop) (Post : Heap → Heap → Value → Prop) : Prop :=
  ∀ (prog p : Program) (loose : List Str) (mean : ExcName → Option Value) (mg mb : Str → Option Value) (dp un : Nat) (gd : Option (List Code)) (cn : Str) (cs : Scope) (a : Addr) (ccd : Value) (cl : List (Str × Addr)) (outer : List Env) (A₀ : Around) (base h₀ : Heap) (L : Addr) (m : Str → Option Value) (s : Shared) (Q E : Value → Shared → Prop),
    Below A₀ base outer h₀ → Fr h₀ L s.heap m → (Mine.hd.heap_39 w.params).In h₀ → Top p loose mean mg mb h₀ → cs.kind = .function → dp + N < recursionLimit → un + 8 * N < cLine → Pre s.heap →
    (∀ r h' tk', Ext s.heap h' → Post s.heap h' r → Q r { s with heap := h', toks := tk' }) →
    wpAny (model prog w) (ktrTop dp un gd cn cs L a ccd cl outer) (call (.ref f) vs) Q E s

theorem gcd_turn {x y : Int} (hx : 0 ≤ x) (hy : 0 ≤ y) (h : y ≠ 0) : 0 ≤ y ∧ 0 ≤ Int.fmod x y ∧ Int.gcd y (Int.fmod x y) = Int.gcd x y ∧ (Int.fmod x y).toNat < y.toNat := by
  have e : Int.fmod x y = x % y := Int.fmod_eq_emod_of_nonneg x hy
  rw [e]
  have h1 := Int.emod_nonneg x h
  have h2 := Int.emod_lt_of_pos x (show 0 < y by omega)
  refine ⟨hy, h1, ?_, by omega⟩
  obtain ⟨x, rfl⟩ := Int.eq_ofNat_of_zero_le hx
  obtain ⟨y, rfl⟩ := Int.eq_ofNat_of_zero_le hy
  show Nat.gcd y (x % y) = Nat.gcd x y
  rw [Nat.gcd_comm y, ← Nat.gcd_rec, Nat.gcd_comm]
theorem gcd_abs (a b : Int) : Int.gcd (if a < 0 then -a else a) (if b < 0 then -b else b) = Int.gcd a b := by
  split <;> split <;> simp
theorem fr_names {h₀ h : Heap} {L : Addr} {m : Str → Option Value} (F : Fr h₀ L h m) (ps : List (Str × Value)) (e : ∀ p ∈ ps, m p.1 = some p.2) : Fr h₀ L h (kstB m ps) := by
  have : kstB m ps = m := funext fun z => kstB_eq e fun _ => rfl
  rw [this]; exact F
theorem all1 {α : Type} {P : α → Prop} {a : α} (h : P a) : ∀ x ∈ [a], P x := fun x hx => List.mem_singleton.mp hx ▸ h
theorem allc {α : Type} {P : α → Prop} {a : α} {l : List α} (h : P a) (r : ∀ x ∈ l, P x) : ∀ x ∈ a :: l, P x := List.forall_mem_cons.mpr ⟨h, r⟩
set_option maxHeartbeats 4000000 in
theorem gcd_tells (w : World) (a b : Int) (ta tb : Tok) : Tells w 41 2 [.int a ta, .int b tb] (fun _ => True) (fun _ _ r => ∃ t, r = .int (Int.gcd a b) t) := by
  unfold Tells
  intro prog p loose mean mg mb dp un gd cn cs a' ccd cl outer A₀ base h₀ L m s Q E B F X T hk hd hu hpre hret
  have F0 := F
  have N : News h₀ L s.heap [] := News.nil
  refine wpAny_call ?_
  refine' code_pure (binds := [(Str.ofString "a", .int a ta), (Str.ofString "b", .int b tb)]) ?k1 ?k2 ?k3 ?k5 ?kA ?kF ?kK ?k6 ?k7 ?k8 ?k9 ?kB ?_ ?c2 ?c3 ?c4 ?c5; (case kA => exact rfl); (case kF => exact rfl); (case kK => assumption); (case k1 => k_asm); (case k2 => k_asm); (case k3 => k_asm); (case k5 => k_asm); (case k6 => k_is); (case k7 => k_is); (case k8 => ktr_room); (case k9 => exact BindsTo.of_eq rfl); (case c5 => decide); (case kB => exact locs rfl); (case c2 => exact rfl); (case c3 => exact rfl); (case c4 => exact rfl)
  k_whole
  clear B F X T N
  intro QQ hQQ hQN
  intro L' h' F' N' B' X' T'
  replace hret := fun r h' tk' x y => hQQ _ _ (hret r h' tk' x y)
  (try dsimp only)
  (try k_fold)
  k_with_none
  k_with "exec While Compare cons nil" => (refine halt ?_)
  k_with "WhileStep2" => (refine halt ?_)
  k_steps
  unfold Halt
  rename Fr _ _ _ _ => F1
  refine While_inv2 (fun n m nx => (∃ x y tx ty, m (Str.ofString "a") = some (.int x tx) ∧ m (Str.ofString "b") = some (.int y ty) ∧ 0 ≤ x ∧ 0 ≤ y ∧ Int.gcd x y = Int.gcd a b ∧ n = y.toNat) ∧ nx = []) F1 News.nil ⟨⟨_, _, _, _, rfl, rfl, ?_, ?_, ?_, rfl⟩, rfl⟩ ?_ ?_
  · split <;> omega
  · split <;> omega
  · exact gcd_abs a b
  · rintro n m₁ nx h₁ tk₁ F2 N2 ⟨⟨x, y, tx, ty, ha, hb, hx, hy, hg, rfl⟩, rfl⟩
    replace F2 := fr_names F2 [(Str.ofString "a", .int x tx), (Str.ofString "b", .int y ty)] (allc ha (all1 hb))
    dsimp only [kstB] at F2
    k_steps
    · unfold Halt
      rename Fr _ _ _ _ => F9
      have hne : y ≠ 0 := by simp_all
      have e := gcd_turn hx hy hne
      exact ⟨_, _, _, _, _, rfl, F9, News.nil, e.2.2.2, ⟨_, _, _, _, rfl, rfl, e.1, e.2.1, e.2.2.1.trans hg, rfl⟩, rfl⟩
    · rename Fr _ _ _ _ => F9
      have hne : y = 0 := by simp_all
      subst hne
      have e : x = ((Int.gcd a b : Nat) : Int) := by
        rw [← hg, Int.gcd_zero_right]
        omega
      subst e
      exact hret _ _ _ F9.keep ⟨_, rfl⟩
  all_goals k_steps
theorem use {w : World} {f : Addr} {N : Nat} {vs : List Value} {Pre : Heap → Prop} {Post : Heap → Heap → Value → Prop} (C : Tells w f N vs Pre Post)
    {prog p : Program} {loose : List Str} {mean : ExcName → Option Value} {mg mb : Str → Option Value} {dp un : Nat} {gd : Option (List Code)} {cn : Str} {cs : Scope} {a : Addr} {ccd : Value} {cl : List (Str × Addr)} {outer : List Env} {A₀ : Around} {base h₀ : Heap} {L : Addr} {m : Str → Option Value} {news : List (Addr × Obj)} {s : Shared} {Q E : Value → Shared → Prop}
    (B : Below A₀ base outer h₀) (F : Fr h₀ L s.heap m) (Nw : News h₀ L s.heap news) (X : (Mine.hd.heap_39 w.params).In h₀) (T : Top p loose mean mg mb h₀) (hk : cs.kind = .function) (hd : dp + N < recursionLimit) (hu : un + 8 * N < cLine) (hp : Pre s.heap)
    (ret : ∀ r h' tk', Ext s.heap h' → Fr h₀ L h' m → News h₀ L h' news → Post s.heap h' r → Q r { s with heap := h', toks := tk' }) :
    wpAny (model prog w) (ktrTop dp un gd cn cs L a ccd cl outer) (call (.ref f) vs) Q E s := by
  refine C prog p loose mean mg mb dp un gd cn cs a ccd cl outer A₀ base h₀ L m s Q E B F X T hk hd hu hp fun r h' tk' hx hpost => ret r h' tk' hx ?_ ?_ hpost
  · exact ⟨F.ns.keeps hx, fun b o e => hx b o (F.keep b o e), F.above⟩
  · exact fun p hp => ⟨hx _ _ (Nw p hp).1, (Nw p hp).2⟩

abbrev R := Int × Int
noncomputable abbrev tupO (p q : Int) (t u : Tok) (n : Nat) : Obj := { cls := .type "tuple", data := .seq [Value.int p t, Value.int q u].toArray n }
noncomputable def RatV (h : Heap) (v : Value) (x : R) : Prop := ∃ a t u n, v = .ref a ∧ h.get? a = some (tupO x.1 x.2 t u n)
noncomputable def RatNew (h h' : Heap) (v : Value) (x : R) : Prop := ∃ a t u n, v = .ref a ∧ h.get? a = none ∧ h'.get? a = some (tupO x.1 x.2 t u n)
theorem RatNew.val {h h' : Heap} {v : Value} {x : R} (r : RatNew h h' v x) : RatV h' v x := let ⟨a, t, u, n, e, _, o⟩ := r; ⟨a, t, u, n, e, o⟩
theorem RatV.ext {h h' : Heap} {v : Value} {x : R} (r : RatV h v x) (e : Ext h h') : RatV h' v x := let ⟨a, t, u, n, q, o⟩ := r; ⟨a, t, u, n, q, e _ _ o⟩
theorem frame_ne {h₀ h : Heap} {L a : Addr} {m : Str → Option Value} {p q : Int} {t u : Tok} {n : Nat} (F : Fr h₀ L h m) (e : h.get? a = some (tupO p q t u n)) : a ≠ L := by
  rintro rfl
  obtain ⟨o, es, ep, ho, hd, _⟩ := F.ns
  rw [e] at ho
  cases ho
  cases hd
theorem news_new {h₀ h : Heap} {L a : Addr} {m : Str → Option Value} {o : Obj} {news : List (Addr × Obj)} (F : Fr h₀ L h m) (N : News h₀ L h news) (hn : h₀.get? a = none) (e : h.get? a = some o) (hne : a ≠ L) : News h₀ L h ((a, o) :: news) := by
  intro p hp
  rcases List.mem_cons.mp hp with rfl | hp
  · exact ⟨e, hne, hn⟩
  · exact N p hp
theorem none_of {h h' : Heap} {a : Addr} (x : Ext h h') (e : h'.get? a = none) : h.get? a = none := by
  cases q : h.get? a with
  | none => rfl
  | some o => rw [x _ _ q] at e; cases e

noncomputable def gP (top bottom : Int) : Int := if bottom > 0 then (Int.gcd top bottom : Int) else 0 - (Int.gcd top bottom : Int)
noncomputable def sm (z : Int) : Bool := decide (z.natAbs < 4611686018427387904)
theorem sm_iff {z : Int} : sm z = true ↔ z.natAbs < 4611686018427387904 := by unfold sm; exact decide_eq_true_iff
theorem small_div {x y : Int} (h : y.natAbs < 4611686018427387904) : Builtin.divisionGoesByPylong x y = false := by
  refine PyProof.noPylong_of_log2 ?_
  by_cases h0 : y.natAbs = 0
  · rw [h0]; decide +kernel
  · exact Nat.lt_trans ((Nat.log2_lt h0).mpr (show _ < 2 ^ 62 from h)) (by decide)
noncomputable def ratP (top bottom : Int) : Option R := if bottom = 0 ∨ sm bottom = false then none else some (Int.fdiv top (gP top bottom), Int.fdiv bottom (gP top bottom))
theorem ratP_some {a b : Int} {r : R} (h : ratP a b = some r) : b ≠ 0 ∧ b.natAbs < 4611686018427387904 ∧ ((Int.gcd a b : Nat) : Int) ≠ 0 ∧ Int.gcd a b < 4611686018427387904 ∧ r = (Int.fdiv a (gP a b), Int.fdiv b (gP a b)) := by
  unfold ratP at h
  split at h
  · cases h
  · rename_i q
    simp only [not_or, Bool.not_eq_false, sm_iff] at q
    refine ⟨q.1, q.2, fun e => q.1 (Int.gcd_eq_zero_iff.mp (Int.ofNat.inj e)).2, ?_, (Option.some.inj h).symm⟩
    exact Nat.lt_of_le_of_lt (Int.gcd_le_natAbs_right a q.1) q.2

set_option maxHeartbeats 4000000 in
theorem rat_tells (w : World) (a b : Int) (ta tb : Tok) (r : R) (hr : ratP a b = some r) : Tells w 57 3 [.int a ta, .int b tb] (fun _ => True) (fun h h' v => RatNew h h' v r) := by
  unfold Tells
  intro prog p loose mean mg mb dp un gd cn cs a' ccd cl outer A₀ base h₀ L m s Q E B F X T hk hd hu hpre hret
  refine wpAny_call ?_
  refine' code_pure (binds := [(Str.ofString "top", .int a ta), (Str.ofString "bottom", .int b tb)]) ?k1 ?k2 ?k3 ?k5 ?kA ?kF ?kK ?k6 ?k7 ?k8 ?k9 ?kB ?_ ?c2 ?c3 ?c4 ?c5; (case kA => exact rfl); (case kF => exact rfl); (case kK => assumption); (case k1 => k_asm); (case k2 => k_asm); (case k3 => k_asm); (case k5 => k_asm); (case k6 => k_is); (case k7 => k_is); (case k8 => first | exact dp_in hd | ktr_room); (case k9 => exact BindsTo.of_eq rfl); (case c5 => decide); (case kB => exact locs rfl); (case c2 => exact rfl); (case c3 => exact rfl); (case c4 => exact rfl)
  k_whole
  clear B F X T
  intro QQ hQQ hQN
  intro L' h' F' N' B' X' T'
  replace hret := fun r h' tk' x y => hQQ _ _ (hret r h' tk' x y)
  (try dsimp only)
  (try k_fold)
  obtain ⟨hb, hb2, hg, hg2, rfl⟩ := ratP_some hr
  k_with_none
  k_with "call ref" => (
    refine' use (gcd_tells _ _ _ _ _) ?k1 ?k2 ?k3 ?k4 ?k5 ?k6 ?k7 ?k8 ?k9 ?_
    (case k1 => k_asm)
    (case k2 => k_asm)
    (case k3 => k_asm)
    (case k4 => k_asm)
    (case k5 => k_asm)
    (case k6 => exact rfl)
    (case k7 => first | exact dp_lt hd (by decide) | ktr_room)
    (case k8 => first | exact un_lt hu (by decide) | ktr_units)
    (case k9 => trivial)
    k_whole
    rintro _ h9 tk9 x9 F9 N9 ⟨t9, rfl⟩
    (try dsimp only))
  k_with "ite" => (refine' ite_neg ?c ?_; (case c => (simp [hb]; done)))
  k_with "binaryOp FloorDiv int int" => (
    refine' floordiv_int ?h1 ?_ (Or.inl (small_div ?h2))
    (case h1 => omega)
    (case h2 => omega))
  k_steps
  all_goals (
    rename Fr _ _ _ _ => F9
    rename News _ _ _ _ => N9
    have f := News.fresh N9 (.head _)
    have e := News.get N9 (.head _)
    refine hret _ _ _ F9.keep ?_
    unfold RatNew gP
    dsimp only
    first | (rw [if_pos (by simp_all)]; exact ⟨_, _, _, _, rfl, f, e⟩) | (rw [if_neg (by simp_all)]; exact ⟨_, _, _, _, rfl, f, e⟩))
theorem tup_of {h : Heap} {a : Addr} {p q : Int} {t u : Tok} {n : Nat} (e : h.get? a = some (tupO p q t u n)) : IsTup h a [Value.int p t, Value.int q u].toArray := ⟨_, e, rfl, _, rfl⟩
noncomputable def sm4 (x y : R) : Bool := sm x.1 && sm x.2 && sm y.1 && sm y.2
theorem sm4_iff {x y : R} : sm4 x y = true ↔ x.1.natAbs < 4611686018427387904 ∧ x.2.natAbs < 4611686018427387904 ∧ y.1.natAbs < 4611686018427387904 ∧ y.2.natAbs < 4611686018427387904 := by
  unfold sm4
  simp only [Bool.and_eq_true, sm_iff, and_assoc]
noncomputable def opP (f : R → R → R) (x y : R) : Option R := if sm4 x y = true then ratP (f x y).1 (f x y).2 else none
theorem opP_some {f : R → R → R} {x y r : R} (h : opP f x y = some r) : x.1.natAbs < 4611686018427387904 ∧ x.2.natAbs < 4611686018427387904 ∧ y.1.natAbs < 4611686018427387904 ∧ y.2.natAbs < 4611686018427387904 ∧ ratP (f x y).1 (f x y).2 = some r := by
  unfold opP at h
  split at h
  · rename_i q
    have := sm4_iff.mp q
    exact ⟨this.1, this.2.1, this.2.2.1, this.2.2.2, h⟩
  · cases h
abbrev addF (a b : R) : R := (a.1 * b.2 + b.1 * a.2, a.2 * b.2)
abbrev subF (a b : R) : R := (a.1 * b.2 - b.1 * a.2, a.2 * b.2)
abbrev mulF (a b : R) : R := (a.1 * b.1, a.2 * b.2)
abbrev divF (a b : R) : R := (a.1 * b.2, a.2 * b.1)

set_option maxHeartbeats 4000000 in
theorem radd_tells (w : World) (v1 v2 : Value) (x y r : R) (hr : opP addF x y = some r) : Tells w 64 4 [v1, v2] (fun h => RatV h v1 x ∧ RatV h v2 y) (fun h h' v => RatNew h h' v r) := by
  unfold Tells
  intro prog p loose mean mg mb dp un gd cn cs a' ccd cl outer A₀ base h₀ L m s Q E B F X T hk hd hu hpre hret
  obtain ⟨hx1, hx2, hy1, hy2, hq⟩ := opP_some hr
  obtain ⟨⟨a1, t1, u1, n1, rfl, h1⟩, ⟨a2, t2, u2, n2, rfl, h2⟩⟩ := hpre
  have i1 := tup_of h1
  have i2 := tup_of h2
  refine wpAny_call ?_
  refine' code_pure (binds := [(Str.ofString "a", Value.ref a1), (Str.ofString "b", Value.ref a2)]) ?k1 ?k2 ?k3 ?k5 ?kA ?kF ?kK ?k6 ?k7 ?k8 ?k9 ?kB ?_ ?c2 ?c3 ?c4 ?c5; (case kA => exact rfl); (case kF => exact rfl); (case kK => assumption); (case k1 => k_asm); (case k2 => k_asm); (case k3 => k_asm); (case k5 => k_asm); (case k6 => k_is); (case k7 => k_is); (case k8 => first | exact dp_in hd | ktr_room); (case k9 => exact BindsTo.of_eq rfl); (case c5 => decide); (case kB => exact locs rfl); (case c2 => exact rfl); (case c3 => exact rfl); (case c4 => exact rfl)
  k_whole
  clear B F X T
  intro QQ hQQ hQN
  intro L' h' F' N' B' X' T'
  replace hret := fun r h' tk' x y => hQQ _ _ (hret r h' tk' x y)
  (try dsimp only)
  (try k_fold)
  k_with_none
  k_with "subscriptTail" => (
    refine' item_tupleT ?t ?a ?b ?c ?d ?_
    (case t => exact Fr.tup (by assumption) (by assumption))
    (case a => decide)
    (case b => decide)
    (case c => exact rfl)
    (case d => exact rfl)
    k_whole)
  k_with "call ref" => (
    refine' use (rat_tells _ _ _ _ _ r (by exact hq)) ?k1 ?k2 ?k3 ?k4 ?k5 ?k6 ?k7 ?k8 ?k9 ?_
    (case k1 => k_asm)
    (case k2 => k_asm)
    (case k3 => k_asm)
    (case k4 => k_asm)
    (case k5 => k_asm)
    (case k6 => exact rfl)
    (case k7 => first | exact dp_lt hd (by decide) | ktr_room)
    (case k8 => first | exact un_lt hu (by decide) | ktr_units)
    (case k9 => trivial)
    k_whole
    rintro r9 h9 tk9 x9 F9 N9 y9
    (try dsimp only))
  k_steps
  all_goals (
    rename Fr _ _ _ _ => F9
    rename RatNew _ _ _ _ => y9
    obtain ⟨a9, t9, u9, n9, rfl, e9, o9⟩ := y9
    exact hret _ _ _ F9.keep ⟨_, _, _, _, rfl, none_of F'.keep e9, o9⟩)

set_option maxHeartbeats 4000000 in
theorem rsub_tells (w : World) (v1 v2 : Value) (x y r : R) (hr : opP subF x y = some r) : Tells w 71 4 [v1, v2] (fun h => RatV h v1 x ∧ RatV h v2 y) (fun h h' v => RatNew h h' v r) := by
  unfold Tells
  intro prog p loose mean mg mb dp un gd cn cs a' ccd cl outer A₀ base h₀ L m s Q E B F X T hk hd hu hpre hret
  obtain ⟨hx1, hx2, hy1, hy2, hq⟩ := opP_some hr
  obtain ⟨⟨a1, t1, u1, n1, rfl, h1⟩, ⟨a2, t2, u2, n2, rfl, h2⟩⟩ := hpre
  have i1 := tup_of h1
  have i2 := tup_of h2
  refine wpAny_call ?_
  refine' code_pure (binds := [(Str.ofString "a", Value.ref a1), (Str.ofString "b", Value.ref a2)]) ?k1 ?k2 ?k3 ?k5 ?kA ?kF ?kK ?k6 ?k7 ?k8 ?k9 ?kB ?_ ?c2 ?c3 ?c4 ?c5; (case kA => exact rfl); (case kF => exact rfl); (case kK => assumption); (case k1 => k_asm); (case k2 => k_asm); (case k3 => k_asm); (case k5 => k_asm); (case k6 => k_is); (case k7 => k_is); (case k8 => first | exact dp_in hd | ktr_room); (case k9 => exact BindsTo.of_eq rfl); (case c5 => decide); (case kB => exact locs rfl); (case c2 => exact rfl); (case c3 => exact rfl); (case c4 => exact rfl)
  k_whole
  clear B F X T
  intro QQ hQQ hQN
  intro L' h' F' N' B' X' T'
  replace hret := fun r h' tk' x y => hQQ _ _ (hret r h' tk' x y)
  (try dsimp only)
  (try k_fold)
  k_with_none
  k_with "subscriptTail" => (
    refine' item_tupleT ?t ?a ?b ?c ?d ?_
    (case t => exact Fr.tup (by assumption) (by assumption))
    (case a => decide)
    (case b => decide)
    (case c => exact rfl)
    (case d => exact rfl)
    k_whole)
  k_with "call ref" => (
    refine' use (rat_tells _ _ _ _ _ r (by exact hq)) ?k1 ?k2 ?k3 ?k4 ?k5 ?k6 ?k7 ?k8 ?k9 ?_
    (case k1 => k_asm)
    (case k2 => k_asm)
    (case k3 => k_asm)
    (case k4 => k_asm)
    (case k5 => k_asm)
    (case k6 => exact rfl)
    (case k7 => first | exact dp_lt hd (by decide) | ktr_room)
    (case k8 => first | exact un_lt hu (by decide) | ktr_units)
    (case k9 => trivial)
    k_whole
    rintro r9 h9 tk9 x9 F9 N9 y9
    (try dsimp only))
  k_steps
  all_goals (
    rename Fr _ _ _ _ => F9
    rename RatNew _ _ _ _ => y9
    obtain ⟨a9, t9, u9, n9, rfl, e9, o9⟩ := y9
    exact hret _ _ _ F9.keep ⟨_, _, _, _, rfl, none_of F'.keep e9, o9⟩)

set_option maxHeartbeats 4000000 in
theorem rmul_tells (w : World) (v1 v2 : Value) (x y r : R) (hr : opP mulF x y = some r) : Tells w 78 4 [v1, v2] (fun h => RatV h v1 x ∧ RatV h v2 y) (fun h h' v => RatNew h h' v r) := by
  unfold Tells
  intro prog p loose mean mg mb dp un gd cn cs a' ccd cl outer A₀ base h₀ L m s Q E B F X T hk hd hu hpre hret
  obtain ⟨hx1, hx2, hy1, hy2, hq⟩ := opP_some hr
  obtain ⟨⟨a1, t1, u1, n1, rfl, h1⟩, ⟨a2, t2, u2, n2, rfl, h2⟩⟩ := hpre
  have i1 := tup_of h1
  have i2 := tup_of h2
  refine wpAny_call ?_
  refine' code_pure (binds := [(Str.ofString "a", Value.ref a1), (Str.ofString "b", Value.ref a2)]) ?k1 ?k2 ?k3 ?k5 ?kA ?kF ?kK ?k6 ?k7 ?k8 ?k9 ?kB ?_ ?c2 ?c3 ?c4 ?c5; (case kA => exact rfl); (case kF => exact rfl); (case kK => assumption); (case k1 => k_asm); (case k2 => k_asm); (case k3 => k_asm); (case k5 => k_asm); (case k6 => k_is); (case k7 => k_is); (case k8 => first | exact dp_in hd | ktr_room); (case k9 => exact BindsTo.of_eq rfl); (case c5 => decide); (case kB => exact locs rfl); (case c2 => exact rfl); (case c3 => exact rfl); (case c4 => exact rfl)
  k_whole
  clear B F X T
  intro QQ hQQ hQN
  intro L' h' F' N' B' X' T'
  replace hret := fun r h' tk' x y => hQQ _ _ (hret r h' tk' x y)
  (try dsimp only)
  (try k_fold)
  k_with_none
  k_with "subscriptTail" => (
    refine' item_tupleT ?t ?a ?b ?c ?d ?_
    (case t => exact Fr.tup (by assumption) (by assumption))
    (case a => decide)
    (case b => decide)
    (case c => exact rfl)
    (case d => exact rfl)
    k_whole)
  k_with "call ref" => (
    refine' use (rat_tells _ _ _ _ _ r (by exact hq)) ?k1 ?k2 ?k3 ?k4 ?k5 ?k6 ?k7 ?k8 ?k9 ?_
    (case k1 => k_asm)
    (case k2 => k_asm)
    (case k3 => k_asm)
    (case k4 => k_asm)
    (case k5 => k_asm)
    (case k6 => exact rfl)
    (case k7 => first | exact dp_lt hd (by decide) | ktr_room)
    (case k8 => first | exact un_lt hu (by decide) | ktr_units)
    (case k9 => trivial)
    k_whole
    rintro r9 h9 tk9 x9 F9 N9 y9
    (try dsimp only))
  k_steps
  all_goals (
    rename Fr _ _ _ _ => F9
    rename RatNew _ _ _ _ => y9
    obtain ⟨a9, t9, u9, n9, rfl, e9, o9⟩ := y9
    exact hret _ _ _ F9.keep ⟨_, _, _, _, rfl, none_of F'.keep e9, o9⟩)

set_option maxHeartbeats 4000000 in
theorem rdiv_tells (w : World) (v1 v2 : Value) (x y r : R) (hr : opP divF x y = some r) : Tells w 85 4 [v1, v2] (fun h => RatV h v1 x ∧ RatV h v2 y) (fun h h' v => RatNew h h' v r) := by
  unfold Tells
  intro prog p loose mean mg mb dp un gd cn cs a' ccd cl outer A₀ base h₀ L m s Q E B F X T hk hd hu hpre hret
  obtain ⟨hx1, hx2, hy1, hy2, hq⟩ := opP_some hr
  obtain ⟨⟨a1, t1, u1, n1, rfl, h1⟩, ⟨a2, t2, u2, n2, rfl, h2⟩⟩ := hpre
  have i1 := tup_of h1
  have i2 := tup_of h2
  refine wpAny_call ?_
  refine' code_pure (binds := [(Str.ofString "a", Value.ref a1), (Str.ofString "b", Value.ref a2)]) ?k1 ?k2 ?k3 ?k5 ?kA ?kF ?kK ?k6 ?k7 ?k8 ?k9 ?kB ?_ ?c2 ?c3 ?c4 ?c5; (case kA => exact rfl); (case kF => exact rfl); (case kK => assumption); (case k1 => k_asm); (case k2 => k_asm); (case k3 => k_asm); (case k5 => k_asm); (case k6 => k_is); (case k7 => k_is); (case k8 => first | exact dp_in hd | ktr_room); (case k9 => exact BindsTo.of_eq rfl); (case c5 => decide); (case kB => exact locs rfl); (case c2 => exact rfl); (case c3 => exact rfl); (case c4 => exact rfl)
  k_whole
  clear B F X T
  intro QQ hQQ hQN
  intro L' h' F' N' B' X' T'
  replace hret := fun r h' tk' x y => hQQ _ _ (hret r h' tk' x y)
  (try dsimp only)
  (try k_fold)
  k_with_none
  k_with "subscriptTail" => (
    refine' item_tupleT ?t ?a ?b ?c ?d ?_
    (case t => exact Fr.tup (by assumption) (by assumption))
    (case a => decide)
    (case b => decide)
    (case c => exact rfl)
    (case d => exact rfl)
    k_whole)
  k_with "call ref" => (
    refine' use (rat_tells _ _ _ _ _ r (by exact hq)) ?k1 ?k2 ?k3 ?k4 ?k5 ?k6 ?k7 ?k8 ?k9 ?_
    (case k1 => k_asm)
    (case k2 => k_asm)
    (case k3 => k_asm)
    (case k4 => k_asm)
    (case k5 => k_asm)
    (case k6 => exact rfl)
    (case k7 => first | exact dp_lt hd (by decide) | ktr_room)
    (case k8 => first | exact un_lt hu (by decide) | ktr_units)
    (case k9 => trivial)
    k_whole
    rintro r9 h9 tk9 x9 F9 N9 y9
    (try dsimp only))
  k_steps
  all_goals (
    rename Fr _ _ _ _ => F9
    rename RatNew _ _ _ _ => y9
    obtain ⟨a9, t9, u9, n9, rfl, e9, o9⟩ := y9
    exact hret _ _ _ F9.keep ⟨_, _, _, _, rfl, none_of F'.keep e9, o9⟩)
theorem vast_no {p q : Int} (hp : p.natAbs < 4611686018427387904) (hq : q.natAbs < 4611686018427387904) : ¬ ((2 : Int) ^ Int.toNat 64 ≤ (if q > (if p < 0 then -p else p) then q else (if p < 0 then -p else p))) := by
  rw [show (2 : Int) ^ Int.toNat 64 = 18446744073709551616 from by decide +kernel]
  split <;> split <;> omega
theorem cmp_eq (d : Int) : b2i (decide (0 < d)) - b2i (decide (d < 0)) = (if d > 0 then 1 else if d < 0 then -1 else 0) := by
  by_cases h1 : 0 < d
  · have h2 : ¬ d < 0 := by omega
    rw [decide_eq_true h1, decide_eq_false h2, if_pos h1]; rfl
  · by_cases h2 : d < 0
    · rw [decide_eq_false h1, decide_eq_true h2, if_neg h1, if_pos h2]; rfl
    · rw [decide_eq_false h1, decide_eq_false h2, if_neg h1, if_neg h2]; rfl
noncomputable def smR (x : R) : Bool := sm x.1 && sm x.2
theorem smR_iff {x : R} : smR x = true ↔ x.1.natAbs < 4611686018427387904 ∧ x.2.natAbs < 4611686018427387904 := by
  unfold smR
  simp only [Bool.and_eq_true, sm_iff]
set_option maxHeartbeats 4000000 in
theorem vast_tells (w : World) (v1 : Value) (x : R) (hx : smR x = true) : Tells w 92 4 [v1] (fun h => RatV h v1 x) (fun h h' v => v = .bool false) := by
  unfold Tells
  intro prog p loose mean mg mb dp un gd cn cs a' ccd cl outer A₀ base h₀ L m s Q E B F X T hk hd hu hpre hret
  obtain ⟨hx1, hx2⟩ := smR_iff.mp hx
  have hf := vast_no hx1 hx2
  obtain ⟨a1, t1, u1, n1, rfl, h1⟩ := hpre
  have i1 := tup_of h1
  refine wpAny_call ?_
  refine' code_pure (binds := [(Str.ofString "a", Value.ref a1)]) ?k1 ?k2 ?k3 ?k5 ?kA ?kF ?kK ?k6 ?k7 ?k8 ?k9 ?kB ?_ ?c2 ?c3 ?c4 ?c5; (case kA => exact rfl); (case kF => exact rfl); (case kK => assumption); (case k1 => k_asm); (case k2 => k_asm); (case k3 => k_asm); (case k5 => k_asm); (case k6 => k_is); (case k7 => k_is); (case k8 => first | exact dp_in hd | ktr_room); (case k9 => exact BindsTo.of_eq rfl); (case c5 => decide); (case kB => exact locs rfl); (case c2 => exact rfl); (case c3 => exact rfl); (case c4 => exact rfl)
  k_whole
  clear B F X T
  intro QQ hQQ hQN
  intro L' h' F' N' B' X' T'
  replace hret := fun r h' tk' x y => hQQ _ _ (hret r h' tk' x y)
  (try dsimp only)
  (try k_fold)
  k_with_none
  k_with "subscriptTail" => (
    refine' item_tupleT ?t ?a ?b ?c ?d ?_
    (case t => exact Fr.tup (by assumption) (by assumption))
    (case a => decide)
    (case b => decide)
    (case c => exact rfl)
    (case d => exact rfl)
    k_whole)
  k_with "ite" => (
    refine' ite_neg ?c ?_
    (case c => (simp only [decide_eq_true_eq]; exact hf)))
  k_steps
  all_goals (
    rename Fr _ _ _ _ => F9
    exact hret _ _ _ F9.keep (congrArg Value.bool (decide_eq_false hf)))

set_option maxHeartbeats 4000000 in
theorem let_tells (w : World) (v1 : Value) (x : R) (hx : smR x = true) : Tells w 113 5 [v1] (fun h => RatV h v1 x) (fun h h' v => v = v1) := by
  unfold Tells
  intro prog p loose mean mg mb dp un gd cn cs a' ccd cl outer A₀ base h₀ L m s Q E B F X T hk hd hu hpre hret
  obtain ⟨a1, t1, u1, n1, rfl, h1⟩ := hpre
  refine wpAny_call ?_
  refine' code_pure (binds := [(Str.ofString "number", Value.ref a1)]) ?k1 ?k2 ?k3 ?k5 ?kA ?kF ?kK ?k6 ?k7 ?k8 ?k9 ?kB ?_ ?c2 ?c3 ?c4 ?c5; (case kA => exact rfl); (case kF => exact rfl); (case kK => assumption); (case k1 => k_asm); (case k2 => k_asm); (case k3 => k_asm); (case k5 => k_asm); (case k6 => k_is); (case k7 => k_is); (case k8 => first | exact dp_in hd | ktr_room); (case k9 => exact BindsTo.of_eq rfl); (case c5 => decide); (case kB => exact locs rfl); (case c2 => exact rfl); (case c3 => exact rfl); (case c4 => exact rfl)
  k_whole
  clear B F X T
  intro QQ hQQ hQN
  intro L' h' F' N' B' X' T'
  replace hret := fun r h' tk' x y => hQQ _ _ (hret r h' tk' x y)
  (try dsimp only)
  (try k_fold)
  k_with_none
  k_with "call ref" => (
    refine' use (vast_tells _ _ _ (by exact hx)) ?k1 ?k2 ?k3 ?k4 ?k5 ?k6 ?k7 ?k8 ?k9 ?_
    (case k1 => k_asm)
    (case k2 => k_asm)
    (case k3 => k_asm)
    (case k4 => k_asm)
    (case k5 => k_asm)
    (case k6 => exact rfl)
    (case k7 => first | exact dp_lt hd (by decide) | ktr_room)
    (case k8 => first | exact un_lt hu (by decide) | ktr_units)
    (case k9 => exact RatV.ext ⟨_, _, _, _, rfl, h1⟩ (by exact Fr.keep (by assumption)))
    k_whole
    rintro r9 h9 tk9 x9 F9 N9 rfl
    (try dsimp only))
  k_steps
  all_goals (
    rename Fr _ _ _ _ => F9
    exact hret _ _ _ F9.keep rfl)

abbrev cmpF (x y : R) : Int := if x.1 * y.2 - y.1 * x.2 > 0 then 1 else if x.1 * y.2 - y.1 * x.2 < 0 then -1 else 0
set_option maxHeartbeats 4000000 in
theorem rcmp_tells (w : World) (v1 v2 : Value) (x y : R) (hx : sm4 x y = true) : Tells w 99 4 [v1, v2] (fun h => RatV h v1 x ∧ RatV h v2 y) (fun h h' v => ∃ t, v = .int (cmpF x y) t) := by
  unfold Tells
  intro prog p loose mean mg mb dp un gd cn cs a' ccd cl outer A₀ base h₀ L m s Q E B F X T hk hd hu hpre hret
  obtain ⟨hx1, hx2, hy1, hy2⟩ := sm4_iff.mp hx
  obtain ⟨⟨a1, t1, u1, n1, rfl, h1⟩, ⟨a2, t2, u2, n2, rfl, h2⟩⟩ := hpre
  have i1 := tup_of h1
  have i2 := tup_of h2
  refine wpAny_call ?_
  refine' code_pure (binds := [(Str.ofString "a", Value.ref a1), (Str.ofString "b", Value.ref a2)]) ?k1 ?k2 ?k3 ?k5 ?kA ?kF ?kK ?k6 ?k7 ?k8 ?k9 ?kB ?_ ?c2 ?c3 ?c4 ?c5; (case kA => exact rfl); (case kF => exact rfl); (case kK => assumption); (case k1 => k_asm); (case k2 => k_asm); (case k3 => k_asm); (case k5 => k_asm); (case k6 => k_is); (case k7 => k_is); (case k8 => first | exact dp_in hd | ktr_room); (case k9 => exact BindsTo.of_eq rfl); (case c5 => decide); (case kB => exact locs rfl); (case c2 => exact rfl); (case c3 => exact rfl); (case c4 => exact rfl)
  k_whole
  clear B F X T
  intro QQ hQQ hQN
  intro L' h' F' N' B' X' T'
  replace hret := fun r h' tk' x y => hQQ _ _ (hret r h' tk' x y)
  (try dsimp only)
  (try k_fold)
  k_with_none
  k_with "subscriptTail" => (
    refine' item_tupleT ?t ?a ?b ?c ?d ?_
    (case t => exact Fr.tup (by assumption) (by assumption))
    (case a => decide)
    (case b => decide)
    (case c => exact rfl)
    (case d => exact rfl)
    k_whole)
  k_steps
  all_goals (
    rename Fr _ _ _ _ => F9
    exact hret _ _ _ F9.keep ⟨_, congrArg (fun z => Value.int z _) (cmp_eq _)⟩)
section
variable {prog : Program} {w : World} {A : Around} {E : Value → Shared → Prop} {s : Shared} {env : Env} {h₀ : Heap} {x : Str} {body : List Stmt} {Q : Flow → Shared → Prop}
inductive TurnEnd (h₀ : Heap) (L : Addr) (J : (Str → Option Value) → List (Addr × Obj) → Prop) (I : Addr) (it : Obj) (s s₂ : Shared) : Prop
  | mk (h' : Heap) (tk : Nat) (m' : Str → Option Value) (nx : List (Addr × Obj)) : s₂ = { s with heap := h', toks := tk } → Fr h₀ L h' m' → News h₀ L h' ((I, it) :: nx) → J m' nx → TurnEnd h₀ L J I it s s₂
noncomputable def TurnPost (h₀ : Heap) (L : Addr) (J : (Str → Option Value) → List (Addr × Obj) → Prop) (I : Addr) (it : Obj) (s : Shared) (Q : Flow → Shared → Prop) (f : Flow) (s₂ : Shared) : Prop :=
  match f with
  | .ret v => Q (.ret v) s₂
  | .brk => Q .next s₂
  | _ => TurnEnd h₀ L J I it s s₂
theorem range_inv {r : Addr} {a₀ b₀ : Int} {t₀ u₀ v₀ : Tok} {n : Nat} {m₀ : Str → Option Value} {news : List (Addr × Obj)} (J : Nat → (Str → Option Value) → List (Addr × Obj) → Prop)
    (hh : A.handled = none) (hr : IsRange s.heap r a₀ b₀ 1 t₀ u₀ v₀) (hsmall : Builtin.Range.small a₀ b₀ 1 = true) (hsz : Builtin.Range.rangeSize a₀ b₀ 1 = (n : Int)) (F : Fr h₀ env.locals s.heap m₀) (N : News h₀ env.locals s.heap news) (hj : J 0 m₀ news)
    (hk : ∀ i m nx, J i m nx → ∀ p ∈ nx, p.2.cls ≠ .type "range_iterator" ∨ p ∈ news)
    (turn : ∀ (PP : Flow → Shared → Prop) i k t m₁ nx h tk I it, (∀ s₂, TurnEnd h₀ env.locals (J (i + 1)) I it { s with heap := h, toks := tk } s₂ → PP .next s₂) → (∀ v s₂, Q (.ret v) s₂ → PP (.ret v) s₂) → (∀ s₂, Q .next s₂ → PP .brk s₂) → i < n → k = a₀ + (i : Int) → J i m₁ nx → Fr h₀ env.locals h (fun y => if y = x then some (.int k t) else m₁ y) → News h₀ env.locals h ((I, it) :: nx) → it.cls = .type "range_iterator" →
      wpAny (model prog w) A (execs body env) PP (fun _ _ => False) { s with heap := h, toks := tk })
    (done : ∀ m₁ nx h tk, J n m₁ nx → Fr h₀ env.locals h m₁ → News h₀ env.locals h nx → Q .next { s with heap := h, toks := tk }) :
    wpAny (model prog w) A (pyIter (.ref r)) (fun it s₂ => LoopAtV prog w A h₀ env x body Q E it s₂) E s := by
  refine wpAny_pyIter_range hr hsmall ?_
  have W : Walks prog w A s.heap.objs.size [s.heap.objs.size] [s.heap.objs.size] n (fun i v => i < n ∧ ∃ t, v = .int (a₀ + i * 1) t)
      (fun i h => IsRangeIter h s.heap.objs.size (a₀ + (i : Nat) * 1) ((n : Int) - (i : Nat)) 1) := (Walks.range hh _ a₀ 1 n).bound
  refine ⟨_, _, _, n, _, _, m₀, news, J, rfl, W, ?_, ?_, ?_, (by show IsRangeIter _ _ _ _ _; rw [hsz]; simpa using Heap.get?_push_size _ rfl), F.push _, (fun p hp => ⟨Heap.get?_push_of_some _ (N p hp).1, (N p hp).2⟩), hj, ?_, ?_⟩
  · intro hm
    exact absurd F.ns.lt ((List.mem_singleton.mp hm) ▸ Nat.lt_irrefl _)
  · intro b hb
    rw [List.mem_singleton.mp hb]
    exact next_is_new F
  · intro p hp hI
    exact absurd (Heap.lt_size (N p hp).1) ((List.mem_singleton.mp hI) ▸ Nat.lt_irrefl _)
  · rintro i v m₁ nx s₁ own ⟨h, tk, rfl⟩ hin ⟨_, t, rfl⟩ hJ hoff hown hget hfp hst F₁ N₁
    have hI0 : h₀.get? s.heap.objs.size = none := next_is_new F
    obtain ⟨it, hit, hcls⟩ : ∃ it : Obj, h.get? s.heap.objs.size = some it ∧ it.cls = .type "range_iterator" := ⟨_, hst, rfl⟩
    have hmem := hfp s.heap.objs.size (.head _) hI0 _ hit
    have hall : ∀ p ∈ own, p = (s.heap.objs.size, it) := fun p hp => by
      have e1 := List.mem_singleton.mp (hown p hp)
      have e2 := hget p hp
      rw [e1] at e2
      exact Prod.ext e1 (Option.some.inj (e2.symm.trans hit))
    have N₂ : News h₀ env.locals h ((s.heap.objs.size, it) :: nx) := fun p hp => by
      rcases List.mem_cons.mp hp with rfl | hp
      · exact N₁ _ (List.mem_append.mpr (.inl hmem))
      · exact N₁ p (List.mem_append.mpr (.inr hp))
    have e1 : a₀ + (i : Int) * 1 = a₀ + (i : Int) := by omega
    rw [e1] at F₁
    refine wpAny_mono (turn (TurnPost h₀ env.locals (J (i + 1)) s.heap.objs.size it { s with heap := h, toks := tk } Q) i _ t m₁ nx h tk _ it (fun _ q => q) (fun _ _ q => q) (fun _ q => q) hin rfl hJ F₁ N₂ hcls) (fun f s₂ p => ?_) fun _ _ e => e.elim
    have fin : TurnEnd h₀ env.locals (J (i + 1)) s.heap.objs.size it { s with heap := h, toks := tk } s₂ → LoopStepU h₀ env.locals [s.heap.objs.size] own (J (i + 1)) { s with heap := h, toks := tk } .next s₂ := by
      rintro ⟨h', tk', m', nx', e, F', N', hm⟩
      refine ⟨rfl, h', tk', m', nx', e, F', fun p hp => ?_, fun p hp hq => ?_, hm⟩
      · rcases List.mem_append.mp hp with hp | hp
        · rw [hall p hp]; exact N' _ (.head _)
        · exact N' p (.tail _ hp)
      · have e3 := (N' p (.tail _ hp)).1
        rw [List.mem_singleton.mp hq, (N' _ (.head _)).1] at e3
        rcases hk _ _ _ hm p hp with h9 | h9
        · exact h9 (by rw [← Option.some.inj e3]; exact hcls)
        · exact absurd (Heap.lt_size (N p h9).1) (by rw [List.mem_singleton.mp hq]; exact Nat.lt_irrefl _)
    cases f with
    | ret v => exact p
    | brk => exact p
    | next => exact fin p
    | cont => exact fin p
  · rintro h' tk m' news' F' N' _ hJ
    exact done m' news' h' tk hJ F' N'
end

theorem useN {w : World} {f : Addr} {N : Nat} {vs : List Value} {Pre : Heap → Prop} {r : R} (C : Tells w f N vs Pre (fun h h' v => RatNew h h' v r))
    {prog p : Program} {loose : List Str} {mean : ExcName → Option Value} {mg mb : Str → Option Value} {dp un : Nat} {gd : Option (List Code)} {cn : Str} {cs : Scope} {a : Addr} {ccd : Value} {cl : List (Str × Addr)} {outer : List Env} {A₀ : Around} {base h₀ : Heap} {L : Addr} {m : Str → Option Value} {news : List (Addr × Obj)} {s : Shared} {Q E : Value → Shared → Prop}
    (B : Below A₀ base outer h₀) (F : Fr h₀ L s.heap m) (Nw : News h₀ L s.heap news) (X : (Mine.hd.heap_39 w.params).In h₀) (T : Top p loose mean mg mb h₀) (hk : cs.kind = .function) (hd : dp + N < recursionLimit) (hu : un + 8 * N < cLine) (hp : Pre s.heap)
    (ret : ∀ a t u n h' tk', Fr h₀ L h' m → News h₀ L h' ((a, tupO r.1 r.2 t u n) :: news) → Q (.ref a) { s with heap := h', toks := tk' }) :
    wpAny (model prog w) (ktrTop dp un gd cn cs L a ccd cl outer) (call (.ref f) vs) Q E s := by
  refine use C B F Nw X T hk hd hu hp ?_
  rintro _ h' tk' x9 F9 N9 ⟨a, t, u, n, rfl, e, o⟩
  exact ret a t u n h' tk' F9 (news_new F9 N9 (none_of F.keep e) o (frame_ne F9 o))
theorem ratv_head {h₀ h : Heap} {L a : Addr} {news : List (Addr × Obj)} {x : R} {t u : Tok} {n : Nat} (N : News h₀ L h ((a, tupO x.1 x.2 t u n) :: news)) : RatV h (.ref a) x := ⟨a, t, u, n, rfl, (N _ (.head _)).1⟩
inductive RatsV (h : Heap) : List Value → List R → Prop
  | nil : RatsV h [] []
  | cons {v : Value} {vs : List Value} {x : R} {xs : List R} : RatV h v x → RatsV h vs xs → RatsV h (v :: vs) (x :: xs)
theorem RatsV.ext {h h' : Heap} {vs : List Value} {xs : List R} (r : RatsV h vs xs) (e : Ext h h') : RatsV h' vs xs := by
  induction r with
  | nil => exact .nil
  | cons a _ ih => exact .cons (a.ext e) ih
theorem RatsV.length {h : Heap} {vs : List Value} {xs : List R} (r : RatsV h vs xs) : vs.length = xs.length := by
  induction r with
  | nil => rfl
  | cons _ _ ih => rw [List.length_cons, List.length_cons, ih]
theorem RatsV.get {h : Heap} {vs : List Value} {xs : List R} (r : RatsV h vs xs) : ∀ {k : Nat}, k < xs.length → ∃ v, vs[k]? = some v ∧ RatV h v (xs.getD k (0, 1)) := by
  induction r with
  | nil => intro k hk; exact absurd hk (Nat.not_lt_zero _)
  | cons a _ ih =>
    intro k hk
    cases k with
    | zero => exact ⟨_, rfl, a⟩
    | succ k => exact ih (Nat.lt_of_succ_lt_succ hk)
theorem RatsV.append {h : Heap} {vs ws : List Value} {xs ys : List R} (r : RatsV h vs xs) (q : RatsV h ws ys) : RatsV h (vs ++ ws) (xs ++ ys) := by
  induction r with
  | nil => exact q
  | cons a _ ih => exact .cons a ih
noncomputable def ListV (h : Heap) (v : Value) (xs : List R) : Prop := ∃ a vs n, v = .ref a ∧ h.get? a = some (listOf vs.toArray n) ∧ RatsV h vs xs
theorem ListV.ext {h h' : Heap} {v : Value} {xs : List R} (r : ListV h v xs) (e : Ext h h') : ListV h' v xs := let ⟨a, vs, n, q, o, z⟩ := r; ⟨a, vs, n, q, e _ _ o, z.ext e⟩

theorem rat_reads {h : Heap} {v : Value} {x : R} (r : RatV h v x) : ∃ as, Reads h v (.tuple [.int x.1, .int x.2]) as := by
  obtain ⟨a, t, u, n, rfl, e⟩ := r
  exact ⟨_, reads_tuple_at e rfl rfl (.cons (.int _ _) (.cons (.int _ _) .nil))⟩
theorem ne_rat {prog : Program} {w : World} {A : Around} {E : Value → Shared → Prop} {s : Shared} {Q : Value → Shared → Prop} {v1 v2 : Value} {x y : R} (r1 : RatV s.heap v1 x) (r2 : RatV s.heap v2 y) (hu : A.units + 64 < cLine) (h : Q (.bool (!decide (x = y))) s) :
    wpAny (model prog w) A (compareOp .NotEq v1 v2) Q E s := by
  obtain ⟨as, e1⟩ := rat_reads r1
  obtain ⟨bs, e2⟩ := rat_reads r2
  refine ne_dataH e1 e2 (by rfl) (by rfl) hu ?_
  have : PyData.eqv (.tuple [.int x.1, .int x.2]) (.tuple [.int y.1, .int y.2]) = decide (x = y) := by
    obtain ⟨x1, x2⟩ := x
    obtain ⟨y1, y2⟩ := y
    simp only [PyData.eqv, PyData.eqvAll, Prod.mk.injEq, Bool.and_true]
    by_cases h1 : x1 = y1 <;> by_cases h2 : x2 = y2 <;> simp [h1, h2]
  rw [this]
  exact h
noncomputable def RatL (h₀ : Heap) (nx : List (Addr × Obj)) (v : Value) (x : R) : Prop := ∃ a t u n, v = .ref a ∧ (h₀.get? a = some (tupO x.1 x.2 t u n) ∨ (a, tupO x.1 x.2 t u n) ∈ nx)
theorem RatL.val {h₀ h : Heap} {L : Addr} {m : Str → Option Value} {nx ny : List (Addr × Obj)} {v : Value} {x : R} (r : RatL h₀ nx v x) (F : Fr h₀ L h m) (N : News h₀ L h ny) (hs : ∀ p ∈ nx, p ∈ ny) : RatV h v x := by
  obtain ⟨a, t, u, n, e, o | o⟩ := r
  · exact ⟨a, t, u, n, e, F.keep _ _ o⟩
  · exact ⟨a, t, u, n, e, (N _ (hs _ o)).1⟩
theorem RatV.fr {h₀ h : Heap} {L : Addr} {m : Str → Option Value} {v : Value} {x : R} (r : RatV h₀ v x) (F : Fr h₀ L h m) : RatV h v x := r.ext F.keep
theorem item_at {prog : Program} {w : World} {A : Around} {E : Value → Shared → Prop} {s : Shared} {value slice : PySem.Expr} {l : Addr} {vs : List Value} {k : Int} {u : Tok} {v : Value} {Q : Value → Shared → Prop} (hl : s.heap.IsList l vs.toArray) (hk : 0 ≤ k ∧ k < 64) (hx : vs[k.toNat]? = some v) (h : Q v s)
    (hs : subscripted slice false (.ref l) (.int k u) = operate [.ref l, .int k u] (getItem (.ref l) (.int k u))) :
    wpAny (model prog w) A (subscriptTail value slice (.ref l) (.int k u)) Q E s := item_litK hl hk.1 (by omega) hx h hs
theorem rng0 {n : Nat} (hn : n ≤ 64) : Builtin.Range.small 0 ((n : Int)) 1 = true ∧ Builtin.Range.rangeSize 0 ((n : Int)) 1 = ((n : Nat) : Int) :=
  ⟨small_one (by decide) (by decide) (by omega) (by omega), (rangeSize_nat _ _).trans (by omega)⟩
theorem rng1 {i : Nat} {kk : Int} (hkk : kk = 0 + (i : Int)) (hi : i < 64) : Builtin.Range.small 1 (kk + 1) 1 = true ∧ Builtin.Range.rangeSize 1 (kk + 1) 1 = ((i : Nat) : Int) :=
  ⟨small_one (by decide) (by decide) (by omega) (by omega), (rangeSize_nat _ _).trans (by omega)⟩
theorem ar_idx {i j : Nat} {kk k2 : Int} (hkk : kk = 0 + (i : Int)) (hk2 : k2 = 1 + (j : Int)) (hj : j < i) (hi : i < 64) :
    j + 1 = k2.toNat ∧ i - (j + 1) = (kk - k2).toNat ∧ (0 ≤ k2 ∧ k2 < 64) ∧ (0 ≤ kk - k2 ∧ kk - k2 < 64) ∧ ((j + 1 : Nat) : Int) = k2 ∧ ((i - (j + 1) : Nat) : Int) = kk - k2 ∧ i - (j + 1) < i :=
  ⟨by omega, by omega, by omega, by omega, by omega, by omega, by omega⟩
theorem len_ok {a b i n : Nat} (h1 : a = b) (h2 : b = i) (hi : i < n) (hn : n ≤ 64) : a ≤ 1000 := by omega
theorem zero_of {i : Nat} {kk : Int} (hkk : kk = 0 + (i : Int)) : kk = 0 ↔ i = 0 := by omega
theorem fr_turn {h₀ h : Heap} {L : Addr} {m : Str → Option Value} {x : Str} {v : Value} (F : Fr h₀ L h (fun y => if y = x then some v else m y)) (ps : List (Str × Value)) (e : ∀ p ∈ ps, m p.1 = some p.2) :
    Fr h₀ L h (fun y => if y = x then some v else kstB m ps y) := by
  have : kstB m ps = m := funext fun z => kstB_eq e fun _ => rfl
  rw [this]; exact F
noncomputable def mixedTo (xs ys : List R) (k : Nat) : Nat → Option R
  | 0 => some (0, 1)
  | n + 1 => (mixedTo xs ys k n).bind fun acc =>
      if xs.getD n (0, 1) = (0, 1) then some acc else if ys.getD (k - n) (0, 1) = (0, 1) then some acc else
        (opP mulF (xs.getD n (0, 1)) (ys.getD (k - n) (0, 1))).bind fun z => opP addF acc z
noncomputable def mixedP (xs ys : List R) (k : Nat) : Option R := mixedTo xs ys k (k + 1)
theorem mixedTo_le {xs ys : List R} {k i : Nat} : ∀ {n : Nat} {r : R}, mixedTo xs ys k n = some r → i ≤ n → ∃ q, mixedTo xs ys k i = some q := by
  intro n
  induction n with
  | zero => intro r h hi; exact ⟨r, by rw [Nat.le_zero.mp hi]; exact h⟩
  | succ n ih =>
    intro r h hi
    by_cases e : i = n + 1
    · exact ⟨r, e ▸ h⟩
    · obtain ⟨acc, ha, _⟩ := Option.bind_eq_some_iff.mp h
      exact ih ha (by omega)
theorem news_two {h₀ h : Heap} {L : Addr} {x y z : Addr × Obj} {nx : List (Addr × Obj)} (N : News h₀ L h (x :: y :: z :: nx)) : News h₀ L h [z, x] := allc (N _ (.tail _ (.tail _ (.head _)))) (all1 (N _ (.head _)))
theorem at49 {w : World} {h : Heap} (X : (Mine.hd.heap_39 w.params).In h) : RatV h (.ref 49) (0, 1) := ⟨49, _, _, _, rfl, X _ _ (by k_is)⟩
theorem at50 {w : World} {h : Heap} (X : (Mine.hd.heap_39 w.params).In h) : RatV h (.ref 50) (1, 1) := ⟨50, _, _, _, rfl, X _ _ (by k_is)⟩
inductive RatM (nx : List (Addr × Obj)) : Value → R → Prop
  | zero : RatM nx (.ref 49) (0, 1)
  | one : RatM nx (.ref 50) (1, 1)
  | new {a : Addr} {t u : Tok} {n : Nat} {x : R} : (a, tupO x.1 x.2 t u n) ∈ nx → RatM nx (.ref a) x
noncomputable def RatO (h h' : Heap) (v : Value) (x : R) : Prop := (v = .ref 49 ∧ x = (0, 1)) ∨ (v = .ref 50 ∧ x = (1, 1)) ∨ RatNew h h' v x
theorem RatM.val {w : World} {h₀ h : Heap} {L : Addr} {m : Str → Option Value} {nx ny : List (Addr × Obj)} {v : Value} {x : R} (r : RatM nx v x) (X : (Mine.hd.heap_39 w.params).In h₀) (F : Fr h₀ L h m) (N : News h₀ L h ny) (hs : ∀ p ∈ nx, p ∈ ny) : RatV h v x := by
  cases r with
  | zero => exact (at49 X).fr F
  | one => exact (at50 X).fr F
  | new hm => exact ⟨_, _, _, _, rfl, (N _ (hs _ hm)).1⟩
theorem RatM.old {h₀ h : Heap} {L : Addr} {m : Str → Option Value} {nx ny : List (Addr × Obj)} {v : Value} {x : R} (r : RatM nx v x) (F : Fr h₀ L h m) (N : News h₀ L h ny) (hs : ∀ p ∈ nx, p ∈ ny) : RatO h₀ h v x := by
  cases r with
  | zero => exact .inl ⟨rfl, rfl⟩
  | one => exact .inr (.inl ⟨rfl, rfl⟩)
  | new hm => exact .inr (.inr ⟨_, _, _, _, rfl, (N _ (hs _ hm)).2.2, (N _ (hs _ hm)).1⟩)
theorem RatO.val {w : World} {h h' : Heap} {v : Value} {x : R} (r : RatO h h' v x) (X : (Mine.hd.heap_39 w.params).In h') : RatV h' v x := by
  rcases r with ⟨rfl, rfl⟩ | ⟨rfl, rfl⟩ | r
  · exact at49 X
  · exact at50 X
  · exact r.val
theorem ar_m {i k : Nat} {kk : Int} (hkk : kk = 0 + (i : Int)) (hi : i < k + 1) (hk : k < 1000) : i = kk.toNat ∧ k - i = ((k : Int) - kk).toNat ∧ (0 ≤ kk ∧ kk < 2000) ∧ (0 ≤ (k : Int) - kk ∧ (k : Int) - kk < 2000) ∧ k - i < k + 1 := ⟨by omega, by omega, by omega, by omega, by omega⟩
theorem rngk {k : Nat} (hk : k < 1000) : Builtin.Range.small 0 ((k : Int) + 1) 1 = true ∧ Builtin.Range.rangeSize 0 ((k : Int) + 1) 1 = ((k + 1 : Nat) : Int) :=
  ⟨small_one (by omega) (by omega) (by omega) (by omega), (rangeSize_nat _ _).trans (by omega)⟩
theorem item_at2 {prog : Program} {w : World} {A : Around} {E : Value → Shared → Prop} {s : Shared} {value slice : PySem.Expr} {l : Addr} {vs : List Value} {k : Int} {u : Tok} {v : Value} {Q : Value → Shared → Prop} (hl : s.heap.IsList l vs.toArray) (hk : 0 ≤ k ∧ k < 2000) (hx : vs[k.toNat]? = some v) (h : Q v s)
    (hs : subscripted slice false (.ref l) (.int k u) = operate [.ref l, .int k u] (getItem (.ref l) (.int k u))) :
    wpAny (model prog w) A (subscriptTail value slice (.ref l) (.int k u)) Q E s := item_litK hl hk.1 (by omega) hx h hs
inductive MixJ (xs ys : List R) (k : Nat) (t0 : Tok) (la lb : Addr) (i : Nat) (m : Str → Option Value) (nx : List (Addr × Obj)) : Prop
  | mk (v : Value) (acc : R) : (mixedTo xs ys k i = some acc) → (m (Str.ofString "a") = some (.ref la)) → (m (Str.ofString "b") = some (.ref lb)) → (m (Str.ofString "at") = some (.int (k : Int) t0)) → (m (Str.ofString "found") = some v) → (RatM nx v acc) → (∀ p ∈ nx, p.2.cls = .type "tuple") → MixJ xs ys k t0 la lb i m nx
set_option maxHeartbeats 8000000 in
theorem mixed_tells (w : World) (va vb : Value) (k : Nat) (t0 : Tok) (xs ys : List R) (r : R) (hx : k < xs.length) (hy : k < ys.length) (hk9 : k < 1000) (hr : mixedP xs ys k = some r) :
    Tells w 120 20 [va, vb, .int (k : Int) t0] (fun h => ListV h va xs ∧ ListV h vb ys) (fun h h' v => RatO h h' v r) := by
  unfold Tells
  intro prog p loose mean mg mb dp un gd cn cs a' ccd cl outer A₀ base h₀ L m s Q E B F X T hk hd hu hpre hret
  obtain ⟨⟨la, vsa, na, rfl, ea, ra⟩, ⟨lb, vsb, nb, rfl, eb, rb⟩⟩ := hpre
  have hla : s.heap.IsList la vsa.toArray := ⟨_, ea, rfl, _, rfl⟩
  have hlb : s.heap.IsList lb vsb.toArray := ⟨_, eb, rfl, _, rfl⟩
  unfold mixedP at hr
  refine wpAny_call ?_
  refine' code_pure (binds := [(Str.ofString "a", Value.ref la), (Str.ofString "b", Value.ref lb), (Str.ofString "at", Value.int (k : Int) t0)]) ?k1 ?k2 ?k3 ?k5 ?kA ?kF ?kK ?k6 ?k7 ?k8 ?k9 ?kB ?_ ?c2 ?c3 ?c4 ?c5; (case kA => exact rfl); (case kF => exact rfl); (case kK => assumption); (case k1 => k_asm); (case k2 => k_asm); (case k3 => k_asm); (case k5 => k_asm); (case k6 => k_is); (case k7 => k_is); (case k8 => first | exact dp_in hd | ktr_room); (case k9 => exact BindsTo.of_eq rfl); (case c5 => decide); (case kB => exact locs rfl); (case c2 => exact rfl); (case c3 => exact rfl); (case c4 => exact rfl)
  k_whole
  clear B F X T
  intro QQ hQQ hQN
  intro L' h' F' N' B' X' T'
  replace hret := fun r h' tk' x y => hQQ _ _ (hret r h' tk' x y)
  (try dsimp only)
  (try k_fold)
  k_with_none
  have h49 := at49 X'
  k_with "pyIter ref" => (refine halt ?_)
  k_with "TurnPost" => (refine halt ?_)
  k_with "TurnEnd" => (refine halt ?_)
  k_with "subscriptTail" => (
    refine' item_at2 ?k1 ?k2 ?k4 ?_ ?k6
    (case k1 => exact Fr.lst (by assumption) (by assumption))
    (case k2 => assumption)
    (case k4 => assumption)
    (case k6 => with_unfolding_all rfl)
    k_whole)
  k_with "compareOp NotEq ref ref" => (
    refine' ne_rat ?k1 ?k2 ?k3 ?_
    (case k1 => exact RatV.fr (by assumption) (by assumption))
    (case k2 => exact RatV.fr (by assumption) (by assumption))
    (case k3 => ke_room)
    k_whole)
  k_steps
  unfold Halt
  rename Fr _ _ _ _ => F1
  rename News _ _ _ _ => N1
  rename IsRange _ _ _ _ _ _ _ _ => rg
  refine range_inv (n := k + 1) (MixJ xs ys k t0 la lb)
    (by rfl) rg (rngk hk9).1 (rngk hk9).2 F1 (news := []) News.nil ⟨.ref 49, (0, 1), rfl, rfl, rfl, rfl, rfl, RatM.zero, fun _ hp => nomatch hp⟩ ?_ ?_ ?_
  · rintro i m nx ⟨_, _, _, _, _, _, _, _, hc⟩ p hp
    rw [hc p hp]
    exact .inl (by decide)
  · rintro PP i kk t m₁ nx h tk I it hPP hPR hPB hi hkk ⟨v, acc, hacc, ha, hb, hat, hf, hv, hcls⟩ F2 N2 hitc
    replace F2 : Fr s.heap L' h _ := fr_turn F2 [(Str.ofString "a", .ref la), (Str.ofString "b", .ref lb), (Str.ofString "at", .int (k : Int) t0), (Str.ofString "found", v)] (allc ha (allc hb (allc hat (all1 hf))))
    replace N2 : News s.heap L' h _ := N2
    dsimp only [kstB] at F2
    obtain ⟨e1, e2, bk1, bk2, hki⟩ := ar_m hkk hi hk9
    obtain ⟨vi, hvi, hri⟩ := ra.get (k := i) (Nat.lt_of_lt_of_le hi hx)
    obtain ⟨vj, hvj, hrj⟩ := rb.get (k := k - i) (Nat.lt_of_lt_of_le hki hy)
    obtain ⟨acc', hacc'⟩ := mixedTo_le hr (show i + 1 ≤ k + 1 from hi)
    have hacc2 := hacc'
    rw [mixedTo, hacc, Option.bind_some] at hacc'
    generalize xs.getD i (0, 1) = x at hri hacc'
    generalize ys.getD (k - i) (0, 1) = y at hrj hacc'
    rw [e1] at hvi
    rw [e2] at hvj
    clear ra rb F1 N1
    (try dsimp only)
    (try k_fold)
    obtain ⟨ai, ti, ui, ni, rfl, oi⟩ := id hri
    obtain ⟨aj, tj, uj, nj, rfl, oj⟩ := id hrj
    by_cases c1 : x = (0, 1)
    · rw [if_pos c1] at hacc'
      cases hacc'
      k_with "ite" => first
        | (refine' ite_pos ?c ?_; (case c => (simp [c1]; done)))
        | (refine' ite_neg ?c ?_; (case c => (simp [c1]; done)))
      k_steps
      all_goals (
        rename Fr _ _ _ _ => F9
        rename News _ _ _ _ => N9
        refine hPP _ ?_
        exact ⟨_, _, _, nx, rfl, F9, N9, v, acc, hacc2, rfl, rfl, rfl, rfl, hv, hcls⟩)
    · rw [if_neg c1] at hacc'
      by_cases c2 : y = (0, 1)
      · rw [if_pos c2] at hacc'
        cases hacc'
        k_with "ite" => first
          | (refine' ite_pos ?c ?_; (case c => (simp [c1, c2]; done)))
          | (refine' ite_neg ?c ?_; (case c => (simp [c1, c2]; done)))
        k_steps
        all_goals (
          rename Fr _ _ _ _ => F9
          rename News _ _ _ _ => N9
          refine hPP _ ?_
          exact ⟨_, _, _, nx, rfl, F9, N9, v, acc, hacc2, rfl, rfl, rfl, rfl, hv, hcls⟩)
      · rw [if_neg c2] at hacc'
        obtain ⟨pr, hp1, hp2⟩ := Option.bind_eq_some_iff.mp hacc'
        k_with "ite" => first
          | (refine' ite_pos ?c ?_; (case c => (simp [c1, c2]; done)))
          | (refine' ite_neg ?c ?_; (case c => (simp [c1, c2]; done)))
        k_with "call ref" => (
          refine' useN (rmul_tells _ _ _ _ _ pr hp1) ?k1 ?k2 ?k3 ?k4 ?k5 ?k6 ?k7 ?k8 ?k9 ?_
          (case k1 => k_asm)
          (case k2 => k_asm)
          (case k3 => k_asm)
          (case k4 => k_asm)
          (case k5 => k_asm)
          (case k6 => exact rfl)
          (case k7 => first | exact dp_lt hd (by decide) | ktr_room)
          (case k8 => first | exact un_lt hu (by decide) | ktr_units)
          (case k9 => exact ⟨RatV.fr (by assumption) (by assumption), RatV.fr (by assumption) (by assumption)⟩)
          k_whole
          intro a9 t9 u9 n9 h9 tk9 F9 N9
    
          (try dsimp only)
          (try k_sweep))
        k_with "call ref" => (
          refine' useN (radd_tells _ _ _ _ _ acc' hp2) ?k1 ?k2 ?k3 ?k4 ?k5 ?k6 ?k7 ?k8 ?k9 ?_
          (case k1 => k_asm)
          (case k2 => k_asm)
          (case k3 => k_asm)
          (case k4 => k_asm)
          (case k5 => k_asm)
          (case k6 => exact rfl)
          (case k7 => first | exact dp_lt hd (by decide) | ktr_room)
          (case k8 => first | exact un_lt hu (by decide) | ktr_units)
          (case k9 => exact ⟨RatM.val hv X' (by assumption) (by assumption) (fun p hp => .tail _ (.tail _ hp)), ratv_head (by assumption)⟩)
          k_whole
          intro a9 t9 u9 n9 h9 tk9 F9 N9
    
          (try dsimp only)
          (try k_sweep))
        k_steps
        all_goals (
          rename Fr _ _ _ _ => F9
          rename News _ _ _ _ => N9
          refine hPP _ ?_
          refine ⟨_, _, _, _, rfl, F9, news_two N9, _, acc', hacc2, rfl, rfl, rfl, rfl, RatM.new (.head _), ?_⟩
          intro p hp
          rw [List.mem_singleton.mp hp])
  · rintro m₁ nx h tk ⟨v, acc, hacc, ha, hb, hat, hf, hv, hcls⟩ F2 N2
    replace F2 : Fr s.heap L' h _ := fr_names F2 [(Str.ofString "found", v)] (all1 hf)
    replace N2 : News s.heap L' h _ := N2
    dsimp only [kstB] at F2
    cases hacc.symm.trans hr
    k_steps
    all_goals (
      rename Fr _ _ _ _ => F9
      rename News _ _ _ _ => N9
      exact hret _ _ _ F9.keep (hv.old F9 N9 fun _ h => h))
  all_goals k_steps
section
variable {prog : Program} {w : World} {A A₀ : Around} {s : Shared} {K : Frag} {L : Addr} {h₀ base : Heap} {m mg mb : Str → Option Value} {p : Program} {loose : List Str} {mean : ExcName → Option Value}
theorem code_pureC {env : Env} {outer : List Env} {R : Result → Shared → Prop} {name qual : Str} {params : Arguments} {body : List Stmt} {scope : Scope} {dV kV doc pm cdv ct oc : Value} {an od : Option Addr} {osl : Array (Option Value)} {f : Addr} {args : Args} {binds : List (Str × Value)}
    (B : Below A₀ base outer h₀) (F : Fr h₀ L s.heap m) (X₀ : K.In h₀) (T : Top p loose mean mg mb h₀) (hA : A.frames = some (env :: outer)) (hf : env.frame = some L) (hke : env.scope.kind = .function)
    (ho : K.lookup f = some ⟨oc, od, .func (fnOf name qual params body scope dV kV doc pm an cdv ct), osl⟩) (hcd : codeIn K cdv qual = true) (hroom : A.depth < recursionLimit)
    (hbind : BindsTo s (fnOf name qual params body scope dV kV doc pm an cdv ct) args binds) (hkind : (binds.all fun y => scope.names.lookup y.1 == some .local || scope.names.lookup y.1 == some .cell) = true)
    (hnd : ((cellsFrom 0 scope.names []).map (·.1)).Nodup)
    (h : ∀ (QQ : Flow → Shared → Prop), (∀ v s', R (.ok (.ret v)) s' → QQ (.ret v) s') → (∀ s', R (.ok (.ret .none)) s' → QQ .next s') → ∀ L' h₁ tk cells, Fr s.heap L' h₁ (bindL (envOfC qual scope L' f cdv).kindOf binds fun _ => none) → News s.heap L' h₁ cells →
      CellsAre (bindC (envOfC qual scope L' f cdv).kindOf binds fun _ => none) (cellsFrom (L' + 1) scope.names []) cells → Below A base (env :: outer) s.heap → K.In s.heap → Top p loose mean mg mb s.heap →
      wpAny (model prog w) (A.deeper (envOfC qual scope L' f cdv)) (execs body (envOfC qual scope L' f cdv)) QQ (fun _ _ => False)
        { s with heap := h₁, toks := tk })
    (hco : scope.isCoroutine = false) (hgen : scope.isGenerator = false) (hk : scope.kind = .function) : codeAny (model prog w) A (.call (.ref f) args) R s := by
  have B₁ := pushX B F hf hke
  refine codeAny_call_function hroom ((X₀.keeps F.keep) _ _ ho) rfl hco hgen rfl (codeRec_of (X₀.keeps F.keep) hcd) (hbind _ _ _ _ ?_)
  refine wpAny_newFunctionEnv_cells hk (kindsX hkind _) fun env' he s' x => ?_
  subst he
  refine ⟨(T.nolimit.keeps F.keep).keeps x.toInCall.keep, codeAny_func ?_⟩
  obtain ⟨h₁, tk, rfl, _⟩ := x.done
  have hk₁ := x.toInCall.keep
  obtain ⟨cells, NC, Y⟩ := Cl.news (h₀ := s.heap) (Nat.le_refl _) fun n c hm => ⟨x.cell n c (lookup_of_mem_nodup (cellsFrom_names scope.names 0 (s.heap.objs.size + 1) [] [] rfl ▸ hnd) hm), x.above n c hm⟩
  exact wpAny_noRaise <| h _ (fun _ _ q => q) (fun _ q => q) s.heap.objs.size h₁ tk cells ⟨x.toInCall.ns, hk₁, Nat.le_refl _⟩ NC Y ⟨hA, fun b o e => F.keep b o (B.stays b o e), B₁.frames⟩ (X₀.keeps F.keep) (T.keeps F.keep)
end
theorem len_at {prog : Program} {w : World} {A : Around} {E : Value → Shared → Prop} {s : Shared} {Q : Value → Shared → Prop} {l : Addr} {vs : List Value} {n : Nat} (hl : s.heap.IsList l vs.toArray) (e : vs.length = n) (hf : n < 4611686018427387904)
    (h : Q (.int (n : Int) (s.toks + 1)) { s with toks := s.toks + 1 + 1 }) : wpAny (model prog w) A (call (.builtin "len") [.ref l]) Q E s := by
  have e2 : vs.toArray.size = n := by rw [List.size_toArray, e]
  exact len_list hl (by rw [e2]; omega) (by rw [e2]; exact h)
inductive RatsM (nx : List (Addr × Obj)) : List Value → List R → Prop
  | nil : RatsM nx [] []
  | cons {v : Value} {vs : List Value} {x : R} {xs : List R} : RatM nx v x → RatsM nx vs xs → RatsM nx (v :: vs) (x :: xs)
theorem RatM.mono {nx ny : List (Addr × Obj)} {v : Value} {x : R} (r : RatM nx v x) (hs : ∀ p ∈ nx, p ∈ ny) : RatM ny v x := by
  cases r with
  | zero => exact .zero
  | one => exact .one
  | new hm => exact .new (hs _ hm)
theorem RatsM.mono {nx ny : List (Addr × Obj)} {vs : List Value} {xs : List R} (r : RatsM nx vs xs) (hs : ∀ p ∈ nx, p ∈ ny) : RatsM ny vs xs := by
  induction r with
  | nil => exact .nil
  | cons a _ ih => exact .cons (a.mono hs) ih
theorem RatsM.snoc {nx : List (Addr × Obj)} {vs : List Value} {xs : List R} {v : Value} {x : R} (r : RatsM nx vs xs) (q : RatM nx v x) : RatsM nx (vs ++ [v]) (xs ++ [x]) := by
  induction r with
  | nil => exact .cons q .nil
  | cons a _ ih => exact .cons a ih
theorem RatsM.val {w : World} {h₀ h : Heap} {L : Addr} {m : Str → Option Value} {nx ny : List (Addr × Obj)} {vs : List Value} {xs : List R} (r : RatsM nx vs xs) (X : (Mine.hd.heap_39 w.params).In h₀) (F : Fr h₀ L h m) (N : News h₀ L h ny) (hs : ∀ p ∈ nx, p ∈ ny) : RatsV h vs xs := by
  induction r with
  | nil => exact .nil
  | cons a _ ih => exact .cons (a.val X F N hs) ih
noncomputable def EltPost (s : Shared) (h : Heap) (x : R) (y : Value) (s₂ : Shared) : Prop := ∃ h' tk', s₂ = { s with heap := h', toks := tk' } ∧ Ext h h' ∧ RatO h h' y x
theorem RatO.up {h h' h'' : Heap} {v : Value} {x : R} (r : RatO h h' v x) (e : Ext h' h'') : RatO h h'' v x := by
  rcases r with r | r | ⟨a, t, u, n, q, hn, o⟩
  · exact .inl r
  · exact .inr (.inl r)
  · exact .inr (.inr ⟨a, t, u, n, q, hn, e _ _ o⟩)
section
variable {prog : Program} {w : World} {A : Around} {h₀ : Heap} {L : Addr} {m : Str → Option Value} {env : Env} {elt : Expr} {x : Str} {scope : Scope} {cl : List (Str × Addr)} {s : Shared} {S : List (Addr × Obj) → Prop} {P : Nat → Value → Prop} {Fin : List Value → List (Addr × Obj) → Prop} {news : List (Addr × Obj)}
theorem comp_rats {n : Nat} {zs : List R} (hz : zs.length = n) (hS : ∀ nx, S news → (∀ p ∈ news, p ∈ nx) → S nx) (hS0 : S news)
    (turn : ∀ i v I oI C oC D m₂ ys h tk (E' : Value → Shared → Prop), i < n → P i v → LCg.NsObj oC m₂ → m₂ x = some v → Fr h₀ L h m → News h₀ L h ((I, oI) :: (C, oC) :: (D, LCg.lst ys) :: news) →
      wpAny (model prog w) A (eval elt (compEnvC scope cl C env)) (EltPost s h (zs.getD i (0, 1))) E' { s with heap := h, toks := tk })
    (fin : ∀ ys nx, (∀ p ∈ news, p ∈ nx) → RatsM nx ys zs → Fin ys nx) : LCg.CompRest prog w A h₀ L m env elt x scope cl s S P Fin n 0 [] news := by
  have key : ∀ (j i : Nat) (ys : List Value) (nx : List (Addr × Obj)), i + j = n → (∀ p ∈ news, p ∈ nx) → RatsM nx ys (zs.take i) → LCg.CompRest prog w A h₀ L m env elt x scope cl s S P Fin j i ys nx := by
    intro j
    induction j with
    | zero =>
      intro i ys nx hi hs hy
      have e : i = zs.length := by omega
      subst e
      rw [List.take_length] at hy
      exact LCg.CompRest.zero (fin ys nx hs hy)
    | succ j ih =>
      intro i ys nx hi hs hy
      refine LCg.CompRest.succ ?_
      intro v I oI C oC D m₂ h tk E' hv hC hx F N off ne
      have hlt : i < zs.length := by omega
      have htk : zs.take (i + 1) = zs.take i ++ [zs.getD i (0, 1)] := by
        rw [List.take_add_one, List.getElem?_eq_getElem hlt, List.getD_eq_getElem?_getD, List.getElem?_eq_getElem hlt]
        rfl
      refine wpAny_mono (turn i v I oI C oC D m₂ ys h tk E' (by omega) hv hC hx F (fun p hp => by
        rcases List.mem_cons.mp hp with rfl | hp
        · exact N _ (.head _)
        rcases List.mem_cons.mp hp with rfl | hp
        · exact N _ (.tail _ (.head _))
        rcases List.mem_cons.mp hp with rfl | hp
        · exact N _ (.tail _ (.tail _ (.head _)))
        · exact N _ (.tail _ (.tail _ (.tail _ (hs p hp)))))) (fun y s₂ hq => ?_) fun _ _ e => e
      obtain ⟨h', tk', rfl, hx', hr⟩ := hq
      have F' : Fr h₀ L h' m := ⟨F.ns.keeps hx', fun b o e => hx' b o (F.keep b o e), F.above⟩
      have N' : News h₀ L h' ((I, oI) :: (C, oC) :: (D, LCg.lst ys) :: nx) := fun p hp => ⟨hx' _ _ (N p hp).1, (N p hp).2⟩
      rcases hr with ⟨rfl, hz0⟩ | ⟨rfl, hz0⟩ | ⟨a, t, u, k, rfl, hn, ho⟩
      · refine ⟨h', tk', nx, rfl, F', N', off, hS _ hS0 hs, ?_⟩
        refine ih (i + 1) _ nx (by omega) hs ?_
        rw [htk, hz0]
        exact hy.snoc .zero
      · refine ⟨h', tk', nx, rfl, F', N', off, hS _ hS0 hs, ?_⟩
        refine ih (i + 1) _ nx (by omega) hs ?_
        rw [htk, hz0]
        exact hy.snoc .one
      · have off3 := off.mem
        have fresh : ∀ p ∈ (I, oI) :: (C, oC) :: (D, LCg.lst ys) :: nx, p.1 ≠ a := fun p hp e => by
          have := (N p hp).1
          rw [e, hn] at this
          cases this
        refine ⟨h', tk', (a, tupO (zs.getD i (0, 1)).1 (zs.getD i (0, 1)).2 t u k) :: nx, rfl, F', ?_, LCg.Off3.of ?_, hS _ hS0 (fun p hp => .tail _ (hs p hp)), ?_⟩
        · intro p hp
          rcases List.mem_cons.mp hp with rfl | hp
          · exact N' _ (.head _)
          rcases List.mem_cons.mp hp with rfl | hp
          · exact N' _ (.tail _ (.head _))
          rcases List.mem_cons.mp hp with rfl | hp
          · exact N' _ (.tail _ (.tail _ (.head _)))
          rcases List.mem_cons.mp hp with rfl | hp
          · refine ⟨ho, frame_ne F' ho, none_of F.keep hn⟩
          · exact N' _ (.tail _ (.tail _ (.tail _ hp)))
        · intro p hp
          rcases List.mem_cons.mp hp with rfl | hp
          · exact ⟨Ne.symm (fresh _ (.head _)), Ne.symm (fresh _ (.tail _ (.head _))), Ne.symm (fresh _ (.tail _ (.tail _ (.head _))))⟩
          · exact off3 p hp
        · refine ih (i + 1) _ _ (by omega) (fun p hp => .tail _ (hs p hp)) ?_
          rw [htk]
          exact (hy.mono fun p hp => .tail _ hp).snoc (.new (.head _))
  exact key n 0 [] news (by omega) (fun _ h => h) .nil
end
noncomputable def smulTo (xs ys : List R) : Nat → Option (List R)
  | 0 => some []
  | n + 1 => (smulTo xs ys n).bind fun acc => (mixedP xs ys n).bind fun z => if smR z = true then some (acc ++ [z]) else none
noncomputable def smulP (xs ys : List R) : Option (List R) := smulTo xs ys (min xs.length ys.length)
theorem smulTo_some {xs ys : List R} : ∀ {n : Nat} {zs : List R}, smulTo xs ys n = some zs → zs.length = n ∧ ∀ i, i < n → mixedP xs ys i = some (zs.getD i (0, 1)) ∧ smR (zs.getD i (0, 1)) = true := by
  intro n
  induction n with
  | zero => intro zs h; cases h; exact ⟨rfl, fun i hi => absurd hi (Nat.not_lt_zero _)⟩
  | succ n ih =>
    intro zs h
    obtain ⟨acc, ha, h⟩ := Option.bind_eq_some_iff.mp h
    obtain ⟨z, hz, h⟩ := Option.bind_eq_some_iff.mp h
    split at h
    · rename_i hs
      cases h
      obtain ⟨hl, hi⟩ := ih ha
      refine ⟨by rw [List.length_append, hl]; rfl, fun i hlt => ?_⟩
      by_cases e : i = n
      · subst e
        have : (acc ++ [z]).getD i (0, 1) = z := by
          rw [List.getD_eq_getElem?_getD, List.getElem?_append_right (by omega), hl, Nat.sub_self]
          rfl
        rw [this]
        exact ⟨hz, hs⟩
      · have : (acc ++ [z]).getD i (0, 1) = acc.getD i (0, 1) := by
          rw [List.getD_eq_getElem?_getD, List.getD_eq_getElem?_getD, List.getElem?_append_left (by omega)]
        rw [this]
        exact hi i (by omega)
    · cases h
noncomputable def ListNew (h h' : Heap) (v : Value) (xs : List R) : Prop := ∃ a vs n nx, v = .ref a ∧ h.get? a = none ∧ h'.get? a = some (listOf vs.toArray n) ∧ RatsM nx vs xs ∧ (∀ p ∈ nx, h'.get? p.1 = some p.2 ∧ h.get? p.1 = none)
set_option maxHeartbeats 1500000 in
theorem smul_tells (w : World) (va vb : Value) (xs ys zs : List R) (hx : xs.length ≤ 64) (hy : ys.length ≤ 64) (hr : smulP xs ys = some zs) : Tells w 125 40 [va, vb] (fun h => ListV h va xs ∧ ListV h vb ys) (fun h h' v => ListNew h h' v zs) := by
  unfold Tells
  intro prog p loose mean mg mb dp un gd cn cs a' ccd cl outer A₀ base h₀ L m s Q E B F X T hk hd hu hpre hret
  obtain ⟨⟨la, vsa, na, rfl, ea, ra⟩, ⟨lb, vsb, nb, rfl, eb, rb⟩⟩ := hpre
  have hla : s.heap.IsList la vsa.toArray := ⟨_, ea, rfl, _, rfl⟩
  have hlb : s.heap.IsList lb vsb.toArray := ⟨_, eb, rfl, _, rfl⟩
  have lna := ra.length
  have lnb := rb.length
  obtain ⟨hzl, hzi⟩ := smulTo_some hr
  refine wpAny_call ?_
  refine' code_pureC (binds := [(Str.ofString "a", Value.ref la), (Str.ofString "b", Value.ref lb)]) ?k1 ?k2 ?k3 ?k5 ?kA ?kF ?kK ?k6 ?k7 ?k8 ?k9 ?kB ?kD ?_ ?c2 ?c3 ?c4; (case kA => exact rfl); (case kF => exact rfl); (case kK => assumption); (case k1 => k_asm); (case k2 => k_asm); (case k3 => k_asm); (case k5 => k_asm); (case k6 => k_is); (case k7 => k_is); (case k8 => first | exact dp_in hd | ktr_room); (case k9 => exact BindsTo.of_eq rfl); (case kB => exact rfl); (case kD => decide +kernel); (case c2 => exact rfl); (case c3 => exact rfl); (case c4 => exact rfl)
  k_whole
  clear B F X T
  intro QQ hQQ hQN
  intro L' h' tk' cells' F' N' Y' B' X' T'
  replace hret := fun r h' tk' x y => hQQ _ _ (hret r h' tk' x y)
  k_cells Y'
  (try simp only [List.cons_append, List.nil_append] at N')
  (try dsimp only)
  (try k_fold)
  k_with_none
  k_with "call builtin:len" => (
    refine' len_at ?k1 ?k2 ?k3 ?_
    (case k1 => exact Fr.lst (by assumption) (by assumption))
    (case k2 => assumption)
    (case k3 => omega)
    k_whole)

  k_with "CompSrc" => (refine halt ?_)
  k_steps
  unfold Halt
  rename Fr _ _ _ _ => F1
  rename News _ _ _ _ => N1
  rename IsRange _ _ _ _ _ _ _ _ => rg
  refine LCg.CompSrc.range (n := min xs.length ys.length) (by rfl) F1 N1 rg (small_one (by decide) (by decide) (by split <;> omega) (by split <;> omega)) ((rangeSize_nat _ _).trans (by split <;> omega)) (by rw [sizeLine_eq]; omega) ?_
  rintro g9
  refine comp_rats hzl (fun _ _ _ => trivial) trivial ?_ ?_
  · rintro i v I oI C oC D m₂ zs' h tk E' hi ⟨t, hv⟩ hC hm₂ F2 N2
    rw [hv, Int.zero_add] at hm₂
    obtain ⟨hm1, hm2⟩ := hzi i hi
    generalize zs.getD i (0, 1) = z at hm1 hm2
    clear F1 N1
    k_with "call ref" => (
      refine' use (mixed_tells w _ _ i _ xs ys z (by omega) (by omega) (by omega) hm1) ?k1 ?k2 ?k3 ?k4 ?k5 ?k6 ?k7 ?k8 ?k9 ?_
      (case k1 => k_asm)
      (case k2 => k_asm)
      (case k3 => k_asm)
      (case k4 => k_asm)
      (case k5 => k_asm)
      (case k6 => exact rfl)
      (case k7 => first | exact dp_lt hd (by decide) | ktr_room)
      (case k8 => first | exact un_lt hu (by decide) | ktr_units)
      (case k9 => exact ⟨ListV.ext ⟨la, vsa, na, rfl, ea, ra⟩ (by exact Fr.keep (by assumption)), ListV.ext ⟨lb, vsb, nb, rfl, eb, rb⟩ (by exact Fr.keep (by assumption))⟩)
      k_whole
      rintro r9 h9 tk9 x9 F9 N9 y9
      (try dsimp only))
    k_with "call ref" => (
      refine' use (let_tells w _ z hm2) ?k1 ?k2 ?k3 ?k4 ?k5 ?k6 ?k7 ?k8 ?k9 ?_
      (case k1 => k_asm)
      (case k2 => k_asm)
      (case k3 => k_asm)
      (case k4 => k_asm)
      (case k5 => k_asm)
      (case k6 => exact rfl)
      (case k7 => first | exact dp_lt hd (by decide) | ktr_room)
      (case k8 => first | exact un_lt hu (by decide) | ktr_units)
      (case k9 => exact RatO.val (by assumption) (X'.keeps (by exact Fr.keep (by assumption))))
      k_whole
      rintro _ h8 tk8 x8 F8 N8 rfl
      (try dsimp only))
    k_steps
    all_goals exact ⟨_, _, rfl, fun b o e => x8 _ _ (x9 _ _ e), y9.up x8⟩
  · rintro ys' nx hs hm D h9 tk9 F9 N9 o9
    refine hret _ _ _ F9.keep ⟨D, ys', _, nx, rfl, (N9 _ (.head _)).2.2, (N9 _ (.head _)).1, hm, fun p hp => ⟨(N9 _ (.tail _ hp)).1, (N9 _ (.tail _ hp)).2.2⟩⟩
theorem eq_rat {prog : Program} {w : World} {A : Around} {E : Value → Shared → Prop} {s : Shared} {Q : Value → Shared → Prop} {v1 v2 : Value} {x y : R} (r1 : RatV s.heap v1 x) (r2 : RatV s.heap v2 y) (hu : A.units + 64 < cLine) (h : Q (.bool (decide (x = y))) s) :
    wpAny (model prog w) A (compareOp .Eq v1 v2) Q E s := by
  obtain ⟨as, e1⟩ := rat_reads r1
  obtain ⟨bs, e2⟩ := rat_reads r2
  refine eq_dataH e1 e2 (by rfl) (by rfl) hu ?_
  have : PyData.eqv (.tuple [.int x.1, .int x.2]) (.tuple [.int y.1, .int y.2]) = decide (x = y) := by
    obtain ⟨x1, x2⟩ := x
    obtain ⟨y1, y2⟩ := y
    simp only [PyData.eqv, PyData.eqvAll, Prod.mk.injEq, Bool.and_true]
    by_cases h1 : x1 = y1 <;> by_cases h2 : x2 = y2 <;> simp [h1, h2]
  rw [this]
  exact h
theorem append_mine {prog : Program} {w : World} {A : Around} {E : Value → Shared → Prop} {s : Shared} {h₀ : Heap} {L : Addr} {m : Str → Option Value} {Q : Value → Shared → Prop} {lf : Addr} {vs : List Value} {n : Nat} {v : Value} {news : List (Addr × Obj)} (ws : List (Addr × Obj))
    (F : Fr h₀ L s.heap m) (N : News h₀ L s.heap news) (hm : (lf, listOf vs.toArray n) ∈ news) (hw : ∀ p ∈ ws, p ∈ news ∧ p.2.cls ≠ .type "list") (hsz : vs.length ≤ 1000)
    (h : ∀ h', Fr h₀ L h' m → News h₀ L h' ((lf, listOf (vs ++ [v]).toArray (n + 1)) :: ws) → Q .none { s with heap := h' }) : wpAny (model prog w) A (call (.builtin "list.append") [.ref lf, v]) Q E s := by
  have N₁ : News h₀ L s.heap ((lf, listOf vs.toArray n) :: ws) := fun p hp => by
    rcases List.mem_cons.mp hp with rfl | hp
    · exact N _ hm
    · exact N p (hw p hp).1
  refine append_K (hsz := by rw [List.size_toArray, sizeLine_eq]; omega) F N₁ (.head fun p hp e => ?_) fun h' F' N' => ?_
  · have e1 := (N p (hw p hp).1).1
    rw [e, (N _ hm).1] at e1
    exact (hw p hp).2 (by rw [← Option.some.inj e1])
  · refine h h' F' ?_
    rw [List.push_toArray] at N'
    exact N'
theorem RatsM.length {nx : List (Addr × Obj)} {vs : List Value} {xs : List R} (r : RatsM nx vs xs) : vs.length = xs.length := by
  induction r with
  | nil => rfl
  | cons _ _ ih => rw [List.length_cons, List.length_cons, ih]
theorem RatsM.get {nx : List (Addr × Obj)} {vs : List Value} {xs : List R} (r : RatsM nx vs xs) : ∀ {k : Nat}, k < xs.length → ∃ v, vs[k]? = some v ∧ RatM nx v (xs.getD k (0, 1)) := by
  induction r with
  | nil => intro k hk; exact absurd hk (Nat.not_lt_zero _)
  | cons a _ ih =>
    intro k hk
    cases k with
    | zero => exact ⟨_, rfl, a⟩
    | succ k => exact ih (Nat.lt_of_succ_lt_succ hk)
noncomputable def sinvIn (xs fs : List R) (at' : Nat) : Nat → Option R
  | 0 => some (if at' = 0 then (1, 1) else (0, 1))
  | n + 1 => (sinvIn xs fs at' n).bind fun tot => (opP mulF (xs.getD (n + 1) (0, 1)) (fs.getD (at' - (n + 1)) (0, 1))).bind fun z => opP subF tot z
noncomputable def sinvTo (xs : List R) : Nat → Option (List R)
  | 0 => some []
  | n + 1 => (sinvTo xs n).bind fun fs => (sinvIn xs fs n n).bind fun tot => (opP divF tot (xs.getD 0 (0, 1))).bind fun z => if smR z = true then some (fs ++ [z]) else none
noncomputable def sinvP (xs : List R) : Option (List R) := if xs.getD 0 (0, 1) = (0, 1) then none else sinvTo xs xs.length
theorem sinvTo_le {xs : List R} {i : Nat} : ∀ {n : Nat} {r : List R}, sinvTo xs n = some r → i ≤ n → ∃ q, sinvTo xs i = some q := by
  intro n
  induction n with
  | zero => intro r h hi; exact ⟨r, by rw [Nat.le_zero.mp hi]; exact h⟩
  | succ n ih =>
    intro r h hi
    by_cases e : i = n + 1
    · exact ⟨r, e ▸ h⟩
    · obtain ⟨acc, ha, _⟩ := Option.bind_eq_some_iff.mp h
      exact ih ha (by omega)
theorem sinvIn_le {xs fs : List R} {k i : Nat} : ∀ {n : Nat} {r : R}, sinvIn xs fs k n = some r → i ≤ n → ∃ q, sinvIn xs fs k i = some q := by
  intro n
  induction n with
  | zero => intro r h hi; exact ⟨r, by rw [Nat.le_zero.mp hi]; exact h⟩
  | succ n ih =>
    intro r h hi
    by_cases e : i = n + 1
    · exact ⟨r, e ▸ h⟩
    · obtain ⟨acc, ha, _⟩ := Option.bind_eq_some_iff.mp h
      exact ih ha (by omega)
theorem sinvTo_len {xs : List R} : ∀ {n : Nat} {r : List R}, sinvTo xs n = some r → r.length = n := by
  intro n
  induction n with
  | zero => intro r h; cases h; rfl
  | succ n ih =>
    intro r h
    obtain ⟨fs, ha, h⟩ := Option.bind_eq_some_iff.mp h
    obtain ⟨tot, hb, h⟩ := Option.bind_eq_some_iff.mp h
    obtain ⟨z, hz, h⟩ := Option.bind_eq_some_iff.mp h
    split at h
    · cases h
      rw [List.length_append, ih ha]; rfl
    · cases h
theorem append_2 {prog : Program} {w : World} {A : Around} {E : Value → Shared → Prop} {s : Shared} {h₀ : Heap} {L : Addr} {m : Str → Option Value} {Q : Value → Shared → Prop} {lf : Addr} {vs : List Value} {n : Nat} {v : Value} {x : Addr × Obj} {ws : List (Addr × Obj)}
    (F : Fr h₀ L s.heap m) (N : News h₀ L s.heap (x :: (lf, listOf vs.toArray n) :: ws)) (hx : x.2.cls ≠ .type "list") (hw : ∀ p ∈ ws, p.2.cls ≠ .type "list") (hsz : vs.length ≤ 1000)
    (h : ∀ h', Fr h₀ L h' m → News h₀ L h' ((lf, listOf (vs ++ [v]).toArray (n + 1)) :: x :: ws) → Q .none { s with heap := h' }) : wpAny (model prog w) A (call (.builtin "list.append") [.ref lf, v]) Q E s := by
  refine append_mine (x :: ws) F N (.tail _ (.head _)) (fun p hp => ?_) hsz h
  rcases List.mem_cons.mp hp with rfl | hp
  · exact ⟨.head _, hx⟩
  · exact ⟨.tail _ (.tail _ hp), hw p hp⟩
theorem news_5 {h₀ h : Heap} {L : Addr} {a b c d e : Addr × Obj} {l : List (Addr × Obj)} (N : News h₀ L h (a :: b :: c :: d :: e :: l)) : News h₀ L h (c :: d :: e :: a :: l) := fun p hp => N p (by
  simp only [List.mem_cons] at hp ⊢
  rcases hp with hp | hp | hp | hp | hp <;> simp [hp])
theorem news_3 {h₀ h : Heap} {L : Addr} {a b c : Addr × Obj} {l : List (Addr × Obj)} (N : News h₀ L h (a :: b :: c :: l)) : News h₀ L h (c :: a :: b :: l) := fun p hp => N p (by
  simp only [List.mem_cons] at hp ⊢
  rcases hp with hp | hp | hp | hp <;> simp [hp])
theorem news_2 {h₀ h : Heap} {L : Addr} {a b : Addr × Obj} {l : List (Addr × Obj)} (N : News h₀ L h (a :: b :: l)) : News h₀ L h (b :: a :: l) := fun p hp => N p (by
  simp only [List.mem_cons] at hp ⊢
  rcases hp with hp | hp | hp <;> simp [hp])
theorem cut_at {M : Model} {A : Around} {ss : List Stmt} {env : Env} {Q : Flow → Shared → Prop} {E : Value → Shared → Prop} {s : Shared} (k : Nat) (P : Shared → Prop)
    (h1 : ∀ s', P s' → wpAny M A (execs (ss.drop k) env) Q E s')
    (h2 : (∀ s', P s' → wpAny M A (execs (ss.drop k) env) Q E s') → wpAny M A (execs ss env) Q E s) : wpAny M A (execs ss env) Q E s := h2 h1
theorem list_ne_rng : Value.type "list" ≠ Value.type "range_iterator" := by decide
theorem tup_ne_list : Value.type "tuple" ≠ Value.type "list" := by decide
theorem cls_cons {x : Addr × Obj} {l : List (Addr × Obj)} {c : Value} (h : x.2.cls = c) (r : ∀ p ∈ l, p.2.cls = c) : ∀ p ∈ x :: l, p.2.cls = c := allc h r
inductive SinvC (s : Shared) (L' la lf : Addr) (kk : Int) (t : Tok) (tl led : List (Addr × Obj)) (x : R) (s' : Shared) : Prop
  | mk (h' : Heap) (tk' : Nat) (mm : Str → Option Value) (v : Value) : s' = { s with heap := h', toks := tk' } → Fr s.heap L' h' mm → mm (Str.ofString "a") = some (.ref la) → mm (Str.ofString "found") = some (.ref lf) → mm (Str.ofString "at") = some (.int kk t) → mm (Str.ofString "total") = some v → News s.heap L' h' led → RatM tl v x → SinvC s L' la lf kk t tl led x s'
inductive SinvJ (xs : List R) (la : Addr) (i : Nat) (m : Str → Option Value) (nx : List (Addr × Obj)) : Prop
  | mk (lf : Addr) (fs : List R) (vs : List Value) (n : Nat) (tl : List (Addr × Obj)) : sinvTo xs i = some fs → m (Str.ofString "a") = some (.ref la) → m (Str.ofString "found") = some (.ref lf) → nx = (lf, listOf vs.toArray n) :: tl → RatsM tl vs fs → (∀ p ∈ tl, p.2.cls = .type "tuple") → SinvJ xs la i m nx
inductive SinvK (xs fs : List R) (i : Nat) (la lf : Addr) (kk : Int) (t : Tok) (vs : List Value) (n : Nat) (I : Addr) (it : Obj) (j : Nat) (m : Str → Option Value) (nx : List (Addr × Obj)) : Prop
  | mk (v : Value) (tt : R) (rest : List (Addr × Obj)) : sinvIn xs fs i j = some tt → m (Str.ofString "a") = some (.ref la) → m (Str.ofString "found") = some (.ref lf) → m (Str.ofString "at") = some (.int kk t) → m (Str.ofString "total") = some v → nx = (lf, listOf vs.toArray n) :: (I, it) :: rest → RatsM rest vs fs → RatM rest v tt → (∀ p ∈ rest, p.2.cls = .type "tuple") → SinvK xs fs i la lf kk t vs n I it j m nx
set_option maxHeartbeats 8000000 in
theorem sinverse_tells (w : World) (va : Value) (xs zs : List R) (hx : xs.length ≤ 64) (hx0 : 0 < xs.length) (hr : sinvP xs = some zs) : Tells w 132 40 [va] (fun h => ListV h va xs) (fun h h' v => ListNew h h' v zs) := by
  unfold Tells
  intro prog p loose mean mg mb dp un gd cn cs a' ccd cl outer A₀ base h₀ L m s Q E B F X T hk hd hu hpre hret
  obtain ⟨la, vsa, na, rfl, ea, ra⟩ := hpre
  have hla : s.heap.IsList la vsa.toArray := ⟨_, ea, rfl, _, rfl⟩
  have lna := ra.length
  obtain ⟨v0, hv0, hr0⟩ := ra.get (k := 0) hx0
  obtain ⟨a0, t0, u0, n0, rfl, o0⟩ := id hr0
  unfold sinvP at hr
  by_cases c0 : xs.getD 0 (0, 1) = (0, 1)
  · rw [if_pos c0] at hr; cases hr
  rw [if_neg c0] at hr
  refine wpAny_call ?_
  refine' code_pure (binds := [(Str.ofString "a", Value.ref la)]) ?k1 ?k2 ?k3 ?k5 ?kA ?kF ?kK ?k6 ?k7 ?k8 ?k9 ?kB ?_ ?c2 ?c3 ?c4 ?c5; (case kA => exact rfl); (case kF => exact rfl); (case kK => assumption); (case k1 => k_asm); (case k2 => k_asm); (case k3 => k_asm); (case k5 => k_asm); (case k6 => k_is); (case k7 => k_is); (case k8 => first | exact dp_in hd | ktr_room); (case k9 => exact BindsTo.of_eq rfl); (case c5 => decide); (case kB => exact locs rfl); (case c2 => exact rfl); (case c3 => exact rfl); (case c4 => exact rfl)
  k_whole
  clear B F X T
  intro QQ hQQ hQN
  intro L' h' F' N' B' X' T'
  replace hret := fun r h' tk' x y => hQQ _ _ (hret r h' tk' x y)
  (try dsimp only)
  (try k_fold)
  k_with_none
  have h49 := at49 X'
  k_with "call builtin:len" => (
    refine' len_at ?k1 ?k2 ?k3 ?_
    (case k1 => exact Fr.lst (by assumption) (by assumption))
    (case k2 => assumption)
    (case k3 => omega)
    k_whole)
  k_with "subscriptTail" => k_dflt (
    (refine' item_at ?k1 ?k2 ?k4 ?_ ?k6)
    (case k1 => first
      | exact Fr.lst (by assumption) (by assumption)
      | exact News.isList (by assumption) (List.Mem.head _)
      | exact News.isList (by assumption) (.tail _ (List.Mem.head _))
      | exact News.isList (by assumption) (.tail _ (.tail _ (List.Mem.head _)))
      | exact News.isList (by assumption) (.tail _ (.tail _ (.tail _ (List.Mem.head _)))))
    (case k2 => first | assumption | decide)
    (case k4 => assumption)
    (case k6 => with_unfolding_all rfl)
    k_whole)
  k_with "compareOp Eq ref ref" => (
    refine' eq_rat ?k1 ?k2 ?k3 ?_
    (case k1 => exact RatV.fr (by assumption) (by assumption))
    (case k2 => exact RatV.fr (by assumption) (by assumption))
    (case k3 => ke_room)
    k_whole)
  k_with "pyIter ref" => (refine halt ?_)
  k_with "TurnPost" => (refine halt ?_)
  k_with "TurnEnd" => (refine halt ?_)
  k_with "CompSrc" => (refine halt ?_)
  k_with "call builtin:list.append" => (refine halt ?_)
  k_with "ite" => first
    | (refine' ite_pos ?c ?_; (case c => (simp [c0, hx0]; done)))
    | (refine' ite_neg ?c ?_; (case c => (simp [c0, hx0]; done)))

  k_steps
  unfold Halt
  rename Fr _ _ _ _ => F1
  rename News _ _ _ _ => N1
  rename IsRange _ _ _ _ _ _ _ _ => rg
  refine range_inv (n := xs.length) (SinvJ xs la)
    (by rfl) rg (rng0 hx).1 (rng0 hx).2 F1 N1 ⟨_, [], [], 0, [], rfl, rfl, rfl, rfl, .nil, fun _ hp => nomatch hp⟩ ?_ ?_ ?_
  · rintro i m nx ⟨lf, fs, vs, n, tl, _, _, _, rfl, _, hc⟩ p hp
    rcases List.mem_cons.mp hp with rfl | hp
    · exact .inl list_ne_rng
    · rw [hc p hp]
      exact .inl (by decide)
  · rintro PP i kk t m₁ nx h tk I it hPP hPR hPB hi hkk ⟨lf, fs, vs, n, tl, hfs, ha, hf, rfl, hM, hcls⟩ F2 N2 hitc
    replace F2 : Fr s.heap L' h _ := fr_turn F2 [(Str.ofString "a", .ref la), (Str.ofString "found", .ref lf)] (allc ha (all1 hf))
    replace N2 : News s.heap L' h _ := N2
    dsimp only [kstB] at F2
    obtain ⟨fs', hfs'⟩ := sinvTo_le hr (show i + 1 ≤ xs.length from hi)
    have hfs2 := hfs'
    rw [sinvTo, hfs, Option.bind_some] at hfs'
    obtain ⟨tot, htot, hfs'⟩ := Option.bind_eq_some_iff.mp hfs'
    obtain ⟨z, hz, hfs'⟩ := Option.bind_eq_some_iff.mp hfs'
    split at hfs'
    case isFalse => cases hfs'
    rename_i hsz
    cases hfs'
    have hfl := sinvTo_len hfs
    have lvs := hM.length
    clear F1 N1 rg
    (try dsimp only)
    (try k_fold)
    refine cut_at 1 (SinvC s L' la lf kk t tl ((I, it) :: (lf, listOf vs.toArray n) :: tl) (if i = 0 then (1, 1) else (0, 1))) ?_ ?_
    case refine_1 =>
      rintro _ ⟨h, tk, m₁, v0, rfl, F2, ha, hf, hat, htt0, N2, hv0⟩
      replace F2 : Fr s.heap L' h _ := fr_names F2 [(Str.ofString "a", .ref la), (Str.ofString "found", .ref lf), (Str.ofString "at", .int kk t), (Str.ofString "total", v0)] (allc ha (allc hf (allc hat (all1 htt0))))
      dsimp only [kstB] at F2
      dsimp only [List.drop]
      k_steps
      unfold Halt
      rename Fr _ _ _ _ => F3
      rename News _ _ _ _ => N3
      rename IsRange _ _ _ _ _ _ _ _ => rg2
      replace N3 := news_2 N3
      refine range_inv (n := i) (SinvK xs fs i la lf kk t vs n I it)
        (by rfl) rg2 (rng1 hkk (Nat.lt_of_lt_of_le hi hx)).1 (rng1 hkk (Nat.lt_of_lt_of_le hi hx)).2 F3 N3 ⟨_, _, tl, rfl, rfl, rfl, rfl, rfl, rfl, hM, hv0, hcls⟩ ?_ ?_ ?_
      · rintro j m nx ⟨v, tt, rest, _, _, _, _, _, rfl, _, _, hc⟩ p hp
        rcases List.mem_cons.mp hp with rfl | hp
        · exact .inl list_ne_rng
        rcases List.mem_cons.mp hp with rfl | hp
        · exact .inr (.tail _ (.head _))
        · rw [hc p hp]
          exact .inl (by decide)
      · rintro PP j k2 t2 m₂ nx2 h2 tk2 I2 it2 hPP hPR hPB hj hk2 ⟨v, tt, rest, htt, ha2, hf2, hat2, htot2, rfl, hMr, hvr, hcr⟩ F4 N4 hit2
        replace F4 : Fr s.heap L' h2 _ := fr_turn F4 [(Str.ofString "a", .ref la), (Str.ofString "found", .ref lf), (Str.ofString "at", .int kk t), (Str.ofString "total", v)] (allc ha2 (allc hf2 (allc hat2 (all1 htot2))))
        replace N4 : News s.heap L' h2 _ := N4
        dsimp only [kstB] at F4
        obtain ⟨tt', htt'⟩ := sinvIn_le htot (show j + 1 ≤ i from hj)
        have htt2 := htt'
        rw [sinvIn, htt, Option.bind_some] at htt'
        obtain ⟨pz, hp1, hp2⟩ := Option.bind_eq_some_iff.mp htt'
        obtain ⟨vj, hvj, hrj⟩ := ra.get (k := j + 1) (Nat.lt_of_le_of_lt hj hi)
        obtain ⟨e1, e2, bk2, bk3, e3, e4, e5⟩ := ar_idx hkk hk2 hj (Nat.lt_of_lt_of_le hi hx)
        obtain ⟨wj, hwj, hqj⟩ := hMr.get (k := i - (j + 1)) (hfl.symm ▸ e5)
        generalize xs.getD (j + 1) (0, 1) = x at hrj hp1
        generalize fs.getD (i - (j + 1)) (0, 1) = y at hqj hp1
        rw [e1] at hvj
        rw [e2] at hwj
        clear F3 N3 rg2 hv0
        (try dsimp only)
        (try k_fold)
        k_with "call ref" => (
          refine' useN (rmul_tells _ _ _ _ _ pz hp1) ?k1 ?k2 ?k3 ?k4 ?k5 ?k6 ?k7 ?k8 ?k9 ?_
          (case k1 => k_asm)
          (case k2 => k_asm)
          (case k3 => k_asm)
          (case k4 => k_asm)
          (case k5 => k_asm)
          (case k6 => exact rfl)
          (case k7 => first | exact dp_lt hd (by decide) | ktr_room)
          (case k8 => first | exact un_lt hu (by decide) | ktr_units)
          (case k9 => exact ⟨RatV.fr hrj (by assumption), RatM.val hqj X' (by assumption) (by assumption) (fun p hp => .tail _ (.tail _ (.tail _ hp)))⟩)
          k_whole
          intro a9 t9 u9 n9 h9 tk9 F9 N9
  
          (try dsimp only)
          (try k_sweep))
        k_with "call ref" => (
          refine' useN (rsub_tells _ _ _ _ _ tt' hp2) ?k1 ?k2 ?k3 ?k4 ?k5 ?k6 ?k7 ?k8 ?k9 ?_
          (case k1 => k_asm)
          (case k2 => k_asm)
          (case k3 => k_asm)
          (case k4 => k_asm)
          (case k5 => k_asm)
          (case k6 => exact rfl)
          (case k7 => first | exact dp_lt hd (by decide) | ktr_room)
          (case k8 => first | exact un_lt hu (by decide) | ktr_units)
          (case k9 => exact ⟨RatM.val hvr X' (by assumption) (by assumption) (fun p hp => .tail _ (.tail _ (.tail _ (.tail _ hp)))), ratv_head (by assumption)⟩)
          k_whole
          intro a9 t9 u9 n9 h9 tk9 F9 N9
  
          (try dsimp only)
          (try k_sweep))
        k_steps
        all_goals (
          rename Fr _ _ _ _ => F9
          rename News _ _ _ _ => N9
          refine hPP _ ?_
          exact ⟨_, _, _, _, rfl, F9, news_5 N9, _, tt', _, htt2, rfl, rfl, rfl, rfl, rfl, hMr.mono (fun p hp => .tail _ hp), RatM.new (.head _), cls_cons rfl hcr⟩)
      · rintro m₂ nx2 h2 tk2 ⟨v, tt, rest, htt, ha2, hf2, hat2, htot2, rfl, hMr, hvr, hcr⟩ F4 N4
        replace F4 : Fr s.heap L' h2 _ := fr_names F4 [(Str.ofString "a", .ref la), (Str.ofString "found", .ref lf), (Str.ofString "total", v)] (allc ha2 (allc hf2 (all1 htot2)))
        replace N4 : News s.heap L' h2 _ := N4
        dsimp only [kstB] at F4
        cases htt.symm.trans htot
        clear F3 N3 rg2
        (try dsimp only)
        (try k_fold)
        k_with "call ref" => (
          refine' useN (rdiv_tells _ _ _ _ _ z hz) ?k1 ?k2 ?k3 ?k4 ?k5 ?k6 ?k7 ?k8 ?k9 ?_
          (case k1 => k_asm)
          (case k2 => k_asm)
          (case k3 => k_asm)
          (case k4 => k_asm)
          (case k5 => k_asm)
          (case k6 => exact rfl)
          (case k7 => first | exact dp_lt hd (by decide) | ktr_room)
          (case k8 => first | exact un_lt hu (by decide) | ktr_units)
          (case k9 => exact ⟨RatM.val hvr X' (by assumption) (by assumption) (fun p hp => .tail _ (.tail _ hp)), RatV.fr hr0 (by assumption)⟩)
          k_whole
          intro a9 t9 u9 n9 h9 tk9 F9 N9
  
          (try dsimp only)
          (try k_sweep))
        k_with "call ref" => (
          refine' use (let_tells w _ z hsz) ?k1 ?k2 ?k3 ?k4 ?k5 ?k6 ?k7 ?k8 ?k9 ?_
          (case k1 => k_asm)
          (case k2 => k_asm)
          (case k3 => k_asm)
          (case k4 => k_asm)
          (case k5 => k_asm)
          (case k6 => exact rfl)
          (case k7 => first | exact dp_lt hd (by decide) | ktr_room)
          (case k8 => first | exact un_lt hu (by decide) | ktr_units)
          (case k9 => exact ratv_head (by assumption))
          k_whole
          rintro _ h8 tk8 x8 F8 N8 rfl
          (try dsimp only))
        k_steps
        unfold Halt
        rename Fr _ _ _ _ => F5
        rename News _ _ _ _ => N5
        refine append_2 F5 N5 tup_ne_list (fun p hp => ?_) (len_ok lvs hfl hi hx) ?_
        · rcases List.mem_cons.mp hp with rfl | hp
          · rw [hitc]; decide
          · rw [hcr p hp]; decide
        intro h6 F6 N6
        (try dsimp only)
        clear F5 N5
        k_steps
        all_goals (
          rename Fr _ _ _ _ => F9
          rename News _ _ _ _ => N9
          refine hPP _ ?_
          exact ⟨_, _, _, _, rfl, F9, news_3 N9, lf, _, _, _, _, hfs2, rfl, rfl, rfl, (hMr.mono (fun p hp => .tail _ hp)).snoc (RatM.new (.head _)), cls_cons rfl hcr⟩)
      all_goals k_steps
    case refine_2 =>
      intro hcut
      walk1
      k_with "execs cons" => (refine halt ?_)
      by_cases e0 : kk = 0
      · k_with "ite" => first
          | (refine' ite_pos ?c ?_; (case c => (simp [e0]; done)))
          | (refine' ite_neg ?c ?_; (case c => (simp [e0]; done)))
        k_steps
        unfold Halt
        rename Fr _ _ _ _ => F3
        rename News _ _ _ _ => N3
        exact hcut _ ⟨_, _, _, _, rfl, F3, rfl, rfl, rfl, rfl, N3, by rw [if_pos ((zero_of hkk).mp e0)]; exact .one⟩
      · k_with "ite" => first
          | (refine' ite_pos ?c ?_; (case c => (simp [e0]; done)))
          | (refine' ite_neg ?c ?_; (case c => (simp [e0]; done)))
        k_steps
        unfold Halt
        rename Fr _ _ _ _ => F3
        rename News _ _ _ _ => N3
        exact hcut _ ⟨_, _, _, _, rfl, F3, rfl, rfl, rfl, rfl, N3, by rw [if_neg (fun q => e0 ((zero_of hkk).mpr q))]; exact .zero⟩
    k_with_none
  · rintro m₁ nx h tk ⟨lf, fs, vs, n, tl, hfs, ha, hf, rfl, hM, hcls⟩ F2 N2
    replace F2 : Fr s.heap L' h _ := fr_names F2 [(Str.ofString "found", .ref lf)] (all1 hf)
    replace N2 : News s.heap L' h _ := N2
    dsimp only [kstB] at F2
    cases hfs.symm.trans hr
    clear F1 N1
    k_steps
    all_goals (
      rename Fr _ _ _ _ => F9
      rename News _ _ _ _ => N9
      exact hret _ _ _ F9.keep ⟨lf, vs, n, tl, rfl, (N9 _ (.head _)).2.2, (N9 _ (.head _)).1, hM, fun p hp => ⟨(N9 _ (.tail _ hp)).1, (N9 _ (.tail _ hp)).2.2⟩⟩)
  all_goals k_steps
theorem RatsM.trim {nx : List (Addr × Obj)} {vs : List Value} {xs : List R} (r : RatsM nx vs xs) : ∃ ny : List (Addr × Obj), (∀ p ∈ ny, p ∈ nx ∧ p.2.cls = .type "tuple") ∧ RatsM ny vs xs := by
  induction r with
  | nil => exact ⟨[], (fun _ h => nomatch h), .nil⟩
  | cons a _ ih =>
    obtain ⟨ny, h1, h2⟩ := ih
    cases a with
    | zero => exact ⟨ny, h1, .cons .zero h2⟩
    | one => exact ⟨ny, h1, .cons .one h2⟩
    | new hm => exact ⟨_ :: ny, allc ⟨hm, rfl⟩ h1, .cons (.new (.head _)) (h2.mono fun p hp => .tail _ hp)⟩
theorem useL {w : World} {f : Addr} {N : Nat} {vs : List Value} {Pre : Heap → Prop} {xs : List R} (C : Tells w f N vs Pre (fun h h' v => ListNew h h' v xs))
    {prog p : Program} {loose : List Str} {mean : ExcName → Option Value} {mg mb : Str → Option Value} {dp un : Nat} {gd : Option (List Code)} {cn : Str} {cs : Scope} {a : Addr} {ccd : Value} {cl : List (Str × Addr)} {outer : List Env} {A₀ : Around} {base h₀ : Heap} {L : Addr} {m : Str → Option Value} {news : List (Addr × Obj)} {s : Shared} {Q E : Value → Shared → Prop}
    (B : Below A₀ base outer h₀) (F : Fr h₀ L s.heap m) (Nw : News h₀ L s.heap news) (X : (Mine.hd.heap_39 w.params).In h₀) (T : Top p loose mean mg mb h₀) (hk : cs.kind = .function) (hd : dp + N < recursionLimit) (hu : un + 8 * N < cLine) (hp : Pre s.heap)
    (ret : ∀ a us n nx h' tk', Fr h₀ L h' m → News h₀ L h' ((a, listOf us.toArray n) :: (nx ++ news)) → RatsM nx us xs → (∀ p ∈ nx, p.2.cls = .type "tuple") → (∀ p ∈ news, p.1 ≠ a ∧ ∀ q ∈ nx, p.1 ≠ q.1) → Q (.ref a) { s with heap := h', toks := tk' }) :
    wpAny (model prog w) (ktrTop dp un gd cn cs L a ccd cl outer) (call (.ref f) vs) Q E s := by
  refine use C B F Nw X T hk hd hu hp ?_
  rintro _ h' tk' x9 F9 N9 ⟨a, us, n, nx, rfl, e, o, hM, hall⟩
  obtain ⟨ny, h1, h2⟩ := hM.trim
  have live : ∃ o, s.heap.get? L = some o := by
    obtain ⟨oL, _, _, hL, _⟩ := F.ns
    exact ⟨oL, hL⟩
  have fresh : ∀ b, s.heap.get? b = none → h₀.get? b = none ∧ b ≠ L := fun b hb => ⟨none_of F.keep hb, fun q => by
    obtain ⟨oL, hL⟩ := live
    rw [q, hL] at hb; cases hb⟩
  refine ret a us n ny h' tk' F9 ?_ h2 (fun p hp => (h1 p hp).2) ?_
  · intro p hp
    rcases List.mem_cons.mp hp with rfl | hp
    · exact ⟨o, (fresh _ e).2, (fresh _ e).1⟩
    · rcases List.mem_append.mp hp with hp | hp
      · have := hall p (h1 p hp).1
        exact ⟨this.1, (fresh _ this.2).2, (fresh _ this.2).1⟩
      · exact N9 p hp
  · intro p hp
    refine ⟨fun q => ?_, fun r hr q => ?_⟩
    · have := (Nw p hp).1
      rw [q, e] at this; cases this
    · have := (Nw p hp).1
      rw [q, (hall r (h1 r hr).1).2] at this; cases this
theorem append_gen {prog : Program} {w : World} {A : Around} {E : Value → Shared → Prop} {s : Shared} {h₀ : Heap} {L : Addr} {m : Str → Option Value} {Q : Value → Shared → Prop} {lf : Addr} {vs : List Value} {n : Nat} {v : Value} {news : List (Addr × Obj)} (ws : List (Addr × Obj))
    (F : Fr h₀ L s.heap m) (N : News h₀ L s.heap news) (hm : (lf, listOf vs.toArray n) ∈ news) (hw : ∀ p ∈ ws, p ∈ news ∧ p.1 ≠ lf) (hsz : vs.length ≤ 1000)
    (h : ∀ h', Fr h₀ L h' m → News h₀ L h' ((lf, listOf (vs ++ [v]).toArray (n + 1)) :: ws) → Q .none { s with heap := h' }) : wpAny (model prog w) A (call (.builtin "list.append") [.ref lf, v]) Q E s := by
  have N₁ : News h₀ L s.heap ((lf, listOf vs.toArray n) :: ws) := fun p hp => by
    rcases List.mem_cons.mp hp with rfl | hp
    · exact N _ hm
    · exact N p (hw p hp).1
  refine append_K (hsz := by rw [List.size_toArray, sizeLine_eq]; omega) F N₁ (.head fun p hp e => (hw p hp).2 e) fun h' F' N' => ?_
  refine h h' F' ?_
  rw [List.push_toArray] at N'
  exact N'
set_option maxHeartbeats 8000000 in
theorem need_tells (w : World) (va vn : Value) (xs : List R) (y : R) (hx : xs.length ≤ 64) (hx0 : 0 < xs.length) (hs : sm4 (xs.getD 0 (0, 1)) y = true) (hc : cmpF (xs.getD 0 (0, 1)) y = 0) :
    Tells w 139 30 [va, vn] (fun h => ListV h va xs ∧ RatV h vn y) (fun h h' v => v = .none) := by
  unfold Tells
  intro prog p loose mean mg mb dp un gd cn cs a' ccd cl outer A₀ base h₀ L m s Q E B F X T hk hd hu hpre hret
  obtain ⟨⟨la, vsa, na, rfl, ea, ra⟩, ⟨an, tn, un', nn, rfl, on⟩⟩ := hpre
  have hla : s.heap.IsList la vsa.toArray := ⟨_, ea, rfl, _, rfl⟩
  have lna := ra.length
  obtain ⟨v0, hv0, hr0⟩ := ra.get (k := 0) (by omega)
  obtain ⟨a0, t0, u0, n0, rfl, o0⟩ := id hr0
  refine wpAny_call ?_
  refine' code_pure (binds := [(Str.ofString "a", Value.ref la), (Str.ofString "number", Value.ref an)]) ?k1 ?k2 ?k3 ?k5 ?kA ?kF ?kK ?k6 ?k7 ?k8 ?k9 ?kB ?_ ?c2 ?c3 ?c4 ?c5; (case kA => exact rfl); (case kF => exact rfl); (case kK => assumption); (case k1 => k_asm); (case k2 => k_asm); (case k3 => k_asm); (case k5 => k_asm); (case k6 => k_is); (case k7 => k_is); (case k8 => first | exact dp_in hd | ktr_room); (case k9 => exact BindsTo.of_eq rfl); (case c5 => decide); (case kB => exact locs rfl); (case c2 => exact rfl); (case c3 => exact rfl); (case c4 => exact rfl)
  k_whole
  clear B F X T
  intro QQ hQQ hQN
  intro L' h' F' N' B' X' T'
  replace hret := fun h' tk' x => hQN _ (hret .none h' tk' x rfl)
  (try dsimp only)
  (try k_fold)
  k_with_none
  k_with "call builtin:len" => (
    refine' len_at ?k1 ?k2 ?k3 ?_
    (case k1 => exact Fr.lst (by assumption) (by assumption))
    (case k2 => assumption)
    (case k3 => omega)
    k_whole)
  k_with "subscriptTail" => k_dflt (
    (refine' item_litK ?k1 ?k2 ?k3 ?k4 ?_ ?k6)
    (case k1 => first
      | exact Fr.lst (by assumption) (by assumption)
      | exact News.isList (by assumption) (List.Mem.head _)
      | exact News.isList (by assumption) (.tail _ (List.Mem.head _))
      | exact News.isList (by assumption) (.tail _ (.tail _ (List.Mem.head _)))
      | exact News.isList (by assumption) (.tail _ (.tail _ (.tail _ (List.Mem.head _)))))
    (case k2 => omega)
    (case k3 => omega)
    (case k4 => assumption)
    (case k6 => with_unfolding_all rfl)
    k_whole)
  k_with "pyIter ref" => (refine halt ?_)
  k_with "TurnPost" => (refine halt ?_)
  k_with "TurnEnd" => (refine halt ?_)
  k_with "CompSrc" => (refine halt ?_)
  k_with "call builtin:list.append" => (refine halt ?_)
  k_with "ite" => first
    | (refine' ite_pos ?c ?_; (case c => (simp [hx0, hc]; done)))
    | (refine' ite_neg ?c ?_; (case c => (simp [hx0, hc]; done)))
  k_with "call ref" => (
    refine' use (rcmp_tells w _ _ _ _ hs) ?k1 ?k2 ?k3 ?k4 ?k5 ?k6 ?k7 ?k8 ?k9 ?_
    (case k1 => k_asm)
    (case k2 => k_asm)
    (case k3 => k_asm)
    (case k4 => k_asm)
    (case k5 => k_asm)
    (case k6 => exact rfl)
    (case k7 => first | exact dp_lt hd (by decide) | ktr_room)
    (case k8 => first | exact un_lt hu (by decide) | ktr_units)
    (case k9 => exact ⟨RatV.fr hr0 (by assumption), RatV.fr ⟨_, _, _, _, rfl, on⟩ (by assumption)⟩)
    k_whole
    rintro r9 h9 tk9 x9 F9 N9 ⟨t9, hr9⟩; rw [hc] at hr9; subst hr9
    (try dsimp only))
  k_steps
  all_goals (
    rename Fr _ _ _ _ => F9
    exact hret _ _ F9.keep)

theorem RatsV.drop {h : Heap} {vs : List Value} {xs : List R} (r : RatsV h vs xs) : ∀ k : Nat, RatsV h (vs.drop k) (xs.drop k) := by
  induction r with
  | nil => intro k; rw [List.drop_nil, List.drop_nil]; exact .nil
  | cons a q ih =>
    intro k
    cases k with
    | zero => exact .cons a q
    | succ k => exact ih k
theorem pick_1 (vs : List Value) : slicePick vs.toArray (some 1) none none = (vs.drop 1).toArray := slicePick_from' vs.toArray 1
theorem addr_ne {h₀ h : Heap} {L : Addr} {news : List (Addr × Obj)} (N : News h₀ L h news) {p q : Addr × Obj} (hp : p ∈ news) (hq : q ∈ news) (hc : p.2.cls ≠ q.2.cls) : p.1 ≠ q.1 := fun e => hc (by
  have h1 := (N p hp).1
  rw [e, (N q hq).1] at h1
  rw [Option.some.inj h1])
theorem tup_ne_rng : Value.type "tuple" ≠ Value.type "range_iterator" := by decide
theorem news_cut {h₀ h : Heap} {L : Addr} {x a b : Addr × Obj} {l r : List (Addr × Obj)} (N : News h₀ L h (x :: a :: b :: (l ++ r))) : News h₀ L h (a :: b :: l) := fun p hp => N p (by
  simp only [List.mem_cons, List.mem_append] at hp ⊢
  rcases hp with hp | hp | hp <;> simp [hp])
theorem append_4 {prog : Program} {w : World} {A : Around} {E : Value → Shared → Prop} {s : Shared} {h₀ : Heap} {L : Addr} {m : Str → Option Value} {Q : Value → Shared → Prop} {lf : Addr} {vs : List Value} {n : Nat} {v : Value} {x y i : Addr × Obj} {tl : List (Addr × Obj)}
    (F : Fr h₀ L s.heap m) (N : News h₀ L s.heap (x :: y :: i :: (lf, listOf vs.toArray n) :: tl)) (hx : x.2.cls ≠ .type "list") (hi : i.2.cls ≠ .type "list") (hne : ∀ p ∈ tl, p.1 ≠ lf) (hsz : vs.length ≤ 1000)
    (h : ∀ h', Fr h₀ L h' m → News h₀ L h' ((lf, listOf (vs ++ [v]).toArray (n + 1)) :: x :: i :: tl) → Q .none { s with heap := h' }) : wpAny (model prog w) A (call (.builtin "list.append") [.ref lf, v]) Q E s := by
  have hx1 := addr_ne N (.head _) (.tail _ (.tail _ (.tail _ (.head _)))) hx
  have hx2 := addr_ne N (.tail _ (.tail _ (.head _))) (.tail _ (.tail _ (.tail _ (.head _)))) hi
  exact append_gen (x :: i :: tl) F N (.tail _ (.tail _ (.tail _ (.head _)))) (allc ⟨.head _, hx1⟩ (allc ⟨.tail _ (.tail _ (.head _)), hx2⟩ fun p hp => ⟨.tail _ (.tail _ (.tail _ (.tail _ hp))), hne p hp⟩)) hsz h
theorem mem_r {x : Addr × Obj} {l r : List (Addr × Obj)} (h : x ∈ r) : x ∈ l ++ r := List.mem_append.mpr (.inr h)
theorem mem_l {x : Addr × Obj} {l r : List (Addr × Obj)} (h : x ∈ l) : x ∈ l ++ r := List.mem_append.mpr (.inl h)
theorem news_rev {h₀ h : Heap} {L : Addr} {a f x i : Addr × Obj} {l r : List (Addr × Obj)} (N : News h₀ L h (a :: (l ++ (f :: x :: i :: r)))) : News h₀ L h (i :: f :: a :: (l ++ (x :: r))) := fun p hp => N p (by
  simp only [List.mem_cons, List.mem_append] at hp ⊢
  rcases hp with hp | hp | hp | hp | hp | hp <;> simp [hp])
noncomputable def srevTo (len : Nat) (ts : List R) : Nat → Option (List R × List R)
  | 0 => some ([(0, 1)], ts)
  | n + 1 => (srevTo len ts n).bind fun p => (opP divF (p.2.getD n (0, 1)) (((n + 1 : Nat) : Int), 1)).bind fun z =>
      (if n + 1 < len - 1 then smulP p.2 ts else some p.2).bind fun rs => some (p.1 ++ [z], rs)
noncomputable def srevP (xs : List R) : Option (List R) := (sinvP (xs.drop 1)).bind fun ts => (srevTo xs.length ts (xs.length - 1)).bind fun p => some p.1
theorem srevTo_le {len : Nat} {ts : List R} {i : Nat} : ∀ {n : Nat} {r : List R × List R}, srevTo len ts n = some r → i ≤ n → ∃ q, srevTo len ts i = some q := by
  intro n
  induction n with
  | zero => intro r h hi; exact ⟨r, by rw [Nat.le_zero.mp hi]; exact h⟩
  | succ n ih =>
    intro r h hi
    by_cases e : i = n + 1
    · exact ⟨r, e ▸ h⟩
    · obtain ⟨acc, ha, _⟩ := Option.bind_eq_some_iff.mp h
      exact ih ha (by omega)
theorem srevTo_len {len : Nat} {ts : List R} : ∀ {n : Nat} {r : List R × List R}, srevTo len ts n = some r → r.1.length = n + 1 ∧ r.2.length = ts.length := by
  intro n
  induction n with
  | zero => intro r h; cases h; exact ⟨rfl, rfl⟩
  | succ n ih =>
    intro r h
    obtain ⟨p, ha, h⟩ := Option.bind_eq_some_iff.mp h
    obtain ⟨z, hz, h⟩ := Option.bind_eq_some_iff.mp h
    obtain ⟨rs, hr, h⟩ := Option.bind_eq_some_iff.mp h
    cases h
    obtain ⟨h1, h2⟩ := ih ha
    refine ⟨by rw [List.length_append, h1]; rfl, ?_⟩
    split at hr
    · have := (smulTo_some hr).1
      show rs.length = _
      rw [this, h2, Nat.min_self]
    · cases hr; exact h2
theorem sinvP_some {xs zs : List R} (h : sinvP xs = some zs) : zs.length = xs.length := by
  unfold sinvP at h
  split at h
  · cases h
  · exact sinvTo_len h
theorem ar_1 {i : Nat} {kk : Int} (hkk : kk = 1 + (i : Int)) (hi : i < 64) : i = (kk - 1).toNat ∧ ((i + 1 : Nat) : Int) = kk ∧ (0 ≤ kk - 1 ∧ kk - 1 < 64) := by omega
theorem ar_c {i n : Nat} {kk : Int} (hkk : kk = 1 + (i : Int)) : i + 1 < n - 1 ↔ kk < (n : Int) - 1 := by omega
theorem rngm {n : Nat} (hn : n ≤ 64) : Builtin.Range.small 1 ((n : Int)) 1 = true ∧ Builtin.Range.rangeSize 1 ((n : Int)) 1 = ((n - 1 : Nat) : Int) :=
  ⟨small_one (by decide) (by decide) (by omega) (by omega), (rangeSize_nat _ _).trans (by omega)⟩
inductive SrevJ (xs ts : List R) (la : Addr) (i : Nat) (m : Str → Option Value) (nx : List (Addr × Obj)) : Prop
  | mk (lf : Addr) (fs : List R) (vs : List Value) (n : Nat) (lt : Addr) (lr : Addr) (tl : List (Addr × Obj)) (rs : List R) (rvs : List Value) (rn : Nat) (tvs : List Value) (tn : Nat) : (srevTo xs.length ts i = some (fs, rs)) → (m (Str.ofString "a") = some (.ref la)) → (m (Str.ofString "turned") = some (.ref lt)) → (m (Str.ofString "found") = some (.ref lf)) → (m (Str.ofString "raised") = some (.ref lr)) → (nx = (lf, listOf vs.toArray n) :: tl) → ((lt, listOf tvs.toArray tn) ∈ tl) → ((lr, listOf rvs.toArray rn) ∈ tl) → (RatsM tl vs fs) → (RatsM tl tvs ts) → (RatsM tl rvs rs) → (∀ p ∈ tl, p.1 ≠ lf ∧ p.2.cls ≠ .type "range_iterator") → SrevJ xs ts la i m nx
set_option maxHeartbeats 8000000 in
theorem sreverse_tells (w : World) (va : Value) (xs zs : List R) (hx : xs.length ≤ 64) (hx0 : 1 < xs.length) (hs : sm4 (xs.getD 0 (0, 1)) (0, 1) = true) (hc : cmpF (xs.getD 0 (0, 1)) (0, 1) = 0) (hr : srevP xs = some zs) :
    Tells w 146 60 [va] (fun h => ListV h va xs) (fun h h' v => ListNew h h' v zs) := by
  unfold Tells
  intro prog p loose mean mg mb dp un gd cn cs a' ccd cl outer A₀ base h₀ L m s Q E B F X T hk hd hu hpre hret
  obtain ⟨la, vsa, na, rfl, ea, ra⟩ := hpre
  have hla : s.heap.IsList la vsa.toArray := ⟨_, ea, rfl, _, rfl⟩
  have lna := ra.length
  obtain ⟨ts, hts, hr⟩ := Option.bind_eq_some_iff.mp hr
  obtain ⟨pz, hpz, hr⟩ := Option.bind_eq_some_iff.mp hr
  cases hr
  have hdl : (xs.drop 1).length = xs.length - 1 := List.length_drop
  have htl := sinvP_some hts
  refine wpAny_call ?_
  refine' code_pure (binds := [(Str.ofString "a", Value.ref la)]) ?k1 ?k2 ?k3 ?k5 ?kA ?kF ?kK ?k6 ?k7 ?k8 ?k9 ?kB ?_ ?c2 ?c3 ?c4 ?c5; (case kA => exact rfl); (case kF => exact rfl); (case kK => assumption); (case k1 => k_asm); (case k2 => k_asm); (case k3 => k_asm); (case k5 => k_asm); (case k6 => k_is); (case k7 => k_is); (case k8 => first | exact dp_in hd | ktr_room); (case k9 => exact BindsTo.of_eq rfl); (case c5 => decide); (case kB => exact locs rfl); (case c2 => exact rfl); (case c3 => exact rfl); (case c4 => exact rfl)
  k_whole
  clear B F X T
  intro QQ hQQ hQN
  intro L' h' F' N' B' X' T'
  replace hret := fun r h' tk' x y => hQQ _ _ (hret r h' tk' x y)
  (try dsimp only)
  (try k_fold)
  k_with_none
  have h49 := at49 X'
  k_with "call builtin:len" => (
    refine' len_at ?k1 ?k2 ?k3 ?_
    (case k1 => exact Fr.lst (by assumption) (by assumption))
    (case k2 => assumption)
    (case k3 => omega)
    k_whole)
  k_with "subscriptTail" => k_dflt (
    (refine' item_litK ?k1 ?k2 ?k3 ?k4 ?_ ?k6)
    (case k1 => first
      | exact Fr.lst (by assumption) (by assumption)
      | exact News.isList (by assumption) (List.Mem.head _)
      | exact News.isList (by assumption) (.tail _ (List.Mem.head _))
      | exact News.isList (by assumption) (.tail _ (.tail _ (List.Mem.head _)))
      | exact News.isList (by assumption) (.tail _ (.tail _ (.tail _ (List.Mem.head _)))))
    (case k2 => omega)
    (case k3 => omega)
    (case k4 => assumption)
    (case k6 => with_unfolding_all rfl)
    k_whole)
  k_with "pyIter ref" => (refine halt ?_)
  k_with "TurnPost" => (refine halt ?_)
  k_with "TurnEnd" => (refine halt ?_)
  k_with "CompSrc" => (refine halt ?_)
  k_with "call builtin:list.append" => (refine halt ?_)
  k_with "ite" => first
    | (refine' ite_pos ?c ?_; (case c => (simp [hx0]; done)))
    | (refine' ite_neg ?c ?_; (case c => (simp [hx0]; done)))
  k_with "call ref" => (
    refine' use (need_tells w _ _ xs (0, 1) hx (Nat.lt_of_succ_lt hx0) hs hc) ?k1 ?k2 ?k3 ?k4 ?k5 ?k6 ?k7 ?k8 ?k9 ?_
    (case k1 => k_asm)
    (case k2 => k_asm)
    (case k3 => k_asm)
    (case k4 => k_asm)
    (case k5 => k_asm)
    (case k6 => exact rfl)
    (case k7 => first | exact dp_lt hd (by decide) | ktr_room)
    (case k8 => first | exact un_lt hu (by decide) | ktr_units)
    (case k9 => exact ⟨ListV.ext ⟨la, vsa, na, rfl, ea, ra⟩ (by exact Fr.keep (by assumption)), RatV.fr h49 (by assumption)⟩)
    k_whole
    rintro _ h9 tk9 x9 F9 N9 rfl
    (try dsimp only))
  k_with "call ref" => (
    refine' useL (sinverse_tells w _ (xs.drop 1) ts (Nat.le_trans (Nat.le_of_eq hdl) (Nat.le_trans (Nat.sub_le _ _) hx)) (hdl.symm ▸ Nat.sub_pos_of_lt hx0) hts) ?k1 ?k2 ?k3 ?k4 ?k5 ?k6 ?k7 ?k8 ?k9 ?_
    (case k1 => k_asm)
    (case k2 => k_asm)
    (case k3 => k_asm)
    (case k4 => k_asm)
    (case k5 => k_asm)
    (case k6 => exact rfl)
    (case k7 => first | exact dp_lt hd (by decide) | ktr_room)
    (case k8 => first | exact un_lt hu (by decide) | ktr_units)
    (case k9 => (rename News _ _ _ _ => Nq; rename Fr _ _ _ _ => Fq; rw [pick_1] at Nq; exact ⟨_, _, _, rfl, (Nq _ (.head _)).1, (ra.drop 1).ext Fq.keep⟩))
    k_whole
    intro a9 us9 n9 nx9 h9 tk9 F9 N9 hM9 hc9 ho9
    
    (try dsimp only)
    (try k_sweep))
  k_steps
  unfold Halt
  rename Fr _ _ _ _ => F1
  rename News _ _ _ _ => N1
  rename IsRange _ _ _ _ _ _ _ _ => rg
  rename _ < _ ∧ AllLt _ _ => l9
  have N0 := news_cut N1
  refine range_inv (n := xs.length - 1) (news := _ :: _ :: nx9) (SrevJ xs ts la)
    (by rfl) rg (rngm hx).1 (rngm hx).2 F1 N0 ⟨_, [(0, 1)], [.ref 49], 0, _, _, _, ts, us9, n9, us9, n9, rfl, rfl, rfl, rfl, rfl, rfl, .head _, .head _, .cons .zero .nil, hM9.mono (fun p hp => .tail _ hp), hM9.mono (fun p hp => .tail _ hp), ?_⟩ ?_ ?_ ?_
  · intro p hp
    rcases List.mem_cons.mp hp with rfl | hp
    · exact ⟨by show @Ne Nat _ _; dsimp only; omega, list_ne_rng⟩
    · refine ⟨?_, by rw [hc9 p hp]; exact tup_ne_rng⟩
      exact addr_ne N0 (.tail _ (.tail _ hp)) (.head _) (by rw [hc9 p hp]; exact tup_ne_list)
  · rintro i m nx ⟨lf, fs, vs, n, lt, lr, tl, rs, rvs, rn, tvs, tn, _, _, _, _, _, rfl, _, _, _, _, _, hc⟩ p hp
    rcases List.mem_cons.mp hp with rfl | hp
    · exact .inl list_ne_rng
    · exact .inl (hc p hp).2
  · rintro PP i kk t m₁ nx h tk I it hPP hPR hPB hi hkk ⟨lf, fs, vs, n, lt, lr, tl, rs, rvs, rn, tvs, tn, hfs, ha, htn, hf, hrn, rfl, hmt, hmr, hM, hMt, hMr, hcls⟩ F2 N2 hitc
    replace F2 : Fr s.heap L' h _ := fr_turn F2 [(Str.ofString "a", .ref la), (Str.ofString "turned", .ref lt), (Str.ofString "found", .ref lf), (Str.ofString "raised", .ref lr)] (allc ha (allc htn (allc hf (all1 hrn))))
    replace N2 : News s.heap L' h _ := N2
    dsimp only [kstB] at F2
    obtain ⟨fs', hfs'⟩ := srevTo_le hpz (show i + 1 ≤ xs.length - 1 from hi)
    have hfs2 := hfs'
    rw [srevTo, hfs, Option.bind_some] at hfs'
    dsimp only at hfs'
    obtain ⟨z, hz, hfs'⟩ := Option.bind_eq_some_iff.mp hfs'
    obtain ⟨rs', hrs', hfs'⟩ := Option.bind_eq_some_iff.mp hfs'
    cases hfs'
    obtain ⟨hfl, hrl⟩ := srevTo_len hfs
    dsimp only at hfl hrl
    have lvs := hM.length
    have lrv := hMr.length
    have hrl2 : rs.length = xs.length - 1 := hrl.trans (htl.trans hdl)
    have hi2 : i + 1 < xs.length := Nat.add_lt_of_lt_sub hi
    obtain ⟨e1, e2, bk⟩ := ar_1 hkk (Nat.lt_of_lt_of_le (Nat.lt_of_succ_lt hi2) hx)
    obtain ⟨wj, hwj, hqj⟩ := hMr.get (k := i) (hrl2.symm ▸ hi)
    rw [e2] at hz
    generalize rs.getD i (0, 1) = y at hqj hz
    rw [e1] at hwj
    clear F1 N1 rg N0 l9
    (try dsimp only)
    (try k_fold)
    k_with "subscriptTail" => k_dflt (
      (refine' item_at ?k1 ?k2 ?k4 ?_ ?k6)
      (case k1 => exact News.isList (by assumption) (.tail _ (.tail _ hmr)))
      (case k2 => assumption)
      (case k4 => assumption)
      (case k6 => with_unfolding_all rfl)
      k_whole)
    k_with "call ref" => (
      refine' useN (rdiv_tells _ _ _ y (kk, 1) z hz) ?k1 ?k2 ?k3 ?k4 ?k5 ?k6 ?k7 ?k8 ?k9 ?_
      (case k1 => k_asm)
      (case k2 => k_asm)
      (case k3 => k_asm)
      (case k4 => k_asm)
      (case k5 => k_asm)
      (case k6 => exact rfl)
      (case k7 => first | exact dp_lt hd (by decide) | ktr_room)
      (case k8 => first | exact un_lt hu (by decide) | ktr_units)
      (case k9 => exact ⟨RatM.val hqj X' (by assumption) (by assumption) (fun p hp => .tail _ (.tail _ (.tail _ hp))), ratv_head (x := (kk, 1)) (by assumption)⟩)
      k_whole
      intro a9 t9 u9 n9 h9 tk9 F9 N9
    
      (try dsimp only)
      (try k_sweep))
    k_steps
    unfold Halt
    rename Fr _ _ _ _ => F5
    rename News _ _ _ _ => N5
    have hne : ∀ p ∈ tl, p.1 ≠ lf := fun p hp => (hcls p hp).1
    refine append_4 F5 N5 tup_ne_list (by rw [hitc]; exact Ne.symm list_ne_rng) hne (len_ok lvs hfl hi2 hx) ?_
    intro h6 F6 N6
    have hx6 := addr_ne N6 (.tail _ (.head _)) (.head _) tup_ne_list
    (try dsimp only)
    clear F5 N5
    by_cases c2 : i + 1 < xs.length - 1
    · rw [if_pos c2] at hrs'
      have c3 : kk < (xs.length : Int) - 1 := (ar_c hkk).mp c2
      k_with "ite" => first
        | (refine' ite_pos ?c ?_; (case c => (simp [c3]; done)))
        | (refine' ite_neg ?c ?_; (case c => (simp [c3]; done)))
      k_with "call ref" => (
        refine' useL (smul_tells w _ _ rs ts rs' (Nat.le_trans (Nat.le_of_eq hrl2) (Nat.le_trans (Nat.sub_le _ _) hx)) (Nat.le_trans (Nat.le_of_eq (htl.trans hdl)) (Nat.le_trans (Nat.sub_le _ _) hx)) hrs') ?k1 ?k2 ?k3 ?k4 ?k5 ?k6 ?k7 ?k8 ?k9 ?_
        (case k1 => k_asm)
        (case k2 => k_asm)
        (case k3 => k_asm)
        (case k4 => k_asm)
        (case k5 => k_asm)
        (case k6 => exact rfl)
        (case k7 => first | exact dp_lt hd (by decide) | ktr_room)
        (case k8 => first | exact un_lt hu (by decide) | ktr_units)
        (case k9 => (rename News _ _ _ _ => Nq; rename Fr _ _ _ _ => Fq; exact ⟨⟨_, _, _, rfl, (Nq _ (.tail _ (.tail _ (.tail _ hmr)))).1, hMr.val X' Fq Nq (fun p hp => .tail _ (.tail _ (.tail _ hp)))⟩, ⟨_, _, _, rfl, (Nq _ (.tail _ (.tail _ (.tail _ hmt)))).1, hMt.val X' Fq Nq (fun p hp => .tail _ (.tail _ (.tail _ hp)))⟩⟩))
        k_whole
        intro a9 us9 n9 nx9 h9 tk9 F9 N9 hM9 hc9 ho9
    
        (try dsimp only)
        (try k_sweep))
      k_steps
      all_goals (
        rename Fr _ _ _ _ => F9
        rename News _ _ _ _ => N9
        have hq := ho9 _ (.head _)
        refine hPP _ ?_
        refine ⟨_, _, _, _, rfl, F9, news_rev N9, lf, _, _, _, lt, _, _, rs', us9, n9, tvs, tn, hfs2, rfl, rfl, rfl, rfl, rfl, ?_, .head _, ?_, ?_, ?_, ?_⟩
        · exact .tail _ (mem_r (.tail _ hmt))
        · exact (hM.mono fun p hp => .tail _ (mem_r (.tail _ hp))).snoc (RatM.new (.tail _ (mem_r (.head _))))
        · exact hMt.mono fun p hp => .tail _ (mem_r (.tail _ hp))
        · exact hM9.mono fun p hp => .tail _ (mem_l hp)
        · refine allc ⟨Ne.symm hq.1, list_ne_rng⟩ fun p hp => ?_
          rcases List.mem_append.mp hp with hp | hp
          · exact ⟨Ne.symm (hq.2 p hp), by rw [hc9 p hp]; exact tup_ne_rng⟩
          rcases List.mem_cons.mp hp with rfl | hp
          · exact ⟨hx6, tup_ne_rng⟩
          · exact hcls p hp)
    · rw [if_neg c2] at hrs'
      cases hrs'
      have c3 : ¬ kk < (xs.length : Int) - 1 := fun q => c2 ((ar_c hkk).mpr q)
      k_with "ite" => first
        | (refine' ite_pos ?c ?_; (case c => (simp [c3]; done)))
        | (refine' ite_neg ?c ?_; (case c => (simp [c3]; done)))
      k_steps
      all_goals (
        rename Fr _ _ _ _ => F9
        rename News _ _ _ _ => N9
        refine hPP _ ?_
        refine ⟨_, _, _, _, rfl, F9, news_3 N9, lf, _, _, _, lt, lr, _, rs, rvs, rn, tvs, tn, hfs2, rfl, rfl, rfl, rfl, rfl, .tail _ hmt, .tail _ hmr, ?_, hMt.mono fun p hp => .tail _ hp, hMr.mono fun p hp => .tail _ hp, ?_⟩
        · exact (hM.mono fun p hp => .tail _ hp).snoc (RatM.new (.head _))
        · exact allc ⟨hx6, tup_ne_rng⟩ hcls)
  · rintro m₁ nx h tk ⟨lf, fs, vs, n, lt, lr, tl, rs, rvs, rn, tvs, tn, hfs, ha, htn, hf, hrn, rfl, hmt, hmr, hM, hMt, hMr, hcls⟩ F2 N2
    replace F2 : Fr s.heap L' h _ := fr_names F2 [(Str.ofString "found", .ref lf)] (all1 hf)
    replace N2 : News s.heap L' h _ := N2
    dsimp only [kstB] at F2
    cases hfs.symm.trans hpz
    clear F1 N1 N0
    k_steps
    all_goals (
      rename Fr _ _ _ _ => F9
      rename News _ _ _ _ => N9
      exact hret _ _ _ F9.keep ⟨lf, vs, n, tl, rfl, (N9 _ (.head _)).2.2, (N9 _ (.head _)).1, hM, fun p hp => ⟨(N9 _ (.tail _ hp)).1, (N9 _ (.tail _ hp)).2.2⟩⟩)
  all_goals k_steps
theorem ratv_snd {h₀ h : Heap} {L a : Addr} {z : Addr × Obj} {news : List (Addr × Obj)} {x : R} {t u : Tok} {n : Nat} (N : News h₀ L h (z :: (a, tupO x.1 x.2 t u n) :: news)) : RatV h (.ref a) x := ⟨a, t, u, n, rfl, (N _ (.tail _ (.head _))).1⟩
noncomputable def spIn (xs fs : List R) (q : R) (k : Nat) : Nat → Option R
  | 0 => some (0, 1)
  | n + 1 => (spIn xs fs q k n).bind fun tot => (opP mulF q (((n + 1 : Nat) : Int), 1)).bind fun p1 => (opP subF p1 (((k - (n + 1) : Nat) : Int), 1)).bind fun tm =>
      (opP mulF tm (xs.getD (n + 1) (0, 1))).bind fun p2 => (opP mulF p2 (fs.getD (k - (n + 1)) (0, 1))).bind fun p3 => opP addF tot p3
noncomputable def spTo (xs : List R) (q : R) : Nat → Option (List R)
  | 0 => some []
  | n + 1 => (spTo xs q n).bind fun fs => (spIn xs fs q n n).bind fun tot => if n = 0 then some (fs ++ [(1, 1)]) else (opP divF tot ((n : Int), 1)).bind fun z => if smR z = true then some (fs ++ [z]) else none
theorem spTo_le {xs : List R} {q : R} {i : Nat} : ∀ {n : Nat} {r : List R}, spTo xs q n = some r → i ≤ n → ∃ y, spTo xs q i = some y := by
  intro n
  induction n with
  | zero => intro r h hi; exact ⟨r, by rw [Nat.le_zero.mp hi]; exact h⟩
  | succ n ih =>
    intro r h hi
    by_cases e : i = n + 1
    · exact ⟨r, e ▸ h⟩
    · obtain ⟨acc, ha, _⟩ := Option.bind_eq_some_iff.mp h
      exact ih ha (by omega)
theorem spIn_le {xs fs : List R} {q : R} {k i : Nat} : ∀ {n : Nat} {r : R}, spIn xs fs q k n = some r → i ≤ n → ∃ y, spIn xs fs q k i = some y := by
  intro n
  induction n with
  | zero => intro r h hi; exact ⟨r, by rw [Nat.le_zero.mp hi]; exact h⟩
  | succ n ih =>
    intro r h hi
    by_cases e : i = n + 1
    · exact ⟨r, e ▸ h⟩
    · obtain ⟨acc, ha, _⟩ := Option.bind_eq_some_iff.mp h
      exact ih ha (by omega)
theorem spTo_len {xs : List R} {q : R} : ∀ {n : Nat} {r : List R}, spTo xs q n = some r → r.length = n := by
  intro n
  induction n with
  | zero => intro r h; cases h; rfl
  | succ n ih =>
    intro r h
    obtain ⟨fs, ha, h⟩ := Option.bind_eq_some_iff.mp h
    obtain ⟨tot, hb, h⟩ := Option.bind_eq_some_iff.mp h
    split at h
    · cases h
      rw [List.length_append, ih ha]; rfl
    · obtain ⟨z, hz, h⟩ := Option.bind_eq_some_iff.mp h
      split at h
      · cases h
        rw [List.length_append, ih ha]; rfl
      · cases h
theorem news_skip {h₀ h : Heap} {L : Addr} {a b : Addr × Obj} {l : List (Addr × Obj)} (N : News h₀ L h (a :: b :: l)) : News h₀ L h (a :: l) := allc (N _ (.head _)) fun p hp => N p (.tail _ (.tail _ hp))
theorem news_sub {h₀ h : Heap} {L : Addr} {a b : List (Addr × Obj)} (N : News h₀ L h b) (hs : ∀ p ∈ a, p ∈ b) : News h₀ L h a := fun p hp => N p (hs p hp)
inductive SpJ (xs : List R) (q : R) (la aq : Addr) (i : Nat) (m : Str → Option Value) (nx : List (Addr × Obj)) : Prop
  | mk (lf : Addr) (fs : List R) (vs : List Value) (n : Nat) (tl : List (Addr × Obj)) : (spTo xs q i = some fs) → (m (Str.ofString "a") = some (.ref la)) → (m (Str.ofString "number") = some (.ref aq)) → (m (Str.ofString "found") = some (.ref lf)) → (nx = (lf, listOf vs.toArray n) :: tl) → (RatsM tl vs fs) → (∀ p ∈ tl, p.2.cls = .type "tuple") → SpJ xs q la aq i m nx
inductive SpK (xs fs : List R) (q : R) (i : Nat) (la aq lf : Addr) (kk : Int) (t : Tok) (vs : List Value) (n : Nat) (I : Addr) (it : Obj) (j : Nat) (m : Str → Option Value) (nx : List (Addr × Obj)) : Prop
  | mk (v : Value) (tt : R) (rest : List (Addr × Obj)) : (spIn xs fs q i j = some tt) → (m (Str.ofString "a") = some (.ref la)) → (m (Str.ofString "number") = some (.ref aq)) → (m (Str.ofString "found") = some (.ref lf)) → (m (Str.ofString "at") = some (.int kk t)) → (m (Str.ofString "total") = some v) → (nx = (lf, listOf vs.toArray n) :: (I, it) :: rest) → (RatsM rest vs fs) → (RatM rest v tt) → (∀ p ∈ rest, p.2.cls = .type "tuple") → SpK xs fs q i la aq lf kk t vs n I it j m nx
set_option maxHeartbeats 8000000 in
theorem spower_tells (w : World) (va vq : Value) (xs zs : List R) (q : R) (hx : xs.length ≤ 64) (hx0 : 0 < xs.length) (hs : sm4 (xs.getD 0 (0, 1)) (1, 1) = true) (hc : cmpF (xs.getD 0 (0, 1)) (1, 1) = 0) (hr : spTo xs q xs.length = some zs) :
    Tells w 153 60 [va, vq] (fun h => ListV h va xs ∧ RatV h vq q) (fun h h' v => ListNew h h' v zs) := by
  unfold Tells
  intro prog p loose mean mg mb dp un gd cn cs a' ccd cl outer A₀ base h₀ L m s Q E B F X T hk hd hu hpre hret
  obtain ⟨⟨la, vsa, na, rfl, ea, ra⟩, ⟨aq, tq, uq, nq, rfl, oq⟩⟩ := hpre
  have hla : s.heap.IsList la vsa.toArray := ⟨_, ea, rfl, _, rfl⟩
  have lna := ra.length
  have hrq : RatV s.heap (.ref aq) q := ⟨_, _, _, _, rfl, oq⟩
  refine wpAny_call ?_
  refine' code_pure (binds := [(Str.ofString "a", Value.ref la), (Str.ofString "number", Value.ref aq)]) ?k1 ?k2 ?k3 ?k5 ?kA ?kF ?kK ?k6 ?k7 ?k8 ?k9 ?kB ?_ ?c2 ?c3 ?c4 ?c5; (case kA => exact rfl); (case kF => exact rfl); (case kK => assumption); (case k1 => k_asm); (case k2 => k_asm); (case k3 => k_asm); (case k5 => k_asm); (case k6 => k_is); (case k7 => k_is); (case k8 => first | exact dp_in hd | ktr_room); (case k9 => exact BindsTo.of_eq rfl); (case c5 => decide); (case kB => exact locs rfl); (case c2 => exact rfl); (case c3 => exact rfl); (case c4 => exact rfl)
  k_whole
  clear B F X T
  intro QQ hQQ hQN
  intro L' h' F' N' B' X' T'
  replace hret := fun r h' tk' x y => hQQ _ _ (hret r h' tk' x y)
  (try dsimp only)
  (try k_fold)
  k_with_none
  have h49 := at49 X'
  have h50 := at50 X'
  k_with "call builtin:len" => (
    refine' len_at ?k1 ?k2 ?k3 ?_
    (case k1 => exact Fr.lst (by assumption) (by assumption))
    (case k2 => assumption)
    (case k3 => omega)
    k_whole)
  k_with "subscriptTail" => k_dflt (
    (refine' item_at ?k1 ?k2 ?k4 ?_ ?k6)
    (case k1 => first
      | exact Fr.lst (by assumption) (by assumption)
      | exact News.isList (by assumption) (List.Mem.head _)
      | exact News.isList (by assumption) (.tail _ (List.Mem.head _))
      | exact News.isList (by assumption) (.tail _ (.tail _ (List.Mem.head _)))
      | exact News.isList (by assumption) (.tail _ (.tail _ (.tail _ (List.Mem.head _)))))
    (case k2 => first | assumption | decide)
    (case k4 => assumption)
    (case k6 => with_unfolding_all rfl)
    k_whole)
  k_with "compareOp Eq ref ref" => (
    refine' eq_rat ?k1 ?k2 ?k3 ?_
    (case k1 => exact RatV.fr (by assumption) (by assumption))
    (case k2 => exact RatV.fr (by assumption) (by assumption))
    (case k3 => ke_room)
    k_whole)
  k_with "pyIter ref" => (refine halt ?_)
  k_with "TurnPost" => (refine halt ?_)
  k_with "TurnEnd" => (refine halt ?_)
  k_with "CompSrc" => (refine halt ?_)
  k_with "call builtin:list.append" => (refine halt ?_)
  k_with "call ref" => (
    refine' use (need_tells w _ _ xs (1, 1) hx (by omega) hs hc) ?k1 ?k2 ?k3 ?k4 ?k5 ?k6 ?k7 ?k8 ?k9 ?_
    (case k1 => k_asm)
    (case k2 => k_asm)
    (case k3 => k_asm)
    (case k4 => k_asm)
    (case k5 => k_asm)
    (case k6 => exact rfl)
    (case k7 => first | exact dp_lt hd (by decide) | ktr_room)
    (case k8 => first | exact un_lt hu (by decide) | ktr_units)
    (case k9 => exact ⟨ListV.ext ⟨la, vsa, na, rfl, ea, ra⟩ (by exact Fr.keep (by assumption)), RatV.fr h50 (by assumption)⟩)
    k_whole
    rintro _ h9 tk9 x9 F9 N9 rfl
    (try dsimp only))
  k_steps
  unfold Halt
  rename Fr _ _ _ _ => F1
  rename News _ _ _ _ => N1
  rename IsRange _ _ _ _ _ _ _ _ => rg
  refine range_inv (n := xs.length) (SpJ xs q la aq)
    (by rfl) rg (rng0 hx).1 (rng0 hx).2 F1 N1 ⟨_, [], [], 0, [], rfl, rfl, rfl, rfl, rfl, .nil, fun _ hp => nomatch hp⟩ ?_ ?_ ?_
  · rintro i m nx ⟨lf, fs, vs, n, tl, _, _, _, _, rfl, _, hc⟩ p hp
    rcases List.mem_cons.mp hp with rfl | hp
    · exact .inl list_ne_rng
    · rw [hc p hp]
      exact .inl (by decide)
  · rintro PP i kk t m₁ nx h tk I it hPP hPR hPB hi hkk ⟨lf, fs, vs, n, tl, hfs, ha, hnq, hf, rfl, hM, hcls⟩ F2 N2 hitc
    replace F2 : Fr s.heap L' h _ := fr_turn F2 [(Str.ofString "a", .ref la), (Str.ofString "number", .ref aq), (Str.ofString "found", .ref lf)] (allc ha (allc hnq (all1 hf)))
    replace N2 : News s.heap L' h _ := N2
    dsimp only [kstB] at F2
    obtain ⟨fs', hfs'⟩ := spTo_le hr (show i + 1 ≤ xs.length from hi)
    have hfs2 := hfs'
    rw [spTo, hfs, Option.bind_some] at hfs'
    obtain ⟨tot, htot, hfs'⟩ := Option.bind_eq_some_iff.mp hfs'
    have hfl := spTo_len hfs
    have lvs := hM.length
    clear F1 N1 rg
    (try dsimp only)
    (try k_fold)
    k_steps
    unfold Halt
    rename Fr _ _ _ _ => F3
    rename News _ _ _ _ => N3
    rename IsRange _ _ _ _ _ _ _ _ => rg2
    replace N3 := news_2 N3
    refine range_inv (n := i) (SpK xs fs q i la aq lf kk t vs n I it)
      (by rfl) rg2 (rng1 hkk (Nat.lt_of_lt_of_le hi hx)).1 (rng1 hkk (Nat.lt_of_lt_of_le hi hx)).2 F3 N3 ⟨_, _, tl, rfl, rfl, rfl, rfl, rfl, rfl, rfl, hM, .zero, hcls⟩ ?_ ?_ ?_
    · rintro j m nx ⟨v, tt, rest, _, _, _, _, _, _, rfl, _, _, hc⟩ p hp
      rcases List.mem_cons.mp hp with rfl | hp
      · exact .inl list_ne_rng
      rcases List.mem_cons.mp hp with rfl | hp
      · exact .inr (.tail _ (.head _))
      · rw [hc p hp]
        exact .inl (by decide)
    · rintro PP j k2 t2 m₂ nx2 h2 tk2 I2 it2 hPP hPR hPB hj hk2 ⟨v, tt, rest, htt, ha2, hnq2, hf2, hat2, htot2, rfl, hMr, hvr, hcr⟩ F4 N4 hit2
      replace F4 : Fr s.heap L' h2 _ := fr_turn F4 [(Str.ofString "a", .ref la), (Str.ofString "number", .ref aq), (Str.ofString "found", .ref lf), (Str.ofString "at", .int kk t), (Str.ofString "total", v)] (allc ha2 (allc hnq2 (allc hf2 (allc hat2 (all1 htot2)))))
      replace N4 : News s.heap L' h2 _ := N4
      dsimp only [kstB] at F4
      obtain ⟨tt', htt'⟩ := spIn_le htot (show j + 1 ≤ i from hj)
      have htt2 := htt'
      rw [spIn, htt, Option.bind_some] at htt'
      obtain ⟨p1, hp1, htt'⟩ := Option.bind_eq_some_iff.mp htt'
      obtain ⟨tm, hp2, htt'⟩ := Option.bind_eq_some_iff.mp htt'
      obtain ⟨p2, hp3, htt'⟩ := Option.bind_eq_some_iff.mp htt'
      obtain ⟨p3, hp4, hp5⟩ := Option.bind_eq_some_iff.mp htt'
      obtain ⟨vj, hvj, hrj⟩ := ra.get (k := j + 1) (Nat.lt_of_le_of_lt hj hi)
      obtain ⟨e1, e2, bk2, bk3, e3, e4, e5⟩ := ar_idx hkk hk2 hj (Nat.lt_of_lt_of_le hi hx)
      obtain ⟨wj, hwj, hqj⟩ := hMr.get (k := i - (j + 1)) (hfl.symm ▸ e5)
      rw [e3] at hp1
      rw [e4] at hp2
      generalize xs.getD (j + 1) (0, 1) = x at hrj hp3
      generalize fs.getD (i - (j + 1)) (0, 1) = y at hqj hp4
      rw [e1] at hvj
      rw [e2] at hwj
      clear F3 N3 rg2
      (try dsimp only)
      (try k_fold)
      k_with "subscriptTail" => k_dflt (
        (refine' item_at ?k1 ?k2 ?k4 ?_ ?k6)
        (case k1 => first
          | exact Fr.lst (by assumption) (by assumption)
          | exact News.isList (by assumption) (List.Mem.head _)
          | exact News.isList (by assumption) (.tail _ (List.Mem.head _))
          | exact News.isList (by assumption) (.tail _ (.tail _ (List.Mem.head _)))
          | exact News.isList (by assumption) (.tail _ (.tail _ (.tail _ (List.Mem.head _))))
          | exact News.isList (by assumption) (.tail _ (.tail _ (.tail _ (.tail _ (.tail _ (.tail _ (List.Mem.head _)))))))
          | exact News.isList (by assumption) (by (repeat (first | exact List.Mem.head _ | refine .tail _ ?_))))
        (case k2 => first | assumption | decide)
        (case k4 => assumption)
        (case k6 => with_unfolding_all rfl)
        k_whole)
      k_with "call ref" => (
        refine' useN (rmul_tells _ _ _ q (k2, 1) p1 hp1) ?k1 ?k2 ?k3 ?k4 ?k5 ?k6 ?k7 ?k8 ?k9 ?_
        (case k1 => k_asm)
        (case k2 => k_asm)
        (case k3 => k_asm)
        (case k4 => k_asm)
        (case k5 => k_asm)
        (case k6 => exact rfl)
        (case k7 => first | exact dp_lt hd (by decide) | ktr_room)
        (case k8 => first | exact un_lt hu (by decide) | ktr_units)
        (case k9 => exact ⟨RatV.fr hrq (by assumption), ratv_head (x := (k2, 1)) (by assumption)⟩)
        k_whole
        intro a9 t9 u9 n9 h9 tk9 F9 N9
    
        (try dsimp only)
        (try k_sweep))
      k_with "call ref" => (
        refine' useN (rsub_tells _ _ _ p1 (kk - k2, 1) tm hp2) ?k1 ?k2 ?k3 ?k4 ?k5 ?k6 ?k7 ?k8 ?k9 ?_
        (case k1 => k_asm)
        (case k2 => k_asm)
        (case k3 => k_asm)
        (case k4 => k_asm)
        (case k5 => k_asm)
        (case k6 => exact rfl)
        (case k7 => first | exact dp_lt hd (by decide) | ktr_room)
        (case k8 => first | exact un_lt hu (by decide) | ktr_units)
        (case k9 => exact ⟨ratv_snd (by assumption), ratv_head (x := (kk - k2, 1)) (by assumption)⟩)
        k_whole
        intro a9 t9 u9 n9 h9 tk9 F9 N9
    
        (try dsimp only)
        (try k_sweep))
      k_with "call ref" => (
        refine' useN (rmul_tells _ _ _ tm x p2 hp3) ?k1 ?k2 ?k3 ?k4 ?k5 ?k6 ?k7 ?k8 ?k9 ?_
        (case k1 => k_asm)
        (case k2 => k_asm)
        (case k3 => k_asm)
        (case k4 => k_asm)
        (case k5 => k_asm)
        (case k6 => exact rfl)
        (case k7 => first | exact dp_lt hd (by decide) | ktr_room)
        (case k8 => first | exact un_lt hu (by decide) | ktr_units)
        (case k9 => exact ⟨ratv_head (by assumption), RatV.fr hrj (by assumption)⟩)
        k_whole
        intro a9 t9 u9 n9 h9 tk9 F9 N9
    
        (try dsimp only)
        (try k_sweep))
      k_with "call ref" => (
        refine' useN (rmul_tells _ _ _ p2 y p3 hp4) ?k1 ?k2 ?k3 ?k4 ?k5 ?k6 ?k7 ?k8 ?k9 ?_
        (case k1 => k_asm)
        (case k2 => k_asm)
        (case k3 => k_asm)
        (case k4 => k_asm)
        (case k5 => k_asm)
        (case k6 => exact rfl)
        (case k7 => first | exact dp_lt hd (by decide) | ktr_room)
        (case k8 => first | exact un_lt hu (by decide) | ktr_units)
        (case k9 => exact ⟨ratv_head (by assumption), RatM.val hqj X' (by assumption) (by assumption) (fun p hp => by simp only [List.mem_cons, hp, or_true])⟩)
        k_whole
        intro a9 t9 u9 n9 h9 tk9 F9 N9
    
        (try dsimp only)
        (try k_sweep))
      k_with "call ref" => (
        refine' useN (radd_tells _ _ _ tt p3 tt' hp5) ?k1 ?k2 ?k3 ?k4 ?k5 ?k6 ?k7 ?k8 ?k9 ?_
        (case k1 => k_asm)
        (case k2 => k_asm)
        (case k3 => k_asm)
        (case k4 => k_asm)
        (case k5 => k_asm)
        (case k6 => exact rfl)
        (case k7 => first | exact dp_lt hd (by decide) | ktr_room)
        (case k8 => first | exact un_lt hu (by decide) | ktr_units)
        (case k9 => exact ⟨RatM.val hvr X' (by assumption) (by assumption) (fun p hp => by simp only [List.mem_cons, hp, or_true]), ratv_head (by assumption)⟩)
        k_whole
        intro a9 t9 u9 n9 h9 tk9 F9 N9
    
        (try dsimp only)
        (try k_sweep))
      k_steps
      all_goals (
        rename Fr _ _ _ _ => F9
        rename News _ _ _ _ => N9
        refine hPP _ ?_
        have N8 : News s.heap L' _ ((I2, it2) :: (lf, listOf vs.toArray n) :: (I, it) :: (a9, tupO tt'.1 tt'.2 t9 u9 n9) :: rest) := news_sub N9 (fun p hp => by
          simp only [List.mem_cons] at hp ⊢
          rcases hp with hp | hp | hp | hp | hp <;> simp only [hp, true_or, or_true])
        exact ⟨_, _, _, _, rfl, F9, N8, _, tt', _, htt2, rfl, rfl, rfl, rfl, rfl, rfl, hMr.mono (fun p hp => .tail _ hp), RatM.new (.head _), cls_cons rfl hcr⟩)
    · rintro m₂ nx2 h2 tk2 ⟨v, tt, rest, htt, ha2, hnq2, hf2, hat2, htot2, rfl, hMr, hvr, hcr⟩ F4 N4
      replace F4 : Fr s.heap L' h2 _ := fr_names F4 [(Str.ofString "a", .ref la), (Str.ofString "number", .ref aq), (Str.ofString "found", .ref lf), (Str.ofString "at", .int kk t), (Str.ofString "total", v)] (allc ha2 (allc hnq2 (allc hf2 (allc hat2 (all1 htot2)))))
      replace N4 : News s.heap L' h2 _ := N4
      dsimp only [kstB] at F4
      cases htt.symm.trans htot
      clear F3 N3 rg2
      (try dsimp only)
      (try k_fold)
      by_cases e0 : kk = 0
      · rw [if_pos ((zero_of hkk).mp e0)] at hfs'
        cases hfs'
        k_with "ite" => first
          | (refine' ite_pos ?c ?_; (case c => (simp [e0]; done)))
          | (refine' ite_neg ?c ?_; (case c => (simp [e0]; done)))
        k_steps
        unfold Halt
        rename Fr _ _ _ _ => F5
        rename News _ _ _ _ => N5
        refine append_gen ((I, it) :: rest) F5 N5 (.head _) (fun p hp => ?_) (len_ok lvs hfl hi hx) ?_
        · refine ⟨.tail _ hp, addr_ne N5 (.tail _ hp) (.head _) ?_⟩
          rcases List.mem_cons.mp hp with rfl | hp
          · rw [hitc]; exact Ne.symm list_ne_rng
          · rw [hcr p hp]; exact tup_ne_list
        intro h6 F6 N6
        (try dsimp only)
        clear F5 N5
        k_steps
        all_goals (
          rename Fr _ _ _ _ => F9
          rename News _ _ _ _ => N9
          refine hPP _ ?_
          exact ⟨_, _, _, _, rfl, F9, news_2 N9, lf, _, _, _, _, hfs2, rfl, rfl, rfl, rfl, hMr.snoc .one, hcr⟩)
      · rw [if_neg (fun q => e0 ((zero_of hkk).mpr q))] at hfs'
        obtain ⟨z, hz, hfs'⟩ := Option.bind_eq_some_iff.mp hfs'
        split at hfs'
        case isFalse => cases hfs'
        rename_i hsz
        cases hfs'
        have e5 : (i : Int) = kk := by omega
        rw [e5] at hz
        k_with "ite" => first
          | (refine' ite_pos ?c ?_; (case c => (simp [e0]; done)))
          | (refine' ite_neg ?c ?_; (case c => (simp [e0]; done)))
        k_with "call ref" => (
          refine' useN (rdiv_tells _ _ _ _ (kk, 1) z hz) ?k1 ?k2 ?k3 ?k4 ?k5 ?k6 ?k7 ?k8 ?k9 ?_
          (case k1 => k_asm)
          (case k2 => k_asm)
          (case k3 => k_asm)
          (case k4 => k_asm)
          (case k5 => k_asm)
          (case k6 => exact rfl)
          (case k7 => first | exact dp_lt hd (by decide) | ktr_room)
          (case k8 => first | exact un_lt hu (by decide) | ktr_units)
          (case k9 => exact ⟨RatM.val hvr X' (by assumption) (by assumption) (fun p hp => .tail _ (.tail _ (.tail _ hp))), ratv_head (x := (kk, 1)) (by assumption)⟩)
          k_whole
          intro a9 t9 u9 n9 h9 tk9 F9 N9
    
          (try dsimp only)
          (try k_sweep))
        k_with "call ref" => (
          refine' use (let_tells w _ z hsz) ?k1 ?k2 ?k3 ?k4 ?k5 ?k6 ?k7 ?k8 ?k9 ?_
          (case k1 => k_asm)
          (case k2 => k_asm)
          (case k3 => k_asm)
          (case k4 => k_asm)
          (case k5 => k_asm)
          (case k6 => exact rfl)
          (case k7 => first | exact dp_lt hd (by decide) | ktr_room)
          (case k8 => first | exact un_lt hu (by decide) | ktr_units)
          (case k9 => exact ratv_head (by assumption))
          k_whole
          rintro _ h8 tk8 x8 F8 N8 rfl
          (try dsimp only))
        k_steps
        unfold Halt
        rename Fr _ _ _ _ => F5
        rename News _ _ _ _ => N5
        refine append_2 F5 (news_skip N5) tup_ne_list (fun p hp => ?_) (len_ok lvs hfl hi hx) ?_
        · rcases List.mem_cons.mp hp with rfl | hp
          · rw [hitc]; exact Ne.symm list_ne_rng
          · rw [hcr p hp]; exact tup_ne_list
        intro h6 F6 N6
        (try dsimp only)
        clear F5 N5
        k_steps
        all_goals (
          rename Fr _ _ _ _ => F9
          rename News _ _ _ _ => N9
          refine hPP _ ?_
          exact ⟨_, _, _, _, rfl, F9, news_3 N9, lf, _, _, _, _, hfs2, rfl, rfl, rfl, rfl, (hMr.mono (fun p hp => .tail _ hp)).snoc (RatM.new (.head _)), cls_cons rfl hcr⟩)
    all_goals k_steps
  · rintro m₁ nx h tk ⟨lf, fs, vs, n, tl, hfs, ha, hnq, hf, rfl, hM, hcls⟩ F2 N2
    replace F2 : Fr s.heap L' h _ := fr_names F2 [(Str.ofString "found", .ref lf)] (all1 hf)
    replace N2 : News s.heap L' h _ := N2
    dsimp only [kstB] at F2
    cases hfs.symm.trans hr
    clear F1 N1
    k_steps
    all_goals (
      rename Fr _ _ _ _ => F9
      rename News _ _ _ _ => N9
      exact hret _ _ _ F9.keep ⟨lf, vs, n, tl, rfl, (N9 _ (.head _)).2.2, (N9 _ (.head _)).1, hM, fun p hp => ⟨(N9 _ (.tail _ hp)).1, (N9 _ (.tail _ hp)).2.2⟩⟩)
  all_goals k_steps
theorem rep_one (v : Value) : ∀ n : Nat, (List.replicate n [v]).flatten = List.replicate n v
  | 0 => rfl
  | n + 1 => by rw [List.replicate_succ, List.flatten_cons, rep_one v n]; rfl
theorem pick_up (vs : List Value) (k : Nat) : slicePick vs.toArray none (some (k : Int)) none = (vs.take k).toArray := slicePick_upto' vs.toArray k
theorem rats_zero (nx : List (Addr × Obj)) : ∀ n : Nat, RatsM nx (List.replicate n (.ref 49)) (List.replicate n (0, 1))
  | 0 => .nil
  | n + 1 => .cons .zero (rats_zero nx n)
set_option maxHeartbeats 8000000 in
theorem cut_tells (w : World) (va : Value) (k : Nat) (tk : Tok) (hk0 : 0 < k) (hk : k ≤ 64) :
    Tells w 106 30 [va, .int (k : Int) tk] (fun h => ∃ la n, va = .ref la ∧ h.get? la = some (listOf [Value.ref 50].toArray n)) (fun h h' v => ListNew h h' v ((1, 1) :: List.replicate (k - 1) (0, 1))) := by
  unfold Tells
  intro prog p loose mean mg mb dp un gd cn cs a' ccd cl outer A₀ base h₀ L m s Q E B F X T hk hd hu hpre hret
  obtain ⟨la, na, rfl, ea⟩ := hpre
  have hla : s.heap.IsList la [Value.ref 50].toArray := ⟨_, ea, rfl, _, rfl⟩
  have lna : [Value.ref 50].length = 1 := rfl
  refine wpAny_call ?_
  refine' code_pure (binds := [(Str.ofString "a", Value.ref la), (Str.ofString "order", Value.int (k : Int) tk)]) ?k1 ?k2 ?k3 ?k5 ?kA ?kF ?kK ?k6 ?k7 ?k8 ?k9 ?kB ?_ ?c2 ?c3 ?c4 ?c5; (case kA => exact rfl); (case kF => exact rfl); (case kK => assumption); (case k1 => k_asm); (case k2 => k_asm); (case k3 => k_asm); (case k5 => k_asm); (case k6 => k_is); (case k7 => k_is); (case k8 => first | exact dp_in hd | ktr_room); (case k9 => exact BindsTo.of_eq rfl); (case c5 => decide); (case kB => exact locs rfl); (case c2 => exact rfl); (case c3 => exact rfl); (case c4 => exact rfl)
  k_whole
  clear B F X T
  intro QQ hQQ hQN
  intro L' h' F' N' B' X' T'
  replace hret := fun r h' tk' x y => hQQ _ _ (hret r h' tk' x y)
  (try dsimp only)
  (try k_fold)
  k_with_none
  have h49 := at49 X'
  k_with "call builtin:len" => (
    refine' len_at ?k1 ?k2 ?k3 ?_
    (case k1 => exact Fr.lst (by assumption) (by assumption))
    (case k2 => assumption)
    (case k3 => omega)
    k_whole)
  k_with "call type:list" => (refine halt ?_)
  k_with "binaryOp Mult ref int" => (refine halt ?_)
  k_with "binaryOp Add ref ref" => (refine halt ?_)
  k_steps
  unfold Halt
  rename Fr _ _ _ _ => F1
  rename News _ _ _ _ => N1
  rw [pick_up, List.take_of_length_le (show [Value.ref 50].length ≤ k from hk0)] at N1
  refine list_copyK F1 N1 (News.isList N1 (.head _)) ?_ (by rw [sizeLine_eq]; simp)
  intro D c h2 F2 N2 l2
  (try dsimp only)
  clear F1 N1
  k_steps
  unfold Halt
  rename Fr _ _ _ _ => F3
  rename News _ _ _ _ => N3
  refine KMa.mul (ws := List.replicate (k - 1) (.ref 49)) F3 N3 (News.isList N3 (.head _)) (by omega) (by omega) (by simp only [List.length_cons, List.length_nil]; omega) (by rw [rep_one]; congr 1; omega) ?_
  intro D2 h4 F4 N4 l4
  (try dsimp only)
  clear F3 N3
  k_steps
  unfold Halt
  rename Fr _ _ _ _ => F5
  rename News _ _ _ _ => N5
  refine add_arrays F5 N5 (News.isList N5 (.tail _ (.tail _ (.head _)))) (News.isList N5 (.head _)) ?_ (by rw [sizeLine_eq]; simp only [List.size_toArray, List.length_cons, List.length_nil, List.length_replicate]; omega)
  intro h6 F6 N6
  (try dsimp only)
  k_steps
  all_goals (
    rename Fr _ _ _ _ => F9
    rename News _ _ _ _ => N9
    exact hret _ _ _ F9.keep ⟨_, .ref 50 :: List.replicate (k - 1) (.ref 49), 0, [], rfl, (N9 _ (.head _)).2.2, (N9 _ (.head _)).1, .cons .one (rats_zero _ _), fun _ h => nomatch h⟩)
noncomputable def ListL (h₀ : Heap) (nx : List (Addr × Obj)) (v : Value) (xs : List R) : Prop := ∃ a us n, v = .ref a ∧ ((h₀.get? a = some (listOf us.toArray n) ∧ RatsV h₀ us xs) ∨ ((a, listOf us.toArray n) ∈ nx ∧ RatsM nx us xs))
theorem ListL.mono {h₀ : Heap} {nx ny : List (Addr × Obj)} {v : Value} {xs : List R} (r : ListL h₀ nx v xs) (hs : ∀ p ∈ nx, p ∈ ny) : ListL h₀ ny v xs := by
  obtain ⟨a, us, n, e, r | r⟩ := r
  · exact ⟨a, us, n, e, .inl r⟩
  · exact ⟨a, us, n, e, .inr ⟨hs _ r.1, r.2.mono hs⟩⟩
theorem ListL.val {w : World} {h₀ h : Heap} {L : Addr} {m : Str → Option Value} {nx ny : List (Addr × Obj)} {v : Value} {xs : List R} (r : ListL h₀ nx v xs) (X : (Mine.hd.heap_39 w.params).In h₀) (F : Fr h₀ L h m) (N : News h₀ L h ny) (hs : ∀ p ∈ nx, p ∈ ny) : ListV h v xs := by
  obtain ⟨a, us, n, e, r | r⟩ := r
  · exact ⟨a, us, n, e, F.keep _ _ r.1, r.2.ext F.keep⟩
  · exact ⟨a, us, n, e, (N _ (hs _ r.1)).1, r.2.val X F N hs⟩
theorem listl_new {h₀ h : Heap} {L a : Addr} {us : List Value} {n : Nat} {nx ny : List (Addr × Obj)} {xs : List R} (N : News h₀ L h ((a, listOf us.toArray n) :: (nx ++ ny))) (hM : RatsM nx us xs) : ListL h₀ ((a, listOf us.toArray n) :: (nx ++ ny)) (.ref a) xs := ⟨a, us, n, rfl, .inr ⟨.head _, hM.mono fun p hp => .tail _ (mem_l hp)⟩⟩
noncomputable def swGo : Nat → List R → List R → Nat → Option (List R)
  | 0, fs, _, _ => some fs
  | f + 1, fs, bs, l => if l = 0 then some fs else (if l % 2 = 1 then smulP fs bs else some fs).bind fun fs' => (if 0 < l / 2 then smulP bs bs else some bs).bind fun bs' => swGo f fs' bs' (l / 2)
noncomputable def swP (xs : List R) (k : Nat) : Option (List R) := swGo k ((1, 1) :: List.replicate (xs.length - 1) (0, 1)) xs k
theorem swGo_zero {f : Nat} {fs bs : List R} : swGo f fs bs 0 = some fs := by
  cases f with
  | zero => rfl
  | succ f => rw [swGo, if_pos rfl]
theorem mod_2 {prog : Program} {w : World} {A : Around} {E : Value → Shared → Prop} {s : Shared} {l : Nat} {t u : Tok} {Q : Value → Shared → Prop} (hA : A.handled = none) (h : Q (.int ((l % 2 : Nat) : Int) s.toks) { s with toks := s.toks + 1 }) : wpAny (model prog w) A (binaryOp .Mod (.int (l : Int) t) (.int 2 u)) Q E s := by
  refine mod_int_or hA (fun e => absurd e (by decide)) fun _ => ?_
  rw [show Int.fmod (l : Int) 2 = ((l % 2 : Nat) : Int) from by rw [Int.fmod_eq_emod_of_nonneg _ (by omega)]; omega]
  exact h
theorem div_2 {prog : Program} {w : World} {A : Around} {E : Value → Shared → Prop} {s : Shared} {l : Nat} {t u : Tok} {Q : Value → Shared → Prop} (h : Q (.int ((l / 2 : Nat) : Int) s.toks) { s with toks := s.toks + 1 }) : wpAny (model prog w) A (binaryOp .FloorDiv (.int (l : Int) t) (.int 2 u)) Q E s := by
  refine floordiv_int (by decide) ?_ (Or.inl (small_div (by decide)))
  rw [show Int.fdiv (l : Int) 2 = ((l / 2 : Nat) : Int) from by rw [Int.fdiv_eq_ediv_of_nonneg _ (by omega)]; omega]
  exact h
theorem smulP_len {xs ys zs : List R} (h : smulP xs ys = some zs) : zs.length = min xs.length ys.length := (smulTo_some h).1
theorem half_ok {n g : Nat} (hn : n ≤ g + 1) (c0 : n ≠ 0) : n / 2 < n ∧ n / 2 ≤ g := by omega
theorem odd_iff {n : Nat} : n % 2 = 1 ↔ ((n % 2 : Nat) : Int) = 1 := by omega
theorem half_pos {n : Nat} : 0 < n / 2 ↔ 0 < ((n / 2 : Nat) : Int) := by omega
theorem no_half {n : Nat} (c0 : n ≠ 0) (c2 : ¬ n % 2 = 1) (c3 : ¬ 0 < n / 2) : False := by omega
inductive SwJ (h₀ : Heap) (xs zs : List R) (n : Nat) (m : Str → Option Value) (nx : List (Addr × Obj)) : Prop
  | mk (f : Nat) (fs : List R) (bs : List R) (vf : Value) (vb : Value) (t : Tok) : (swGo f fs bs n = some zs) → (n ≤ f) → (m (Str.ofString "found") = some vf) → (m (Str.ofString "base") = some vb) → (m (Str.ofString "left") = some (.int (n : Int) t)) → (ListL h₀ nx vf fs) → (ListL h₀ nx vb bs) → (fs.length = xs.length) → (bs.length = xs.length) → SwJ h₀ xs zs n m nx
set_option maxHeartbeats 8000000 in
theorem swhole_tells (w : World) (va : Value) (k : Nat) (tk : Tok) (xs zs : List R) (hx : xs.length ≤ 64) (hx0 : 0 < xs.length) (hr : swP xs k = some zs) :
    Tells w 160 80 [va, .int (k : Int) tk] (fun h => ListV h va xs) (fun h h' v => ListV h' v zs) := by
  unfold Tells
  intro prog p loose mean mg mb dp un gd cn cs a' ccd cl outer A₀ base h₀ L m s Q E B F X T hk hd hu hpre hret
  obtain ⟨la, vsa, na, rfl, ea, ra⟩ := hpre
  have hla : s.heap.IsList la vsa.toArray := ⟨_, ea, rfl, _, rfl⟩
  have lna := ra.length
  unfold swP at hr
  have ck : ¬ (k : Int) < 0 := by omega
  refine wpAny_call ?_
  refine' code_pure (binds := [(Str.ofString "a", Value.ref la), (Str.ofString "many", Value.int (k : Int) tk)]) ?k1 ?k2 ?k3 ?k5 ?kA ?kF ?kK ?k6 ?k7 ?k8 ?k9 ?kB ?_ ?c2 ?c3 ?c4 ?c5; (case kA => exact rfl); (case kF => exact rfl); (case kK => assumption); (case k1 => k_asm); (case k2 => k_asm); (case k3 => k_asm); (case k5 => k_asm); (case k6 => k_is); (case k7 => k_is); (case k8 => first | exact dp_in hd | ktr_room); (case k9 => exact BindsTo.of_eq rfl); (case c5 => decide); (case kB => exact locs rfl); (case c2 => exact rfl); (case c3 => exact rfl); (case c4 => exact rfl)
  k_whole
  clear B F X T
  intro QQ hQQ hQN
  intro L' h' F' N' B' X' T'
  replace hret := fun r h' tk' x y => hQQ _ _ (hret r h' tk' x y)
  (try dsimp only)
  (try k_fold)
  k_with_none
  have h49 := at49 X'
  have h50 := at50 X'
  k_with "call builtin:len" => (
    refine' len_at ?k1 ?k2 ?k3 ?_
    (case k1 => exact Fr.lst (by assumption) (by assumption))
    (case k2 => assumption)
    (case k3 => omega)
    k_whole)
  k_with "exec While Compare cons nil" => (refine halt ?_)
  k_with "WhileStep2" => (refine halt ?_)
  k_with "ite" => first
    | (refine' ite_pos ?c ?_; (case c => (simp [ck]; done)))
    | (refine' ite_neg ?c ?_; (case c => (simp [ck]; done)))
  k_with "call ref" => (
    refine' useL (cut_tells w _ xs.length _ hx0 hx) ?k1 ?k2 ?k3 ?k4 ?k5 ?k6 ?k7 ?k8 ?k9 ?_
    (case k1 => k_asm)
    (case k2 => k_asm)
    (case k3 => k_asm)
    (case k4 => k_asm)
    (case k5 => k_asm)
    (case k6 => exact rfl)
    (case k7 => first | exact dp_lt hd (by decide) | ktr_room)
    (case k8 => first | exact un_lt hu (by decide) | ktr_units)
    (case k9 => exact ⟨_, _, rfl, (by rename News _ _ _ _ => Nq; exact (Nq _ (.head _)).1)⟩)
    k_whole
    intro a9 us9 n9 nx9 h9 tk9 F9 N9 hM9 hc9 ho9
    
    (try dsimp only)
    (try k_sweep))
  k_steps
  unfold Halt
  rename Fr _ _ _ _ => F1
  rename News _ _ _ _ => N1
  rw [if_neg ck] at F1
  refine While_inv2 (n₀ := k) (SwJ s.heap xs zs)
    F1 N1 ⟨k, _, xs, _, _, _, hr, Nat.le_refl _, rfl, rfl, rfl, ⟨_, _, _, rfl, .inr ⟨.tail _ (.head _), hM9.mono fun p hp => .tail _ (.tail _ (List.mem_append.mpr (.inl hp)))⟩⟩, ⟨_, _, _, rfl, .inl ⟨ea, ra⟩⟩, by simp only [List.length_cons, List.length_replicate]; omega, rfl⟩ ?_ ?_
  · rintro n m₁ nx h₁ tk₁ F2 N2 ⟨f, fs, bs, vf, vb, t, hgo, hnf, hf, hb, hl, hLf, hLb, lf, lb⟩
    replace F2 := fr_names F2 [(Str.ofString "found", vf), (Str.ofString "base", vb), (Str.ofString "left", .int (n : Int) t)] (allc hf (allc hb (all1 hl)))
    dsimp only [kstB] at F2
    clear F1 N1
    (try dsimp only)
    (try k_fold)
    by_cases c0 : n = 0
    · subst c0
      rw [swGo_zero] at hgo
      cases hgo
      k_with "ite" => first
        | (refine' ite_pos ?c ?_; (case c => (simp [Int.lt_irrefl]; done)))
        | (refine' ite_neg ?c ?_; (case c => (simp [Int.lt_irrefl]; done)))
      k_steps
      all_goals (
        rename Fr _ _ _ _ => F9
        rename News _ _ _ _ => N9
        exact hret _ _ _ F9.keep (hLf.val X' F9 N9 fun _ h => h))
    · obtain ⟨g, rfl⟩ : ∃ g, f = g + 1 := ⟨f - 1, (Nat.sub_add_cancel (Nat.le_trans (Nat.pos_of_ne_zero c0) hnf)).symm⟩
      rw [swGo, if_neg c0] at hgo
      obtain ⟨fs', hfs', hgo⟩ := Option.bind_eq_some_iff.mp hgo
      obtain ⟨bs', hbs', hgo⟩ := Option.bind_eq_some_iff.mp hgo
      have c1 : 0 < (n : Int) := Int.natCast_pos.mpr (Nat.pos_of_ne_zero c0)
      obtain ⟨hh1, hh2⟩ := half_ok hnf c0
      have lf' : fs'.length = xs.length := by
        split at hfs'
        · rw [smulP_len hfs', lf, lb, Nat.min_self]
        · cases hfs'; exact lf
      have lb' : bs'.length = xs.length := by
        split at hbs'
        · rw [smulP_len hbs', lb, Nat.min_self]
        · cases hbs'; exact lb
      k_with "binaryOp Mod int int" => k_dflt (refine mod_2 (by rfl) ?_)
      k_with "binaryOp FloorDiv int int" => k_dflt (refine div_2 ?_)
      by_cases c2 : n % 2 = 1
      · rw [if_pos c2] at hfs'
        have d2 : ((n % 2 : Nat) : Int) = 1 := odd_iff.mp c2
        by_cases c3 : 0 < n / 2
        · rw [if_pos c3] at hbs'
          have d3 : 0 < ((n / 2 : Nat) : Int) := half_pos.mp c3
          k_with_none
          k_with "binaryOp Mod int int" => k_dflt (refine mod_2 (by rfl) ?_)
          k_with "binaryOp FloorDiv int int" => k_dflt (refine div_2 ?_)
          k_with "ite" => first
            | (refine' ite_pos ?c ?_; (case c => first | (simp only [decide_eq_true_eq, beq_iff_eq, ne_eq, gt_iff_lt, ge_iff_le]; omega) | (simp; omega)))
            | (refine' ite_neg ?c ?_; (case c => first | (simp only [decide_eq_true_eq, beq_iff_eq, ne_eq, gt_iff_lt, ge_iff_le]; omega) | (simp; omega)))
          k_with "call ref" => (
            refine' useL (smul_tells w _ _ bs bs bs' (lb.symm ▸ hx) (lb.symm ▸ hx) hbs') ?k1 ?k2 ?k3 ?k4 ?k5 ?k6 ?k7 ?k8 ?k9 ?_
            (case k1 => k_asm)
            (case k2 => k_asm)
            (case k3 => k_asm)
            (case k4 => k_asm)
            (case k5 => k_asm)
            (case k6 => exact rfl)
            (case k7 => first | exact dp_lt hd (by decide) | ktr_room)
            (case k8 => first | exact un_lt hu (by decide) | ktr_units)
            (case k9 => (rename News _ _ _ _ => Nq; rename Fr _ _ _ _ => Fq; exact ⟨hLb.val X' Fq Nq (fun p hp => by simp only [List.mem_cons, List.mem_append, hp, or_true]), hLb.val X' Fq Nq (fun p hp => by simp only [List.mem_cons, List.mem_append, hp, or_true])⟩))
            k_whole
            intro a9 us9 n9 nx9 h9 tk9 F9 N9 hM9 hc9 ho9
            have hBst := listl_new N9 hM9
            (try dsimp only)
            (try k_sweep))
          k_with "call ref" => (
            refine' useL (smul_tells w _ _ fs bs fs' (lf.symm ▸ hx) (lb.symm ▸ hx) hfs') ?k1 ?k2 ?k3 ?k4 ?k5 ?k6 ?k7 ?k8 ?k9 ?_
            (case k1 => k_asm)
            (case k2 => k_asm)
            (case k3 => k_asm)
            (case k4 => k_asm)
            (case k5 => k_asm)
            (case k6 => exact rfl)
            (case k7 => first | exact dp_lt hd (by decide) | ktr_room)
            (case k8 => first | exact un_lt hu (by decide) | ktr_units)
            (case k9 => (rename News _ _ _ _ => Nq; rename Fr _ _ _ _ => Fq; exact ⟨hLf.val X' Fq Nq (fun p hp => hp), hLb.val X' Fq Nq (fun p hp => hp)⟩))
            k_whole
            intro a9 us9 n9 nx9 h9 tk9 F9 N9 hM9 hc9 ho9
            have hFst := listl_new N9 hM9
            (try dsimp only)
            (try k_sweep))
          k_steps
          all_goals (
            rename Fr _ _ _ _ => F9
            rename News _ _ _ _ => N9
            dsimp only [WhileStep2]
            exact ⟨_, _, _, _, n / 2, rfl, F9, N9, hh1, g, fs', bs', _, _, _, hgo, hh2, rfl, rfl, rfl, hFst.mono (fun p hp => .tail _ (mem_r hp)), hBst, lf', lb'⟩)
        · rw [if_neg c3] at hbs'
          have d3 : ¬ 0 < ((n / 2 : Nat) : Int) := fun q => c3 (half_pos.mpr q)
          cases hbs'
          k_with_none
          k_with "binaryOp Mod int int" => k_dflt (refine mod_2 (by rfl) ?_)
          k_with "binaryOp FloorDiv int int" => k_dflt (refine div_2 ?_)
          k_with "ite" => first
            | (refine' ite_pos ?c ?_; (case c => first | (simp only [decide_eq_true_eq, beq_iff_eq, ne_eq, gt_iff_lt, ge_iff_le]; omega) | (simp; omega)))
            | (refine' ite_neg ?c ?_; (case c => first | (simp only [decide_eq_true_eq, beq_iff_eq, ne_eq, gt_iff_lt, ge_iff_le]; omega) | (simp; omega)))
          k_with "call ref" => (
            refine' useL (smul_tells w _ _ fs bs fs' (lf.symm ▸ hx) (lb.symm ▸ hx) hfs') ?k1 ?k2 ?k3 ?k4 ?k5 ?k6 ?k7 ?k8 ?k9 ?_
            (case k1 => k_asm)
            (case k2 => k_asm)
            (case k3 => k_asm)
            (case k4 => k_asm)
            (case k5 => k_asm)
            (case k6 => exact rfl)
            (case k7 => first | exact dp_lt hd (by decide) | ktr_room)
            (case k8 => first | exact un_lt hu (by decide) | ktr_units)
            (case k9 => (rename News _ _ _ _ => Nq; rename Fr _ _ _ _ => Fq; exact ⟨hLf.val X' Fq Nq (fun p hp => hp), hLb.val X' Fq Nq (fun p hp => hp)⟩))
            k_whole
            intro a9 us9 n9 nx9 h9 tk9 F9 N9 hM9 hc9 ho9
            have hFst := listl_new N9 hM9
            (try dsimp only)
            (try k_sweep))
          k_steps
          all_goals (
            rename Fr _ _ _ _ => F9
            rename News _ _ _ _ => N9
            dsimp only [WhileStep2]
            exact ⟨_, _, _, _, n / 2, rfl, F9, N9, hh1, g, fs', bs, _, _, _, hgo, hh2, rfl, rfl, rfl, hFst, hLb.mono (fun p hp => by simp only [List.mem_cons, List.mem_append, hp, or_true, true_or]), lf', lb'⟩)
      · rw [if_neg c2] at hfs'
        have d2 : ¬ ((n % 2 : Nat) : Int) = 1 := fun q => c2 (odd_iff.mpr q)
        cases hfs'
        by_cases c3 : 0 < n / 2
        · rw [if_pos c3] at hbs'
          have d3 : 0 < ((n / 2 : Nat) : Int) := half_pos.mp c3
          k_with_none
          k_with "binaryOp Mod int int" => k_dflt (refine mod_2 (by rfl) ?_)
          k_with "binaryOp FloorDiv int int" => k_dflt (refine div_2 ?_)
          k_with "ite" => first
            | (refine' ite_pos ?c ?_; (case c => first | (simp only [decide_eq_true_eq, beq_iff_eq, ne_eq, gt_iff_lt, ge_iff_le]; omega) | (simp; omega)))
            | (refine' ite_neg ?c ?_; (case c => first | (simp only [decide_eq_true_eq, beq_iff_eq, ne_eq, gt_iff_lt, ge_iff_le]; omega) | (simp; omega)))
          k_with "call ref" => (
            refine' useL (smul_tells w _ _ bs bs bs' (lb.symm ▸ hx) (lb.symm ▸ hx) hbs') ?k1 ?k2 ?k3 ?k4 ?k5 ?k6 ?k7 ?k8 ?k9 ?_
            (case k1 => k_asm)
            (case k2 => k_asm)
            (case k3 => k_asm)
            (case k4 => k_asm)
            (case k5 => k_asm)
            (case k6 => exact rfl)
            (case k7 => first | exact dp_lt hd (by decide) | ktr_room)
            (case k8 => first | exact un_lt hu (by decide) | ktr_units)
            (case k9 => (rename News _ _ _ _ => Nq; rename Fr _ _ _ _ => Fq; exact ⟨hLb.val X' Fq Nq (fun p hp => by exact hp), hLb.val X' Fq Nq (fun p hp => by exact hp)⟩))
            k_whole
            intro a9 us9 n9 nx9 h9 tk9 F9 N9 hM9 hc9 ho9
            have hBst := listl_new N9 hM9
            (try dsimp only)
            (try k_sweep))
          k_steps
          all_goals (
            rename Fr _ _ _ _ => F9
            rename News _ _ _ _ => N9
            dsimp only [WhileStep2]
            exact ⟨_, _, _, _, n / 2, rfl, F9, N9, hh1, g, fs, bs', _, _, _, hgo, hh2, rfl, rfl, rfl, hLf.mono (fun p hp => by simp only [List.mem_cons, List.mem_append, hp, or_true, true_or]), hBst, lf', lb'⟩)
        · rw [if_neg c3] at hbs'
          have d3 : ¬ 0 < ((n / 2 : Nat) : Int) := fun q => c3 (half_pos.mpr q)
          exact (no_half c0 c2 c3).elim
  all_goals k_steps
noncomputable def choGo (m : Int) : Nat → Int
  | 0 => 1
  | i + 1 => Int.fdiv (choGo m i * (m - (i : Int))) ((i : Int) + 1)
inductive ChoJ (mm : Int) (tm : Tok) (i : Nat) (m : Str → Option Value) (nx : List (Addr × Obj)) : Prop
  | mk (t : Tok) : m (Str.ofString "many") = some (.int mm tm) → m (Str.ofString "found") = some (.int (choGo mm i) t) → nx = [] → ChoJ mm tm i m nx
set_option maxHeartbeats 2000000 in
theorem choices_tells (w : World) (mm : Int) (n : Nat) (tm tn : Tok) (hn : n ≤ 64) (hb : ∀ i, i < n → (choGo mm i).natAbs < 4611686018427387904) :
    Tells w 193 20 [.int mm tm, .int (n : Int) tn] (fun h => True) (fun h h' v => ∃ t, v = .int (choGo mm n) t) := by
  unfold Tells
  intro prog p loose mean mg mb dp un gd cn cs a' ccd cl outer A₀ base h₀ L m s Q E B F X T hk hd hu hpre hret
  refine wpAny_call ?_
  refine' code_pure (binds := [(Str.ofString "many", Value.int mm tm), (Str.ofString "some", Value.int (n : Int) tn)]) ?k1 ?k2 ?k3 ?k5 ?kA ?kF ?kK ?k6 ?k7 ?k8 ?k9 ?kB ?_ ?c2 ?c3 ?c4 ?c5; (case kA => exact rfl); (case kF => exact rfl); (case kK => assumption); (case k1 => k_asm); (case k2 => k_asm); (case k3 => k_asm); (case k5 => k_asm); (case k6 => k_is); (case k7 => k_is); (case k8 => first | exact dp_in hd | ktr_room); (case k9 => exact BindsTo.of_eq rfl); (case c5 => decide); (case kB => exact locs rfl); (case c2 => exact rfl); (case c3 => exact rfl); (case c4 => exact rfl)
  k_whole
  clear B F X T
  intro QQ hQQ hQN
  intro L' h' F' N' B' X' T'
  replace hret := fun r h' tk' x y => hQQ _ _ (hret r h' tk' x y)
  (try dsimp only)
  (try k_fold)
  k_with_none
  k_with "pyIter ref" => (refine halt ?_)
  k_with "TurnPost" => (refine halt ?_)
  k_with "TurnEnd" => (refine halt ?_)
  k_with "CompSrc" => (refine halt ?_)
  k_with "call builtin:list.append" => (refine halt ?_)
  k_with "binaryOp Mult int int" => (
    refine' mul_sm ?h1 ?_
    (case h1 => assumption))
  k_with "binaryOp FloorDiv int int" => (
    refine' floordiv_int ?h1 ?_ (Or.inl (small_div ?h2))
    (case h1 => omega)
    (case h2 => omega))
  k_steps
  unfold Halt
  rename Fr _ _ _ _ => F1
  rename News _ _ _ _ => N1
  rename IsRange _ _ _ _ _ _ _ _ => rg
  refine range_inv (n := n) (ChoJ mm tm)
    (by rfl) rg (small_one (by omega) (by omega) (by omega) (by omega)) ((rangeSize_nat _ _).trans (by omega)) F1 (news := []) News.nil ⟨_, rfl, rfl, rfl⟩ ?_ ?_ ?_
  · rintro i m nx ⟨_, _, _, rfl⟩ p hp
    exact nomatch hp
  · rintro PP i kk t m₁ nx h tk I it hPP hPR hPB hi hkk ⟨tf, hm, hf, rfl⟩ F2 N2 hitc
    replace F2 : Fr s.heap L' h _ := fr_turn F2 [(Str.ofString "many", .int mm tm), (Str.ofString "found", .int (choGo mm i) tf)] (allc hm (all1 hf))
    replace N2 : News s.heap L' h _ := N2
    dsimp only [kstB] at F2
    have hbi := hb i hi
    have e : choGo mm (i + 1) = Int.fdiv (choGo mm i * (mm - kk)) (kk + 1) := by
      rw [hkk, Int.zero_add]; rfl
    clear F1 N1
    (try dsimp only)
    (try k_fold)
    k_steps
    all_goals (
      rename Fr _ _ _ _ => F9
      rename News _ _ _ _ => N9
      refine hPP _ ?_
      exact ⟨_, _, _, [], rfl, F9, N9, _, rfl, by rw [e]; rfl, rfl⟩)
  · rintro m₁ nx h tk ⟨tf, hm, hf, rfl⟩ F2 N2
    replace F2 : Fr s.heap L' h _ := fr_names F2 [(Str.ofString "found", .int (choGo mm n) tf)] (all1 hf)
    replace N2 : News s.heap L' h _ := N2
    dsimp only [kstB] at F2
    k_steps
    all_goals (
      rename Fr _ _ _ _ => F9
      exact hret _ _ _ F9.keep ⟨_, rfl⟩)
  all_goals k_steps
theorem ints_at {ws : List Value} {xs : List Int} (h : IntsAre ws xs) : ∀ {i : Nat} {v : Value}, ws[i]? = some v → ∃ x t, v = .int x t ∧ (xs.map fun x => ((x, 1) : R)).getD i (0, 1) = (x, 1) := by
  induction h with
  | nil => intro i v e; cases e
  | cons n u h ih =>
    intro i v e
    cases i with
    | zero => cases e; exact ⟨_, _, rfl, rfl⟩
    | succ i => exact ih e
set_option maxHeartbeats 2000000 in
theorem ratios_tells (w : World) (v : Value) (xs : List Int) (hx : xs.length ≤ 64) :
    Tells w 198 20 [v] (fun h => ∃ l ws n, v = .ref l ∧ h.get? l = some (listOf ws.toArray n) ∧ IntsAre ws xs) (fun h h' v => ListNew h h' v (xs.map fun x => (x, 1))) := by
  unfold Tells
  intro prog p loose mean mg mb dp un gd cn cs a' ccd cl outer A₀ base h₀ L m s Q E B F X T hk hd hu hpre hret
  obtain ⟨l, ws, nn, rfl, el, hI⟩ := hpre
  have hla : s.heap.IsList l ws.toArray := ⟨_, el, rfl, _, rfl⟩
  have lws := hI.length
  refine wpAny_call ?_
  refine' code_pure (binds := [(Str.ofString "numbers", Value.ref l)]) ?k1 ?k2 ?k3 ?k5 ?kA ?kF ?kK ?k6 ?k7 ?k8 ?k9 ?kB ?_ ?c2 ?c3 ?c4 ?c5; (case kA => exact rfl); (case kF => exact rfl); (case kK => assumption); (case k1 => k_asm); (case k2 => k_asm); (case k3 => k_asm); (case k5 => k_asm); (case k6 => k_is); (case k7 => k_is); (case k8 => first | exact dp_in hd | ktr_room); (case k9 => exact BindsTo.of_eq rfl); (case c5 => decide); (case kB => exact locs rfl); (case c2 => exact rfl); (case c3 => exact rfl); (case c4 => exact rfl)
  k_whole
  clear B F X T
  intro QQ hQQ hQN L' h' F' N' B' X' T'
  replace hret := fun r h' tk' x y => hQQ _ _ (hret r h' tk' x y)
  (try dsimp only)
  (try k_fold)
  k_with_none
  k_with "CompSrc" => (refine halt ?_)
  k_with "newTuple" => (refine halt ?_)
  k_steps
  unfold Halt
  rename Fr _ _ _ _ => F1
  rename News _ _ _ _ => N1
  refine LCg.CompSrc.base (by rfl) F1 N1 hla (by rw [sizeLine_eq, List.size_toArray]; omega) ?_
  intro g9
  rw [List.size_toArray, lws]
  refine comp_rats (zs := xs.map fun x => (x, 1)) (by simp) (fun _ _ _ => .inl hla) (.inl hla) ?_ ?_
  · rintro i v I oI C oC D m₂ zs' h tk E' hi hv hC hm₂ F2 N2
    rw [List.getElem?_toArray] at hv
    obtain ⟨x, t, rfl, hz⟩ := ints_at hI hv
    rw [hz]
    clear F1 N1 hz hv
    k_steps
    unfold Halt
    refine wpAny_newTuple ?_
    exact ⟨_, _, rfl, fun b o e => Heap.get?_push_of_some _ e, .inr (.inr ⟨_, _, _, _, rfl, Heap.get?_none_of_le (Nat.le_refl _), Heap.get?_push_size _ rfl⟩)⟩
  · rintro ys' nx hs hm D h9 tk9 F9 N9 o9
    exact hret _ _ _ F9.keep ⟨D, ys', _, nx, rfl, (N9 _ (.head _)).2.2, (N9 _ (.head _)).1, hm, fun p hp => ⟨(N9 _ (.tail _ hp)).1, (N9 _ (.tail _ hp)).2.2⟩⟩
theorem list_ne_rng' : Value.type "list" ≠ Value.type "range_iterator" := by decide
theorem mul_sm {prog : Program} {w : World} {A : Around} {E : Value → Shared → Prop} {s : Shared} {Q : Value → Shared → Prop} {a b : Int} {t u : Tok} (h1 : a.natAbs < 4611686018427387904) (h : Q (.int (a * b) s.toks) { s with toks := s.toks + 1 }) : wpAny (model prog w) A (binaryOp .Mult (.int a t) (.int b u)) Q E s :=
  mul_int h (IntMulOk.of_left (intBits_le_64 (by omega) (by omega)))
noncomputable def TellsM (w : World) (f : Addr) (N : Nat) (vs : List Value) (led : List (Addr × Obj)) (Post : List (Addr × Obj) → Prop) : Prop :=
  ∀ (prog p : Program) (loose : List Str) (mean : ExcName → Option Value) (mg mb : Str → Option Value) (dp un : Nat) (gd : Option (List Code)) (cn : Str) (cs : Scope) (a : Addr) (ccd : Value) (cl : List (Str × Addr)) (outer : List Env) (A₀ : Around) (base h₀ : Heap) (L : Addr) (m : Str → Option Value) (s : Shared) (Q E : Value → Shared → Prop),
    Below A₀ base outer h₀ → Fr h₀ L s.heap m → (Mine.hd.heap_39 w.params).In h₀ → News h₀ L s.heap led → Top p loose mean mg mb h₀ → cs.kind = .function → dp + N < recursionLimit → un + 8 * N < cLine →
    (∀ led' h' tk', Fr h₀ L h' m → News h₀ L h' led' → Post led' → Q .none { s with heap := h', toks := tk' }) →
    wpAny (model prog w) (ktrTop dp un gd cn cs L a ccd cl outer) (call (.ref f) vs) Q E s
section
variable {prog : Program} {w : World} {A A₀ : Around} {E : Value → Shared → Prop} {s : Shared} {K : Frag} {L : Addr} {h₀ base : Heap} {m mg mb : Str → Option Value} {p : Program} {loose : List Str} {mean : ExcName → Option Value} {news : List (Addr × Obj)}
theorem code_mut {env : Env} {outer : List Env} {R : Result → Shared → Prop} {name qual : Str} {params : Arguments} {body : List Stmt} {scope : Scope} {dV kV doc pm cdv ct oc : Value} {an od : Option Addr} {osl : Array (Option Value)} {f : Addr} {args : Args} {binds : List (Str × Value)}
    (B : Below A₀ base outer h₀) (F : Fr h₀ L s.heap m) (X₀ : K.In h₀) (N : News h₀ L s.heap news) (T : Top p loose mean mg mb h₀) (hA : A.frames = some (env :: outer)) (hf : env.frame = some L) (hke : env.scope.kind = .function)
    (ho : K.lookup f = some ⟨oc, od, .func (fnOf name qual params body scope dV kV doc pm an cdv ct), osl⟩) (hcd : codeIn K cdv qual = true) (hroom : A.depth < recursionLimit)
    (hbind : BindsTo s (fnOf name qual params body scope dV kV doc pm an cdv ct) args binds) (hloc : ∀ y ∈ binds, scope.names.lookup y.1 = some .local)
    (h : ∀ (QQ : Flow → Shared → Prop) g L' h₁, (∀ v h' tk' m' led, Fr g L' h' m' → News g L' h' led → (Fr h₀ L h' m → News h₀ L h' led → R (.ok (.ret v)) { s with heap := h', toks := tk' }) → QQ (.ret v) { s with heap := h', toks := tk' }) →
      (∀ h' tk' m' led, Fr g L' h' m' → News g L' h' led → (Fr h₀ L h' m → News h₀ L h' led → R (.ok (.ret .none)) { s with heap := h', toks := tk' }) → QQ .next { s with heap := h', toks := tk' }) →
      Fr g L' h₁ (fun y => binds.reverse.lookup y) → News g L' h₁ news → Below A base (env :: outer) g → K.In g → Top p loose mean mg mb g →
      wpAny (model prog w) (A.deeper (envOf qual scope L' f cdv)) (execs body (envOf qual scope L' f cdv)) QQ (fun _ _ => False) { s with heap := h₁, toks := s.toks + binds.length })
    (hco : scope.isCoroutine = false) (hgen : scope.isGenerator = false) (hk : scope.kind = .function)
    (hcell : ∀ x ∈ scope.names, x.2 ≠ .cell) : codeAny (model prog w) A (.call (.ref f) args) R s := by
  refine code_def B F X₀ N T hA hf hke ho hcd hroom hbind hloc (fun g L' h₁ FG F' N' B' X' T' => ?_) hco hgen hk hcell
  exact wpAny_noRaise <| h _ g L' h₁ (fun v h' tk' m' led a b c => leaveK_ a b c) (fun h' tk' m' led a b c => leaveK_ a b c) F' N' B' X' T'
theorem set_row {r : Addr} {vs : List Value} {n : Nat} {k : Int} {t : Tok} {v : Value} {Q : Unit → Shared → Prop} (new : List (Addr × Obj)) (F : Fr h₀ L s.heap m) (N : News h₀ L s.heap news) (hm : (r, listOf vs.toArray n) ∈ news)
    (hnew : ∀ p ∈ new, p = (r, listOf (vs.set k.toNat v).toArray n) ∨ (p ∈ news ∧ p.1 ≠ r)) (h0 : 0 ≤ k) (hk : k.toNat < vs.length) (hfit : k < 2 ^ 63)
    (h : ∀ h', Fr h₀ L h' m → News h₀ L h' new → Q () { s with heap := h' }) : wpAny (model prog w) A (setItem (.ref r) (.int k t) v) Q E s := by
  obtain ⟨e1, e2, e3⟩ := N _ hm
  refine ki_setAt e1 h0 hfit (by rw [List.size_toArray]; omega) (h _ (F.change (Heap.SameBut.update ..) e2 e3) fun p hp => ?_)
  rcases hnew p hp with rfl | ⟨hp, hne⟩
  · have N1 : News h₀ L s.heap ([] ++ (r, listOf vs.toArray n) :: []) := fun q hq => by rw [List.mem_singleton.mp hq]; exact N _ hm
    have q := ki_turn (its' := (vs.set k.toNat v).toArray) (n' := n) (·.setIfInBounds k.toNat v) N1 (fun _ h => nomatch h) (fun _ h => nomatch h) (by apply Array.toList_inj.mp; simp) (by simp)
    exact q _ (.head _)
  · exact ⟨(Heap.SameBut.update ..).extBut _ _ hne (N p hp).1, (N p hp).2⟩
theorem set_head {r : Addr} {vs : List Value} {n : Nat} {k : Int} {t : Tok} {v : Value} {Q : Unit → Shared → Prop} {rest : List (Addr × Obj)} (F : Fr h₀ L s.heap m) (N : News h₀ L s.heap ((r, listOf vs.toArray n) :: rest)) (hne : ∀ p ∈ rest, p.1 ≠ r) (h0 : 0 ≤ k) (hk : k.toNat < vs.length) (hfit : k < 2 ^ 63)
    (h : ∀ h', Fr h₀ L h' m → News h₀ L h' ((r, listOf (vs.set k.toNat v).toArray n) :: rest) → Q () { s with heap := h' }) : wpAny (model prog w) A (setItem (.ref r) (.int k t) v) Q E s := by
  refine set_row _ F N (.head _) (fun p hp => ?_) h0 hk hfit h
  rcases List.mem_cons.mp hp with rfl | hp
  · exact .inl rfl
  · exact .inr ⟨.tail _ hp, hne p hp⟩
end
abbrev Vs := List (List Value × Nat)
noncomputable def rowsE : List Addr → Vs → List (Addr × Obj)
  | r :: rs, v :: V => (r, listOf v.1.toArray v.2) :: rowsE rs V
  | _, _ => []
inductive RowsI : Vs → List (List Int) → Prop
  | nil : RowsI [] []
  | cons {v : List Value × Nat} {V : Vs} {x : List Int} {M : List (List Int)} : IntsAre v.1 x → RowsI V M → RowsI (v :: V) (x :: M)
theorem RowsI.length {V : Vs} {M : List (List Int)} (h : RowsI V M) : V.length = M.length := by
  induction h with
  | nil => rfl
  | cons _ _ ih => rw [List.length_cons, List.length_cons, ih]
theorem RowsI.get {V : Vs} {M : List (List Int)} (h : RowsI V M) : ∀ {i : Nat}, i < M.length → ∃ v n, V[i]? = some (v, n) ∧ IntsAre v (M.getD i []) := by
  induction h with
  | nil => intro i hi; exact absurd hi (Nat.not_lt_zero _)
  | cons a _ ih =>
    intro i hi
    cases i with
    | zero => exact ⟨_, _, rfl, a⟩
    | succ i => exact ih (Nat.lt_of_succ_lt_succ hi)
theorem RowsI.set {V : Vs} {M : List (List Int)} (h : RowsI V M) {v : List Value} {n : Nat} {x : List Int} (hv : IntsAre v x) : ∀ i, RowsI (V.set i (v, n)) (M.set i x) := by
  induction h with
  | nil => intro i; exact .nil
  | cons a b ih =>
    intro i
    cases i with
    | zero => exact .cons hv b
    | succ i => exact .cons a (ih i)
theorem ints_set {vs : List Value} {xs : List Int} {x : Int} {t : Tok} (h : IntsAre vs xs) : ∀ i, IntsAre (vs.set i (.int x t)) (xs.set i x) := by
  induction h with
  | nil => intro i; exact .nil
  | cons n u h ih =>
    intro i
    cases i with
    | zero => exact .cons _ _ h
    | succ i => exact .cons _ _ (ih i)
theorem ints_getD {vs : List Value} {xs : List Int} (h : IntsAre vs xs) : ∀ {i : Nat}, i < xs.length → ∃ t, vs[i]? = some (.int (xs.getD i 0) t) := by
  induction h with
  | nil => intro i hi; exact absurd hi (Nat.not_lt_zero _)
  | cons n u h ih =>
    intro i hi
    cases i with
    | zero => exact ⟨u, rfl⟩
    | succ i => exact ih (Nat.lt_of_succ_lt_succ hi)
theorem rowsE_mem : ∀ {rs : List Addr} {V : Vs} {i : Nat} {r : Addr} {v : List Value} {n : Nat}, rs[i]? = some r → V[i]? = some (v, n) → (r, listOf v.toArray n) ∈ rowsE rs V
  | [], _, _, _, _, _, h, _ => by cases h
  | _ :: _, [], _, _, _, _, _, h => by cases h
  | _ :: _, _ :: _, 0, _, _, _, h1, h2 => by cases h1; cases h2; exact .head _
  | _ :: _, _ :: _, _ + 1, _, _, _, h1, h2 => .tail _ (rowsE_mem h1 h2)
theorem rowsE_adr : ∀ {rs : List Addr} {V : Vs} {p : Addr × Obj}, p ∈ rowsE rs V → p.1 ∈ rs
  | [], _, _, h => by unfold rowsE at h; cases h
  | _ :: _, [], _, h => by unfold rowsE at h; cases h
  | _ :: _, _ :: _, p, h => by
    unfold rowsE at h
    rcases List.mem_cons.mp h with rfl | h
    · exact .head _
    · exact .tail _ (rowsE_adr h)
theorem rowsE_cls : ∀ {rs : List Addr} {V : Vs} {p : Addr × Obj}, p ∈ rowsE rs V → p.2.cls = .type "list"
  | [], _, _, h => by unfold rowsE at h; cases h
  | _ :: _, [], _, h => by unfold rowsE at h; cases h
  | _ :: _, _ :: _, p, h => by
    unfold rowsE at h
    rcases List.mem_cons.mp h with rfl | h
    · rfl
    · exact rowsE_cls h
theorem rowsE_set : ∀ {rs : List Addr} {V : Vs} {i : Nat} {r : Addr} {v : List Value} {n : Nat} {p : Addr × Obj}, rs.Nodup → rs[i]? = some r → p ∈ rowsE rs (V.set i (v, n)) → p = (r, listOf v.toArray n) ∨ (p ∈ rowsE rs V ∧ p.1 ≠ r)
  | [], _, _, _, _, _, _, _, h, _ => by cases h
  | _ :: _, [], _, _, _, _, _, _, _, h => by
    rw [List.set_nil] at h
    unfold rowsE at h; cases h
  | a :: rs, b :: V, 0, _, _, _, p, nd, h1, h => by
    cases h1
    rw [List.set_cons_zero] at h
    unfold rowsE at h
    rcases List.mem_cons.mp h with rfl | h
    · exact .inl rfl
    · exact .inr ⟨.tail _ h, fun e => (List.nodup_cons.mp nd).1 (e ▸ rowsE_adr h)⟩
  | a :: rs, b :: V, i + 1, r, _, _, p, nd, h1, h => by
    rw [List.set_cons_succ] at h
    unfold rowsE at h
    have h1 : rs[i]? = some r := h1
    rcases List.mem_cons.mp h with rfl | h
    · exact .inr ⟨.head _, fun e => (List.nodup_cons.mp nd).1 (by rw [show a = r from e]; exact List.mem_of_getElem? h1)⟩
    · rcases rowsE_set (List.nodup_cons.mp nd).2 h1 h with q | ⟨q, q'⟩
      · exact .inl q
      · exact .inr ⟨.tail _ q, q'⟩
noncomputable def bsRow (lead first e : Int) (prow : List Int) (s : Nat) (row : List Int) : Nat → Option (List Int)
  | 0 => some row
  | j + 1 => (bsRow lead first e prow s row j).bind fun c => if sm (c.getD (s + 1 + j) 0) = true then some (c.set (s + 1 + j) (Int.fdiv (c.getD (s + 1 + j) 0 * lead - first * prow.getD (s + 1 + j) 0) e)) else none
noncomputable def bsMat (n s : Nat) (e lead : Int) (M : List (List Int)) : Nat → Option (List (List Int))
  | 0 => some M
  | i + 1 => (bsMat n s e lead M i).bind fun C => if sm ((C.getD (s + 1 + i) []).getD s 0) = true then
      (bsRow lead ((C.getD (s + 1 + i) []).getD s 0) e (C.getD s []) s (C.getD (s + 1 + i) []) (n - (s + 1))).bind fun c => some (C.set (s + 1 + i) (c.set s 0)) else none
theorem bsRow_le {lead first e : Int} {prow row : List Int} {s i : Nat} : ∀ {n : Nat} {r : List Int}, bsRow lead first e prow s row n = some r → i ≤ n → ∃ q, bsRow lead first e prow s row i = some q := by
  intro n
  induction n with
  | zero => intro r h hi; exact ⟨r, by rw [Nat.le_zero.mp hi]; exact h⟩
  | succ n ih =>
    intro r h hi
    by_cases e : i = n + 1
    · exact ⟨r, e ▸ h⟩
    · obtain ⟨acc, ha, _⟩ := Option.bind_eq_some_iff.mp h
      exact ih ha (by omega)
theorem bsRow_len {lead first e : Int} {prow row : List Int} {s : Nat} : ∀ {n : Nat} {r : List Int}, bsRow lead first e prow s row n = some r → r.length = row.length := by
  intro n
  induction n with
  | zero => intro r h; cases h; rfl
  | succ n ih =>
    intro r h
    obtain ⟨acc, ha, h⟩ := Option.bind_eq_some_iff.mp h
    split at h
    · cases h
      rw [List.length_set]; exact ih ha
    · cases h
theorem bsMat_le {n s i : Nat} {e lead : Int} {M : List (List Int)} : ∀ {k : Nat} {r : List (List Int)}, bsMat n s e lead M k = some r → i ≤ k → ∃ q, bsMat n s e lead M i = some q := by
  intro k
  induction k with
  | zero => intro r h hi; exact ⟨r, by rw [Nat.le_zero.mp hi]; exact h⟩
  | succ k ih =>
    intro r h hi
    by_cases e : i = k + 1
    · exact ⟨r, e ▸ h⟩
    · obtain ⟨acc, ha, _⟩ := Option.bind_eq_some_iff.mp h
      exact ih ha (by omega)
noncomputable def Sq (n : Nat) (M : List (List Int)) : Prop := M.length = n ∧ ∀ i, i < n → (M.getD i []).length = n
theorem Sq.set {n : Nat} {M : List (List Int)} (h : Sq n M) {k : Nat} {x : List Int} (hx : x.length = n) : Sq n (M.set k x) := by
  refine ⟨by rw [List.length_set]; exact h.1, fun i hi => ?_⟩
  rw [List.getD_eq_getElem?_getD, List.getElem?_set]
  split
  · split
    · exact hx
    · rename_i q _; subst q; rw [h.1] at *; exact absurd hi (by assumption)
  · rw [← List.getD_eq_getElem?_getD]; exact h.2 i hi
theorem bsMat_sq {n s : Nat} {e lead : Int} {M : List (List Int)} (hM : Sq n M) : ∀ {k : Nat} {r : List (List Int)}, s + 1 + k ≤ n → bsMat n s e lead M k = some r → Sq n r := by
  intro k
  induction k with
  | zero => intro r _ h; cases h; exact hM
  | succ k ih =>
    intro r hk h
    obtain ⟨C, hC, h⟩ := Option.bind_eq_some_iff.mp h
    have hC := ih (by omega) hC
    split at h
    · obtain ⟨c, hc, h⟩ := Option.bind_eq_some_iff.mp h
      cases h
      refine hC.set ?_
      rw [List.length_set, bsRow_len hc]
      exact hC.2 _ (by omega)
    · cases h
theorem getD_set_ne {α : Type} {l : List α} {i j : Nat} {x d : α} (h : i ≠ j) : (l.set i x).getD j d = l.getD j d := by
  rw [List.getD_eq_getElem?_getD, List.getD_eq_getElem?_getD, List.getElem?_set_ne h]
theorem getD_set_eq {α : Type} {l : List α} {i : Nat} {x d : α} (h : i < l.length) : (l.set i x).getD i d = x := by
  rw [List.getD_eq_getElem?_getD, List.getElem?_set_self h]; rfl
theorem rng_sub {s n : Nat} (h : s ≤ n) (hn : n ≤ 64) : Builtin.Range.small ((s : Int)) ((n : Int)) 1 = true ∧ Builtin.Range.rangeSize ((s : Int)) ((n : Int)) 1 = ((n - s : Nat) : Int) :=
  ⟨small_one (by omega) (by omega) (by omega) (by omega), (rangeSize_nat _ _).trans (by omega)⟩
theorem cls_ne {p : Addr × Obj} {c d : String} (h : p.2.cls = .type c) (hcd : (c == d) = false) : p.2.cls ≠ .type d := by
  rw [h]; intro e; cases e; simp at hcd
theorem set_same {α : Type} {l : List α} {k : Nat} {x : α} (h : l[k]? = some x) : l.set k x = l := by
  apply List.ext_getElem?
  intro i
  rw [List.getElem?_set]
  split
  · rename_i q; subst q
    obtain ⟨hk, e⟩ := List.getElem?_eq_some_iff.mp h
    rw [if_pos hk, h]
  · rfl
theorem new_row {g h : Heap} {L : Addr} (pre : List (Addr × Obj)) {tl : List (Addr × Obj)} {lf rr : Addr} {lo : Obj} {rs : List Addr} {V : Vs} {k nr : Nat} {vr : List Value} (v' : List Value) (N : News g L h (pre ++ (lf, lo) :: (rowsE rs V ++ tl))) (hpre : ∀ p ∈ pre, p.2.cls ≠ .type "list") (hnd : rs.Nodup) (hlf : lf ∉ rs) (htl : ∀ p ∈ tl, p.1 ∉ rs)
    (hrr : rs[k]? = some rr) (hvr : V[k]? = some (vr, nr)) : ∀ p ∈ pre ++ (lf, lo) :: (rowsE rs (V.set k (v', nr)) ++ tl), p = (rr, listOf v'.toArray nr) ∨ (p ∈ pre ++ (lf, lo) :: (rowsE rs V ++ tl) ∧ p.1 ≠ rr) := by
  have hr : rr ∈ rs := List.mem_of_getElem? hrr
  have hm : (rr, listOf vr.toArray nr) ∈ pre ++ (lf, lo) :: (rowsE rs V ++ tl) := List.mem_append.mpr (.inr (.tail _ (List.mem_append.mpr (.inl (rowsE_mem hrr hvr)))))
  intro p hp
  rcases List.mem_append.mp hp with hp | hp
  · refine .inr ⟨List.mem_append.mpr (.inl hp), fun e => ?_⟩
    have e1 := (N p (List.mem_append.mpr (.inl hp))).1
    rw [e, (N _ hm).1] at e1
    exact hpre p hp (by rw [← Option.some.inj e1])
  rcases List.mem_cons.mp hp with rfl | hp
  · exact .inr ⟨List.mem_append.mpr (.inr (.head _)), fun e => hlf (show lf ∈ rs from (show lf = rr from e) ▸ hr)⟩
  rcases List.mem_append.mp hp with hp | hp
  · rcases rowsE_set hnd hrr hp with q | ⟨q, q'⟩
    · exact .inl q
    · exact .inr ⟨List.mem_append.mpr (.inr (.tail _ (List.mem_append.mpr (.inl q)))), q'⟩
  · exact .inr ⟨List.mem_append.mpr (.inr (.tail _ (List.mem_append.mpr (.inr hp)))), fun e => htl p hp (e ▸ hr)⟩
theorem rows_set {V : Vs} {C : List (List Int)} {ri n : Nat} {vr : List Value} {c : List Int} (h : RowsI V (C.set ri c)) (hv : IntsAre vr c) (k : Nat) (x : Int) (t : Tok) : RowsI (V.set ri (vr.set k (.int x t), n)) (C.set ri (c.set k x)) := by
  have q := h.set (n := n) (ints_set (x := x) (t := t) hv k) ri
  rw [List.set_set] at q
  exact q
theorem ar_b {s i n : Nat} {kk : Int} (hkk : kk = (s : Int) + 1 + (i : Int)) (hi : i < n - (s + 1)) (hn : n ≤ 64) : s + 1 + i < n ∧ s + 1 + i = kk.toNat ∧ (0 ≤ kk ∧ kk < 64) ∧ s + 1 + i ≠ s := ⟨by omega, by omega, by omega, by omega⟩
theorem bnd_s {s n : Nat} (hs : s < n) (hn : n ≤ 64) : 0 ≤ (s : Int) ∧ (s : Int) < 64 := by omega
theorem lt63 {k : Int} (h : 0 ≤ k ∧ k < 64) : k < 2 ^ 63 := by omega
theorem nbig {n : Nat} (h : n ≤ 64) : n < 4611686018427387904 := by omega
inductive BsJ (n s : Nat) (e lead : Int) (M : List (List Int)) (lf : Addr) (ts te tld : Tok) (rs : List Addr) (nl : Nat) (tl : List (Addr × Obj)) (i : Nat) (m : Str → Option Value) (nx : List (Addr × Obj)) : Prop
  | mk (V' : Vs) (C : List (List Int)) : (bsMat n s e lead M i = some C) → (RowsI V' C) → (m (Str.ofString "a") = some (.ref lf)) → (m (Str.ofString "step") = some (.int (s : Int) ts)) → (m (Str.ofString "ahead") = some (.int e te)) → (m (Str.ofString "lead") = some (.int lead tld)) → (nx = (lf, listOf (rs.map Value.ref).toArray nl) :: (rowsE rs V' ++ tl)) → BsJ n s e lead M lf ts te tld rs nl tl i m nx
inductive BsK (s ri : Nat) (e lead first : Int) (C : List (List Int)) (lf : Addr) (ts te tld : Tok) (kk : Int) (t tf : Tok) (rs : List Addr) (nl : Nat) (tl : List (Addr × Obj)) (I : Addr) (it : Obj) (j : Nat) (m : Str → Option Value) (nx : List (Addr × Obj)) : Prop
  | mk (V2 : Vs) (c : List Int) : (bsRow lead first e (C.getD s []) s (C.getD ri []) j = some c) → (RowsI V2 (C.set ri c)) → (m (Str.ofString "a") = some (.ref lf)) → (m (Str.ofString "step") = some (.int (s : Int) ts)) → (m (Str.ofString "ahead") = some (.int e te)) → (m (Str.ofString "lead") = some (.int lead tld)) → (m (Str.ofString "row") = some (.int kk t)) → (m (Str.ofString "first") = some (.int first tf)) → (nx = (I, it) :: (lf, listOf (rs.map Value.ref).toArray nl) :: (rowsE rs V2 ++ tl)) → BsK s ri e lead first C lf ts te tld kk t tf rs nl tl I it j m nx
set_option maxHeartbeats 4000000 in
theorem bstep_tells (w : World) (lf : Addr) (rs : List Addr) (V : Vs) (tl : List (Addr × Obj)) (nl n s : Nat) (e : Int) (ts te : Tok) (M M' : List (List Int)) (hM : RowsI V M) (hr : rs.length = n) (hs : s < n) (hn8 : n ≤ 64) (hsq : Sq n M) (he : e ≠ 0) (he2 : e.natAbs < 4611686018427387904)
    (hnd : rs.Nodup) (hlf : lf ∉ rs) (htl : ∀ p ∈ tl, p.1 ∉ rs) (hb : bsMat n s e ((M.getD s []).getD s 0) M (n - (s + 1)) = some M') :
    TellsM w 174 60 [.ref lf, .int (s : Int) ts, .int e te] ((lf, listOf (rs.map Value.ref).toArray nl) :: (rowsE rs V ++ tl))
      (fun l => ∃ V', RowsI V' M' ∧ l = (lf, listOf (rs.map Value.ref).toArray nl) :: (rowsE rs V' ++ tl)) := by
  unfold TellsM
  intro prog p loose mean mg mb dp un gd cn cs a' ccd cl outer A₀ base h₀ L m st Q E B F X N T hk hd hu hret
  refine wpAny_call ?_
  refine' code_mut (binds := [(Str.ofString "a", Value.ref lf), (Str.ofString "step", Value.int (s : Int) ts), (Str.ofString "ahead", Value.int e te)]) ?k1 ?k2 ?k3 ?k4 ?k5 ?kA ?kF ?kK ?k6 ?k7 ?k8 ?k9 ?kB ?_ ?c2 ?c3 ?c4 ?c5; (case kA => exact rfl); (case kF => exact rfl); (case kK => assumption); (case k1 => k_asm); (case k2 => k_asm); (case k3 => k_asm); (case k4 => k_asm); (case k5 => k_asm); (case k6 => k_is); (case k7 => k_is); (case k8 => first | exact dp_in hd | ktr_room); (case k9 => exact BindsTo.of_eq rfl); (case c5 => decide); (case kB => exact locs rfl); (case c2 => exact rfl); (case c3 => exact rfl); (case c4 => exact rfl)
  k_whole
  clear B X T F N
  intro QQ g L' h' hQR hQN F' N' B' X' T'
  replace hQN := fun h' tk' m' led a b V' c d => hQN h' tk' m' led a b (fun x y => hret led h' tk' x y ⟨V', c, d⟩)
  (try dsimp only)
  (try k_fold)
  k_with_none
  obtain ⟨vs, nv, hvs, iv⟩ := hM.get (i := s) (by rw [hsq.1]; exact hs)
  have hrs : rs[s]? = some rs[s] := List.getElem?_eq_getElem (hr.symm ▸ hs)
  generalize rs[s] = r at hrs
  have hrl : (rs.map Value.ref)[s]? = some (.ref r) := by rw [List.getElem?_map, hrs]; rfl
  obtain ⟨tld, hld⟩ := ints_getD iv (i := s) (by rw [hsq.2 s hs]; exact hs)
  generalize (M.getD s []).getD s 0 = lead at hld hb
  have hm1 : (lf, listOf (rs.map Value.ref).toArray nl) ∈ (lf, listOf (rs.map Value.ref).toArray nl) :: (rowsE rs V ++ tl) := .head _
  have hm2 : (r, listOf vs.toArray nv) ∈ (lf, listOf (rs.map Value.ref).toArray nl) :: (rowsE rs V ++ tl) := .tail _ (List.mem_append.mpr (.inl (rowsE_mem hrs hvs)))
  generalize hled : (lf, listOf (rs.map Value.ref).toArray nl) :: (rowsE rs V ++ tl) = led at N' hm1 hm2
  have bs := bnd_s hs hn8
  have hsN : ((s : Int)).toNat = s := rfl
  rw [← hsN] at hld hrl
  k_with "call builtin:len" => k_dflt (
    (refine' len_at (n := n) ?k1 ?k2 ?k3 ?_)
    (case k1 => first | exact News.isList (by assumption) (by assumption) | exact News.isList (by assumption) (.tail _ (by assumption)))
    (case k2 => rw [List.length_map]; exact hr)
    (case k3 => exact nbig hn8)
    k_whole)
  k_with "subscriptTail" => k_dflt (
    (refine' item_at ?k1 ?k2 ?k4 ?_ ?k6)
    (case k1 => first | exact News.isList (by assumption) (by assumption) | exact News.isList (by assumption) (.tail _ (by assumption)))
    (case k2 => assumption)
    (case k4 => assumption)
    (case k6 => with_unfolding_all rfl)
    k_whole)
  k_with "subscriptTail Name Name ref int" => k_dflt (
    (refine' item_at ?k1 ?k2 ?k4 ?_ ?k6)
    (case k1 => first | exact News.isList (by assumption) (by assumption) | exact News.isList (by assumption) (.tail _ (by assumption)))
    (case k2 => assumption)
    (case k4 => assumption)
    (case k6 => with_unfolding_all rfl)
    k_whole)
  k_with "binaryOp FloorDiv int int" => (
    refine' floordiv_int ?h1 ?_ (Or.inl (small_div ?h2))
    (case h1 => exact he)
    (case h2 => exact he2))
  k_with "binaryOp Mult int int" => (
    refine' mul_sm ?h1 ?_
    (case h1 => assumption))
  k_with "pyIter ref" => (refine halt ?_)
  k_with "setItem ref int" => (refine halt ?_)
  k_with "setItem" => (refine halt ?_)
  k_steps
  unfold Halt
  rename Fr _ _ _ _ => F1
  rename News _ _ _ _ => N1
  rename IsRange _ _ _ _ _ _ _ _ => rg
  obtain ⟨rg1, rg2⟩ := rng_sub (s := s + 1) (n := n) hs hn8
  refine range_inv (n := n - (s + 1)) (BsJ n s e lead M lf ts te tld rs nl tl)
    (by rfl) rg rg1 rg2 F1 N1 ⟨V, M, rfl, hM, rfl, rfl, rfl, rfl, hled.symm⟩ ?_ ?_ ?_
  · rintro i m nx ⟨V', C, _, _, _, _, _, _, rfl⟩ q hq
    subst hled
    rcases List.mem_cons.mp hq with rfl | hq
    · exact .inl list_ne_rng'
    rcases List.mem_append.mp hq with hq | hq
    · exact .inl (by rw [rowsE_cls hq]; exact list_ne_rng')
    · exact .inr (.tail _ (List.mem_append.mpr (.inr hq)))
  · clear F1 N1 rg rg1 rg2 hm1 hm2 hQN hQR hret hM hvs
    rintro PP i kk t m₁ nx h tk I it hPP hPR hPB hi hkk ⟨V', C, hC, hV, ha, hst, hah, hle, rfl⟩ F2 N2 hitc
    replace F2 : Fr g L' h _ := fr_turn F2 [(Str.ofString "a", .ref lf), (Str.ofString "step", .int (s : Int) ts), (Str.ofString "ahead", .int e te), (Str.ofString "lead", .int lead tld)] (allc ha (allc hst (allc hah (all1 hle))))
    replace N2 : News g L' h _ := N2
    dsimp only [kstB] at F2
    clear ha hst hah hle
    obtain ⟨C', hC'⟩ := bsMat_le hb (show i + 1 ≤ n - (s + 1) from hi)
    have hC2 := hC'
    rw [bsMat, hC, Option.bind_some] at hC'
    split at hC'
    case isFalse => cases hC'
    rename_i hfs
    rw [sm_iff] at hfs
    obtain ⟨c, hc, hC'⟩ := Option.bind_eq_some_iff.mp hC'
    cases hC'
    obtain ⟨hki, hkN, bk, hks⟩ := ar_b hkk hi hn8
    have sqC := bsMat_sq hsq (Nat.le_of_lt hki) hC
    clear hkk
    generalize s + 1 + i = ri at *
    obtain ⟨vr, nr, hvr, ivr⟩ := hV.get (i := ri) (by rw [sqC.1]; exact hki)
    have hrr : rs[ri]? = some rs[ri] := List.getElem?_eq_getElem (hr.symm ▸ hki)
    generalize rs[ri] = rr at hrr
    have hrl2 : (rs.map Value.ref)[ri]? = some (.ref rr) := by rw [List.getElem?_map, hrr]; rfl
    obtain ⟨tf, hf⟩ := ints_getD ivr (i := s) (by rw [sqC.2 ri hki]; exact hs)
    have hlc := bsRow_len hc
    rw [sqC.2 ri hki] at hlc
    generalize hfst : (C.getD ri []).getD s 0 = first at *
    rw [hkN] at hrl2
    rw [← hsN] at hf
    have hm1 : (lf, listOf (rs.map Value.ref).toArray nl) ∈ (I, it) :: (lf, listOf (rs.map Value.ref).toArray nl) :: (rowsE rs V' ++ tl) := .tail _ (.head _)
    have hm2 : (rr, listOf vr.toArray nr) ∈ (I, it) :: (lf, listOf (rs.map Value.ref).toArray nl) :: (rowsE rs V' ++ tl) := .tail _ (.tail _ (List.mem_append.mpr (.inl (rowsE_mem hrr hvr))))
    generalize hled2 : (I, it) :: (lf, listOf (rs.map Value.ref).toArray nl) :: (rowsE rs V' ++ tl) = led2 at N2 hm1 hm2
    k_steps
    unfold Halt
    rename Fr _ _ _ _ => F3
    rename News _ _ _ _ => N3
    rename IsRange _ _ _ _ _ _ _ _ => rg
    obtain ⟨rg1, rg2⟩ := rng_sub (s := s + 1) (n := n) hs hn8
    refine range_inv (n := n - (s + 1)) (BsK s ri e lead first C lf ts te tld kk t tf rs nl tl I it)
      (by rfl) rg rg1 rg2 F3 N3 ⟨V', _, rfl, ?_, rfl, rfl, rfl, rfl, rfl, rfl, hled2.symm⟩ ?_ ?_ ?_
    · rename IntsAre vr _ => ivr
      have q := hV.set (n := nr) ivr ri
      rw [set_same hvr] at q
      exact q
    · rintro j m nx ⟨V2, c, _, _, _, _, _, _, _, _, rfl⟩ q hq
      subst hled2
      rcases List.mem_cons.mp hq with rfl | hq
      · exact .inr (.head _)
      rcases List.mem_cons.mp hq with rfl | hq
      · exact .inl list_ne_rng'
      rcases List.mem_append.mp hq with hq | hq
      · exact .inl (by rw [rowsE_cls hq]; exact list_ne_rng')
      · exact .inr (.tail _ (.tail _ (List.mem_append.mpr (.inr hq))))
    · clear F3 N3 rg rg1 rg2 hm1 hm2 hPP hPR hPB hled2
      rintro PP j k2 t2 m₂ nx2 h2 tk2 I2 it2 hPP hPR hPB hj hk2 ⟨V2, c2, hc2, hV2, ha, hst, hah, hle, hro, hfi, rfl⟩ F4 N4 hit2
      replace F4 : Fr g L' h2 _ := fr_turn F4 [(Str.ofString "a", .ref lf), (Str.ofString "step", .int (s : Int) ts), (Str.ofString "ahead", .int e te), (Str.ofString "lead", .int lead tld), (Str.ofString "row", .int kk t), (Str.ofString "first", .int first tf)] (allc ha (allc hst (allc hah (allc hle (allc hro (all1 hfi))))))
      replace N4 : News g L' h2 _ := N4
      dsimp only [kstB] at F4
      clear ha hst hah hle hro hfi
      obtain ⟨c3, hc3⟩ := bsRow_le hc (show j + 1 ≤ n - (s + 1) from hj)
      have hc4 := hc3
      rw [bsRow, hc2, Option.bind_some] at hc3
      split at hc3
      case isFalse => cases hc3
      rename_i hxs
      rw [sm_iff] at hxs
      cases hc3
      have hl2 := bsRow_len hc2
      rw [sqC.2 ri hki] at hl2
      obtain ⟨hcj, hcN, bk2, _⟩ := ar_b hk2 hj hn8
      clear hk2
      generalize s + 1 + j = cj at *
      obtain ⟨vr2, nr2, hvr2, ivr2⟩ := hV2.get (i := ri) (by rw [List.length_set, sqC.1]; exact hki)
      obtain ⟨vs2, ns2, hvs2, ivs2⟩ := hV2.get (i := s) (by rw [List.length_set, sqC.1]; exact hs)
      rw [getD_set_eq (by rw [sqC.1]; exact hki)] at ivr2
      rw [getD_set_ne hks] at ivs2
      obtain ⟨tx, hx⟩ := ints_getD ivr2 (i := cj) (by rw [hl2]; exact hcj)
      obtain ⟨ty, hy⟩ := ints_getD ivs2 (i := cj) (by rw [sqC.2 s hs]; exact hcj)
      have hcl := ivr2.length
      have hm1 : (lf, listOf (rs.map Value.ref).toArray nl) ∈ [(I2, it2), (I, it)] ++ (lf, listOf (rs.map Value.ref).toArray nl) :: (rowsE rs V2 ++ tl) := .tail _ (.tail _ (.head _))
      have hm2 : (rr, listOf vr2.toArray nr2) ∈ [(I2, it2), (I, it)] ++ (lf, listOf (rs.map Value.ref).toArray nl) :: (rowsE rs V2 ++ tl) := .tail _ (.tail _ (.tail _ (List.mem_append.mpr (.inl (rowsE_mem hrr hvr2)))))
      have hm3 : (r, listOf vs2.toArray ns2) ∈ [(I2, it2), (I, it)] ++ (lf, listOf (rs.map Value.ref).toArray nl) :: (rowsE rs V2 ++ tl) := .tail _ (.tail _ (.tail _ (List.mem_append.mpr (.inl (rowsE_mem hrs hvs2)))))
      have hnew := fun v' => new_row [(I2, it2), (I, it)] v' N4 (allc (cls_ne hit2 rfl) (all1 (cls_ne hitc rfl))) hnd hlf htl hrr hvr2
      generalize hled4 : [(I2, it2), (I, it)] ++ (lf, listOf (rs.map Value.ref).toArray nl) :: (rowsE rs V2 ++ tl) = led4 at hm1 hm2 hm3 hnew
      replace N4 : News g L' h2 led4 := hled4 ▸ N4
      generalize hxx : c2.getD cj 0 = x at *
      generalize (C.getD s []).getD cj 0 = y at *
      rw [hcN] at hx hy
      k_steps
      unfold Halt
      rename Fr _ _ _ _ => F5
      rename News _ _ _ _ => N5
      refine set_row _ F5 N5 hm2 (hnew _) bk2.1 (by rw [hcl, hl2, ← hcN]; exact hcj) (lt63 bk2) ?_
      intro h6 F6 N6
      (try dsimp only)
      clear F5 N5
      k_steps
      all_goals (
        rename Fr _ _ _ _ => F9
        rename News _ _ _ _ => N9
        refine hPP _ ?_
        refine ⟨_, _, _, _, rfl, F9, N9, _, _, hc4, ?_, rfl, rfl, rfl, rfl, rfl, rfl, rfl⟩
        rw [← hcN]
        exact rows_set hV2 ivr2 _ _ _)
    · rintro m₂ nx2 h2 tk2 ⟨V2, c2, hc2, hV2, ha, hst, hah, hle, hro, hfi, rfl⟩ F4 N4
      replace F4 : Fr g L' h2 _ := fr_names F4 [(Str.ofString "a", .ref lf), (Str.ofString "step", .int (s : Int) ts), (Str.ofString "ahead", .int e te), (Str.ofString "lead", .int lead tld), (Str.ofString "row", .int kk t)] (allc ha (allc hst (allc hah (allc hle (all1 hro)))))
      replace N4 : News g L' h2 _ := N4
      dsimp only [kstB] at F4
      clear F3 N3 rg rg1 rg2 hm1 hm2 hled2
      cases hc2.symm.trans hc
      obtain ⟨vr2, nr2, hvr2, ivr2⟩ := hV2.get (i := ri) (by rw [List.length_set, sqC.1]; exact hki)
      rw [getD_set_eq (by rw [sqC.1]; exact hki)] at ivr2
      have hcl := ivr2.length
      have hm1 : (lf, listOf (rs.map Value.ref).toArray nl) ∈ [(I, it)] ++ (lf, listOf (rs.map Value.ref).toArray nl) :: (rowsE rs V2 ++ tl) := .tail _ (.head _)
      have hm2 : (rr, listOf vr2.toArray nr2) ∈ [(I, it)] ++ (lf, listOf (rs.map Value.ref).toArray nl) :: (rowsE rs V2 ++ tl) := .tail _ (.tail _ (List.mem_append.mpr (.inl (rowsE_mem hrr hvr2))))
      have hnew := fun v' => new_row [(I, it)] v' N4 (all1 (cls_ne hitc rfl)) hnd hlf htl hrr hvr2
      generalize hled4 : [(I, it)] ++ (lf, listOf (rs.map Value.ref).toArray nl) :: (rowsE rs V2 ++ tl) = led4 at hm1 hm2 hnew
      replace N4 : News g L' h2 led4 := hled4 ▸ N4
      k_steps
      unfold Halt
      rename Fr _ _ _ _ => F5
      rename News _ _ _ _ => N5
      refine set_row _ F5 N5 hm2 (hnew _) bs.1 (by rw [hcl, hlc, hsN]; exact hs) (lt63 bs) ?_
      intro h6 F6 N6
      (try dsimp only)
      clear F5 N5
      k_steps
      all_goals (
        rename Fr _ _ _ _ => F9
        rename News _ _ _ _ => N9
        refine hPP _ ?_
        refine ⟨_, _, _, _, rfl, F9, N9, _, _, hC2, ?_, rfl, rfl, rfl, rfl, rfl⟩
        rw [hsN]
        exact rows_set hV2 ivr2 _ _ _)
    all_goals k_steps
  · rintro m₁ nx h tk ⟨V', C, hC, hV, ha, hst, hah, hle, rfl⟩ F2 N2
    cases hC.symm.trans hb
    k_steps
    all_goals exact hQN _ _ _ _ F2 N2 _ hV rfl
  all_goals k_steps
set_option maxHeartbeats 2000000 in
theorem pivot_tells (w : World) (lf r : Addr) (refs vs : List Value) (n s : Nat) (x : Int) (ts tx : Tok) (hl : refs.length = n) (hs : s < n) (hn8 : n ≤ 64) (hx : x ≠ 0) (hr : refs[s]? = some (.ref r)) (hv : vs[s]? = some (.int x tx)) :
    Tells w 167 20 [.ref lf, .int (s : Int) ts] (fun h => ∃ n m, h.get? lf = some (listOf refs.toArray n) ∧ h.get? r = some (listOf vs.toArray m)) (fun h h' v => ∃ t, v = .int (s : Int) t) := by
  unfold Tells
  intro prog p loose mean mg mb dp un gd cn cs a' ccd cl outer A₀ base h₀ L m st Q E B F X T hk hd hu hpre hret
  obtain ⟨n1, m1, ea, er⟩ := hpre
  have hla : st.heap.IsList lf refs.toArray := ⟨_, ea, rfl, _, rfl⟩
  have hlr : st.heap.IsList r vs.toArray := ⟨_, er, rfl, _, rfl⟩
  clear ea er
  refine wpAny_call ?_
  refine' code_pure (binds := [(Str.ofString "a", Value.ref lf), (Str.ofString "step", Value.int (s : Int) ts)]) ?k1 ?k2 ?k3 ?k5 ?kA ?kF ?kK ?k6 ?k7 ?k8 ?k9 ?kB ?_ ?c2 ?c3 ?c4 ?c5; (case kA => exact rfl); (case kF => exact rfl); (case kK => assumption); (case k1 => k_asm); (case k2 => k_asm); (case k3 => k_asm); (case k5 => k_asm); (case k6 => k_is); (case k7 => k_is); (case k8 => first | exact dp_in hd | ktr_room); (case k9 => exact BindsTo.of_eq rfl); (case c5 => decide); (case kB => exact locs rfl); (case c2 => exact rfl); (case c3 => exact rfl); (case c4 => exact rfl)
  k_whole
  clear B F X T
  intro QQ hQQ hQN L' h' F' N' B' X' T'
  replace hret := fun r h' tk' x y => hQQ _ _ (hret r h' tk' x y)
  (try dsimp only)
  (try k_fold)
  k_with_none
  k_with "call builtin:len" => k_dflt (
    (refine' len_at (n := n) ?k1 ?k2 ?k3 ?_)
    (case k1 => exact Fr.lst (by assumption) (by assumption))
    (case k2 => exact hl)
    (case k3 => omega)
    k_whole)
  k_with "subscriptTail" => k_dflt (
    (refine' item_at ?k1 ?k2 ?k4 ?_ ?k6)
    (case k1 => exact Fr.lst (by assumption) (by assumption))
    (case k2 => assumption)
    (case k4 => assumption)
    (case k6 => with_unfolding_all rfl)
    k_whole)
  k_with "ite" => first
    | (refine' ite_pos ?c ?_; (case c => (simp [hx]; done)))
    | (refine' ite_neg ?c ?_; (case c => (simp [hx]; done)))
  k_with "pyIter ref" => (refine halt ?_)
  k_steps
  unfold Halt
  rename Fr _ _ _ _ => F1
  rename News _ _ _ _ => N1
  rename IsRange _ _ _ _ _ _ _ _ => rg
  obtain ⟨rg1, rg2⟩ := rng_sub (s := s) (n := n) (by omega) (by omega)
  refine range_inv (n := n - s) (fun i m nx => i = 0 ∧ m (Str.ofString "a") = some (.ref lf) ∧ m (Str.ofString "step") = some (.int (s : Int) ts) ∧ nx = [])
    (by rfl) rg rg1 rg2 F1 (news := []) News.nil ⟨rfl, rfl, rfl, rfl⟩ ?_ ?_ ?_
  · rintro i m nx ⟨_, _, _, rfl⟩ q hq
    exact nomatch hq
  · clear F1 N1 rg rg1 rg2
    rintro PP i kk t m₁ nx h tk I it hPP hPR hPB hi hkk ⟨rfl, ha, hst, rfl⟩ F2 N2 hitc
    replace F2 : Fr st.heap L' h _ := fr_turn F2 [(Str.ofString "a", .ref lf), (Str.ofString "step", .int (s : Int) ts)] (allc ha (all1 hst))
    replace N2 : News st.heap L' h _ := N2
    dsimp only [kstB] at F2
    obtain rfl : kk = (s : Int) := by omega
    have bk : 0 ≤ (s : Int) ∧ (s : Int) < 64 := by omega
    have hr' : refs[((s : Int)).toNat]? = some (.ref r) := hr
    have hv' : vs[((s : Int)).toNat]? = some (.int x tx) := hv
    k_steps
    all_goals (
      rename Fr _ _ _ _ => F9
      refine hPR _ _ ?_
      (try dsimp only)
      k_steps)
    all_goals (
      exact hret _ _ _ F9.keep ⟨_, rfl⟩)
  · rintro m₁ nx h tk ⟨e, _, _, _⟩ F2 N2
    exact absurd e (by omega)
  all_goals k_steps
section
open PyProof.Rows.LCg PyProof.Rows.LCp
section
variable {prog : Program} {w : World} {A : Around} {E : Value → Shared → Prop} {s : Shared} {h₀ : Heap} {L : Addr} {m : Str → Option Value} {env : Env}
theorem newEnvC {M : Model} {scope : Scope} {globals : Addr} {cl : List (Str × Addr)} {qual : Str} {o : Env} {Q : Env → Shared → Prop}
    (hQ : Q { scope := scope, locals := s.heap.objs.size, globals := globals, cells := cellsFrom (s.heap.objs.size + 1) scope.names cl, qual := qual, func := none, code := o.code, frame := o.frame, builtins := o.builtins }
      { s with heap := pushCells (s.heap.push { cls := .type "dict", data := .dict #[] }) scope.names }) :
    wpAny M A (newFunctionEnv scope globals cl [] qual none .none (some o)) Q E s := by
  simp only [newFunctionEnv, Option.isSome_some, if_true]
  refine wpAny_bind (wpAny_alloc ?_)
  refine wpAny_bind (wpAny_layCells _ (fun name kind cells => by cases hkc : kind == NameKind.cell <;> simp [hkc]) _ _ _ _ ?_)
  rw [show ({ s with heap := s.heap.push { cls := .type "dict", data := .dict #[] } } : Shared).heap.objs.size = s.heap.objs.size + 1 from Heap.size_push ..]
  exact wpAny_bind (wpAny_pure (wpAny_pure hQ))
inductive EndC (h₀ : Heap) (L : Addr) (m : Str → Option Value) (s₁ : Shared) (I : Addr) (oI : Obj) (C : Addr) (oC : Obj) (K : Addr) (oK : Obj) (D : Addr) (oD : Obj) (rest : Value → List (Addr × Obj) → Prop) (y : Value) (s₂ : Shared) : Prop
  | mk (h' : Heap) (tk : Nat) (news' : List (Addr × Obj)) : s₂ = { s₁ with heap := h', toks := tk } → Fr h₀ L h' m → News h₀ L h' ((I, oI) :: (C, oC) :: (K, oK) :: (D, oD) :: news') → Off3 I C D news' → Off1 K news' → rest y news' → EndC h₀ L m s₁ I oI C oC K oK D oD rest y s₂
noncomputable def CompRestC (prog : Program) (w : World) (A : Around) (h₀ : Heap) (L : Addr) (m : Str → Option Value) (env : Env) (elt : Expr) (x : Str) (scope : Scope) (cl : List (Str × Addr)) (s : Shared) (a : Int)
    (Fin : List Value → List (Addr × Obj) → Prop) : Nat → Nat → List Value → List (Addr × Obj) → Prop
  | 0, _, ys, news => Fin ys news
  | k + 1, i, ys, news => ∀ t I oI C oC K oK D m₂ h tk (E' : Value → Shared → Prop), NsObj oC m₂ → oK.data = .cell (some (.int (a + (i : Int)) t)) → Fr h₀ L h m → News h₀ L h ((I, oI) :: (C, oC) :: (K, oK) :: (D, lst ys) :: news) → Off3 I C D news → Off1 K news → ((@Ne Nat I C) ∧ (@Ne Nat I D) ∧ (@Ne Nat C D)) → ((@Ne Nat K I) ∧ (@Ne Nat K C) ∧ (@Ne Nat K D)) →
      wpAny (model prog w) A (eval elt (compEnvC scope ((x, K) :: cl) C env)) (EndC h₀ L m { s with heap := h, toks := tk } I oI C oC K oK D (lst ys) (fun y news' => CompRestC prog w A h₀ L m env elt x scope cl s a Fin k (i + 1) (ys ++ [y]) news')) E' { s with heap := h, toks := tk }
theorem off1_of {D : Addr} : ∀ {l : List (Addr × Obj)}, (∀ p ∈ l, p.1 ≠ D) → Off1 D l
  | [], _ => trivial
  | _ :: _, h => ⟨h _ List.mem_cons_self, off1_of fun p hp => h p (List.mem_cons_of_mem _ hp)⟩
theorem off1_mem {D : Addr} : ∀ {l : List (Addr × Obj)}, Off1 D l → ∀ p ∈ l, p.1 ≠ D
  | [], _, _, h => nomatch h
  | _ :: _, x, p, h => by
    rcases List.mem_cons.mp h with rfl | h
    · exact x.1
    · exact off1_mem x.2 p h
inductive LoopC (prog : Program) (w : World) (A : Around) (s₂ : Shared) (h₀ : Heap) (L : Addr) (m : Str → Option Value) (env : Env) (elt : Expr) (x : Str) (scope : Scope) (cl : List (Str × Addr)) (I C K D : Addr) (n : Nat) (a : Int) (Fin : List Value → List (Addr × Obj) → Prop) (k : Nat) (s' : Shared) : Prop
  | mk (h' : Heap) (tk i : Nat) (ys : List Value) (m' : Str → Option Value) (ov : Option Value) (news' : List (Addr × Obj)) : s' = { s₂ with heap := h', toks := tk } → i ≤ n → k = n + 1 - i → ys.length = i → IsRangeIter h' I (a + (i : Nat) * 1) ((n : Int) - (i : Nat)) 1 → Fr h₀ L h' m → h'.Ns C m' → h'.IsCell K ov → News h₀ L h' ((D, lst ys) :: news') →
    Off3 I C D news' → Off1 K news' → CompRestC prog w A h₀ L m env elt x scope cl s₂ a Fin (n - i) i ys news' → LoopC prog w A s₂ h₀ L m env elt x scope cl I C K D n a Fin k s'
theorem block_C {elt iter : Expr} {x : Str} {px : Pos} {scope : Scope} {cl : List (Str × Addr)} {pos : Pos} {s₂ : Shared} {I : Addr} {n : Nat} {a : Int} {news : List (Addr × Obj)}
    {Fin : List Value → List (Addr × Obj) → Prop} {RR : Value → Addr → Result → Shared → Prop}
    (hsz : n ≤ sizeLine)
    (hcl : ∀ k, cellsFrom k scope.names cl = (x, k) :: cl) (hpc : ∀ h, pushCells h scope.names = h.push { cls := .type "cell", data := .cell none }) (hkx : ∀ K C, (compEnvC scope ((x, K) :: cl) C env).kindOf x = some .cell) (hkind : scope.kind = .function) (hh : A.handled = none)
    (hst : IsRangeIter s₂.heap I (a + ((0 : Nat) : Int) * 1) ((n : Int) - ((0 : Nat) : Int)) 1)
    (F : Fr h₀ L s₂.heap m) (N : News h₀ L s₂.heap news) (hIL : L ≠ I) (hI₀ : h₀.get? I = none) (off : ∀ p ∈ news, p.1 ≠ I)
    (R : CompRestC prog w A h₀ L m env elt x scope cl s₂ a Fin n 0 [] news)
    (hRR : ∀ D C h tk m' ys news', Fr h₀ L h m → News h₀ L h ((D, lst ys) :: news') → Off1 D news' → h.Ns C m' → h₀.get? C = none → h₀.get? D = none → C ≠ L → D ≠ L → C ≠ D → (∀ p ∈ news', p.1 ≠ C) → Fin ys news' → RR (.ref D) C (.ok .next) { s₂ with heap := h, toks := tk }) :
    wpAny (model prog w) A (newList []) (fun acc s₃ => wpAny (model prog w) A (newFunctionEnv scope env.globals cl [] env.qual none .none (some env)) (fun cenv s₄ =>
      codeAny (model prog w) A (.compStart (.ListComp elt [⟨.Name x px, iter, [], 0⟩] scope pos) 0 (.ref I) acc { cenv with scope := relabel scope env }) (RR acc cenv.locals) s₄) E s₃) E s₂ := by
  have W := range_walks (prog := prog) (w := w) (I := I) hh a n
  refine wpAny_newObj_type (newEnvC ?_)
  dsimp only
  rw [hcl, hpc]
  generalize hH2 : s₂.heap.push { cls := .type "list", dict := none, data := .seq ([] : List Value).toArray } = H2
  generalize hH3 : H2.push { cls := .type "dict", data := .dict #[] } = H3
  have hC : H2.objs.size = s₂.heap.objs.size + 1 := by rw [← hH2, Heap.size_push]
  have hK : H3.objs.size = s₂.heap.objs.size + 2 := by rw [← hH3, Heap.size_push, hC]
  generalize hh₁ : H3.push { cls := .type "cell", data := .cell none } = h₁
  have n1 : H2.objs.size + 1 = H3.objs.size := by rw [hK, hC]
  rw [n1]
  have below : ∀ b, b < s₂.heap.objs.size → b ≠ H2.objs.size ∧ b ≠ s₂.heap.objs.size ∧ b ≠ H3.objs.size := fun b hb => by rw [hC, hK]; exact ⟨by omega, by omega, by omega⟩
  have hDC : s₂.heap.objs.size ≠ H2.objs.size := by rw [hC]; omega
  have hKC : H3.objs.size ≠ H2.objs.size := by rw [hC, hK]; omega
  have hKD : H3.objs.size ≠ s₂.heap.objs.size := by rw [hK]; omega
  have hIlt : I < s₂.heap.objs.size := Heap.lt_size hst
  have old : ∀ b o, s₂.heap.get? b = some o → h₁.get? b = some o := fun b o e => by
    rw [← hh₁, ← hH3, ← hH2]
    exact Heap.get?_push_of_some _ (Heap.get?_push_of_some _ (Heap.get?_push_of_some _ e))
  have hacc : h₁.get? s₂.heap.objs.size = some (lst []) := by
    rw [← hh₁, ← hH3, ← hH2]
    exact Heap.get?_push_of_some _ (Heap.get?_push_of_some _ (Heap.get?_push_size _ rfl))
  have hdict : h₁.get? H2.objs.size = some { cls := .type "dict", data := .dict #[] } := by
    rw [← hh₁, ← hH3]
    exact Heap.get?_push_of_some _ (Heap.get?_push_size _ rfl)
  have hcel : h₁.IsCell H3.objs.size none := ⟨_, by rw [← hh₁]; exact Heap.get?_push_size _ rfl, rfl⟩
  have hns₁ : h₁.Ns H2.objs.size (fun _ => none) := by
    have := Heap.Ns.new H2 (.type "dict")
    rw [hH3] at this
    exact this.keeps fun b o e => by rw [← hh₁]; exact Heap.get?_push_of_some _ e
  have hst₁ : IsRangeIter h₁ I (a + ((0 : Nat) : Int) * 1) ((n : Int) - ((0 : Nat) : Int)) 1 := old _ _ hst
  have fresh : ∀ b, s₂.heap.objs.size ≤ b → s₂.heap.get? b = none := fun b ha => by
    cases e : s₂.heap.get? b with
    | none => rfl
    | some o' => exact absurd (Heap.lt_size e) (Nat.not_lt.mpr ha)
  have fresh₀ : ∀ b, s₂.heap.objs.size ≤ b → h₀.get? b = none := fun b ha => by
    cases e : h₀.get? b with
    | none => rfl
    | some o' => have := F.keep b o' e; rw [fresh b ha] at this; cases this
  have hD₀ : h₀.get? s₂.heap.objs.size = none := fresh₀ _ (Nat.le_refl _)
  have hC₀ : h₀.get? H2.objs.size = none := fresh₀ _ (by rw [hC]; omega)
  have hK₀ : h₀.get? H3.objs.size = none := fresh₀ _ (by rw [hK]; omega)
  have hLlt : L < s₂.heap.objs.size := F.ns.lt
  have hDL : s₂.heap.objs.size ≠ L := Ne.symm (below L hLlt).2.1
  have hCL : H2.objs.size ≠ L := Ne.symm (below L hLlt).1
  have hKL : H3.objs.size ≠ L := Ne.symm (below L hLlt).2.2
  have hCI : I ≠ H2.objs.size := (below I hIlt).1
  have hDI : I ≠ s₂.heap.objs.size := (below I hIlt).2.1
  have hKI : I ≠ H3.objs.size := (below I hIlt).2.2
  have off₀ : Off3 I H2.objs.size s₂.heap.objs.size news := Off3.of fun p hp => ⟨off p hp, (below _ (Heap.lt_size (N p hp).1)).1, (below _ (Heap.lt_size (N p hp).1)).2.1⟩
  have offK₀ : Off1 H3.objs.size news := off1_of fun p hp => (below _ (Heap.lt_size (N p hp).1)).2.2
  have loop : ∀ s₃ : Shared, s₃ = { s₂ with heap := h₁ } →
      codeAny (model prog w) A (.compLoop (.ListComp elt [⟨.Name x px, iter, [], 0⟩] scope pos) 0 (.ref I) (.ref s₂.heap.objs.size) (compEnvC scope ((x, H3.objs.size) :: cl) H2.objs.size env))
        (RR (.ref s₂.heap.objs.size) H2.objs.size) s₃ := by
    rintro s₃ rfl
    refine codeAny_compLoop_tests
      (LoopC prog w A s₂ h₀ L m env elt x scope cl I H2.objs.size H3.objs.size s₂.heap.objs.size n a Fin) ?_ (n + 1)
      ⟨h₁, _, 0, [], _, none, news, rfl, Nat.zero_le _, rfl, rfl, hst₁, F.keeps old, hns₁, hcel, fun p hp => ?_, off₀, offK₀, R⟩
    · rintro k s' ⟨h', tk, i, ys, m', ov, news', rfl, hi, rfl, hyl, hst', F', hn', hc', N', off', offK', R'⟩
      by_cases hlt : i < n
      · obtain ⟨j, hj⟩ : ∃ j, n - i = j + 1 := ⟨n - i - 1, by omega⟩
        rw [hj] at R'
        refine W.item i _ _ _ hlt hst' fun v h₂ tk₂ hPv hst₂ hk₂ => ?_
        obtain ⟨t, rfl⟩ := hPv
        have hc₂ : h₂.IsCell H3.objs.size ov := by
          obtain ⟨o, q, r⟩ := hc'
          exact ⟨o, hk₂ _ o (by simpa using Ne.symm hKI) q, r⟩
        refine wpAny_assign_Name (wpAny_storeName_cell (by simp [compEnvC, relabel, hkind]) (hkx _ _) (by simp [compEnvC]) hc₂ fun h₃ hc₃ hs₃ => ?_)
        refine wpAny_tests_nil ?_
        simp only [if_true]
        have hst₃ : IsRangeIter h₃ I (a + ((i + 1 : Nat) : Int) * 1) ((n : Int) - ((i + 1 : Nat) : Int)) 1 := hs₃.extBut _ _ hKI hst₂
        obtain ⟨oK, heK, hdK⟩ := hc₃
        obtain ⟨oC, heC, hoC⟩ := ns_obj ((hn'.at' fun o e => hk₂ _ o (by simpa using Ne.symm hCI) e).sameBut hs₃ (Ne.symm hKC))
        have F₃ : Fr h₀ L h₃ m := (fr_but F' hk₂ hIL hI₀).change hs₃ hKL hK₀
        have off3 := off'.mem
        have offK := off1_mem offK'
        have N₂ : News h₀ L h₂ ((s₂.heap.objs.size, lst ys) :: news') := news_but N' hk₂ fun p hp => by
          rcases List.mem_cons.mp hp with rfl | hp
          · exact Ne.symm hDI
          · exact (off3 p hp).1
        have N₃ : News h₀ L h₃ ((I, _) :: (H2.objs.size, oC) :: (H3.objs.size, oK) :: (s₂.heap.objs.size, lst ys) :: news') := fun p hp => by
          rcases List.mem_cons.mp hp with rfl | hp
          · exact ⟨hst₃, Ne.symm hIL, hI₀⟩
          · rcases List.mem_cons.mp hp with rfl | hp
            · exact ⟨heC, hCL, hC₀⟩
            · rcases List.mem_cons.mp hp with rfl | hp
              · exact ⟨heK, hKL, hK₀⟩
              · have z := N₂ p hp
                refine ⟨hs₃.extBut _ _ ?_ z.1, z.2⟩
                rcases List.mem_cons.mp hp with rfl | hp
                · exact Ne.symm hKD
                · exact offK p hp
        refine wpAny_mono (R' t I _ H2.objs.size oC H3.objs.size oK s₂.heap.objs.size _ h₃ _ _ hoC hdK F₃ N₃ off' offK' ⟨hCI, hDI, Ne.symm hDC⟩ ⟨Ne.symm hKI, hKC, hKD⟩) (fun y s₄ h₄ => ?_) fun _ _ e => e
        obtain ⟨h₄, tk₄, news₄, rfl, F₄, N₄, off₄, offK₄, R₄⟩ := h₄
        have zI := (N₄ _ List.mem_cons_self).1
        have zC := (N₄ (H2.objs.size, oC) (.tail _ (.head _))).1
        have zK := (N₄ (H3.objs.size, oK) (.tail _ (.tail _ (.head _)))).1
        have zD := (N₄ (s₂.heap.objs.size, lst ys) (.tail _ (.tail _ (.tail _ (.head _))))).1
        have N₄' : News h₀ L h₄ news₄ := fun p hp => N₄ p (.tail _ (.tail _ (.tail _ (.tail _ hp))))
        refine append_at (hsz := by show ys.toArray.size ≤ sizeLine; rw [List.size_toArray, hyl]; exact Nat.le_trans hi hsz) zD fun h₅ hs₅ hD₅ => ?_
        have off4 := off₄.mem
        refine ⟨n + 1 - (i + 1), by omega, h₅, tk₄, i + 1, ys ++ [y], _, _, news₄, rfl, hlt, rfl, by rw [List.length_append, List.length_singleton, hyl], hs₅.extBut _ _ hDI zI, F₄.change hs₅ hDL hD₀,
          (hoC.ns zC).sameBut hs₅ (Ne.symm hDC), ⟨oK, hs₅.extBut _ _ hKD zK, hdK⟩, fun p hp => ?_, off₄, offK₄, ?_⟩
        · rcases List.mem_cons.mp hp with rfl | hp
          · exact ⟨hD₅.trans (congrArg some (lst_snoc ys y)), hDL, hD₀⟩
          · exact ⟨hs₅.extBut _ _ (off4 p hp).2.2 (N₄' p hp).1, (N₄' p hp).2⟩
        · rw [show n - (i + 1) = j by omega]
          exact R₄
      · obtain rfl : i = n := Nat.le_antisymm hi (Nat.not_lt.mp hlt)
        rw [Nat.sub_self] at R'
        refine W.done _ _ _ hst' fun h₂ tk₂ hk₂ => ?_
        have off3 := off'.mem
        exact hRR _ _ h₂ tk₂ _ ys news' (fr_but F' hk₂ hIL hI₀) (news_but N' hk₂ fun p hp => by
          rcases List.mem_cons.mp hp with rfl | hp
          · exact Ne.symm hDI
          · exact (off3 p hp).1) off'.one (hn'.at' fun o e => hk₂ _ o (by simpa using Ne.symm hCI) e) hC₀ hD₀ hCL hDL (Ne.symm hDC) (fun p hp => (off3 p hp).2.1) R'
    · rcases List.mem_cons.mp hp with rfl | hp
      · exact ⟨hacc, hDL, hD₀⟩
      · exact ⟨old _ _ (N p hp).1, (N p hp).2⟩
  exact codeAny_compStart_list (loop _ rfl) (W.self 0 _ _ _ hst₁ (loop _ rfl))
inductive SrcRC (prog : Program) (w : World) (A : Around) (h₀ : Heap) (L : Addr) (m : Str → Option Value) (env : Env) (elt : Expr) (x : Str) (scope : Scope) (cl : List (Str × Addr)) (Fin : Shared → List Value → List (Addr × Obj) → Prop) (xv : Value) (s₁ : Shared) : Prop
  | mk (r : Addr) (a b : Int) (t u v : Tok) (n : Nat) (news : List (Addr × Obj)) : xv = .ref r → A.handled = none → Fr h₀ L s₁.heap m → News h₀ L s₁.heap news → IsRange s₁.heap r a b 1 t u v → Builtin.Range.small a b 1 = true → Builtin.Range.rangeSize a b 1 = ((n : Nat) : Int) → n ≤ sizeLine →
    (∀ s₂ : Shared, (∃ h, s₂ = { s₁ with heap := h }) → CompRestC prog w A h₀ L m env elt x scope cl s₂ a (Fin s₂) n 0 [] news) → SrcRC prog w A h₀ L m env elt x scope cl Fin xv s₁
theorem comp_rangeC {elt iter : Expr} {x : Str} {px : Pos} {scope : Scope} {cl : List (Str × Addr)} {pos : Pos} {Q : Value → Shared → Prop} (F₀ : Fr h₀ L s.heap m)
    (hclos : closureFor scope env = pure cl) (hcl : ∀ k, cellsFrom k scope.names cl = (x, k) :: cl) (hpc : ∀ h, pushCells h scope.names = h.push { cls := .type "cell", data := .cell none }) (hkx : ∀ K C, (compEnvC scope ((x, K) :: cl) C env).kindOf x = some .cell) (hkind : scope.kind = .function)
    (hnames : ∀ y ∈ scope.names, y.2 = .local → scope.names.lookup y.1 = some .local)
    (h : wpAny (model prog w) A (eval iter env) (SrcRC prog w A h₀ L m env elt x scope cl (fun s₂ => FinE h₀ L m s₂ Q)) E s)
    (hs : ∀ x, foldedSetIterable iter env x = pure x := by intro _; rfl) :
    wpAny (model prog w) A (eval (.ListComp elt [⟨.Name x px, iter, [], 0⟩] scope pos) env) Q E s := by
  rw [eval_ListComp]
  refine wpAny_comprehension_free (use := none) rfl hs hclos hkind hnames (wpAny_mono h (fun xv s₁ h₁ => ?_) fun _ _ e => e)
  obtain ⟨r, a, b, t, u, v, n, news, rfl, hh, F, N, hr, hsm, hn, hsz, R⟩ := h₁
  refine wpAny_pyIter_range hr hsm ?_
  refine block_C hsz hcl hpc hkx hkind hh (by show IsRangeIter _ _ _ _ _; rw [hn]; simpa using Heap.get?_push_size _ rfl)
    (F.keeps fun _ _ e => Heap.get?_push_of_some _ e) (N.grown fun _ _ e => Heap.get?_push_of_some _ e) (Nat.ne_of_lt F.ns.lt) (next_is_new F) (fun p hp => Nat.ne_of_lt (Heap.lt_size (N p hp).1)) (R _ ⟨_, rfl⟩) ?_
  intro D C h tk m' ys news' F' N' o1 hn hC₀ hD₀ hCL hDL hCD offC fin
  refine ⟨m', hn, fun h'' hs'' => fin D h'' tk (F'.change hs'' hCL hC₀) (fun p hp => ?_) o1⟩
  refine ⟨hs''.extBut _ _ ?_ (N' p hp).1, (N' p hp).2⟩
  rcases List.mem_cons.mp hp with rfl | hp
  · exact Ne.symm hCD
  · exact offC p hp
theorem compRestC_zero {elt : Expr} {x : Str} {scope : Scope} {cl : List (Str × Addr)} {a : Int} {Fin : List Value → List (Addr × Obj) → Prop} {i : Nat} {ys : List Value} {news : List (Addr × Obj)} (h : Fin ys news) : CompRestC prog w A h₀ L m env elt x scope cl s a Fin 0 i ys news := h
theorem compRestC_succ {elt : Expr} {x : Str} {scope : Scope} {cl : List (Str × Addr)} {a : Int} {Fin : List Value → List (Addr × Obj) → Prop} {k i : Nat} {ys : List Value} {news : List (Addr × Obj)}
    (h : ∀ t I oI C oC K oK D m₂ h tk (E' : Value → Shared → Prop), NsObj oC m₂ → oK.data = .cell (some (.int (a + (i : Int)) t)) → Fr h₀ L h m → News h₀ L h ((I, oI) :: (C, oC) :: (K, oK) :: (D, lst ys) :: news) → Off3 I C D news → Off1 K news → ((@Ne Nat I C) ∧ (@Ne Nat I D) ∧ (@Ne Nat C D)) → ((@Ne Nat K I) ∧ (@Ne Nat K C) ∧ (@Ne Nat K D)) →
      wpAny (model prog w) A (eval elt (compEnvC scope ((x, K) :: cl) C env)) (EndC h₀ L m { s with heap := h, toks := tk } I oI C oC K oK D (lst ys) (fun y news' => CompRestC prog w A h₀ L m env elt x scope cl s a Fin k (i + 1) (ys ++ [y]) news')) E' { s with heap := h, toks := tk }) : CompRestC prog w A h₀ L m env elt x scope cl s a Fin (k + 1) i ys news := h
end
end
theorem useM {w : World} {f : Addr} {N : Nat} {vs : List Value} {led : List (Addr × Obj)} {Post : List (Addr × Obj) → Prop} (C : TellsM w f N vs led Post)
    {prog p : Program} {loose : List Str} {mean : ExcName → Option Value} {mg mb : Str → Option Value} {dp un : Nat} {gd : Option (List Code)} {cn : Str} {cs : Scope} {a : Addr} {ccd : Value} {cl : List (Str × Addr)} {outer : List Env} {A₀ : Around} {base h₀ : Heap} {L : Addr} {m : Str → Option Value} {s : Shared} {Q E : Value → Shared → Prop}
    (B : Below A₀ base outer h₀) (F : Fr h₀ L s.heap m) (Nw : News h₀ L s.heap led) (X : (Mine.hd.heap_39 w.params).In h₀) (T : Top p loose mean mg mb h₀) (hk : cs.kind = .function) (hd : dp + N < recursionLimit) (hu : un + 8 * N < cLine)
    (ret : ∀ led' h' tk', Fr h₀ L h' m → News h₀ L h' led' → Post led' → Q .none { s with heap := h', toks := tk' }) :
    wpAny (model prog w) (ktrTop dp un gd cn cs L a ccd cl outer) (call (.ref f) vs) Q E s :=
  C prog p loose mean mg mb dp un gd cn cs a ccd cl outer A₀ base h₀ L m s Q E B F X Nw T hk hd hu ret
theorem rowsE_snoc : ∀ {rs : List Addr} {V : Vs} {r : Addr} {v : List Value × Nat} {p : Addr × Obj}, rs.length = V.length → p ∈ rowsE (rs ++ [r]) (V ++ [v]) → p = (r, listOf v.1.toArray v.2) ∨ p ∈ rowsE rs V
  | [], [], _, _, _, _, h => .inl (List.mem_singleton.mp h)
  | [], _ :: _, _, _, _, e, _ => by cases e
  | _ :: _, [], _, _, _, e, _ => by cases e
  | a :: rs, b :: V, r, v, p, e, h => by
    rw [List.cons_append, List.cons_append] at h
    unfold rowsE at h
    rcases List.mem_cons.mp h with rfl | h
    · exact .inr (.head _)
    · rcases rowsE_snoc (Nat.succ.inj e) h with q | q
      · exact .inl q
      · exact .inr (.tail _ q)
theorem RowsI.snoc {V : Vs} {M : List (List Int)} {v : List Value × Nat} {x : List Int} (h : RowsI V M) (hv : IntsAre v.1 x) : RowsI (V ++ [v]) (M ++ [x]) := by
  induction h with
  | nil => exact .cons hv .nil
  | cons a _ ih => exact .cons a ih
inductive CopyPost (s : Shared) (h : Heap) (xs : List Int) (y : Value) (s₂ : Shared) : Prop
  | mk (h' : Heap) (tk' : Nat) (r : Addr) (v : List Value) (k : Nat) : s₂ = { s with heap := h', toks := tk' } → y = .ref r → Ext h h' → h.get? r = none → h'.get? r = some (listOf v.toArray k) → IntsAre v xs → CopyPost s h xs y s₂
section
variable {prog : Program} {w : World} {A : Around} {h₀ : Heap} {L : Addr} {m : Str → Option Value} {env : Env} {ct elt : Expr} {x : Str} {scope : Scope} {cl : List (Str × Addr)} {s : Shared} {S : List (Addr × Obj) → Prop} {P : Nat → Value → Prop} {Fin : List Value → List (Addr × Obj) → Prop} {news : List (Addr × Obj)}
theorem list_ne {h : Heap} {r : Addr} {v : List Value} {k : Nat} {L : Addr} {m : Str → Option Value} {h₀ : Heap} (F : Fr h₀ L h m) (e : h.get? r = some (listOf v.toArray k)) : r ≠ L := by
  rintro rfl
  obtain ⟨o, es, ep, ho, hd, _⟩ := F.ns
  rw [e] at ho
  cases ho
  cases hd
theorem comp_copies {n : Nat} {M : List (List Int)} (hM : M.length = n) (hS : ∀ nx, S news → (∀ p ∈ news, p ∈ nx) → S nx) (hS0 : S news)
    (turn : ∀ i v I oI C oC D m₂ ys h tk (E' : Value → Shared → Prop), i < n → P i v → LCg.NsObj oC m₂ → m₂ x = some v → Fr h₀ L h m → News h₀ L h ((I, oI) :: (C, oC) :: (D, LCg.lst ys) :: news) →
      wpAny (model prog w) A (eval elt (compEnvC scope cl C env)) (CopyPost s h (M.getD i [])) E' { s with heap := h, toks := tk })
    (fin : ∀ rs V, rs.length = n → RowsI V M → rs.Nodup → (∀ p ∈ news, p.1 ∉ rs) → Fin (rs.map Value.ref) (rowsE rs V ++ news)) : LCg.CompRest prog w A h₀ L m env elt x scope cl s S P Fin n 0 [] news := by
  have key : ∀ (j i : Nat) (rs : List Addr) (V : Vs), i + j = n → rs.length = i → RowsI V (M.take i) → rs.Nodup → (∀ p ∈ news, p.1 ∉ rs) → LCg.CompRest prog w A h₀ L m env elt x scope cl s S P Fin j i (rs.map Value.ref) (rowsE rs V ++ news) := by
    intro j
    induction j with
    | zero =>
      intro i rs V hi hl hV hnd hoff
      obtain rfl : i = M.length := by omega
      rw [List.take_length] at hV
      exact LCg.CompRest.zero (fin rs V (hl.trans hM) hV hnd hoff)
    | succ j ih =>
      intro i rs V hi hl hV hnd hoff
      refine LCg.CompRest.succ ?_
      intro v I oI C oC D m₂ h tk E' hv hC hx F N off ne
      have hlt : i < M.length := by omega
      have htk : M.take (i + 1) = M.take i ++ [M.getD i []] := by
        rw [List.take_add_one, List.getElem?_eq_getElem hlt, List.getD_eq_getElem?_getD, List.getElem?_eq_getElem hlt]
        rfl
      refine wpAny_mono (turn i v I oI C oC D m₂ _ h tk E' (by omega) hv hC hx F (fun p hp => by
        rcases List.mem_cons.mp hp with rfl | hp
        · exact N _ (.head _)
        rcases List.mem_cons.mp hp with rfl | hp
        · exact N _ (.tail _ (.head _))
        rcases List.mem_cons.mp hp with rfl | hp
        · exact N _ (.tail _ (.tail _ (.head _)))
        · exact N _ (.tail _ (.tail _ (.tail _ (List.mem_append.mpr (.inr hp))))))) (fun y s₂ hq => ?_) fun _ _ e => e
      obtain ⟨h', tk', r, v', k, rfl, rfl, hx', hn, ho, hiv⟩ := hq
      have F' : Fr h₀ L h' m := ⟨F.ns.keeps hx', fun b o e => hx' b o (F.keep b o e), F.above⟩
      have fresh : ∀ p ∈ (I, oI) :: (C, oC) :: (D, LCg.lst (rs.map Value.ref)) :: (rowsE rs V ++ news), p.1 ≠ r := fun p hp e => by
        have := (N p hp).1
        rw [e, hn] at this
        cases this
      have hvl : rs.length = V.length := by rw [hV.length, List.length_take, hl]; omega
      have hrs : r ∉ rs := fun hm => by
        obtain ⟨i', hi', e⟩ := List.mem_iff_getElem.mp hm
        have hi2 : i' < V.length := by omega
        have q := rowsE_mem (rs := rs) (V := V) (i := i') (r := r) (v := V[i'].1) (n := V[i'].2) (by rw [List.getElem?_eq_getElem hi', e]) (by rw [List.getElem?_eq_getElem hi2])
        exact fresh _ (.tail _ (.tail _ (.tail _ (List.mem_append.mpr (.inl q))))) rfl
      have off3 := off.mem
      have sub : ∀ p ∈ rowsE (rs ++ [r]) (V ++ [(v', k)]) ++ news, p = (r, listOf v'.toArray k) ∨ p ∈ rowsE rs V ++ news := fun p hp => by
        rcases List.mem_append.mp hp with hp | hp
        · rcases rowsE_snoc hvl hp with q | q
          · exact .inl q
          · exact .inr (List.mem_append.mpr (.inl q))
        · exact .inr (List.mem_append.mpr (.inr hp))
      refine ⟨h', tk', rowsE (rs ++ [r]) (V ++ [(v', k)]) ++ news, rfl, F', ?_, LCg.Off3.of ?_, hS _ hS0 (fun p hp => List.mem_append.mpr (.inr hp)), ?_⟩
      · intro p hp
        have up : p ∈ (I, oI) :: (C, oC) :: (D, LCg.lst (rs.map Value.ref)) :: (rowsE rs V ++ news) → h'.get? p.1 = some p.2 ∧ p.1 ≠ L ∧ h₀.get? p.1 = none := fun hp => ⟨hx' _ _ (N p hp).1, (N p hp).2⟩
        rcases List.mem_cons.mp hp with rfl | hp
        · exact up (.head _)
        rcases List.mem_cons.mp hp with rfl | hp
        · exact up (.tail _ (.head _))
        rcases List.mem_cons.mp hp with rfl | hp
        · exact up (.tail _ (.tail _ (.head _)))
        rcases sub p hp with rfl | hp
        · exact ⟨ho, list_ne F' ho, none_of F.keep hn⟩
        · exact up (.tail _ (.tail _ (.tail _ hp)))
      · intro p hp
        rcases sub p hp with rfl | hp
        · exact ⟨Ne.symm (fresh _ (.head _)), Ne.symm (fresh _ (.tail _ (.head _))), Ne.symm (fresh _ (.tail _ (.tail _ (.head _))))⟩
        · exact off3 p hp
      · have q := ih (i + 1) (rs ++ [r]) (V ++ [(v', k)]) (by omega) (by rw [List.length_append, hl]; rfl) (by rw [htk]; exact hV.snoc hiv)
          (List.nodup_append.mpr ⟨hnd, List.nodup_cons.mpr ⟨(fun h => nomatch h), List.nodup_nil⟩, fun a ha b hb e => hrs (by rw [← List.mem_singleton.mp hb, ← e]; exact ha)⟩)
          (fun p hp hm => by
            rcases List.mem_append.mp hm with hm | hm
            · exact hoff p hp hm
            · exact fresh p (.tail _ (.tail _ (.tail _ (List.mem_append.mpr (.inr hp))))) (List.mem_singleton.mp hm))
        rw [List.map_append] at q
        exact q
  exact key n 0 [] [] (by omega) rfl .nil List.nodup_nil (fun _ _ h => nomatch h)
theorem compT_none (hS0 : S news)
    (turn : ∀ i v I oI C oC D m₂ h tk (E' : Value → Shared → Prop), P i v → LCg.NsObj oC m₂ → m₂ x = some v → Fr h₀ L h m → News h₀ L h ((I, oI) :: (C, oC) :: (D, LCg.lst []) :: news) →
      wpAny (model prog w) A (isTrue ct (compEnvC scope cl C env) (eval ct (compEnvC scope cl C env))) (fun ok s' => ok = false ∧ ∃ tk', s' = { s with heap := h, toks := tk' }) E' { s with heap := h, toks := tk })
    (fin : Fin [] news) : ∀ (n i : Nat), LCt.CompRestT prog w A h₀ L m env ct elt x scope cl s S P Fin n i [] news
  | 0, i => LCt.CompRestT.zero fin
  | n + 1, i => by
    refine LCt.CompRestT.succ ?_
    intro v I oI C oC D m₂ h tk E' hv hC hx F N off ne
    refine wpAny_mono (turn i v I oI C oC D m₂ h tk E' hv hC hx F N) (fun ok s₂ hq => ?_) fun _ _ e => e
    obtain ⟨rfl, tk', rfl⟩ := hq
    rw [if_neg (by decide)]
    exact ⟨h, tk', news, rfl, F, N, off, hS0, compT_none hS0 turn fin n (i + 1)⟩
end
noncomputable def detTo (n : Nat) (M : List (List Int)) : Nat → Option (List (List Int) × Int)
  | 0 => some (M, 1)
  | i + 1 => (detTo n M i).bind fun p => if (p.1.getD i []).getD i 0 ≠ 0 ∧ p.2 ≠ 0 ∧ sm p.2 = true then
      (bsMat n i p.2 ((p.1.getD i []).getD i 0) p.1 (n - (i + 1))).bind fun C => some (C, (C.getD i []).getD i 0) else none
theorem detTo_le {n i : Nat} {M : List (List Int)} : ∀ {k : Nat} {r : List (List Int) × Int}, detTo n M k = some r → i ≤ k → ∃ q, detTo n M i = some q := by
  intro k
  induction k with
  | zero => intro r h hi; exact ⟨r, by rw [Nat.le_zero.mp hi]; exact h⟩
  | succ k ih =>
    intro r h hi
    by_cases e : i = k + 1
    · exact ⟨r, e ▸ h⟩
    · obtain ⟨acc, ha, _⟩ := Option.bind_eq_some_iff.mp h
      exact ih ha (by omega)
theorem detTo_sq {n : Nat} {M : List (List Int)} (hM : Sq n M) : ∀ {k : Nat} {r : List (List Int) × Int}, k ≤ n → detTo n M k = some r → Sq n r.1 := by
  intro k
  induction k with
  | zero => intro r _ h; cases h; exact hM
  | succ k ih =>
    intro r hk h
    obtain ⟨p, hp, h⟩ := Option.bind_eq_some_iff.mp h
    have hp := ih (by omega) hp
    split at h
    · obtain ⟨c, hc, h⟩ := Option.bind_eq_some_iff.mp h
      cases h
      exact bsMat_sq hp (by omega) hc
    · cases h
theorem not_row {g h : Heap} {L : Addr} {led : List (Addr × Obj)} {rs : List Addr} {V : Vs} {p : Addr × Obj} (N : News g L h led) (hp : p ∈ led) (hc : p.2.cls ≠ .type "list") (hsub : ∀ q ∈ rowsE rs V, q ∈ led) (hl : rs.length = V.length) : p.1 ∉ rs := fun hm => by
  obtain ⟨i, hi, e⟩ := List.mem_iff_getElem.mp hm
  have q := rowsE_mem (rs := rs) (V := V) (i := i) (r := p.1) (v := (V[i]'(hl ▸ hi)).1) (n := (V[i]'(hl ▸ hi)).2) (by rw [List.getElem?_eq_getElem hi, e]) (by rw [List.getElem?_eq_getElem (hl ▸ hi)])
  have e1 := (N _ (hsub _ q)).1
  rw [show (p.1, listOf (V[i]'(hl ▸ hi)).1.toArray (V[i]'(hl ▸ hi)).2).1 = p.1 from rfl, (N _ hp).1] at e1
  exact hc (by rw [Option.some.inj e1])
inductive MatV (h : Heap) (a : Addr) (n : Nat) (M : List (List Int)) : Prop
  | mk (rs : List Addr) (V : Vs) (nl : Nat) : h.get? a = some (listOf (rs.map Value.ref).toArray nl) → rs.length = n → RowsI V M → (∀ p ∈ rowsE rs V, h.get? p.1 = some p.2) → MatV h a n M
inductive DetJ (n : Nat) (M : List (List Int)) (D : Addr) (tk9 : Tok) (L' : Addr) (oc : Obj) (rs2 : List Addr) (i : Nat) (m : Str → Option Value) (nx : List (Addr × Obj)) : Prop
  | mk (V' : Vs) (M' : List (List Int)) (e : Int) (te : Tok) : (detTo n M i = some (M', e)) → (RowsI V' M') → (m (Str.ofString "found") = some (.ref D)) → (m (Str.ofString "sign") = some (.int 1 tk9)) → (m (Str.ofString "ahead") = some (.int e te)) → (nx = (L' + 1, oc) :: (D, listOf (rs2.map Value.ref).toArray (rs2.map Value.ref).length) :: rowsE rs2 V') → DetJ n M D tk9 L' oc rs2 i m nx
set_option maxHeartbeats 2000000 in
theorem det_tells (w : World) (a : Addr) (n : Nat) (M C : List (List Int)) (d : Int) (hn : n ≤ 64) (hsq : Sq n M) (hd : detTo n M n = some (C, d)) :
    Tells w 179 80 [.ref a] (fun h => MatV h a n M) (fun h h' v => ∃ t, v = .int d t) := by
  unfold Tells
  intro prog p loose mean mg mb dp un gd cn cs a' ccd cl outer A₀ base h₀ L m st Q E B F X T hk hd' hu hpre hret
  obtain ⟨rs, V, nl, ea, hrl, hV, hrows⟩ := hpre
  have hla : st.heap.IsList a (rs.map Value.ref).toArray := ⟨_, ea, rfl, _, rfl⟩
  have hrow : ∀ i v, (rs.map Value.ref).toArray[i]? = some v → ∃ r vs, v = .ref r ∧ IntsAre vs (M.getD i []) ∧ vs.length = n ∧ ∃ k, st.heap.get? r = some (listOf vs.toArray k) := by
    intro i v e
    rw [List.getElem?_toArray, List.getElem?_map] at e
    cases q : rs[i]? with
    | none => rw [q] at e; cases e
    | some r =>
      rw [q] at e
      cases e
      have hi : i < M.length := by
        rw [hsq.1, ← hrl]; exact (List.getElem?_eq_some_iff.mp q).1
      obtain ⟨vs, k, h1, h2⟩ := hV.get hi
      exact ⟨r, vs, rfl, h2, by rw [h2.length]; exact hsq.2 i (by rw [← hsq.1]; exact hi), k, hrows _ (rowsE_mem q h1)⟩
  clear hV hrows
  refine wpAny_call ?_
  refine' code_pureC (binds := [(Str.ofString "a", Value.ref a)]) ?k1 ?k2 ?k3 ?k5 ?kA ?kF ?kK ?k6 ?k7 ?k8 ?k9 ?kB ?kD ?_ ?c2 ?c3 ?c4; (case kA => exact rfl); (case kF => exact rfl); (case kK => assumption); (case k1 => k_asm); (case k2 => k_asm); (case k3 => k_asm); (case k5 => k_asm); (case k6 => k_is); (case k7 => k_is); (case k8 => first | exact dp_in hd' | ktr_room); (case k9 => exact BindsTo.of_eq rfl); (case kB => exact rfl); (case kD => decide +kernel); (case c2 => exact rfl); (case c3 => exact rfl); (case c4 => exact rfl)
  k_whole
  clear B F X T
  intro QQ hQQ hQN L' h' tk' cells' F' N' Y' B' X' T'
  replace hret := fun r h' tk' x y => hQQ _ _ (hret r h' tk' x y)
  k_cells Y'
  rename Obj => oc
  (try simp only [List.cons_append, List.nil_append] at N')
  (try dsimp only)
  (try k_fold)
  k_with_none
  k_with "call builtin:len" => k_dflt (
    (refine' len_at (n := n) ?k1 ?k2 ?k3 ?_)
    (case k1 => first | exact Fr.lst (by assumption) (by assumption) | exact News.isList (by assumption) (by assumption))
    (case k2 => first | exact hlv | (rw [List.length_map]; first | exact hrl | exact hrl2))
    (case k3 => omega)
    k_whole)
  k_with "CompSrcT" => (refine halt ?_)
  k_with "CompSrc" => (refine halt ?_)
  k_with "eval ListComp" => (refine halt ?_)
  k_steps
  unfold Halt
  refine LCt.ListComp_T (F₀ := by k_asm) (by with_unfolding_all rfl) (by decide) (by rfl) (by decide) (by rfl) ?_
  k_steps
  unfold Halt
  rename Fr _ _ _ _ => F1
  rename News _ _ _ _ => N1
  refine LCt.CompSrcT.base (by rfl) F1 N1 hla (by rw [sizeLine_eq, List.size_toArray, List.length_map]; omega) ?_
  intro g9
  refine compT_none (.inl hla) ?_ ?_ _ 0
  · rintro i v I oI C oC D m₂ h tk E' hv hC hm₂ F2 N2
    obtain ⟨r, vs, rfl, hiv, hlv, k, hr⟩ := hrow i v hv
    have hlr : st.heap.IsList r vs.toArray := ⟨_, hr, rfl, _, rfl⟩
    clear F1 N1 hv hr
    k_steps
    simp
  · intro D h9 tk9 F9 N9 o9
    k_steps
    unfold Halt
    rename Fr _ _ _ _ => F1
    rename News _ _ _ _ => N1
    (try clear F9)
    (try clear N9)
    (try clear o9)
    replace N1 : News st.heap L' _ [(L' + 1, oc)] := fun q hq => N1 q (.tail _ (.tail _ hq))
    refine LCg.ListComp_U F1 (by with_unfolding_all rfl) (by decide) (by rfl) (by decide) (by rfl) ?_
    k_steps
    unfold Halt
    rename Fr _ _ _ _ => F3
    rename News _ _ _ _ => N3
    refine LCg.CompSrc.base (by rfl) F3 N3 hla (by rw [sizeLine_eq, List.size_toArray, List.length_map]; omega) ?_
    intro g9
    rw [List.size_toArray, List.length_map, hrl]
    refine comp_copies (M := M) hsq.1 (fun _ _ _ => .inl hla) (.inl hla) ?_ ?_
    · rintro i v I oI C oC D m₂ ys h tk E' hi hv hC hm₂ F2 N2
      obtain ⟨r, vs, rfl, hiv, hlv, k, hr⟩ := hrow i v hv
      have hr2 := F2.keep _ _ hr
      clear hv hr F3 N3
      k_with "call type:list" => (refine halt ?_)
      k_steps
      unfold Halt
      refine call_list_seq r (.inl rfl) hr2 rfl rfl (fun h6 c6 hk6 hD6 => ?_) (by rw [sizeLine_eq, List.size_toArray, hlv]; omega)
      exact ⟨_, _, _, _, _, rfl, rfl, hk6, Heap.get?_none_of_le (Nat.le_refl _), hD6, hiv⟩
    · intro rs2 V2 hl2 hV2 hnd hoff D h9 tk9 F9 N9 o9
      clear F3 N3
      have hD2 : D ∉ rs2 := fun hm => by
        obtain ⟨i', hi', e⟩ := List.mem_iff_getElem.mp hm
        obtain ⟨v, k, h1, h2⟩ := hV2.get (i := i') (by rw [hsq.1, ← hl2]; exact hi')
        exact LCg.Off3.mem (I := D) (C := D) (D := D) (LCg.Off3.of fun p hp => ⟨off1_mem o9 p hp, off1_mem o9 p hp, off1_mem o9 p hp⟩) _ (List.mem_append.mpr (.inl (rowsE_mem (List.getElem?_eq_getElem hi') h1))) |>.1 e
      have hc2 : L' + 1 ∉ rs2 := hoff _ (.head _)
      have hDc : @Ne Nat (L' + 1) D := off1_mem o9 _ (List.mem_append.mpr (.inr (.head _)))
      have hrl2 := hl2
      have N10 : News st.heap L' h9 ((L' + 1, oc) :: (D, listOf (rs2.map Value.ref).toArray (rs2.map Value.ref).length) :: rowsE rs2 V2) := fun q hq => N9 q (by
        rcases List.mem_cons.mp hq with rfl | hq
        · exact .tail _ (List.mem_append.mpr (.inr (.head _)))
        rcases List.mem_cons.mp hq with rfl | hq
        · exact .head _
        · exact .tail _ (List.mem_append.mpr (.inl hq)))
      (try clear N9)
      (try clear o9)
      (try clear hoff)
      k_with "pyIter ref" => (refine halt ?_)
      k_with "call ref" => (refine halt ?_)
      k_with "subscriptTail" => k_dflt (
        (refine' item_at ?k1 ?k2 ?k4 ?_ ?k6)
        (case k1 => exact News.isList (by assumption) (by assumption))
        (case k2 => assumption)
        (case k4 => assumption)
        (case k6 => with_unfolding_all rfl)
        k_whole)
      k_with "subscriptTail Name Name ref int" => k_dflt (
        (refine' item_at ?k1 ?k2 ?k4 ?_ ?k6)
        (case k1 => exact News.isList (by assumption) (by assumption))
        (case k2 => assumption)
        (case k4 => assumption)
        (case k6 => with_unfolding_all rfl)
        k_whole)
      k_with "binaryOp Mult int int" => (
        refine' mul_sm ?h1 ?_
        (case h1 => decide))
      k_steps
      unfold Halt
      rename Fr _ _ _ _ => F1
      rename News _ _ _ _ => N1
      rename IsRange _ _ _ _ _ _ _ _ => rg
      (try clear N10)
      obtain ⟨rg1, rg2⟩ := rng0 hn
      refine range_inv (n := n) (DetJ n M D tk9 L' oc rs2)
        (by rfl) rg rg1 rg2 F1 (fun q hq => N1 q (.tail _ hq)) ⟨V2, M, 1, _, rfl, hV2, rfl, rfl, rfl, rfl⟩ ?_ ?_ ?_
      · rintro i m nx ⟨V', M', e, te, _, _, _, _, _, rfl⟩ q hq
        rcases List.mem_cons.mp hq with rfl | hq
        · exact .inr (.head _)
        rcases List.mem_cons.mp hq with rfl | hq
        · exact .inl list_ne_rng'
        · exact .inl (by rw [rowsE_cls hq]; exact list_ne_rng')
      · clear F1 N1 rg rg1 rg2 hV2
        rintro PP i kk t m₁ nx h tk I it hPP hPR hPB hi hkk ⟨V', M', e, te, hM', hV', hfo, hsg, hah, rfl⟩ F2 N2 hitc
        replace F2 : Fr st.heap L' h _ := fr_turn F2 [(Str.ofString "found", .ref D), (Str.ofString "sign", .int 1 tk9), (Str.ofString "ahead", .int e te)] (allc hfo (allc hsg (all1 hah)))
        replace N2 : News st.heap L' h _ := N2
        dsimp only [kstB] at F2
        clear hfo hsg hah
        obtain rfl : kk = (i : Int) := by omega
        obtain ⟨⟨C1, e1⟩, hC1⟩ := detTo_le hd (show i + 1 ≤ n from hi)
        have hC2 := hC1
        rw [detTo, hM', Option.bind_some] at hC1
        split at hC1
        case isFalse => cases hC1
        rename_i hcond
        obtain ⟨hx, he, hes⟩ := hcond
        rw [sm_iff] at hes
        obtain ⟨C3, hC3, hC1⟩ := Option.bind_eq_some_iff.mp hC1
        cases hC1
        have sqM := detTo_sq hsq (Nat.le_of_lt hi) hM'
        have sqC : Sq n C1 := detTo_sq hsq hi hC2
        dsimp only at sqM hx he hes hC3 hV'
        obtain ⟨vs, nv, hvs, iv⟩ := hV'.get (i := i) (by rw [sqM.1]; exact hi)
        have hrs : rs2[i]? = some rs2[i] := List.getElem?_eq_getElem (by omega)
        generalize rs2[i] = r at hrs
        have hrf : (rs2.map Value.ref)[i]? = some (.ref r) := by rw [List.getElem?_map, hrs]; rfl
        obtain ⟨tx, hv⟩ := ints_getD iv (i := i) (by rw [sqM.2 i hi]; exact hi)
        k_steps
        unfold Halt
        rename Fr _ _ _ _ => F3
        rename News _ _ _ _ => N3
        refine' use (pivot_tells w D r _ vs n i _ _ tx (by rw [List.length_map]; exact hl2) hi hn hx hrf hv) ?k1 F3 N3 ?k4 ?k5 ?k6 ?k7 ?k8 ?k9 ?_
        (case k1 => k_asm)
        (case k4 => k_asm)
        (case k5 => k_asm)
        (case k6 => exact rfl)
        (case k7 => first | exact dp_lt hd' (by decide) | ktr_room)
        (case k8 => first | exact un_lt hu (by decide) | ktr_units)
        (case k9 => exact ⟨_, _, (N3 _ (.tail _ (.tail _ (.head _)))).1, (N3 _ (.tail _ (.tail _ (.tail _ (rowsE_mem hrs hvs))))).1⟩)
        k_whole
        rintro _ h8 tk8 x8 F8 N8 ⟨t8, rfl⟩
        (try dsimp only)
        clear F3 N3
        k_with "ite" => first
          | (refine' ite_pos ?c ?_; (case c => (simp; done)))
          | (refine' ite_neg ?c ?_; (case c => (simp; done)))
        k_steps
        unfold Halt
        rename Fr _ _ _ _ => F3
        rename News _ _ _ _ => N3
        have hlV : rs2.length = V'.length := by rw [hl2, hV'.length, sqM.1]
        have hIr : I ∉ rs2 := not_row (p := (I, it)) N3 (.head _) (cls_ne hitc rfl) (fun q hq => .tail _ (.tail _ (.tail _ hq))) hlV
        have N4 : News st.heap L' _ ((D, listOf (rs2.map Value.ref).toArray (rs2.map Value.ref).length) :: (rowsE rs2 V' ++ [(I, it), (L' + 1, oc)])) := fun q hq => N3 q (by
          rcases List.mem_cons.mp hq with rfl | hq
          · exact .tail _ (.tail _ (.head _))
          rcases List.mem_append.mp hq with hq | hq
          · exact .tail _ (.tail _ (.tail _ hq))
          rcases List.mem_cons.mp hq with rfl | hq
          · exact .head _
          · rw [List.mem_singleton.mp hq]; exact .tail _ (.head _))
        refine' useM (bstep_tells w D rs2 V' [(I, it), (L' + 1, oc)] _ n i e _ te M' C1 hV' hl2 hi hn sqM he hes hnd hD2 (allc hIr (all1 hc2)) hC3) ?k1 F3 N4 ?k4 ?k5 ?k6 ?k7 ?k8 ?_
        (case k1 => k_asm)
        (case k4 => k_asm)
        (case k5 => k_asm)
        (case k6 => exact rfl)
        (case k7 => first | exact dp_lt hd' (by decide) | ktr_room)
        (case k8 => first | exact un_lt hu (by decide) | ktr_units)
        k_whole
        rintro led9 h9 tk9 F9 N9 ⟨V4, hV4, rfl⟩
        (try dsimp only)
        clear F3 N3 N4
        obtain ⟨vs, nv, hvs, iv⟩ := hV4.get (i := i) (by rw [sqC.1]; exact hi)
        obtain ⟨tx, hv⟩ := ints_getD iv (i := i) (by rw [sqC.2 i hi]; exact hi)
        have N10 : News st.heap L' h9 ((I, it) :: (L' + 1, oc) :: (D, listOf (rs2.map Value.ref).toArray (rs2.map Value.ref).length) :: rowsE rs2 V4) := fun q hq => N9 q (by
          rcases List.mem_cons.mp hq with rfl | hq
          · exact .tail _ (List.mem_append.mpr (.inr (.head _)))
          rcases List.mem_cons.mp hq with rfl | hq
          · exact .tail _ (List.mem_append.mpr (.inr (.tail _ (.head _))))
          rcases List.mem_cons.mp hq with rfl | hq
          · exact .head _
          · exact .tail _ (List.mem_append.mpr (.inl hq)))
        have hm1 := List.Mem.tail (I, it) (List.Mem.tail (L' + 1, oc) (List.Mem.head (a := (D, listOf (rs2.map Value.ref).toArray (rs2.map Value.ref).length)) (rowsE rs2 V4)))
        have hm2 := List.Mem.tail (I, it) (List.Mem.tail (L' + 1, oc) (List.Mem.tail (D, listOf (rs2.map Value.ref).toArray (rs2.map Value.ref).length) (rowsE_mem hrs hvs)))
        have bk : 0 ≤ (i : Int) ∧ (i : Int) < 64 := by omega
        have hrf' : (rs2.map Value.ref)[((i : Int)).toNat]? = some (.ref r) := hrf
        have hv' : vs[((i : Int)).toNat]? = some (.int ((C1.getD i []).getD i 0) tx) := hv
        clear N9
        k_steps
        all_goals (
          rename Fr _ _ _ _ => F9
          rename News _ _ _ _ => N9
          refine hPP _ ?_
          exact ⟨_, _, _, _, rfl, F9, N9, V4, C1, _, _, hC2, hV4, rfl, rfl, rfl, rfl⟩)
      · rintro m₁ nx h tk ⟨V', M', e, te, hM', hV', hfo, hsg, hah, rfl⟩ F2 N2
        replace F2 : Fr st.heap L' h _ := fr_names F2 [(Str.ofString "sign", .int 1 tk9), (Str.ofString "ahead", .int e te)] (allc hsg (all1 hah))
        replace N2 : News st.heap L' h _ := N2
        dsimp only [kstB] at F2
        cases hM'.symm.trans hd
        k_steps
        all_goals (
          rename Fr _ _ _ _ => F9
          exact hret _ _ _ F9.keep ⟨_, by rw [Int.one_mul]⟩)
      all_goals k_steps
noncomputable def TellsV (w : World) (f : Addr) (N : Nat) (vs : List Value) (led : List (Addr × Obj)) (Post : List (Addr × Obj) → Value → Prop) : Prop :=
  ∀ (prog p : Program) (loose : List Str) (mean : ExcName → Option Value) (mg mb : Str → Option Value) (dp un : Nat) (gd : Option (List Code)) (cn : Str) (cs : Scope) (a : Addr) (ccd : Value) (cl : List (Str × Addr)) (outer : List Env) (A₀ : Around) (base h₀ : Heap) (L : Addr) (m : Str → Option Value) (s : Shared) (Q E : Value → Shared → Prop),
    Below A₀ base outer h₀ → Fr h₀ L s.heap m → (Mine.hd.heap_39 w.params).In h₀ → News h₀ L s.heap led → Top p loose mean mg mb h₀ → cs.kind = .function → dp + N < recursionLimit → un + 8 * N < cLine →
    (∀ led' v h' tk', Fr h₀ L h' m → News h₀ L h' led' → Post led' v → Q v { s with heap := h', toks := tk' }) →
    wpAny (model prog w) (ktrTop dp un gd cn cs L a ccd cl outer) (call (.ref f) vs) Q E s
theorem useV {w : World} {f : Addr} {N : Nat} {vs : List Value} {led : List (Addr × Obj)} {Post : List (Addr × Obj) → Value → Prop} (C : TellsV w f N vs led Post)
    {prog p : Program} {loose : List Str} {mean : ExcName → Option Value} {mg mb : Str → Option Value} {dp un : Nat} {gd : Option (List Code)} {cn : Str} {cs : Scope} {a : Addr} {ccd : Value} {cl : List (Str × Addr)} {outer : List Env} {A₀ : Around} {base h₀ : Heap} {L : Addr} {m : Str → Option Value} {s : Shared} {Q E : Value → Shared → Prop}
    (B : Below A₀ base outer h₀) (F : Fr h₀ L s.heap m) (Nw : News h₀ L s.heap led) (X : (Mine.hd.heap_39 w.params).In h₀) (T : Top p loose mean mg mb h₀) (hk : cs.kind = .function) (hd : dp + N < recursionLimit) (hu : un + 8 * N < cLine)
    (ret : ∀ led' v h' tk', Fr h₀ L h' m → News h₀ L h' led' → Post led' v → Q v { s with heap := h', toks := tk' }) :
    wpAny (model prog w) (ktrTop dp un gd cn cs L a ccd cl outer) (call (.ref f) vs) Q E s :=
  C prog p loose mean mg mb dp un gd cn cs a ccd cl outer A₀ base h₀ L m s Q E B F X Nw T hk hd hu ret
theorem fmod_in {x m : Int} (h : 0 < m) : 0 ≤ x.fmod m ∧ x.fmod m < m := by
  rw [Int.fmod_eq_emod_of_nonneg _ (Int.le_of_lt h)]
  exact ⟨Int.emod_nonneg _ (Int.ne_of_gt h), Int.emod_lt_of_pos _ h⟩
theorem ne_ints {prog : Program} {w : World} {A : Around} {E : Value → Shared → Prop} {s : Shared} {Q : Value → Shared → Prop} {l1 l2 : Addr} {ws vs : List Value} {xs ys : List Int} {n1 n2 : Nat} (h1 : s.heap.get? l1 = some (listOf ws.toArray n1)) (i1 : IntsAre ws xs) (h2 : s.heap.get? l2 = some (listOf vs.toArray n2)) (i2 : IntsAre vs ys) (hu : A.units + 64 < cLine) {b : Bool} (hb : (!(PyData.eqvAll (xs.map .int) (ys.map .int))) = b)
    (h : Q (.bool b) s) : wpAny (model prog w) A (compareOp .NotEq (.ref l1) (.ref l2)) Q E s := by
  refine ne_dataH (reads_list_at h1 rfl rfl (PyProof.Rows.ints_readAll _ (by simpa using i1))) (reads_list_at h2 rfl rfl (PyProof.Rows.ints_readAll _ (by simpa using i2))) (ke_shaped_ints _) (ke_shaped_ints _) hu ?_
  subst hb
  simpa only [PyData.eqv] using h
theorem len_sz {n : Nat} (h : n ≤ 8) : n ≤ sizeLine := by rw [sizeLine_eq]; omega
inductive TakePost (bx D : Addr) (nb : Nat) (c many : Int) (tl : List (Addr × Obj)) (l : List (Addr × Obj)) (v : Value) : Prop
  | mk (i : Int) (t tc' : Tok) (nd' : Nat) (ws' : List Value) (xs' : List Int) : IntsAre ws' xs' → xs'.length ≤ 8 → v = .int i t → 0 ≤ i → i < many → l = (bx, listOf [.ref D, .int (c + 1) tc'].toArray nb) :: (D, listOf ws'.toArray nd') :: tl → TakePost bx D nb c many tl l v
set_option maxHeartbeats 2000000 in
theorem take_tells (w : World) (bx D : Addr) (tl : List (Addr × Obj)) (nb nd : Nat) (c many : Int) (tc tm : Tok) (ws : List Value) (xs : List Int) (hI : IntsAre ws xs) (hlen : xs.length ≤ 8) (hm : 0 < many) (hm2 : many ≠ 0) (hbD : @Ne Nat bx D) (ht : ∀ p ∈ tl, p.1 ≠ bx ∧ p.1 ≠ D) :
    TellsV w 186 60 [.ref bx, .int many tm] ((bx, listOf [.ref D, .int c tc].toArray nb) :: (D, listOf ws.toArray nd) :: tl)
      (TakePost bx D nb c many tl) := by
  unfold TellsV
  intro prog p loose mean mg mb dp un gd cn cs a' ccd cl outer A₀ base h₀ L m s Q E B F X N T hk hd hu hret
  refine wpAny_call ?_
  refine' code_mut (binds := [(Str.ofString "box", Value.ref bx), (Str.ofString "many", Value.int many tm)]) ?k1 ?k2 ?k3 ?k4 ?k5 ?kA ?kF ?kK ?k6 ?k7 ?k8 ?k9 ?kB ?_ ?c2 ?c3 ?c4 ?c5; (case kA => exact rfl); (case kF => exact rfl); (case kK => assumption); (case k1 => k_asm); (case k2 => k_asm); (case k3 => k_asm); (case k4 => k_asm); (case k5 => k_asm); (case k6 => k_is); (case k7 => k_is); (case k8 => first | exact dp_in hd | ktr_room); (case k9 => exact BindsTo.of_eq rfl); (case c5 => decide); (case kB => exact locs rfl); (case c2 => exact rfl); (case c3 => exact rfl); (case c4 => exact rfl)
  k_whole
  clear B X T F N
  intro QQ g L' h' hQR hQN F' N' B' X' T'
  replace hQR := fun v h' tk' m' led a b c => hQR v h' tk' m' led a b (fun x y => hret led v h' tk' x y c)
  clear hret hQN
  (try dsimp only)
  (try k_fold)
  k_with_none
  k_with "subscriptTail" => k_dflt (
    (refine' item_litK ?k1 ?k2 ?k3 ?k4 ?_ ?k6)
    (case k1 => first | exact News.isList (by assumption) (.head _) | exact News.isList (by assumption) (.tail _ (.head _)))
    (case k2 => decide)
    (case k3 => decide)
    (case k4 => exact rfl)
    (case k6 => with_unfolding_all rfl)
    k_whole)
  k_with "subscriptTail Name Constant ref int" => k_dflt (
    (refine' item_litK ?k1 ?k2 ?k3 ?k4 ?_ ?k6)
    (case k1 => first | exact News.isList (by assumption) (.head _) | exact News.isList (by assumption) (.tail _ (.head _)))
    (case k2 => decide)
    (case k3 => decide)
    (case k4 => exact rfl)
    (case k6 => with_unfolding_all rfl)
    k_whole)
  k_with "binaryOp Mult int int" => (
    refine' mul_sm ?h1 ?_
    (case h1 => decide))
  k_with "binaryOp FloorDiv int int" => (
    refine' floordiv_int ?h1 ?_ (Or.inl (small_div ?h2))
    (case h1 => decide)
    (case h2 => decide))
  k_with "compareOp NotEq ref ref" => (refine halt ?_)
  k_with "setItem ref int" => (refine halt ?_)
  k_with "setItem" => (refine halt ?_)
  k_with "call builtin:list.pop" => (refine halt ?_)
  k_with "ite" => first
    | (refine' ite_pos ?c ?_; (case c => (simp [Bool.not_eq_true]; done)))
    | (refine' ite_neg ?c ?_; (case c => (simp [Bool.not_eq_true]; done)))
  k_with "binaryOp Mod int int" => k_dflt (refine mod_int_or (by rfl) (fun e => absurd e hm2) fun _ => ?_)
  k_steps
  unfold Halt
  rename Fr _ _ _ _ => F5
  rename News _ _ _ _ => N5
  refine set_head F5 N5 (allc (Ne.symm hbD) fun p hp => (ht p hp).1) (by decide) (show (1 : Nat) < 2 by decide) (by decide) ?_
  intro h6 F6 N6
  (try dsimp only)
  clear F5 N5
  replace N6 : News g L' h6 ((bx, listOf [.ref D, .int (c + 1) _].toArray nb) :: (D, listOf ws.toArray nd) :: tl) := N6
  k_steps
  unfold Halt
  rename Fr _ _ _ _ => F5
  rename News _ _ _ _ => N5
  cases hI with
  | nil =>
    refine ne_ints (b := false) (N5 _ (.tail _ (.tail _ (.head _)))).1 .nil (N5 _ (.head _)).1 .nil (by ke_room) rfl ?_
    replace N5 := fun q hq => N5 q (.tail _ hq)
    k_steps
    all_goals (
      rename Fr _ _ _ _ => F9
      rename News _ _ _ _ => N9
      exact hQR _ _ _ _ _ F9 N9 ⟨_, _, _, _, _, _, .nil, Nat.zero_le _, rfl, (fmod_in hm).1, (fmod_in hm).2, rfl⟩)
  | cons x tx hI =>
    rw [List.length_cons] at hlen
    refine ne_ints (b := true) (N5 _ (.tail _ (.tail _ (.head _)))).1 (.cons _ _ hI) (N5 _ (.head _)).1 .nil (by ke_room) rfl ?_
    replace N5 := fun q hq => N5 q (.tail _ hq)
    k_steps
    unfold Halt
    rename Fr _ _ _ _ => F7
    rename News _ _ _ _ => N7
    refine kl_popAt (i := 0) (k := 0) (p := []) F7 N7 rfl (by simp [seqIndex?]) rfl (.tail hbD (.head fun p hp => (ht p hp).2)) (by rw [List.length_cons, hI.length]; exact len_sz hlen) ?_
    intro h8 F8 N8
    (try dsimp only)
    clear F7 N7
    k_steps
    all_goals (
      rename Fr _ _ _ _ => F9
      rename News _ _ _ _ => N9
      exact hQR _ _ _ _ _ F9 N9 ⟨_, _, _, _, _, _, hI, Nat.le_of_succ_le hlen, rfl, (fmod_in hm).1, (fmod_in hm).2, rfl⟩)
theorem ints_snoc {vs : List Value} {xs : List Int} {x : Int} {t : Tok} : IntsAre vs xs → IntsAre (vs ++ [.int x t]) (xs ++ [x])
  | .nil => .cons _ _ .nil
  | .cons n u h => .cons n u (ints_snoc h)
inductive RowPost (s : Shared) (h₀ : Heap) (L : Addr) (m : Str → Option Value) (X : List (Addr × Obj)) (xs : List Int) (y : Value) (s₂ : Shared) : Prop
  | mk (h' : Heap) (tk' : Nat) (r : Addr) (v : List Value) (k : Nat) : s₂ = { s with heap := h', toks := tk' } → y = .ref r → Fr h₀ L h' m → News h₀ L h' ((r, listOf v.toArray k) :: X) → LCg.Off1 r X → IntsAre v xs → RowPost s h₀ L m X xs y s₂
section
variable {prog : Program} {w : World} {A : Around} {h₀ : Heap} {L : Addr} {m : Str → Option Value} {env : Env} {elt : Expr} {x : Str} {scope : Scope} {cl : List (Str × Addr)} {s : Shared} {S : List (Addr × Obj) → Prop} {P : Nat → Value → Prop} {Fin : List Value → List (Addr × Obj) → Prop} {news : List (Addr × Obj)}
theorem comp_ints {n : Nat} {zs : List Int} (hz : zs.length = n) (hS0 : S news)
    (turn : ∀ i v I oI C oC D m₂ ys h tk (E' : Value → Shared → Prop), i < n → P i v → LCg.NsObj oC m₂ → m₂ x = some v → Fr h₀ L h m → News h₀ L h ((I, oI) :: (C, oC) :: (D, LCg.lst ys) :: news) →
      wpAny (model prog w) A (eval elt (compEnvC scope cl C env)) (fun y s₂ => ∃ t h' tk', y = .int (zs.getD i 0) t ∧ s₂ = { s with heap := h', toks := tk' } ∧ Ext h h') E' { s with heap := h, toks := tk })
    (fin : ∀ ys, IntsAre ys zs → Fin ys news) : LCg.CompRest prog w A h₀ L m env elt x scope cl s S P Fin n 0 [] news := by
  have key : ∀ (j i : Nat) (ys : List Value), i + j = n → IntsAre ys (zs.take i) → LCg.CompRest prog w A h₀ L m env elt x scope cl s S P Fin j i ys news := by
    intro j
    induction j with
    | zero =>
      intro i ys hi hy
      obtain rfl : i = zs.length := by omega
      rw [List.take_length] at hy
      exact LCg.CompRest.zero (fin ys hy)
    | succ j ih =>
      intro i ys hi hy
      refine LCg.CompRest.succ ?_
      intro v I oI C oC D m₂ h tk E' hv hC hx F N off ne
      have hlt : i < zs.length := by omega
      have htk : zs.take (i + 1) = zs.take i ++ [zs.getD i 0] := by
        rw [List.take_add_one, List.getElem?_eq_getElem hlt, List.getD_eq_getElem?_getD, List.getElem?_eq_getElem hlt]
        rfl
      refine wpAny_mono (turn i v I oI C oC D m₂ ys h tk E' (by omega) hv hC hx F N) (fun y s₂ hq => ?_) fun _ _ e => e
      obtain ⟨t, h', tk', rfl, rfl, hx'⟩ := hq
      exact ⟨h', tk', news, rfl, ⟨F.ns.keeps hx', fun b o e => hx' b o (F.keep b o e), F.above⟩, (fun p hp => ⟨hx' _ _ (N p hp).1, (N p hp).2⟩), off, hS0, ih (i + 1) _ (by omega) (by rw [htk]; exact ints_snoc hy)⟩
  exact key n 0 [] (by omega) .nil
theorem comp_rowsC {a : Int} {n : Nat} {M : List (List Int)} (hM : M.length = n)
    (turn : ∀ i t C oC K oK m₂ X h tk (E' : Value → Shared → Prop), i < n → LCg.NsObj oC m₂ → oK.data = .cell (some (.int (a + (i : Int)) t)) → Fr h₀ L h m → News h₀ L h ((K, oK) :: (news ++ X)) →
      wpAny (model prog w) A (eval elt (compEnvC scope ((x, K) :: cl) C env)) (RowPost { s with heap := h, toks := tk } h₀ L m ((K, oK) :: (news ++ X)) (M.getD i [])) E' { s with heap := h, toks := tk })
    (fin : ∀ rs V, rs.length = n → RowsI V M → Fin (rs.map Value.ref) (rowsE rs V ++ news)) : CompRestC prog w A h₀ L m env elt x scope cl s a Fin n 0 [] news := by
  have key : ∀ (j i : Nat) (rs : List Addr) (V : Vs), i + j = n → rs.length = i → RowsI V (M.take i) → CompRestC prog w A h₀ L m env elt x scope cl s a Fin j i (rs.map Value.ref) (rowsE rs V ++ news) := by
    intro j
    induction j with
    | zero =>
      intro i rs V hi hl hV
      obtain rfl : i = M.length := by omega
      rw [List.take_length] at hV
      exact compRestC_zero (fin rs V (hl.trans hM) hV)
    | succ j ih =>
      intro i rs V hi hl hV
      refine compRestC_succ ?_
      intro t I oI C oC K oK D m₂ h tk E' hC hK F N off offK ne neK
      have hlt : i < M.length := by omega
      have htk : M.take (i + 1) = M.take i ++ [M.getD i []] := by
        rw [List.take_add_one, List.getElem?_eq_getElem hlt, List.getD_eq_getElem?_getD, List.getElem?_eq_getElem hlt]
        rfl
      have hvl : rs.length = V.length := by rw [hV.length, List.length_take, hl]; omega
      refine wpAny_mono (turn i t C oC K oK m₂ ((I, oI) :: (C, oC) :: (D, LCg.lst (rs.map Value.ref)) :: rowsE rs V) h tk E' (by omega) hC hK F (fun p hp => N p (by
        rcases List.mem_cons.mp hp with rfl | hp
        · exact .tail _ (.tail _ (.head _))
        rcases List.mem_append.mp hp with hp | hp
        · exact .tail _ (.tail _ (.tail _ (.tail _ (List.mem_append.mpr (.inr hp)))))
        rcases List.mem_cons.mp hp with rfl | hp
        · exact .head _
        rcases List.mem_cons.mp hp with rfl | hp
        · exact .tail _ (.head _)
        rcases List.mem_cons.mp hp with rfl | hp
        · exact .tail _ (.tail _ (.tail _ (.head _)))
        · exact .tail _ (.tail _ (.tail _ (.tail _ (List.mem_append.mpr (.inl hp)))))))) (fun y s₂ hq => ?_) fun _ _ e => e
      obtain ⟨h', tk', r, v, k, rfl, rfl, F', N', o1, hiv⟩ := hq
      have off1 := off1_mem o1
      have off3 := off.mem
      have offk := off1_mem offK
      have mI : (I, oI) ∈ (K, oK) :: (news ++ (I, oI) :: (C, oC) :: (D, LCg.lst (rs.map Value.ref)) :: rowsE rs V) := .tail _ (List.mem_append.mpr (.inr (.head _)))
      have mC : (C, oC) ∈ (K, oK) :: (news ++ (I, oI) :: (C, oC) :: (D, LCg.lst (rs.map Value.ref)) :: rowsE rs V) := .tail _ (List.mem_append.mpr (.inr (.tail _ (.head _))))
      have mD : (D, LCg.lst (rs.map Value.ref)) ∈ (K, oK) :: (news ++ (I, oI) :: (C, oC) :: (D, LCg.lst (rs.map Value.ref)) :: rowsE rs V) := .tail _ (List.mem_append.mpr (.inr (.tail _ (.tail _ (.head _)))))
      have sub : ∀ p ∈ rowsE (rs ++ [r]) (V ++ [(v, k)]) ++ news, p = (r, listOf v.toArray k) ∨ p ∈ rowsE rs V ++ news := fun p hp => by
        rcases List.mem_append.mp hp with hp | hp
        · rcases rowsE_snoc hvl hp with q | q
          · exact .inl q
          · exact .inr (List.mem_append.mpr (.inl q))
        · exact .inr (List.mem_append.mpr (.inr hp))
      refine ⟨h', tk', rowsE (rs ++ [r]) (V ++ [(v, k)]) ++ news, rfl, F', ?_, LCg.Off3.of ?_, off1_of ?_, ?_⟩
      · intro p hp
        rcases List.mem_cons.mp hp with rfl | hp
        · exact N' _ (.tail _ mI)
        rcases List.mem_cons.mp hp with rfl | hp
        · exact N' _ (.tail _ mC)
        rcases List.mem_cons.mp hp with rfl | hp
        · exact N' _ (.tail _ (.head _))
        rcases List.mem_cons.mp hp with rfl | hp
        · exact N' _ (.tail _ mD)
        rcases sub p hp with rfl | hp
        · exact N' _ (.head _)
        rcases List.mem_append.mp hp with hp | hp
        · exact N' _ (.tail _ (.tail _ (List.mem_append.mpr (.inr (.tail _ (.tail _ (.tail _ hp)))))))
        · exact N' _ (.tail _ (.tail _ (List.mem_append.mpr (.inl hp))))
      · intro p hp
        rcases sub p hp with rfl | hp
        · exact ⟨Ne.symm (off1 _ mI), Ne.symm (off1 _ mC), Ne.symm (off1 _ mD)⟩
        · exact off3 p hp
      · intro p hp
        rcases sub p hp with rfl | hp
        · exact Ne.symm (off1 _ (.head _))
        · exact offk p hp
      · have q := ih (i + 1) (rs ++ [r]) (V ++ [(v, k)]) (by omega) (by rw [List.length_append, hl]; rfl) (by rw [htk]; exact hV.snoc hiv)
        rw [List.map_append] at q
        exact q
  exact key n 0 [] [] (by omega) rfl .nil
end
noncomputable def nums : List Int := [1, 1, 2, 5, 14, 42]
noncomputable def matOf (f r : Nat) : List (List Int) := (List.range r).map fun i => (List.range r).map fun c => nums.getD (f + i + c) 0
theorem map_range_getD {α : Type} {d : α} {g : Nat → α} {n i : Nat} (h : i < n) : ((List.range n).map g).getD i d = g i := by
  rw [List.getD_eq_getElem?_getD, List.getElem?_map, List.getElem?_range h]; rfl
noncomputable def lcOf : List Stmt → Option Expr
  | .For _ _ (.If (.Compare (.Call _ [e] _ _) _ _ _) _ _ _ :: _) _ _ :: _ => some e
  | _ => none
theorem idx_ok {us : List Value} (hus : IntsAre us nums) {f i c : Nat} (h : f + i + c < 6) : (0 ≤ (f : Int) + (0 + (i : Int)) + (0 + (c : Int)) ∧ (f : Int) + (0 + (i : Int)) + (0 + (c : Int)) < 64) ∧ ∃ t, us[((f : Int) + (0 + (i : Int)) + (0 + (c : Int))).toNat]? = some (.int (nums.getD (f + i + c) 0) t) := by
  have e : ((f : Int) + (0 + (i : Int)) + (0 + (c : Int))).toNat = f + i + c := by omega
  refine ⟨by omega, ?_⟩
  rw [e]
  exact ints_getD hus h
set_option maxHeartbeats 2000000 in
theorem mat_ok (w : World) {prog p : Program} {loose : List Str} {mean : ExcName → Option Value} {mg mb : Str → Option Value} {base h₀ : Heap} {L fa cd : Addr} {m : Str → Option Value} {s : Shared} {Q : Value → Shared → Prop}
    {qual : Str} {params : Arguments} {body : List Stmt} {scope : Scope} {dV kV doc pm cdv ct oc : Value} {an od : Option Addr} {osl : Array (Option Value)} {e : Expr}
    (hf : (Mine.hd.heap_39 w.params).lookup 203 = some ⟨oc, od, .func (fnOf (Str.ofString "law") qual params body scope dV kV doc pm an cdv ct), osl⟩) (he : lcOf (body.drop 10) = some e)
    (B : Below callerA base [] h₀) (X : (Mine.hd.heap_39 w.params).In h₀) (T : Top p loose mean mg mb h₀) {ln nl r f : Nat} {us : List Value} {o2 o3 o4 : Obj} {t2 t4 : Tok} {tl : List (Addr × Obj)} (hr : r ≤ 3) (hfr : f ≤ 1) (hus : IntsAre us nums) (e2 : o2.data = .cell (some (.int (r : Int) t2))) (e3 : o3.data = .cell (some (.ref ln))) (e4 : o4.data = .cell (some (.int (f : Int) t4)))
    (F : Fr h₀ L s.heap m) (N : News h₀ L s.heap ((ln, listOf us.toArray nl) :: (L + 2, o2) :: (L + 3, o3) :: (L + 4, o4) :: tl))
    (hQ : ∀ D h tk rs V k, Fr h₀ L h m → News h₀ L h ((D, listOf (rs.map Value.ref).toArray k) :: (rowsE rs V ++ (ln, listOf us.toArray nl) :: (L + 2, o2) :: (L + 3, o3) :: (L + 4, o4) :: tl)) → LCg.Off1 D (rowsE rs V ++ (ln, listOf us.toArray nl) :: (L + 2, o2) :: (L + 3, o3) :: (L + 4, o4) :: tl) → rs.length = r → RowsI V (matOf f r) → Q (.ref D) { s with heap := h, toks := tk }) :
    wpAny (model prog w) (callerA.deeper (envOfC (Str.ofString "law") scope L fa (.ref cd))) (eval e (envOfC (Str.ofString "law") scope L fa (.ref cd))) Q (fun _ _ => False) s := by
  cases hf.symm.trans (show _ = some _ from by k_is)
  cases he
  k_with_none
  k_with "SrcRC" => (refine halt ?_)
  k_with "CompSrc" => (refine halt ?_)
  k_with "eval ListComp" => (refine halt ?_)
  k_with "subscriptTail" => k_dflt (
    (refine' item_at ?k1 ?k2 ?k4 ?_ ?k6)
    (case k1 => exact News.isList (by assumption) (by k_mem))
    (case k2 => assumption)
    (case k4 => assumption)
    (case k6 => with_unfolding_all rfl)
    k_whole)
  refine comp_rangeC (F₀ := by k_asm) (by with_unfolding_all rfl) (by intro _; rfl) (by intro _; rfl) (by intros; rfl) (by rfl) (by decide) ?_
  k_steps
  unfold Halt
  rename Fr _ _ _ _ => F3
  rename News _ _ _ _ => N3
  rename IsRange _ _ _ _ _ _ _ _ => rg
  obtain ⟨rg1, rg2⟩ := rng0 (n := r) (by omega)
  refine ⟨_, _, _, _, _, _, r, _, rfl, rfl, F3, N3, rg, rg1, rg2, len_sz (by omega), ?_⟩
  rintro _ ⟨g3, rfl⟩
  clear F3 N3 rg
  rename IntsAre us _ => hus
  refine comp_rowsC (M := matOf f r) (by simp [matOf]) ?_ ?_
  · intro i t C oC K oK m₂ XX h tk E' hi hC hK F2 N2
    simp only [List.cons_append] at N2
    rw [matOf, map_range_getD hi]
    refine LCg.ListComp_U F2 (by with_unfolding_all rfl) (by decide) (by rfl) (by decide) (by rfl) ?_
    k_steps
    unfold Halt
    rename Fr _ _ _ _ => F3
    rename News _ _ _ _ => N3
    rename IsRange _ _ _ _ _ _ _ _ => rg
    refine LCg.CompSrc.range (by rfl) F3 N3 rg rg1 rg2 (len_sz (by omega)) ?_
    intro g3
    clear F3 N3 rg
    rename IntsAre us _ => hus
    refine comp_ints (zs := (List.range r).map fun c => nums.getD (f + i + c) 0) (by simp) trivial ?_ ?_
    · rintro c v I3 oI3 C3 oC3 D3 m₃ ys3 h3 tk3 E3 hc ⟨t3, rfl⟩ hC3 hm3 F4 N4
      rw [map_range_getD hc]
      obtain ⟨bk, tx, hx⟩ := idx_ok hus (show f + i + c < 6 by omega)
      k_steps
      all_goals exact ⟨_, _, _, rfl, rfl, fun _ _ e => e⟩
    · intro ys3 hys D3 h3 tk3 F4 N4 o4
      exact ⟨_, _, _, _, _, rfl, rfl, F4, N4, o4, hys⟩
  · intro rs V hl hV D h tk F2 N2 o1
    exact hQ _ _ _ _ _ _ F2 N2 o1 hl hV
theorem matOf_sq (f r : Nat) : Sq r (matOf f r) := ⟨by simp [matOf], fun i hi => by rw [matOf, map_range_getD hi]; simp⟩
theorem det_one {f r : Nat} (hf : f ≤ 1) (hr : r = 2 ∨ r = 3) : ∃ C, detTo r (matOf f r) r = some (C, 1) := by
  have : f = 0 ∨ f = 1 := by omega
  rcases this with rfl | rfl <;> rcases hr with rfl | rfl <;> exact ⟨_, by rfl⟩
theorem news4 {h₀ h : Heap} {L : Addr} {led : List (Addr × Obj)} {a b c d : Addr × Obj} (N : News h₀ L h led) (ha : a ∈ led) (hb : b ∈ led) (hc : c ∈ led) (hd : d ∈ led) : News h₀ L h (a :: b :: c :: d :: led) := by
  intro q hq
  rcases List.mem_cons.mp hq with rfl | hq
  · exact N _ ha
  rcases List.mem_cons.mp hq with rfl | hq
  · exact N _ hb
  rcases List.mem_cons.mp hq with rfl | hq
  · exact N _ hc
  rcases List.mem_cons.mp hq with rfl | hq
  · exact N _ hd
  · exact N _ hq
set_option maxHeartbeats 2000000 in
theorem tail_ok (w : World) {prog p : Program} {loose : List Str} {mean : ExcName → Option Value} {mg mb : Str → Option Value} {base h₀ : Heap} {L fa cd : Addr} {m : Str → Option Value} {s : Shared} {QQ : Flow → Shared → Prop}
    {qual : Str} {params : Arguments} {body : List Stmt} {scope : Scope} {dV kV doc pm cdv ct oc : Value} {an od : Option Addr} {osl : Array (Option Value)}
    (hf : (Mine.hd.heap_39 w.params).lookup 203 = some ⟨oc, od, .func (fnOf (Str.ofString "law") qual params body scope dV kV doc pm an cdv ct), osl⟩)
    (B : Below callerA base [] h₀) (X : (Mine.hd.heap_39 w.params).In h₀) (T : Top p loose mean mg mb h₀) {ln nl r : Nat} {us : List Value} {o2 o3 o4 : Obj} {t2 : Tok} (hr : r = 2 ∨ r = 3) (hus : IntsAre us nums) (e2 : o2.data = .cell (some (.int (r : Int) t2))) (e3 : o3.data = .cell (some (.ref ln))) {v4 : Option Value} (e4 : o4.data = .cell v4)
    (F : Fr h₀ L s.heap m) (N : News h₀ L s.heap [(ln, listOf us.toArray nl), (L + 2, o2), (L + 3, o3), (L + 4, o4)]) (hn4 : @Ne Nat ln (L + 4))
    (hQ : ∀ h tk m', Fr h₀ L h m' → News h₀ L h [] → QQ (.ret (.bool true)) { s with heap := h, toks := tk }) :
    wpAny (model prog w) (callerA.deeper (envOfC (Str.ofString "law") scope L fa (.ref cd))) (execs (body.drop 10) (envOfC (Str.ofString "law") scope L fa (.ref cd))) QQ (fun _ _ => False) s := by
  have hf' := hf
  cases hf.symm.trans (show _ = some _ from by k_is)
  dsimp only [List.drop]
  obtain ⟨C0, hd0⟩ := det_one (f := 0) (r := r) (by decide) hr
  obtain ⟨C1, hd1⟩ := det_one (f := 1) (r := r) (by decide) hr
  have hr3 : r ≤ 3 := by omega
  k_with_none
  k_with "call ref" => (refine halt ?_)
  k_with "eval ListComp" => (refine halt ?_)
  k_steps
  unfold Halt
  rename Fr _ _ _ _ => F3
  rename News _ _ _ _ => N3
  refine mat_ok w hf' rfl B X T (f := 0) hr3 (by decide) hus e2 e3 (by assumption) F3 (news4 N3 (.tail _ (.tail _ (.head _))) (.tail _ (.tail _ (.tail _ (.head _)))) (.tail _ (.tail _ (.tail _ (.tail _ (.head _))))) (.tail _ (.tail _ (.tail _ (.tail _ (.tail _ (.head _))))))) ?_
  intro D h9 tk9 rs V k F9 N9 o9 hl hV
  clear F3 N3 o9
  k_steps
  unfold Halt
  rename Fr _ _ _ _ => F5
  rename News _ _ _ _ => N5
  refine use (det_tells w D r (matOf 0 r) C0 1 (by omega) (matOf_sq _ _) hd0) (by k_asm) F5 N5 (by k_asm) (by k_asm) rfl (Nat.le_of_ble_eq_true rfl) (Nat.le_of_ble_eq_true rfl) ⟨rs, V, k, (N5 _ (.head _)).1, hl, hV, fun q hq => (N5 _ (.tail _ (List.mem_append.mpr (.inl hq)))).1⟩ ?_
  rintro _ h10 tk10 x10 F10 N10 ⟨t10, rfl⟩
  (try dsimp only)
  replace N10 : News h₀ L _ _ := fun q hq => N10 q (.tail _ (List.mem_append.mpr (.inr (.tail _ (.tail _ (.tail _ (.tail _ hq)))))))
  clear F5 N5
  k_steps
  unfold Halt
  rename Fr _ _ _ _ => F3
  rename News _ _ _ _ => N3
  refine mat_ok w hf' rfl B X T (f := 1) hr3 (by decide) hus e2 e3 (by assumption) F3 (news4 N3 (.tail _ (.tail _ (.head _))) (.tail _ (.tail _ (.tail _ (.head _)))) (.tail _ (.tail _ (.tail _ (.tail _ (.head _))))) (.tail _ (.tail _ (.tail _ (.tail _ (.tail _ (.head _))))))) ?_
  intro D h9 tk9 rs V k F9 N9 o9 hl hV
  clear F3 N3 o9
  k_steps
  unfold Halt
  rename Fr _ _ _ _ => F5
  rename News _ _ _ _ => N5
  refine use (det_tells w D r (matOf 1 r) C1 1 (by omega) (matOf_sq _ _) hd1) (by k_asm) F5 N5 (by k_asm) (by k_asm) rfl (Nat.le_of_ble_eq_true rfl) (Nat.le_of_ble_eq_true rfl) ⟨rs, V, k, (N5 _ (.head _)).1, hl, hV, fun q hq => (N5 _ (.tail _ (List.mem_append.mpr (.inl hq)))).1⟩ ?_
  rintro _ h10 tk10 x10 F10 N10 ⟨t10, rfl⟩
  (try dsimp only)
  replace N10 : News h₀ L _ _ := fun q hq => N10 q (.tail _ (List.mem_append.mpr (.inr (.tail _ (.tail _ (.tail _ (.tail _ hq)))))))
  clear F5 N5
  k_steps
  all_goals (
    rename Fr _ _ _ _ => F9
    exact hQ _ _ _ F9 News.nil)
noncomputable def ListM (nx : List (Addr × Obj)) (v : Value) (xs : List R) : Prop := ∃ a us n, v = .ref a ∧ (a, listOf us.toArray n) ∈ nx ∧ RatsM nx us xs
theorem ListM.val {w : World} {h₀ h : Heap} {L : Addr} {m : Str → Option Value} {nx ny : List (Addr × Obj)} {v : Value} {xs : List R} (r : ListM nx v xs) (X : (Mine.hd.heap_39 w.params).In h₀) (F : Fr h₀ L h m) (N : News h₀ L h ny) (hs : ∀ p ∈ nx, p ∈ ny) : ListV h v xs := by
  obtain ⟨a, us, n, e, hm, hr⟩ := r
  exact ⟨a, us, n, e, (N _ (hs _ hm)).1, hr.val X F N hs⟩
theorem useT {w : World} {f : Addr} {N : Nat} {vs : List Value} {Pre : Heap → Prop} {xs : List R} (C : Tells w f N vs Pre (fun h h' v => ListNew h h' v xs))
    {prog p : Program} {loose : List Str} {mean : ExcName → Option Value} {mg mb : Str → Option Value} {dp un : Nat} {gd : Option (List Code)} {cn : Str} {cs : Scope} {a : Addr} {ccd : Value} {cl : List (Str × Addr)} {outer : List Env} {A₀ : Around} {base h₀ : Heap} {L : Addr} {m : Str → Option Value} {news : List (Addr × Obj)} {s : Shared} {Q E : Value → Shared → Prop}
    (B : Below A₀ base outer h₀) (F : Fr h₀ L s.heap m) (Nw : News h₀ L s.heap news) (X : (Mine.hd.heap_39 w.params).In h₀) (T : Top p loose mean mg mb h₀) (hk : cs.kind = .function) (hd : dp + N < recursionLimit) (hu : un + 8 * N < cLine) (hp : Pre s.heap)
    (ret : ∀ v nx h' tk', Fr h₀ L h' m → News h₀ L h' (news ++ nx) → ListM nx v xs → Q v { s with heap := h', toks := tk' }) :
    wpAny (model prog w) (ktrTop dp un gd cn cs L a ccd cl outer) (call (.ref f) vs) Q E s := by
  refine use C B F Nw X T hk hd hu hp ?_
  rintro _ h' tk' x9 F9 N9 ⟨a, us, n, nx, rfl, e, o, hM, hall⟩
  obtain ⟨oL, _, _, hL, _⟩ := F.ns
  have fresh : ∀ b, s.heap.get? b = none → b ≠ L ∧ h₀.get? b = none := fun b hb => ⟨fun q => (by rw [q, hL] at hb; cases hb), none_of F.keep hb⟩
  refine ret _ ((a, listOf us.toArray n) :: nx) h' tk' F9 ?_ ⟨a, us, n, rfl, .head _, hM.mono fun p hp => .tail _ hp⟩
  intro p hp
  rcases List.mem_append.mp hp with hp | hp
  · exact N9 p hp
  rcases List.mem_cons.mp hp with rfl | hp
  · exact ⟨o, fresh _ e⟩
  · exact ⟨(hall p hp).1, fresh _ (hall p hp).2⟩
noncomputable def dat (x : R) : PyData := .tuple [.int x.1, .int x.2]
theorem rats_reads {h : Heap} {vs : List Value} {xs : List R} (r : RatsV h vs xs) : ∃ as, ReadsAll h vs (xs.map dat) as := by
  induction r with
  | nil => exact ⟨_, .nil⟩
  | cons a _ ih =>
    obtain ⟨as, e⟩ := rat_reads a
    obtain ⟨bs, e'⟩ := ih
    exact ⟨_, .cons e e'⟩
theorem dat_lay : ∀ xs : List R, PyData.canLayAll0 (xs.map dat) = true ∧ PyData.depthAll (xs.map dat) ≤ 1
  | [] => ⟨rfl, Nat.zero_le _⟩
  | x :: xs => by
    obtain ⟨h1, h2⟩ := dat_lay xs
    simp only [List.map_cons, PyData.canLayAll0, PyData.depthAll, h1, Bool.and_true]
    exact ⟨rfl, Nat.max_le.mpr ⟨Nat.le_refl _, h2⟩⟩
theorem ne_rats {prog : Program} {w : World} {A : Around} {E : Value → Shared → Prop} {s : Shared} {Q : Value → Shared → Prop} {v1 v2 : Value} {xs : List R} (r1 : ListV s.heap v1 xs) (r2 : ListV s.heap v2 xs) (hu : A.units + 64 < cLine) (h : Q (.bool false) s) : wpAny (model prog w) A (compareOp .NotEq v1 v2) Q E s := by
  obtain ⟨a1, us1, n1, rfl, e1, q1⟩ := r1
  obtain ⟨a2, us2, n2, rfl, e2, q2⟩ := r2
  obtain ⟨as, d1⟩ := rats_reads q1
  obtain ⟨bs, d2⟩ := rats_reads q2
  obtain ⟨l1, l2⟩ := dat_lay xs
  have hs : SeqAt.shaped (.list (xs.map dat)) = true := by
    simp only [SeqAt.shaped, PyData.canLay0, PyData.depth, l1, Bool.true_and]
    exact decide_eq_true (by omega)
  refine ne_dataH (reads_list_at e1 rfl rfl (by simpa using d1)) (reads_list_at e2 rfl rfl (by simpa using d2)) hs hs hu ?_
  rw [SeqAt.eqv_refl _ (SeqAt.canLay_of_shaped hs)]
  exact h
inductive Z56 (z : Nat) : Prop
  | mk : z = 5 ∨ z = 6 → Z56 z
theorem Z56.out {z : Nat} (h : Z56 z) : z = 5 ∨ z = 6 := by cases h; assumption
theorem srev_num {z : Nat} {xs : List Int} (hz : z = 5 ∨ z = 6) (hxs : [0, 1, -1] ++ (List.replicate ((z : Int) - 3).toNat [(0 : Int)]).flatten = xs) :
    (xs.map fun x => ((x, 1) : R)).length ≤ 64 ∧ 1 < (xs.map fun x => ((x, 1) : R)).length ∧ sm4 ((xs.map fun x => ((x, 1) : R)).getD 0 (0, 1)) (0, 1) = true ∧ cmpF ((xs.map fun x => ((x, 1) : R)).getD 0 (0, 1)) (0, 1) = 0 ∧
      srevP (xs.map fun x => ((x, 1) : R)) = some (([(0 : Int)] ++ List.take ((nums.take z).length - 1) (nums.take z)).map fun x => ((x, 1) : R)) := by
  subst hxs
  rcases hz with rfl | rfl <;> decide +kernel
theorem len_some {z : Nat} (hz : z = 5 ∨ z = 6) (x : Int) : ([x] ++ List.take ((nums.take z).length - 1) (nums.take z)).length ≤ 64 := by
  rcases hz with rfl | rfl <;> exact Nat.le_of_ble_eq_true rfl
theorem news_drop3 {h₀ h : Heap} {L : Addr} {a b c d : Addr × Obj} {l : List (Addr × Obj)} (N : News h₀ L h (a :: b :: c :: d :: l)) : News h₀ L h (a :: d :: l) := allc (N _ (.head _)) fun q hq => N q (.tail _ (.tail _ (.tail _ hq)))
set_option maxHeartbeats 2000000 in
theorem st5_ok (w : World) {prog p : Program} {loose : List Str} {mean : ExcName → Option Value} {mg mb : Str → Option Value} {base h₀ : Heap} {L fa cd : Addr} {m : Str → Option Value} {s : Shared} {QQ : Flow → Shared → Prop}
    {qual : Str} {params : Arguments} {body : List Stmt} {scope : Scope} {dV kV doc pm cdv ct oc : Value} {an od : Option Addr} {osl : Array (Option Value)} {st : Stmt}
    (hf : (Mine.hd.heap_39 w.params).lookup 203 = some ⟨oc, od, .func (fnOf (Str.ofString "law") qual params body scope dV kV doc pm an cdv ct), osl⟩) (he : body[5]? = some st)
    (B : Below callerA base [] h₀) (X : (Mine.hd.heap_39 w.params).In h₀) (T : Top p loose mean mg mb h₀) {ls ns z : Nat} {vs : List Value} {tz : Tok} {tl : List (Addr × Obj)} (hz : z = 5 ∨ z = 6) (hvs : IntsAre vs (nums.take z))
    (F : Fr h₀ L s.heap m) (N : News h₀ L s.heap ((ls, listOf vs.toArray ns) :: tl)) (hm1 : m (Str.ofString "size") = some (.int (z : Int) tz)) (hm2 : m (Str.ofString "some") = some (.ref ls))
    (hQ : ∀ h tk, Fr h₀ L h m → News h₀ L h ((ls, listOf vs.toArray ns) :: tl) → QQ .next { s with heap := h, toks := tk }) :
    wpAny (model prog w) (callerA.deeper (envOfC (Str.ofString "law") scope L fa (.ref cd))) (exec st (envOfC (Str.ofString "law") scope L fa (.ref cd))) QQ (fun _ _ => False) s := by
  cases hf.symm.trans (show _ = some _ from by k_is)
  cases he
  have hz6 : z ≤ 6 := by omega
  have hZ : Z56 z := ⟨hz⟩
  clear hz
  have F1 := fr_names F [(Str.ofString "size", .int (z : Int) tz), (Str.ofString "some", .ref ls)] (allc hm1 (all1 hm2))
  have hmm : kstB m [(Str.ofString "size", .int (z : Int) tz), (Str.ofString "some", .ref ls)] = m := funext fun z => kstB_eq (allc hm1 (all1 hm2)) fun _ => rfl
  dsimp only [kstB] at F1 hmm
  clear F
  k_with_none
  k_with "call ref" => (refine halt ?_)
  k_with "compareOp NotEq ref ref" => (refine halt ?_)
  k_with "compareOp NotEq" => (refine halt ?_)
  k_steps
  unfold Halt
  rename Fr _ _ _ _ => F3
  rename News _ _ _ _ => N3
  rename IntsAre _ ([0, 1, -1] ++ _) => hI
  generalize hxs : [0, 1, -1] ++ (List.replicate ((z : Int) - 3).toNat [(0 : Int)]).flatten = xs at hI
  have hlen : xs.length ≤ 64 := by
    have h := (srev_num hZ.out hxs).1
    rwa [List.length_map] at h
  refine useT (ratios_tells w _ xs hlen) (by k_asm) F3 (show News h₀ L _ ((_, _) :: (ls, listOf vs.toArray ns) :: tl) from fun q hq => N3 q (by
    rcases List.mem_cons.mp hq with rfl | hq
    · exact .head _
    · exact .tail _ (.tail _ (.tail _ (.tail _ hq))))) (by k_asm) (by k_asm) rfl (Nat.le_of_ble_eq_true rfl) (Nat.le_of_ble_eq_true rfl) ⟨_, _, _, rfl, (N3 _ (.head _)).1, hI⟩ ?_
  intro v1 nx1 h9 tk9 F9 N9 hv1
  clear F3 N3
  rename ((z : Int) - 3 < 0 → _) => q2
  rename (0 ≤ (z : Int) - 3 → _) => q3
  clear q2 q3
  replace N9 : News h₀ L h9 ((ls, listOf vs.toArray ns) :: (tl ++ nx1)) := fun q hq => N9 q (.tail _ hq)
  obtain ⟨a1, us1, n1, rfl, hm1', hr1⟩ := hv1
  (try dsimp only)
  k_steps
  unfold Halt
  have hnum := srev_num hZ.out hxs
  refine useT (sreverse_tells w (.ref a1) (xs.map fun x => (x, 1)) _ hnum.1 hnum.2.1 hnum.2.2.1 hnum.2.2.2.1 hnum.2.2.2.2) (by k_asm) F9 N9 (by k_asm) (by k_asm) rfl (Nat.le_of_ble_eq_true rfl) (Nat.le_of_ble_eq_true rfl) (ListM.val ⟨a1, us1, n1, rfl, hm1', hr1⟩ X F9 N9 (fun q hq => .tail _ (List.mem_append.mpr (.inr hq)))) ?_
  intro v2 nx2 h10 tk10 F10 N10 hv2
  clear F9 N9 hm1' hr1
  replace N10 : News h₀ L h10 ((ls, listOf vs.toArray ns) :: (tl ++ nx2)) := fun q hq => N10 q (by
    rcases List.mem_cons.mp hq with rfl | hq
    · exact .head _
    rcases List.mem_append.mp hq with hq | hq
    · exact .tail _ (List.mem_append.mpr (.inl (List.mem_append.mpr (.inl hq))))
    · exact .tail _ (List.mem_append.mpr (.inr hq)))
  (try dsimp only)
  k_steps
  unfold Halt
  rename Fr _ _ _ _ => F3
  rename News _ _ _ _ => N3
  rename IntsAre _ ([0] ++ _) => hI2
  refine useT (ratios_tells w _ _ (len_some hZ.out 0)) (by k_asm) F3 (news_drop3 N3) (by k_asm) (by k_asm) rfl (Nat.le_of_ble_eq_true rfl) (Nat.le_of_ble_eq_true rfl) ⟨_, _, _, rfl, (N3 _ (.head _)).1, hI2⟩ ?_
  intro v3 nx3 h11 tk11 F11 N11 hv3
  clear F3 N3
  (try dsimp only)
  k_steps
  unfold Halt
  refine ne_rats (ListM.val hv2 X F11 N11 (fun q hq => List.mem_append.mpr (.inl (.tail _ (.tail _ (List.mem_append.mpr (.inr hq))))))) (ListM.val hv3 X F11 N11 (fun q hq => List.mem_append.mpr (.inr hq))) (by ke_room) ?_
  k_steps
  all_goals (
    rename Fr _ _ _ _ => F9
    rename News _ _ _ _ => N9
    exact hQ _ _ (by rw [← hmm]; exact F9) fun q hq => N9 q (by
      rcases List.mem_cons.mp hq with rfl | hq
      · exact List.mem_append.mpr (.inl (.tail _ (.head _)))
      · exact List.mem_append.mpr (.inl (.tail _ (.tail _ (List.mem_append.mpr (.inl hq)))))))
theorem len_take {z : Nat} (hz : z = 5 ∨ z = 6) : (List.take ((nums.take z).length - 1) (nums.take z)).length ≤ 8 := by
  rcases hz with rfl | rfl <;> exact Nat.le_of_ble_eq_true rfl
theorem len_map1 {z : Nat} (hz : z = 5 ∨ z = 6) (f : Int → Int) : ([(1 : Int)] ++ (List.take ((nums.take z).length - 1) (nums.take z)).map f).length ≤ 64 := by
  rw [List.length_append, List.length_map]
  have := len_take hz
  show 1 + _ ≤ 64
  omega
theorem getD_map0 {l : List Int} {f : Int → Int} {c : Nat} (h : c < l.length) : (l.map f).getD c 0 = f (l.getD c 0) := by
  rw [List.getD_eq_getElem?_getD, List.getElem?_map, List.getD_eq_getElem?_getD, List.getElem?_eq_getElem h]; rfl
theorem news_drop4 {h₀ h : Heap} {L : Addr} {a b c d e : Addr × Obj} {l : List (Addr × Obj)} (N : News h₀ L h (a :: b :: c :: d :: e :: l)) : News h₀ L h (a :: e :: l) := allc (N _ (.head _)) fun q hq => N q (.tail _ (.tail _ (.tail _ (.tail _ hq))))
theorem sinv_num {z : Nat} (hz : z = 5 ∨ z = 6) : (nums.take z).length ≤ 64 ∧ ((nums.take z).map fun x => ((x, 1) : R)).length ≤ 64 ∧ 0 < ((nums.take z).map fun x => ((x, 1) : R)).length ∧
      sinvP ((nums.take z).map fun x => ((x, 1) : R)) = some (([(1 : Int)] ++ (List.take ((nums.take z).length - 1) (nums.take z)).map fun k => 0 - k).map fun x => ((x, 1) : R)) := by
  rcases hz with rfl | rfl <;> decide +kernel
set_option maxHeartbeats 2000000 in
theorem st7_ok (w : World) {prog p : Program} {loose : List Str} {mean : ExcName → Option Value} {mg mb : Str → Option Value} {base h₀ : Heap} {L fa cd : Addr} {m : Str → Option Value} {s : Shared} {QQ : Flow → Shared → Prop}
    {qual : Str} {params : Arguments} {body : List Stmt} {scope : Scope} {dV kV doc pm cdv ct oc : Value} {an od : Option Addr} {osl : Array (Option Value)} {st : Stmt}
    (hf : (Mine.hd.heap_39 w.params).lookup 203 = some ⟨oc, od, .func (fnOf (Str.ofString "law") qual params body scope dV kV doc pm an cdv ct), osl⟩) (he : body[7]? = some st)
    (B : Below callerA base [] h₀) (X : (Mine.hd.heap_39 w.params).In h₀) (T : Top p loose mean mg mb h₀) {ls ns z : Nat} {vs : List Value} {tz : Tok} {tl : List (Addr × Obj)} (hz : z = 5 ∨ z = 6) (hvs : IntsAre vs (nums.take z))
    (F : Fr h₀ L s.heap m) (N : News h₀ L s.heap ((ls, listOf vs.toArray ns) :: tl)) (hm1 : m (Str.ofString "size") = some (.int (z : Int) tz)) (hm2 : m (Str.ofString "some") = some (.ref ls))
    (hQ : ∀ h tk, Fr h₀ L h m → News h₀ L h ((ls, listOf vs.toArray ns) :: tl) → QQ .next { s with heap := h, toks := tk }) :
    wpAny (model prog w) (callerA.deeper (envOfC (Str.ofString "law") scope L fa (.ref cd))) (exec st (envOfC (Str.ofString "law") scope L fa (.ref cd))) QQ (fun _ _ => False) s := by
  cases hf.symm.trans (show _ = some _ from by k_is)
  cases he
  have hz6 : z ≤ 6 := by omega
  have hZ : Z56 z := ⟨hz⟩
  clear hz
  have F1 := fr_names F [(Str.ofString "size", .int (z : Int) tz), (Str.ofString "some", .ref ls)] (allc hm1 (all1 hm2))
  have hmm : kstB m [(Str.ofString "size", .int (z : Int) tz), (Str.ofString "some", .ref ls)] = m := funext fun z => kstB_eq (allc hm1 (all1 hm2)) fun _ => rfl
  dsimp only [kstB] at F1 hmm
  clear F
  k_with_none
  k_with "call ref" => (refine halt ?_)
  k_with "compareOp NotEq ref ref" => (refine halt ?_)
  k_with "compareOp NotEq" => (refine halt ?_)
  have hnum := sinv_num hZ.out
  k_steps
  unfold Halt
  rename Fr _ _ _ _ => F3
  rename News _ _ _ _ => N3
  refine useT (ratios_tells w _ _ hnum.1) (by k_asm) F3 N3 (by k_asm) (by k_asm) rfl (Nat.le_of_ble_eq_true rfl) (Nat.le_of_ble_eq_true rfl) ⟨_, _, _, rfl, (N3 _ (.head _)).1, hvs⟩ ?_
  intro v1 nx1 h9 tk9 F9 N9 hv1
  clear F3 N3
  obtain ⟨a1, us1, n1, rfl, hm1', hr1⟩ := hv1
  (try dsimp only)
  k_steps
  unfold Halt
  refine useT (sinverse_tells w (.ref a1) _ _ hnum.2.1 hnum.2.2.1 hnum.2.2.2) (by k_asm) F9 N9 (by k_asm) (by k_asm) rfl (Nat.le_of_ble_eq_true rfl) (Nat.le_of_ble_eq_true rfl) (ListM.val ⟨a1, us1, n1, rfl, hm1', hr1⟩ X F9 N9 (fun q hq => .tail _ (List.mem_append.mpr (.inr hq)))) ?_
  intro v2 nx2 h10 tk10 F10 N10 hv2
  clear F9 hm1' hr1
  replace N10 : News h₀ L h10 ((ls, listOf vs.toArray ns) :: (tl ++ nx2)) := fun q hq => N10 q (by
    rcases List.mem_cons.mp hq with rfl | hq
    · exact .head _
    rcases List.mem_append.mp hq with hq | hq
    · exact .tail _ (List.mem_append.mpr (.inl (List.mem_append.mpr (.inl hq))))
    · exact .tail _ (List.mem_append.mpr (.inr hq)))
  clear N9
  (try dsimp only)
  k_with "eval ListComp" => (refine halt ?_)
  k_with "CompSrc" => (refine halt ?_)
  k_steps
  unfold Halt
  rename Fr _ _ _ _ => F3
  refine LCg.ListComp_U F3 (by with_unfolding_all rfl) (by decide) (by rfl) (by decide) (by rfl) ?_
  k_steps
  unfold Halt
  rename Fr _ _ _ _ => F4
  rename News _ _ _ _ => N4
  rename IntsAre _ (List.take ((List.take z nums).length - 1) (List.take z nums)) => hI
  refine LCg.CompSrc.ledger (by rfl) F4 N4 (.head _) (by rw [List.size_toArray, hI.length]; exact len_sz (len_take hZ.out)) ?_
  intro g4
  rw [List.size_toArray, hI.length]
  refine comp_ints (zs := (List.take ((nums.take z).length - 1) (nums.take z)).map fun k => 0 - k) (List.length_map ..) (.inr ⟨_, .head _, rfl, _, rfl⟩) ?_ ?_
  · rintro c v I3 oI3 C3 oC3 D3 m₃ ys3 h3 tk3 E3 hc hv hC3 hm3 F5 N5
    rw [List.getElem?_toArray] at hv
    obtain ⟨t5, hx5⟩ := ints_getD hI hc
    rw [hx5] at hv
    cases hv
    rw [getD_map0 hc]
    generalize (List.take ((nums.take z).length - 1) (nums.take z)).getD c 0 = y5 at *
    k_steps
    all_goals exact ⟨_, _, _, rfl, rfl, fun _ _ e => e⟩
  intro ys5 hys D5 h5 tk5 F5 N5 o5
  (try clear F3)
  (try clear F4)
  (try clear N4)
  k_steps
  unfold Halt
  rename Fr _ _ _ _ => F3
  rename News _ _ _ _ => N3
  rename IntsAre _ ([1] ++ _) => hI2
  refine useT (ratios_tells w _ _ (len_map1 hZ.out _)) (by k_asm) F3 (news_drop4 N3) (by k_asm) (by k_asm) rfl (Nat.le_of_ble_eq_true rfl) (Nat.le_of_ble_eq_true rfl) ⟨_, _, _, rfl, (N3 _ (.head _)).1, hI2⟩ ?_
  intro v3 nx3 h11 tk11 F11 N11 hv3
  clear F3 N3
  (try dsimp only)
  k_steps
  unfold Halt
  refine ne_rats (ListM.val hv2 X F11 N11 (fun q hq => List.mem_append.mpr (.inl (.tail _ (.tail _ (List.mem_append.mpr (.inr hq))))))) (ListM.val hv3 X F11 N11 (fun q hq => List.mem_append.mpr (.inr hq))) (by ke_room) ?_
  k_steps
  all_goals (
    rename Fr _ _ _ _ => F9
    rename News _ _ _ _ => N9
    exact hQ _ _ (by rw [← hmm]; exact F9) fun q hq => N9 q (by
      rcases List.mem_cons.mp hq with rfl | hq
      · exact List.mem_append.mpr (.inl (.tail _ (.head _)))
      · exact List.mem_append.mpr (.inl (.tail _ (.tail _ (List.mem_append.mpr (.inl hq)))))))
theorem spow_num {z : Nat} {xs : List Int} (hz : z = 5 ∨ z = 6) (hxs : [1, -4] ++ (List.replicate ((z : Int) - 2).toNat [(0 : Int)]).flatten = xs) :
    xs.length ≤ 64 ∧ (xs.map fun x => ((x, 1) : R)).length ≤ 64 ∧ 0 < (xs.map fun x => ((x, 1) : R)).length ∧ sm4 ((xs.map fun x => ((x, 1) : R)).getD 0 (0, 1)) (1, 1) = true ∧ cmpF ((xs.map fun x => ((x, 1) : R)).getD 0 (0, 1)) (1, 1) = 0 ∧
      spTo (xs.map fun x => ((x, 1) : R)) (1, 2) (xs.map fun x => ((x, 1) : R)).length = some (([(1 : Int)] ++ (List.take ((nums.take z).length - 1) (nums.take z)).map fun k => -2 * k).map fun x => ((x, 1) : R)) := by
  subst hxs
  rcases hz with rfl | rfl <;> decide +kernel
set_option maxHeartbeats 2000000 in
theorem st6_ok (w : World) {prog p : Program} {loose : List Str} {mean : ExcName → Option Value} {mg mb : Str → Option Value} {base h₀ : Heap} {L fa cd : Addr} {m : Str → Option Value} {s : Shared} {QQ : Flow → Shared → Prop}
    {qual : Str} {params : Arguments} {body : List Stmt} {scope : Scope} {dV kV doc pm cdv ct oc : Value} {an od : Option Addr} {osl : Array (Option Value)} {st : Stmt}
    (hf : (Mine.hd.heap_39 w.params).lookup 203 = some ⟨oc, od, .func (fnOf (Str.ofString "law") qual params body scope dV kV doc pm an cdv ct), osl⟩) (he : body[6]? = some st)
    (B : Below callerA base [] h₀) (X : (Mine.hd.heap_39 w.params).In h₀) (T : Top p loose mean mg mb h₀) {ls ns z : Nat} {vs : List Value} {tz : Tok} {tl : List (Addr × Obj)} (hz : z = 5 ∨ z = 6) (hvs : IntsAre vs (nums.take z))
    (F : Fr h₀ L s.heap m) (N : News h₀ L s.heap ((ls, listOf vs.toArray ns) :: tl)) (hm1 : m (Str.ofString "size") = some (.int (z : Int) tz)) (hm2 : m (Str.ofString "some") = some (.ref ls))
    (hQ : ∀ h tk, Fr h₀ L h m → News h₀ L h ((ls, listOf vs.toArray ns) :: tl) → QQ .next { s with heap := h, toks := tk }) :
    wpAny (model prog w) (callerA.deeper (envOfC (Str.ofString "law") scope L fa (.ref cd))) (exec st (envOfC (Str.ofString "law") scope L fa (.ref cd))) QQ (fun _ _ => False) s := by
  cases hf.symm.trans (show _ = some _ from by k_is)
  cases he
  have hz6 : z ≤ 6 := by omega
  have hZ : Z56 z := ⟨hz⟩
  clear hz
  have F1 := fr_names F [(Str.ofString "size", .int (z : Int) tz), (Str.ofString "some", .ref ls)] (allc hm1 (all1 hm2))
  have hmm : kstB m [(Str.ofString "size", .int (z : Int) tz), (Str.ofString "some", .ref ls)] = m := funext fun z => kstB_eq (allc hm1 (all1 hm2)) fun _ => rfl
  dsimp only [kstB] at F1 hmm
  clear F
  k_with_none
  k_with "call ref" => (refine halt ?_)
  k_with "compareOp NotEq ref ref" => (refine halt ?_)
  k_with "compareOp NotEq" => (refine halt ?_)
  k_steps
  unfold Halt
  rename Fr _ _ _ _ => F3
  rename News _ _ _ _ => N3
  rename IntsAre _ ([1, -4] ++ _) => hI
  generalize hxs : [1, -4] ++ (List.replicate ((z : Int) - 2).toNat [(0 : Int)]).flatten = xs at hI
  have hnum := spow_num hZ.out hxs
  refine useT (ratios_tells w _ xs hnum.1) (by k_asm) F3 (show News h₀ L _ ((_, _) :: (ls, listOf vs.toArray ns) :: tl) from fun q hq => N3 q (by
    rcases List.mem_cons.mp hq with rfl | hq
    · exact .head _
    · exact .tail _ (.tail _ (.tail _ (.tail _ hq))))) (by k_asm) (by k_asm) rfl (Nat.le_of_ble_eq_true rfl) (Nat.le_of_ble_eq_true rfl) ⟨_, _, _, rfl, (N3 _ (.head _)).1, hI⟩ ?_
  intro v1 nx1 h9 tk9 F9 N9 hv1
  clear F3 N3
  rename ((z : Int) - 2 < 0 → _) => q2
  rename (0 ≤ (z : Int) - 2 → _) => q3
  clear q2 q3
  replace N9 : News h₀ L h9 ((ls, listOf vs.toArray ns) :: (tl ++ nx1)) := fun q hq => N9 q (.tail _ hq)
  obtain ⟨a1, us1, n1, rfl, hm1', hr1⟩ := hv1
  (try dsimp only)
  k_with "binaryOp Mult int int" => (
    refine' mul_sm ?h1 ?_
    (case h1 => decide))
  k_steps
  unfold Halt
  rename Fr _ _ _ _ => F3
  rename News _ _ _ _ => N3
  refine useT (spower_tells w (.ref a1) _ (xs.map fun x => (x, 1)) _ (1, 2) hnum.2.1 hnum.2.2.1 hnum.2.2.2.1 hnum.2.2.2.2.1 hnum.2.2.2.2.2) (by k_asm) F3 N3 (by k_asm) (by k_asm) rfl (Nat.le_of_ble_eq_true rfl) (Nat.le_of_ble_eq_true rfl) ⟨ListM.val ⟨a1, us1, n1, rfl, hm1', hr1⟩ X F3 N3 (fun q hq => .tail _ (.tail _ (List.mem_append.mpr (.inr hq)))), ⟨_, _, _, _, rfl, (N3 _ (.head _)).1⟩⟩ ?_
  intro v2 nx2 h10 tk10 F10 N10 hv2
  clear F3 hm1' hr1
  replace N10 : News h₀ L h10 ((ls, listOf vs.toArray ns) :: (tl ++ nx2)) := fun q hq => N10 q (by
    rcases List.mem_cons.mp hq with rfl | hq
    · exact .tail _ (.head _)
    rcases List.mem_append.mp hq with hq | hq
    · exact .tail _ (.tail _ (List.mem_append.mpr (.inl (List.mem_append.mpr (.inl hq)))))
    · exact List.mem_append.mpr (.inr hq))
  clear N3
  (try dsimp only)
  k_with "eval ListComp" => (refine halt ?_)
  k_with "CompSrc" => (refine halt ?_)
  k_steps
  unfold Halt
  rename Fr _ _ _ _ => F3
  refine LCg.ListComp_U F3 (by with_unfolding_all rfl) (by decide) (by rfl) (by decide) (by rfl) ?_
  k_steps
  unfold Halt
  rename Fr _ _ _ _ => F4
  rename News _ _ _ _ => N4
  rename IntsAre _ (List.take ((List.take z nums).length - 1) (List.take z nums)) => hI
  refine LCg.CompSrc.ledger (by rfl) F4 N4 (.head _) (by rw [List.size_toArray, hI.length]; exact len_sz (len_take hZ.out)) ?_
  intro g4
  rw [List.size_toArray, hI.length]
  refine comp_ints (zs := (List.take ((nums.take z).length - 1) (nums.take z)).map fun k => -2 * k) (List.length_map ..) (.inr ⟨_, .head _, rfl, _, rfl⟩) ?_ ?_
  · rintro c v I3 oI3 C3 oC3 D3 m₃ ys3 h3 tk3 E3 hc hv hC3 hm3 F5 N5
    rw [List.getElem?_toArray] at hv
    obtain ⟨t5, hx5⟩ := ints_getD hI hc
    rw [hx5] at hv
    cases hv
    rw [getD_map0 hc]
    generalize (List.take ((nums.take z).length - 1) (nums.take z)).getD c 0 = y5 at *
    k_steps
    all_goals exact ⟨_, _, _, rfl, rfl, fun _ _ e => e⟩
  intro ys5 hys D5 h5 tk5 F5 N5 o5
  (try clear F3)
  (try clear F4)
  (try clear N4)
  k_steps
  unfold Halt
  rename Fr _ _ _ _ => F3
  rename News _ _ _ _ => N3
  rename IntsAre _ ([1] ++ _) => hI2
  refine useT (ratios_tells w _ _ (len_map1 hZ.out _)) (by k_asm) F3 (news_drop4 N3) (by k_asm) (by k_asm) rfl (Nat.le_of_ble_eq_true rfl) (Nat.le_of_ble_eq_true rfl) ⟨_, _, _, rfl, (N3 _ (.head _)).1, hI2⟩ ?_
  intro v3 nx3 h11 tk11 F11 N11 hv3
  clear F3 N3
  (try dsimp only)
  k_steps
  unfold Halt
  refine ne_rats (ListM.val hv2 X F11 N11 (fun q hq => List.mem_append.mpr (.inl (.tail _ (.tail _ (List.mem_append.mpr (.inr hq))))))) (ListM.val hv3 X F11 N11 (fun q hq => List.mem_append.mpr (.inr hq))) (by ke_room) ?_
  k_steps
  all_goals (
    rename Fr _ _ _ _ => F9
    rename News _ _ _ _ => N9
    exact hQ _ _ (by rw [← hmm]; exact F9) fun q hq => N9 q (by
      rcases List.mem_cons.mp hq with rfl | hq
      · exact List.mem_append.mpr (.inl (.tail _ (.head _)))
      · exact List.mem_append.mpr (.inl (.tail _ (.tail _ (List.mem_append.mpr (.inl hq)))))))
noncomputable def ballot (k : Nat) (n : Nat) : Int := Int.fdiv ((k : Int) * choGo (2 * (n : Int) + (k : Int)) n) (2 * (n : Int) + (k : Int))
noncomputable def ballots (z k : Nat) : List Int := (List.range z).map (ballot k)
theorem cho_small {k n : Nat} (hk : k = 1 ∨ k = 2 ∨ k = 3) (hn : n < 6) : ∀ i, i < n → (choGo (2 * (n : Int) + (k : Int)) i).natAbs < 4611686018427387904 := by
  have : n = 0 ∨ n = 1 ∨ n = 2 ∨ n = 3 ∨ n = 4 ∨ n = 5 := by omega
  rcases this with rfl | rfl | rfl | rfl | rfl | rfl <;> rcases hk with rfl | rfl | rfl <;> decide +kernel
theorem cho_div {k n : Nat} (hk : k = 1 ∨ k = 2 ∨ k = 3) (hn : n < 6) : 2 * (n : Int) + (k : Int) ≠ 0 ∧ (2 * (n : Int) + (k : Int)).natAbs < 4611686018427387904 := by omega
set_option maxHeartbeats 2000000 in
theorem st8_ok (w : World) {prog p : Program} {loose : List Str} {mean : ExcName → Option Value} {mg mb : Str → Option Value} {base h₀ : Heap} {L fa cd : Addr} {m : Str → Option Value} {s : Shared} {QQ : Flow → Shared → Prop}
    {qual : Str} {params : Arguments} {body : List Stmt} {scope : Scope} {dV kV doc pm cdv ct oc : Value} {an od : Option Addr} {osl : Array (Option Value)} {st : Stmt}
    (hf : (Mine.hd.heap_39 w.params).lookup 203 = some ⟨oc, od, .func (fnOf (Str.ofString "law") qual params body scope dV kV doc pm an cdv ct), osl⟩) (he : body[8]? = some st)
    (B : Below callerA base [] h₀) (X : (Mine.hd.heap_39 w.params).In h₀) (T : Top p loose mean mg mb h₀) {z k : Nat} {tz t1 : Tok} {o1 : Obj} {tl : List (Addr × Obj)} (hz : z = 5 ∨ z = 6) (hk : k = 1 ∨ k = 2 ∨ k = 3)
    (F : Fr h₀ L s.heap m) (N : News h₀ L s.heap ((L + 1, o1) :: tl)) (e1 : o1.data = .cell (some (.int (k : Int) t1))) (hm1 : m (Str.ofString "size") = some (.int (z : Int) tz))
    (hQ : ∀ h tk lb ys, Fr h₀ L h (fun y => if y = Str.ofString "ballots" then some (.ref lb) else m y) → News h₀ L h ((lb, LCg.lst ys) :: (L + 1, o1) :: tl) → IntsAre ys (ballots z k) → QQ .next { s with heap := h, toks := tk }) :
    wpAny (model prog w) (callerA.deeper (envOfC (Str.ofString "law") scope L fa (.ref cd))) (exec st (envOfC (Str.ofString "law") scope L fa (.ref cd))) QQ (fun _ _ => False) s := by
  cases hf.symm.trans (show _ = some _ from by k_is)
  cases he
  have F1 := fr_names F [(Str.ofString "size", .int (z : Int) tz)] (all1 hm1)
  have hmm : kstB m [(Str.ofString "size", .int (z : Int) tz)] = m := funext fun z => kstB_eq (all1 hm1) fun _ => rfl
  dsimp only [kstB] at F1 hmm
  clear F
  k_with_none
  k_with "exec Assign cons ListComp" => (refine halt ?_)
  k_with "CompSrc" => (refine halt ?_)
  k_steps
  unfold Halt
  refine LCg.Assign_ListComp_U F1 (by rfl) (by with_unfolding_all rfl) (by rfl) (by decide) (by rfl) (by decide) (by rfl) (by rfl) (by rfl) ?_
  k_steps
  unfold Halt
  rename Fr _ _ _ _ => F3
  rename News _ _ _ _ => N3
  rename IsRange _ _ _ _ _ _ _ _ => rg
  have hz6 : z ≤ 6 := by omega
  obtain ⟨rg1, rg2⟩ := rng0 (n := z) (by omega)
  refine LCg.CompSrc.range (by rfl) F3 N3 rg rg1 rg2 (len_sz (by omega)) ?_
  intro g9
  clear F3 N3 rg rg1 rg2
  refine comp_ints (zs := ballots z k) (by simp [ballots]) trivial ?_ ?_
  · rintro i v I oI C oC D m₂ ys h tk E' hi ⟨t, rfl⟩ hC hm₂ F2 N2
    rw [Int.zero_add] at hm₂
    rw [ballots, map_range_getD hi]
    have hd := cho_div (n := i) hk (by omega)
    have hks : ((k : Int)).natAbs < 4611686018427387904 := by omega
    have hcs := cho_small (n := i) hk (by omega)
    have hi64 : i ≤ 64 := by omega
    k_with "binaryOp Mult int int" => (
      refine' mul_sm ?h1 ?_
      (case h1 => first | decide | assumption))
    k_with "binaryOp FloorDiv int int" => (
      refine' floordiv_int ?h1 ?_ (Or.inl (small_div ?h2))
      (case h1 => exact hd.1)
      (case h2 => exact hd.2))
    k_with "call ref" => (refine halt ?_)
    k_steps
    unfold Halt
    rename Fr _ _ _ _ => F3
    rename News _ _ _ _ => N3
    refine use (choices_tells w (2 * (i : Int) + (k : Int)) i _ _ hi64 hcs) (by k_asm) F3 N3 (by k_asm) (by k_asm) rfl (Nat.le_of_ble_eq_true rfl) (Nat.le_of_ble_eq_true rfl) trivial ?_
    rintro _ h9 tk9 x9 F9 N9 ⟨t9, rfl⟩
    (try dsimp only)
    k_steps
    all_goals first | exact ⟨_, _, _, rfl, rfl, x9⟩ | rfl | exact x9 _ _ (by assumption)
  · intro ys hys D h tk F2 N2 o1
    exact hQ _ _ _ _ (by rw [← hmm]; exact F2) N2 hys
theorem RatsM.valH {w : World} {h : Heap} {nx : List (Addr × Obj)} {vs : List Value} {xs : List R} (r : RatsM nx vs xs) (X : (Mine.hd.heap_39 w.params).In h) (hx : ∀ p ∈ nx, h.get? p.1 = some p.2) : RatsV h vs xs := by
  induction r with
  | nil => exact .nil
  | cons a _ ih =>
    refine .cons ?_ ih
    cases a with
    | zero => exact at49 X
    | one => exact at50 X
    | new hm => exact ⟨_, _, _, _, rfl, hx _ hm⟩
theorem sw_num {z k : Nat} (hz : z = 5 ∨ z = 6) (hk : k = 1 ∨ k = 2 ∨ k = 3) : (nums.take z).length ≤ 64 ∧ (ballots z k).length ≤ 64 ∧ ((nums.take z).map fun x => ((x, 1) : R)).length ≤ 64 ∧ 0 < ((nums.take z).map fun x => ((x, 1) : R)).length ∧
      swP ((nums.take z).map fun x => ((x, 1) : R)) k = some ((ballots z k).map fun x => ((x, 1) : R)) := by
  rcases hz with rfl | rfl <;> rcases hk with rfl | rfl | rfl <;> decide +kernel
set_option maxHeartbeats 2000000 in
theorem st9_ok (w : World) {prog p : Program} {loose : List Str} {mean : ExcName → Option Value} {mg mb : Str → Option Value} {base h₀ : Heap} {L fa cd : Addr} {m : Str → Option Value} {s : Shared} {QQ : Flow → Shared → Prop}
    {qual : Str} {params : Arguments} {body : List Stmt} {scope : Scope} {dV kV doc pm cdv ct oc : Value} {an od : Option Addr} {osl : Array (Option Value)} {st : Stmt}
    (hf : (Mine.hd.heap_39 w.params).lookup 203 = some ⟨oc, od, .func (fnOf (Str.ofString "law") qual params body scope dV kV doc pm an cdv ct), osl⟩) (he : body[9]? = some st)
    (B : Below callerA base [] h₀) (X : (Mine.hd.heap_39 w.params).In h₀) (T : Top p loose mean mg mb h₀) {z k ls ns lb : Nat} {vs ys : List Value} {t1 : Tok} {o1 : Obj} {tl : List (Addr × Obj)} (hz : z = 5 ∨ z = 6) (hk : k = 1 ∨ k = 2 ∨ k = 3)
    (F : Fr h₀ L s.heap m) (N : News h₀ L s.heap ((lb, LCg.lst ys) :: (L + 1, o1) :: (ls, listOf vs.toArray ns) :: tl)) (e1 : o1.data = .cell (some (.int (k : Int) t1))) (hm1 : m (Str.ofString "some") = some (.ref ls)) (hm2 : m (Str.ofString "ballots") = some (.ref lb)) (hvs : IntsAre vs (nums.take z)) (hys : IntsAre ys (ballots z k))
    (hQ : ∀ h tk, Fr h₀ L h m → News h₀ L h ((lb, LCg.lst ys) :: (L + 1, o1) :: (ls, listOf vs.toArray ns) :: tl) → QQ .next { s with heap := h, toks := tk }) :
    wpAny (model prog w) (callerA.deeper (envOfC (Str.ofString "law") scope L fa (.ref cd))) (exec st (envOfC (Str.ofString "law") scope L fa (.ref cd))) QQ (fun _ _ => False) s := by
  cases hf.symm.trans (show _ = some _ from by k_is)
  cases he
  have F1 := fr_names F [(Str.ofString "some", .ref ls), (Str.ofString "ballots", .ref lb)] (allc hm1 (all1 hm2))
  have hmm : kstB m [(Str.ofString "some", .ref ls), (Str.ofString "ballots", .ref lb)] = m := funext fun z => kstB_eq (allc hm1 (all1 hm2)) fun _ => rfl
  dsimp only [kstB] at F1 hmm
  clear F
  have hnum := sw_num hz hk
  k_with_none
  k_with "call ref" => (refine halt ?_)
  k_with "compareOp NotEq ref ref" => (refine halt ?_)
  k_with "compareOp NotEq" => (refine halt ?_)
  k_steps
  unfold Halt
  rename Fr _ _ _ _ => F3
  rename News _ _ _ _ => N3
  refine useT (ratios_tells w _ _ hnum.1) (by k_asm) F3 N3 (by k_asm) (by k_asm) rfl (Nat.le_of_ble_eq_true rfl) (Nat.le_of_ble_eq_true rfl) ⟨_, _, _, rfl, (N3 _ (.tail _ (.tail _ (.head _)))).1, hvs⟩ ?_
  intro v1 nx1 h9 tk9 F9 N9 hv1
  clear F3 N3
  obtain ⟨a1, us1, n1, rfl, hm1', hr1⟩ := hv1
  (try dsimp only)
  k_steps
  unfold Halt
  rename Fr _ _ _ _ => F5
  rename News _ _ _ _ => N5
  refine use (swhole_tells w (.ref a1) k _ _ _ hnum.2.2.1 hnum.2.2.2.1 hnum.2.2.2.2) (by k_asm) F5 N5 (by k_asm) (by k_asm) rfl (Nat.le_of_ble_eq_true rfl) (Nat.le_of_ble_eq_true rfl) (ListM.val ⟨a1, us1, n1, rfl, hm1', hr1⟩ X F5 N5 (fun q hq => .tail _ (.tail _ (.tail _ (List.mem_append.mpr (.inr hq)))))) ?_
  intro v2 h10 tk10 x10 F10 N10 hv2
  clear F5 N5 hm1' hr1
  (try dsimp only)
  k_steps
  unfold Halt
  rename Fr _ _ _ _ => F3
  rename News _ _ _ _ => N3
  refine use (ratios_tells w _ _ hnum.2.1) (by k_asm) F3 N3 (by k_asm) (by k_asm) rfl (Nat.le_of_ble_eq_true rfl) (Nat.le_of_ble_eq_true rfl) ⟨_, _, _, rfl, (N3 _ (.head _)).1, hys⟩ ?_
  rintro _ h11 tk11 x11 F11 N11 ⟨a3, us3, n3, nx3, rfl, _, ea3, hr3, hx3⟩
  clear F3 N3
  (try dsimp only)
  k_steps
  unfold Halt
  refine ne_rats (hv2.ext x11) ⟨a3, us3, n3, rfl, ea3, hr3.valH (X.keeps F11.keep) (fun q hq => (hx3 q hq).1)⟩ (by ke_room) ?_
  k_steps
  all_goals (
    rename Fr _ _ _ _ => F9
    rename News _ _ _ _ => N9
    exact hQ _ _ (by rw [← hmm]; exact F9) fun q hq => N9 q (by
      rcases List.mem_cons.mp hq with rfl | hq
      · exact .head _
      rcases List.mem_cons.mp hq with rfl | hq
      · exact .tail _ (.head _)
      rcases List.mem_cons.mp hq with rfl | hq
      · exact .tail _ (.tail _ (.head _))
      · exact .tail _ (.tail _ (.tail _ (List.mem_append.mpr (.inl hq))))))
theorem news_up2 {h₀ h : Heap} {L : Addr} {a b c d e f : Addr × Obj} (N : News h₀ L h [a, b, c, d, e, f]) : News h₀ L h [c, a, b, d, e, f] := fun q hq => N q (by
  simp only [List.mem_cons] at hq ⊢
  rcases hq with h | h | h | h | h | h | h <;> simp only [h, true_or, or_true])
theorem mem_ln {b c d e q : Addr × Obj} (h : q ∈ [b, c, d, e]) : q ∈ [b, c, d, e] := h
set_option maxHeartbeats 2000000 in
theorem mid_ok (w : World) {prog p : Program} {loose : List Str} {mean : ExcName → Option Value} {mg mb : Str → Option Value} {base h₀ : Heap} {L fa cd : Addr} {m : Str → Option Value} {s : Shared} {QQ : Flow → Shared → Prop}
    {qual : Str} {params : Arguments} {body : List Stmt} {scope : Scope} {dV kV doc pm cdv ct oc : Value} {an od : Option Addr} {osl : Array (Option Value)}
    (hf : (Mine.hd.heap_39 w.params).lookup 203 = some ⟨oc, od, .func (fnOf (Str.ofString "law") qual params body scope dV kV doc pm an cdv ct), osl⟩)
    (B : Below callerA base [] h₀) (X : (Mine.hd.heap_39 w.params).In h₀) (T : Top p loose mean mg mb h₀) {z k r ln nl : Nat} {tz t1 t2 : Tok} {o1 o2 o3 o4 : Obj} {us : List Value} (hz : z = 5 ∨ z = 6) (hk : k = 1 ∨ k = 2 ∨ k = 3)
    (F : Fr h₀ L s.heap m) (hr : r = 2 ∨ r = 3) (hus : IntsAre us nums) (N : News h₀ L s.heap [(ln, listOf us.toArray nl), (L + 1, o1), (L + 2, o2), (L + 3, o3), (L + 4, o4)]) (hn4 : @Ne Nat ln (L + 4)) (e2 : o2.data = .cell (some (.int (r : Int) t2))) (e3 : o3.data = .cell (some (.ref ln))) {v4 : Option Value} (e4 : o4.data = .cell v4) (e1 : o1.data = .cell (some (.int (k : Int) t1))) (hm1 : m (Str.ofString "size") = some (.int (z : Int) tz))
    (hQ : ∀ h tk m', Fr h₀ L h m' → News h₀ L h [] → QQ (.ret (.bool true)) { s with heap := h, toks := tk }) :
    wpAny (model prog w) (callerA.deeper (envOfC (Str.ofString "law") scope L fa (.ref cd))) (execs (body.drop 4) (envOfC (Str.ofString "law") scope L fa (.ref cd))) QQ (fun _ _ => False) s := by
  have hf' := hf
  cases hf.symm.trans (show _ = some _ from by k_is)
  dsimp only [List.drop]
  have F1 := fr_names F [(Str.ofString "size", .int (z : Int) tz)] (all1 hm1)
  dsimp only [kstB] at F1
  clear F
  refine wpAny_execs_cons ?_
  k_with_none
  k_with "execs cons" => (refine halt ?_)
  k_steps
  unfold Halt
  rename Fr _ _ _ _ => F3
  rename News _ _ _ _ => N3
  rename IntsAre _ (List.take _ nums) => hvs
  rw [show ((z : Int)).toNat = z from rfl] at hvs
  dsimp only
  refine wpAny_execs_cons (st5_ok w hf' rfl B X T hz hvs F3 N3 rfl rfl ?_)
  clear F3 N3
  intro h5 tk5 F5 N5
  dsimp only
  refine wpAny_execs_cons (st6_ok w hf' rfl B X T hz hvs F5 N5 rfl rfl ?_)
  clear F5 N5
  intro h6 tk6 F6 N6
  dsimp only
  refine wpAny_execs_cons (st7_ok w hf' rfl B X T hz hvs F6 N6 rfl rfl ?_)
  clear F6 N6
  intro h7 tk7 F7 N7
  dsimp only
  refine wpAny_execs_cons (st8_ok w hf' rfl B X T hz hk F7 (tl := [(_, _), (ln, listOf us.toArray nl), (L + 2, o2), (L + 3, o3), (L + 4, o4)]) (news_up2 N7) e1 rfl ?_)
  clear F7 N7
  intro h8 tk8 lb ys F8 N8 hys
  dsimp only
  refine wpAny_execs_cons (st9_ok w hf' rfl B X T hz hk F8 N8 e1 rfl rfl hvs hys ?_)
  clear F8 N8
  intro h9 tk9 F9 N9
  dsimp only
  exact tail_ok w hf' B X T (nl := nl) hr hus e2 e3 e4 F9 (fun q hq => N9 q (.tail _ (.tail _ (.tail _ (mem_ln hq))))) hn4 (fun h tk m' => hQ h tk m')
theorem num_z {i : Int} (h0 : 0 ≤ i) (h1 : i < 2) : ∃ z : Nat, (z = 5 ∨ z = 6) ∧ 6 - i = (z : Int) := ⟨(6 - i).toNat, by omega, by omega⟩
theorem num_k {i : Int} (h0 : 0 ≤ i) (h1 : i < 3) : ∃ z : Nat, (z = 1 ∨ z = 2 ∨ z = 3) ∧ 1 + i = (z : Int) := ⟨(1 + i).toNat, by omega, by omega⟩
theorem num_r {i : Int} (h0 : 0 ≤ i) (h1 : i < 2) : ∃ z : Nat, (z = 2 ∨ z = 3) ∧ 3 - i = (z : Int) := ⟨(3 - i).toNat, by omega, by omega⟩
set_option maxHeartbeats 2000000 in
theorem st1_ok (w : World) {prog p : Program} {loose : List Str} {mean : ExcName → Option Value} {mg mb : Str → Option Value} {base h₀ : Heap} {L fa cd : Addr} {m : Str → Option Value} {s : Shared} {QQ : Flow → Shared → Prop}
    {qual : Str} {params : Arguments} {body : List Stmt} {scope : Scope} {dV kV doc pm cdv ct oc : Value} {an od : Option Addr} {osl : Array (Option Value)} {st : Stmt}
    (hf : (Mine.hd.heap_39 w.params).lookup 203 = some ⟨oc, od, .func (fnOf (Str.ofString "law") qual params body scope dV kV doc pm an cdv ct), osl⟩) (he : body[1]? = some st)
    (B : Below callerA base [] h₀) (X : (Mine.hd.heap_39 w.params).In h₀) (T : Top p loose mean mg mb h₀) {bx D : Addr} {nb nd : Nat} {c : Int} {tc : Tok} {ws : List Value} {xs : List Int} {o1 o2 o3 o4 : Obj} {v1 v2 : Option Value} (hI : IntsAre ws xs) (hlen : xs.length ≤ 8) (hbD : @Ne Nat bx D) (ht : ∀ p ∈ [(L + 1, o1), (L + 2, o2), (L + 3, o3), (L + 4, o4)], p.1 ≠ bx ∧ p.1 ≠ D)
    (F : Fr h₀ L s.heap m) (N : News h₀ L s.heap ((bx, listOf [.ref D, .int c tc].toArray nb) :: (D, listOf ws.toArray nd) :: [(L + 1, o1), (L + 2, o2), (L + 3, o3), (L + 4, o4)])) (e1 : o1.data = .cell v1) (e2 : o2.data = .cell v2) (hm1 : m (Str.ofString "box") = some (.ref bx))
    (hQ : ∀ h tk (z k r : Nat) tz o1' o2' t1 t2, (z = 5 ∨ z = 6) → (k = 1 ∨ k = 2 ∨ k = 3) → (r = 2 ∨ r = 3) → Fr h₀ L h (fun y => if y = Str.ofString "size" then some (.int (z : Int) tz) else m y) → News h₀ L h [(L + 1, o1'), (L + 2, o2'), (L + 3, o3), (L + 4, o4)] → o1'.data = .cell (some (.int (k : Int) t1)) → o2'.data = .cell (some (.int (r : Int) t2)) → QQ .next { s with heap := h, toks := tk }) :
    wpAny (model prog w) (callerA.deeper (envOfC (Str.ofString "law") scope L fa (.ref cd))) (exec st (envOfC (Str.ofString "law") scope L fa (.ref cd))) QQ (fun _ _ => False) s := by
  cases hf.symm.trans (show _ = some _ from by k_is)
  cases he
  have F1 := fr_names F [(Str.ofString "box", .ref bx)] (all1 hm1)
  have hmm : kstB m [(Str.ofString "box", .ref bx)] = m := funext fun z => kstB_eq (all1 hm1) fun _ => rfl
  dsimp only [kstB] at F1 hmm
  clear F
  have q1 : (@Ne Nat (L + 1) bx) ∧ (@Ne Nat (L + 1) D) := ht _ (.head _)
  have q2 : (@Ne Nat (L + 2) bx) ∧ (@Ne Nat (L + 2) D) := ht _ (.tail _ (.head _))
  k_with_none
  k_with "call ref" => (refine halt ?_)
  k_steps
  unfold Halt
  rename Fr _ _ _ _ => F3
  rename News _ _ _ _ => N3
  refine useV (take_tells w bx D [(L + 1, o1), (L + 2, o2), (L + 3, o3), (L + 4, o4)] nb _ _ 2 _ _ _ _ hI hlen (by decide) (by decide) hbD ht) (by k_asm) F3 N3 (by k_asm) (by k_asm) rfl (Nat.le_of_ble_eq_true rfl) (Nat.le_of_ble_eq_true rfl) ?_
  rintro led9 v9 h9 tk9 F9 N9 ⟨i1, t1, tc1, nd1, ws1, xs1, hI1, hl1, rfl, hlo1, hhi1, rfl⟩
  clear F3 N3
  (try dsimp only)
  k_steps
  unfold Halt
  rename Fr _ _ _ _ => F3
  rename News _ _ _ _ => N3
  refine useV (take_tells w bx D [(L + 1, o1), (L + 2, o2), (L + 3, o3), (L + 4, o4)] nb _ _ 3 _ _ _ _ hI1 hl1 (by decide) (by decide) hbD ht) (by k_asm) F3 N3 (by k_asm) (by k_asm) rfl (Nat.le_of_ble_eq_true rfl) (Nat.le_of_ble_eq_true rfl) ?_
  rintro led9 v9 h9 tk9 F9 N9 ⟨i2, t2, tc2, nd2, ws2, xs2, hI2, hl2, rfl, hlo2, hhi2, rfl⟩
  clear F3 N3
  (try dsimp only)
  k_steps
  unfold Halt
  rename Fr _ _ _ _ => F3
  rename News _ _ _ _ => N3
  refine useV (take_tells w bx D [(L + 1, o1), (L + 2, o2), (L + 3, o3), (L + 4, o4)] nb _ _ 2 _ _ _ _ hI2 hl2 (by decide) (by decide) hbD ht) (by k_asm) F3 N3 (by k_asm) (by k_asm) rfl (Nat.le_of_ble_eq_true rfl) (Nat.le_of_ble_eq_true rfl) ?_
  rintro led9 v9 h9 tk9 F9 N9 ⟨i3, t3, tc3, nd3, ws3, xs3, hI3, hl3, rfl, hlo3, hhi3, rfl⟩
  clear F3 N3
  (try dsimp only)
  k_steps
  rename Fr _ _ _ _ => F9
  rename News _ _ _ _ => N9
  rename _ = Data.cell (some (Value.int (1 + i2) _)) => d1
  rename _ = Data.cell (some (Value.int (3 - i3) _)) => d2
  obtain ⟨z, hz, ez⟩ := num_z hlo1 hhi1
  obtain ⟨k, hk, ek⟩ := num_k hlo2 hhi2
  obtain ⟨r, hr, er⟩ := num_r hlo3 hhi3
  rw [ez] at F9
  rw [ek] at d1
  rw [er] at d2
  dsimp only
  exact hQ _ _ z k r _ _ _ _ _ hz hk hr (by rw [← hmm]; exact F9) (fun q hq => N9 q (.tail _ (.tail _ (.tail _ hq)))) d1 d2
section
open PyProof.Rows.LCg PyProof.Rows.LCp
section
variable {prog : Program} {w : World} {A : Around} {E : Value → Shared → Prop} {s : Shared} {h₀ : Heap} {L : Addr} {m : Str → Option Value} {env : Env}
noncomputable def StE (e it l : Addr) (items : Array Value) (i : Nat) (h : Heap) : Prop := (∃ old, IsEnum h e it i old) ∧ h.IsListIter it l i ∧ h.IsList l items
noncomputable def EltE (s : Shared) (h : Heap) (J : List Value → Prop) (ys : List Value) (y : Value) (s' : Shared) : Prop := ∃ tk, s' = { s with heap := h, toks := tk } ∧ J (ys ++ [y])
noncomputable def EltAll (prog : Program) (w : World) (A : Around) (h₀ : Heap) (L : Addr) (m : Str → Option Value) (env : Env) (elt : Expr) (x x₂ : Str) (scope : Scope) (cl : List (Str × Addr)) (s : Shared) (l : Addr) (items : Array Value) (news : List (Addr × Obj)) (J : Nat → List Value → Prop) : Prop :=
  ∀ i v t C oC D h tk m₂ ys (E' : Value → Shared → Prop), i < items.size → items[i]? = some v → J i ys → NsObj oC m₂ → m₂ x = some (.int (i : Int) t) → m₂ x₂ = some v → Fr h₀ L h m → News h₀ L h ((C, oC) :: (D, lst ys) :: news) → h.IsList l items → A.handled = none →
    wpAny (model prog w) A (eval elt (compEnvC scope cl C env)) (EltE s h (J (i + 1)) ys) E' { s with heap := h, toks := tk }
inductive LoopE (s₂ : Shared) (h₀ : Heap) (L : Addr) (m : Str → Option Value) (C D e it l : Addr) (items : Array Value) (news : List (Addr × Obj)) (J : Nat → List Value → Prop) (k : Nat) (s' : Shared) : Prop
  | mk (h' : Heap) (tk i : Nat) (ys : List Value) (m' : Str → Option Value) : s' = { s₂ with heap := h', toks := tk } → i ≤ items.size → k = items.size + 1 - i → J i ys → StE e it l items i h' → Fr h₀ L h' m → h'.Ns C m' → News h₀ L h' ((D, lst ys) :: news) → LoopE s₂ h₀ L m C D e it l items news J k s'
theorem block_E {elt iter : Expr} {x x₂ : Str} {px px₂ tp : Pos} {tk} {scope : Scope} {cl : List (Str × Addr)} {pos : Pos} {s₂ : Shared} {e it l : Addr} {items : Array Value} {news : List (Addr × Obj)} {J : Nat → List Value → Prop} {RR : Value → Addr → Result → Shared → Prop}
    (hei : e ≠ it) (hle : l ≠ e) (hli : l ≠ it) (hsz : items.size ≤ sizeLine)
    (hcell : ∀ y ∈ scope.names, y.2 ≠ .cell) (hkind : scope.kind = .function) (hx : scope.names.lookup x = some .local) (hx₂ : scope.names.lookup x₂ = some .local) (hxx : x ≠ x₂) (hh : A.handled = none)
    (hst : StE e it l items 0 s₂.heap) (F : Fr h₀ L s₂.heap m) (N : News h₀ L s₂.heap news) (he₀ : h₀.get? e = none) (hi₀ : h₀.get? it = none) (hLe : L ≠ e) (hLi : L ≠ it) (off : ∀ p ∈ news, p.1 ≠ e ∧ p.1 ≠ it)
    (hJ : J 0 []) (hJl : ∀ i ys, J i ys → ys.length = i) (helt : EltAll prog w A h₀ L m env elt x x₂ scope cl s₂ l items news J)
    (hRR : ∀ D C h tk m' ys, Fr h₀ L h m → News h₀ L h ((D, lst ys) :: news) → (∀ p ∈ news, p.1 ≠ D) → h.Ns C m' → h₀.get? C = none → C ≠ L → C ≠ D → (∀ p ∈ news, p.1 ≠ C) → J items.size ys → RR (.ref D) C (.ok .next) { s₂ with heap := h, toks := tk }) :
    wpAny (model prog w) A (newList []) (fun acc s₃ => wpAny (model prog w) A (newFunctionEnv scope env.globals cl [] env.qual none .none (some env)) (fun cenv s₄ =>
      codeAny (model prog w) A (.compStart (.ListComp elt [⟨.Tuple [.Name x px, .Name x₂ px₂] tk tp, iter, [], 0⟩] scope pos) 0 (.ref e) acc { cenv with scope := relabel scope env }) (RR acc cenv.locals) s₄) E s₃) E s₂ := by
  have W := WalksT.enumerate (prog := prog) (w := w) hh e it l hei hle hli items
  refine wpAny_newObj_type (wpAny_newFunctionEnv hcell (by intro y hy; simp at hy) (fun h₁ hns₁ hsb₁ => ?_) hkind)
  dsimp only at hns₁ hsb₁ ⊢
  generalize hH2 : s₂.heap.push { cls := .type "list", dict := none, data := .seq ([] : List Value).toArray } = H2 at hns₁ hsb₁ ⊢
  have hC : H2.objs.size = s₂.heap.objs.size + 1 := by rw [← hH2, Heap.size_push]
  have hDC : s₂.heap.objs.size ≠ H2.objs.size := by rw [hC]; exact Nat.ne_of_lt (Nat.lt_succ_self _)
  have below : ∀ b, b < s₂.heap.objs.size → b ≠ H2.objs.size ∧ b ≠ s₂.heap.objs.size := fun b hb => ⟨by rw [hC]; exact Nat.ne_of_lt (Nat.lt_succ_of_lt hb), Nat.ne_of_lt hb⟩
  have lte : e < s₂.heap.objs.size := by obtain ⟨⟨_, q⟩, _⟩ := hst; exact Heap.lt_size q
  have lti : it < s₂.heap.objs.size := by obtain ⟨_, ⟨_, q, _⟩, _⟩ := hst; exact Heap.lt_size q
  have ltl : l < s₂.heap.objs.size := by obtain ⟨_, _, ⟨_, q, _⟩⟩ := hst; exact Heap.lt_size q
  have old : ∀ b o, s₂.heap.get? b = some o → h₁.get? b = some o := fun b o q => hsb₁.extBut b o (below b (Heap.lt_size q)).1 (Heap.get?_push_of_some _ (hH2 ▸ Heap.get?_push_of_some _ q))
  have hacc : h₁.get? s₂.heap.objs.size = some (lst []) := hsb₁.extBut _ _ hDC (Heap.get?_push_of_some _ (hH2 ▸ Heap.get?_push_size _ rfl))
  have hst₁ : StE e it l items 0 h₁ := W.frame _ _ _ hst fun b _ o q => old b o q
  have fresh : ∀ a, s₂.heap.objs.size ≤ a → s₂.heap.get? a = none := fun a ha => by
    cases q : s₂.heap.get? a with
    | none => rfl
    | some o' => exact absurd (Heap.lt_size q) (Nat.not_lt.mpr ha)
  have fresh₀ : ∀ a, s₂.heap.objs.size ≤ a → h₀.get? a = none := fun a ha => by
    cases q : h₀.get? a with
    | none => rfl
    | some o' => have := F.keep a o' q; rw [fresh a ha] at this; cases this
  have hD₀ : h₀.get? s₂.heap.objs.size = none := fresh₀ _ (Nat.le_refl _)
  have hC₀ : h₀.get? H2.objs.size = none := fresh₀ _ (by rw [hC]; exact Nat.le_succ _)
  have hLlt : L < s₂.heap.objs.size := F.ns.lt
  have hDL : s₂.heap.objs.size ≠ L := Ne.symm (below L hLlt).2
  have hCL : H2.objs.size ≠ L := Ne.symm (below L hLlt).1
  have offDC : ∀ p ∈ news, p.1 ≠ H2.objs.size ∧ p.1 ≠ s₂.heap.objs.size := fun p hp => below _ (Heap.lt_size (N p hp).1)
  have wr : ∀ b, b ≠ e → b ≠ it → b ∉ [e, it] := fun b h1 h2 hm => by
    rcases List.mem_cons.mp hm with rfl | hm
    · exact h1 rfl
    · rcases List.mem_cons.mp hm with rfl | hm
      · exact h2 rfl
      · cases hm
  -- a change at the iterators alone keeps the frame and the ledger
  have keepF : ∀ g g' : Heap, Fr h₀ L g m → (∀ b o, b ∉ [e, it] → g.get? b = some o → g'.get? b = some o) → Fr h₀ L g' m := fun g g' Fg hk =>
    ⟨Fg.ns.at' fun o q => hk _ o (wr _ hLe hLi) q, fun b o q => hk b o (wr _ (fun h' => by rw [h', he₀] at q; cases q) (fun h' => by rw [h', hi₀] at q; cases q)) (Fg.keep b o q), Fg.above⟩
  have De : s₂.heap.objs.size ≠ e := Ne.symm (below _ lte).2
  have Di : s₂.heap.objs.size ≠ it := Ne.symm (below _ lti).2
  have Ce : H2.objs.size ≠ e := Ne.symm (below _ lte).1
  have Ci : H2.objs.size ≠ it := Ne.symm (below _ lti).1
  have keepN : ∀ (g g' : Heap) ys, News h₀ L g ((s₂.heap.objs.size, lst ys) :: news) → (∀ b o, b ∉ [e, it] → g.get? b = some o → g'.get? b = some o) → News h₀ L g' ((s₂.heap.objs.size, lst ys) :: news) := fun g g' ys Ng hk p hp => by
    refine ⟨hk _ _ ?_ (Ng p hp).1, (Ng p hp).2⟩
    rcases List.mem_cons.mp hp with rfl | hp
    · exact wr _ De Di
    · exact wr _ (off p hp).1 (off p hp).2
  have outfp : ∀ b, b ∈ [e, it, l] → b ≠ H2.objs.size ∧ b ≠ s₂.heap.objs.size := fun b hb => by
    rcases List.mem_cons.mp hb with rfl | hb
    · exact below _ lte
    · rcases List.mem_cons.mp hb with rfl | hb
      · exact below _ lti
      · rcases List.mem_cons.mp hb with rfl | hb
        · exact below _ ltl
        · cases hb
  have loop : ∀ s₃ : Shared, s₃ = { s₂ with heap := h₁, toks := s₂.toks + ([] : List (Str × Value)).length } →
      codeAny (model prog w) A (.compLoop (.ListComp elt [⟨.Tuple [.Name x px, .Name x₂ px₂] tk tp, iter, [], 0⟩] scope pos) 0 (.ref e) (.ref s₂.heap.objs.size) (compEnvC scope cl H2.objs.size env))
        (RR (.ref s₂.heap.objs.size) H2.objs.size) s₃ := by
    rintro s₃ rfl
    refine codeAny_compLoop_pair
      (LoopE s₂ h₀ L m H2.objs.size s₂.heap.objs.size e it l items news J) ?_ (items.size + 1)
      ⟨h₁, _, 0, [], _, rfl, Nat.zero_le _, rfl, hJ, hst₁, F.keeps old, hns₁, fun p hp => ?_⟩
    · rintro k s' ⟨h', tk, i, ys, m', rfl, hi, rfl, hJi, hst', F', hn', N'⟩
      by_cases hlt : i < items.size
      · refine W.item i _ _ _ hlt hst' fun T vals h₂ tk₂ hP hT ht hmid hk₂ => ?_
        obtain ⟨t, xv, hxv, rfl⟩ := hP
        refine W.go _ _ _ i T _ _ _ hmid fun h₃ hst₃ hk₃ => ?_
        have hTw := W.apart _ _ _ hmid
        have ht₃ : IsTup h₃ T #[.int (i : Int) t, xv] := by
          obtain ⟨ot, q1, q2, nt, q3⟩ := ht
          exact ⟨ot, hk₃ _ _ hTw q1, q2, nt, q3⟩
        have F₃ := keepF _ _ (keepF _ _ F' hk₂) hk₃
        have N₃ := keepN _ _ _ (keepN _ _ _ N' hk₂) hk₃
        have hn₃ := (hn'.at' fun o q => hk₂ _ o (wr _ Ce Ci) q).at' fun o q => hk₃ _ o (wr _ Ce Ci) q
        refine assign_Tuple_tuple hh ht₃ rfl rfl fun h₅ he => ?_
        have he' : ∀ b o, h₃.get? b = some o → h₅.get? b = some o := fun b o q => he b o (Nat.ne_of_lt (Heap.lt_size q)) q
        refine assignInOrder_cons (wpAny_assign_Name (wpAny_storeName_local (lookup_relabel_local hx) (hn₃.at' fun o q => he' _ o q) (fun h₆ hn₆ hs₆ => ?_) (by simp [compEnvC, relabel, hkind])))
        refine assignInOrder_cons (wpAny_assign_Name (wpAny_storeName_local (lookup_relabel_local hx₂) hn₆ (fun h₇ hn₇ hs₇ => ?_) (by simp [compEnvC, relabel, hkind])))
        refine assignInOrder_nil ?_
        have old3 : ∀ b o, b ≠ H2.objs.size → h₃.get? b = some o → h₇.get? b = some o := fun b o hb q => hs₇.extBut b o hb (hs₆.extBut b o hb (he' b o q))
        have hst₇ : StE e it l items (i + 1) h₇ := W.frame _ _ _ hst₃ fun b hb o q => old3 b o (outfp b hb).1 q
        obtain ⟨oC, heC, hoC⟩ := ns_obj hn₇
        have F₇ : Fr h₀ L h₇ m := ((F₃.keeps he').change hs₆ hCL hC₀).change hs₇ hCL hC₀
        have N₇ : News h₀ L h₇ ((H2.objs.size, oC) :: (s₂.heap.objs.size, lst ys) :: news) := fun p hp => by
          rcases List.mem_cons.mp hp with rfl | hp
          · exact ⟨heC, hCL, hC₀⟩
          · have z := N₃ p hp
            refine ⟨old3 _ _ ?_ z.1, z.2⟩
            rcases List.mem_cons.mp hp with rfl | hp
            · exact hDC
            · exact (offDC p hp).1
        refine wpAny_mono (helt i xv t _ oC _ h₇ _ _ ys _ hlt hxv hJi hoC (by simp [hxx]) (by simp) F₇ N₇ hst₇.2.2 hh) (fun y s₄ h₄ => ?_) fun _ _ q => q
        obtain ⟨tk₄, rfl, hJ'⟩ := h₄
        have zC := (N₇ _ List.mem_cons_self).1
        have zD := (N₇ _ (List.mem_cons_of_mem _ List.mem_cons_self)).1
        refine append_at (hsz := by show ys.toArray.size ≤ sizeLine; rw [List.size_toArray, hJl _ _ hJi]; exact Nat.le_trans hi hsz) zD fun h₈ hs₈ hD₈ => ?_
        refine ⟨items.size + 1 - (i + 1), by omega, h₈, tk₄, i + 1, ys ++ [y], _, rfl, hlt, rfl, hJ', W.frame _ _ _ hst₇ fun b hb o q => hs₈.extBut b o (outfp b hb).2 q, F₇.change hs₈ hDL hD₀, (hoC.ns zC).sameBut hs₈ (Ne.symm hDC), fun p hp => ?_⟩
        rcases List.mem_cons.mp hp with rfl | hp
        · exact ⟨hD₈.trans (congrArg some (lst_snoc ys y)), hDL, hD₀⟩
        · have z := N₇ p (List.mem_cons_of_mem _ (List.mem_cons_of_mem _ hp))
          exact ⟨hs₈.extBut _ _ (offDC p hp).2 z.1, z.2⟩
      · obtain rfl : i = items.size := Nat.le_antisymm hi (Nat.not_lt.mp hlt)
        refine W.done _ _ _ hst' fun h₂ tk₂ hk₂ => ?_
        exact hRR _ _ h₂ tk₂ _ ys (keepF _ _ F' hk₂) (keepN _ _ _ N' hk₂) (fun p hp => (offDC p hp).2) (hn'.at' fun o q => hk₂ _ o (wr _ Ce Ci) q) hC₀ hCL (Ne.symm hDC) (fun p hp => (offDC p hp).1) hJi
    · rcases List.mem_cons.mp hp with rfl | hp
      · exact ⟨hacc, hDL, hD₀⟩
      · exact ⟨old _ _ (N p hp).1, (N p hp).2⟩
  exact codeAny_compStart_list (loop _ rfl) (W.self 0 _ _ _ hst₁ (loop _ rfl))

inductive SrcE (prog : Program) (w : World) (A : Around) (h₀ : Heap) (L : Addr) (m : Str → Option Value) (env : Env) (elt : Expr) (x x₂ : Str) (scope : Scope) (cl : List (Str × Addr)) (Q : Value → Shared → Prop) (xv : Value) (s₁ : Shared) : Prop
  | mk (e it l : Addr) (items : Array Value) (news : List (Addr × Obj)) (J : Nat → List Value → Prop) : xv = .ref e → e ≠ it → l ≠ e → l ≠ it → items.size ≤ sizeLine → A.handled = none → StE e it l items 0 s₁.heap → Fr h₀ L s₁.heap m → News h₀ L s₁.heap news → h₀.get? e = none → h₀.get? it = none → L ≠ e → L ≠ it →
    (∀ p ∈ news, p.1 ≠ e ∧ p.1 ≠ it) → J 0 [] → (∀ i ys, J i ys → ys.length = i) → EltAll prog w A h₀ L m env elt x x₂ scope cl s₁ l items news J →
    (∀ D h tk ys, Fr h₀ L h m → News h₀ L h ((D, lst ys) :: news) → (∀ p ∈ news, p.1 ≠ D) → J items.size ys → Q (.ref D) { s₁ with heap := h, toks := tk }) → SrcE prog w A h₀ L m env elt x x₂ scope cl Q xv s₁
theorem comp_enum {elt iter : Expr} {x x₂ : Str} {px px₂ tp : Pos} {tk} {scope : Scope} {cl : List (Str × Addr)} {pos : Pos} {Q : Value → Shared → Prop} (F₀ : Fr h₀ L s.heap m)
    (hclos : closureFor scope env = pure cl) (hcell : ∀ y ∈ scope.names, y.2 ≠ .cell) (hkind : scope.kind = .function)
    (hnames : ∀ y ∈ scope.names, y.2 = .local → scope.names.lookup y.1 = some .local) (hx : scope.names.lookup x = some .local) (hx₂ : scope.names.lookup x₂ = some .local) (hxx : x ≠ x₂)
    (h : wpAny (model prog w) A (eval iter env) (SrcE prog w A h₀ L m env elt x x₂ scope cl Q) E s)
    (hs : ∀ x, foldedSetIterable iter env x = pure x := by intro _; rfl) :
    wpAny (model prog w) A (eval (.ListComp elt [⟨.Tuple [.Name x px, .Name x₂ px₂] tk tp, iter, [], 0⟩] scope pos) env) Q E s := by
  rw [eval_ListComp]
  refine wpAny_comprehension_free (use := none) rfl hs hclos hkind hnames (wpAny_mono h (fun xv s₁ h₁ => ?_) fun _ _ e => e)
  obtain ⟨e, it, l, items, news, J, rfl, hei, hle, hli, hsz, hh, hst, F, N, he₀, hi₀, hLe, hLi, off, hJ, hJl, helt, fin⟩ := h₁
  refine (WalksT.enumerate (prog := prog) (w := w) hh e it l hei hle hli items).self 0 _ _ _ hst ?_
  refine block_E hei hle hli hsz hcell hkind hx hx₂ hxx hh hst F N he₀ hi₀ hLe hLi off hJ hJl helt ?_
  intro D C h tk m' ys F' N' oD hn hC₀ hCL hCD offC hJn
  refine ⟨m', hn, fun h'' hs'' => fin D h'' tk ys (F'.change hs'' hCL hC₀) (fun p hp => ?_) oD hJn⟩
  refine ⟨hs''.extBut _ _ ?_ (N' p hp).1, (N' p hp).2⟩
  rcases List.mem_cons.mp hp with rfl | hp
  · exact Ne.symm hCD
  · exact offC p hp
end
end
noncomputable def catf (j : Nat) : Int := [1, 1, 2, 5, 14, 42].getD j 0
noncomputable def prods (k i : Nat) : List Int := (List.range i).map fun j => catf j * catf (k - 1 - j)
theorem prods_succ (k i : Nat) : prods k (i + 1) = prods k i ++ [catf i * catf (k - 1 - i)] := by
  unfold prods; rw [List.range_succ, List.map_append]; rfl
theorem cats_succ (k : Nat) : (List.range (k + 1)).map catf = (List.range k).map catf ++ [catf k] := by
  rw [List.range_succ, List.map_append]; rfl
theorem prods_len (k i : Nat) : (prods k i).length = i := by unfold prods; simp
theorem prods_sum {k : Nat} (h : k < 6) (h0 : 0 < k) : (prods k k).sum = catf k := by
  have : k = 1 ∨ k = 2 ∨ k = 3 ∨ k = 4 ∨ k = 5 := by omega
  rcases this with rfl | rfl | rfl | rfl | rfl <;> decide
theorem catf_lt {i : Nat} (h : i < 6) : (catf i).natAbs < 4611686018427387904 := by
  have : i = 0 ∨ i = 1 ∨ i = 2 ∨ i = 3 ∨ i = 4 ∨ i = 5 := by omega
  rcases this with rfl | rfl | rfl | rfl | rfl | rfl <;> decide
theorem ints_snoc0 {vs : List Value} {xs : List Int} {x : Int} {t : Tok} : IntsAre vs xs → IntsAre (vs ++ [.int x t]) (xs ++ [x])
  | .nil => .cons _ _ .nil
  | .cons n u h => .cons n u (ints_snoc0 h)
theorem ints_get {vs : List Value} {xs : List Int} (h : IntsAre vs xs) : ∀ {i : Nat} {x : Int}, xs[i]? = some x → ∃ t, vs[i]? = some (.int x t) := by
  induction h with
  | nil => intro i x e; simp at e
  | cons n u h ih =>
    intro i x e
    cases i with
    | zero => simp only [List.getElem?_cons_zero, Option.some.injEq] at e; subst e; exact ⟨u, rfl⟩
    | succ i => exact ih (by simpa using e)
noncomputable def TailP (h₀ : Heap) (L : Addr) (s : Shared) (led : List (Addr × Obj)) (s' : Shared) : Prop := ∃ h tk mm, s' = { s with heap := h, toks := tk } ∧ Fr h₀ L h mm ∧ News h₀ L h led
theorem cats_get {us : List Value} {k i : Nat} (h : IntsAre us ((List.range k).map catf)) (hi : i < k) : ∃ t, us[i]? = some (.int (catf i) t) :=
  ints_get h (by simp [hi])
theorem ar_w {k i : Nat} (hk : k < 6) (hi : i < k) : k - 1 - i < k ∧ k - 1 - i = ((k : Int) - 1 - (i : Int)).toNat ∧ (0 ≤ (k : Int) - 1 - (i : Int) ∧ (k : Int) - 1 - (i : Int) < 64) := ⟨by omega, by omega, by omega⟩
theorem ar_n {n k : Nat} (h : n + k = 6) (hk : k < 6) : n - 1 < n ∧ n - 1 + (k + 1) = 6 := by omega
theorem six {n k : Nat} (h : n + k = 6) (ck : ¬ k < 6) : k = 6 := by omega
set_option maxHeartbeats 2000000 in
theorem st3_ok (w : World) {prog p : Program} {loose : List Str} {mean : ExcName → Option Value} {mg mb : Str → Option Value} {base h₀ : Heap} {L fa cd : Addr} {m : Str → Option Value} {s : Shared} {QQ : Flow → Shared → Prop}
    {qual : Str} {params : Arguments} {body : List Stmt} {scope : Scope} {dV kV doc pm cdv ct oc : Value} {an od : Option Addr} {osl : Array (Option Value)} {st : Stmt}
    (hf : (Mine.hd.heap_39 w.params).lookup 203 = some ⟨oc, od, .func (fnOf (Str.ofString "law") qual params body scope dV kV doc pm an cdv ct), osl⟩) (he : body[3]? = some st)
    (B : Below callerA base [] h₀) (X : (Mine.hd.heap_39 w.params).In h₀) (T : Top p loose mean mg mb h₀) {ln n1 : Nat} {t : Tok} {o1 o2 o3 o4 : Obj} (e3 : o3.data = .cell (some (.ref ln))) (q1 : @Ne Nat (L + 1) ln) (q2 : @Ne Nat (L + 2) ln) (q3 : @Ne Nat (L + 3) ln) (q4 : @Ne Nat (L + 4) ln)
    (F : Fr h₀ L s.heap m) (N : News h₀ L s.heap [(ln, listOf [.int 1 t].toArray n1), (L + 1, o1), (L + 2, o2), (L + 3, o3), (L + 4, o4)])
    (hQ : ∀ h tk us nl, Fr h₀ L h m → News h₀ L h [(ln, listOf us.toArray nl), (L + 1, o1), (L + 2, o2), (L + 3, o3), (L + 4, o4)] → IntsAre us nums → QQ .next { s with heap := h, toks := tk }) :
    wpAny (model prog w) (callerA.deeper (envOfC (Str.ofString "law") scope L fa (.ref cd))) (exec st (envOfC (Str.ofString "law") scope L fa (.ref cd))) QQ (fun _ _ => False) s := by
  cases hf.symm.trans (show _ = some _ from by k_is)
  cases he
  k_with_none
  k_with "exec While Compare cons nil" => (refine halt ?_)
  k_with "exec While" => (refine halt ?_)
  k_steps
  unfold Halt
  rename Fr _ _ _ _ => F1
  rename News _ _ _ _ => N1
  refine While_inv2 (n₀ := 5) (fun n m' nx => m' = _ ∧ ∃ us c k, nx = [(_, listOf us.toArray c), (_, _), (_, _), (_, _), (_, _)] ∧ IntsAre us ((List.range k).map catf) ∧ n + k = 6 ∧ 0 < k)
    F1 N1 ⟨rfl, [_], _, 1, rfl, .cons _ _ .nil, rfl, by decide⟩ ?_
  rintro n m' nx hw tkw Fw Nw ⟨rfl, us, cc, k, rfl, hus, hnk, hk0⟩
  clear F1 N1
  have lus : us.length = k := by rw [hus.length]; simp
  k_with_none
  k_with "call builtin:len" => k_dflt (
    (refine' len_at ?k1 ?k2 ?k3 ?_)
    (case k1 => first | (rename News _ _ _ _ => Nq; first | exact News.isList Nq (.head _) | exact News.isList Nq (.tail _ (.head _)) | exact News.isList Nq (.tail _ (.tail _ (.head _))) | exact News.isList Nq (.tail _ (.tail _ (.tail _ (.head _))))) | assumption)
    (case k2 => assumption)
    (case k3 => omega)
    k_whole)
  k_with "ite" => first
    | (refine' ite_pos ?c ?_; (case c => first | (simp only [decide_eq_true_eq, beq_iff_eq, ne_eq, gt_iff_lt, ge_iff_le]; omega) | (simp; omega)))
    | (refine' ite_neg ?c ?_; (case c => first | (simp only [decide_eq_true_eq, beq_iff_eq, ne_eq, gt_iff_lt, ge_iff_le]; omega) | (simp; omega)))
  k_with "eval ListComp" => (refine halt ?_)
  k_with "call type:enumerate" => (refine halt ?_)
  k_with "call builtin:sum" => (refine halt ?_)
  k_with "call builtin:list.append" => (refine halt ?_)
  k_with "WhileStep2" => (refine halt ?_)
  k_with "EltE" => (refine halt ?_)
  k_with "subscriptTail" => k_dflt (
    (refine' item_at ?k1 ?k2 ?k4 ?_ ?k6)
    (case k1 => assumption)
    (case k2 => assumption)
    (case k4 => assumption)
    (case k6 => with_unfolding_all rfl)
    k_whole)
  k_with "binaryOp Mult int int" => (
    refine' mul_sm ?h1 ?_
    (case h1 => assumption))
  by_cases ck : k < 6
  · k_steps
    unfold Halt
    refine comp_enum (F₀ := by k_asm) (by with_unfolding_all rfl) (by decide) (by rfl) (by decide) (by rfl) (by rfl) (by decide) ?_
    k_steps
    unfold Halt
    rename Fr _ _ _ _ => F3
    rename News _ _ _ _ => N3
    have ab3 := F3.above
    have lt3 := F3.ns.lt
    refine enum_rows F3 (News.isList N3 (.head _)) ?_
    intro h4 hE4 hI4 hl4 F4 kp4 ne1 ne2 ne3 _ _
    refine ⟨_, _, _, us.toArray, _, fun i ys => IntsAre ys (prods k i), rfl, ne1, ne2, ne3, (by rw [List.size_toArray, lus]; exact len_sz (Nat.le_of_lt (Nat.lt_of_lt_of_le ck (by decide)))), rfl, ⟨⟨_, hE4⟩, hI4, hl4⟩, F4, (fun p hp => ⟨kp4 _ _ (N3 p hp).1, (N3 p hp).2⟩), Heap.get?_none_of_le (Nat.le_of_lt (Nat.lt_succ_of_lt (Nat.lt_of_le_of_lt ab3 lt3))), Heap.get?_none_of_le (Nat.le_of_lt (Nat.lt_of_le_of_lt ab3 lt3)), Nat.ne_of_lt (Nat.lt_succ_of_lt lt3), Nat.ne_of_lt lt3,
      (fun p hp => have q := Heap.lt_size (N3 p hp).1; ⟨Nat.ne_of_lt (Nat.lt_succ_of_lt q), Nat.ne_of_lt q⟩), .nil, (fun i ys hq => by rw [hq.length, prods_len]), ?elt, ?fin⟩
    case elt =>
      clear F3 N3 F4 hE4 hI4 hl4 kp4 ab3 lt3 ne1 ne2 ne3 hQ
      intro i v t C oC D h5 tk5 m₂ ys E' hi hv hJ hoC hm1 hm2 F5 N5 hl5 hh5
      rw [List.size_toArray, lus] at hi
      obtain ⟨tv, hv'⟩ := cats_get hus hi
      rw [List.getElem?_toArray, hv'] at hv
      cases hv
      obtain ⟨ek, ei, bk⟩ := ar_w ck hi
      obtain ⟨tu, hu'⟩ := cats_get (i := k - 1 - i) hus ek
      rw [ei] at hu'
      have hcb := catf_lt (Nat.lt_trans hi ck)
      k_steps
      unfold Halt
      refine ⟨_, rfl, ?_⟩
      show IntsAre _ (prods k (i + 1))
      rw [prods_succ, ei]
      exact ints_snoc hJ
    case fin =>
      rename Fr _ _ _ _ => F4
      clear F3 N3 F4 hE4 hI4 hl4
      intro D h6 tk6 ys F6 N6 oD hJ6
      rw [List.size_toArray, lus] at hJ6
      k_steps
      unfold Halt
      rename Fr _ _ _ _ => F7
      rename News _ _ _ _ => N7
      refine PyProof.Rows.LSm.sum_ints F7 N7 rfl (News.isList N7 (.head _)) hJ6 ?_
      intro h8 tk8 t8 F8 N8
      rw [prods_sum ck hk0]
      clear F7 N7
      k_steps
      unfold Halt
      rename Fr _ _ _ _ => F9
      rename News _ _ _ _ => N9
      refine append_gen [_, _, _, _] F9 N9 (.tail _ (.head _)) (allc ⟨.tail _ (.tail _ (.head _)), q1⟩ (allc ⟨.tail _ (.tail _ (.tail _ (.head _))), q2⟩ (allc ⟨.tail _ (.tail _ (.tail _ (.tail _ (.head _)))), q3⟩ (all1 ⟨.tail _ (.tail _ (.tail _ (.tail _ (.tail _ (.head _))))), q4⟩)))) (lus.symm ▸ Nat.le_of_lt (Nat.lt_of_lt_of_le ck (by decide))) ?_
      intro h10 F10 N10
      clear F9 N9
      k_steps
      unfold Halt
      rename Fr _ _ _ _ => F11
      rename News _ _ _ _ => N11
      dsimp only [WhileStep2]
      exact ⟨_, _, _, _, n - 1, rfl, F11, N11, (ar_n hnk ck).1, rfl, us ++ [.int (catf k) _], _, k + 1, rfl, by rw [cats_succ]; exact ints_snoc hus, (ar_n hnk ck).2, Nat.succ_pos _⟩
  · obtain rfl : k = 6 := six hnk ck
    rw [show (List.range 6).map catf = nums from by decide] at hus
    k_steps
    all_goals exact hQ _ _ _ _ (by k_asm) (by k_asm) hus
theorem len_map4 (l : List Int) : (List.map (fun k' => k') (List.take 4 l)).length ≤ 8 := by
  rw [List.length_map, List.length_take]; omega
theorem news_up7 {h₀ h : Heap} {L : Addr} {a b c d e f g : Addr × Obj} (N : News h₀ L h [a, b, c, d, e, f, g]) : News h₀ L h [a, b, g, f, e, d] := fun q hq => N q (by
  simp only [List.mem_cons] at hq ⊢
  rcases hq with h | h | h | h | h | h | h <;> simp only [h, true_or, or_true])
set_option maxHeartbeats 4000000 in
theorem law_holds : PySem.Challenge.rw_sa0100_01.Holds := hd (by
  k_go0
  (all_goals try k_fold)
  k_with_none
  refine wpAny_execs_cons ?_
  k_with "execs cons" => (refine halt ?_)
  k_steps
  unfold Halt
  rename Fr _ _ _ _ => F3
  rename News _ _ _ _ => N3
  rename IntsAre _ (List.map _ _) => hI8
  rename _ < _ ∧ _ < _ ∧ _ < _ ∧ _ => l9
  rename (_ ≠ _) ∧ (_ ≠ _) ∧ _ => o9
  rename World => w
  rename Top _ _ _ _ _ _ => T9
  rename Below _ _ _ _ => K9
  rename Frag.In _ _ => X9
  refine wpAny_noRaise ?_
  dsimp only
  refine wpAny_execs_cons (st1_ok w (by k_is) (by rfl) K9 X9 T9 hI8 (len_map4 _) (Nat.ne_of_gt l9.1) (allc ⟨Nat.ne_of_lt l9.2.2.2.2.2, o9.2.2.2.2⟩ (allc ⟨Nat.ne_of_lt l9.2.2.2.2.1, o9.2.2.2.1⟩ (allc ⟨Nat.ne_of_lt l9.2.2.2.1, o9.2.2.1⟩ (all1 ⟨Nat.ne_of_lt l9.2.2.1, o9.2.1⟩)))) F3 (news_up7 N3) (by assumption) (by assumption) rfl ?_)
  clear F3 N3
  intro h1 tk1 z k r tz o1 o2 t1 t2 hz hk hr F4 N4 d1 d2
  dsimp only
  refine wpAny_execs_cons ?_
  k_steps
  unfold Halt
  rename Fr _ _ _ _ => F3
  rename News _ _ _ _ => N3
  rename _ = Data.cell (some (Value.ref _)) => d3
  rename _ < _ ∧ _ < _ ∧ _ < _ ∧ _ => l8
  dsimp only
  refine wpAny_execs_cons (st3_ok w (by k_is) (by rfl) K9 X9 T9 d3 (Nat.ne_of_lt l8.1) (Nat.ne_of_lt l8.2.1) (Nat.ne_of_lt l8.2.2.1) (Nat.ne_of_lt l8.2.2.2) F3 N3 ?_)
  clear F3 N3
  intro h3 tk3 us nl F5 N5 hus
  dsimp only
  refine mid_ok w (by k_is) K9 X9 T9 (s := { heap := h3, gens := _, drawn := _, toks := tk3, os := _ }) hz hk F5 hr hus N5 (Nat.ne_of_gt l8.2.2.2) d2 d3 (by assumption) d1 (by rfl) ?_
  intro h tk m' F6 N6
  clear F5 N5
  k_with_none
  k_steps)
end Mine
theorem PySem.Challenge.cw_sa0100_01_holds : PySem.Challenge.rw_sa0100_01.Holds :=
  Mine.law_holds
