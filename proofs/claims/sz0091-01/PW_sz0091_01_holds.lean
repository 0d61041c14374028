import PyProof.Rows.All
import Wide.All
import OpenK.AllK
import Wide.FinOn
import PySem.Challenge.RW_sz0091_01
set_option Elab.async false
set_option linter.unusedVariables false
set_option linter.unusedSimpArgs false
set_option maxRecDepth 100000
set_option compiler.extract_closed false
namespace Mine
section
variable {α : Type} [DecidableEq α]
def chase : Nat → List (α × α) → α → Nat → List (α × α) × Nat
  | 0, ps, _, m => (ps, m)
  | f + 1, ps, k, m => match ps.find? (fun p => decide (p.1 = k)) with
    | none => (ps, m + 1)
    | some p => chase f (ps.filter fun q => decide (q.1 ≠ k)) p.2 (m + 1)
def chaseR (ps : List (α × α)) (k : α) (m : Nat) : List (α × α) × Nat := chase (ps.length + 1) ps k m
theorem strike_lt {ps : List (α × α)} {p : α × α} (h : p ∈ ps) : (ps.filter fun q => decide (q.1 ≠ p.1)).length < ps.length := by
  refine Nat.lt_of_le_of_ne (List.length_filter_le _ _) fun e => ?_
  have := (List.filter_eq_self.mp (List.filter_sublist.eq_of_length e)) p h
  simp at this
theorem chase_fuel : ∀ (f f' : Nat) (ps : List (α × α)) (k : α) (m : Nat), ps.length < f → ps.length < f' → chase f ps k m = chase f' ps k m
  | 0, _, _, _, _, h, _ => absurd h (Nat.not_lt_zero _)
  | _, 0, _, _, _, _, h => absurd h (Nat.not_lt_zero _)
  | f + 1, f' + 1, ps, k, m, h, h' => by
    unfold chase
    cases q : ps.find? (fun p => decide (p.1 = k)) with
    | none => rfl
    | some p =>
      have hp := List.mem_of_find?_eq_some q
      have hk : p.1 = k := by simpa using List.find?_some q
      subst hk
      have := strike_lt hp
      exact chase_fuel f f' _ _ _ (by omega) (by omega)
theorem chaseR_none {ps : List (α × α)} {k : α} {m : Nat} (h : ps.find? (fun p => decide (p.1 = k)) = none) : chaseR ps k m = (ps, m + 1) := by
  unfold chaseR chase; rw [h]
theorem chaseR_some {ps : List (α × α)} {k x : α} {m : Nat} (h : ps.find? (fun p => decide (p.1 = k)) = some (k, x)) : chaseR ps k m = chaseR (ps.filter fun q => decide (q.1 ≠ k)) x (m + 1) := by
  unfold chaseR
  rw [chase, h]
  have := strike_lt (List.mem_of_find?_eq_some h)
  exact chase_fuel _ _ _ _ _ (by simpa using this) (Nat.lt_succ_self _)
theorem chase_len : ∀ (f : Nat) (ps : List (α × α)) (k : α) (m : Nat), (chase f ps k m).1.length ≤ ps.length ∧ m ≤ (chase f ps k m).2
  | 0, _, _, _ => ⟨Nat.le_refl _, Nat.le_refl _⟩
  | f + 1, ps, k, m => by
    unfold chase
    cases q : ps.find? (fun p => decide (p.1 = k)) with
    | none => exact ⟨Nat.le_refl _, Nat.le_succ _⟩
    | some p =>
      have := chase_len f (ps.filter fun q => decide (q.1 ≠ k)) p.2 (m + 1)
      exact ⟨Nat.le_trans this.1 (List.length_filter_le _ _), Nat.le_trans (Nat.le_succ m) this.2⟩
theorem chaseR_lt (p : α × α) (r : List (α × α)) (m : Nat) : (chaseR (p :: r) p.1 m).1.length < (p :: r).length := by
  have h : (p :: r).find? (fun q => decide (q.1 = p.1)) = some (p.1, p.2) := by simp
  rw [chaseR_some h]
  exact Nat.lt_of_le_of_lt (chase_len _ _ _ _).1 (strike_lt (.head _))
def roundsF : Nat → List (α × α) → List Nat
  | 0, _ => []
  | _, [] => []
  | f + 1, p :: r => ((chaseR (p :: r) p.1 0).2 - 1) :: roundsF f (chaseR (p :: r) p.1 0).1
def roundsR (ps : List (α × α)) : List Nat := roundsF ps.length ps
theorem roundsF_fuel : ∀ (f f' : Nat) (ps : List (α × α)), ps.length ≤ f → ps.length ≤ f' → roundsF f ps = roundsF f' ps
  | 0, 0, _, _, _ => rfl
  | 0, _ + 1, [], _, _ => by simp [roundsF]
  | _ + 1, 0, [], _, _ => by simp [roundsF]
  | _ + 1, _ + 1, [], _, _ => by simp [roundsF]
  | 0, _, _ :: _, h, _ => absurd h (Nat.not_succ_le_zero _)
  | _, 0, _ :: _, _, h => absurd h (Nat.not_succ_le_zero _)
  | f + 1, f' + 1, p :: r, h, h' => by
    have := chaseR_lt p r 0
    simp only [roundsF]
    rw [roundsF_fuel f f' _ (by simp at *; omega) (by simp at *; omega)]
theorem roundsR_nil : roundsR ([] : List (α × α)) = [] := rfl
theorem roundsR_cons (p : α × α) (r : List (α × α)) : roundsR (p :: r) = ((chaseR (p :: r) p.1 0).2 - 1) :: roundsR (chaseR (p :: r) p.1 0).1 := by
  have := chaseR_lt p r 0
  unfold roundsR
  rw [List.length_cons, roundsF]
  rw [roundsF_fuel r.length _ _ (by simp at this; omega) (Nat.le_refl _)]
theorem roundsF_len : ∀ (f : Nat) (ps : List (α × α)), (roundsF f ps).length ≤ f
  | 0, _ => Nat.le_refl _
  | _ + 1, [] => Nat.zero_le _
  | f + 1, p :: r => Nat.succ_le_succ (roundsF_len f _)
theorem chaseR_pos (ps : List (α × α)) (k : α) (m : Nat) : m + 1 ≤ (chaseR ps k m).2 := by
  cases q : ps.find? (fun p => decide (p.1 = k)) with
  | none => rw [chaseR_none q]; exact Nat.le_refl _
  | some p =>
    have hk : p.1 = k := by simpa using List.find?_some q
    subst hk
    rw [chaseR_some q]; exact (chase_len _ _ _ _).2
end
theorem lt6 : ∀ k : Nat, k < 6 → k = 0 ∨ k = 1 ∨ k = 2 ∨ k = 3 ∨ k = 4 ∨ k = 5 := by decide
theorem in26 : ∀ n : Nat, n < 7 → 2 ≤ n → n = 2 ∨ n = 3 ∨ n = 4 ∨ n = 5 ∨ n = 6 := by decide
theorem in16 : ∀ n : Nat, n < 7 → 1 ≤ n → n = 1 ∨ n = 2 ∨ n = 3 ∨ n = 4 ∨ n = 5 ∨ n = 6 := by decide
def inv : List Nat → Nat
  | [] => 0
  | a :: r => (r.filter (· < a)).length + inv r
def insAll (a : Nat) : List Nat → List (List Nat)
  | [] => [[a]]
  | b :: r => (a :: b :: r) :: (insAll a r).map (b :: ·)
def orders : List Nat → List (List Nat)
  | [] => [[]]
  | a :: r => (orders r).flatMap (insAll a)
theorem mem_insAll (a : Nat) (t : List Nat) : ∀ s, s ++ a :: t ∈ insAll a (s ++ t)
  | [] => by cases t <;> simp [insAll]
  | b :: s => by
    simp only [List.cons_append, insAll, List.mem_cons, List.mem_map]
    exact .inr ⟨_, mem_insAll a t s, rfl⟩
theorem mem_orders : ∀ {r l : List Nat}, l.Perm r → l ∈ orders r
  | [], l, h => by rw [List.perm_nil.mp h]; exact .head _
  | a :: r, l, h => by
    obtain ⟨s, t, rfl⟩ := List.append_of_mem (h.symm.subset (.head _) : a ∈ l)
    have h2 : (s ++ t).Perm r := List.Perm.cons_inv (List.perm_middle.symm.trans h)
    exact List.mem_flatMap.mpr ⟨_, mem_orders h2, mem_insAll a t s⟩
def app (f : List Nat) (k : Nat) : Nat := f.getD k 0
def pw (f : List Nat) : Nat → List Nat
  | 0 => List.range f.length
  | t + 1 => (pw f t).map (app f)
def prN (f : List Nat) : List (Nat × Nat) := (List.range f.length).zip f
def still (f : List Nat) (t : Nat) : Nat := ((List.range f.length).zip (pw f t)).countP fun p => p.1 == p.2
def good (n : Nat) (f : List Nat) : Bool :=
  let R := roundsR (prN f)
  R.sum == n && R.all (fun r => decide (1 ≤ r) && decide (r ≤ 6)) && decide (R.length ≤ n) && (inv f % 2 == (n - R.length) % 2) &&
  ((List.range 6).all fun t => (decide (pw f (t + 1) = List.range n)) == (R.all fun r => (t + 1) % r == 0)) &&
  ((List.range 6).any fun t => decide (pw f (t + 1) = List.range n)) &&
  (still f 1 == R.count 1) && (still f 2 == 2 * R.count 2 + R.count 1) && (still f 3 == 3 * R.count 3 + R.count 1) && (still f 4 == 4 * R.count 4 + still f 2) && (still f 5 == 5 * R.count 5 + R.count 1) &&
  (still f 6 + R.count 1 == 6 * R.count 6 + still f 2 + still f 3)
theorem good2 : (orders (List.range 2)).all (good 2) = true := by decide +kernel
theorem good3 : (orders (List.range 3)).all (good 3) = true := by decide +kernel
theorem good4 : (orders (List.range 4)).all (good 4) = true := by decide +kernel
theorem good5 : (orders (List.range 5)).all (good 5) = true := by decide +kernel
theorem all_cut {α : Type} {p : α → Bool} {l : List α} (n : Nat) (h1 : (l.take n).all p = true) (h2 : (l.drop n).all p = true) : l.all p = true := by
  rw [← List.take_append_drop n l, List.all_append, h1, h2]; rfl
set_option maxRecDepth 100000 in
theorem good6_0 : ((orders (List.range 6)).take 90).all (good 6) = true := by decide +kernel
set_option maxRecDepth 100000 in
theorem good6_1 : (((orders (List.range 6)).drop 90).take 90).all (good 6) = true := by decide +kernel
set_option maxRecDepth 100000 in
theorem good6_2 : (((orders (List.range 6)).drop 180).take 90).all (good 6) = true := by decide +kernel
set_option maxRecDepth 100000 in
theorem good6_3 : (((orders (List.range 6)).drop 270).take 90).all (good 6) = true := by decide +kernel
set_option maxRecDepth 100000 in
theorem good6_4 : (((orders (List.range 6)).drop 360).take 90).all (good 6) = true := by decide +kernel
set_option maxRecDepth 100000 in
theorem good6_5 : (((orders (List.range 6)).drop 450).take 90).all (good 6) = true := by decide +kernel
set_option maxRecDepth 100000 in
theorem good6_6 : (((orders (List.range 6)).drop 540).take 90).all (good 6) = true := by decide +kernel
set_option maxRecDepth 100000 in
theorem good6_7 : (((orders (List.range 6)).drop 630).take 90).all (good 6) = true := by decide +kernel
set_option maxRecDepth 100000 in
theorem good6_8 : ((orders (List.range 6)).drop 720).all (good 6) = true := by decide +kernel
theorem cut_on {α : Type} {p : α → Bool} {l : List α} {k : Nat} (h1 : ((l.drop k).take 90).all p = true) (h2 : (l.drop (k + 90)).all p = true) : (l.drop k).all p = true :=
  all_cut 90 h1 (by rw [List.drop_drop]; exact h2)
theorem good6 : (orders (List.range 6)).all (good 6) = true :=
  all_cut 90 good6_0 (cut_on good6_1 (cut_on good6_2 (cut_on good6_3 (cut_on good6_4 (cut_on good6_5 (cut_on good6_6 (cut_on good6_7 good6_8)))))))
theorem good_all {n : Nat} (h2 : 2 ≤ n) (h6 : n ≤ 6) {f : List Nat} (hf : f.Perm (List.range n)) : good n f = true := by
  have h := mem_orders hf
  have := in26 n (Nat.lt_succ_of_le h6) h2
  rcases this with rfl | rfl | rfl | rfl | rfl
  · exact List.all_eq_true.mp good2 f h
  · exact List.all_eq_true.mp good3 f h
  · exact List.all_eq_true.mp good4 f h
  · exact List.all_eq_true.mp good5 f h
  · exact List.all_eq_true.mp good6 f h
end Mine
open PySem PySem.W PySem.Calls PyProof.Rows
set_option maxHeartbeats 4000000
namespace Mine
-- hd is no part of the proof: it holds of nothing (its premise is False). It is here for the two definitions that the kit's word lays on the way,
-- hd.heap_1 and hd.view_1 (the written part of the heap, the text's top), upon which the contracts below stand.
section
local macro_rules | `(tactic| refine $_) => `(tactic| exact False.elim (by assumption))
theorem hd : False → PySem.Challenge.rw_sz0091_01.row.Holds := by
  intro hF
  k_head
end
section
abbrev AA (dp un : Nat) (fr : Option (List Env)) (gd : Option (List Code)) : Around := { handled := none, depth := dp, frames := fr, guards := gd, units := un }

theorem room1 {u a c l : Nat} (h : u + c < l) (k : a ≤ c) : u + a < l := by omega
theorem room2 {u a b c l : Nat} (h : u + c < l) (k : a + b ≤ c) : u + a + b < l := by omega
theorem room3 {u a b d c l : Nat} (h : u + c < l) (k : a + b + d ≤ c) : u + a + b + d < l := by omega
theorem tkpos {a c : Nat} (h : a + 1 ≤ c) : 1 ≤ c := by omega
theorem pk1 {p a r : Prop} (h : p ∧ a ∧ r) : a := h.2.1
theorem pk2 {p q a r : Prop} (h : p ∧ q ∧ a ∧ r) : a := h.2.2.1
theorem pk3 {p q s a r : Prop} (h : p ∧ q ∧ s ∧ a ∧ r) : a := h.2.2.2.1
theorem pk4 {p q s t a r : Prop} (h : p ∧ q ∧ s ∧ t ∧ a ∧ r) : a := h.2.2.2.2.1
theorem pk5 {p q s t v a r : Prop} (h : p ∧ q ∧ s ∧ t ∧ v ∧ a ∧ r) : a := h.2.2.2.2.2.1
theorem pk6 {p q s t v w a r : Prop} (h : p ∧ q ∧ s ∧ t ∧ v ∧ w ∧ a ∧ r) : a := h.2.2.2.2.2.2.1
theorem pk7 {p q s t v w x a r : Prop} (h : p ∧ q ∧ s ∧ t ∧ v ∧ w ∧ x ∧ a ∧ r) : a := h.2.2.2.2.2.2.2.1
theorem pk8 {p q s t v w x y a r : Prop} (h : p ∧ q ∧ s ∧ t ∧ v ∧ w ∧ x ∧ y ∧ a ∧ r) : a := h.2.2.2.2.2.2.2.2.1
theorem pl2 {p q a : Prop} (h : p ∧ q ∧ a) : a := h.2.2
theorem pl3 {p q s a : Prop} (h : p ∧ q ∧ s ∧ a) : a := h.2.2.2
theorem pl4 {p q s t a : Prop} (h : p ∧ q ∧ s ∧ t ∧ a) : a := h.2.2.2.2
theorem pl5 {p q s t v a : Prop} (h : p ∧ q ∧ s ∧ t ∧ v ∧ a) : a := h.2.2.2.2.2
theorem pl6 {p q s t v w a : Prop} (h : p ∧ q ∧ s ∧ t ∧ v ∧ w ∧ a) : a := h.2.2.2.2.2.2
theorem pl7 {p q s t v w x a : Prop} (h : p ∧ q ∧ s ∧ t ∧ v ∧ w ∧ x ∧ a) : a := h.2.2.2.2.2.2.2
theorem pl8 {p q s t v w x y a : Prop} (h : p ∧ q ∧ s ∧ t ∧ v ∧ w ∧ x ∧ y ∧ a) : a := h.2.2.2.2.2.2.2.2
theorem sub_nil {α : Type} {P : α → Prop} : ∀ p ∈ ([] : List α), P p := fun _ h => nomatch h
theorem sub_cons {α : Type} {P : α → Prop} {a : α} {l : List α} (h : P a) (r : ∀ p ∈ l, P p) : ∀ p ∈ a :: l, P p := fun p hp => (List.mem_cons.mp hp).elim (fun e => e ▸ h) (fun q => r p q)
def Led (h base : Heap) (l : List (Addr × Obj)) : Prop := ∀ p ∈ l, h.get? p.1 = some p.2 ∧ base.get? p.1 = none
theorem Led.nil {h base : Heap} : Led h base [] := fun _ hp => nomatch hp
theorem Led.cons {h base : Heap} {a : Addr} {o : Obj} {l : List (Addr × Obj)} (h1 : h.get? a = some o) (h2 : base.get? a = none) (r : Led h base l) : Led h base ((a, o) :: l) := fun p hp => by
  rcases List.mem_cons.mp hp with rfl | hp
  · exact ⟨h1, h2⟩
  · exact r p hp

theorem gen_tk {α : Type} {M : Model} {A : Around} {t : Sem α} {Q : α → Shared → Prop} {E : Value → Shared → Prop} {h : Heap} {g : Array GenState} {d : Drawn} {T : Nat} {o : OsState} (k : ∀ tk, @LE.le Nat _ T tk → wpAny M A t Q E ⟨h, g, d, tk, o⟩) : wpAny M A t Q E ⟨h, g, d, T, o⟩ := k T (Nat.le_refl T)

section
variable {prog : Program} {w : World} {A : Around} {s : Shared} {base h₀ : Heap} {L : Addr} {m : Str → Option Value} {news : List (Addr × Obj)}

theorem enter0 {K : Frag} {p : Program} {loose : List Str} {mean : ExcName → Option Value} {mg mb : Str → Option Value} {R : Result → Shared → Prop} {name qual : Str} {params : Arguments} {body : List Stmt} {scope : Scope} {dV kV doc pm cdv ct oc : Value} {an od : Option Addr} {osl : Array (Option Value)} {f : Addr} {args : Args} {binds : List (Str × Value)}
    {led : List (Addr × Obj)} (X : K.In base) (T : Top p loose mean mg mb base) (st : base.StaysIn s.heap) (hl : Led s.heap base led)
    (ho : K.lookup f = some ⟨oc, od, .func (fnOf name qual params body scope dV kV doc pm an cdv ct), osl⟩) (hcd : codeIn K cdv qual = true) (hroom : A.depth < recursionLimit)
    (hbind : BindsTo s (fnOf name qual params body scope dV kV doc pm an cdv ct) args binds) (hloc : ∀ y ∈ binds, scope.names.lookup y.1 = some .local)
    (hco : scope.isCoroutine = false) (hgen : scope.isGenerator = false) (hk : scope.kind = .function) (hcell : ∀ x ∈ scope.names, x.2 ≠ .cell)
    (h : ∀ g L' h₁, L' = s.heap.objs.size → base.StaysIn g → GSub s.heap g (led.map (·.1)) → g.StaysIn s.heap → Fr g L' h₁ (fun y => binds.reverse.lookup y) → News g L' h₁ led → K.In g → Top p loose mean mg mb g →
      wpAny (model prog w) (A.deeper (envOf qual scope L' f cdv)) (execs body (envOf qual scope L' f cdv))
        (fun fl s' => R (.ok (.ret (match fl with | .ret v => v | _ => .none))) s')
        (fun e s' => wpAny (model prog w) (A.deeper (envOf qual scope L' f cdv)) (leaving (envOf qual scope L' f cdv) e) (fun _ s'' => R (.error e) s'') (fun e' s'' => R (.error e') s'') s')
        { s with heap := h₁, toks := s.toks + binds.length }) :
    codeAny (model prog w) A (.call (.ref f) args) R s := by
  have nm : ∀ b o, base.get? b = some o → b ∉ led.map (·.1) := fun b o e q => by
    obtain ⟨p, hp, rfl⟩ := List.mem_map.mp q
    rw [(hl p hp).2] at e; cases e
  have sg : base.StaysIn (hideAll s.heap (led.map (·.1))) := fun b o e => hideAll_get _ (st b o e) (nm b o e)
  refine codeAny_call_def (fd := fnOf name qual params body scope dV kV doc pm an cdv ct) (body := body) (binds := binds) hroom ((X.keeps st) _ _ ho) rfl (T.nolimit.keeps st) (codeRec_of (X.keeps st) hcd) rfl hbind hcell hloc (fun h₁ hns hk₁ => ?_) hco hgen hk
  exact h _ s.heap.objs.size h₁ rfl sg (fun b o e n => hideAll_get _ e n) (fun b o e => of_hideAll _ e) ⟨hns, fun b o e => hk₁ b o (of_hideAll _ e), Nat.le_of_eq (hideAll_size _ _)⟩
    (fun p hp => ⟨hk₁ _ _ (hl p hp).1, Nat.ne_of_lt (Heap.lt_size (hl p hp).1), hideAll_none _ (List.mem_map_of_mem hp)⟩) (X.keeps sg) (T.keeps sg)

theorem enter0C {K : Frag} {p : Program} {loose : List Str} {mean : ExcName → Option Value} {mg mb : Str → Option Value} {R : Result → Shared → Prop} {name qual : Str} {params : Arguments} {body : List Stmt} {scope : Scope} {dV kV doc pm cdv ct oc : Value} {an od : Option Addr} {osl : Array (Option Value)} {f : Addr} {args : Args} {binds : List (Str × Value)}
    {led : List (Addr × Obj)} (X : K.In base) (T : Top p loose mean mg mb base) (st : base.StaysIn s.heap) (hl : Led s.heap base led)
    (ho : K.lookup f = some ⟨oc, od, .func (fnOf name qual params body scope dV kV doc pm an cdv ct), osl⟩) (hcd : codeIn K cdv qual = true) (hroom : A.depth < recursionLimit)
    (hbind : BindsTo s (fnOf name qual params body scope dV kV doc pm an cdv ct) args binds) (hkind : (binds.all fun y => scope.names.lookup y.1 == some .local || scope.names.lookup y.1 == some .cell) = true)
    (hnd : ((cellsFrom 0 scope.names []).map (·.1)).Nodup)
    (hco : scope.isCoroutine = false) (hgen : scope.isGenerator = false) (hk : scope.kind = .function)
    (h : ∀ g L' h₁ tk cells, L' = s.heap.objs.size → base.StaysIn g → GSub s.heap g (led.map (·.1)) → g.StaysIn s.heap → Fr g L' h₁ (bindL (envOfC qual scope L' f cdv).kindOf binds fun _ => none) → News g L' h₁ (cells ++ led) →
      CellsAre (bindC (envOfC qual scope L' f cdv).kindOf binds fun _ => none) (cellsFrom (L' + 1) scope.names []) cells → K.In g → Top p loose mean mg mb g →
      wpAny (model prog w) (A.deeper (envOfC qual scope L' f cdv)) (execs body (envOfC qual scope L' f cdv))
        (fun fl s' => R (.ok (.ret (match fl with | .ret v => v | _ => .none))) s')
        (fun e s' => wpAny (model prog w) (A.deeper (envOfC qual scope L' f cdv)) (leaving (envOfC qual scope L' f cdv) e) (fun _ s'' => R (.error e) s'') (fun e' s'' => R (.error e') s'') s')
        { s with heap := h₁, toks := tk }) :
    codeAny (model prog w) A (.call (.ref f) args) R s := by
  have nm : ∀ b o, base.get? b = some o → b ∉ led.map (·.1) := fun b o e q => by
    obtain ⟨p, hp, rfl⟩ := List.mem_map.mp q
    rw [(hl p hp).2] at e; cases e
  have sg : base.StaysIn (hideAll s.heap (led.map (·.1))) := fun b o e => hideAll_get _ (st b o e) (nm b o e)
  refine codeAny_call_function hroom ((X.keeps st) _ _ ho) rfl hco hgen rfl (codeRec_of (X.keeps st) hcd) (hbind _ _ _ _ ?_)
  refine wpAny_newFunctionEnv_cells hk (kindsX hkind _) fun env' he s' x => ?_
  subst he
  refine ⟨(T.nolimit.keeps st).keeps x.toInCall.keep, codeAny_func ?_⟩
  obtain ⟨h₁, tk, rfl, _⟩ := x.done
  have hk₁ := x.toInCall.keep
  obtain ⟨cells, NC, Y⟩ := Cl.news (h₀ := s.heap) (Nat.le_refl _) fun n c hm => ⟨x.cell n c (lookup_of_mem_nodup (cellsFrom_names scope.names 0 (s.heap.objs.size + 1) [] [] rfl ▸ hnd) hm), x.above n c hm⟩
  refine h _ s.heap.objs.size h₁ tk cells rfl sg (fun b o e n => hideAll_get _ e n) (fun b o e => of_hideAll _ e) ⟨x.toInCall.ns, fun b o e => hk₁ b o (of_hideAll _ e), Nat.le_of_eq (hideAll_size _ _)⟩ (fun p hp => ?_) Y (X.keeps sg) (T.keeps sg)
  rcases List.mem_append.mp hp with hp | hp
  · refine ⟨(NC p hp).1, (NC p hp).2.1, ?_⟩
    cases q : (hideAll s.heap (led.map (·.1))).get? p.1 with
    | none => rfl
    | some o => have := of_hideAll _ q; rw [(NC p hp).2.2] at this; cases this
  · exact ⟨hk₁ _ _ (hl p hp).1, Nat.ne_of_lt (Heap.lt_size (hl p hp).1), hideAll_none _ (List.mem_map_of_mem hp)⟩

theorem enter1 {K : Frag} {p : Program} {loose : List Str} {mean : ExcName → Option Value} {mg mb : Str → Option Value} {R : Result → Shared → Prop} {name qual : Str} {params : Arguments} {body : List Stmt} {scope : Scope} {dV kV doc pm cdv ct oc : Value} {an od : Option Addr} {osl : Array (Option Value)} {f : Addr} {args : Args} {binds : List (Str × Value)}
    (F : Fr h₀ L s.heap m) (X₀ : K.In h₀) (N : News h₀ L s.heap news) (T : Top p loose mean mg mb h₀)
    (ho : K.lookup f = some ⟨oc, od, .func (fnOf name qual params body scope dV kV doc pm an cdv ct), osl⟩) (hcd : codeIn K cdv qual = true) (hroom : A.depth < recursionLimit)
    (hbind : BindsTo s (fnOf name qual params body scope dV kV doc pm an cdv ct) args binds) (hloc : ∀ y ∈ binds, scope.names.lookup y.1 = some .local)
    (h : ∀ g L' h₁, Fr h₀ L g m → Fr g L' h₁ (fun y => binds.reverse.lookup y) → News g L' h₁ news → K.In g → Top p loose mean mg mb g → GSub s.heap g (news.map (·.1)) →
      wpAny (model prog w) (A.deeper (envOf qual scope L' f cdv)) (execs body (envOf qual scope L' f cdv))
        (fun fl s' => LeaveK h₀ L m g R (match fl with | .ret v => v | _ => .none) s')
        (fun e s' => wpAny (model prog w) (A.deeper (envOf qual scope L' f cdv)) (leaving (envOf qual scope L' f cdv) e) (fun _ s'' => R (.error e) s'') (fun e' s'' => R (.error e') s'') s')
        { s with heap := h₁, toks := s.toks + binds.length })
    (hco : scope.isCoroutine = false) (hgen : scope.isGenerator = false) (hk : scope.kind = .function)
    (hcell : ∀ x ∈ scope.names, x.2 ≠ .cell) : codeAny (model prog w) A (.call (.ref f) args) R s := by
  have nm : ∀ b o, h₀.get? b = some o → b ∉ news.map (·.1) := fun b o e q => by
    obtain ⟨p, hp, rfl⟩ := List.mem_map.mp q
    rw [(N p hp).2.2] at e; cases e
  have st : h₀.StaysIn (hideAll s.heap (news.map (·.1))) := fun b o e => hideAll_get _ (F.keep b o e) (nm b o e)
  obtain ⟨oL, es, ep, hL, hLd, hLk, hLf⟩ := F.ns
  have nL : L ∉ news.map (·.1) := fun q => by
    obtain ⟨p, hp, e⟩ := List.mem_map.mp q
    exact (N p hp).2.1 e
  have hLg := hideAll_get (news.map (·.1)) hL nL
  refine codeAny_call_def (fd := fnOf name qual params body scope dV kV doc pm an cdv ct) (body := body) (binds := binds) hroom ((X₀.keeps F.keep) _ _ ho) rfl (T.nolimit.keeps F.keep) (codeRec_of (X₀.keeps F.keep) hcd) rfl hbind hcell hloc (fun h₁ hns hk₁ => ?_) hco hgen hk
  refine wpAny_mono (h _ s.heap.objs.size h₁ ⟨⟨oL, es, ep, hLg, hLd, hLk, hLf⟩, st, F.above⟩ ⟨hns, fun b o e => hk₁ b o (of_hideAll _ e), Nat.le_of_eq (hideAll_size _ _)⟩
    (fun p hp => ⟨hk₁ _ _ (N p hp).1, Nat.ne_of_lt (Heap.lt_size (N p hp).1), hideAll_none _ (List.mem_map_of_mem hp)⟩) (X₀.keeps st) (T.keeps st) (fun b o e n => hideAll_get _ e n)) (fun fl s' hl => ?_) fun _ _ y => y
  obtain ⟨L', m', news', F', N', k⟩ := hl
  refine k ⟨⟨oL, es, ep, F'.keep L oL hLg, hLd, hLk, hLf⟩, fun b o e => F'.keep b o (st b o e), F.above⟩ fun p hp => ⟨(N' p hp).1, fun q => ?_, ?_⟩
  · have := (N' p hp).2.2; rw [q, hLg] at this; cases this
  · cases q : h₀.get? p.1 with
    | none => rfl
    | some o => have := (N' p hp).2.2; rw [st _ _ q] at this; cases this
end

abbrev TP (mean : ExcName → Option Value) (mg mb : Str → Option Value) (h : Heap) : Prop := Top hd.view_1 (looseW hd.view_1 [Str.ofString "Limits"]) mean mg mb h

def KeepsBut (S : List Addr) (h h' : Heap) : Prop := ∀ b o, h.get? b = some o → b ∉ S → h'.get? b = some o
theorem keeps_end {S : List Addr} {h base g h' : Heap} {led news : List (Addr × Obj)} {L : Addr} {m : Str → Option Value} (hl : Led h base led) (G : GSub h g (led.map (·.1))) (F : Fr g L h' m) (N : News g L h' news) (hs : ∀ p ∈ led, p.1 ∈ S ∨ p ∈ news) : KeepsBut S h h' := fun b o e hb => by
  by_cases q : b ∈ led.map (·.1)
  · obtain ⟨p, hp, rfl⟩ := List.mem_map.mp q
    rcases hs p hp with h1 | h1
    · exact absurd h1 hb
    · have h2 := (hl p hp).1
      rw [e] at h2; cases h2
      exact (N p h1).1
  · exact F.keep b o (G b o e q)
theorem stays_end {h base g h' : Heap} {led news : List (Addr × Obj)} {L : Addr} {m : Str → Option Value} (hl : Led h base led) (G : GSub h g (led.map (·.1))) (F : Fr g L h' m) (N : News g L h' news) (hs : ∀ p ∈ led, p ∈ news) : h.StaysIn h' :=
  fun b o e => keeps_end (S := []) hl G F N (fun p hp => .inr (hs p hp)) b o e (by simp)

inductive ScD (num : Int) (cnt : Int) (v : Value) : Obj → Prop
  | mk {h0 h1 h2 h3 h4 h5 h6 h7 : Int} {t0 t1 t2 t3 t4 t5 t6 t7 tn tc : Tok} {wk : Addr} : ScD num cnt v (dictOf [⟨h0, .str "number" t0, .int num tn⟩, ⟨h1, .str "count" t1, .int cnt tc⟩, ⟨h2, .str "blessed" t2, .none⟩, ⟨h3, .str "weak" t3, .ref wk⟩,
      ⟨h4, .str "is_destroyed" t4, .bool false⟩, ⟨h5, .str "is_freed" t5, .bool false⟩, ⟨h6, .str "value" t6, v⟩, ⟨h7, .str "magic" t7, .none⟩] 8)
inductive HaD (T : Addr) : Obj → Prop
  | mk {h0 h1 h2 h3 h4 h5 h6 h7 h8 : Int} {num cnt : Int} {t0 t1 t2 t3 t4 t5 t6 t7 t8 tn tc ta : Tok} {wk : Addr} : HaD T (dictOf [⟨h0, .str "number" t0, .int num tn⟩, ⟨h1, .str "count" t1, .int cnt tc⟩, ⟨h2, .str "blessed" t2, .none⟩, ⟨h3, .str "weak" t3, .ref wk⟩,
      ⟨h4, .str "is_destroyed" t4, .bool false⟩, ⟨h5, .str "is_freed" t5, .bool false⟩, ⟨h6, .str "table" t6, .ref T⟩, ⟨h7, .str "at" t7, .int 0 ta⟩, ⟨h8, .str "tied" t8, .none⟩] 9)

structure Ent where
  k : Str
  x : Str
  sc : Addr
  sd : Addr
def look (es : List Ent) (k : Str) : Str := match es.find? (fun e => decide (e.k = k)) with | some e => e.x | none => ⟨#[]⟩
structure Tab (w : World) (base h : Heap) (tb : Addr) (es : List Ent) : Prop where
  dict : h.DictOf (PySem.strKind PySem.Challenge.rw_sz0091_01.row.prog w) tb (es.map fun e => (e.k, Value.ref e.sc))
  sys : (tb == sysModules) = false
  new : base.get? tb = none
  sc : ∀ e ∈ es, h.get? e.sc = some (instObj 66 e.sd)
  sd : ∀ e ∈ es, ∃ od num t, h.get? e.sd = some od ∧ ScD num 1 (.str e.x t) od
  nsc : ∀ e ∈ es, base.get? e.sc = none
  nsd : ∀ e ∈ es, base.get? e.sd = none
  sdn : (es.map (·.sd)).Nodup
  sdt : ∀ e ∈ es, e.sd ≠ tb
theorem dict_at {w : World} {K : Type} [DecidableEq K] {prog : Program} {knd : KeyKind prog w K} {h h' : Heap} {a : Addr} {kvs : List (K × Value)} (hd : h.DictOf knd a kvs) (k : ∀ {b : Addr} {o : Obj}, h.get? b = some o → h'.get? b = some o) : h'.DictOf knd a kvs :=
  let ⟨o, es, ep, ho, r⟩ := hd; ⟨o, es, ep, k ho, r⟩
theorem dict_nodup {w : World} {K : Type} [DecidableEq K] {prog : Program} {knd : KeyKind prog w K} {h : Heap} {a : Addr} {kvs : List (K × Value)} (hd : h.DictOf knd a kvs) : (kvs.map (·.1)).Nodup := let ⟨_, _, _, _, _, _, _, _, hn⟩ := hd; hn
theorem Tab.nodup {w : World} {base h : Heap} {tb : Addr} {es : List Ent} (T : Tab w base h tb es) : (es.map (·.k)).Nodup := by
  have := dict_nodup T.dict
  rwa [List.map_map] at this
theorem Tab.find {w : World} {base h : Heap} {tb : Addr} {es : List Ent} (T : Tab w base h tb es) {e : Ent} (he : e ∈ es) : valueAt (es.map fun e => (e.k, Value.ref e.sc)) e.k = some (.ref e.sc) ∧ look es e.k = e.x := by
  have hn := T.nodup
  clear T
  induction es with
  | nil => cases he
  | cons a r ih =>
    rw [List.map_cons, List.nodup_cons] at hn
    rcases List.mem_cons.mp he with rfl | he
    · simp [valueAt, look]
    · have hne : ¬ a.k = e.k := fun q => hn.1 (q ▸ List.mem_map.mpr ⟨e, he, rfl⟩)
      have := ih he hn.2
      simpa [valueAt, look, List.find?_cons, hne] using this
theorem strs_get {vs : List Value} {xs : List Str} (h : StrsAre vs xs) : ∀ {i : Nat} {v : Value}, vs[i]? = some v → ∃ x t, v = .str x t ∧ xs[i]? = some x := by
  induction h with
  | nil => intro i v e; simp at e
  | cons y t _ ih =>
    intro i v e
    cases i with
    | zero => simp at e; exact ⟨y, t, e.symm, rfl⟩
    | succ j => simpa using ih (by simpa using e)
theorem strs_len {vs : List Value} {xs : List Str} (h : StrsAre vs xs) : vs.length = xs.length := by induction h <;> simp_all
theorem strs_map {R : Value → Value → Prop} {f : Str → Str} (hR : ∀ k t y, R (.str k t) y → ∃ u, y = .str (f k) u) {vs ys : List Value} {ks : List Str} (h : StrsAre vs ks) (hp : Paired R vs ys) : StrsAre ys (ks.map f) := by
  induction h generalizing ys with
  | nil => cases hp; exact .nil
  | cons y t _ ih =>
    cases hp with | cons h1 h2 =>
    obtain ⟨u, rfl⟩ := hR _ _ _ h1
    exact .cons _ _ (ih h2)

structure Hsh (w : World) (base h : Heap) (a d tb : Addr) (es : List Ent) : Prop where
  ha : h.get? a = some (instObj 104 d)
  hd : ∃ od, h.get? d = some od ∧ HaD tb od
  tab : Tab w base h tb es
  na : base.get? a = none
  nd : base.get? d = none
  dt : tb ≠ d
  dsd : ∀ e ∈ es, e.sd ≠ d

inductive FlatAre : List Value → List Ent → Prop
  | nil : FlatAre [] []
  | cons (e : Ent) (t : Tok) {vs es} : FlatAre vs es → FlatAre (.str e.k t :: .ref e.sc :: vs) (e :: es)
theorem FlatAre.snoc {vs : List Value} {es : List Ent} (h : FlatAre vs es) (e : Ent) (t : Tok) : FlatAre (vs ++ [.str e.k t, .ref e.sc]) (es ++ [e]) := by
  induction h with
  | nil => exact .cons e t .nil
  | cons e' t' _ ih => exact .cons e' t' ih
theorem FlatAre.len {vs : List Value} {es : List Ent} (h : FlatAre vs es) : vs.length = 2 * es.length := by
  induction h <;> simp_all; omega
theorem Tab.up {w : World} {base h h' : Heap} {tb : Addr} {es : List Ent} (T : Tab w base h tb es) (k1 : ∀ {o : Obj}, h.get? tb = some o → h'.get? tb = some o) (k2 : ∀ e ∈ es, ∀ {o : Obj}, h.get? e.sc = some o → h'.get? e.sc = some o) (k3 : ∀ e ∈ es, ∀ {o : Obj}, h.get? e.sd = some o → h'.get? e.sd = some o) : Tab w base h' tb es where
  dict := let ⟨o, es, ep, ho, r⟩ := T.dict; ⟨o, es, ep, k1 ho, r⟩
  sys := T.sys
  new := T.new
  sc := fun e he => k2 e he (T.sc e he)
  sd := fun e he => let ⟨od, num, t, ho, r⟩ := T.sd e he; ⟨od, num, t, k3 e he ho, r⟩
  nsc := T.nsc
  nsd := T.nsd
  sdn := T.sdn
  sdt := T.sdt
theorem Tab.stays {w : World} {base h h' : Heap} {tb : Addr} {es : List Ent} (T : Tab w base h tb es) (st : h.StaysIn h') : Tab w base h' tb es := T.up (st _ _) (fun _ _ => st _ _) (fun _ _ => st _ _)
theorem Tab.tbObj {w : World} {base h : Heap} {tb : Addr} {es : List Ent} (T : Tab w base h tb es) : ∃ o, h.get? tb = some o ∧ o.cls = .type "dict" := let ⟨o, _, _, ho, hx, _⟩ := T.dict; ⟨o, ho, hx.1⟩
theorem ne_cls {h : Heap} {a b : Addr} {o o' : Obj} (h1 : h.get? a = some o) (h2 : h.get? b = some o') (hc : o.cls ≠ o'.cls) : a ≠ b := fun e => by
  subst e; rw [h1] at h2; cases h2; exact hc rfl
theorem Hsh.up {w : World} {base h h' : Heap} {a d tb : Addr} {es : List Ent} (T : Hsh w base h a d tb es) {S : List Addr} (k : KeepsBut S h h') (h1 : a ∉ S) (h2 : d ∉ S) (h3 : tb ∉ S) (h4 : ∀ e ∈ es, e.sc ∉ S ∧ e.sd ∉ S) : Hsh w base h' a d tb es where
  ha := k _ _ T.ha h1
  hd := let ⟨od, ho, r⟩ := T.hd; ⟨od, k _ _ ho h2, r⟩
  tab := T.tab.up (fun e => k _ _ e h3) (fun e he _ q => k _ _ q (h4 e he).1) (fun e he _ q => k _ _ q (h4 e he).2)
  na := T.na
  nd := T.nd
  dt := T.dt
  dsd := T.dsd
theorem Hsh.tabBut {w : World} {base h h' : Heap} {a d tb : Addr} {es : List Ent} (T : Hsh w base h a d tb es) (k : ∀ b o, h.get? b = some o → b ≠ a → b ≠ d → h'.get? b = some o) : Tab w base h' tb es := by
  obtain ⟨od, hd, ⟨⟩⟩ := T.hd
  obtain ⟨ot, ht, hc⟩ := T.tab.tbObj
  refine T.tab.up (fun e => k _ _ e ?_ T.dt) (fun e he _ q => k _ _ q ?_ ?_) (fun e he _ q => k _ _ q ?_ (T.dsd e he))
  · exact ne_cls ht T.ha (by rw [hc]; intro x; cases x)
  · exact ne_cls (T.tab.sc e he) T.ha (by intro x; cases x)
  · exact ne_cls (T.tab.sc e he) hd (by intro x; cases x)
  · obtain ⟨sod, num, t, hsd, ⟨⟩⟩ := T.tab.sd e he
    exact ne_cls hsd T.ha (by intro x; cases x)
end
section
def LStep (h₀ : Heap) (L I : Addr) (oI : Obj) (Jn : (Str → Option Value) → List (Addr × Obj) → Prop) (s₁ : Shared) (Q : Flow → Shared → Prop) (f : Flow) (s₂ : Shared) : Prop :=
  match f with
  | .ret v => Q (.ret v) s₂
  | .brk => Q .next s₂
  | _ => ∃ h' tk m' news', s₂ = { s₁ with heap := h', toks := tk } ∧ Fr h₀ L h' m' ∧ News h₀ L h' ((I, oI) :: news') ∧ (∀ p ∈ news', p.1 ≠ I) ∧ Jn m' news'

theorem LStep.next {h₀ : Heap} {L I : Addr} {oI : Obj} {Jn : (Str → Option Value) → List (Addr × Obj) → Prop} {s₁ : Shared} {Q : Flow → Shared → Prop} {h' : Heap} {tk : Nat} {m' : Str → Option Value} {news' : List (Addr × Obj)}
    (F : Fr h₀ L h' m') (N : News h₀ L h' ((I, oI) :: news')) (hn : ∀ p ∈ news', p.1 ≠ I) (hJ : Jn m' news') : LStep h₀ L I oI Jn s₁ Q .next { s₁ with heap := h', toks := tk } := ⟨h', tk, m', news', rfl, F, N, hn, hJ⟩

section
variable {prog : Program} {w : World} {A : Around} {E : Value → Shared → Prop} {s : Shared} {env : Env} {h₀ : Heap} {x : Str} {body : List Stmt} {Q : Flow → Shared → Prop}

theorem loop_any {I : Addr} {fp : List Addr} {n : Nat} {P : Nat → Value → Prop} {St : Nat → Heap → Prop} {m₀ : Str → Option Value} {news : List (Addr × Obj)}
    (W : Walks prog w A I fp [I] n P St) (hIf : I ∈ fp) (hfp : ∀ b ∈ fp, b = I ∨ ∃ q, h₀.get? b = some q) (hI0 : h₀.get? I = none) (hob : ∀ i h, St i h → ∃ o, h.get? I = some o)
    (hLf : env.locals ∉ fp) (hnw : ∀ p ∈ news, p.1 ≠ I) (hst : St 0 s.heap) (F : Fr h₀ env.locals s.heap m₀) (N : News h₀ env.locals s.heap news)
    (J : Nat → (Str → Option Value) → List (Addr × Obj) → Prop) (hj : J 0 m₀ news)
    (turn : ∀ i v m₁ news₁ h tk oI, i < n → P i v → J i m₁ news₁ → Fr h₀ env.locals h (fun y => if y = x then some v else m₁ y) → News h₀ env.locals h ((I, oI) :: news₁) → (∀ p ∈ news₁, p.1 ≠ I) →
      wpAny (model prog w) A (execs body env) (LStep h₀ env.locals I oI (J (i + 1)) { s with heap := h, toks := tk } Q) E { s with heap := h, toks := tk })
    (done : ∀ m₁ news₁ h tk, J n m₁ news₁ → Fr h₀ env.locals h m₁ → News h₀ env.locals h news₁ → Q .next { s with heap := h, toks := tk }) :
    LoopAtV prog w A h₀ env x body Q E (.ref I) s := by
  refine ⟨I, fp, [I], n, P, St, m₀, news, J, rfl, W, hLf, ?_, ?_, hst, F, N, hj, ?_, ?_⟩
  · intro b hb; rw [List.mem_singleton.mp hb]; exact hI0
  · intro p hp hI; exact hnw p hp (List.mem_singleton.mp hI)
  · rintro i v m₁ news₁ s₁ own ⟨hh', tk', rfl⟩ hin hP hJ hoff hown hget hall hst₁ F₁ N₁
    obtain ⟨oI, hoI⟩ := hob _ _ hst₁
    have hio : (I, oI) ∈ own := hall I hIf hI0 oI hoI
    have hone := own_one hown hfp hoI N₁
    have hoff' : ∀ p ∈ news₁, p.1 ≠ I := fun p hp e => hoff p hp (List.mem_singleton.mpr e)
    refine wpAny_mono (turn i v m₁ news₁ hh' tk' oI hin hP hJ F₁ (news_one hio N₁) hoff') (fun f s₂ p => ?_) fun _ _ e => e
    have fin : (∃ h' tk m' news', s₂ = { s with heap := h', toks := tk } ∧ Fr h₀ env.locals h' m' ∧ News h₀ env.locals h' ((I, oI) :: news') ∧ (∀ p ∈ news', p.1 ≠ I) ∧ J (i + 1) m' news') →
        LoopStepU h₀ env.locals [I] own (J (i + 1)) { s with heap := hh', toks := tk' } .next s₂ := by
      rintro ⟨h', tk, m', news', e, F', N', hn, hm⟩
      refine ⟨rfl, h', tk, m', news', e, F', fun p hp => ?_, fun p hp hI => hn p hp (List.mem_singleton.mp hI), hm⟩
      rcases List.mem_append.mp hp with q | q
      · rw [hone p q]; exact N' _ (.head _)
      · exact N' _ (.tail _ q)
    cases f with
    | ret v => exact .ret p
    | brk => exact .brk p
    | next => exact .next (fin p)
    | cont => exact .cont (fin p)
  · rintro h' tk m' news' F' N' _ hJ
    exact done m' news' h' tk hJ F' N'

theorem loop_anyS {I : Addr} {fp : List Addr} {n : Nat} {P : Nat → Value → Prop} {St : Nat → Heap → Prop} {m₀ : Str → Option Value} {news : List (Addr × Obj)} (stored : List Str)
    (W : Walks prog w A I fp [I] n P St) (hIf : I ∈ fp) (hfp : ∀ b ∈ fp, b = I ∨ ∃ q, h₀.get? b = some q) (hI0 : h₀.get? I = none) (hob : ∀ i h, St i h → ∃ o, h.get? I = some o)
    (hLf : env.locals ∉ fp) (hnw : ∀ p ∈ news, p.1 ≠ I) (hst : St 0 s.heap) (F : Fr h₀ env.locals s.heap m₀) (N : News h₀ env.locals s.heap news)
    (J : Nat → List (Addr × Obj) → Prop) (hj : J 0 news)
    (turn : ∀ i v (u : Str → Option Value) news₁ h tk oI, i < n → P i v → J i news₁ → Fr h₀ env.locals h (fun y => if y = x then some v else if stored.contains y then u y else m₀ y) → News h₀ env.locals h ((I, oI) :: news₁) → (∀ p ∈ news₁, p.1 ≠ I) →
      wpAny (model prog w) A (execs body env) (LStep h₀ env.locals I oI (fun m' news' => J (i + 1) news' ∧ ∀ y, y ≠ x → stored.contains y = false → m' y = m₀ y) { s with heap := h, toks := tk } Q) E { s with heap := h, toks := tk })
    (done : ∀ (u : Str → Option Value) news₁ h tk, J n news₁ → Fr h₀ env.locals h (fun y => if y = x then u y else if stored.contains y then u y else m₀ y) → News h₀ env.locals h news₁ → Q .next { s with heap := h, toks := tk }) :
    LoopAtV prog w A h₀ env x body Q E (.ref I) s := by
  refine loop_any W hIf hfp hI0 hob hLf hnw hst F N (fun i m₁ news₁ => J i news₁ ∧ ∀ y, y ≠ x → stored.contains y = false → m₁ y = m₀ y) ⟨hj, fun _ _ _ => rfl⟩ ?_ ?_
  · rintro i v m₁ news₁ h tk oI hin hP ⟨hJ, hm⟩ F₁ N₁ hn
    have e : (fun y => if y = x then some v else m₁ y) = fun y => if y = x then some v else if stored.contains y then m₁ y else m₀ y := by
      funext y
      by_cases h1 : y = x
      · simp [h1]
      · simp only [if_neg h1]
        cases h2 : stored.contains y with
        | true => simp
        | false => simp only [Bool.false_eq_true, if_false]; exact hm y h1 h2
    rw [e] at F₁
    exact turn i v m₁ news₁ h tk oI hin hP hJ F₁ N₁ hn
  · rintro m₁ news₁ h tk ⟨hJ, hm⟩ F₁ N₁
    have e : (fun y => if y = x then m₁ y else if stored.contains y then m₁ y else m₀ y) = m₁ := by
      funext y
      by_cases h1 : y = x
      · simp [h1]
      · simp only [if_neg h1]
        cases h2 : stored.contains y with
        | true => simp
        | false => simp only [Bool.false_eq_true, if_false]; exact (hm y h1 h2).symm
    exact done m₁ news₁ h tk hJ (by rw [e]; exact F₁) N₁

theorem for_list {l : Addr} {vs : List Value} {m₀ : Str → Option Value} {news : List (Addr × Obj)} (hh : A.handled = none) (hl : h₀.IsList l vs.toArray) (F : Fr h₀ env.locals s.heap m₀) (N : News h₀ env.locals s.heap news)
    (stored : List Str) (J : Nat → List (Addr × Obj) → Prop) (hj : J 0 news)
    (turn : ∀ (i : Nat) v (u : Str → Option Value) news₁ h tk I oI, vs[i]? = some v → J i news₁ → Fr h₀ env.locals h (fun y => if y = x then some v else if stored.contains y then u y else m₀ y) → News h₀ env.locals h ((I, oI) :: news₁) → (∀ p ∈ news₁, p.1 ≠ I) →
      wpAny (model prog w) A (execs body env) (LStep h₀ env.locals I oI (fun m' news' => J (i + 1) news' ∧ ∀ y, y ≠ x → stored.contains y = false → m' y = m₀ y) { s with heap := h, toks := tk } Q) E { s with heap := h, toks := tk })
    (done : ∀ (u : Str → Option Value) news₁ h tk, J vs.length news₁ → Fr h₀ env.locals h (fun y => if y = x then u y else if stored.contains y then u y else m₀ y) → News h₀ env.locals h news₁ → Q .next { s with heap := h, toks := tk }) :
    wpAny (model prog w) A (pyIter (.ref l)) (fun it s₂ => LoopAtV prog w A h₀ env x body Q E it s₂) E s := by
  have hls : s.heap.IsList l vs.toArray := hl.at fun o e => F.keep l o e
  obtain ⟨ol, hol, _⟩ := id hl
  have hlt : l < h₀.objs.size := Heap.lt_size hol
  have hne : l ≠ s.heap.objs.size := Nat.ne_of_lt (Nat.lt_trans (Nat.lt_of_lt_of_le hlt F.above) F.ns.lt)
  refine wpAny_pyIter_list hls ?_
  have W := Walks.list (prog := prog) (w := w) hh s.heap.objs.size l hne vs.toArray
  refine loop_anyS stored W (by simp) ?_ (next_is_new F) ?_ ?_ ?_ ⟨⟨_, Heap.get?_push_size _ rfl, rfl, rfl⟩, hls.at fun o e => Heap.get?_push_of_some _ e⟩ (F.push _) (fun p hp => ⟨Heap.get?_push_of_some _ (N p hp).1, (N p hp).2⟩) J hj ?_ ?_
  · intro b hb
    rcases List.mem_cons.mp hb with e | hb
    · exact .inl e
    · exact .inr ⟨ol, by rw [List.mem_singleton.mp hb]; exact hol⟩
  · rintro i h ⟨⟨o, ho, _⟩, _⟩; exact ⟨o, ho⟩
  · intro hm
    rcases List.mem_cons.mp hm with e | hm
    · exact absurd F.ns.lt (e ▸ Nat.lt_irrefl _)
    · exact absurd (Nat.lt_of_lt_of_le hlt F.above) ((List.mem_singleton.mp hm) ▸ Nat.lt_irrefl _)
  · intro p hp e; exact absurd (Heap.lt_size (N p hp).1) (e ▸ Nat.lt_irrefl _)
  · intro i v u news₁ h tk oI _ hP hJ F₁ N₁ hn
    exact turn i v u news₁ h tk _ oI (by simpa using hP) hJ F₁ N₁ hn
  · intro u news₁ h tk hJ F₁ N₁
    exact done u news₁ h tk (by simpa using hJ) F₁ N₁

theorem for_range {r : Addr} {a₀ b₀ c₀ : Int} {t₀ u₀ v₀ : Tok} {n : Nat} {m₀ : Str → Option Value} {news : List (Addr × Obj)}
    (hh : A.handled = none) (hr : IsRange s.heap r a₀ b₀ c₀ t₀ u₀ v₀) (hsmall : Builtin.Range.small a₀ b₀ c₀ = true) (hn : Builtin.Range.rangeSize a₀ b₀ c₀ = (n : Int)) (F : Fr h₀ env.locals s.heap m₀) (N : News h₀ env.locals s.heap news)
    (stored : List Str) (J : Nat → List (Addr × Obj) → Prop) (hj : J 0 news)
    (turn : ∀ (i : Nat) t (u : Str → Option Value) news₁ h tk I oI, i < n → J i news₁ → Fr h₀ env.locals h (fun y => if y = x then some (.int (a₀ + i * c₀) t) else if stored.contains y then u y else m₀ y) → News h₀ env.locals h ((I, oI) :: news₁) → (∀ p ∈ news₁, p.1 ≠ I) →
      wpAny (model prog w) A (execs body env) (LStep h₀ env.locals I oI (fun m' news' => J (i + 1) news' ∧ ∀ y, y ≠ x → stored.contains y = false → m' y = m₀ y) { s with heap := h, toks := tk } Q) E { s with heap := h, toks := tk })
    (done : ∀ (u : Str → Option Value) news₁ h tk, J n news₁ → Fr h₀ env.locals h (fun y => if y = x then u y else if stored.contains y then u y else m₀ y) → News h₀ env.locals h news₁ → Q .next { s with heap := h, toks := tk }) :
    wpAny (model prog w) A (pyIter (.ref r)) (fun it s₂ => LoopAtV prog w A h₀ env x body Q E it s₂) E s := by
  refine wpAny_pyIter_range hr hsmall ?_
  have W := Walks.range (prog := prog) (w := w) hh s.heap.objs.size a₀ c₀ n
  refine loop_anyS stored W (by simp) (fun b hb => .inl (List.mem_singleton.mp hb)) (next_is_new F) ?_ ?_ ?_ (by show IsRangeIter _ _ _ _ _; rw [hn]; simpa using Heap.get?_push_size _ rfl) (F.push _) (fun p hp => ⟨Heap.get?_push_of_some _ (N p hp).1, (N p hp).2⟩) J hj ?_ done
  · intro i h st; exact ⟨_, st⟩
  · intro hm; exact absurd F.ns.lt ((List.mem_singleton.mp hm) ▸ Nat.lt_irrefl _)
  · intro p hp e; exact absurd (Heap.lt_size (N p hp).1) (e ▸ Nat.lt_irrefl _)
  · rintro i v u news₁ h tk oI hi ⟨t, rfl⟩ hJ F₁ N₁ hn
    exact turn i t u news₁ h tk _ oI hi hJ F₁ N₁ hn

theorem for_dict {K : Type} [DecidableEq K] {knd : KeyKind prog w K} {d : Addr} {kvs : List (K × Value)} {m₀ : Str → Option Value} {news : List (Addr × Obj)}
    (hh : A.handled = none) (hd : h₀.DictOf knd d kvs) (hm : (d == sysModules) = false) (F : Fr h₀ env.locals s.heap m₀) (N : News h₀ env.locals s.heap news)
    (stored : List Str) (J : Nat → List (Addr × Obj) → Prop) (hj : J 0 news)
    (turn : ∀ (i : Nat) k v q (u : Str → Option Value) news₁ h tk I oI, kvs[i]? = some (k, q) → knd.is k v = true → J i news₁ → Fr h₀ env.locals h (fun y => if y = x then some v else if stored.contains y then u y else m₀ y) → News h₀ env.locals h ((I, oI) :: news₁) → (∀ p ∈ news₁, p.1 ≠ I) →
      wpAny (model prog w) A (execs body env) (LStep h₀ env.locals I oI (fun m' news' => J (i + 1) news' ∧ ∀ y, y ≠ x → stored.contains y = false → m' y = m₀ y) { s with heap := h, toks := tk } Q) E { s with heap := h, toks := tk })
    (done : ∀ (u : Str → Option Value) news₁ h tk, J kvs.length news₁ → Fr h₀ env.locals h (fun y => if y = x then u y else if stored.contains y then u y else m₀ y) → News h₀ env.locals h news₁ → Q .next { s with heap := h, toks := tk }) :
    wpAny (model prog w) A (pyIter (.ref d)) (fun it s₂ => LoopAtV prog w A h₀ env x body Q E it s₂) E s := by
  obtain ⟨ep, o, es, ho, hr⟩ : ∃ ep, h₀.DictAt knd d kvs ep := by
    obtain ⟨o, ho, hd'⟩ := Heap.dictOf_iff.mp hd
    obtain ⟨ep, h1⟩ := KdkAt.of hd'
    exact ⟨ep, h1.dictAt ho⟩
  have hda : h₀.DictAt knd d kvs ep := ⟨o, es, ho, hr⟩
  have hds : s.heap.DictAt knd d kvs ep := hda.at' fun o e => F.keep d o e
  have hlt : d < h₀.objs.size := Heap.lt_size ho
  have hne : d ≠ s.heap.objs.size := Nat.ne_of_lt (Nat.lt_trans (Nat.lt_of_lt_of_le hlt F.above) F.ns.lt)
  refine wpAny_pyIter_dict hm hds ?_
  have W := Walks.dictKeys (prog := prog) (w := w) (knd := knd) hh s.heap.objs.size d hne kvs ep
  refine loop_anyS stored W (by simp) ?_ (next_is_new F) ?_ ?_ ?_ ⟨⟨_, Heap.get?_push_size _ rfl, rfl, rfl⟩, hds.at' fun o e => Heap.get?_push_of_some _ e⟩ (F.push _) (fun p hp => ⟨Heap.get?_push_of_some _ (N p hp).1, (N p hp).2⟩) J hj ?_ done
  · intro b hb
    rcases List.mem_cons.mp hb with e | hb
    · exact .inl e
    · exact .inr ⟨o, by rw [List.mem_singleton.mp hb]; exact ho⟩
  · rintro i h ⟨⟨o, ho, _⟩, _⟩; exact ⟨o, ho⟩
  · intro hm
    rcases List.mem_cons.mp hm with e | hm
    · exact absurd F.ns.lt (e ▸ Nat.lt_irrefl _)
    · exact absurd (Nat.lt_of_lt_of_le hlt F.above) ((List.mem_singleton.mp hm) ▸ Nat.lt_irrefl _)
  · intro p hp e; exact absurd (Heap.lt_size (N p hp).1) (e ▸ Nat.lt_irrefl _)
  · rintro i v u news₁ h tk oI hi ⟨k, q, hk, hv⟩ hJ F₁ N₁ hn
    exact turn i k v q u news₁ h tk _ oI hk hv hJ F₁ N₁ hn
end

section
variable {prog : Program} {w : World} {A : Around} {E : Value → Shared → Prop} {s : Shared} {env : Env} {h₀ : Heap} {L : Addr} {m : Str → Option Value} {news : List (Addr × Obj)} {Q : Value → Shared → Prop}

theorem ci_any {scope : Scope} {cl : List (Str × Addr)} {x : Str} {ifs : List Expr} {elt : Expr} {I : Addr} {fp : List Addr} {n : Nat} {P : Nat → Value → Prop} {St : Nat → Heap → Prop} {o : Obj}
    (p : Value → Bool) (G : Value → Value → Prop) (hI : I = s.heap.objs.size)
    (W : Walks prog w A I fp [I] n P St) (hsz : n ≤ sizeLine) (hst : St 0 (s.heap.push o)) (hfp : ∀ b ∈ fp, b < (s.heap.push o).objs.size)
    (F : Fr h₀ L s.heap m) (N : News h₀ L s.heap news)
    (tests : ∀ C i v s₃ m₃ E', P i v → Fr h₀ C s₃.heap m₃ → m₃ x = some v → News h₀ C s₃.heap news → s.heap.StaysIn s₃.heap →
      wpAny (model prog w) A (forIn ifs true fun c r => if r = true then do let ok ← isTrue c (compEnvC scope cl C env) (eval c (compEnvC scope cl C env)); pure (ForInStep.yield ok) else pure (ForInStep.yield r))
      (fun ok s₄ => ok = p v ∧ Keeps s₃ s₄) E' s₃)
    (elt' : ∀ C i v s₃ m₃ E', P i v → p v = true → Fr h₀ C s₃.heap m₃ → m₃ x = some v → News h₀ C s₃.heap news → s.heap.StaysIn s₃.heap →
      wpAny (model prog w) A (eval elt (compEnvC scope cl C env)) (fun y s₄ => G v y ∧ Keeps s₃ s₄) E' s₃)
    (done : ∀ D h' tk ys ep (vs : List Value), Fr h₀ L h' m → News h₀ L h' ((D, { cls := .type "list", data := .seq ys ep }) :: news) → (∀ p ∈ news, p.1 ≠ D) → vs.length = n → (∀ j v, vs[j]? = some v → P j v) → Paired G (vs.filter p) ys.toList → s.heap.StaysIn h' → s.heap.get? D = none →
      Q (.ref D) { s with heap := h', toks := tk }) :
    ∃ I' fp' wr n' P' St', Value.ref I = .ref I' ∧ Walks prog w A I' fp' wr n' P' St' ∧ n' ≤ sizeLine ∧ St' 0 (s.heap.push o) ∧ (∀ b ∈ fp', b < (s.heap.push o).objs.size) ∧
      QuietOnC prog w A env scope cl x ifs elt wr P' p G { s with heap := s.heap.push o } ∧
      (∀ D h' tk ys (vs : List Value), (s.heap.push o).get? D = none → h'.IsList D ys → h'.PlainList D ys → vs.length = n' → (∀ j v, vs[j]? = some v → P' j v) → Paired G (vs.filter p) ys.toList →
        (∀ b o', b ∉ wr → (s.heap.push o).get? b = some o' → h'.get? b = some o') → Q (.ref D) { s with heap := h', toks := tk }) := by
  subst hI
  have up : ∀ {h' : Heap}, (∀ b o', b ∉ [s.heap.objs.size] → (s.heap.push o).get? b = some o' → h'.get? b = some o') → s.heap.StaysIn h' := fun hk b o' e => hk b o' (fun q => absurd (Heap.lt_size e) ((List.mem_singleton.mp q) ▸ Nat.lt_irrefl _)) (Heap.get?_push_of_some _ e)
  have FC : ∀ {h' : Heap} {C : Addr} {m₃ : Str → Option Value}, (s.heap.push o).objs.size ≤ C → h'.Ns C m₃ → s.heap.StaysIn h' → Fr h₀ C h' m₃ ∧ News h₀ C h' news := fun hC hn st =>
    ⟨⟨hn, fun b o' e => st b o' (F.keep b o' e), Nat.le_trans F.above (Nat.le_trans (Nat.le_of_lt F.ns.lt) (Nat.le_trans (Nat.le_succ _) (by rw [Heap.size_push] at hC; exact hC)))⟩,
     fun p hp => ⟨st _ _ (N p hp).1, Nat.ne_of_lt (Nat.lt_of_lt_of_le (Heap.lt_size (N p hp).1) (Nat.le_trans (Nat.le_succ _) (by rw [Heap.size_push] at hC; exact hC))), (N p hp).2.2⟩⟩
  refine ⟨_, fp, _, n, P, St, rfl, W, hsz, hst, hfp, ⟨?_, ?_⟩, ?_⟩
  · intro C i v s₃ m₃ E' hC hP hn hm hk _
    obtain ⟨F₃, N₃⟩ := FC hC hn (up hk)
    exact tests C i v s₃ m₃ E' hP F₃ hm N₃ (up hk)
  · intro C i v s₃ m₃ E' hC hP hp hn hm hk _
    obtain ⟨F₃, N₃⟩ := FC hC hn (up hk)
    exact elt' C i v s₃ m₃ E' hP hp F₃ hm N₃ (up hk)
  · intro D h' tk ys vs hD _ hpl hlen hP hG hk
    obtain ⟨ep, hD'⟩ := hpl
    have st := up hk
    have hDs : s.heap.get? D = none := by
      cases q : s.heap.get? D with
      | none => rfl
      | some o' => rw [Heap.get?_push_of_some _ q] at hD; cases hD
    have hne : ∀ {b : Addr} {o' : Obj}, s.heap.get? b = some o' → b ≠ D := fun e q => by rw [q, hDs] at e; cases e
    obtain ⟨oL, es, ep', hL, hr⟩ := F.ns
    refine done D h' tk ys ep vs ⟨⟨oL, es, ep', st _ _ hL, hr⟩, fun b o' e => st b o' (F.keep b o' e), F.above⟩ (fun p hp => ?_) (fun p hp => hne (N p hp).1) hlen hP hG st hDs
    rcases List.mem_cons.mp hp with rfl | hp
    · refine ⟨hD', fun q => hne hL q.symm, ?_⟩
      cases q : h₀.get? D with
      | none => rfl
      | some o' => exact absurd rfl (hne (F.keep _ _ q))
    · exact ⟨st _ _ (N p hp).1, (N p hp).2⟩

theorem same_list {vs us : List Value} (hlen : vs.length = us.length) (h : ∀ (j : Nat) v, vs[j]? = some v → us[j]? = some v) : vs = us := by
  refine List.ext_getElem? fun j => ?_
  cases q : vs[j]? with
  | some v => exact (h j v q).symm
  | none =>
    have : us.length ≤ j := by rw [← hlen]; exact List.getElem?_eq_none_iff.mp q
    exact (List.getElem?_eq_none this).symm

theorem ci_list {scope : Scope} {cl : List (Str × Addr)} {x : Str} {ifs : List Expr} {elt : Expr} {l : Addr} {vs : List Value} (p : Value → Bool) (G : Value → Value → Prop)
    (hh : A.handled = none) (hl : s.heap.IsList l vs.toArray) (hsz : vs.length ≤ sizeLine) (F : Fr h₀ L s.heap m) (N : News h₀ L s.heap news)
    (tests : ∀ C (i : Nat) v s₃ m₃ E', vs[i]? = some v → Fr h₀ C s₃.heap m₃ → m₃ x = some v → News h₀ C s₃.heap news → s.heap.StaysIn s₃.heap →
      wpAny (model prog w) A (forIn ifs true fun c r => if r = true then do let ok ← isTrue c (compEnvC scope cl C env) (eval c (compEnvC scope cl C env)); pure (ForInStep.yield ok) else pure (ForInStep.yield r))
      (fun ok s₄ => ok = p v ∧ Keeps s₃ s₄) E' s₃)
    (elt' : ∀ C (i : Nat) v s₃ m₃ E', vs[i]? = some v → p v = true → Fr h₀ C s₃.heap m₃ → m₃ x = some v → News h₀ C s₃.heap news → s.heap.StaysIn s₃.heap →
      wpAny (model prog w) A (eval elt (compEnvC scope cl C env)) (fun y s₄ => G v y ∧ Keeps s₃ s₄) E' s₃)
    (done : ∀ D h' tk ys ep, Fr h₀ L h' m → News h₀ L h' ((D, { cls := .type "list", data := .seq ys ep }) :: news) → (∀ p ∈ news, p.1 ≠ D) → Paired G (vs.filter p) ys.toList → s.heap.StaysIn h' → s.heap.get? D = none →
      Q (.ref D) { s with heap := h', toks := tk }) :
    wpAny (model prog w) A (pyIter (.ref l)) (fun it s₂ => ∃ I fp wr n P St, it = .ref I ∧ Walks prog w A I fp wr n P St ∧ n ≤ sizeLine ∧ St 0 s₂.heap ∧ (∀ b ∈ fp, b < s₂.heap.objs.size) ∧
      QuietOnC prog w A env scope cl x ifs elt wr P p G s₂ ∧
      (∀ D h' tk ys (vs : List Value), s₂.heap.get? D = none → h'.IsList D ys → h'.PlainList D ys → vs.length = n → (∀ j v, vs[j]? = some v → P j v) → Paired G (vs.filter p) ys.toList →
        (∀ b o, b ∉ wr → s₂.heap.get? b = some o → h'.get? b = some o) → Q (.ref D) { s₂ with heap := h', toks := tk })) E s := by
  obtain ⟨ol, hol, _⟩ := id hl
  have hlt := Heap.lt_size hol
  refine wpAny_pyIter_list hl ?_
  have W := Walks.list (prog := prog) (w := w) hh s.heap.objs.size l (Nat.ne_of_lt hlt) vs.toArray
  refine ci_any p G rfl W (by simpa using hsz) ⟨⟨_, Heap.get?_push_size _ rfl, rfl, rfl⟩, hl.at fun o e => Heap.get?_push_of_some _ e⟩ ?_ F N ?_ ?_ ?_
  · intro b hb
    rw [Heap.size_push]
    rcases List.mem_cons.mp hb with rfl | hb
    · exact Nat.lt_succ_self _
    · rw [List.mem_singleton.mp hb]; exact Nat.lt_succ_of_lt hlt
  · intro C i v s₃ m₃ E' hP; exact tests C i v s₃ m₃ E' (by simpa using hP)
  · intro C i v s₃ m₃ E' hP; exact elt' C i v s₃ m₃ E' (by simpa using hP)
  · intro D h' tk ys ep us F' N' hn hlen hP hG st hD
    have e : us = vs := same_list (by simpa using hlen) fun j v hj => by simpa using hP j v hj
    subst e
    exact done D h' tk ys ep F' N' hn hG st hD

theorem no_tests {M : Model} {A : Around} {E : Value → Shared → Prop} {s : Shared} {env : Env} {v : Value} {p : Value → Bool} (hp : p v = true) :
    wpAny M A (forIn ([] : List Expr) true fun c r => if r = true then do let ok ← isTrue c env (eval c env); pure (ForInStep.yield ok) else pure (ForInStep.yield r)) (fun ok s₄ => ok = p v ∧ Keeps s s₄) E s :=
  wpAny_pure ⟨hp.symm, s.heap, s.toks, rfl, fun _ _ e => e⟩
end

section
variable {prog : Program} {w : World} {A : Around} {E : Value → Shared → Prop} {Q : Flow → Shared → Prop} {s : Shared} {env : Env} {h₀ : Heap} {L : Addr}
theorem while_T {σ : Type} {test : Expr} {body : List Stmt} {pos : Pos} {m₀ : Str → Option Value} (Led : σ → List (Addr × Obj)) (ps : σ → List (Str × Value)) (stored : List Str) (P : σ → Prop) (μ : σ → Nat) (c₀ : σ)
    (F : Fr h₀ L s.heap m₀) (N : News h₀ L s.heap (Led c₀)) (hk : ∀ p ∈ ps c₀, m₀ p.1 = some p.2) (hp : P c₀) (n₀ : Nat) (hn₀ : n₀ ≤ s.toks)
    (turn : ∀ (c : σ) (u : Str → Option Value) h tk, n₀ ≤ tk → P c → Fr h₀ L h (kstB (fun z => if stored.contains z then u z else m₀ z) (ps c)) → News h₀ L h (Led c) →
      wpAny (model prog w) A (isTrue test env (eval test env)) (fun b s₂ =>
        if b = true then wpAny (model prog w) A (execs body env) (KswPost h₀ L s Led ps (fun _ => True) stored m₀ P μ Q c) E s₂ else Q .next s₂) E { s with heap := h, toks := tk })
    (hE : PassesOwn (model prog w) A env E := by passes_own) :
    wpAny (model prog w) A (exec (.While test body [] pos) env) Q E s := by
  refine wpAny_While (codeAny_whileLoop (fun n s' => ∃ h tk m, ∃ c : σ, s' = { s with heap := h, toks := tk } ∧ n₀ ≤ tk ∧ Fr h₀ L h m ∧ News h₀ L h (Led c) ∧ μ c = n ∧ (∀ p ∈ ps c, m p.1 = some p.2) ∧ (∀ z, (∀ p ∈ ps c, z ≠ p.1) → stored.contains z = false → m z = m₀ z) ∧ P c) ?_ (μ c₀)
    ⟨s.heap, s.toks, m₀, c₀, rfl, hn₀, F, N, rfl, hk, fun _ _ _ => rfl, hp⟩)
  rintro n s' ⟨h, tk, m, c, rfl, htk, F₁, N₁, hsz, h1, h2, hp'⟩
  rw [← hsz]
  refine wpAny_mono (wpAny_toks_of (n := n₀) htk (turn c m h tk htk hp' (ksw_fr h1 h2 F₁) N₁)) (fun b s₂ p => ?_) fun e s' x => hE e s' x.2
  obtain ⟨htk₂, p⟩ := p
  cases b with
  | false => simp only [Bool.false_eq_true, if_false] at p ⊢; exact wpAny_execs_nil p
  | true =>
    simp only [if_true] at p ⊢
    refine wpAny_mono (wpAny_toks_of (n := n₀) htk₂ p) (fun f s₃ q => ?_) fun e s' x => hE e s' x.2
    obtain ⟨htk₃, q⟩ := q
    cases f with
    | ret v => exact q
    | brk => exact q
    | next =>
      obtain ⟨c', h', tk', m', news', rfl, F', N', hn, _, hk9, hr9, hp9, hm9⟩ := q
      exact ⟨μ c', hm9, h', tk', m', c', rfl, htk₃, F', fun p hp => N' p (hn p hp), rfl, hk9, hr9, hp9⟩
    | cont =>
      obtain ⟨c', h', tk', m', news', rfl, F', N', hn, _, hk9, hr9, hp9, hm9⟩ := q
      exact ⟨μ c', hm9, h', tk', m', c', rfl, htk₃, F', fun p hp => N' p (hn p hp), rfl, hk9, hr9, hp9⟩
end

def LStepC (h₀ : Heap) (L I : Addr) (oI : Obj) (con : List (Addr × Obj)) (Jn : List (Addr × Obj) → List (Addr × Obj) → Prop) (Mn : (Str → Option Value) → Prop) (s₁ : Shared) (Q : Flow → Shared → Prop) (f : Flow) (s₂ : Shared) : Prop :=
  match f with
  | .ret v => Q (.ret v) s₂
  | .brk => Q .next s₂
  | _ => ∃ h' tk m' nE dyn R, s₂ = { s₁ with heap := h', toks := tk } ∧ Fr h₀ L h' m' ∧ News h₀ L h' nE ∧ (∀ p ∈ (I, oI) :: (dyn ++ (con ++ R)), p ∈ nE) ∧ (∀ p ∈ dyn, p.1 ≠ I) ∧ (∀ p ∈ R, p.1 ≠ I) ∧ Jn dyn R ∧ Mn m'
theorem LStepC.next {h₀ : Heap} {L I : Addr} {oI : Obj} {con : List (Addr × Obj)} {Jn : List (Addr × Obj) → List (Addr × Obj) → Prop} {Mn : (Str → Option Value) → Prop} {s₁ : Shared} {Q : Flow → Shared → Prop} {h' : Heap} {tk : Nat} {m' : Str → Option Value} {nE : List (Addr × Obj)} (dyn R : List (Addr × Obj))
    (F : Fr h₀ L h' m') (N : News h₀ L h' nE) (hn : ∀ p ∈ (I, oI) :: (dyn ++ (con ++ R)), p ∈ nE) (h1 : ∀ p ∈ dyn, p.1 ≠ I) (h2 : ∀ p ∈ R, p.1 ≠ I) (hJ : Jn dyn R) (hM : Mn m') : LStepC h₀ L I oI con Jn Mn s₁ Q .next { s₁ with heap := h', toks := tk } := ⟨h', tk, m', nE, dyn, R, rfl, F, N, hn, h1, h2, hJ, hM⟩
section
variable {prog : Program} {w : World} {A : Around} {E : Value → Shared → Prop} {s : Shared} {env : Env} {h₀ : Heap} {x : Str} {body : List Stmt} {Q : Flow → Shared → Prop}
theorem for_rangeC {r : Addr} {a₀ b₀ c₀ : Int} {t₀ u₀ v₀ : Tok} {n : Nat} {m₀ : Str → Option Value} {con : List (Addr × Obj)} (dyn₀ : List (Addr × Obj))
    (hh : A.handled = none) (hr : IsRange s.heap r a₀ b₀ c₀ t₀ u₀ v₀) (hsmall : Builtin.Range.small a₀ b₀ c₀ = true) (hn : Builtin.Range.rangeSize a₀ b₀ c₀ = (n : Int)) (F : Fr h₀ env.locals s.heap m₀) (N : News h₀ env.locals s.heap (dyn₀ ++ con))
    (stored : List Str) (J : Nat → List (Addr × Obj) → List (Addr × Obj) → Prop) (hj : J 0 dyn₀ [])
    (turn : ∀ (i : Nat) t (u : Str → Option Value) dyn R h tk I oI, i < n → J i dyn R → Fr h₀ env.locals h (fun y => if y = x then some (.int (a₀ + i * c₀) t) else if stored.contains y then u y else m₀ y) → News h₀ env.locals h ((I, oI) :: (dyn ++ (con ++ R))) →
      (∀ p ∈ dyn, p.1 ≠ I) → (∀ p ∈ con, p.1 ≠ I) → (∀ p ∈ R, p.1 ≠ I) →
      wpAny (model prog w) A (execs body env) (LStepC h₀ env.locals I oI con (J (i + 1)) (fun m' => ∀ y, y ≠ x → stored.contains y = false → m' y = m₀ y) { s with heap := h, toks := tk } Q) E { s with heap := h, toks := tk })
    (done : ∀ (u : Str → Option Value) dyn R h tk, J n dyn R → Fr h₀ env.locals h (fun y => if y = x then u y else if stored.contains y then u y else m₀ y) → News h₀ env.locals h (dyn ++ (con ++ R)) → Q .next { s with heap := h, toks := tk }) :
    wpAny (model prog w) A (pyIter (.ref r)) (fun it s₂ => LoopAtV prog w A h₀ env x body Q E it s₂) E s := by
  refine for_range hh hr hsmall hn F N stored (fun i news => ∃ dyn R, news = dyn ++ (con ++ R) ∧ J i dyn R) ⟨dyn₀, [], by simp, hj⟩ ?_ ?_
  · rintro i t u news₁ h tk I oI hi ⟨dyn, R, rfl, hJ⟩ F₁ N₁ hne
    have hc : ∀ p ∈ con, p.1 ≠ I := fun p hp => hne p (List.mem_append_right _ (List.mem_append_left _ hp))
    refine wpAny_mono (turn i t u dyn R h tk I oI hi hJ F₁ N₁ (fun p hp => hne p (List.mem_append_left _ hp)) hc (fun p hp => hne p (List.mem_append_right _ (List.mem_append_right _ hp)))) (fun f s₂ q => ?_) fun _ _ e => e
    cases f with
    | ret v => exact q
    | brk => exact q
    | next =>
      obtain ⟨h', tk', m', nE, dyn', R', rfl, F', N', hs, h1, h2, hJ', hM⟩ := q
      exact ⟨h', tk', m', dyn' ++ (con ++ R'), rfl, F', fun p hp => N' p (hs p hp), fun p hp => (List.mem_append.mp hp).elim (h1 p) fun hp => (List.mem_append.mp hp).elim (hc p) (h2 p), ⟨dyn', R', rfl, hJ'⟩, hM⟩
    | cont =>
      obtain ⟨h', tk', m', nE, dyn', R', rfl, F', N', hs, h1, h2, hJ', hM⟩ := q
      exact ⟨h', tk', m', dyn' ++ (con ++ R'), rfl, F', fun p hp => N' p (hs p hp), fun p hp => (List.mem_append.mp hp).elim (h1 p) fun hp => (List.mem_append.mp hp).elim (hc p) (h2 p), ⟨dyn', R', rfl, hJ'⟩, hM⟩
  · rintro u news₁ h tk ⟨dyn, R, rfl, hJ⟩ F₁ N₁
    exact done u dyn R h tk hJ F₁ N₁
end

section
variable {prog : Program} {w : World} {A : Around} {E : Value → Shared → Prop} {s : Shared} {env : Env} {h₀ : Heap} {x : Str} {body : List Stmt} {Q : Flow → Shared → Prop}
theorem for_dictP {σ K : Type} [DecidableEq K] {knd : KeyKind prog w K} {d : Addr} {kvs : List (K × Value)} {m₀ : Str → Option Value} {news : List (Addr × Obj)}
    (hh : A.handled = none) (hd : h₀.DictOf knd d kvs) (hm : (d == sysModules) = false) (F : Fr h₀ env.locals s.heap m₀) (N : News h₀ env.locals s.heap news)
    (ps : σ → List (Str × Value)) (P : Nat → σ → List (Addr × Obj) → Prop) (c₀ : σ) (hp : P 0 c₀ news) (hk : ∀ p ∈ ps c₀, m₀ p.1 = some p.2)
    (turn : ∀ (i : Nat) k v q (c : σ) news₁ h tk I oI, kvs[i]? = some (k, q) → knd.is k v = true → P i c news₁ → Fr h₀ env.locals h (fun y => if y = x then some v else kstB m₀ (ps c) y) → News h₀ env.locals h ((I, oI) :: news₁) → (∀ p ∈ news₁, p.1 ≠ I) →
      wpAny (model prog w) A (execs body env) (LStep h₀ env.locals I oI (fun m' news' => ∃ c', P (i + 1) c' news' ∧ (∀ p ∈ ps c', m' p.1 = some p.2) ∧ ∀ y, y ≠ x → (∀ p ∈ ps c', y ≠ p.1) → m' y = m₀ y) { s with heap := h, toks := tk } Q) E { s with heap := h, toks := tk })
    (done : ∀ (c : σ) (u : Option Value) news₁ h tk, P kvs.length c news₁ → Fr h₀ env.locals h (fun y => if y = x then u else kstB m₀ (ps c) y) → News h₀ env.locals h news₁ → Q .next { s with heap := h, toks := tk })
    (hx : ∀ c, ∀ p ∈ ps c, p.1 ≠ x) :
    wpAny (model prog w) A (pyIter (.ref d)) (fun it s₂ => LoopAtV prog w A h₀ env x body Q E it s₂) E s := by
  obtain ⟨ep, o, es, ho, hr⟩ : ∃ ep, h₀.DictAt knd d kvs ep := by
    obtain ⟨o, ho, hd'⟩ := Heap.dictOf_iff.mp hd
    obtain ⟨ep, h1⟩ := KdkAt.of hd'
    exact ⟨ep, h1.dictAt ho⟩
  have hda : h₀.DictAt knd d kvs ep := ⟨o, es, ho, hr⟩
  have hds : s.heap.DictAt knd d kvs ep := hda.at' fun o e => F.keep d o e
  have hlt : d < h₀.objs.size := Heap.lt_size ho
  have hne : d ≠ s.heap.objs.size := Nat.ne_of_lt (Nat.lt_trans (Nat.lt_of_lt_of_le hlt F.above) F.ns.lt)
  have hmap : ∀ {m₁ : Str → Option Value} {c : σ} (v : Option Value), (∀ p ∈ ps c, m₁ p.1 = some p.2) → (∀ y, y ≠ x → (∀ p ∈ ps c, y ≠ p.1) → m₁ y = m₀ y) → (fun y => if y = x then v else m₁ y) = fun y => if y = x then v else kstB m₀ (ps c) y := fun {m₁ c} v h1 h2 => by
    funext y
    by_cases hy : y = x
    · simp [hy]
    · simp only [if_neg hy]
      exact (kstB_eq h1 fun hn => (h2 y hy hn).symm).symm
  refine wpAny_pyIter_dict hm hds ?_
  have W := Walks.dictKeys (prog := prog) (w := w) (knd := knd) hh s.heap.objs.size d hne kvs ep
  refine loop_any W (by simp) ?_ (next_is_new F) ?_ ?_ ?_ ⟨⟨_, Heap.get?_push_size _ rfl, rfl, rfl⟩, hds.at' fun o e => Heap.get?_push_of_some _ e⟩ (F.push _) (fun p hp => ⟨Heap.get?_push_of_some _ (N p hp).1, (N p hp).2⟩)
    (fun i m news => ∃ c, P i c news ∧ (∀ p ∈ ps c, m p.1 = some p.2) ∧ ∀ y, y ≠ x → (∀ p ∈ ps c, y ≠ p.1) → m y = m₀ y) ⟨c₀, hp, hk, fun _ _ _ => rfl⟩ ?_ ?_
  · intro b hb
    rcases List.mem_cons.mp hb with e | hb
    · exact .inl e
    · exact .inr ⟨o, by rw [List.mem_singleton.mp hb]; exact ho⟩
  · rintro i h ⟨⟨o, ho, _⟩, _⟩; exact ⟨o, ho⟩
  · intro hm
    rcases List.mem_cons.mp hm with e | hm
    · exact absurd F.ns.lt (e ▸ Nat.lt_irrefl _)
    · exact absurd (Nat.lt_of_lt_of_le hlt F.above) ((List.mem_singleton.mp hm) ▸ Nat.lt_irrefl _)
  · intro p hp e; exact absurd (Heap.lt_size (N p hp).1) (e ▸ Nat.lt_irrefl _)
  · rintro i v m₁ news₁ h tk oI hi ⟨k, q, hk', hv⟩ ⟨c, hP, h1, h2⟩ F₁ N₁ hn
    rw [hmap (some v) h1 h2] at F₁
    exact turn i k v q c news₁ h tk _ oI hk' hv hP F₁ N₁ hn
  · rintro m₁ news₁ h tk ⟨c, hP, h1, h2⟩ F₁ N₁
    refine done c (m₁ x) news₁ h tk hP ?_ N₁
    rw [← hmap (m₁ x) h1 h2]
    have : (fun y => if y = x then m₁ x else m₁ y) = m₁ := by funext y; by_cases hy : y = x <;> simp [hy]
    rw [this]; exact F₁
end
end
theorem fill : ∀ (_ : PySem.Challenge.rw_sz0091_01 = PySem.Challenge.rw_sz0091_01) (_ : hd.heap_1 = hd.heap_1), True := by k_fill; intros; trivial
local macro_rules | `(tactic| k_room) => `(tactic| first | exact room1 (by assumption) (by decide) | exact room2 (by assumption) (by decide) | exact room3 (by assumption) (by decide) | ((try simp only [depth_under_make, depth_under_kw, depth_in1, depth_deeper, depth_caller]); (try dsimp only [AA]); omega))
local macro_rules | `(tactic| k_sizes) => `(tactic| first | assumption | exact And.left (by assumption) | exact And.right (by assumption) | exact pk1 (by assumption) | exact pk2 (by assumption) | exact pk3 (by assumption) | exact pk4 (by assumption) | exact pk5 (by assumption) | exact pk6 (by assumption) | exact pk7 (by assumption) | exact pk8 (by assumption) | exact pl2 (by assumption) | exact pl3 (by assumption) | exact pl4 (by assumption) | exact pl5 (by assumption) | exact pl6 (by assumption) | exact pl7 (by assumption) | exact pl8 (by assumption))
local macro_rules | `(tactic| k_ne) => `(tactic| (refine neN ?_; (try dsimp only); first | assumption | (refine Ne.symm ?_; assumption) | (refine Nat.ne_of_lt ?_; k_sizes) | (refine Nat.ne_of_gt ?_; k_sizes) | k_sizes | (refine Ne.symm ?_; k_sizes) | omega))
local macro_rules | `(tactic| walk_at "execs cons") => `(tactic| (k_here; (fail_if_success (fail_if_success k_gentoks)); refine gen_tk ?_; intro tk htk; (try dsimp only at htk)))
local macro_rules | `(tactic| walk_at "execs nil") => `(tactic| (k_here; (fail_if_success (fail_if_success k_gentoks)); refine gen_tk ?_; intro tk htk; (try dsimp only at htk)))
local macro_rules | `(tactic| k_enter) => `(tactic| (refine' enter1 ?k1 ?k2 ?k3 ?k4 ?k6 ?k7 ?k8 ?k9 ?kB ?_ ?c2 ?c3 ?c4 ?c5; (case k1 => k_asm); (case k2 => k_asm); (case k3 => k_asm); (case k4 => k_asm); (case k6 => k_is); (case k7 => k_is); (case k8 => k_room); (case k9 => first | exact BindsTo.of_eq rfl | exact binds_K (by k_in) rfl (by k_is) rfl rfl rfl | fail "k_enter: no rule for these arguments"); (case c5 => decide); (case kB => exact locs rfl); (case c2 => exact rfl); (case c3 => exact rfl); (case c4 => exact rfl); k_whole; intro g' L' h' FG' F' N' X' T' G'; (try dsimp only); (try k_fold)))
section
local macro_rules | `(tactic| walk_at "compareOp NotIn str ref") => `(tactic| (k_here; k_dflt (refine kdg_notin (knd := PySem.strKind _ _) (by k_asm) (by k_mem) (by k_asm) (by k_asm) (strKind_is _ _ _ _) true (by assumption) ?_)))
local macro_rules | `(tactic| walk_at "subscriptTail") => `(tactic| (k_here; (with_reducible show wpAny _ _ (subscriptTail _ _ (Value.ref _) (Value.str _ _)) _ _ _); k_dflt (refine kda_item (knd := PySem.strKind _ _) (by k_asm) (by k_mem) (by k_asm) (strKind_is _ _ _ _) (by assumption) ?_)))

local macro_rules | `(tactic| walk_at "getItem ref str") => `(tactic| (k_here; k_dflt (refine kdt_getItem (knd := PySem.strKind _ _) (by k_asm) (by k_mem) (by k_asm) (strKind_is _ _ _ _) (by assumption) ?_)))

theorem value_of_sc {w : World} {dp un : Nat} {fr : Option (List Env)} {gd : Option (List Code)} {s : Shared} {base : Heap} {mean : ExcName → Option Value} {mg mb : Str → Option Value} {Q E : Value → Shared → Prop} {a d : Addr} {od : Obj} {num cnt : Int} {x : Str} {t : Tok}
    (X : (hd.heap_1 w.params).In base) (T : TP mean mg mb base) (st : base.StaysIn s.heap) (hdp : dp + 10 < recursionLimit) (hun : un + 100 < cLine)
    (ha : s.heap.get? a = some (instObj 66 d)) (hd' : s.heap.get? d = some od) (ho : ScD num cnt (.str x t) od) (hb : base.get? a = none) (hb' : base.get? d = none)
    (hret : ∀ h' tk', s.heap.StaysIn h' → Q (.str x t) { s with heap := h', toks := tk' }) :
    wpAny (model PySem.Challenge.rw_sz0091_01.row.prog w) (AA dp un fr gd) (call (.ref 257) [.ref a]) Q E s := by
  cases ho with | mk =>
  have hl0 := (Led.cons ha hb (.cons hd' hb' .nil))
  refine wpAny_call ?_
  k_dflt refine' enter0 X T st hl0 ?k6 ?k7 ?k8 ?k9 ?kB ?c2 ?c3 ?c4 ?c5 ?_
  case k6 => k_dflt k_is
  case k7 => k_dflt k_is
  case k8 => k_room
  case k9 => k_dflt first | exact BindsTo.of_eq rfl | exact binds_K (by k_in) rfl (by k_is) rfl rfl rfl
  case kB => exact locs rfl
  case c2 => exact rfl
  case c3 => exact rfl
  case c4 => exact rfl
  case c5 => decide
  intro g' L' h' hL' sg' G' gs' F' N' X' T'
  dsimp only
  k_fold
  k_steps
  exact hret _ _ (stays_end hl0 (by assumption) (by assumption) (by assumption) (by first | ((repeat' (first | exact sub_nil | refine sub_cons ?_ ?_)); (all_goals (first | ((repeat (first | exact .head _ | refine .tail _ ?_)); done) | (refine Or.inr ?_; (repeat (first | exact .head _ | refine .tail _ ?_)); done) | (refine Or.inl ?_; (repeat (first | exact .head _ | refine .tail _ ?_)); done) | (apply Exists.intro; (repeat (first | exact .head _ | refine .tail _ ?_)); done) | (intro p hp; (repeat (first | exact hp | refine .tail _ ?_)); done))); done) | (trace "SUBFALL"; simp)))

theorem key_value_ok {w : World} {dp un : Nat} {fr : Option (List Env)} {gd : Option (List Code)} {s : Shared} {base : Heap} {mean : ExcName → Option Value} {mg mb : Str → Option Value} {Q E : Value → Shared → Prop} {a d tb sc sd : Addr} {od sod : Obj} {kvs : List (Str × Value)} {k : Str} {tk : Tok} {num cnt : Int} {x : Str} {t : Tok}
    (X : (hd.heap_1 w.params).In base) (T : TP mean mg mb base) (st : base.StaysIn s.heap) (hdp : dp + 10 < recursionLimit) (hun : un + 100 < cLine)
    (ha : s.heap.get? a = some (instObj 104 d)) (hd' : s.heap.get? d = some od) (ho : HaD tb od) (hT : s.heap.DictOf (PySem.strKind PySem.Challenge.rw_sz0091_01.row.prog w) tb kvs) (hk : valueAt kvs k = some (.ref sc)) (hm : (tb == sysModules) = false)
    (hs : s.heap.get? sc = some (instObj 66 sd)) (hsd : s.heap.get? sd = some sod) (hso : ScD num cnt (.str x t) sod) (hb : base.get? a = none) (hb1 : base.get? d = none) (hb2 : base.get? tb = none) (hb3 : base.get? sc = none) (hb4 : base.get? sd = none)
    (hret : ∀ h' tk', s.heap.StaysIn h' → Q (.str x t) { s with heap := h', toks := tk' }) :
    wpAny (model PySem.Challenge.rw_sz0091_01.row.prog w) (AA dp un fr gd) (call (.ref 336) [.ref a, .str k tk]) Q E s := by
  cases ho with | mk =>
  cases hso with | mk =>
  obtain ⟨oT, hoT, hdT⟩ := Heap.dictOf_iff.mp hT
  have hk' : (valueAt kvs k).isSome = true := by rw [hk]; rfl
  have hl0 := (Led.cons ha hb (.cons hd' hb1 (.cons hoT hb2 (.cons hs hb3 (.cons hsd hb4 .nil)))))
  refine wpAny_call ?_
  k_dflt refine' enter0 X T st hl0 ?k6 ?k7 ?k8 ?k9 ?kB ?c2 ?c3 ?c4 ?c5 ?_
  case k6 => k_dflt k_is
  case k7 => k_dflt k_is
  case k8 => k_room
  case k9 => k_dflt first | exact BindsTo.of_eq rfl | exact binds_K (by k_in) rfl (by k_is) rfl rfl rfl
  case kB => exact locs rfl
  case c2 => exact rfl
  case c3 => exact rfl
  case c4 => exact rfl
  case c5 => decide
  intro g' L' h' hL' sg' G' gs' F' N' X' T'
  dsimp only
  k_fold
  k_steps
  all_goals first | done | exact hret _ _ (stays_end hl0 (by assumption) (by assumption) (by assumption) (by first | ((repeat' (first | exact sub_nil | refine sub_cons ?_ ?_)); (all_goals (first | ((repeat (first | exact .head _ | refine .tail _ ?_)); done) | (refine Or.inr ?_; (repeat (first | exact .head _ | refine .tail _ ?_)); done) | (refine Or.inl ?_; (repeat (first | exact .head _ | refine .tail _ ?_)); done) | (apply Exists.intro; (repeat (first | exact .head _ | refine .tail _ ?_)); done) | (intro p hp; (repeat (first | exact hp | refine .tail _ ?_)); done))); done) | (trace "SUBFALL"; simp))) | trace_state
end
section
local macro_rules | `(tactic| walk_at "eval Name") => `(tactic| (k_here; k_inBlock; k_dflt (first
  | (refine wpAny_Name (wpAny_loadName_local (by exact rfl) (by exact rfl) (Fr.ns (by k_asm)) (by assumption) ?_) (by decide))
  | (refine wpAny_Name (wpAny_loadName_cell (by exact rfl) (by exact rfl) (by exact rfl) ⟨_, News.get (by k_asm) (by k_mem), by k_asm⟩ ?_) (by decide)))))

theorem ksv_ok {w : World} {dp un : Nat} {fr : Option (List Env)} {gd : Option (List Code)} {s : Shared} {base : Heap} {mean : ExcName → Option Value} {mg mb : Str → Option Value} {Q E : Value → Shared → Prop} {a d tb nl : Addr} {od : Obj} {es : List Ent} {ns : List Value} {ks : List Str}
    (X : (hd.heap_1 w.params).In base) (T : TP mean mg mb base) (st : base.StaysIn s.heap) (hdp : dp + 20 < recursionLimit) (hun : un + 200 < cLine)
    (ha : s.heap.get? a = some (instObj 104 d)) (hd' : s.heap.get? d = some od) (ho : HaD tb od) (hT : Tab w base s.heap tb es)
    (hnl : s.heap.IsList nl ns.toArray) (hns : StrsAre ns ks) (hks : ∀ k ∈ ks, ∃ e ∈ es, e.k = k) (hsz : ks.length ≤ 1000)
    (hb : base.get? a = none) (hb1 : base.get? d = none)
    (hret : ∀ D h' tk' ys ep, s.heap.StaysIn h' → s.heap.get? D = none → h'.get? D = some { cls := .type "list", data := .seq ys ep } → StrsAre ys.toList (ks.map (look es)) → Q (.ref D) { s with heap := h', toks := tk' }) :
    wpAny (model PySem.Challenge.rw_sz0091_01.row.prog w) (AA dp un fr gd) (call (.ref 383) [.ref a, .ref nl]) Q E s := by
  have hl0 := Led.nil (h := s.heap) (base := base)
  refine wpAny_call ?_
  k_dflt refine' enter0C X T st hl0 ?k6 ?k7 ?k8 ?k9 ?kB ?kD ?c2 ?c3 ?c4 ?_
  case k6 => k_dflt k_is
  case k7 => k_dflt k_is
  case k8 => k_room
  case k9 => k_dflt first | exact BindsTo.of_eq rfl | exact binds_K (by k_in) rfl (by k_is) rfl rfl rfl
  case kB => exact rfl
  case kD => decide +kernel
  case c2 => exact rfl
  case c3 => exact rfl
  case c4 => exact rfl
  intro g' L' h' tk' cells' hL' sg' G' gs' F' N' Y' X' T'
  k_cells Y'
  try dsimp only [List.cons_append, List.nil_append] at N'
  try dsimp only
  try k_fold
  repeat' (first | (k_unfold; (try dsimp only)) | (k_end; wrow_close) | ((fail_if_success (with_reducible show wpAny _ _ (eval (Expr.ListComp _ _ _ _) _) _ _ _)); first | walk1 | (dsimp only; walk1) | (leave1; walk_say "STEP leave1"; try dsimp only)) | fail "no step")
  refine' wpAny_ListComp_free (fun _ => true) (fun v y => ∀ k t, v = .str k t → ∃ u, y = .str (look es k) u) ?hclos ?hcell ?hkind ?hnames ?hx ?h
  case hclos => with_unfolding_all exact rfl
  case hcell => decide
  case hkind => exact rfl
  case hnames => decide
  case hx => exact rfl
  repeat' (first | (k_unfold; (try dsimp only)) | (k_end; wrow_close) | ((fail_if_success (with_reducible show wpAny _ _ (pyIter _) _ _ _)); first | walk1 | (dsimp only; walk1) | (leave1; walk_say "STEP leave1"; try dsimp only)) | fail "no step")
  have sH : s.heap.StaysIn h' := stays_end hl0 G' F' N' (fun _ h => nomatch h)
  refine ci_list (fun _ => true) _ rfl (hnl.at fun o e => sH _ _ e) ?hsz F' N' ?tests ?elt ?done
  case hsz => rw [strs_len hns, sizeLine_eq]; omega
  case tests => intros; exact no_tests (v := .none) (p := fun _ => true) rfl
  case elt =>
    intro C i v s₃ m₃ E' hv _ F₃ hm₃ N₃ st₃
    obtain ⟨k, t, rfl, hk⟩ := strs_get hns hv
    obtain ⟨e, he, rfl⟩ := hks k (List.mem_of_getElem? hk)
    obtain ⟨hva, hlo⟩ := hT.find he
    obtain ⟨sod, num, u, hsd, hso⟩ := hT.sd e he
    have up : ∀ {b : Addr} {o : Obj}, s.heap.get? b = some o → s₃.heap.get? b = some o := fun q => st₃ _ _ (sH _ _ q)
    repeat' (first | (k_unfold; (try dsimp only)) | (k_end; wrow_close) | ((fail_if_success (with_reducible show wpAny _ _ (call (Value.ref 336) _) _ _ _)); first | walk1 | (dsimp only; walk1) | (leave1; walk_say "STEP leave1"; try dsimp only)) | fail "no step")
    refine key_value_ok X T (fun b o q => up (st b o q)) (by first | exact room2 (by assumption) (by decide) | exact room3 (by assumption) (by decide) | exact room1 (by assumption) (by decide) | (trace "DUFALL"; simp only [AA, Around.deeper, Around.in1]; omega)) (by first | exact room2 (by assumption) (by decide) | exact room3 (by assumption) (by decide) | exact room1 (by assumption) (by decide) | (trace "DUFALL"; simp only [AA, Around.deeper, Around.in1]; omega)) (up ha) (up hd') ho (dict_at hT.dict up) hva hT.sys (up (hT.sc e he)) (up hsd) hso hb hb1 hT.new (hT.nsc e he) (hT.nsd e he) ?_
    intro h₄ tk₄ st₄
    k_unfold
    exact ⟨fun k t q => by cases q; exact ⟨u, by rw [hlo]⟩, h₄, _, rfl, st₄⟩
  case done =>
    intro D h₂ tk ys ep F₂ N₂ hn₂ hG st₂ hD
    exact hret D h₂ tk ys ep (fun b o q => st₂ b o (sH b o q)) (by
      cases q : s.heap.get? D with
      | none => rfl
      | some o => rw [sH _ _ q] at hD; cases hD) (N₂ _ (.head _)).1 (strs_map (R := fun v y => ∀ k t, v = .str k t → ∃ u, y = .str (look es k) u) (fun k t y q => q k t rfl) hns (by rwa [List.filter_eq_self.mpr (fun _ _ => rfl)] at hG))
end
section
theorem kdG_tail {prog : Program} {w : World} {K : Type} [DecidableEq K] {knd : KeyKind prog w K} {A : Around} {E : Value → Shared → Prop} {s : Shared} {h₀ : Heap} {L d : Addr} {m : Str → Option Value} {kvs : List (K × Value)} {key : Value} {Q : Value → Shared → Prop}
    {value slice : PySem.Expr} (F : Fr h₀ L s.heap m) (hd : h₀.DictOf knd d kvs) (h : wpAny (model prog w) A (getItem (.ref d) key) Q E s)
    (hs : subscripted slice false (.ref d) key = operate [.ref d, key] (getItem (.ref d) key) := by with_unfolding_all rfl) : wpAny (model prog w) A (subscriptTail value slice (.ref d) key) Q E s :=
  tail_any (dict_at hd (F.keep _ _)).typeIs slot_dict_getitem.lookup h hs
theorem kdG_getItem {prog : Program} {w : World} {K : Type} [DecidableEq K] {knd : KeyKind prog w K} {A : Around} {E : Value → Shared → Prop} {s : Shared} {h₀ : Heap} {L d : Addr} {m : Str → Option Value} {kvs : List (K × Value)} {k : K} {key v : Value} {Q : Value → Shared → Prop}
    (F : Fr h₀ L s.heap m) (hd : h₀.DictOf knd d kvs) (hkey : knd.is k key = true) (hl : valueAt kvs k = some v) (h : Q v { s with toks := s.toks + 1 }) : wpAny (model prog w) A (getItem (.ref d) key) Q E s :=
  wpAny_getItem_of hkey (dict_at hd (F.keep _ _)).mapOf hl h
local macro_rules | `(tactic| walk_at "subscriptTail") => `(tactic| (k_here; (with_reducible show wpAny _ _ (subscriptTail _ _ (Value.ref _) (Value.str _ _)) _ _ _); k_dflt (refine kdG_tail (knd := PySem.strKind _ _) (by k_asm) (by assumption) ?_)))
local macro_rules | `(tactic| walk_at "getItem ref str") => `(tactic| (k_here; k_dflt (refine kdG_getItem (knd := PySem.strKind _ _) (by k_asm) (by assumption) (strKind_is _ _ _ _) (by assumption) ?_)))

theorem flat_ok {w : World} {dp un : Nat} {fr : Option (List Env)} {gd : Option (List Code)} {s : Shared} {base : Heap} {mean : ExcName → Option Value} {mg mb : Str → Option Value} {Q E : Value → Shared → Prop} {a d tb : Addr} {es : List Ent}
    (X : (hd.heap_1 w.params).In base) (T : TP mean mg mb base) (st : base.StaysIn s.heap) (hdp : dp + 10 < recursionLimit) (hun : un + 100 < cLine)
    (H : Hsh w base s.heap a d tb es) (hsz : es.length ≤ 1000)
    (hret : ∀ D h' tk' vs ep, KeepsBut [d] s.heap h' → s.heap.get? D = none → h'.get? D = some { cls := .type "list", data := .seq vs.toArray ep } → FlatAre vs es → (∃ od, h'.get? d = some od ∧ HaD tb od) → Q (.ref D) { s with heap := h', toks := tk' }) :
    wpAny (model PySem.Challenge.rw_sz0091_01.row.prog w) (AA dp un fr gd) (call (.ref 378) [.ref a]) Q E s := by
  obtain ⟨od, hd0, ho⟩ := H.hd
  cases ho with | mk =>
  have hl0 := (Led.cons H.ha H.na (.cons hd0 H.nd .nil))
  refine wpAny_call ?_
  k_dflt refine' enter0 X T st hl0 ?k6 ?k7 ?k8 ?k9 ?kB ?c2 ?c3 ?c4 ?c5 ?_
  case k6 => k_dflt k_is
  case k7 => k_dflt k_is
  case k8 => k_room
  case k9 => k_dflt first | exact BindsTo.of_eq rfl | exact binds_K (by k_in) rfl (by k_is) rfl rfl rfl
  case kB => exact locs rfl
  case c2 => exact rfl
  case c3 => exact rfl
  case c4 => exact rfl
  case c5 => decide
  intro g' L' h' hL' sg' G' gs' F' N' X' T'
  dsimp only
  k_fold
  have had : a ≠ d := ne_cls H.ha hd0 (by intro x; cases x)
  have hT : Tab w base g' tb es := H.tabBut fun b o q h1 h2 => G' b o q (by simp [h1, h2])
  have hD := hT.dict
  repeat' (first | (k_unfold; (try dsimp only)) | (k_end; wrow_close) | ((fail_if_success (with_reducible show wpAny _ _ (exec (Stmt.For _ _ _ _ _) _) _ _ _)); first | walk1 | (dsimp only; walk1) | (leave1; walk_say "STEP leave1"; try dsimp only)) | fail "no step")
  rename_i hA fl hB l1 hC F1 N1 tkA htkA
  refine For_invV g' rfl rfl ?_
  repeat' (first | (k_unfold; (try dsimp only)) | (k_end; wrow_close) | ((fail_if_success (with_reducible show wpAny _ _ (pyIter _) _ _ _)); first | walk1 | (dsimp only; walk1) | (leave1; walk_say "STEP leave1"; try dsimp only)) | fail "no step")
  obtain ⟨od, ho, N2⟩ : ∃ od, HaD tb od ∧ News g' L' hC [(fl, W.listOf #[] 0), (a, instObj 104 d), (d, od)] := ⟨_, .mk, N1⟩
  refine for_dict rfl hD hT.sys F1 N2 [] (fun i news => ∃ its ep, news = [(fl, W.listOf its ep), (a, instObj 104 d), (d, od)] ∧ FlatAre its.toList (es.take i)) ?hj ?turn ?done
  case hj => exact ⟨#[], 0, rfl, .nil⟩
  case turn =>
    rintro i k v q u news₁ h tk I oI hk hv ⟨its, ep, rfl, hfl⟩ F2 N3 hne
    cases ho with | mk =>
    obtain ⟨t, rfl⟩ := Value.isStrOf_shape hv
    clear F1 N1 N2
    have hsz' : its.size ≤ 2000 := by
      have := hfl.len
      rw [List.length_take, Array.length_toList] at this
      omega
    have hn1 := neN <| hne _ (.head _)
    have hn2 := neN <| hne _ (.tail _ (.head _))
    have hn3 := neN <| hne _ (.tail _ (.tail _ (.head _)))
    rw [List.getElem?_map] at hk
    obtain ⟨e, he, hk⟩ := Option.map_eq_some_iff.mp hk
    cases hk
    have hva := (hT.find (List.mem_of_getElem? he)).1
    repeat' (first | (k_unfold; (try dsimp only)) | (k_end; wrow_close) | (first | walk1 | (dsimp only; walk1) | (leave1; walk_say "STEP leave1"; try dsimp only)) | fail "no step")
    refine LStep.next (by assumption) (by assumption) (by simp [hn1, hn2, hn3]) ⟨⟨_, _, rfl, ?_⟩, by intro y h1 _; simp [h1]⟩
    rw [List.take_add_one, he]
    simpa using hfl.snoc e t
  case done =>
    rintro u news₁ h tk ⟨its, ep, rfl, hfl⟩ F2 N3
    rw [List.length_map, List.take_length] at hfl
    have kb : KeepsBut [d] s.heap h := keeps_end hl0 G' F2 N3 (by first | ((repeat' (first | exact sub_nil | refine sub_cons ?_ ?_)); (all_goals (first | ((repeat (first | exact .head _ | refine .tail _ ?_)); done) | (refine Or.inr ?_; (repeat (first | exact .head _ | refine .tail _ ?_)); done) | (refine Or.inl ?_; (repeat (first | exact .head _ | refine .tail _ ?_)); done) | (apply Exists.intro; (repeat (first | exact .head _ | refine .tail _ ?_)); done) | (intro p hp; (repeat (first | exact hp | refine .tail _ ?_)); done))); done) | (trace "SUBFALL"; simp))
    have hfr : s.heap.get? fl = none := by
      cases q : s.heap.get? fl with
      | none => rfl
      | some o =>
        have := (N3 (fl, _) (.head _)).2.2
        rw [G' fl o q (by simp; exact ⟨Nat.ne_of_gt l1.1, Nat.ne_of_gt l1.2⟩)] at this
        cases this
    clear F1 N1 N2
    repeat' (first | (k_unfold; (try dsimp only)) | (k_end; wrow_close) | (first | walk1 | (dsimp only; walk1) | (leave1; walk_say "STEP leave1"; try dsimp only)) | fail "no step")
    exact hret fl _ _ its.toList ep kb hfr (by simpa using (N3 (fl, _) (.head _)).1) hfl ⟨od, (N3 (d, _) (.tail _ (.tail _ (.head _)))).1, ho⟩
end
section
local macro_rules | `(tactic| walk_at "eval Name") => `(tactic| (k_here; k_inBlock; k_dflt (first
  | (refine wpAny_Name (wpAny_loadName_local (by exact rfl) (by exact rfl) (Fr.ns (by k_asm)) (by assumption) ?_) (by decide))
  | (refine wpAny_Name (wpAny_loadName_cell (by exact rfl) (by exact rfl) (by exact rfl) ⟨_, News.get (by k_asm) (by k_mem), by k_asm⟩ ?_) (by decide)))))

theorem value_of_str {w : World} {dp un : Nat} {fr : Option (List Env)} {gd : Option (List Code)} {s : Shared} {base : Heap} {mean : ExcName → Option Value} {mg mb : Str → Option Value} {Q E : Value → Shared → Prop} {x : Str} {t : Tok}
    (X : (hd.heap_1 w.params).In base) (T : TP mean mg mb base) (st : base.StaysIn s.heap) (hdp : dp + 10 < recursionLimit) (hun : un + 100 < cLine)
    (hret : ∀ h' tk', s.heap.StaysIn h' → Q (.str x t) { s with heap := h', toks := tk' }) :
    wpAny (model PySem.Challenge.rw_sz0091_01.row.prog w) (AA dp un fr gd) (call (.ref 257) [.str x t]) Q E s := by
  have hl0 := (Led.nil (h := s.heap) (base := base))
  refine wpAny_call ?_
  k_dflt refine' enter0 X T st hl0 ?k6 ?k7 ?k8 ?k9 ?kB ?c2 ?c3 ?c4 ?c5 ?_
  case k6 => k_dflt k_is
  case k7 => k_dflt k_is
  case k8 => k_room
  case k9 => k_dflt first | exact BindsTo.of_eq rfl | exact binds_K (by k_in) rfl (by k_is) rfl rfl rfl
  case kB => exact locs rfl
  case c2 => exact rfl
  case c3 => exact rfl
  case c4 => exact rfl
  case c5 => decide
  intro g' L' h' hL' sg' G' gs' F' N' X' T'
  dsimp only
  k_fold
  k_steps
  exact hret _ _ (stays_end hl0 (by assumption) (by assumption) (by assumption) (by first | ((repeat' (first | exact sub_nil | refine sub_cons ?_ ?_)); (all_goals (first | ((repeat (first | exact .head _ | refine .tail _ ?_)); done) | (refine Or.inr ?_; (repeat (first | exact .head _ | refine .tail _ ?_)); done) | (refine Or.inl ?_; (repeat (first | exact .head _ | refine .tail _ ?_)); done) | (apply Exists.intro; (repeat (first | exact .head _ | refine .tail _ ?_)); done) | (intro p hp; (repeat (first | exact hp | refine .tail _ ?_)); done))); done) | (trace "SUBFALL"; simp)))

inductive MemAre (base h : Heap) : List Value → List Str → Prop
  | nil : MemAre base h [] []
  | str {x : Str} {t : Tok} {vs xs} : MemAre base h vs xs → MemAre base h (.str x t :: vs) (x :: xs)
  | sc {x : Str} {a d : Addr} {od : Obj} {num : Int} {t : Tok} {vs xs} : h.get? a = some (instObj 66 d) → h.get? d = some od → ScD num 1 (.str x t) od → base.get? a = none → base.get? d = none → MemAre base h vs xs → MemAre base h (.ref a :: vs) (x :: xs)
theorem MemAre.len {base h : Heap} {vs : List Value} {xs : List Str} (m : MemAre base h vs xs) : vs.length = xs.length := by induction m <;> simp_all
def MemVal (base h : Heap) (v : Value) (x : Str) : Prop := (∃ t, v = .str x t) ∨ ∃ a d od num t, v = .ref a ∧ h.get? a = some (instObj 66 d) ∧ h.get? d = some od ∧ ScD num 1 (.str x t) od ∧ base.get? a = none ∧ base.get? d = none
theorem ScD.val {num cnt : Int} {v : Value} {od : Obj} (h : ScD num cnt v od) : lookIn (Str.ofString "value") od = some (some v) := by cases h; with_unfolding_all rfl
theorem MemVal.one {base h : Heap} {v : Value} {x y : Str} (h1 : MemVal base h v x) (h2 : MemVal base h v y) : x = y := by
  rcases h1 with ⟨t, rfl⟩ | ⟨a, d, od, num, t, rfl, ha, hd, ho, _⟩
  · rcases h2 with ⟨u, q⟩ | ⟨a, d, od, num, u, q, _⟩
    · cases q; rfl
    · cases q
  · rcases h2 with ⟨u, q⟩ | ⟨a', d', od', num', u, q, ha', hd', ho', _⟩
    · cases q
    · cases q
      rw [ha] at ha'
      have e1 : d = d' := by
        have := congrArg (fun o : Option Obj => o.bind (·.dict)) ha'
        simpa using this
      subst e1
      rw [hd] at hd'
      cases hd'
      have := ho.val.symm.trans ho'.val
      cases this; rfl
theorem MemAre.get {base h : Heap} {vs : List Value} {xs : List Str} (m : MemAre base h vs xs) : ∀ {i : Nat} {v : Value}, vs[i]? = some v → ∃ x, xs[i]? = some x ∧ MemVal base h v x := by
  induction m with
  | nil => intro i v e; simp at e
  | str _ ih =>
    intro i v e
    cases i with
    | zero => simp at e; exact ⟨_, rfl, .inl ⟨_, e.symm⟩⟩
    | succ j => simpa using ih (by simpa using e)
  | sc h1 h2 h3 h4 h5 _ ih =>
    intro i v e
    cases i with
    | zero => simp at e; exact ⟨_, rfl, .inr ⟨_, _, _, _, _, e.symm, h1, h2, h3, h4, h5⟩⟩
    | succ j => simpa using ih (by simpa using e)
theorem flat_mem {w : World} {base h : Heap} {tb : Addr} {es₀ : List Ent} (T : Tab w base h tb es₀) {vs : List Value} {es : List Ent} (f : FlatAre vs es) (hs : ∀ e ∈ es, e ∈ es₀) : MemAre base h vs (es.flatMap fun e => [e.k, e.x]) := by
  induction f with
  | nil => exact .nil
  | cons e t _ ih =>
    have he := hs e (.head _)
    obtain ⟨od, num, u, h1, h2⟩ := T.sd e he
    exact .str (.sc (T.sc e he) h1 h2 (T.nsc e he) (T.nsd e he) (ih fun e h => hs e (.tail _ h)))
theorem paired_strs {R : Value → Value → Prop} {vs ys : List Value} {xs : List Str} (hp : Paired R vs ys) (hl : vs.length = xs.length) (hR : ∀ (i : Nat) v y x, vs[i]? = some v → xs[i]? = some x → R v y → ∃ u, y = .str x u) : StrsAre ys xs := by
  induction hp generalizing xs with
  | nil => cases xs with | nil => exact .nil | cons _ _ => simp at hl
  | cons h1 _ ih =>
    cases xs with
    | nil => simp at hl
    | cons x r =>
      obtain ⟨u, rfl⟩ := hR 0 _ _ x rfl rfl h1
      exact .cons _ _ (ih (by simpa using hl) fun i v y x h2 h3 h4 => hR (i + 1) v y x (by simpa using h2) (by simpa using h3) h4)

theorem pv_ok {w : World} {dp un : Nat} {fr : Option (List Env)} {gd : Option (List Code)} {s : Shared} {base : Heap} {mean : ExcName → Option Value} {mg mb : Str → Option Value} {Q E : Value → Shared → Prop} {nl : Addr} {ns : List Value} {ks : List Str}
    (X : (hd.heap_1 w.params).In base) (T : TP mean mg mb base) (st : base.StaysIn s.heap) (hdp : dp + 20 < recursionLimit) (hun : un + 200 < cLine)
    (hnl : s.heap.IsList nl ns.toArray) (hns : MemAre base s.heap ns ks) (hsz : ks.length ≤ 1000)
    (hret : ∀ D h' tk' ys ep, s.heap.StaysIn h' → s.heap.get? D = none → h'.get? D = some { cls := .type "list", data := .seq ys ep } → StrsAre ys.toList ks → Q (.ref D) { s with heap := h', toks := tk' }) :
    wpAny (model PySem.Challenge.rw_sz0091_01.row.prog w) (AA dp un fr gd) (call (.ref 329) [.ref nl]) Q E s := by
  have hl0 := (Led.nil (h := s.heap) (base := base))
  refine wpAny_call ?_
  k_dflt refine' enter0 X T st hl0 ?k6 ?k7 ?k8 ?k9 ?kB ?c2 ?c3 ?c4 ?c5 ?_
  case k6 => k_dflt k_is
  case k7 => k_dflt k_is
  case k8 => k_room
  case k9 => k_dflt first | exact BindsTo.of_eq rfl | exact binds_K (by k_in) rfl (by k_is) rfl rfl rfl
  case kB => exact locs rfl
  case c2 => exact rfl
  case c3 => exact rfl
  case c4 => exact rfl
  case c5 => decide
  intro g' L' h' hL' sg' G' gs' F' N' X' T'
  dsimp only
  k_fold
  repeat' (first | (k_unfold; (try dsimp only)) | (k_end; wrow_close) | ((fail_if_success (with_reducible show wpAny _ _ (eval (Expr.ListComp _ _ _ _) _) _ _ _)); first | walk1 | (dsimp only; walk1) | (leave1; walk_say "STEP leave1"; try dsimp only)) | fail "no step")
  refine' wpAny_ListComp_free (fun _ => true) (fun v y => ∀ x, MemVal base s.heap v x → ∃ u, y = .str x u) ?hclos ?hcell ?hkind ?hnames ?hx ?h
  case hclos => with_unfolding_all exact rfl
  case hcell => decide
  case hkind => exact rfl
  case hnames => decide
  case hx => exact rfl
  repeat' (first | (k_unfold; (try dsimp only)) | (k_end; wrow_close) | ((fail_if_success (with_reducible show wpAny _ _ (pyIter _) _ _ _)); first | walk1 | (dsimp only; walk1) | (leave1; walk_say "STEP leave1"; try dsimp only)) | fail "no step")
  have sH : s.heap.StaysIn h' := stays_end hl0 G' F' N' (fun _ h => nomatch h)
  refine ci_list (fun _ => true) _ rfl (hnl.at fun o e => sH _ _ e) ?hsz F' N' ?tests ?elt ?done
  case hsz => rw [hns.len, sizeLine_eq]; omega
  case tests => intros; exact no_tests (v := .none) (p := fun _ => true) rfl
  case elt =>
    intro C i v s₃ m₃ E' hv _ F₃ hm₃ N₃ st₃
    obtain ⟨x, hx, hmv⟩ := hns.get hv
    have up : ∀ {b : Addr} {o : Obj}, s.heap.get? b = some o → s₃.heap.get? b = some o := fun q => st₃ _ _ (sH _ _ q)
    repeat' (first | (k_unfold; (try dsimp only)) | (k_end; wrow_close) | ((fail_if_success (with_reducible show wpAny _ _ (call (Value.ref 257) _) _ _ _)); first | walk1 | (dsimp only; walk1) | (leave1; walk_say "STEP leave1"; try dsimp only)) | fail "no step")
    rcases id hmv with ⟨t, rfl⟩ | ⟨a, d, od, num, t, rfl, ha, hd0, ho, hb, hb'⟩
    · refine value_of_str X T (fun b o q => up (st b o q)) (by first | exact room2 (by assumption) (by decide) | exact room3 (by assumption) (by decide) | exact room1 (by assumption) (by decide) | (trace "DUFALL"; simp only [AA, Around.deeper, Around.in1]; omega)) (by first | exact room2 (by assumption) (by decide) | exact room3 (by assumption) (by decide) | exact room1 (by assumption) (by decide) | (trace "DUFALL"; simp only [AA, Around.deeper, Around.in1]; omega)) ?_
      intro h₄ tk₄ st₄
      k_unfold
      exact ⟨fun y q => ⟨t, by rw [hmv.one q]⟩, h₄, _, rfl, st₄⟩
    · refine value_of_sc X T (fun b o q => up (st b o q)) (by first | exact room2 (by assumption) (by decide) | exact room3 (by assumption) (by decide) | exact room1 (by assumption) (by decide) | (trace "DUFALL"; simp only [AA, Around.deeper, Around.in1]; omega)) (by first | exact room2 (by assumption) (by decide) | exact room3 (by assumption) (by decide) | exact room1 (by assumption) (by decide) | (trace "DUFALL"; simp only [AA, Around.deeper, Around.in1]; omega)) (up ha) (up hd0) ho hb hb' ?_
      intro h₄ tk₄ st₄
      k_unfold
      exact ⟨fun y q => ⟨t, by rw [hmv.one q]⟩, h₄, _, rfl, st₄⟩
  case done =>
    intro D h₂ tk ys ep F₂ N₂ hn₂ hG st₂ hD
    refine hret D h₂ tk ys ep (fun b o q => st₂ b o (sH b o q)) (by
      cases q : s.heap.get? D with
      | none => rfl
      | some o => rw [sH _ _ q] at hD; cases hD) (N₂ _ (.head _)).1 ?_
    rw [List.filter_eq_self.mpr (fun _ _ => rfl)] at hG
    refine paired_strs hG hns.len fun i v y x h1 h2 h3 => ?_
    obtain ⟨x', q1, q2⟩ := hns.get h1
    rw [h2] at q1; cases q1
    exact h3 x q2
end
section
theorem fm0 (x : Int) {n : Int} (h : 0 < n) : 0 ≤ x.fmod n := by rw [Int.fmod_eq_emod_of_nonneg _ (Int.le_of_lt h)]; exact Int.emod_nonneg _ (by omega)
theorem shuffle_ok {w : World} {dp un : Nat} {fr : Option (List Env)} {gd : Option (List Code)} {s : Shared} {base : Heap} {mean : ExcName → Option Value} {mg mb : Str → Option Value} {Q E : Value → Shared → Prop} {dk l0 : Addr} {k : Int} {t : Tok} {vs : List Value} {ns : List Int} {n : Int} {tn : Tok}
    (X : (hd.heap_1 w.params).In base) (T : TP mean mg mb base) (st : base.StaysIn s.heap) (hdp : dp + 10 < recursionLimit) (hun : un + 100 < cLine)
    (hdk : s.heap.get? dk = some (W.listOf [Value.ref l0, .int k t].toArray 0)) (hb : base.get? dk = none) (hl : s.heap.IsList l0 vs.toArray) (hne : l0 ≠ dk) (hi : IntsAre vs ns) (hsz : ns.length ≤ 13) (hk0 : 0 ≤ k) (hk1 : k ≤ 1000) (hn0 : 0 < n) (hn1 : n ≤ 10)
    (hret : ∀ h' tk' r u t', KeepsBut [dk] s.heap h' → 0 ≤ r → r < n → h'.get? dk = some (W.listOf [Value.ref l0, .int (k + 1) t'].toArray 0) → Q (.int r u) { s with heap := h', toks := tk' }) :
    wpAny (model PySem.Challenge.rw_sz0091_01.row.prog w) (AA dp un fr gd) (call (.ref 516) [.ref dk, .int n tn]) Q E s := by
  have hl0 := (Led.cons hdk hb .nil)
  refine wpAny_call ?_
  k_dflt refine' enter0 X T st hl0 ?k6 ?k7 ?k8 ?k9 ?kB ?c2 ?c3 ?c4 ?c5 ?_
  case k6 => k_dflt k_is
  case k7 => k_dflt k_is
  case k8 => k_room
  case k9 => k_dflt first | exact BindsTo.of_eq rfl | exact binds_K (by k_in) rfl (by k_is) rfl rfl rfl
  case kB => exact locs rfl
  case c2 => exact rfl
  case c3 => exact rfl
  case c4 => exact rfl
  case c5 => decide
  intro g' L' h' hL' sg' G' gs' F' N' X' T'
  dsimp only
  k_fold
  have hl' : g'.IsList l0 vs.toArray := hl.at fun o e => G' _ _ e (by simpa using hne)
  have hlen := hi.length
  repeat' (first | (k_unfold; (try dsimp only)) | (k_end; wrow_close) | (first | walk1 | (dsimp only; walk1) | (leave1; walk_say "STEP leave1"; try dsimp only)) | fail "no step")
  all_goals (
    rename News _ _ _ _ => N1
    exact hret _ _ _ _ _ (keeps_end hl0 G' (by assumption) N1 (by first | ((repeat' (first | exact sub_nil | refine sub_cons ?_ ?_)); (all_goals (first | ((repeat (first | exact .head _ | refine .tail _ ?_)); done) | (refine Or.inr ?_; (repeat (first | exact .head _ | refine .tail _ ?_)); done) | (refine Or.inl ?_; (repeat (first | exact .head _ | refine .tail _ ?_)); done) | (apply Exists.intro; (repeat (first | exact .head _ | refine .tail _ ?_)); done) | (intro p hp; (repeat (first | exact hp | refine .tail _ ?_)); done))); done) | (trace "SUBFALL"; simp))) (fm0 _ hn0) (Int.fmod_lt_of_pos _ hn0) (N1 _ (.head _)).1)
end
section
theorem upG {base g h : Heap} {L : Addr} {m : Str → Option Value} (sg : base.StaysIn g) (F : Fr g L h m) : base.StaysIn h := fun b o e => F.keep b o (sg b o e)
theorem backF {S : List Addr} {g h h' : Heap} {L : Addr} {m : Str → Option Value} {news : List (Addr × Obj)} (F : Fr g L h m) (N : News g L h news) (kb : KeepsBut S h h') (hS : ∀ a ∈ S, ∃ o, (a, o) ∈ news) : Fr g L h' m := by
  obtain ⟨oL, es, ep, hL, r⟩ := F.ns
  refine ⟨⟨oL, es, ep, kb _ _ hL fun q => ?_, r⟩, fun b o e => kb b o (F.keep b o e) fun q => ?_, F.above⟩
  · obtain ⟨o, ho⟩ := hS _ q; exact (N _ ho).2.1 rfl
  · obtain ⟨o', ho⟩ := hS _ q
    have := (N _ ho).2.2
    rw [e] at this; cases this
theorem backN {S : List Addr} {g h h' : Heap} {L : Addr} {m : Str → Option Value} {news : List (Addr × Obj)} (news' : List (Addr × Obj)) (F : Fr g L h m) (N : News g L h news) (kb : KeepsBut S h h') (hS : ∀ a ∈ S, ∃ o, (a, o) ∈ news)
    (hn : ∀ p ∈ news', (p ∈ news ∧ p.1 ∉ S) ∨ (h'.get? p.1 = some p.2 ∧ (p.1 ∈ S ∨ h.get? p.1 = none))) : News g L h' news' := fun p hp => by
  rcases hn p hp with ⟨h1, h2⟩ | ⟨h1, h2⟩
  · exact ⟨kb _ _ (N p h1).1 h2, (N p h1).2⟩
  · refine ⟨h1, ?_⟩
    rcases h2 with h2 | h2
    · obtain ⟨o, ho⟩ := hS _ h2; exact (N _ ho).2
    · obtain ⟨oL, es, ep, hL, r⟩ := F.ns
      refine ⟨fun q => ?_, ?_⟩
      · rw [q, hL] at h2; cases h2
      cases q : g.get? p.1 with
      | none => rfl
      | some o => rw [F.keep _ _ q] at h2; cases h2

theorem backU {g h h' : Heap} {L a : Addr} {o o' : Obj} {news news' : List (Addr × Obj)} (U : Upd a o o' news news') (N : News g L h news) (kb : KeepsBut [a] h h') (ha : h'.get? a = some o') : News g L h' news' := by
  obtain ⟨pre, post, rfl, rfl, h1, h2⟩ := U.split
  have D := N (a, o) (by simp)
  intro p hp
  rcases List.mem_append.mp hp with q | q
  · have P := N p (List.mem_append_left _ q)
    exact ⟨kb _ _ P.1 (by simpa using h1 p q), P.2⟩
  · rcases List.mem_cons.mp q with rfl | q
    · exact ⟨ha, D.2⟩
    · have P := N p (List.mem_append_right _ (.tail _ q))
      exact ⟨kb _ _ P.1 (by simpa using h2 p q), P.2⟩
theorem addN {g h h' : Heap} {L a : Addr} {o : Obj} {m : Str → Option Value} {news' : List (Addr × Obj)} (F : Fr g L h m) (N : News g L h' news') (ha : h'.get? a = some o) (hn : h.get? a = none) : News g L h' ((a, o) :: news') := fun p hp => by
  rcases List.mem_cons.mp hp with rfl | hp
  · obtain ⟨oL, es, ep, hL, r⟩ := F.ns
    refine ⟨ha, fun (q : a = L) => ?_, ?_⟩
    · subst q; rw [hL] at hn; cases hn
    · show g.get? a = none
      cases q : g.get? a with
      | none => rfl
      | some o => rw [F.keep _ _ q] at hn; cases hn
  · exact N p hp

def ch (i : Nat) : Str := ⟨#[97 + i]⟩
def txt (l : List Nat) : Str := ⟨(l.map (97 + ·)).toArray⟩
theorem txt_len (l : List Nat) : (txt l).length = l.length := by simp [txt, PySem.Str.length]
theorem item_txt {prog : Program} {w : World} {A : Around} {E : Value → Shared → Prop} {s : Shared} {Q : Value → Shared → Prop} {value slice : PySem.Expr} {l : List Nat} {r : Int} {t u : Tok} (h0 : 0 ≤ r) (h1 : r < (txt l).length) (h6 : (txt l).length ≤ 100)
    (h : ∀ j, l[r.toNat]? = some j → Q (.str (ch j) s.toks) { s with toks := s.toks + 1 })
    (hs : subscripted slice false (.str (txt l) t) (.int r u) = operate [.str (txt l) t, .int r u] (getItem (.str (txt l) t) (.int r u)) := by with_unfolding_all rfl)
    (ht : ∀ q, letTemporaryGo value (.str (txt l) t) q = pure () := by intro _; with_unfolding_all rfl) :
    wpAny (model prog w) A (subscriptTail value slice (.str (txt l) t) (.int r u)) Q E s := by
  refine item_str (fitsSsize_of (N := 9223372036854775808) (by omega) (by omega) (Int.le_refl _)) (by omega) (by omega) (fun _ => ?_) hs ht
  have hlen := txt_len l
  have hj : r.toNat < l.length := by omega
  have e : Txt.item (txt l) r = ch (l[r.toNat]'hj) := by
    have h2 : Txt.item (txt l) r = ⟨#[97 + l[r.toNat]'hj]⟩ := by
      unfold Txt.item Txt.charAt
      have h3 : seqIndex? r (txt l).length = some r.toNat := by
        unfold seqIndex?
        have h4 : ¬ r < 0 := by omega
        simp only [if_neg h4]
        rw [if_pos (by simp; omega)]
      rw [h3]
      simp [txt, hj]
    exact h2
  rw [e]
  exact h _ (List.getElem?_eq_getElem hj)
theorem replace_txt {prog : Program} {w : World} {A : Around} {E : Value → Shared → Prop} {s : Shared} {Q : Value → Shared → Prop} {l : List Nat} {j : Nat} {t u v : Tok} (h6 : (txt l).length ≤ 100) (hu : @LE.le Nat _ 1 u) (hv : @LT.lt Nat _ u v)
    (h : ∀ t' k, Q (.str (txt (l.filter (· != j))) t') { s with toks := k }) : wpAny (model prog w) A (call (.builtin "str.replace") [.str (txt l) t, .str (ch j) u, .str (Str.ofString "") v]) Q E s := by
  refine SC.replaceW (Nat.ne_of_gt hu) (Nat.ne_of_gt (Nat.lt_of_lt_of_le (Nat.lt_of_lt_of_le Nat.zero_lt_one hu) (Nat.le_of_lt hv))) (Nat.ne_of_lt hv) ?_ (by omega) (by decide) fun t' k => ?_
  · have : (Str.ofString "").cps.size = 0 := by decide
    cases q : (ch j == Str.ofString "") with
    | false => rfl
    | true =>
      have e := eq_of_beq q
      rw [← e] at this
      simp [ch] at this
  · have e : Txt.replace (txt l) (ch j) (Str.ofString "") = txt (l.filter (· != j)) := by
      have h1 := replace_strikes (txt l) (97 + j)
      have h2 : Str.ofString "" = ⟨#[]⟩ := by decide
      rw [h2]
      have h3 : (Txt.replace (txt l) (ch j) ⟨#[]⟩).cps = (txt (l.filter (· != j))).cps := by
        apply Array.toList_inj.mp
        refine h1.trans ?_
        simp only [txt, List.toList_toArray]
        clear h1 h h6
        induction l with
        | nil => rfl
        | cons a r ih =>
          by_cases q : a = j
          · subst q; simpa using ih
          · have q1 : (97 + a != 97 + j) = true := by simp; omega
            have q2 : (a != j) = true := by simpa using q
            rw [List.map_cons, List.filter_cons_of_pos (by exact q1), List.filter_cons_of_pos (by exact q2), List.map_cons, ih]
      exact Str.ext' h3
    rw [e]; exact h t' k

theorem strs_snoc {vs : List Value} {xs : List Str} (h : StrsAre vs xs) (x : Str) (t : Tok) : StrsAre (vs ++ [.str x t]) (xs ++ [x]) := by
  induction h with
  | nil => exact .cons _ _ .nil
  | cons y u _ ih => exact .cons _ _ ih
structure OSt where
  its : Array Value
  ep : Nat
  l : List Nat
  tl : Tok
  k : Int
  tk : Tok

theorem order_ok {w : World} {dp un : Nat} {fr : Option (List Env)} {gd : Option (List Code)} {s : Shared} {base : Heap} {mean : ExcName → Option Value} {mg mb : Str → Option Value} {Q E : Value → Shared → Prop} {dk l0 : Addr} {k : Int} {t tl : Tok} {vs : List Value} {ns : List Int} {l : List Nat}
    (X : (hd.heap_1 w.params).In base) (T : TP mean mg mb base) (st : base.StaysIn s.heap) (hdp : dp + 20 < recursionLimit) (hun : un + 200 < cLine)
    (hdk : s.heap.get? dk = some (W.listOf [Value.ref l0, .int k t].toArray 0)) (hb : base.get? dk = none) (hl : s.heap.IsList l0 vs.toArray) (hne : l0 ≠ dk) (hi : IntsAre vs ns) (hsz : ns.length ≤ 13) (hk0 : 0 ≤ k) (hk1 : k ≤ 500) (hnd : l.Nodup) (hll : l.length ≤ 6) (htk0 : 1 ≤ s.toks)
    (hret : ∀ D h' tk' ys ep (fs : List Nat) (k' : Int) t', KeepsBut [dk] s.heap h' → s.heap.get? D = none → h'.get? D = some { cls := .type "list", data := .seq ys ep } → StrsAre ys.toList (fs.map ch) → fs.Perm l → 0 ≤ k' → k' ≤ k + 6 → h'.get? dk = some (W.listOf [Value.ref l0, .int k' t'].toArray 0) → Q (.ref D) { s with heap := h', toks := tk' }) :
    wpAny (model PySem.Challenge.rw_sz0091_01.row.prog w) (AA dp un fr gd) (call (.ref 523) [.ref dk, .str (txt l) tl]) Q E s := by
  have hl0 := (Led.cons hdk hb .nil)
  refine wpAny_call ?_
  k_dflt refine' enter0 X T st hl0 ?k6 ?k7 ?k8 ?k9 ?kB ?c2 ?c3 ?c4 ?c5 ?_
  case k6 => k_dflt k_is
  case k7 => k_dflt k_is
  case k8 => k_room
  case k9 => k_dflt first | exact BindsTo.of_eq rfl | exact binds_K (by k_in) rfl (by k_is) rfl rfl rfl
  case kB => exact locs rfl
  case c2 => exact rfl
  case c3 => exact rfl
  case c4 => exact rfl
  case c5 => decide
  intro g' L' h' hL' sg' G' gs' F' N' X' T'
  dsimp only
  k_fold
  have hl' : g'.IsList l0 vs.toArray := hl.at fun o e => G' _ _ e (by simpa using hne)
  have hlen := hi.length
  repeat' (first | (k_unfold; (try dsimp only)) | (k_end; wrow_close) | ((fail_if_success (with_reducible show wpAny _ _ (exec (Stmt.While _ _ _ _) _) _ _ _)); first | walk1 | (dsimp only; walk1) | (leave1; walk_say "STEP leave1"; try dsimp only)) | fail "no step")
  rename_i fl hA l1 D2 hB l2 hC hD hE F1 N1 tkA htkA
  have N2 : News g' L' hE [(fl, W.listOf #[] 0), (dk, W.listOf [Value.ref l0, .int k t].toArray 0)] := fun p hp => N1 p (.tail _ hp)
  have hfr : s.heap.get? fl = none := by
    cases q : s.heap.get? fl with
    | none => rfl
    | some o =>
      have := (N2 (fl, _) (.head _)).2.2
      rw [G' fl o q (by simp; exact Nat.ne_of_gt l1)] at this
      cases this
  clear N1 l2
  refine while_T (σ := OSt) (fun c => [(fl, W.listOf c.its c.ep), (dk, W.listOf [Value.ref l0, .int c.k c.tk].toArray 0)]) (fun c => [("left", .str (txt c.l) c.tl)]) ["sign"]
    (fun c => ∃ fs : List Nat, StrsAre c.its.toList (fs.map ch) ∧ (fs ++ c.l).Perm l ∧ 0 ≤ c.k ∧ c.k ≤ k + fs.length) (fun c => c.l.length) ⟨#[], 0, l, tl, k, t⟩ F1 N2 ?hk ?hp 1 ?htk ?turn
  case hk => intro p hp; rw [List.mem_singleton.mp hp]; exact rfl
  case hp => exact ⟨[], .nil, by simp, hk0, by simp⟩
  case htk => dsimp only; omega
  case turn =>
    rintro ⟨its, ep, l', tl', k', tk'⟩ u h2 tk2 htk2 ⟨fs, hst, hpm, hk2, hk3⟩ F3 N3
    clear F1 N2
    dsimp only at *
    have hpl := hpm.length_eq
    rw [List.length_append] at hpl
    have htl : (txt l').length = l'.length := txt_len l'
    have htl6 : (txt l').length ≤ 6 := by omega
    have hdk' := (N3 (dk, _) (.tail _ (.head _))).1
    repeat' (first | (k_unfold; (try dsimp only)) | (k_end; wrow_close) | ((fail_if_success (with_reducible show wpAny _ _ (call (Value.ref 516) _) _ _ _)); first | walk1 | (dsimp only; walk1) | (leave1; walk_say "STEP leave1"; try dsimp only)) | fail "no step")
    · rename (_ != _) = true => hq
      have hl0' : 0 < l'.length := List.length_pos_iff.mpr (fun e => by subst e; exact absurd hq (by decide))
      refine wpAny_with_toks (n := 1) (by first | exact tkpos (by assumption) | (trace "TKFALL"; dsimp only; omega)) ?_
      refine shuffle_ok X T (upG sg' F3) (by first | exact room2 (by assumption) (by decide) | exact room3 (by assumption) (by decide) | exact room1 (by assumption) (by decide) | (trace "DUFALL"; simp only [AA, Around.deeper, Around.in1]; omega)) (by first | exact room2 (by assumption) (by decide) | exact room3 (by assumption) (by decide) | exact room1 (by assumption) (by decide) | (trace "DUFALL"; simp only [AA, Around.deeper, Around.in1]; omega)) hdk' hb (hl'.at fun o e => F3.keep _ _ e) hne hi hsz hk2 (by omega) (by omega) (by omega) ?_
      intro h4 tk4 r u4 t4 kb hr0 hr1 hdk4 htk4
      have F4 := backF F3 N3 kb (by first | ((repeat' (first | exact sub_nil | refine sub_cons ?_ ?_)); (all_goals (first | ((repeat (first | exact .head _ | refine .tail _ ?_)); done) | (refine Or.inr ?_; (repeat (first | exact .head _ | refine .tail _ ?_)); done) | (refine Or.inl ?_; (repeat (first | exact .head _ | refine .tail _ ?_)); done) | (apply Exists.intro; (repeat (first | exact .head _ | refine .tail _ ?_)); done) | (intro p hp; (repeat (first | exact hp | refine .tail _ ?_)); done))); done) | (trace "SUBFALL"; simp))
      have N4 := backN [(fl, W.listOf its ep), (dk, W.listOf [Value.ref l0, .int (k' + 1) t4].toArray 0)] F3 N3 kb (by first | ((repeat' (first | exact sub_nil | refine sub_cons ?_ ?_)); (all_goals (first | ((repeat (first | exact .head _ | refine .tail _ ?_)); done) | (refine Or.inr ?_; (repeat (first | exact .head _ | refine .tail _ ?_)); done) | (refine Or.inl ?_; (repeat (first | exact .head _ | refine .tail _ ?_)); done) | (apply Exists.intro; (repeat (first | exact .head _ | refine .tail _ ?_)); done) | (intro p hp; (repeat (first | exact hp | refine .tail _ ?_)); done))); done) | (trace "SUBFALL"; simp)) (by
        intro p hp
        simp only [List.mem_cons, List.not_mem_nil, or_false] at hp
        rcases hp with rfl | rfl
        · exact .inl ⟨.head _, by simp; exact Nat.ne_of_gt l1⟩
        · exact .inr ⟨hdk4, .inl (.head _)⟩)
      clear F3 N3
      dsimp only
      refine item_txt hr0 hr1 (by omega) ?_
      intro j hj
      have hfi := neN (Nat.ne_of_gt l1)
      have hisz : its.size ≤ 6 := by
        have h1 := strs_len hst
        rw [List.length_map, Array.length_toList] at h1
        omega
      repeat' (first | (k_unfold; (try dsimp only)) | (k_end; wrow_close) | ((fail_if_success (with_reducible show wpAny _ _ (call (Value.builtin "str.replace") _) _ _ _)); first | walk1 | (dsimp only; walk1) | (leave1; walk_say "STEP leave1"; try dsimp only)) | fail "no step")
      refine replace_txt (by omega) (by omega) (by omega) ?_
      intro t' k9
      repeat' (first | (k_unfold; (try dsimp only)) | (k_end; wrow_close) | (first | walk1 | (dsimp only; walk1) | (leave1; walk_say "STEP leave1"; try dsimp only)) | fail "no step")
      rename Fr _ _ _ _ => F5
      rename News _ _ _ _ => N5
      have hnd' : (fs ++ l').Nodup := hpm.nodup_iff.mpr hnd
      have hndl : l'.Nodup := (List.nodup_append.mp hnd').2.1
      have hjm : j ∈ l' := List.mem_of_getElem? hj
      have hp2 : l'.Perm (j :: l'.filter (· != j)) := by
        rw [← hndl.erase_eq_filter]; exact List.perm_cons_erase hjm
      have hlen2 := hp2.length_eq
      rw [List.length_cons] at hlen2
      refine ksw_end ⟨its.push (.str (ch j) tk4), ep + 1, l'.filter (· != j), t', k' + 1, t4⟩ F5 N5 (fun p hp => hp) trivial ?_ ?_ ⟨fs ++ [j], ?_, ?_, by dsimp only; omega, ?_⟩ ?_
      · intro p hp; rw [List.mem_singleton.mp hp]; exact rfl
      · intro z h1 h2
        have hz : z ≠ Str.ofString "left" := h1 _ (.head _)
        have hs : z ≠ Str.ofString "sign" := by intro e; subst e; exact absurd h2 (by decide)
        simp only [kstB, if_neg hz, if_neg hs, h2, Bool.false_eq_true, if_false]
      · rw [Array.toList_push, List.map_append]; exact strs_snoc hst _ _
      · rw [List.append_assoc]
        exact ((hp2.symm.append_left fs)).trans hpm
      · dsimp only; rw [List.length_append, List.length_singleton]; omega
      · dsimp only; omega
    · rename (_ != _) = false => hq
      have e : l' = [] := by
        cases l' with
        | nil => rfl
        | cons x r =>
          have h5 : txt (x :: r) = Str.ofString "" := by simpa [bne_eq_false_iff_eq] using hq
          have h6 := congrArg PySem.Str.length h5
          rw [txt_len, show (Str.ofString "").length = 0 from by decide] at h6
          simp at h6
      subst e
      rw [List.append_nil] at hpm
      have hpl' := hpm.length_eq
      exact hret fl _ _ its ep fs k' tk' (keeps_end hl0 G' F3 N3 (by first | ((repeat' (first | exact sub_nil | refine sub_cons ?_ ?_)); (all_goals (first | ((repeat (first | exact .head _ | refine .tail _ ?_)); done) | (refine Or.inr ?_; (repeat (first | exact .head _ | refine .tail _ ?_)); done) | (refine Or.inl ?_; (repeat (first | exact .head _ | refine .tail _ ?_)); done) | (apply Exists.intro; (repeat (first | exact .head _ | refine .tail _ ?_)); done) | (intro p hp; (repeat (first | exact hp | refine .tail _ ?_)); done))); done) | (trace "SUBFALL"; simp))) hfr (N3 _ (.head _)).1 hst hpm hk2 (by omega) (N3 _ (.tail _ (.head _))).1
end
section
inductive CntD (hp : Addr) : Obj → Prop
  | mk {h0 h1 h2 h3 : Int} {t0 t1 t2 t3 : Tok} {pl em : Addr} : CntD hp (dictOf [⟨h0, .str "heap" t0, .ref hp⟩, ⟨h1, .str "destroy" t1, .none⟩, ⟨h2, .str "places" t2, .ref pl⟩, ⟨h3, .str "empties" t3, .ref em⟩] 4)
inductive HpD (lim zl : Addr) : Obj → Prop
  | mk {h0 h1 h2 : Int} {t0 t1 t2 tl : Tok} {k : Int} : HpD lim zl (dictOf [⟨h0, .str "limits" t0, .ref lim⟩, ⟨h1, .str "last" t1, .int k tl⟩, ⟨h2, .str "zero" t2, .ref zl⟩] 3)
inductive LimD : Obj → Prop
  | mk {h0 h1 h2 h3 h4 : Int} {t0 t1 t2 t3 t4 tt : Tok} {v0 v1 v2 v3 : Value} : LimD (dictOf [⟨h0, .str "width" t0, v0⟩, ⟨h1, .str "depth" t1, v1⟩, ⟨h2, .str "steps" t2, v2⟩, ⟨h3, .str "text" t3, v3⟩, ⟨h4, .str "items" t4, .int 10000 tt⟩] 5)
structure Wd where
  cnt : Addr
  cD : Addr
  hp : Addr
  hD : Addr
  lim : Addr
  lD : Addr
  zl : Addr
structure CtAt (base h : Heap) (V : Wd) : Prop where
  cnt : h.get? V.cnt = some (instObj 482 V.cD)
  cD : ∃ o, h.get? V.cD = some o ∧ CntD V.hp o
  hp : h.get? V.hp = some (instObj 225 V.hD)
  hD : ∃ o, h.get? V.hD = some o ∧ HpD V.lim V.zl o
  ncnt : base.get? V.cnt = none
  ncD : base.get? V.cD = none
  nhp : base.get? V.hp = none
  nhD : base.get? V.hD = none
  n1 : @Ne Nat V.cD V.hD
structure WdAt (base h : Heap) (V : Wd) (z : Nat) : Prop extends CtAt base h V where
  lim : h.get? V.lim = some (instObj 504 V.lD)
  lD : ∃ o, h.get? V.lD = some o ∧ LimD o
  zl : ∃ its ep, h.get? V.zl = some (W.listOf its ep) ∧ its.size ≤ z
  nlim : base.get? V.lim = none
  nlD : base.get? V.lD = none
  nzl : base.get? V.zl = none
  n2 : @Ne Nat V.lD V.hD
theorem ne_clsN {h : Heap} {a b : Addr} {o o' : Obj} (h1 : h.get? a = some o) (h2 : h.get? b = some o') (hc : o.cls ≠ o'.cls) : @Ne Nat a b := ne_cls h1 h2 hc

theorem new_of {h g h' : Heap} {led news : List (Addr × Obj)} {L a : Addr} {o : Obj} (G : GSub h g (led.map (·.1))) (N : News g L h' news) (hm : (a, o) ∈ news) (hn : a ∉ led.map (·.1)) : h.get? a = none := by
  cases q : h.get? a with
  | none => rfl
  | some o' =>
    have := (N _ hm).2.2
    rw [G a o' q hn] at this
    cases this

theorem fresh_ok {w : World} {dp un : Nat} {fr : Option (List Env)} {gd : Option (List Code)} {s : Shared} {base : Heap} {mean : ExcName → Option Value} {mg mb : Str → Option Value} {Q E : Value → Shared → Prop} {V : Wd} {x : Str} {t : Tok}
    (X : (hd.heap_1 w.params).In base) (T : TP mean mg mb base) (st : base.StaysIn s.heap) (hdp : dp + 20 < recursionLimit) (hun : un + 200 < cLine)
    (hV : CtAt base s.heap V)
    (hret : ∀ h' tk' sc sd od num, KeepsBut [V.hD] s.heap h' → (∃ o, h'.get? V.hD = some o ∧ HpD V.lim V.zl o) → s.heap.get? sc = none → s.heap.get? sd = none → sc ≠ sd → h'.get? sc = some (instObj 66 sd) → h'.get? sd = some od → ScD num 1 (.str x t) od → Q (.ref sc) { s with heap := h', toks := tk' }) :
    wpAny (model PySem.Challenge.rw_sz0091_01.row.prog w) (AA dp un fr gd) (call (.ref 451) [.ref V.cnt, .str x t]) Q E s := by
  obtain ⟨oc, hcD, hoc⟩ := hV.cD
  obtain ⟨oh, hhD, hoh⟩ := hV.hD
  have n1 := hV.n1
  cases hoc with | mk =>
  cases hoh with | mk =>
  have n2 := ne_clsN hV.cnt hhD (by intro e; cases e)
  have n3 := ne_clsN hV.hp hhD (by intro e; cases e)
  have hl0 := (Led.cons hV.cnt hV.ncnt (.cons hcD hV.ncD (.cons hV.hp hV.nhp (.cons hhD hV.nhD .nil))))
  refine wpAny_call ?_
  k_dflt refine' enter0 X T st hl0 ?k6 ?k7 ?k8 ?k9 ?kB ?c2 ?c3 ?c4 ?c5 ?_
  case k6 => k_dflt k_is
  case k7 => k_dflt k_is
  case k8 => k_room
  case k9 => k_dflt first | exact BindsTo.of_eq rfl | exact binds_K (by k_in) rfl (by k_is) rfl rfl rfl
  case kB => exact locs rfl
  case c2 => exact rfl
  case c3 => exact rfl
  case c4 => exact rfl
  case c5 => decide
  intro g' L' h' hL' sg' G' gs' F' N' X' T'
  dsimp only
  k_fold
  repeat' (first | (k_unfold; (try dsimp only)) | (k_end; wrow_close) | (first | walk1 | (dsimp only; walk1) | (leave1; walk_say "STEP leave1"; try dsimp only)) | fail "no step")
  rename News _ _ _ _ => N9
  rename Fr _ _ _ _ => F9
  exact hret _ _ _ _ _ _ (keeps_end hl0 G' F9 N9 (by first | ((repeat' (first | exact sub_nil | refine sub_cons ?_ ?_)); (all_goals (first | ((repeat (first | exact .head _ | refine .tail _ ?_)); done) | (refine Or.inr ?_; (repeat (first | exact .head _ | refine .tail _ ?_)); done) | (refine Or.inl ?_; (repeat (first | exact .head _ | refine .tail _ ?_)); done) | (apply Exists.intro; (repeat (first | exact .head _ | refine .tail _ ?_)); done) | (intro p hp; (repeat (first | exact hp | refine .tail _ ?_)); done))); done) | (trace "SUBFALL"; simp))) ⟨_, (N9 _ (.tail _ (.tail _ (.tail _ (.tail _ (.tail _ (.tail _ (.head _)))))))).1, .mk⟩ (new_of G' N9 (.tail _ (.head _)) (by simp only [List.map_cons, List.map_nil, List.mem_cons, List.not_mem_nil, or_false, not_or]; (repeat' apply And.intro) <;> (refine neN ?_; omega))) (new_of G' N9 (.tail _ (.tail _ (.head _))) (by simp only [List.map_cons, List.map_nil, List.mem_cons, List.not_mem_nil, or_false, not_or]; (repeat' apply And.intro) <;> (refine neN ?_; omega))) (by refine neN ?_; omega) (N9 _ (.tail _ (.head _))).1 (N9 _ (.tail _ (.tail _ (.head _)))).1 .mk
end
section
theorem clear_ok {w : World} {dp un : Nat} {fr : Option (List Env)} {gd : Option (List Code)} {s : Shared} {base : Heap} {mean : ExcName → Option Value} {mg mb : Str → Option Value} {Q E : Value → Shared → Prop} {c a d tb : Addr}
    (X : (hd.heap_1 w.params).In base) (T : TP mean mg mb base) (st : base.StaysIn s.heap) (hdp : dp + 10 < recursionLimit) (hun : un + 100 < cLine)
    (H : Hsh w base s.heap a d tb [])
    (hret : ∀ h' tk' tb', KeepsBut [d] s.heap h' → s.heap.get? tb' = none → h'.DictOf (PySem.strKind PySem.Challenge.rw_sz0091_01.row.prog w) tb' [] → (∃ od, h'.get? d = some od ∧ HaD tb' od) → Q .none { s with heap := h', toks := tk' }) :
    wpAny (model PySem.Challenge.rw_sz0091_01.row.prog w) (AA dp un fr gd) (call (.ref 357) [.ref c, .ref a]) Q E s := by
  obtain ⟨od, hd0, ho⟩ := H.hd
  cases ho with | mk =>
  have had := ne_clsN H.ha hd0 (by intro x; cases x)
  have hl0 := (Led.cons H.ha H.na (.cons hd0 H.nd .nil))
  refine wpAny_call ?_
  k_dflt refine' enter0 X T st hl0 ?k6 ?k7 ?k8 ?k9 ?kB ?c2 ?c3 ?c4 ?c5 ?_
  case k6 => k_dflt k_is
  case k7 => k_dflt k_is
  case k8 => k_room
  case k9 => k_dflt first | exact BindsTo.of_eq rfl | exact binds_K (by k_in) rfl (by k_is) rfl rfl rfl
  case kB => exact locs rfl
  case c2 => exact rfl
  case c3 => exact rfl
  case c4 => exact rfl
  case c5 => decide
  intro g' L' h' hL' sg' G' gs' F' N' X' T'
  dsimp only
  k_fold
  have hT : Tab w base g' tb [] := H.tabBut fun b o q h1 h2 => G' b o q (by simp [h1, h2])
  have hD := hT.dict
  repeat' (first | (k_unfold; (try dsimp only)) | (k_end; wrow_close) | ((fail_if_success (with_reducible show wpAny _ _ (exec (Stmt.For _ _ _ _ _) _) _ _ _)); first | walk1 | (dsimp only; walk1) | (leave1; walk_say "STEP leave1"; try dsimp only)) | fail "no step")
  refine For_invV g' rfl rfl ?_
  repeat' (first | (k_unfold; (try dsimp only)) | (k_end; wrow_close) | ((fail_if_success (with_reducible show wpAny _ _ (pyIter _) _ _ _)); first | walk1 | (dsimp only; walk1) | (leave1; walk_say "STEP leave1"; try dsimp only)) | fail "no step")
  rename Fr _ _ _ _ => F1
  rename News _ _ _ _ => N1
  refine for_dict rfl hD hT.sys F1 N1 [] (fun i news => news = _) rfl ?turn ?done
  case turn => intro i k v q u news₁ h tk I oI hk; simp at hk
  case done =>
    intro u news₁ h tk hJ F2 N2
    subst hJ
    clear F1 N1
    repeat' (first | (k_unfold; (try dsimp only)) | (k_end; wrow_close) | (first | walk1 | (dsimp only; walk1) | (leave1; walk_say "STEP leave1"; try dsimp only)) | fail "no step")
    rename (Obj.IsDictOf (PySem.strKind _ _) _ _) => hs
    exact hret _ _ _ (keeps_end hl0 G' F2 N2 (by first | ((repeat' (first | exact sub_nil | refine sub_cons ?_ ?_)); (all_goals (first | ((repeat (first | exact .head _ | refine .tail _ ?_)); done) | (refine Or.inr ?_; (repeat (first | exact .head _ | refine .tail _ ?_)); done) | (refine Or.inl ?_; (repeat (first | exact .head _ | refine .tail _ ?_)); done) | (apply Exists.intro; (repeat (first | exact .head _ | refine .tail _ ?_)); done) | (intro p hp; (repeat (first | exact hp | refine .tail _ ?_)); done))); done) | (trace "SUBFALL"; simp))) (new_of G' N2 (.head _) (by simp only [List.map_cons, List.map_nil, List.mem_cons, List.not_mem_nil, or_false, not_or]; (repeat' apply And.intro) <;> (refine neN ?_; omega))) (Heap.dictOf_iff.mpr ⟨_, (N2 _ (.head _)).1, hs⟩) ⟨_, (N2 _ (.tail _ (.tail _ (.head _)))).1, .mk⟩
end
section
theorem liG_tail {prog : Program} {w : World} {A : Around} {E : Value → Shared → Prop} {s : Shared} {h₀ : Heap} {L l : Addr} {m : Str → Option Value} {vs : List Value} {k : Int} {u : Tok} {v : Value} {Q : Value → Shared → Prop} {value slice : PySem.Expr}
    (F : Fr h₀ L s.heap m) (hl : h₀.IsList l vs.toArray) (h0 : 0 ≤ k) (hhi : k < 2 ^ 63) (hx : vs[k.toNat]? = some v) (h : Q v s)
    (hs : subscripted slice false (.ref l) (.int k u) = operate [.ref l, .int k u] (getItem (.ref l) (.int k u)) := by with_unfolding_all rfl) :
    wpAny (model prog w) A (subscriptTail value slice (.ref l) (.int k u)) Q E s :=
  have hL := hl.at fun o e => F.keep l o e
  tail_any hL.typeIs slot_list_getitem.lookup (wpAny_getItem_list hL h0 hhi (by simpa using hx) h) hs
local macro_rules | `(tactic| walk_at "subscriptTail") => `(tactic| (k_here; (with_reducible show wpAny _ _ (subscriptTail _ _ (Value.ref _) (Value.int _ _)) _ _ _); k_dflt (refine liG_tail (by k_asm) (by assumption) (by assumption) (by omega) (by assumption) ?_)))
local macro_rules | `(tactic| walk_at "compareOp In str ref") => `(tactic| (k_here; k_dflt (refine kda_in (knd := PySem.strKind _ _) (by k_asm) (by k_mem) (by k_asm) (by k_asm) (strKind_is _ _ _ _) false (by assumption) ?_)))

theorem len_G {prog : Program} {w : World} {A : Around} {E : Value → Shared → Prop} {s : Shared} {h₀ : Heap} {L l : Addr} {m : Str → Option Value} {vs : List Value} {Q : Value → Shared → Prop}
    (F : Fr h₀ L s.heap m) (hl : h₀.IsList l vs.toArray) (hz : vs.length ≤ 1000000) (h : ∀ n : Nat, n = vs.length → Q (.int n (s.toks + 1)) { s with toks := s.toks + 1 + 1 }) : wpAny (model prog w) A (call (.builtin "len") [.ref l]) Q E s :=
  len_list (hl.at fun o e => F.keep l o e) (by simp; omega) (by simpa using h _ rfl)
local macro_rules | `(tactic| walk_at "call builtin:len") => `(tactic| (k_here; (with_reducible show wpAny _ _ (call (Value.builtin "len") [Value.ref _]) _ _ _); k_dflt (refine len_G (by k_asm) (by assumption) (by omega) ?_); intro nLen hnLen))
theorem flat_len (kvs : List (Str × Str)) : (kvs.flatMap fun p => [p.1, p.2]).length = 2 * kvs.length := by
  induction kvs with
  | nil => rfl
  | cons p r ih => rw [List.flatMap_cons, List.length_append, ih, List.length_cons]; simp; omega
theorem flat_get {vs : List Value} : ∀ {kvs : List (Str × Str)}, StrsAre vs (kvs.flatMap fun p => [p.1, p.2]) → ∀ {i : Nat} {k x : Str}, kvs[i]? = some (k, x) → ∃ t u, vs[2 * i]? = some (.str k t) ∧ vs[2 * i + 1]? = some (.str x u)
  | [], _, i, k, x, h => by simp at h
  | p :: r, hs, i, k, x, h => by
    rw [List.flatMap_cons] at hs
    cases hs with | cons y1 t1 h1 =>
    cases h1 with | cons y2 t2 h2 =>
    cases i with
    | zero => simp at h; subst h; exact ⟨t1, t2, rfl, rfl⟩
    | succ j =>
      obtain ⟨t, u, q1, q2⟩ := flat_get (kvs := r) h2 (by simpa using h)
      exact ⟨t, u, by simpa [Nat.mul_add] using q1, by simpa [Nat.mul_add] using q2⟩
theorem range2_size (n : Nat) : Builtin.Range.rangeSize 0 ((2 * n : Nat) : Int) 2 = (n : Int) := by
  unfold Builtin.Range.rangeSize
  rw [if_pos (by decide)]
  split <;> omega

def FillJ (w : World) (hs : Heap) (V : Wd) (d mt : Addr) (kvs : List (Str × Str)) (i : Nat) (dyn R : List (Addr × Obj)) : Prop :=
  ∃ oT oh, ∃ es : List Ent, oT.IsDictOf (PySem.strKind PySem.Challenge.rw_sz0091_01.row.prog w) (es.map fun e => (e.k, Value.ref e.sc)) ∧ HpD V.lim V.zl oh ∧ (es.map fun e => (e.k, e.x)) = kvs.take i ∧ dyn = [(mt, oT), (V.hD, oh)] ∧ (∀ p ∈ R, p.1 ≠ mt ∧ p.1 ≠ V.hD ∧ p.1 ≠ d) ∧
    (∀ e ∈ es, (e.sc, instObj 66 e.sd) ∈ R ∧ ∃ od num t, (e.sd, od) ∈ R ∧ ScD num 1 (.str e.x t) od) ∧ (∀ e ∈ es, hs.get? e.sc = none ∧ hs.get? e.sd = none) ∧ (es.map (·.sd)).Nodup
theorem valueAt_none {es : List Ent} {k : Str} (h : k ∉ es.map (·.k)) : (valueAt (es.map fun e => (e.k, Value.ref e.sc)) k).isSome = false := by
  induction es with
  | nil => rfl
  | cons e r ih =>
    rw [List.map_cons, List.mem_cons, not_or] at h
    have h1 : ¬ e.k = k := fun q => h.1 q.symm
    have := ih h.2
    simpa [valueAt, List.find?_cons, h1] using this
theorem stored_new {es : List Ent} {k : Str} {v : Value} (h : k ∉ es.map (·.k)) : stored (es.map fun e => (e.k, Value.ref e.sc)) k v = (es.map fun e => (e.k, Value.ref e.sc)) ++ [(k, v)] := by
  unfold stored
  rw [if_neg]
  intro q
  rw [List.any_eq_true] at q
  obtain ⟨p, hp, hq⟩ := q
  obtain ⟨e, he, rfl⟩ := List.mem_map.mp hp
  exact h (List.mem_map.mpr ⟨e, he, by simpa using hq⟩)
theorem new_up {h g h' : Heap} {led news : List (Addr × Obj)} {L x : Addr} {m : Str → Option Value} (G : GSub h g (led.map (·.1))) (F : Fr g L h' m) (N : News g L h' news) (hl : ∀ a ∈ led.map (·.1), a ∈ news.map (·.1)) (hn : h'.get? x = none) : h.get? x = none := by
  cases q : h.get? x with
  | none => rfl
  | some o =>
    by_cases hx : x ∈ led.map (·.1)
    · obtain ⟨p, hp, e⟩ := List.mem_map.mp (hl x hx)
      subst e
      rw [(N _ hp).1] at hn; cases hn
    · rw [F.keep _ _ (G _ _ q hx)] at hn; cases hn
theorem sub3 {i sc sd m h p : Addr × Obj} {con R : List (Addr × Obj)} (hp : p ∈ i :: ([m, h] ++ (con ++ (sc :: sd :: R)))) : p ∈ sc :: sd :: i :: m :: h :: (con ++ R) := by
  simp only [List.mem_cons, List.mem_append, List.cons_append, List.nil_append] at hp ⊢
  rcases hp with h | h | h | h | h | h | h <;> simp [h]
theorem HaD.cls {T : Addr} {o : Obj} (h : HaD T o) : o.cls = .type "dict" := by cases h; rfl
theorem HpD.cls {l z : Addr} {o : Obj} (h : HpD l z o) : o.cls = .type "dict" := by cases h; rfl
theorem CntD.cls {p : Addr} {o : Obj} (h : CntD p o) : o.cls = .type "dict" := by cases h; rfl
theorem check_ok {w : World} {dp un : Nat} {fr : Option (List Env)} {gd : Option (List Code)} {s : Shared} {base : Heap} {mean : ExcName → Option Value} {mg mb : Str → Option Value} {Q E : Value → Shared → Prop} {V : Wd} {n : Int} {t : Tok} {lD : Addr} {ol : Obj}
    (X : (hd.heap_1 w.params).In base) (T : TP mean mg mb base) (st : base.StaysIn s.heap) (hdp : dp + 10 < recursionLimit) (hun : un + 100 < cLine)
    (hV : CtAt base s.heap V) (hl : s.heap.get? V.lim = some (instObj 504 lD)) (hlD : s.heap.get? lD = some ol) (hol : LimD ol) (nl : base.get? V.lim = none) (nlD : base.get? lD = none) (hn : n ≤ 10000)
    (hret : ∀ h' tk', s.heap.StaysIn h' → Q .none { s with heap := h', toks := tk' }) :
    wpAny (model PySem.Challenge.rw_sz0091_01.row.prog w) (AA dp un fr gd) (call (.ref 324) [.ref V.cnt, .int n t]) Q E s := by
  obtain ⟨oc, hcD, hoc⟩ := hV.cD
  obtain ⟨oh, hhD, hoh⟩ := hV.hD
  cases hoc with | mk =>
  cases hoh with | mk =>
  cases hol with | mk =>
  have hl0 := (Led.cons hhD hV.nhD (.cons hV.cnt hV.ncnt (.cons hcD hV.ncD (.cons hV.hp hV.nhp (.cons hl nl (.cons hlD nlD .nil))))))
  refine wpAny_call ?_
  k_dflt refine' enter0 X T st hl0 ?k6 ?k7 ?k8 ?k9 ?kB ?c2 ?c3 ?c4 ?c5 ?_
  case k6 => k_dflt k_is
  case k7 => k_dflt k_is
  case k8 => k_room
  case k9 => k_dflt first | exact BindsTo.of_eq rfl | exact binds_K (by k_in) rfl (by k_is) rfl rfl rfl
  case kB => exact locs rfl
  case c2 => exact rfl
  case c3 => exact rfl
  case c4 => exact rfl
  case c5 => decide
  intro g' L' h' hL' sg' G' gs' F' N' X' T'
  dsimp only
  k_fold
  repeat' (first | (k_unfold; (try dsimp only)) | (k_end; wrow_close) | (first | walk1 | (dsimp only; walk1) | (leave1; walk_say "STEP leave1"; try dsimp only)) | fail "no step")
  all_goals first | done | exact hret _ _ (stays_end hl0 G' (by assumption) (by assumption) (by first | ((repeat' (first | exact sub_nil | refine sub_cons ?_ ?_)); (all_goals (first | ((repeat (first | exact .head _ | refine .tail _ ?_)); done) | (refine Or.inr ?_; (repeat (first | exact .head _ | refine .tail _ ?_)); done) | (refine Or.inl ?_; (repeat (first | exact .head _ | refine .tail _ ?_)); done) | (apply Exists.intro; (repeat (first | exact .head _ | refine .tail _ ?_)); done) | (intro p hp; (repeat (first | exact hp | refine .tail _ ?_)); done))); done) | (trace "SUBFALL"; simp))) | omega | trace_state
local macro_rules | `(tactic| walk_at "setItem ref str") => `(tactic| (k_here; k_dflt (refine' kda_set (knd := PySem.strKind _ _) ?F ?N ?U ?d (strKind_is _ _ _ _) ?z ?_; (case F => k_asm); (case N => k_asm); (case U => k_updF); (case d => k_asm); (case z => rw [sizeLine_eq, List.length_map]; omega)); intro h' o' F' N' hd'; (try dsimp only at N')))
local macro_rules | `(tactic| k_all) => `(tactic| assumption)
theorem fill_ok {w : World} {dp un : Nat} {fr : Option (List Env)} {gd : Option (List Code)} {s : Shared} {base : Heap} {mean : ExcName → Option Value} {mg mb : Str → Option Value} {Q E : Value → Shared → Prop} {V : Wd} {z : Nat} {a d tb vl : Addr} {vs : List Value} {kvs : List (Str × Str)}
    (X : (hd.heap_1 w.params).In base) (T : TP mean mg mb base) (st : base.StaysIn s.heap) (hdp : dp + 30 < recursionLimit) (hun : un + 300 < cLine)
    (hV : WdAt base s.heap V z) (H : Hsh w base s.heap a d tb []) (hdh : @Ne Nat d V.hD) (hdc : @Ne Nat d V.cD) (hdl : @Ne Nat d V.lD) (htb : tb ≠ V.hD ∧ tb ≠ V.cD ∧ tb ≠ V.lD)
    (hvl : s.heap.IsList vl vs.toArray) (hvs : StrsAre vs (kvs.flatMap fun p => [p.1, p.2])) (hnd : (kvs.map (·.1)).Nodup) (hsz : kvs.length ≤ 1000)
    (hret : ∀ h' tk' tb' es, KeepsBut [V.hD, d] s.heap h' → (∃ o, h'.get? V.hD = some o ∧ HpD V.lim V.zl o) → Hsh w base h' a d tb' es → es.map (fun e => (e.k, e.x)) = kvs → s.heap.get? tb' = none → (∀ e ∈ es, s.heap.get? e.sc = none ∧ s.heap.get? e.sd = none) → Q .none { s with heap := h', toks := tk' }) :
    wpAny (model PySem.Challenge.rw_sz0091_01.row.prog w) (AA dp un fr gd) (call (.ref 390) [.ref V.cnt, .ref a, .ref vl]) Q E s := by
  obtain ⟨oc, hcD, hoc⟩ := hV.cD
  obtain ⟨oh, hhD, hoh⟩ := hV.hD
  obtain ⟨ol, hlD, hol⟩ := hV.lD
  obtain ⟨od, hd0, ho⟩ := H.hd
  have n1 := hV.n1
  have n2 := hV.n2
  cases hoc with | mk =>
  cases hoh with | mk =>
  have n3 := ne_clsN hV.cnt hhD (by intro e; cases e)
  have n4 := ne_clsN hV.hp hhD (by intro e; cases e)
  have n6 := ne_clsN H.ha hhD (by intro e; cases e)
  have n7 := ne_clsN H.ha hd0 (by rw [HaD.cls ho]; intro e; cases e)
  have n8 := ne_clsN hV.cnt hd0 (by rw [HaD.cls ho]; intro e; cases e)
  have n9 := ne_clsN hV.hp hd0 (by rw [HaD.cls ho]; intro e; cases e)
  have hl0 := (Led.cons hhD hV.nhD (.cons hV.cnt hV.ncnt (.cons hcD hV.ncD (.cons hV.hp hV.nhp (.cons H.ha H.na (.cons hd0 H.nd .nil))))))
  refine wpAny_call ?_
  k_dflt refine' enter0 X T st hl0 ?k6 ?k7 ?k8 ?k9 ?kB ?c2 ?c3 ?c4 ?c5 ?_
  case k6 => k_dflt k_is
  case k7 => k_dflt k_is
  case k8 => k_room
  case k9 => k_dflt first | exact BindsTo.of_eq rfl | exact binds_K (by k_in) rfl (by k_is) rfl rfl rfl
  case kB => exact locs rfl
  case c2 => exact rfl
  case c3 => exact rfl
  case c4 => exact rfl
  case c5 => decide
  intro g' L' h' hL' sg' G' gs' F' N' X' T'
  dsimp only
  k_fold
  have hlen := strs_len hvs
  have hlen2 := flat_len kvs
  rw [hlen2] at hlen
  have hget : ∀ {i : Nat} {k x : Str}, kvs[i]? = some (k, x) → ∃ t u, vs[2 * i]? = some (.str k t) ∧ vs[2 * i + 1]? = some (.str x u) := fun h => flat_get hvs h
  clear hvs
  have hvl' : g'.IsList vl vs.toArray := by
    have hoc' := HaD.cls ho
    obtain ⟨o, ho, hc, r⟩ := hvl
    refine ⟨o, G' _ _ ho ?_, hc, r⟩
    have c : ∀ {b : Addr} {o' : Obj}, s.heap.get? b = some o' → o'.cls ≠ .type "list" → vl ≠ b := fun h q => ne_cls ho h (by rw [hc]; exact fun e => q e.symm)
    simp only [List.map_cons, List.map_nil, List.mem_cons, List.not_mem_nil, or_false, not_or]
    exact ⟨c hhD (by intro e; exact absurd (Value.type.inj e) (by decide)), c hV.cnt (by intro e; cases e), c hcD (by intro e; exact absurd (Value.type.inj e) (by decide)), c hV.hp (by intro e; cases e), c H.ha (by intro e; cases e), c hd0 (by rw [hoc']; intro e; exact absurd (Value.type.inj e) (by decide))⟩
  repeat' (first | (k_unfold; (try dsimp only)) | (k_end; wrow_close) | ((fail_if_success (with_reducible show wpAny _ _ (call (Value.ref 324) _) _ _ _)); first | walk1 | (dsimp only; walk1) | (leave1; walk_say "STEP leave1"; try dsimp only)) | fail "no step")
  rename Fr _ _ _ _ => F8
  rename News _ _ _ _ => N8
  have st8 := stays_end hl0 G' F8 N8 (by first | ((repeat' (first | exact sub_nil | refine sub_cons ?_ ?_)); (all_goals (first | ((repeat (first | exact .head _ | refine .tail _ ?_)); done) | (refine Or.inr ?_; (repeat (first | exact .head _ | refine .tail _ ?_)); done) | (refine Or.inl ?_; (repeat (first | exact .head _ | refine .tail _ ?_)); done) | (apply Exists.intro; (repeat (first | exact .head _ | refine .tail _ ?_)); done) | (intro p hp; (repeat (first | exact hp | refine .tail _ ?_)); done))); done) | (trace "SUBFALL"; simp))
  refine check_ok (V := V) X T (upG sg' F8) (by first | exact room2 (by assumption) (by decide) | exact room3 (by assumption) (by decide) | exact room1 (by assumption) (by decide) | (trace "DUFALL"; simp only [AA, Around.deeper, Around.in1]; omega)) (by first | exact room2 (by assumption) (by decide) | exact room3 (by assumption) (by decide) | exact room1 (by assumption) (by decide) | (trace "DUFALL"; simp only [AA, Around.deeper, Around.in1]; omega)) ⟨st8 _ _ hV.cnt, ⟨_, (N8 _ (.tail _ (.tail _ (.head _)))).1, .mk⟩, st8 _ _ hV.hp, ⟨_, (N8 _ (.head _)).1, .mk⟩, hV.ncnt, hV.ncD, hV.nhp, hV.nhD, n1⟩ (st8 _ _ hV.lim) (st8 _ _ hlD) hol hV.nlim hV.nlD ?hroom ?_
  case hroom => rw [Int.fdiv_eq_ediv_of_nonneg _ (by decide)]; omega
  intro h0 tk0 st0
  have kb0 : KeepsBut [] _ h0 := fun b o q _ => st0 _ _ q
  have F7 := backF F8 N8 kb0 (by first | ((repeat' (first | exact sub_nil | refine sub_cons ?_ ?_)); (all_goals (first | ((repeat (first | exact .head _ | refine .tail _ ?_)); done) | (refine Or.inr ?_; (repeat (first | exact .head _ | refine .tail _ ?_)); done) | (refine Or.inl ?_; (repeat (first | exact .head _ | refine .tail _ ?_)); done) | (apply Exists.intro; (repeat (first | exact .head _ | refine .tail _ ?_)); done) | (intro p hp; (repeat (first | exact hp | refine .tail _ ?_)); done))); done) | (trace "SUBFALL"; simp))
  have N7 := backN _ F8 N8 kb0 (by first | ((repeat' (first | exact sub_nil | refine sub_cons ?_ ?_)); (all_goals (first | ((repeat (first | exact .head _ | refine .tail _ ?_)); done) | (refine Or.inr ?_; (repeat (first | exact .head _ | refine .tail _ ?_)); done) | (refine Or.inl ?_; (repeat (first | exact .head _ | refine .tail _ ?_)); done) | (apply Exists.intro; (repeat (first | exact .head _ | refine .tail _ ?_)); done) | (intro p hp; (repeat (first | exact hp | refine .tail _ ?_)); done))); done) | (trace "SUBFALL"; simp)) (fun p hp => .inl ⟨hp, fun m => nomatch m⟩)
  clear F8 N8
  dsimp only
  repeat' (first | (k_unfold; (try dsimp only)) | (k_end; wrow_close) | ((fail_if_success (with_reducible show wpAny _ _ (exec (Stmt.For _ _ _ _ _) _) _ _ _)); first | walk1 | (dsimp only; walk1) | (leave1; walk_say "STEP leave1"; try dsimp only)) | fail "no step")
  refine For_invV g' rfl rfl ?_
  repeat' (first | (k_unfold; (try dsimp only)) | (k_end; wrow_close) | ((fail_if_success (with_reducible show wpAny _ _ (pyIter _) _ _ _)); first | walk1 | (dsimp only; walk1) | (leave1; walk_say "STEP leave1"; try dsimp only)) | fail "no step")
  rename_i mt hA oT hsys hds hf1 hi1 hf2 l1 hB F0 N0 nL hnL hC tkC t1 u1 v1 hR F1 N1 hk1
  rw [hnL, hlen] at hR
  refine for_rangeC [(mt, oT), (V.hD, _)] rfl hR ?hsm (range2_size kvs.length) F1 N1 ["key", "value"] (FillJ w s.heap V d mt kvs) ?hj ?turn ?done
  case hsm =>
    have h0 := range2_size kvs.length
    unfold Builtin.Range.small Builtin.Range.rangeFitsLong
    rw [h0]
    simp only [Bool.and_eq_true, Bool.or_eq_true, decide_eq_true_eq]
    simp
    omega
  case hj => exact ⟨oT, _, [], hds, .mk, rfl, rfl, (fun _ h => nomatch h), (fun _ h => nomatch h), (fun _ h => nomatch h), List.nodup_nil⟩
  case turn =>
    rintro i t u dyn R h tk I oI hi ⟨oT', oh, es, hdT, hoh, hes, rfl, hR1, hR2, hR3, hR4⟩ F2 N2 hd1 hd2 hd3
    dsimp only [List.cons_append, List.nil_append] at N2
    clear F0 N0 F1 N1 hds hf1 hi1 hf2
    have hmI := neN <| hd1 _ (.head _)
    have hRm : ∀ p ∈ R, p.1 ≠ mt := fun p hp => (hR1 p hp).1
    obtain ⟨⟨k, x⟩, hkx⟩ : ∃ q, kvs[i]? = some q := ⟨kvs[i], by simp [hi]⟩
    obtain ⟨t1, t2, hv1, hv2⟩ := hget hkx
    have ej : (0 + (i : Int) * 2).toNat = 2 * i := by omega
    have ej2 : (0 + (i : Int) * 2 + 1).toNat = 2 * i + 1 := by omega
    have h0j : 0 ≤ (0 + (i : Int) * 2) := by omega
    have h0j2 : 0 ≤ (0 + (i : Int) * 2 + 1) := by omega
    rw [← ej] at hv1
    rw [← ej2] at hv2
    have hkn : k ∉ es.map (·.k) := by
      have e1 : es.map (·.k) = (kvs.take i).map (·.1) := by rw [← hes, List.map_map]; rfl
      rw [e1]
      intro hm
      have e2 : kvs.map (·.1) = (kvs.take i).map (·.1) ++ (kvs.drop i).map (·.1) := by rw [← List.map_append, List.take_append_drop]
      rw [e2] at hnd
      have h3 : k ∈ (kvs.drop i).map (·.1) := List.mem_map.mpr ⟨(k, x), List.mem_iff_getElem?.mpr ⟨0, by rw [List.getElem?_drop]; simpa using hkx⟩, rfl⟩
      exact (List.nodup_append.mp hnd).2.2 _ hm _ h3 rfl
    have hnk := valueAt_none hkn
    have hel : es.length ≤ 1000 := by
      have := congrArg List.length hes
      rw [List.length_map, List.length_take] at this
      omega
    have hRh : ∀ p ∈ R, p.1 ≠ V.hD := fun p hp => (hR1 p hp).2.1
    have hhI := neN <| hd1 (V.hD, _) (.tail _ (.head _))
    repeat' (first | (k_unfold; (try dsimp only)) | (k_end; wrow_close) | ((fail_if_success (with_reducible show wpAny _ _ (call (Value.ref 451) _) _ _ _)); first | walk1 | (dsimp only; walk1) | (leave1; walk_say "STEP leave1"; try dsimp only)) | fail "no step")
    rename Fr _ _ _ _ => F9
    rename News _ _ _ _ => N9
    refine fresh_ok (V := V) X T (upG sg' F9) (by first | exact room2 (by assumption) (by decide) | exact room3 (by assumption) (by decide) | exact room1 (by assumption) (by decide) | (trace "DUFALL"; simp only [AA, Around.deeper, Around.in1]; omega)) (by first | exact room2 (by assumption) (by decide) | exact room3 (by assumption) (by decide) | exact room1 (by assumption) (by decide) | (trace "DUFALL"; simp only [AA, Around.deeper, Around.in1]; omega)) ⟨(N9 _ (.tail _ (.tail _ (.tail _ (.head _))))).1, ⟨_, (N9 _ (.tail _ (.tail _ (.tail _ (.tail _ (.head _)))))).1, .mk⟩, (N9 _ (.tail _ (.tail _ (.tail _ (.tail _ (.tail _ (.head _))))))).1, ⟨_, (N9 _ (.tail _ (.tail _ (.head _)))).1, hoh⟩, hV.ncnt, hV.ncD, hV.nhp, hV.nhD, n1⟩ ?_
    intro h5 tk5 sc sd od num kb hHD fr1 fr2 hne hsc hsd hod
    obtain ⟨oh2, hoh2, hHp⟩ := hHD
    have hold : ∀ {b : Addr} {o : Obj}, (b, o) ∈ _ → @Ne Nat sc b ∧ @Ne Nat sd b := fun {b o} hm => ⟨fun e => (by rw [e] at fr1; rw [(N9 _ hm).1] at fr1; cases fr1), fun e => (by rw [e] at fr2; rw [(N9 _ hm).1] at fr2; cases fr2)⟩
    have hRsd : ∀ p ∈ R, p.1 ≠ sd := fun p hp e => (hold (b := p.1) (o := p.2) (by simp [hp])).2 e.symm
    have hs1 := hold (.head _)
    have hs2 := hold (.tail _ (.head _))
    have hs3 := hold (.tail _ (.tail _ (.head _)))
    have hs4 := hold (.tail _ (.tail _ (.tail _ (.tail _ (.tail _ (.tail _ (.tail _ (.head _))))))))
    have F5 := backF F9 N9 kb (fun a ha => by rw [List.mem_singleton.mp ha]; exact ⟨_, (.tail _ (.tail _ (.head _)))⟩)
    have N5 := backU (by k_upd) N9 kb hoh2
    have N6 := addN F9 (addN F9 N5 hsd fr2) hsc fr1
    have fs1 := new_up G' F9 N9 (by first | ((repeat' (first | exact sub_nil | refine sub_cons ?_ ?_)); (all_goals (first | ((repeat (first | exact .head _ | refine .tail _ ?_)); done) | (refine Or.inr ?_; (repeat (first | exact .head _ | refine .tail _ ?_)); done) | (refine Or.inl ?_; (repeat (first | exact .head _ | refine .tail _ ?_)); done) | (apply Exists.intro; (repeat (first | exact .head _ | refine .tail _ ?_)); done) | (intro p hp; (repeat (first | exact hp | refine .tail _ ?_)); done))); done) | (trace "SUBFALL"; simp)) fr1
    have fs2 := new_up G' F9 N9 (by first | ((repeat' (first | exact sub_nil | refine sub_cons ?_ ?_)); (all_goals (first | ((repeat (first | exact .head _ | refine .tail _ ?_)); done) | (refine Or.inr ?_; (repeat (first | exact .head _ | refine .tail _ ?_)); done) | (refine Or.inl ?_; (repeat (first | exact .head _ | refine .tail _ ?_)); done) | (apply Exists.intro; (repeat (first | exact .head _ | refine .tail _ ?_)); done) | (intro p hp; (repeat (first | exact hp | refine .tail _ ?_)); done))); done) | (trace "SUBFALL"; simp)) fr2
    clear F9 N9 N5 F2 N2
    dsimp only
    repeat' (first | (k_unfold; (try dsimp only)) | (k_end; wrow_close) | (first | walk1 | (dsimp only; walk1) | (leave1; walk_say "STEP leave1"; try dsimp only)) | fail "no step")
    rename Fr _ _ _ _ => F10
    rename News _ _ _ _ => N10
    rename (Obj.IsDictOf (PySem.strKind _ _) _ (stored _ _ _)) => hdT2
    rw [stored_new hkn] at hdT2
    refine LStepC.next [(mt, _), (V.hD, oh2)] ((sc, instObj 66 sd) :: (sd, od) :: R) F10 N10 (fun p hp => sub3 hp) ?_ ?_ ⟨_, oh2, es ++ [⟨k, x, sc, sd⟩], by simpa using hdT2, hHp, ?_, rfl, ?_, ?_, ?_, ?_⟩ ?_
    · intro p hp
      simp only [List.mem_cons, List.not_mem_nil, or_false] at hp
      rcases hp with rfl | rfl
      · exact hmI
      · exact hhI
    · intro p hp
      rcases List.mem_cons.mp hp with rfl | hp
      · exact hs1.1
      · rcases List.mem_cons.mp hp with rfl | hp
        · exact hs1.2
        · exact hd3 p hp
    · rw [List.map_append, hes, List.take_add_one, hkx]; rfl
    · intro p hp
      rcases List.mem_cons.mp hp with rfl | hp
      · exact ⟨hs2.1, hs3.1, hs4.1⟩
      · rcases List.mem_cons.mp hp with rfl | hp
        · exact ⟨hs2.2, hs3.2, hs4.2⟩
        · exact hR1 p hp
    · intro e he
      rcases List.mem_append.mp he with he | he
      · obtain ⟨q1, od', num', t', q2, q3⟩ := hR2 e he
        exact ⟨.tail _ (.tail _ q1), od', num', t', .tail _ (.tail _ q2), q3⟩
      · rw [List.mem_singleton.mp he]
        exact ⟨.head _, od, num, _, .tail _ (.head _), hod⟩
    · intro e he
      rcases List.mem_append.mp he with he | he
      · exact hR3 e he
      · rw [List.mem_singleton.mp he]; exact ⟨fs1, fs2⟩
    · rw [List.map_append, List.nodup_append]
      refine ⟨hR4, by simp, ?_⟩
      intro x hx y hy e
      subst e
      rw [List.map_singleton, List.mem_singleton] at hy
      subst hy
      obtain ⟨e, he, q⟩ := List.mem_map.mp hx
      obtain ⟨q1, od', num', t', q2, q3⟩ := hR2 e he
      have := hRsd (e.sd, od') q2
      exact this q
    · intro y h1 h2
      have e1 : y ≠ Str.ofString "key" := by intro e; subst e; exact absurd h2 (by decide)
      have e2 : y ≠ Str.ofString "value" := by intro e; subst e; exact absurd h2 (by decide)
      simp only [if_neg h1, if_neg e1, if_neg e2, h2, Bool.false_eq_true, if_false]
  case done =>
    rintro u dyn R h tk ⟨oT', oh, es, hdT, hoh, hes, rfl, hR1, hR2, hR3, hR4⟩ F2 N2
    dsimp only [List.cons_append, List.nil_append] at N2
    clear F0 N0 F1 N1 hds hf1 hi1 hf2
    rw [List.take_length] at hes
    repeat' (first | (k_unfold; (try dsimp only)) | (k_end; wrow_close) | ((fail_if_success (with_reducible show wpAny _ _ (call (Value.ref 357) _) _ _ _)); first | walk1 | (dsimp only; walk1) | (leave1; walk_say "STEP leave1"; try dsimp only)) | fail "no step")
    rename Fr _ _ _ _ => F9
    rename News _ _ _ _ => N9
    have hT0 : Tab w base g' tb [] := H.tab.up (fun e => G' _ _ e (by
      obtain ⟨ot, ht, hc⟩ := H.tab.tbObj
      have c1 := ne_cls ht hV.cnt (by rw [hc]; intro x; cases x)
      have c2 := ne_cls ht hV.hp (by rw [hc]; intro x; cases x)
      have c3 := ne_cls ht hV.lim (by rw [hc]; intro x; cases x)
      have c4 := ne_cls ht H.ha (by rw [hc]; intro x; cases x)
      have c5 := H.dt
      obtain ⟨c6, c7, c8⟩ := htb
      simp [c1, c2, c3, c4, c5, c6, c7, c8])) (fun _ h => nomatch h) (fun _ h => nomatch h)
    refine clear_ok (tb := tb) X T (upG sg' F9) (by first | exact room2 (by assumption) (by decide) | exact room3 (by assumption) (by decide) | exact room1 (by assumption) (by decide) | (trace "DUFALL"; simp only [AA, Around.deeper, Around.in1]; omega)) (by first | exact room2 (by assumption) (by decide) | exact room3 (by assumption) (by decide) | exact room1 (by assumption) (by decide) | (trace "DUFALL"; simp only [AA, Around.deeper, Around.in1]; omega)) ⟨(N9 _ (.tail _ (.tail _ (.tail _ (.tail _ (.tail _ (.head _))))))).1, ⟨_, (N9 _ (.tail _ (.tail _ (.tail _ (.tail _ (.tail _ (.tail _ (.head _)))))))).1, ho⟩, hT0.stays (fun b o e => F9.keep b o e), H.na, H.nd, H.dt, fun _ h => nomatch h⟩ ?_
    intro h6 tk6 tb' kb frt hdT' hod2
    obtain ⟨od2, hod2, hHa⟩ := hod2
    have hRd : ∀ p ∈ R, p.1 ≠ d := fun p hp => (hR1 p hp).2.2
    have F7 := backF F9 N9 kb (fun a ha => by rw [List.mem_singleton.mp ha]; exact ⟨_, (.tail _ (.tail _ (.tail _ (.tail _ (.tail _ (.tail _ (.head _)))))))⟩)
    have N7 := backU (by k_upd) N9 kb hod2
    clear F9 N9
    cases hHa with | mk =>
    dsimp only
    repeat' (first | (k_unfold; (try dsimp only)) | (k_end; wrow_close) | (first | walk1 | (dsimp only; walk1) | (leave1; walk_say "STEP leave1"; try dsimp only)) | fail "no step")
    rename Fr _ _ _ _ => F11
    rename News _ _ _ _ => N11
    have hmt := new_of G' N11 (.head _) (by simp only [List.map_cons, List.map_nil, List.mem_cons, List.not_mem_nil, or_false, not_or]; (repeat' apply And.intro) <;> (refine neN ?_; omega))
    have bn : ∀ {b : Addr}, s.heap.get? b = none → base.get? b = none := fun {b} q => by
      cases q2 : base.get? b with
      | none => rfl
      | some o => rw [st _ _ q2] at q; cases q
    refine hret _ _ mt es (keeps_end hl0 G' F11 N11 (by first | ((repeat' (first | exact sub_nil | refine sub_cons ?_ ?_)); (all_goals (first | ((repeat (first | exact .head _ | refine .tail _ ?_)); done) | (refine Or.inr ?_; (repeat (first | exact .head _ | refine .tail _ ?_)); done) | (refine Or.inl ?_; (repeat (first | exact .head _ | refine .tail _ ?_)); done) | (apply Exists.intro; (repeat (first | exact .head _ | refine .tail _ ?_)); done) | (intro p hp; (repeat (first | exact hp | refine .tail _ ?_)); done))); done) | (trace "SUBFALL"; simp))) ⟨_, (N11 _ (.tail _ (.head _))).1, hoh⟩ ⟨(N11 _ (.tail _ (.tail _ (.tail _ (.tail _ (.tail _ (.head _))))))).1, ⟨_, (N11 _ (.tail _ (.tail _ (.tail _ (.tail _ (.tail _ (.tail _ (.head _)))))))).1, .mk⟩, ⟨Heap.dictOf_iff.mpr ⟨_, (N11 _ (.head _)).1, hdT⟩, hsys, bn hmt, ?_, ?_, ?_, ?_, hR4, ?_⟩, H.na, H.nd, ?_, ?_⟩ hes hmt hR3
    · intro e he; exact (N11 (e.sc, _) (by simp [(hR2 e he).1])).1
    · intro e he
      obtain ⟨q1, od', num', t', q2, q3⟩ := hR2 e he
      exact ⟨od', num', t', (N11 (e.sd, od') (by simp [q2])).1, q3⟩
    · intro e he; exact bn (hR3 e he).1
    · intro e he; exact bn (hR3 e he).2
    · intro e he
      obtain ⟨q1, od', num', t', q2, q3⟩ := hR2 e he
      exact (hR1 _ q2).1
    · refine neN ?_; omega
    · intro e he
      obtain ⟨q1, od', num', t', q2, q3⟩ := hR2 e he
      exact (hR1 _ q2).2.2
end
section
theorem new_kb {S : List Addr} {h h' : Heap} {x : Addr} (kb : KeepsBut S h h') (hS : ∀ a ∈ S, ∃ o, h'.get? a = some o) (hn : h'.get? x = none) : h.get? x = none := by
  cases q : h.get? x with
  | none => rfl
  | some o =>
    by_cases hx : x ∈ S
    · obtain ⟨o', ho⟩ := hS _ hx; rw [ho] at hn; cases hn
    · rw [kb _ _ q hx] at hn; cases hn
theorem WdAt.up {base h h' : Heap} {V : Wd} {z : Nat} {S : List Addr} (hV : WdAt base h V z) (kb : KeepsBut S h h') (hS : ∀ a ∈ S, a = V.hD ∨ (a ≠ V.cnt ∧ a ≠ V.cD ∧ a ≠ V.hp ∧ a ≠ V.lim ∧ a ≠ V.lD ∧ a ≠ V.zl)) (hh : ∃ o, h'.get? V.hD = some o ∧ HpD V.lim V.zl o) : WdAt base h' V z := by
  obtain ⟨oh, hhD, hoh⟩ := hV.hD
  obtain ⟨oc, hcD, hoc⟩ := hV.cD
  obtain ⟨ol, hlD, hol⟩ := hV.lD
  obtain ⟨its, ep, hzl, hz⟩ := hV.zl
  have e1 : V.cnt ≠ V.hD := by cases hoh; exact ne_cls hV.cnt hhD (by intro e; cases e)
  have e2 : V.hp ≠ V.hD := by cases hoh; exact ne_cls hV.hp hhD (by intro e; cases e)
  have e3 : V.lim ≠ V.hD := by cases hoh; exact ne_cls hV.lim hhD (by intro e; cases e)
  have e4 : V.zl ≠ V.hD := by cases hoh; exact ne_cls hzl hhD (by intro e; exact absurd (Value.type.inj e) (by decide))
  have k : ∀ {b : Addr}, b ≠ V.hD → (∀ a, a ≠ V.cnt ∧ a ≠ V.cD ∧ a ≠ V.hp ∧ a ≠ V.lim ∧ a ≠ V.lD ∧ a ≠ V.zl → a ≠ b) → b ∉ S := fun {b} h1 h2 hb => by
    rcases hS b hb with e | e
    · exact h1 e
    · exact h2 b e rfl
  exact { cnt := kb _ _ hV.cnt (k e1 fun a h => h.1), cD := ⟨oc, kb _ _ hcD (k hV.n1 fun a h => h.2.1), hoc⟩, hp := kb _ _ hV.hp (k e2 fun a h => h.2.2.1), hD := hh, ncnt := hV.ncnt, ncD := hV.ncD, nhp := hV.nhp, nhD := hV.nhD, n1 := hV.n1,
          lim := kb _ _ hV.lim (k e3 fun a h => h.2.2.2.1), lD := ⟨ol, kb _ _ hlD (k hV.n2 fun a h => h.2.2.2.2.1), hol⟩, zl := ⟨its, ep, kb _ _ hzl (k e4 fun a h => h.2.2.2.2.2), hz⟩, nlim := hV.nlim, nlD := hV.nlD, nzl := hV.nzl, n2 := hV.n2 }
theorem IsList.kb {S : List Addr} {h h' : Heap} {l : Addr} {its : Array Value} (hl : h.IsList l its) (kb : KeepsBut S h h') (hS : ∀ a ∈ S, ∃ o, h.get? a = some o ∧ o.cls ≠ .type "list") : h'.IsList l its := by
  obtain ⟨o, ho, hc, r⟩ := hl
  refine ⟨o, kb _ _ ho fun q => ?_, hc, r⟩
  obtain ⟨o', ho', hc'⟩ := hS _ q
  rw [ho] at ho'; cases ho'
  exact hc' hc

theorem hash_ok {w : World} {dp un : Nat} {fr : Option (List Env)} {gd : Option (List Code)} {s : Shared} {base : Heap} {mean : ExcName → Option Value} {mg mb : Str → Option Value} {Q E : Value → Shared → Prop} {V : Wd} {z : Nat} {vl : Addr} {vs : List Value} {kvs : List (Str × Str)}
    (X : (hd.heap_1 w.params).In base) (T : TP mean mg mb base) (st : base.StaysIn s.heap) (hdp : dp + 40 < recursionLimit) (hun : un + 400 < cLine)
    (hV : WdAt base s.heap V z)
    (hvl : s.heap.IsList vl vs.toArray) (hvs : StrsAre vs (kvs.flatMap fun p => [p.1, p.2])) (hnd : (kvs.map (·.1)).Nodup) (hsz : kvs.length ≤ 1000)
    (hret : ∀ h' tk' a d tb es, KeepsBut [V.hD] s.heap h' → (∃ o, h'.get? V.hD = some o ∧ HpD V.lim V.zl o) → Hsh w base h' a d tb es → es.map (fun e => (e.k, e.x)) = kvs → s.heap.get? a = none → s.heap.get? d = none → s.heap.get? tb = none → (∀ e ∈ es, s.heap.get? e.sc = none ∧ s.heap.get? e.sd = none) → Q (.ref a) { s with heap := h', toks := tk' }) :
    wpAny (model PySem.Challenge.rw_sz0091_01.row.prog w) (AA dp un fr gd) (call (.ref 530) [.ref V.cnt, .ref vl]) Q E s := by
  obtain ⟨oc, hcD, hoc⟩ := hV.cD
  obtain ⟨oh, hhD, hoh⟩ := hV.hD
  have n1 := hV.n1
  cases hoc with | mk =>
  cases hoh with | mk =>
  have n2 := ne_clsN hV.cnt hhD (by intro e; cases e)
  have n3 := ne_clsN hV.hp hhD (by intro e; cases e)
  have hl0 := (Led.cons hhD hV.nhD (.cons hV.cnt hV.ncnt (.cons hcD hV.ncD (.cons hV.hp hV.nhp .nil))))
  refine wpAny_call ?_
  k_dflt refine' enter0 X T st hl0 ?k6 ?k7 ?k8 ?k9 ?kB ?c2 ?c3 ?c4 ?c5 ?_
  case k6 => k_dflt k_is
  case k7 => k_dflt k_is
  case k8 => k_room
  case k9 => k_dflt first | exact BindsTo.of_eq rfl | exact binds_K (by k_in) rfl (by k_is) rfl rfl rfl
  case kB => exact locs rfl
  case c2 => exact rfl
  case c3 => exact rfl
  case c4 => exact rfl
  case c5 => decide
  intro g' L' h' hL' sg' G' gs' F' N' X' T'
  dsimp only
  k_fold
  repeat' (first | (k_unfold; (try dsimp only)) | (k_end; wrow_close) | ((fail_if_success (with_reducible show wpAny _ _ (call (Value.ref 390) _) _ _ _)); first | walk1 | (dsimp only; walk1) | (leave1; walk_say "STEP leave1"; try dsimp only)) | fail "no step")
  rename Fr _ _ _ _ => F9
  rename News _ _ _ _ => N9
  rename (Obj.IsDictOf (PySem.strKind _ _) _ _) => hds
  rename ((_ == sysModules) = false) => hsys
  have kb9 := keeps_end (S := [V.hD]) hl0 G' F9 N9 (by first | ((repeat' (first | exact sub_nil | refine sub_cons ?_ ?_)); (all_goals (first | ((repeat (first | exact .head _ | refine .tail _ ?_)); done) | (refine Or.inr ?_; (repeat (first | exact .head _ | refine .tail _ ?_)); done) | (refine Or.inl ?_; (repeat (first | exact .head _ | refine .tail _ ?_)); done) | (apply Exists.intro; (repeat (first | exact .head _ | refine .tail _ ?_)); done) | (intro p hp; (repeat (first | exact hp | refine .tail _ ?_)); done))); done) | (trace "SUBFALL"; simp))
  have bn : ∀ {b : Addr}, s.heap.get? b = none → base.get? b = none := fun {b} q => by
    cases q2 : base.get? b with
    | none => rfl
    | some o => rw [st _ _ q2] at q; cases q
  have f0 := new_of G' N9 (.head _) (by simp only [List.map_cons, List.map_nil, List.mem_cons, List.not_mem_nil, or_false, not_or]; (repeat' apply And.intro) <;> (refine neN ?_; omega))
  have f2 := new_of G' N9 (.tail _ (.tail _ (.head _))) (by simp only [List.map_cons, List.map_nil, List.mem_cons, List.not_mem_nil, or_false, not_or]; (repeat' apply And.intro) <;> (refine neN ?_; omega))
  have f3 := new_of G' N9 (.tail _ (.tail _ (.tail _ (.head _)))) (by simp only [List.map_cons, List.map_nil, List.mem_cons, List.not_mem_nil, or_false, not_or]; (repeat' apply And.intro) <;> (refine neN ?_; omega))
  have hV9 := hV.up kb9 (fun a ha => .inl (List.mem_singleton.mp ha)) ⟨_, (N9 _ (.tail _ (.tail _ (.tail _ (.tail _ (.head _)))))).1, .mk⟩
  obtain ⟨ol, hlD, hol⟩ := hV.lD
  have hd3 : ∀ {b : Addr} {o : Obj}, s.heap.get? b = some o → ∀ {x : Addr}, s.heap.get? x = none → @Ne Nat x b := fun {b o} h1 {x} h2 (e : x = b) => by subst e; rw [h1] at h2; cases h2
  refine fill_ok (V := V) (z := z) X T (upG sg' F9) (by first | exact room2 (by assumption) (by decide) | exact room3 (by assumption) (by decide) | exact room1 (by assumption) (by decide) | (trace "DUFALL"; simp only [AA, Around.deeper, Around.in1]; omega)) (by first | exact room2 (by assumption) (by decide) | exact room3 (by assumption) (by decide) | exact room1 (by assumption) (by decide) | (trace "DUFALL"; simp only [AA, Around.deeper, Around.in1]; omega)) hV9 ⟨(N9 _ (.tail _ (.tail _ (.head _)))).1, ⟨_, (N9 _ (.tail _ (.tail _ (.tail _ (.head _))))).1, .mk⟩, ⟨Heap.dictOf_iff.mpr ⟨_, (N9 _ (.head _)).1, hds⟩, hsys, bn f0, (fun _ h => nomatch h), (fun _ h => nomatch h), (fun _ h => nomatch h), (fun _ h => nomatch h), List.nodup_nil, fun _ h => nomatch h⟩, bn f2, bn f3, (by refine neN ?_; omega), fun _ h => nomatch h⟩
    (hd3 hhD f3) (hd3 hcD f3) (hd3 hlD f3) ⟨hd3 hhD f0, hd3 hcD f0, hd3 hlD f0⟩ (IsList.kb hvl kb9 (fun a ha => by obtain rfl := List.mem_singleton.mp ha; exact ⟨_, hhD, by intro e; exact absurd (Value.type.inj e) (by decide)⟩)) hvs hnd hsz ?_
  intro h5 tk5 tb' es kb5 hHD5 hH5 hes ft' fes
  have F5 := backF F9 N9 kb5 (fun a ha => by
    rcases List.mem_cons.mp ha with rfl | ha
    · exact ⟨_, (.tail _ (.tail _ (.tail _ (.tail _ (.head _)))))⟩
    · rw [List.mem_singleton.mp ha]; exact ⟨_, (.tail _ (.tail _ (.tail _ (.head _))))⟩)
  have N5 : News g' L' h5 [] := News.nil
  have nk : ∀ {x : Addr}, _ → s.heap.get? x = none := fun {x} hx => new_kb kb9 (fun a ha => by rw [List.mem_singleton.mp ha]; exact ⟨_, (N9 _ (.tail _ (.tail _ (.tail _ (.tail _ (.head _)))))).1⟩) (x := x) hx
  have kb : KeepsBut [V.hD] s.heap h5 := fun b o q hb => kb5 _ _ (kb9 _ _ q hb) (by
    simp only [List.mem_cons, List.not_mem_nil, or_false, not_or] at hb ⊢
    exact ⟨hb, fun e => by subst e; rw [q] at f3; cases f3⟩)
  have g0 := nk ft'
  have g1 : ∀ e ∈ es, s.heap.get? e.sc = none ∧ s.heap.get? e.sd = none := fun e he => ⟨nk (fes e he).1, nk (fes e he).2⟩
  clear N9
  clear F9
  dsimp only
  repeat' (first | (k_unfold; (try dsimp only)) | (k_end; wrow_close) | (first | walk1 | (dsimp only; walk1) | (leave1; walk_say "STEP leave1"; try dsimp only)) | fail "no step")
  exact hret _ _ _ _ tb' es kb hHD5 hH5 hes f2 f3 g0 g1
end
section
theorem liG_tail2 {prog : Program} {w : World} {A : Around} {E : Value → Shared → Prop} {s : Shared} {h₀ : Heap} {L l : Addr} {m : Str → Option Value} {vs : List Value} {k : Int} {u : Tok} {v : Value} {Q : Value → Shared → Prop} {value slice : PySem.Expr}
    (F : Fr h₀ L s.heap m) (hl : h₀.IsList l vs.toArray) (h0 : 0 ≤ k) (hhi : k < 2 ^ 63) (hx : vs[k.toNat]? = some v) (h : Q v s)
    (hs : subscripted slice false (.ref l) (.int k u) = operate [.ref l, .int k u] (getItem (.ref l) (.int k u)) := by with_unfolding_all rfl) :
    wpAny (model prog w) A (subscriptTail value slice (.ref l) (.int k u)) Q E s := liG_tail F hl h0 hhi hx h hs
local macro_rules | `(tactic| walk_at "subscriptTail") => `(tactic| (k_here; (with_reducible show wpAny _ _ (subscriptTail _ _ (Value.ref _) (Value.int _ _)) _ _ _); k_dflt (refine liG_tail2 (by k_asm) (by assumption) (by assumption) (by omega) (by assumption) ?_)))
local macro_rules | `(tactic| walk_at "call builtin:len") => `(tactic| (k_here; (with_reducible show wpAny _ _ (call (Value.builtin "len") [Value.ref _]) _ _ _); k_dflt (refine len_G (by k_asm) (by assumption) (by omega) ?_); intro nLen hnLen))

theorem through_ok {w : World} {dp un : Nat} {fr : Option (List Env)} {gd : Option (List Code)} {s : Shared} {base : Heap} {mean : ExcName → Option Value} {mg mb : Str → Option Value} {Q E : Value → Shared → Prop} {a d tb nl : Addr} {es : List Ent} {ns : List Value} {ks : List Str}
    (X : (hd.heap_1 w.params).In base) (T : TP mean mg mb base) (st : base.StaysIn s.heap) (hdp : dp + 30 < recursionLimit) (hun : un + 300 < cLine)
    (H : Hsh w base s.heap a d tb es)
    (hnl : s.heap.IsList nl ns.toArray) (hns : StrsAre ns ks) (hks : ∀ k ∈ ks, ∃ e ∈ es, e.k = k) (hsz : ks.length ≤ 1000)
    (hret : ∀ D h' tk' ys ep, s.heap.StaysIn h' → s.heap.get? D = none → h'.get? D = some { cls := .type "list", data := .seq ys ep } → StrsAre ys.toList (ks.map (look es)) → Q (.ref D) { s with heap := h', toks := tk' }) :
    wpAny (model PySem.Challenge.rw_sz0091_01.row.prog w) (AA dp un fr gd) (call (.ref 551) [.ref a, .ref nl]) Q E s := by
  have hl0 := (Led.nil (h := s.heap) (base := base))
  refine wpAny_call ?_
  k_dflt refine' enter0 X T st hl0 ?k6 ?k7 ?k8 ?k9 ?kB ?c2 ?c3 ?c4 ?c5 ?_
  case k6 => k_dflt k_is
  case k7 => k_dflt k_is
  case k8 => k_room
  case k9 => k_dflt first | exact BindsTo.of_eq rfl | exact binds_K (by k_in) rfl (by k_is) rfl rfl rfl
  case kB => exact locs rfl
  case c2 => exact rfl
  case c3 => exact rfl
  case c4 => exact rfl
  case c5 => decide
  intro g' L' h' hL' sg' G' gs' F' N' X' T'
  dsimp only
  k_fold
  repeat' (first | (k_unfold; (try dsimp only)) | (k_end; wrow_close) | ((fail_if_success (with_reducible show wpAny _ _ (call (Value.ref 383) _) _ _ _)); first | walk1 | (dsimp only; walk1) | (leave1; walk_say "STEP leave1"; try dsimp only)) | fail "no step")
  rename Fr _ _ _ _ => F9
  obtain ⟨od, hd0, ho⟩ := H.hd
  have sH : s.heap.StaysIn h' := fun b o e => F9.keep b o (G' b o e (by simp))
  refine ksv_ok X T (upG sg' F9) (by first | exact room2 (by assumption) (by decide) | exact room3 (by assumption) (by decide) | exact room1 (by assumption) (by decide) | (trace "DUFALL"; simp only [AA, Around.deeper, Around.in1]; omega)) (by first | exact room2 (by assumption) (by decide) | exact room3 (by assumption) (by decide) | exact room1 (by assumption) (by decide) | (trace "DUFALL"; simp only [AA, Around.deeper, Around.in1]; omega)) (sH _ _ H.ha) (sH _ _ hd0) ho (H.tab.stays sH) (hnl.at fun o e => sH _ _ e) hns hks hsz H.na H.nd ?_
  intro D h5 tk5 ys ep st5 hD hDo hys
  k_unfold
  exact hret D _ _ ys ep (fun b o q => st5 _ _ (sH _ _ q)) (by
    cases q : s.heap.get? D with
    | none => rfl
    | some o => rw [sH _ _ q] at hD; cases hD) hDo hys

theorem range1_size (n : Nat) : Builtin.Range.rangeSize 0 (n : Int) 1 = (n : Int) := by
  unfold Builtin.Range.rangeSize
  rw [if_pos (by decide)]
  split <;> omega
theorem range1_small (n : Nat) (h : n ≤ 1000000) : Builtin.Range.small 0 (n : Int) 1 = true := by
  unfold Builtin.Range.small Builtin.Range.rangeFitsLong
  rw [range1_size n]
  simp only [Bool.and_eq_true, Bool.or_eq_true, decide_eq_true_eq]
  simp
  omega
theorem strs_snoc2 {vs : List Value} {xs : List Str} (h : StrsAre vs xs) (x y : Str) (t u : Tok) : StrsAre (vs ++ [.str x t, .str y u]) (xs ++ [x, y]) := by
  have := strs_snoc (strs_snoc h x t) y u
  simpa using this
theorem laid_ok {w : World} {dp un : Nat} {fr : Option (List Env)} {gd : Option (List Code)} {s : Shared} {base : Heap} {mean : ExcName → Option Value} {mg mb : Str → Option Value} {Q E : Value → Shared → Prop} {V : Wd} {z : Nat} {ll gl : Addr} {vs us : List Value} {xs ys : List Str}
    (X : (hd.heap_1 w.params).In base) (T : TP mean mg mb base) (st : base.StaysIn s.heap) (hdp : dp + 50 < recursionLimit) (hun : un + 500 < cLine)
    (hV : WdAt base s.heap V z)
    (hll : s.heap.IsList ll vs.toArray) (hvs : StrsAre vs xs) (hgl : s.heap.IsList gl us.toArray) (hus : StrsAre us ys) (hlen : xs.length = ys.length) (hnd : xs.Nodup) (hsz : xs.length ≤ 1000)
    (hret : ∀ h' tk' a d tb es, KeepsBut [V.hD] s.heap h' → (∃ o, h'.get? V.hD = some o ∧ HpD V.lim V.zl o) → Hsh w base h' a d tb es → es.map (fun e => (e.k, e.x)) = xs.zip ys → s.heap.get? a = none → s.heap.get? d = none → s.heap.get? tb = none → (∀ e ∈ es, s.heap.get? e.sc = none ∧ s.heap.get? e.sd = none) → Q (.ref a) { s with heap := h', toks := tk' }) :
    wpAny (model PySem.Challenge.rw_sz0091_01.row.prog w) (AA dp un fr gd) (call (.ref 537) [.ref V.cnt, .ref ll, .ref gl]) Q E s := by
  have hl0 := (Led.nil (h := s.heap) (base := base))
  refine wpAny_call ?_
  k_dflt refine' enter0 X T st hl0 ?k6 ?k7 ?k8 ?k9 ?kB ?c2 ?c3 ?c4 ?c5 ?_
  case k6 => k_dflt k_is
  case k7 => k_dflt k_is
  case k8 => k_room
  case k9 => k_dflt first | exact BindsTo.of_eq rfl | exact binds_K (by k_in) rfl (by k_is) rfl rfl rfl
  case kB => exact locs rfl
  case c2 => exact rfl
  case c3 => exact rfl
  case c4 => exact rfl
  case c5 => decide
  intro g' L' h' hL' sg' G' gs' F' N' X' T'
  dsimp only
  k_fold
  have sH : s.heap.StaysIn g' := fun b o e => G' b o e (by simp)
  have hll' : g'.IsList ll vs.toArray := hll.at fun o e => sH _ _ e
  have hgl' : g'.IsList gl us.toArray := hgl.at fun o e => sH _ _ e
  have hvl := strs_len hvs
  have hul := strs_len hus
  have hg1 : ∀ {i : Nat} {v : Value}, vs[i]? = some v → ∃ x t, v = .str x t ∧ xs[i]? = some x := fun h => strs_get hvs h
  have hg2 : ∀ {i : Nat} {v : Value}, us[i]? = some v → ∃ x t, v = .str x t ∧ ys[i]? = some x := fun h => strs_get hus h
  clear hvs hus
  repeat' (first | (k_unfold; (try dsimp only)) | (k_end; wrow_close) | ((fail_if_success (with_reducible show wpAny _ _ (exec (Stmt.For _ _ _ _ _) _) _ _ _)); first | walk1 | (dsimp only; walk1) | (leave1; walk_say "STEP leave1"; try dsimp only)) | fail "no step")
  refine For_invV g' rfl rfl ?_
  repeat' (first | (k_unfold; (try dsimp only)) | (k_end; wrow_close) | ((fail_if_success (with_reducible show wpAny _ _ (pyIter _) _ _ _)); first | walk1 | (dsimp only; walk1) | (leave1; walk_say "STEP leave1"; try dsimp only)) | fail "no step")
  rename_i pl hA l1 hB F0 N0 tkA htkA nL hnL hC tkC t1 u1 v1 hR F1 N1 hk1
  rw [hnL] at hR
  refine for_range rfl hR (range1_small _ (by omega)) (range1_size vs.length) F1 N1 [] (fun i news => ∃ its ep, news = [(pl, W.listOf its ep)] ∧ StrsAre its.toList (((xs.zip ys).take i).flatMap fun p => [p.1, p.2])) ?hj ?turn ?done
  case hj => exact ⟨#[], 0, rfl, .nil⟩
  case turn =>
    rintro i t u news₁ h tk I oI hi ⟨its, ep, rfl, hst⟩ F2 N2 hne
    clear F0 N0 F1 N1
    have hpI := neN <| hne _ (.head _)
    have e1 : (0 + (i : Int) * 1).toNat = i := by omega
    have h0 : 0 ≤ (0 + (i : Int) * 1) := by omega
    obtain ⟨x, t1, hx1, hx2⟩ := hg1 (List.getElem?_eq_getElem hi)
    obtain ⟨y, t2, hy1, hy2⟩ := hg2 (List.getElem?_eq_getElem (show i < us.length by omega))
    have hv : vs[(0 + (i : Int) * 1).toNat]? = some (.str x t1) := by rw [e1, ← hx1]; exact List.getElem?_eq_getElem hi
    have hw : us[(0 + (i : Int) * 1).toNat]? = some (.str y t2) := by rw [e1, ← hy1]; exact List.getElem?_eq_getElem (show i < us.length by omega)
    have hfl := flat_len ((xs.zip ys).take i)
    have hsl := strs_len hst
    rw [hfl, List.length_take, Array.length_toList] at hsl
    have hisz : its.size ≤ 4000 := by omega
    repeat' (first | (k_unfold; (try dsimp only)) | (k_end; wrow_close) | ((fail_if_success (with_reducible show wpAny _ _ (call (Value.builtin "list.extend") _) _ _ _)); first | walk1 | (dsimp only; walk1) | (leave1; walk_say "STEP leave1"; try dsimp only)) | fail "no step")
    rename Fr _ _ _ _ => F9
    rename News _ _ _ _ => N9
    have hz2 : its.size + ([Value.str x t1, .str y t2].toArray).size ≤ sizeLine := by rw [sizeLine_eq]; simp; omega
    refine kl_extend (l := its.toList ++ [.str x t1, .str y t2]) F9 N9 (.head _) rfl (by simp) (by k_upd) (extend_door hz2) (by rw [sizeLine_eq, Array.length_toList]; omega) (Nat.le_succ_of_le hz2) ?_
    intro h5 F5 N5
    clear F9 N9
    dsimp only
    repeat' (first | (k_unfold; (try dsimp only)) | (k_end; wrow_close) | (first | walk1 | (dsimp only; walk1) | (leave1; walk_say "STEP leave1"; try dsimp only)) | fail "no step")
    refine LStep.next (by assumption) (fun p hp => N5 p (.tail _ hp)) (by intro p hp; rw [List.mem_singleton.mp hp]; exact hpI) ⟨⟨_, _, rfl, ?_⟩, by intro y h1 _; simp [h1]⟩
    have e2 : (xs.zip ys)[i]? = some (x, y) := List.getElem?_zip_eq_some.mpr ⟨hx2, hy2⟩
    rw [List.take_add_one, e2]
    simpa using strs_snoc2 hst x y t1 t2
  case done =>
    rintro u news₁ h tk ⟨its, ep, rfl, hst⟩ F2 N2
    clear F0 N0 F1 N1
    rw [List.take_of_length_le (by rw [List.length_zip]; omega)] at hst
    repeat' (first | (k_unfold; (try dsimp only)) | (k_end; wrow_close) | ((fail_if_success (with_reducible show wpAny _ _ (call (Value.ref 530) _) _ _ _)); first | walk1 | (dsimp only; walk1) | (leave1; walk_say "STEP leave1"; try dsimp only)) | fail "no step")
    rename Fr _ _ _ _ => F9
    rename News _ _ _ _ => N9
    have sH2 : s.heap.StaysIn h := fun b o e => F9.keep _ _ (sH _ _ e)
    have hV9 : WdAt base h V z := hV.up (S := []) (fun b o q _ => sH2 _ _ q) (fun _ h => nomatch h) (let ⟨o, ho, r⟩ := hV.hD; ⟨o, sH2 _ _ ho, r⟩)
    have nk : ∀ {x : Addr}, h.get? x = none → s.heap.get? x = none := fun {x} hx => by
      cases q : s.heap.get? x with
      | none => rfl
      | some o => rw [sH2 _ _ q] at hx; cases hx
    refine hash_ok (V := V) (z := z) (vs := its.toList) (kvs := xs.zip ys) X T (upG sg' F9) (by first | exact room2 (by assumption) (by decide) | exact room3 (by assumption) (by decide) | exact room1 (by assumption) (by decide) | (trace "DUFALL"; simp only [AA, Around.deeper, Around.in1]; omega)) (by first | exact room2 (by assumption) (by decide) | exact room3 (by assumption) (by decide) | exact room1 (by assumption) (by decide) | (trace "DUFALL"; simp only [AA, Around.deeper, Around.in1]; omega)) hV9 ⟨_, (N9 _ (.head _)).1, rfl, ep, by simp⟩ hst ?_ (by rw [List.length_zip]; omega) ?_
    · rw [List.map_fst_zip (by omega)]; exact hnd
    intro h5 tk5 a d tb es kb hHD hH hes fa fd ft fes
    k_unfold
    exact hret _ _ a d tb es (fun b o q hb => kb _ _ (sH2 _ _ q) hb) hHD hH hes (nk fa) (nk fd) (nk ft) (fun e he => ⟨nk (fes e he).1, nk (fes e he).2⟩)
end
section
theorem flatE_len (l : List Ent) : (l.flatMap fun e => [e.k, e.x]).length = 2 * l.length := by
  induction l with
  | nil => rfl
  | cons p r ih => rw [List.flatMap_cons, List.length_append, ih, List.length_cons]; simp; omega
theorem strs_app {vs us : List Value} {xs ys : List Str} (h : StrsAre vs xs) (h2 : StrsAre us ys) : StrsAre (vs ++ us) (xs ++ ys) := by
  induction h with
  | nil => exact h2
  | cons y t _ ih => exact .cons y t ih
theorem strs_rev {vs : List Value} {xs : List Str} (h : StrsAre vs xs) : StrsAre vs.reverse xs.reverse := by
  induction h with
  | nil => exact .nil
  | cons y t _ ih => rw [List.reverse_cons, List.reverse_cons]; exact strs_app ih (.cons y t .nil)
theorem flatE_rev (l : List Ent) : (l.flatMap fun e => [e.k, e.x]).reverse = (l.map fun e => (e.x, e.k)).reverse.flatMap fun p => [p.1, p.2] := by
  induction l with
  | nil => rfl
  | cons p r ih => simp [List.flatMap_cons, List.flatMap_append] at ih ⊢; rw [ih]
theorem turned_ok {w : World} {dp un : Nat} {fr : Option (List Env)} {gd : Option (List Code)} {s : Shared} {base : Heap} {mean : ExcName → Option Value} {mg mb : Str → Option Value} {Q E : Value → Shared → Prop} {V : Wd} {z : Nat} {a d tb : Addr} {es : List Ent}
    (X : (hd.heap_1 w.params).In base) (T : TP mean mg mb base) (st : base.StaysIn s.heap) (hdp : dp + 50 < recursionLimit) (hun : un + 500 < cLine)
    (hV : WdAt base s.heap V z) (H : Hsh w base s.heap a d tb es) (hdW : d ≠ V.cnt ∧ d ≠ V.cD ∧ d ≠ V.hp ∧ d ≠ V.lim ∧ d ≠ V.lD ∧ d ≠ V.zl ∧ d ≠ V.hD) (hnd : (es.map (·.x)).Nodup) (hsz : es.length ≤ 500)
    (hret : ∀ h' tk' a' d' tb' es', KeepsBut [V.hD, d] s.heap h' → (∃ o, h'.get? V.hD = some o ∧ HpD V.lim V.zl o) → (∃ o, h'.get? d = some o ∧ HaD tb o) → Hsh w base h' a' d' tb' es' → es'.map (fun e => (e.k, e.x)) = (es.map fun e => (e.x, e.k)).reverse → s.heap.get? a' = none → s.heap.get? d' = none → s.heap.get? tb' = none → (∀ e ∈ es', s.heap.get? e.sc = none ∧ s.heap.get? e.sd = none) → Q (.ref a') { s with heap := h', toks := tk' }) :
    wpAny (model PySem.Challenge.rw_sz0091_01.row.prog w) (AA dp un fr gd) (call (.ref 544) [.ref V.cnt, .ref a]) Q E s := by
  obtain ⟨od, hd0, ho⟩ := H.hd
  obtain ⟨oh, hhD, hoh⟩ := hV.hD
  have nhd := neN hdW.2.2.2.2.2.2
  have hl0 := (Led.cons hd0 H.nd (.cons hhD hV.nhD .nil))
  refine wpAny_call ?_
  k_dflt refine' enter0 X T st hl0 ?k6 ?k7 ?k8 ?k9 ?kB ?c2 ?c3 ?c4 ?c5 ?_
  case k6 => k_dflt k_is
  case k7 => k_dflt k_is
  case k8 => k_room
  case k9 => k_dflt first | exact BindsTo.of_eq rfl | exact binds_K (by k_in) rfl (by k_is) rfl rfl rfl
  case kB => exact locs rfl
  case c2 => exact rfl
  case c3 => exact rfl
  case c4 => exact rfl
  case c5 => decide
  intro g' L' h' hL' sg' G' gs' F' N' X' T'
  dsimp only
  k_fold
  repeat' (first | (k_unfold; (try dsimp only)) | (k_end; wrow_close) | ((fail_if_success (with_reducible show wpAny _ _ (call (Value.ref 378) _) _ _ _)); first | walk1 | (dsimp only; walk1) | (leave1; walk_say "STEP leave1"; try dsimp only)) | fail "no step")
  rename Fr _ _ _ _ => F9
  rename News _ _ _ _ => N9
  have st9 := stays_end hl0 G' F9 N9 (by first | ((repeat' (first | exact sub_nil | refine sub_cons ?_ ?_)); (all_goals (first | ((repeat (first | exact .head _ | refine .tail _ ?_)); done) | (refine Or.inr ?_; (repeat (first | exact .head _ | refine .tail _ ?_)); done) | (refine Or.inl ?_; (repeat (first | exact .head _ | refine .tail _ ?_)); done) | (apply Exists.intro; (repeat (first | exact .head _ | refine .tail _ ?_)); done) | (intro p hp; (repeat (first | exact hp | refine .tail _ ?_)); done))); done) | (trace "SUBFALL"; simp))
  refine flat_ok X T (upG sg' F9) (by first | exact room2 (by assumption) (by decide) | exact room3 (by assumption) (by decide) | exact room1 (by assumption) (by decide) | (trace "DUFALL"; simp only [AA, Around.deeper, Around.in1]; omega)) (by first | exact room2 (by assumption) (by decide) | exact room3 (by assumption) (by decide) | exact room1 (by assumption) (by decide) | (trace "DUFALL"; simp only [AA, Around.deeper, Around.in1]; omega)) (H.up (S := []) (fun b o q _ => st9 _ _ q) (by simp) (by simp) (by simp) (by simp)) (by omega) ?_
  intro D h1 tk1 vs ep kb1 hD hDo hfl hd1
  obtain ⟨od1, hd1, ho1⟩ := hd1
  have F1 := backF F9 N9 kb1 (fun a ha => by rw [List.mem_singleton.mp ha]; exact ⟨_, (.head _)⟩)
  have N1 := addN F9 (backU (by k_upd) N9 kb1 hd1) hDo hD
  have hT1 : Tab w base h1 tb es := H.tabBut fun b o q h3 h4 => kb1 _ _ (st9 _ _ q) (by simpa using h4)
  clear F9 N9
  dsimp only
  repeat' (first | (k_unfold; (try dsimp only)) | (k_end; wrow_close) | ((fail_if_success (with_reducible show wpAny _ _ (call (Value.ref 329) _) _ _ _)); first | walk1 | (dsimp only; walk1) | (leave1; walk_say "STEP leave1"; try dsimp only)) | fail "no step")
  refine pv_ok X T (upG sg' F1) (by first | exact room2 (by assumption) (by decide) | exact room3 (by assumption) (by decide) | exact room1 (by assumption) (by decide) | (trace "DUFALL"; simp only [AA, Around.deeper, Around.in1]; omega)) (by first | exact room2 (by assumption) (by decide) | exact room3 (by assumption) (by decide) | exact room1 (by assumption) (by decide) | (trace "DUFALL"; simp only [AA, Around.deeper, Around.in1]; omega)) ⟨_, (N1 _ (.head _)).1, rfl, ep, rfl⟩ (flat_mem hT1 hfl fun _ h => h) ?_ ?_
  · rw [flatE_len]; omega
  intro D2 h2 tk2 ys ep2 st2 hD2 hD2o hys
  have kb2 : KeepsBut [] h1 h2 := fun b o q _ => st2 _ _ q
  have F2 := backF F1 N1 kb2 (by first | ((repeat' (first | exact sub_nil | refine sub_cons ?_ ?_)); (all_goals (first | ((repeat (first | exact .head _ | refine .tail _ ?_)); done) | (refine Or.inr ?_; (repeat (first | exact .head _ | refine .tail _ ?_)); done) | (refine Or.inl ?_; (repeat (first | exact .head _ | refine .tail _ ?_)); done) | (apply Exists.intro; (repeat (first | exact .head _ | refine .tail _ ?_)); done) | (intro p hp; (repeat (first | exact hp | refine .tail _ ?_)); done))); done) | (trace "SUBFALL"; simp))
  have N2 := addN F1 (backN _ F1 N1 kb2 (by first | ((repeat' (first | exact sub_nil | refine sub_cons ?_ ?_)); (all_goals (first | ((repeat (first | exact .head _ | refine .tail _ ?_)); done) | (refine Or.inr ?_; (repeat (first | exact .head _ | refine .tail _ ?_)); done) | (refine Or.inl ?_; (repeat (first | exact .head _ | refine .tail _ ?_)); done) | (apply Exists.intro; (repeat (first | exact .head _ | refine .tail _ ?_)); done) | (intro p hp; (repeat (first | exact hp | refine .tail _ ?_)); done))); done) | (trace "SUBFALL"; simp)) (fun p hp => .inl ⟨hp, by simp⟩)) hD2o hD2
  clear F1 N1
  dsimp only
  repeat' (first | (k_unfold; (try dsimp only)) | (k_end; wrow_close) | ((fail_if_success (with_reducible show wpAny _ _ (subscriptTail _ (PySem.Expr.Slice _ _ _ _) _ _) _ _ _)); first | walk1 | (dsimp only; walk1) | (leave1; walk_say "STEP leave1"; try dsimp only)) | fail "no step")
  rename Fr _ _ _ _ => F3
  rename News _ _ _ _ => N3
  have hyl := strs_len hys
  rw [flatE_len, Array.length_toList] at hyl
  k_dflt refine' krv_lit F3 N3 ?l (IsPart.int _ _) rfl ?_ ?s ?t ?z
  case l => exact ⟨_, (N3 _ (.head _)).1, rfl, ep2, rfl⟩
  case s => with_unfolding_all rfl
  case t => intro _; with_unfolding_all rfl
  case z => rw [sizeLine_eq]; omega
  intro D3 h3 F4 N4 l4
  clear F3 N3
  dsimp only
  repeat' (first | (k_unfold; (try dsimp only)) | (k_end; wrow_close) | ((fail_if_success (with_reducible show wpAny _ _ (call (Value.ref 530) _) _ _ _)); first | walk1 | (dsimp only; walk1) | (leave1; walk_say "STEP leave1"; try dsimp only)) | fail "no step")
  rename Fr _ _ _ _ => F5
  rename News _ _ _ _ => N5
  have kb5 := keeps_end (S := [d]) hl0 G' F5 N5 (by first | ((repeat' (first | exact sub_nil | refine sub_cons ?_ ?_)); (all_goals (first | ((repeat (first | exact .head _ | refine .tail _ ?_)); done) | (refine Or.inr ?_; (repeat (first | exact .head _ | refine .tail _ ?_)); done) | (refine Or.inl ?_; (repeat (first | exact .head _ | refine .tail _ ?_)); done) | (apply Exists.intro; (repeat (first | exact .head _ | refine .tail _ ?_)); done) | (intro p hp; (repeat (first | exact hp | refine .tail _ ?_)); done))); done) | (trace "SUBFALL"; simp))
  have hd5 := (N5 _ (.tail _ (.tail _ (.tail _ (.head _))))).1
  have hV5 := hV.up kb5 (fun a ha => .inr (by rw [List.mem_singleton.mp ha]; exact ⟨hdW.1, hdW.2.1, hdW.2.2.1, hdW.2.2.2.1, hdW.2.2.2.2.1, hdW.2.2.2.2.2.1⟩)) ⟨oh, (N5 _ (.tail _ (.tail _ (.tail _ (.tail _ (.head _)))))).1, hoh⟩
  refine hash_ok (V := V) (z := z) (vs := ys.toList.reverse) (kvs := (es.map fun e => (e.x, e.k)).reverse) X T (upG sg' F5) (by first | exact room2 (by assumption) (by decide) | exact room3 (by assumption) (by decide) | exact room1 (by assumption) (by decide) | (trace "DUFALL"; simp only [AA, Around.deeper, Around.in1]; omega)) (by first | exact room2 (by assumption) (by decide) | exact room3 (by assumption) (by decide) | exact room1 (by assumption) (by decide) | (trace "DUFALL"; simp only [AA, Around.deeper, Around.in1]; omega)) hV5 ⟨_, (N5 _ (.head _)).1, rfl, 0, rfl⟩ (by rw [← flatE_rev]; exact strs_rev hys) ?_ (by simp; omega) ?_
  · rw [List.map_reverse, List.map_map]; exact (List.reverse_perm _).nodup_iff.mpr hnd
  intro h6 tk6 a' d' tb' es' kb6 hHD hH hes fa fd ft fes
  have nk : ∀ {x : Addr}, _ → s.heap.get? x = none := fun {x} hx => new_kb kb5 (fun a ha => by rw [List.mem_singleton.mp ha]; exact ⟨_, hd5⟩) (x := x) hx
  try dsimp only
  try k_unfold
  exact hret _ _ a' d' tb' es' (fun b o q hb => by
    simp only [List.mem_cons, List.not_mem_nil, or_false, not_or] at hb
    exact kb6 _ _ (kb5 _ _ q (by simpa using hb.2)) (by simpa using hb.1)) hHD ⟨_, kb6 _ _ hd5 (by simpa using hdW.2.2.2.2.2.2), ho1⟩ hH hes (nk fa) (nk fd) (nk ft) (fun e he => ⟨nk (fes e he).1, nk (fes e he).2⟩)
end
section
theorem place_ok {w : World} {dp un : Nat} {fr : Option (List Env)} {gd : Option (List Code)} {s : Shared} {base : Heap} {mean : ExcName → Option Value} {mg mb : Str → Option Value} {Q E : Value → Shared → Prop} {a d tb : Addr} {es : List Ent} {k : Str} {t : Tok}
    (X : (hd.heap_1 w.params).In base) (T : TP mean mg mb base) (st : base.StaysIn s.heap) (hdp : dp + 10 < recursionLimit) (hun : un + 100 < cLine)
    (H : Hsh w base s.heap a d tb es) (hk : k ∈ es.map (·.k))
    (hret : ∀ h' tk' (r : Int) u, s.heap.StaysIn h' → 0 ≤ r → Q (.int r u) { s with heap := h', toks := tk' }) :
    wpAny (model PySem.Challenge.rw_sz0091_01.row.prog w) (AA dp un fr gd) (call (.ref 343) [.ref a, .str k t]) Q E s := by
  obtain ⟨od, hd0, ho⟩ := H.hd
  cases ho with | mk =>
  have hl0 := (Led.cons H.ha H.na (.cons hd0 H.nd .nil))
  refine wpAny_call ?_
  k_dflt refine' enter0 X T st hl0 ?k6 ?k7 ?k8 ?k9 ?kB ?c2 ?c3 ?c4 ?c5 ?_
  case k6 => k_dflt k_is
  case k7 => k_dflt k_is
  case k8 => k_room
  case k9 => k_dflt first | exact BindsTo.of_eq rfl | exact binds_K (by k_in) rfl (by k_is) rfl rfl rfl
  case kB => exact locs rfl
  case c2 => exact rfl
  case c3 => exact rfl
  case c4 => exact rfl
  case c5 => decide
  intro g' L' h' hL' sg' G' gs' F' N' X' T'
  dsimp only
  k_fold
  have hT : Tab w base g' tb es := H.tabBut fun b o q h1 h2 => G' b o q (by simp [h1, h2])
  have hD := hT.dict
  repeat' (first | (k_unfold; (try dsimp only)) | (k_end; wrow_close) | ((fail_if_success (with_reducible show wpAny _ _ (exec (Stmt.For _ _ _ _ _) _) _ _ _)); first | walk1 | (dsimp only; walk1) | (leave1; walk_say "STEP leave1"; try dsimp only)) | fail "no step")
  refine For_invV g' rfl rfl ?_
  repeat' (first | (k_unfold; (try dsimp only)) | (k_end; wrow_close) | ((fail_if_success (with_reducible show wpAny _ _ (pyIter _) _ _ _)); first | walk1 | (dsimp only; walk1) | (leave1; walk_say "STEP leave1"; try dsimp only)) | fail "no step")
  rename Fr _ _ _ _ => F1
  rename News _ _ _ _ => N1
  refine' for_dictP (σ := Int × Tok) rfl hD hT.sys F1 N1 (fun c => [("place", .int c.1 c.2)]) (fun i c news => news = _ ∧ 0 ≤ c.1 ∧ ∀ (j : Nat) e, j < i → es[j]? = some e → e.k ≠ k) (0, _) ⟨rfl, Int.le_refl 0, fun j e h => absurd h (Nat.not_lt_zero _)⟩ ?hk ?turn ?done ?hx
  case hk => intro p hp; rw [List.mem_singleton.mp hp]; exact rfl
  case hx => intro c p hp; rw [List.mem_singleton.mp hp]; exact (by decide : (Str.ofString "place" : Str) ≠ Str.ofString "other")
  case turn =>
    rintro i k' v q ⟨pl, pt⟩ news₁ h tk I oI hk' hv ⟨rfl, h0, hno⟩ F2 N2 hne
    obtain ⟨t', rfl⟩ := Value.isStrOf_shape hv
    clear F1 N1
    dsimp only at *
    repeat' (first | (k_unfold; (try dsimp only)) | (k_end; wrow_close) | (first | walk1 | (dsimp only; walk1) | (leave1; walk_say "STEP leave1"; try dsimp only)) | fail "no step")
    · rename Fr _ _ _ _ => F3
      rename News _ _ _ _ => N3
      exact hret _ _ pl pt (stays_end hl0 G' F3 N3 (by first | ((repeat' (first | exact sub_nil | refine sub_cons ?_ ?_)); (all_goals (first | ((repeat (first | exact .head _ | refine .tail _ ?_)); done) | (refine Or.inr ?_; (repeat (first | exact .head _ | refine .tail _ ?_)); done) | (refine Or.inl ?_; (repeat (first | exact .head _ | refine .tail _ ?_)); done) | (apply Exists.intro; (repeat (first | exact .head _ | refine .tail _ ?_)); done) | (intro p hp; (repeat (first | exact hp | refine .tail _ ?_)); done))); done) | (trace "SUBFALL"; simp))) h0
    · rename (_ == _) = false => hq
      rename Fr _ _ _ _ => F3
      rename News _ _ _ _ => N3
      refine' LStep.next F3 N3 hne ⟨(pl + 1, _), ⟨rfl, by dsimp only; omega, ?a1⟩, ?a2, ?a3⟩
      case a1 =>
        intro j e hj he
        rcases Nat.lt_succ_iff_lt_or_eq.mp hj with hj | rfl
        · exact hno j e hj he
        · rw [List.getElem?_map, he] at hk'
          cases hk'
          intro q
          rw [q] at hq
          simp at hq
      case a2 => intro p hp; rw [List.mem_singleton.mp hp]; exact rfl
      case a3 =>
        intro y h1 h2
        have hz : y ≠ Str.ofString "place" := h2 _ (.head _)
        simp only [kstB, if_neg hz, if_neg h1]
  case done =>
    rintro c u news₁ h tk ⟨rfl, h0, hno⟩ F2 N2
    exfalso
    obtain ⟨e, he, rfl⟩ := List.mem_map.mp hk
    obtain ⟨j, hj, hje⟩ := List.getElem_of_mem he
    exact hno j e (by simpa using hj) (by rw [List.getElem?_eq_getElem hj, hje]) rfl
end
section
section
variable {prog : Program} {w : World} {K : Type} [DecidableEq K] {knd : KeyKind prog w K} {A : Around} {E : Value → Shared → Prop} {s : Shared} {h₀ : Heap} {L d : Addr} {m : Str → Option Value} {news : List (Addr × Obj)} {g : Obj → List (Addr × Obj)} {o : Obj} {kvs : List (K × Value)} {k : K} {key v : Value}
theorem pop_method {pl : Sem Bool} {Q : Value × List Value → Shared → Prop} (N : News h₀ L s.heap news) (hp : (d, o) ∈ news) (hd : o.IsDictOf knd kvs) (h : Q (.builtin "dict.pop", [.ref d]) s) : wpAny (model prog w) A (getMethod (.ref d) "pop" pl) Q E s := by
  have hD := kda_dict N hp hd
  exact getMethod_builtin hD.typeIs PySem.F.plainAttrs_dict PySem.F.slot_dict_pop PySem.F.type_dict_pop hD.mapOf.noDict h
theorem pop_any {Q : Value → Shared → Prop} (F : Fr h₀ L s.heap m) (N : News h₀ L s.heap news) (U : UpdF d o news g) (hd : o.IsDictOf knd kvs) (hkey : knd.is k key = true) (hpart : (keyPart key).isSome = true) (hl : valueAt kvs k = some v) (hsz : kvs.length ≤ sizeLine)
    (h : ∀ h' o', Fr h₀ L h' m → News h₀ L h' (g o') → o'.IsDictOf knd (without kvs k) → Q v { s with heap := h', toks := s.toks + 1 }) : wpAny (model prog w) A (call (.builtin "dict.pop") [.ref d, key]) Q E s := by
  obtain ⟨pre, post, rfl, hg, a, b⟩ := U.split
  have hm := N (d, o) (List.mem_append_right _ (.head _))
  have hD : s.heap.DictOf knd d kvs := Heap.dictOf_iff.mpr ⟨o, hm.1, hd⟩
  refine call_meetsIn PySem.F.slot_dict_pop hD.typeIs PySem.F.entry_dict_pop (PySem.F.args_dict_pop_2 _ _) (meets_dict_pop_there knd d hkey [] (.inl rfl) hpart) ⟨kvs, v, hD, hsz, hl, fun h' hmm hs => ?_⟩
  obtain ⟨o', ho', hd'⟩ := Heap.dictOf_iff.mp hmm
  exact h h' o' (F.change hs hm.2.1 hm.2.2) (hg o' ▸ N.setIn a b hs ho') hd'
end
end
section
local macro_rules | `(tactic| walk_at "compareOp NotIn str ref") => `(tactic| (k_here; k_dflt (refine kdg_notin (knd := PySem.strKind _ _) (by k_asm) (by k_mem) (by k_asm) (by k_asm) (strKind_is _ _ _ _) _ (by assumption) ?_)))
theorem without_es (es : List Ent) (k : Str) : without (es.map fun e => (e.k, Value.ref e.sc)) k = (es.filter fun e => decide (e.k ≠ k)).map fun e => (e.k, Value.ref e.sc) := by
  unfold without
  rw [List.filter_map]; rfl
theorem del_no {w : World} {dp un : Nat} {fr : Option (List Env)} {gd : Option (List Code)} {s : Shared} {base : Heap} {mean : ExcName → Option Value} {mg mb : Str → Option Value} {Q E : Value → Shared → Prop} {c : Addr} {a d tb : Addr} {es : List Ent} {k : Str} {t : Tok}
    (X : (hd.heap_1 w.params).In base) (T : TP mean mg mb base) (st : base.StaysIn s.heap) (hdp : dp + 20 < recursionLimit) (hun : un + 200 < cLine)
    (H : Hsh w base s.heap a d tb es) (hk : k ∉ es.map (·.k))
    (hret : ∀ h' tk', s.heap.StaysIn h' → Q .none { s with heap := h', toks := tk' }) :
    wpAny (model PySem.Challenge.rw_sz0091_01.row.prog w) (AA dp un fr gd) (call (.ref 350) [.ref c, .ref a, .str k t]) Q E s := by
  obtain ⟨od, hd0, ho⟩ := H.hd
  cases ho with | mk =>
  obtain ⟨oT, hoT, hdT⟩ := Heap.dictOf_iff.mp H.tab.dict
  have hsys := H.tab.sys
  have hk' := valueAt_none hk
  have hl0 := (Led.cons H.ha H.na (.cons hd0 H.nd (.cons hoT H.tab.new .nil)))
  refine wpAny_call ?_
  k_dflt refine' enter0 X T st hl0 ?k6 ?k7 ?k8 ?k9 ?kB ?c2 ?c3 ?c4 ?c5 ?_
  case k6 => k_dflt k_is
  case k7 => k_dflt k_is
  case k8 => k_room
  case k9 => k_dflt first | exact BindsTo.of_eq rfl | exact binds_K (by k_in) rfl (by k_is) rfl rfl rfl
  case kB => exact locs rfl
  case c2 => exact rfl
  case c3 => exact rfl
  case c4 => exact rfl
  case c5 => decide
  intro g' L' h' hL' sg' G' gs' F' N' X' T'
  dsimp only
  k_fold
  repeat' (first | (k_unfold; (try dsimp only)) | (k_end; wrow_close) | (first | walk1 | (dsimp only; walk1) | (leave1; walk_say "STEP leave1"; try dsimp only)) | fail "no step")
  rename Fr _ _ _ _ => F9
  rename News _ _ _ _ => N9
  exact hret _ _ (stays_end hl0 G' F9 N9 (by first | ((repeat' (first | exact sub_nil | refine sub_cons ?_ ?_)); (all_goals (first | ((repeat (first | exact .head _ | refine .tail _ ?_)); done) | (refine Or.inr ?_; (repeat (first | exact .head _ | refine .tail _ ?_)); done) | (refine Or.inl ?_; (repeat (first | exact .head _ | refine .tail _ ?_)); done) | (apply Exists.intro; (repeat (first | exact .head _ | refine .tail _ ?_)); done) | (intro p hp; (repeat (first | exact hp | refine .tail _ ?_)); done))); done) | (trace "SUBFALL"; simp)))
local macro_rules | `(tactic| walk_at "getMethod ref") => `(tactic| (k_here; (with_reducible show wpAny _ _ (getMethod (Value.ref _) "pop" _) _ _ _); k_dflt (refine pop_method (knd := PySem.strKind _ _) (by k_asm) (by k_mem) (by k_asm) ?_)))
theorem del_ok {w : World} {dp un : Nat} {fr : Option (List Env)} {gd : Option (List Code)} {s : Shared} {base : Heap} {mean : ExcName → Option Value} {mg mb : Str → Option Value} {Q E : Value → Shared → Prop} {V : Wd} {z : Nat} {a d tb : Addr} {es : List Ent} {e : Ent} {t : Tok}
    (X : (hd.heap_1 w.params).In base) (T : TP mean mg mb base) (st : base.StaysIn s.heap) (hdp : dp + 20 < recursionLimit) (hun : un + 200 < cLine)
    (hV : WdAt base s.heap V z) (hz : z ≤ 1000) (H : Hsh w base s.heap a d tb es) (he : e ∈ es) (hsz : es.length ≤ 1000)
    (hdc : @Ne Nat d V.cD) (hdh : @Ne Nat d V.hD) (htc : @Ne Nat tb V.cD) (hth : @Ne Nat tb V.hD) (hec : @Ne Nat e.sd V.cD) (heh : @Ne Nat e.sd V.hD)
    (hret : ∀ h' tk' u, KeepsBut [tb, e.sd, V.zl] s.heap h' → (∃ its ep, h'.get? V.zl = some (W.listOf its ep) ∧ its.size ≤ z + 1) → h'.DictOf (PySem.strKind PySem.Challenge.rw_sz0091_01.row.prog w) tb ((es.filter fun x => decide (x.k ≠ e.k)).map fun e => (e.k, Value.ref e.sc)) → Q (.str e.x u) { s with heap := h', toks := tk' }) :
    wpAny (model PySem.Challenge.rw_sz0091_01.row.prog w) (AA dp un fr gd) (call (.ref 350) [.ref V.cnt, .ref a, .str e.k t]) Q E s := by
  obtain ⟨od, hd0, ho⟩ := H.hd
  obtain ⟨oc, hcD, hoc⟩ := hV.cD
  obtain ⟨oh, hhD, hoh⟩ := hV.hD
  obtain ⟨its, ep, hzl, hzs⟩ := hV.zl
  obtain ⟨osd, num, tx, hsd, hos⟩ := H.tab.sd e he
  have hsc := H.tab.sc e he
  obtain ⟨oT, hoT, hdT⟩ := Heap.dictOf_iff.mp H.tab.dict
  have hcT : oT.cls = .type "dict" := by obtain ⟨o, h1, h2⟩ := H.tab.tbObj; rw [hoT] at h1; cases h1; exact h2
  have n0 := neN H.dt
  have n1 := neN (H.tab.sdt e he)
  have n2 := neN (H.dsd e he)
  have hsys := H.tab.sys
  have n11 := hV.n1
  cases ho with | mk =>
  cases hoc with | mk =>
  cases hoh with | mk =>
  cases hos with | mk =>
  have m1 := ne_clsN H.ha hoT (by rw [hcT]; intro e; cases e)
  have m2 := ne_clsN hsc hoT (by rw [hcT]; intro e; cases e)
  have m3 := ne_clsN hV.cnt hoT (by rw [hcT]; intro e; cases e)
  have m4 := ne_clsN hV.hp hoT (by rw [hcT]; intro e; cases e)
  have m5 := ne_clsN hzl hoT (by rw [hcT]; intro e; exact absurd (Value.type.inj e) (by decide))
  have m6 := ne_clsN H.ha hsd (by intro e; cases e)
  have m7 := ne_clsN hsc hsd (by intro e; cases e)
  have m8 := ne_clsN hV.cnt hsd (by intro e; cases e)
  have m9 := ne_clsN hV.hp hsd (by intro e; cases e)
  have m10 := ne_clsN hzl hsd (by intro e; exact absurd (Value.type.inj e) (by decide))
  have m11 := ne_clsN hzl H.ha (by intro e; cases e)
  have m12 := ne_clsN hzl hd0 (by intro e; exact absurd (Value.type.inj e) (by decide))
  have m13 := ne_clsN hzl hsc (by intro e; cases e)
  have m14 := ne_clsN hzl hV.cnt (by intro e; cases e)
  have m15 := ne_clsN hzl hcD (by intro e; exact absurd (Value.type.inj e) (by decide))
  have m16 := ne_clsN hzl hV.hp (by intro e; cases e)
  have m17 := ne_clsN hzl hhD (by intro e; exact absurd (Value.type.inj e) (by decide))
  have hva := (H.tab.find he).1
  have hk' : (valueAt (es.map fun e => (e.k, Value.ref e.sc)) e.k).isSome = true := by rw [hva]; rfl
  have hl0 := (Led.cons hoT H.tab.new (.cons hsd (H.tab.nsd e he) (.cons hzl hV.nzl (.cons H.ha H.na (.cons hd0 H.nd (.cons hsc (H.tab.nsc e he) (.cons hV.cnt hV.ncnt (.cons hcD hV.ncD (.cons hV.hp hV.nhp (.cons hhD hV.nhD .nil))))))))))
  refine wpAny_call ?_
  k_dflt refine' enter0 X T st hl0 ?k6 ?k7 ?k8 ?k9 ?kB ?c2 ?c3 ?c4 ?c5 ?_
  case k6 => k_dflt k_is
  case k7 => k_dflt k_is
  case k8 => k_room
  case k9 => k_dflt first | exact BindsTo.of_eq rfl | exact binds_K (by k_in) rfl (by k_is) rfl rfl rfl
  case kB => exact locs rfl
  case c2 => exact rfl
  case c3 => exact rfl
  case c4 => exact rfl
  case c5 => decide
  intro g' L' h' hL' sg' G' gs' F' N' X' T'
  dsimp only
  k_fold
  repeat' (first | (k_unfold; (try dsimp only)) | (k_end; wrow_close) | ((fail_if_success (with_reducible show wpAny _ _ (call (Value.ref 343) _) _ _ _)); first | walk1 | (dsimp only; walk1) | (leave1; walk_say "STEP leave1"; try dsimp only)) | fail "no step")
  rename Fr _ _ _ _ => F9
  rename News _ _ _ _ => N9
  have st9 := stays_end hl0 G' F9 N9 (by first | ((repeat' (first | exact sub_nil | refine sub_cons ?_ ?_)); (all_goals (first | ((repeat (first | exact .head _ | refine .tail _ ?_)); done) | (refine Or.inr ?_; (repeat (first | exact .head _ | refine .tail _ ?_)); done) | (refine Or.inl ?_; (repeat (first | exact .head _ | refine .tail _ ?_)); done) | (apply Exists.intro; (repeat (first | exact .head _ | refine .tail _ ?_)); done) | (intro p hp; (repeat (first | exact hp | refine .tail _ ?_)); done))); done) | (trace "SUBFALL"; simp))
  refine place_ok X T (upG sg' F9) (by first | exact room2 (by assumption) (by decide) | exact room3 (by assumption) (by decide) | exact room1 (by assumption) (by decide) | (trace "DUFALL"; simp only [AA, Around.deeper, Around.in1]; omega)) (by first | exact room2 (by assumption) (by decide) | exact room3 (by assumption) (by decide) | exact room1 (by assumption) (by decide) | (trace "DUFALL"; simp only [AA, Around.deeper, Around.in1]; omega)) (H.up (S := []) (fun b o q _ => st9 _ _ q) (by simp) (by simp) (by simp) (by simp)) (List.mem_map_of_mem he) ?_
  intro h1 tk1 r u1 st1 hr0
  have kb1 : KeepsBut [] _ h1 := fun b o q _ => st1 _ _ q
  have F1 := backF F9 N9 kb1 (by first | ((repeat' (first | exact sub_nil | refine sub_cons ?_ ?_)); (all_goals (first | ((repeat (first | exact .head _ | refine .tail _ ?_)); done) | (refine Or.inr ?_; (repeat (first | exact .head _ | refine .tail _ ?_)); done) | (refine Or.inl ?_; (repeat (first | exact .head _ | refine .tail _ ?_)); done) | (apply Exists.intro; (repeat (first | exact .head _ | refine .tail _ ?_)); done) | (intro p hp; (repeat (first | exact hp | refine .tail _ ?_)); done))); done) | (trace "SUBFALL"; simp))
  have N1 := backN _ F9 N9 kb1 (by first | ((repeat' (first | exact sub_nil | refine sub_cons ?_ ?_)); (all_goals (first | ((repeat (first | exact .head _ | refine .tail _ ?_)); done) | (refine Or.inr ?_; (repeat (first | exact .head _ | refine .tail _ ?_)); done) | (refine Or.inl ?_; (repeat (first | exact .head _ | refine .tail _ ?_)); done) | (apply Exists.intro; (repeat (first | exact .head _ | refine .tail _ ?_)); done) | (intro p hp; (repeat (first | exact hp | refine .tail _ ?_)); done))); done) | (trace "SUBFALL"; simp)) (fun p hp => .inl ⟨hp, by simp⟩)
  clear F9 N9
  dsimp only
  have hrn : ¬ r < 0 := by omega
  repeat' (first | (k_unfold; (try dsimp only)) | (k_end; wrow_close) | ((fail_if_success (with_reducible show wpAny _ _ (call (Value.builtin "dict.pop") _) _ _ _)); first | walk1 | (dsimp only; walk1) | (leave1; walk_say "STEP leave1"; try dsimp only)) | fail "no step")
  k_dflt refine' pop_any (knd := PySem.strKind _ _) F1 N1 ?U hdT (strKind_is _ _ _ _) rfl hva ?z ?_
  case U => k_updF
  case z => rw [sizeLine_eq, List.length_map]; omega
  intro h2 oT2 F2 N2 hdT2
  clear F1 N1
  dsimp only at N2 ⊢
  rw [without_es] at hdT2
  repeat' (first | (k_unfold; (try dsimp only)) | (k_end; wrow_close) | (first | walk1 | (dsimp only; walk1) | (leave1; walk_say "STEP leave1"; try dsimp only)) | fail "no step")
  rename Fr _ _ _ _ => F3
  rename News _ _ _ _ => N3
  refine hret _ _ _ (keeps_end hl0 G' F3 N3 (by first | ((repeat' (first | exact sub_nil | refine sub_cons ?_ ?_)); (all_goals (first | ((repeat (first | exact .head _ | refine .tail _ ?_)); done) | (refine Or.inr ?_; (repeat (first | exact .head _ | refine .tail _ ?_)); done) | (refine Or.inl ?_; (repeat (first | exact .head _ | refine .tail _ ?_)); done) | (apply Exists.intro; (repeat (first | exact .head _ | refine .tail _ ?_)); done) | (intro p hp; (repeat (first | exact hp | refine .tail _ ?_)); done))); done) | (trace "SUBFALL"; simp))) ⟨_, _, (N3 _ (.tail _ (.tail _ (.head _)))).1, ?_⟩ (Heap.dictOf_iff.mpr ⟨_, (N3 _ (.head _)).1, hdT2⟩)
  simp; omega
end
section
theorem strs_at : ∀ {vs : List Value} {ks : List Str}, vs.length = ks.length → (∀ (j : Nat) v, vs[j]? = some v → ∃ k t, ks[j]? = some k ∧ v = .str k t) → StrsAre vs ks
  | [], [], _, _ => .nil
  | v :: vs, k :: ks, hl, h => by
    obtain ⟨k', t, e, rfl⟩ := h 0 v rfl
    simp at e; subst e
    exact .cons _ _ (strs_at (by simpa using hl) fun j u hu => by simpa using h (j + 1) u (by simpa using hu))
  | [], _ :: _, hl, _ => by simp at hl
  | _ :: _, [], hl, _ => by simp at hl
theorem count_ok {w : World} {dp un : Nat} {fr : Option (List Env)} {gd : Option (List Code)} {s : Shared} {base : Heap} {mean : ExcName → Option Value} {mg mb : Str → Option Value} {Q E : Value → Shared → Prop} {a d tb : Addr} {es : List Ent}
    (X : (hd.heap_1 w.params).In base) (T : TP mean mg mb base) (st : base.StaysIn s.heap) (hdp : dp + 10 < recursionLimit) (hun : un + 100 < cLine)
    (H : Hsh w base s.heap a d tb es) (hsz : es.length ≤ 1000)
    (hret : ∀ h' tk' u, s.heap.StaysIn h' → Q (.int es.length u) { s with heap := h', toks := tk' }) :
    wpAny (model PySem.Challenge.rw_sz0091_01.row.prog w) (AA dp un fr gd) (call (.ref 371) [.ref a]) Q E s := by
  obtain ⟨od, hd0, ho⟩ := H.hd
  cases ho with | mk =>
  obtain ⟨oT, hoT, hdT⟩ := Heap.dictOf_iff.mp H.tab.dict
  have hsys := H.tab.sys
  have hl0 := (Led.cons H.ha H.na (.cons hd0 H.nd (.cons hoT H.tab.new .nil)))
  refine wpAny_call ?_
  k_dflt refine' enter0 X T st hl0 ?k6 ?k7 ?k8 ?k9 ?kB ?c2 ?c3 ?c4 ?c5 ?_
  case k6 => k_dflt k_is
  case k7 => k_dflt k_is
  case k8 => k_room
  case k9 => k_dflt first | exact BindsTo.of_eq rfl | exact binds_K (by k_in) rfl (by k_is) rfl rfl rfl
  case kB => exact locs rfl
  case c2 => exact rfl
  case c3 => exact rfl
  case c4 => exact rfl
  case c5 => decide
  intro g' L' h' hL' sg' G' gs' F' N' X' T'
  dsimp only
  k_fold
  repeat' (first | (k_unfold; (try dsimp only)) | (k_end; wrow_close) | ((fail_if_success (with_reducible show wpAny _ _ (call (Value.builtin "len") _) _ _ _)); first | walk1 | (dsimp only; walk1) | (leave1; walk_say "STEP leave1"; try dsimp only)) | fail "no step")
  rename Fr _ _ _ _ => F9
  rename News _ _ _ _ => N9
  refine kda_len N9 (.tail _ (.tail _ (.head _))) hdT hsys (by rw [List.length_map]; omega) ?_
  dsimp only
  repeat' (first | (k_unfold; (try dsimp only)) | (k_end; wrow_close) | (first | walk1 | (dsimp only; walk1) | (leave1; walk_say "STEP leave1"; try dsimp only)) | fail "no step")
  rw [List.length_map]
  exact hret _ _ _ (stays_end hl0 G' F9 N9 (by first | ((repeat' (first | exact sub_nil | refine sub_cons ?_ ?_)); (all_goals (first | ((repeat (first | exact .head _ | refine .tail _ ?_)); done) | (refine Or.inr ?_; (repeat (first | exact .head _ | refine .tail _ ?_)); done) | (refine Or.inl ?_; (repeat (first | exact .head _ | refine .tail _ ?_)); done) | (apply Exists.intro; (repeat (first | exact .head _ | refine .tail _ ?_)); done) | (intro p hp; (repeat (first | exact hp | refine .tail _ ?_)); done))); done) | (trace "SUBFALL"; simp)))
theorem keys_ok {w : World} {dp un : Nat} {fr : Option (List Env)} {gd : Option (List Code)} {s : Shared} {base : Heap} {mean : ExcName → Option Value} {mg mb : Str → Option Value} {Q E : Value → Shared → Prop} {a d tb : Addr} {es : List Ent}
    (X : (hd.heap_1 w.params).In base) (T : TP mean mg mb base) (st : base.StaysIn s.heap) (hdp : dp + 10 < recursionLimit) (hun : un + 100 < cLine)
    (H : Hsh w base s.heap a d tb es) (hsz : es.length ≤ 1000)
    (hret : ∀ D h' tk' ys ep, KeepsBut [d] s.heap h' → s.heap.get? D = none → h'.get? D = some (W.listOf ys ep) → StrsAre ys.toList (es.map (·.k)) → (∃ od, h'.get? d = some od ∧ HaD tb od) → Q (.ref D) { s with heap := h', toks := tk' }) :
    wpAny (model PySem.Challenge.rw_sz0091_01.row.prog w) (AA dp un fr gd) (call (.ref 364) [.ref a]) Q E s := by
  obtain ⟨od, hd0, ho⟩ := H.hd
  cases ho with | mk =>
  obtain ⟨oT, hoT, hdT⟩ := Heap.dictOf_iff.mp H.tab.dict
  have hsys := H.tab.sys
  have hcT : oT.cls = .type "dict" := by obtain ⟨o, h1, h2⟩ := H.tab.tbObj; rw [hoT] at h1; cases h1; exact h2
  have n0 := neN H.dt
  have n1 := ne_clsN H.ha hd0 (by intro e; cases e)
  have hl0 := (Led.cons H.ha H.na (.cons hd0 H.nd (.cons hoT H.tab.new .nil)))
  refine wpAny_call ?_
  k_dflt refine' enter0 X T st hl0 ?k6 ?k7 ?k8 ?k9 ?kB ?c2 ?c3 ?c4 ?c5 ?_
  case k6 => k_dflt k_is
  case k7 => k_dflt k_is
  case k8 => k_room
  case k9 => k_dflt first | exact BindsTo.of_eq rfl | exact binds_K (by k_in) rfl (by k_is) rfl rfl rfl
  case kB => exact locs rfl
  case c2 => exact rfl
  case c3 => exact rfl
  case c4 => exact rfl
  case c5 => decide
  intro g' L' h' hL' sg' G' gs' F' N' X' T'
  dsimp only
  k_fold
  repeat' (first | (k_unfold; (try dsimp only)) | (k_end; wrow_close) | ((fail_if_success (with_reducible show wpAny _ _ (call (Value.type "list") _) _ _ _)); first | walk1 | (dsimp only; walk1) | (leave1; walk_say "STEP leave1"; try dsimp only)) | fail "no step")
  rename Fr _ _ _ _ => F9
  rename News _ _ _ _ => N9
  obtain ⟨ep, hat⟩ := (Heap.dictOf_iff.mpr ⟨_, (N9 _ (.tail _ (.tail _ (.head _)))).1, hdT⟩).dictAt
  refine kdl_N (kdl_dict (knd := PySem.strKind _ w) (kvs := es.map fun e => (e.k, Value.ref e.sc)) (ep := ep) hsys) rfl F9 N9 hat (kdl_size (by rw [List.length_map]; omega)) fun B c h' tk vs F' N' l1 hl hv => ?_
  have b0 : @LT.lt Nat _ a B := l1 _ (.head _)
  have b1 : @LT.lt Nat _ d B := l1 _ (.tail _ (.head _))
  have b2 : @LT.lt Nat _ tb B := l1 _ (.tail _ (.tail _ (.head _)))
  clear F9 N9 l1
  dsimp only
  repeat' (first | (k_unfold; (try dsimp only)) | (k_end; wrow_close) | (first | walk1 | (dsimp only; walk1) | (leave1; walk_say "STEP leave1"; try dsimp only)) | fail "no step")
  rename Fr _ _ _ _ => F3
  rename News _ _ _ _ => N3
  refine hret _ _ _ _ _ (keeps_end hl0 G' F3 N3 (by first | ((repeat' (first | exact sub_nil | refine sub_cons ?_ ?_)); (all_goals (first | ((repeat (first | exact .head _ | refine .tail _ ?_)); done) | (refine Or.inr ?_; (repeat (first | exact .head _ | refine .tail _ ?_)); done) | (refine Or.inl ?_; (repeat (first | exact .head _ | refine .tail _ ?_)); done) | (apply Exists.intro; (repeat (first | exact .head _ | refine .tail _ ?_)); done) | (intro p hp; (repeat (first | exact hp | refine .tail _ ?_)); done))); done) | (trace "SUBFALL"; simp))) (new_of G' N3 (.head _) (by simp only [List.map_cons, List.map_nil, List.mem_cons, List.not_mem_nil, or_false, not_or]; (repeat' apply And.intro) <;> (refine neN ?_; omega))) (N3 _ (.head _)).1 ?_ ⟨_, (N3 _ (.tail _ (.tail _ (.head _)))).1, .mk⟩
  refine strs_at (by simpa using hl) fun j v hj => ?_
  obtain ⟨k, x, hx, hk⟩ := hv j v (by simpa using hj)
  obtain ⟨t, rfl⟩ := Value.isStrOf_shape hk
  rw [List.getElem?_map] at hx
  obtain ⟨e, he, q⟩ := Option.map_eq_some_iff.mp hx
  cases q
  exact ⟨_, t, by rw [List.getElem?_map, he]; rfl, rfl⟩
end
section
def On (As : List Addr) (h h' : Heap) : Prop := ∀ x ∈ As, ∀ o, h.get? x = some o → h'.get? x = some o
def AsOk (g : Heap) (L : Addr) (As : List Addr) : Prop := ∀ x ∈ As, x ≠ L ∧ g.get? x = none
def re (h : Heap) (As : List Addr) : List (Addr × Obj) := As.filterMap fun a => (h.get? a).map fun o => (a, o)
theorem re_mem {h : Heap} {As : List Addr} {a : Addr} {o : Obj} (ha : a ∈ As) (ho : h.get? a = some o) : (a, o) ∈ re h As :=
  List.mem_filterMap.mpr ⟨a, ha, by rw [ho]; rfl⟩
theorem re_get {h : Heap} {As : List Addr} {p : Addr × Obj} (hp : p ∈ re h As) : h.get? p.1 = some p.2 ∧ p.1 ∈ As := by
  obtain ⟨a, ha, q⟩ := List.mem_filterMap.mp hp
  obtain ⟨o, ho, rfl⟩ := Option.map_eq_some_iff.mp q
  exact ⟨ho, ha⟩
theorem re_on {g h h' : Heap} {L : Addr} {As : List Addr} {news : List (Addr × Obj)} (N : News g L h' news) (hs : ∀ p ∈ re h As, p ∈ news) : On As h h' := fun x hx o ho => (N _ (hs _ (re_mem hx ho))).1
theorem re_news {g h : Heap} {L : Addr} {As : List Addr} (A : AsOk g L As) : News g L h (re h As) := fun p hp => ⟨(re_get hp).1, A _ (re_get hp).2⟩
theorem newsC {g h : Heap} {L : Addr} {p : Addr × Obj} {r : List (Addr × Obj)} (h1 : News g L h [p]) (h2 : News g L h r) : News g L h (p :: r) := fun q hq => by
  rcases List.mem_cons.mp hq with rfl | hq
  · exact h1 _ (.head _)
  · exact h2 _ hq
theorem fresh_as {g h : Heap} {L a : Addr} {m : Str → Option Value} (F : Fr g L h m) (hn : h.get? a = none) : a ≠ L ∧ g.get? a = none := by
  obtain ⟨oL, es, ep, hL, r⟩ := F.ns
  refine ⟨fun (q : a = L) => ?_, ?_⟩
  · subst q; rw [hL] at hn; cases hn
  · cases q : g.get? a with
    | none => rfl
    | some o => rw [F.keep _ _ q] at hn; cases hn
theorem backA {S : List Addr} {g h h' : Heap} {L : Addr} {m : Str → Option Value} (F : Fr g L h m) (kb : KeepsBut S h h') (hS : ∀ a ∈ S, a ≠ L ∧ g.get? a = none) : Fr g L h' m := by
  obtain ⟨oL, es, ep, hL, r⟩ := F.ns
  refine ⟨⟨oL, es, ep, kb _ _ hL fun q => ?_, r⟩, fun b o e => kb b o (F.keep b o e) fun q => ?_, F.above⟩
  · exact (hS _ q).1 rfl
  · have := (hS _ q).2
    rw [e] at this; cases this
def Wd.all (V : Wd) : List Addr := [V.hD, V.zl, V.cnt, V.cD, V.hp, V.lim, V.lD]
theorem WdAt.on {base h h' : Heap} {V : Wd} {z : Nat} (H : WdAt base h V z) (k : On V.all h h') : WdAt base h' V z where
  cnt := k _ (by simp [Wd.all]) _ H.cnt
  cD := let ⟨o, ho, r⟩ := H.cD; ⟨o, k _ (by simp [Wd.all]) _ ho, r⟩
  hp := k _ (by simp [Wd.all]) _ H.hp
  hD := let ⟨o, ho, r⟩ := H.hD; ⟨o, k _ (by simp [Wd.all]) _ ho, r⟩
  ncnt := H.ncnt
  ncD := H.ncD
  nhp := H.nhp
  nhD := H.nhD
  n1 := H.n1
  lim := k _ (by simp [Wd.all]) _ H.lim
  lD := let ⟨o, ho, r⟩ := H.lD; ⟨o, k _ (by simp [Wd.all]) _ ho, r⟩
  zl := let ⟨i, e, ho, r⟩ := H.zl; ⟨i, e, k _ (by simp [Wd.all]) _ ho, r⟩
  nlim := H.nlim
  nlD := H.nlD
  nzl := H.nzl
  n2 := H.n2
def hAs (a d tb : Addr) (es : List Ent) : List Addr := a :: d :: tb :: (es.map (·.sc) ++ es.map (·.sd))
theorem Hsh.on {w : World} {base h h' : Heap} {a d tb : Addr} {es : List Ent} (H : Hsh w base h a d tb es) (k : On (hAs a d tb es) h h') : Hsh w base h' a d tb es where
  ha := k _ (by simp [hAs]) _ H.ha
  hd := let ⟨od, ho, r⟩ := H.hd; ⟨od, k _ (by simp [hAs]) _ ho, r⟩
  tab := H.tab.up (fun e => k _ (by simp [hAs]) _ e) (fun e he _ q => k _ (by simp only [hAs, List.mem_cons, List.mem_append]; exact .inr (.inr (.inr (.inl (List.mem_map_of_mem he))))) _ q) (fun e he _ q => k _ (by simp only [hAs, List.mem_cons, List.mem_append]; exact .inr (.inr (.inr (.inr (List.mem_map_of_mem he))))) _ q)
  na := H.na
  nd := H.nd
  dt := H.dt
  dsd := H.dsd
def prs (es : List Ent) : List (Str × Str) := es.map fun e => (e.k, e.x)
theorem Wd_led {base h : Heap} {V : Wd} {z : Nat} (H : WdAt base h V z) : ∀ x ∈ V.all, ∃ o, h.get? x = some o ∧ base.get? x = none := by
  obtain ⟨oc, hcD, _⟩ := H.cD
  obtain ⟨oh, hhD, _⟩ := H.hD
  obtain ⟨ol, hlD, _⟩ := H.lD
  obtain ⟨i, e, hz, _⟩ := H.zl
  intro x hx
  simp only [Wd.all, List.mem_cons, List.not_mem_nil, or_false] at hx
  rcases hx with rfl | rfl | rfl | rfl | rfl | rfl | rfl
  · exact ⟨_, hhD, H.nhD⟩
  · exact ⟨_, hz, H.nzl⟩
  · exact ⟨_, H.cnt, H.ncnt⟩
  · exact ⟨_, hcD, H.ncD⟩
  · exact ⟨_, H.hp, H.nhp⟩
  · exact ⟨_, H.lim, H.nlim⟩
  · exact ⟨_, hlD, H.nlD⟩
theorem nodup_inj {l : List Ent} (hn : (l.map (·.sd)).Nodup) {x e : Ent} (hx : x ∈ l) (he : e ∈ l) (q : x.sd = e.sd) : x = e := by
  induction l with
  | nil => cases hx
  | cons a r ih =>
    rw [List.map_cons, List.nodup_cons] at hn
    rcases List.mem_cons.mp hx with h1 | h1
    · rcases List.mem_cons.mp he with h2 | h2
      · rw [h1, h2]
      · exact (hn.1 (List.mem_map.mpr ⟨e, h2, by rw [← q, h1]⟩)).elim
    · rcases List.mem_cons.mp he with h2 | h2
      · exact (hn.1 (List.mem_map.mpr ⟨x, h1, by rw [q, h2]⟩)).elim
      · exact ih hn.2 h1 h2
def Cs (V : Wd) (d : Addr) : List Addr := [d, V.hD, V.cnt, V.cD, V.hp, V.lim, V.lD]
theorem notin1 {α : Type} {a b : α} (h : a ≠ b) : a ∉ [b] := fun m => h (List.mem_singleton.mp m)
theorem notin3 {α : Type} {a b c d : α} (h1 : a ≠ b) (h2 : a ≠ c) (h3 : a ≠ d) : a ∉ [b, c, d] := by simp [h1, h2, h3]
theorem Cs_of {V : Wd} {d x : Addr} (h : x ∈ d :: V.all) (hz : x ≠ V.zl) : x ∈ Cs V d := by
  simp only [Cs, Wd.all, List.mem_cons, List.not_mem_nil, or_false] at h ⊢
  rcases h with h | h | h | h | h | h | h | h
  · exact .inl h
  · exact .inr (.inl h)
  · exact absurd h hz
  all_goals simp [h]
theorem Cs_all {V : Wd} {d x : Addr} (h : x ∈ Cs V d) : x ∈ d :: V.all := by
  simp only [Cs, Wd.all, List.mem_cons, List.not_mem_nil, or_false] at h ⊢
  rcases h with h | h | h | h | h | h | h <;> simp [h]
theorem Cs_sub {V : Wd} {d : Addr} {As : List Addr} (h1 : d ∈ As) (h2 : ∀ x ∈ V.all, x ∈ As) : ∀ x ∈ Cs V d, x ∈ As := fun x h => by
  rcases List.mem_cons.mp (Cs_all h) with q | q
  · exact q ▸ h1
  · exact h2 _ q
theorem WdAt.onZ {base h h' : Heap} {V : Wd} {d : Addr} {z z' : Nat} (H : WdAt base h V z) (k : On (Cs V d) h h') (hz : ∃ its ep, h'.get? V.zl = some (W.listOf its ep) ∧ its.size ≤ z') : WdAt base h' V z' where
  cnt := k _ (by simp [Cs]) _ H.cnt
  cD := let ⟨o, ho, r⟩ := H.cD; ⟨o, k _ (by simp [Cs]) _ ho, r⟩
  hp := k _ (by simp [Cs]) _ H.hp
  hD := let ⟨o, ho, r⟩ := H.hD; ⟨o, k _ (by simp [Cs]) _ ho, r⟩
  ncnt := H.ncnt
  ncD := H.ncD
  nhp := H.nhp
  nhD := H.nhD
  n1 := H.n1
  lim := k _ (by simp [Cs]) _ H.lim
  lD := let ⟨o, ho, r⟩ := H.lD; ⟨o, k _ (by simp [Cs]) _ ho, r⟩
  zl := hz
  nlim := H.nlim
  nlD := H.nlD
  nzl := H.nzl
  n2 := H.n2
section
variable (w : World) (base h6 : Heap) (V : Wd) (d la ld lt : Addr) (les : List Ent) (zt : Nat)
structure RAt (h : Heap) (es' : List Ent) : Prop where
  hsh : Hsh w base h la ld lt es'
  con : On (Cs V d) h6 h
  zl : ∃ its ep, h.get? V.zl = some (W.listOf its ep) ∧ its.size + es'.length ≤ zt
  sub : ∀ e ∈ es', e ∈ les
structure RSep : Prop where
  sep : ∀ x, x = ld ∨ x = lt ∨ x ∈ les.map (·.sd) → x ≠ V.zl ∧ x ∉ Cs V d
  zc : V.zl ∉ Cs V d
end
section
variable {w : World} {base h6 : Heap} {V : Wd} {d la ld lt : Addr} {les : List Ent} {zt : Nat}
theorem RAt.on {h h' : Heap} {es' : List Ent} {As : List Addr} (R : RAt w base h6 V d la ld lt les zt h es') (k : On As h h') (hA : ∀ x ∈ hAs la ld lt les, x ∈ As) (hC : ∀ x ∈ Cs V d, x ∈ As) (hz : V.zl ∈ As) : RAt w base h6 V d la ld lt les zt h' es' where
  hsh := R.hsh.on fun x hx o ho => k x (hA _ (by
    simp only [hAs, List.mem_cons, List.mem_append, List.mem_map] at hx ⊢
    rcases hx with h | h | h | ⟨e, he, h⟩ | ⟨e, he, h⟩
    · exact .inl h
    · exact .inr (.inl h)
    · exact .inr (.inr (.inl h))
    · exact .inr (.inr (.inr (.inl ⟨e, R.sub e he, h⟩)))
    · exact .inr (.inr (.inr (.inr ⟨e, R.sub e he, h⟩))))) o ho
  con := fun x hx o ho => k x (hC x hx) o (R.con x hx o ho)
  zl := let ⟨i, e, ho, r⟩ := R.zl; ⟨i, e, k _ hz _ ho, r⟩
  sub := R.sub
theorem RAt.wd {h : Heap} {es' : List Ent} {z : Nat} (R : RAt w base h6 V d la ld lt les zt h es') (hV : WdAt base h6 V z) : WdAt base h V (zt - es'.length) :=
  hV.onZ R.con (let ⟨i, e, ho, r⟩ := R.zl; ⟨i, e, ho, by omega⟩)
theorem RAt.keys {h h' : Heap} {es' : List Ent} (R : RAt w base h6 V d la ld lt les zt h es') (P : RSep V d ld lt les) (k : KeepsBut [ld] h h') (hd' : ∃ od, h'.get? ld = some od ∧ HaD lt od) : RAt w base h6 V d la ld lt les zt h' es' where
  hsh := by
    obtain ⟨od, ho, hod⟩ := R.hsh.hd
    have n1 : la ≠ ld := ne_cls R.hsh.ha ho (by cases hod; intro e; cases e)
    exact { ha := k _ _ R.hsh.ha (by simpa using n1), hd := hd', tab := R.hsh.tabBut fun b o q h1 h2 => k _ _ q (by simpa using h2), na := R.hsh.na, nd := R.hsh.nd, dt := R.hsh.dt, dsd := R.hsh.dsd }
  con := fun x hx o ho => k _ _ (R.con x hx o ho) (by
    have := (P.sep ld (.inl rfl)).2
    simp only [List.mem_singleton]
    intro e; exact this (e ▸ hx))
  zl := let ⟨i, e, ho, r⟩ := R.zl; ⟨i, e, k _ _ ho (by simpa using (P.sep ld (.inl rfl)).1.symm), r⟩
  sub := R.sub
theorem RAt.del {h h' : Heap} {es' : List Ent} {e : Ent} (R : RAt w base h6 V d la ld lt les zt h es') (P : RSep V d ld lt les) (he : e ∈ es') (k : KeepsBut [lt, e.sd, V.zl] h h') (hz : ∃ its ep, h'.get? V.zl = some (W.listOf its ep) ∧ its.size ≤ zt - es'.length + 1)
    (hd' : h'.DictOf (PySem.strKind PySem.Challenge.rw_sz0091_01.row.prog w) lt ((es'.filter fun x => decide (x.k ≠ e.k)).map fun e => (e.k, Value.ref e.sc))) : RAt w base h6 V d la ld lt les zt h' (es'.filter fun x => decide (x.k ≠ e.k)) := by
  obtain ⟨oz, ep, hzl, hzs⟩ := R.zl
  obtain ⟨ot, hlt, hct⟩ := R.hsh.tab.tbObj
  obtain ⟨osd, num, tt, hsd, hsdo⟩ := R.hsh.tab.sd e he
  have hcs : osd.cls = .type "dict" := by cases hsdo; rfl
  obtain ⟨od, hod, hodd⟩ := R.hsh.hd
  have hm : e.sd ∈ les.map (·.sd) := List.mem_map_of_mem (R.sub e he)
  have nin : ∀ {b : Addr} {o : Obj}, h.get? b = some o → o.cls ≠ .type "dict" → o.cls ≠ .type "list" → b ∉ [lt, e.sd, V.zl] := fun {b o} q h1 h2 => by
    simp only [List.mem_cons, List.not_mem_nil, or_false, not_or]
    exact ⟨ne_cls q hlt (by rw [hct]; exact h1), ne_cls q hsd (by rw [hcs]; exact h1), ne_cls q hzl h2⟩
  have hlen : (es'.filter fun x => decide (x.k ≠ e.k)).length + 1 ≤ es'.length := by
    have : (es'.filter fun x => decide (x.k ≠ e.k)).length < es'.length := by
      refine Nat.lt_of_le_of_ne (List.length_filter_le _ _) fun q => ?_
      have := (List.filter_eq_self.mp (List.filter_sublist.eq_of_length q)) e he
      simp at this
    omega
  have hsub : ∀ x ∈ es'.filter (fun x => decide (x.k ≠ e.k)), x ∈ es' ∧ x.k ≠ e.k := fun x hx => by simpa using List.mem_filter.mp hx
  have hsd' : ∀ x ∈ es'.filter (fun x => decide (x.k ≠ e.k)), x.sd ≠ e.sd := fun x hx q => by
    obtain ⟨h1, h2⟩ := hsub x hx
    exact h2 (congrArg (·.k) (nodup_inj R.hsh.tab.sdn h1 he q))
  refine ⟨⟨k _ _ R.hsh.ha (nin R.hsh.ha (by intro e; cases e) (by intro e; cases e)), ⟨od, k _ _ hod ?_, hodd⟩, ⟨hd', R.hsh.tab.sys, R.hsh.tab.new, ?_, ?_, ?_, ?_, ?_, ?_⟩, R.hsh.na, R.hsh.nd, R.hsh.dt, fun x hx => R.hsh.dsd x (hsub x hx).1⟩, ?_, ?_, fun x hx => R.sub x (hsub x hx).1⟩
  · simp only [List.mem_cons, List.not_mem_nil, or_false, not_or]
    exact ⟨R.hsh.dt.symm, (R.hsh.dsd e he).symm, (P.sep ld (.inl rfl)).1⟩
  · intro x hx
    exact k _ _ (R.hsh.tab.sc x (hsub x hx).1) (nin (R.hsh.tab.sc x (hsub x hx).1) (by intro e; cases e) (by intro e; cases e))
  · intro x hx
    obtain ⟨o, n, t, q1, q2⟩ := R.hsh.tab.sd x (hsub x hx).1
    refine ⟨o, n, t, k _ _ q1 ?_, q2⟩
    simp only [List.mem_cons, List.not_mem_nil, or_false, not_or]
    exact ⟨R.hsh.tab.sdt x (hsub x hx).1, hsd' x hx, (P.sep x.sd (.inr (.inr (List.mem_map_of_mem (R.sub x (hsub x hx).1))))).1⟩
  · intro x hx; exact R.hsh.tab.nsc x (hsub x hx).1
  · intro x hx; exact R.hsh.tab.nsd x (hsub x hx).1
  · exact R.hsh.tab.sdn.sublist (List.filter_sublist.map _)
  · intro x hx; exact R.hsh.tab.sdt x (hsub x hx).1
  · intro x hx o ho
    refine k _ _ (R.con x hx o ho) ?_
    simp only [List.mem_cons, List.not_mem_nil, or_false, not_or]
    exact ⟨fun q => (P.sep lt (.inr (.inl rfl))).2 (q ▸ hx), fun q => (P.sep e.sd (.inr (.inr hm))).2 (q ▸ hx), fun q => P.zc (q ▸ hx)⟩
  · obtain ⟨i, ep', q1, q2⟩ := hz
    exact ⟨i, ep', q1, by omega⟩
end
theorem liS_tail {prog : Program} {w : World} {A : Around} {E : Value → Shared → Prop} {s : Shared} {l : Addr} {vs : List Value} {k : Int} {u : Tok} {v : Value} {Q : Value → Shared → Prop} {value slice : PySem.Expr}
    (hL : s.heap.IsList l vs.toArray) (h0 : 0 ≤ k) (hhi : k < 2 ^ 63) (hx : vs[k.toNat]? = some v) (h : Q v s)
    (hs : subscripted slice false (.ref l) (.int k u) = operate [.ref l, .int k u] (getItem (.ref l) (.int k u)) := by with_unfolding_all rfl) :
    wpAny (model prog w) A (subscriptTail value slice (.ref l) (.int k u)) Q E s :=
  tail_any hL.typeIs slot_list_getitem.lookup (wpAny_getItem_list hL h0 hhi (by simpa using hx) h) hs
structure RSt where
  its : Array Value
  ep : Nat
  es : List Ent
  R : List (Addr × Obj)
structure ISt where
  es : List Ent
  v : Value
  live : Bool
  m : Nat
  mt : Tok
  R : List (Addr × Obj)
theorem kb_of {h h' : Heap} (st : h.StaysIn h') : KeepsBut [] h h' := fun b o q _ => st _ _ q
theorem ints_snoc {vs : List Value} {ns : List Int} (h : IntsAre vs ns) (n : Int) (t : Tok) : IntsAre (vs ++ [.int n t]) (ns ++ [n]) := by
  induction h with
  | nil => exact .cons _ _ .nil
  | cons y u _ ih => exact .cons _ _ ih
theorem prs_find {es : List Ent} {e : Ent} (hn : (es.map (·.k)).Nodup) (he : e ∈ es) : (prs es).find? (fun p => decide (p.1 = e.k)) = some (e.k, e.x) := by
  unfold prs
  induction es with
  | nil => cases he
  | cons a r ih =>
    rw [List.map_cons, List.nodup_cons] at hn
    rcases List.mem_cons.mp he with h | h
    · subst h; simp
    · have : a.k ≠ e.k := fun q => hn.1 (q ▸ List.mem_map_of_mem h)
      rw [List.map_cons, List.find?_cons_of_neg (by simpa using this)]
      exact ih hn.2 h
theorem prs_none {es : List Ent} {k : Str} (h : k ∉ es.map (·.k)) : (prs es).find? (fun p => decide (p.1 = k)) = none := by
  rw [List.find?_eq_none]
  intro p hp
  obtain ⟨e, he, rfl⟩ := List.mem_map.mp hp
  have : e.k ≠ k := fun q => h (q ▸ List.mem_map_of_mem he)
  simpa using this
theorem prs_filter (es : List Ent) (k : Str) : prs (es.filter fun x => decide (x.k ≠ k)) = (prs es).filter fun q => decide (q.1 ≠ k) := by
  unfold prs
  rw [List.filter_map]; rfl
local macro_rules | `(tactic| k_all) => `(tactic| assumption)
theorem rounds_ok {w : World} {dp un : Nat} {fr : Option (List Env)} {gd : Option (List Code)} {s : Shared} {base : Heap} {mean : ExcName → Option Value} {mg mb : Str → Option Value} {Q E : Value → Shared → Prop} {V : Wd} {z : Nat} {a d tb : Addr} {es : List Ent}
    (X : (hd.heap_1 w.params).In base) (T : TP mean mg mb base) (st : base.StaysIn s.heap) (hdp : dp + 50 < recursionLimit) (hun : un + 500 < cLine)
    (hV : WdAt base s.heap V z) (H : Hsh w base s.heap a d tb es) (hdW : d ≠ V.cnt ∧ d ≠ V.cD ∧ d ≠ V.hp ∧ d ≠ V.lim ∧ d ≠ V.lD ∧ d ≠ V.zl ∧ d ≠ V.hD) (hsz : es.length ≤ 20) (hz : z ≤ 500)
    (hret : ∀ D h' tk' ys ep ns, KeepsBut [V.hD, d, V.zl] s.heap h' → (∃ o, h'.get? V.hD = some o ∧ HpD V.lim V.zl o) → (∃ o, h'.get? d = some o ∧ HaD tb o) → (∃ its ep, h'.get? V.zl = some (W.listOf its ep) ∧ its.size ≤ z + es.length) → s.heap.get? D = none → h'.get? D = some (W.listOf ys ep) → IntsAre ys.toList ns → ns.Perm ((roundsR (prs es)).map Int.ofNat) → ns.Pairwise (· ≤ ·) → Q (.ref D) { s with heap := h', toks := tk' }) :
    wpAny (model PySem.Challenge.rw_sz0091_01.row.prog w) (AA dp un fr gd) (call (.ref 558) [.ref V.cnt, .ref a]) Q E s := by
  obtain ⟨od, hd0, ho⟩ := H.hd
  obtain ⟨oc, hcD, hoc⟩ := hV.cD
  obtain ⟨oh, hhD, hoh⟩ := hV.hD
  obtain ⟨ol, hlD, hol⟩ := hV.lD
  obtain ⟨its, ep, hzl, hzs⟩ := hV.zl
  have nhd := neN hdW.2.2.2.2.2.2
  have hl0 := (Led.cons hd0 H.nd (.cons hhD hV.nhD (.cons hzl hV.nzl (.cons hV.cnt hV.ncnt (.cons hcD hV.ncD (.cons hV.hp hV.nhp (.cons hV.lim hV.nlim (.cons hlD hV.nlD .nil))))))))
  refine wpAny_call ?_
  k_dflt refine' enter0 X T st hl0 ?k6 ?k7 ?k8 ?k9 ?kB ?c2 ?c3 ?c4 ?c5 ?_
  case k6 => k_dflt k_is
  case k7 => k_dflt k_is
  case k8 => k_room
  case k9 => k_dflt first | exact BindsTo.of_eq rfl | exact binds_K (by k_in) rfl (by k_is) rfl rfl rfl
  case kB => exact locs rfl
  case c2 => exact rfl
  case c3 => exact rfl
  case c4 => exact rfl
  case c5 => decide
  intro g' L' h' hL' sg' G' gs' F' N' X' T'
  dsimp only
  k_fold
  repeat' (first | (k_unfold; (try dsimp only)) | (k_end; wrow_close) | ((fail_if_success (with_reducible show wpAny _ _ (call (Value.ref 378) _) _ _ _)); first | walk1 | (dsimp only; walk1) | (leave1; walk_say "STEP leave1"; try dsimp only)) | fail "no step")
  rename Fr _ _ _ _ => F9
  rename News _ _ _ _ => N9
  have st9 := stays_end hl0 G' F9 N9 (by first | ((repeat' (first | exact sub_nil | refine sub_cons ?_ ?_)); (all_goals (first | ((repeat (first | exact .head _ | refine .tail _ ?_)); done) | (refine Or.inr ?_; (repeat (first | exact .head _ | refine .tail _ ?_)); done) | (refine Or.inl ?_; (repeat (first | exact .head _ | refine .tail _ ?_)); done) | (apply Exists.intro; (repeat (first | exact .head _ | refine .tail _ ?_)); done) | (intro p hp; (repeat (first | exact hp | refine .tail _ ?_)); done))); done) | (trace "SUBFALL"; simp))
  have dL : ∀ x ∈ d :: V.all, x ≠ L' ∧ g'.get? x = none := sub_cons (P := fun x => x ≠ L' ∧ g'.get? x = none) (N9 _ (.head _)).2 (sub_cons (N9 _ (.tail _ (.head _))).2 (sub_cons (N9 _ (.tail _ (.tail _ (.head _)))).2 (sub_cons (N9 _ (.tail _ (.tail _ (.tail _ (.head _))))).2 (sub_cons (N9 _ (.tail _ (.tail _ (.tail _ (.tail _ (.head _)))))).2 (sub_cons (N9 _ (.tail _ (.tail _ (.tail _ (.tail _ (.tail _ (.head _))))))).2 (sub_cons (N9 _ (.tail _ (.tail _ (.tail _ (.tail _ (.tail _ (.tail _ (.head _)))))))).2 (sub_cons (N9 _ (.tail _ (.tail _ (.tail _ (.tail _ (.tail _ (.tail _ (.tail _ (.head _))))))))).2 sub_nil)))))))
  have hled : ∀ b, b ∉ d :: V.all → b ∉ ([(d, od), (V.hD, oh), (V.zl, W.listOf its ep), (V.cnt, instObj 482 V.cD), (V.cD, oc), (V.hp, instObj 225 V.hD), (V.lim, instObj 504 V.lD), (V.lD, ol)] : List (Addr × Obj)).map (·.1) := fun b hb q => hb q
  refine flat_ok X T (upG sg' F9) (by first | exact room2 (by assumption) (by decide) | exact room3 (by assumption) (by decide) | exact room1 (by assumption) (by decide) | (trace "DUFALL"; simp only [AA, Around.deeper, Around.in1]; omega)) (by first | exact room2 (by assumption) (by decide) | exact room3 (by assumption) (by decide) | exact room1 (by assumption) (by decide) | (trace "DUFALL"; simp only [AA, Around.deeper, Around.in1]; omega)) (H.up (S := []) (fun b o q _ => st9 _ _ q) (by simp) (by simp) (by simp) (by simp)) (by omega) ?_
  intro D h1 tk1 vs ep1 kb1 hD hDo hfl hd1
  obtain ⟨od1, hd1, ho1⟩ := hd1
  have F1 := backF F9 N9 kb1 (fun a ha => by rw [List.mem_singleton.mp ha]; exact ⟨_, (.head _)⟩)
  have N1 : News g' L' h1 [(D, _)] := addN F9 News.nil hDo hD
  have kbs1 : KeepsBut [d] s.heap h1 := fun b o q hb => kb1 _ _ (st9 _ _ q) hb
  have hT1 : Tab w base h1 tb es := H.tabBut fun b o q h3 h4 => kb1 _ _ (st9 _ _ q) (by simpa using h4)
  clear F9 N9
  dsimp only
  repeat' (first | (k_unfold; (try dsimp only)) | (k_end; wrow_close) | ((fail_if_success (with_reducible show wpAny _ _ (call (Value.ref 329) _) _ _ _)); first | walk1 | (dsimp only; walk1) | (leave1; walk_say "STEP leave1"; try dsimp only)) | fail "no step")
  refine pv_ok X T (upG sg' F1) (by first | exact room2 (by assumption) (by decide) | exact room3 (by assumption) (by decide) | exact room1 (by assumption) (by decide) | (trace "DUFALL"; simp only [AA, Around.deeper, Around.in1]; omega)) (by first | exact room2 (by assumption) (by decide) | exact room3 (by assumption) (by decide) | exact room1 (by assumption) (by decide) | (trace "DUFALL"; simp only [AA, Around.deeper, Around.in1]; omega)) ⟨_, (N1 _ (.head _)).1, rfl, ep1, rfl⟩ (flat_mem hT1 hfl fun _ h => h) ?_ ?_
  · rw [flatE_len]; omega
  intro D2 h2 tk2 ys ep2 st2 hD2 hD2o hys
  have kb2 : KeepsBut [] h1 h2 := fun b o q _ => st2 _ _ q
  have F2 := backF F1 N1 kb2 (by first | ((repeat' (first | exact sub_nil | refine sub_cons ?_ ?_)); (all_goals (first | ((repeat (first | exact .head _ | refine .tail _ ?_)); done) | (refine Or.inr ?_; (repeat (first | exact .head _ | refine .tail _ ?_)); done) | (refine Or.inl ?_; (repeat (first | exact .head _ | refine .tail _ ?_)); done) | (apply Exists.intro; (repeat (first | exact .head _ | refine .tail _ ?_)); done) | (intro p hp; (repeat (first | exact hp | refine .tail _ ?_)); done))); done) | (trace "SUBFALL"; simp))
  have N2 : News g' L' h2 [(D2, _)] := addN F1 News.nil hD2o hD2
  have kbs2 : KeepsBut [d] s.heap h2 := fun b o q hb => st2 _ _ (kbs1 _ _ q hb)
  have hd2 := st2 _ _ hd1
  clear F1 N1
  dsimp only
  repeat' (first | (k_unfold; (try dsimp only)) | (k_end; wrow_close) | ((fail_if_success (with_reducible show wpAny _ _ (call (Value.ref 530) _) _ _ _)); first | walk1 | (dsimp only; walk1) | (leave1; walk_say "STEP leave1"; try dsimp only)) | fail "no step")
  rename Fr _ _ _ _ => F5
  rename News _ _ _ _ => N5
  have hV5 := hV.up kbs2 (fun a ha => .inr (by rw [List.mem_singleton.mp ha]; exact ⟨hdW.1, hdW.2.1, hdW.2.2.1, hdW.2.2.2.1, hdW.2.2.2.2.1, hdW.2.2.2.2.2.1⟩)) ⟨oh, kbs2 _ _ hhD (notin1 hdW.2.2.2.2.2.2.symm), hoh⟩
  refine hash_ok (V := V) (z := z) (vs := ys.toList) (kvs := prs es) X T (upG sg' F5) (by first | exact room2 (by assumption) (by decide) | exact room3 (by assumption) (by decide) | exact room1 (by assumption) (by decide) | (trace "DUFALL"; simp only [AA, Around.deeper, Around.in1]; omega)) (by first | exact room2 (by assumption) (by decide) | exact room3 (by assumption) (by decide) | exact room1 (by assumption) (by decide) | (trace "DUFALL"; simp only [AA, Around.deeper, Around.in1]; omega)) hV5 ⟨_, (N5 _ (.head _)).1, rfl, ep2, rfl⟩ (by rw [prs, List.flatMap_map]; exact hys) ?_ (by rw [prs, List.length_map]; omega) ?_
  · rw [prs, List.map_map]; exact H.tab.nodup
  intro h6 tk6 la ld lt les kb6 hHD hH hes fa fd ft fes
  have kb6' : KeepsBut [V.hD, d] s.heap h6 := fun b o q hb => kb6 _ _ (kbs2 _ _ q (fun m => hb (.tail _ m))) (fun m => hb (by rw [List.mem_singleton.mp m]; exact .head _))
  have hd6 : h6.get? d = some od1 := kb6 _ _ hd2 (notin1 hdW.2.2.2.2.2.2)
  have hV6 : WdAt base h6 V z := hV5.up kb6 (fun a ha => .inl (List.mem_singleton.mp ha)) hHD
  have F6 := backA F5 kb6 (fun a ha => by rw [List.mem_singleton.mp ha]; exact dL V.hD (.tail _ (.head _)))
  have hlen : les.length = es.length := by simpa [prs] using congrArg List.length hes
  have hsep : RSep V d ld lt les := by
    have f : ∀ x, h2.get? x = none → ∀ y ∈ d :: V.all, x ≠ y := fun x hx y hy q => by
      subst q
      rcases List.mem_cons.mp hy with rfl | hy
      · rw [hd2] at hx; cases hx
      · obtain ⟨o, ho, _⟩ := Wd_led hV5 _ hy
        rw [ho] at hx; cases hx
    refine ⟨fun x hx => ?_, ?_⟩
    · have hx' : h2.get? x = none := by
        rcases hx with rfl | rfl | hx
        · exact fd
        · exact ft
        · obtain ⟨e, he, rfl⟩ := List.mem_map.mp hx
          exact (fes e he).2
      exact ⟨f x hx' _ (.tail _ (.tail _ (.head _))), fun hm => f x hx' x (Cs_all hm) rfl⟩
    · obtain ⟨oc, hcD, ⟨⟩⟩ := hV6.cD
      obtain ⟨oh, hhD, ⟨⟩⟩ := hV6.hD
      obtain ⟨ol, hlD, ⟨⟩⟩ := hV6.lD
      obtain ⟨i, e, hz6, _⟩ := hV6.zl
      simp only [Cs, List.mem_cons, List.not_mem_nil, or_false, not_or]
      exact ⟨hdW.2.2.2.2.2.1.symm, ne_cls hz6 hhD (by intro e; exact absurd (Value.type.inj e) (by decide)), ne_cls hz6 hV6.cnt (by intro e; cases e), ne_cls hz6 hcD (by intro e; exact absurd (Value.type.inj e) (by decide)), ne_cls hz6 hV6.hp (by intro e; cases e), ne_cls hz6 hV6.lim (by intro e; cases e), ne_cls hz6 hlD (by intro e; exact absurd (Value.type.inj e) (by decide))⟩
  obtain ⟨As, hAs1, hAs2, hAs3, hAs4, hAs5⟩ : ∃ As, AsOk g' L' As ∧ (∀ x ∈ V.all, x ∈ As) ∧ d ∈ As ∧ (∀ x ∈ hAs la ld lt les, x ∈ As) ∧ ∀ x ∈ As, ∃ o, h6.get? x = some o := by
    refine ⟨d :: V.all ++ hAs la ld lt les, fun x hx => ?_, fun x hx => List.mem_append_left _ (.tail _ hx), List.mem_append_left _ (.head _), fun x hx => List.mem_append_right _ hx, fun x hx => ?_⟩
    rotate_left
    · rcases List.mem_append.mp hx with hx | hx
      · rcases List.mem_cons.mp hx with rfl | hx
        · exact ⟨_, hd6⟩
        · obtain ⟨o, ho, _⟩ := Wd_led hV6 _ hx; exact ⟨o, ho⟩
      · simp only [hAs, List.mem_cons, List.mem_append, List.mem_map] at hx
        rcases hx with rfl | rfl | rfl | ⟨e, he, rfl⟩ | ⟨e, he, rfl⟩
        · exact ⟨_, hH.ha⟩
        · obtain ⟨o, ho, _⟩ := hH.hd; exact ⟨o, ho⟩
        · obtain ⟨o, ho, _⟩ := hH.tab.tbObj; exact ⟨o, ho⟩
        · exact ⟨_, hH.tab.sc e he⟩
        · obtain ⟨o, n, t, ho, _⟩ := hH.tab.sd e he; exact ⟨o, ho⟩
    rcases List.mem_append.mp hx with hx | hx
    · exact dL x hx
    · simp only [hAs, List.mem_cons, List.mem_append, List.mem_map] at hx
      rcases hx with rfl | rfl | rfl | ⟨e, he, rfl⟩ | ⟨e, he, rfl⟩
      · exact fresh_as F5 fa
      · exact fresh_as F5 fd
      · exact fresh_as F5 ft
      · exact fresh_as F5 (fes e he).1
      · exact fresh_as F5 (fes e he).2
  obtain ⟨R, hR⟩ : ∃ R, R = re h6 As := ⟨_, rfl⟩
  have N6 : News g' L' h6 R := hR ▸ re_news hAs1
  clear F5 N5
  dsimp only
  have hCs : ∀ x ∈ Cs V d, x ∈ As := Cs_sub hAs3 hAs2
  have hzA : V.zl ∈ As := hAs2 _ (.tail _ (.head _))
  have A6 : RAt w base h6 V d la ld lt les (z + es.length) h6 les := ⟨hH, fun x _ o q => q, (let ⟨i, e, q1, q2⟩ := hV6.zl; ⟨i, e, q1, by omega⟩), fun e he => he⟩
  repeat' (first | (k_unfold; (try dsimp only)) | (k_end; wrow_close) | ((fail_if_success (with_reducible show wpAny _ _ (exec (Stmt.While _ _ _ _) _) _ _ _)); first | walk1 | (dsimp only; walk1) | (leave1; walk_say "STEP leave1"; try dsimp only)) | fail "no step")
  rename_i fl hA l1 D2' hB l2 hC hDD hE F1 N1 tkA htkA
  have hfA : ∀ x ∈ As, x ≠ fl := fun x hx q => by
    obtain ⟨o, ho⟩ := hAs5 x hx
    have := l1 (x, o) (hR ▸ re_mem hx ho)
    subst q
    exact Nat.lt_irrefl _ this
  have hfl := new_of G' N1 (.tail _ (.head _)) ?hnot
  case hnot => intro hm; exact hfA fl (by
    rcases List.mem_cons.mp (show fl ∈ d :: V.all from hm) with hm | hm
    · exact hm ▸ hAs3
    · exact hAs2 _ hm) rfl
  have N2 : News g' L' hE ((fl, W.listOf #[] 0) :: R) := fun p hp => N1 p (.tail _ hp)
  have hpl : (prs es).length = es.length := by simp [prs]
  have hpe : prs les = prs es := hes
  refine while_T (σ := RSt) (fun c => (fl, W.listOf c.its c.ep) :: c.R) (fun c => []) ["here", "many"]
    (fun c => (∃ h, c.R = re h As ∧ RAt w base h6 V d la ld lt les (z + es.length) h c.es) ∧ ∃ acc : List Nat, IntsAre c.its.toList (acc.map Int.ofNat) ∧ acc ++ roundsR (prs c.es) = roundsR (prs es) ∧ c.es.length ≤ 20) (fun c => c.es.length) ⟨#[], 0, les, R⟩ F1 N2 ?hk ?hp 0 (Nat.zero_le _) ?turn
  case hk => intro p hp; cases hp
  case hp => exact ⟨⟨h6, hR, A6⟩, [], .nil, (by rw [hpe]; rfl), by dsimp only; omega⟩
  case turn =>
    rintro ⟨its, ep, es', R'⟩ u h3 tk3 htk3 ⟨⟨h', hR', A'⟩, acc, hacc, htot, hes'⟩ F3 N3
    dsimp only at hR' A' hacc htot hes' F3 N3
    have A3 := A'.on (re_on N3 fun p hp => .tail _ (hR' ▸ hp)) hAs4 hCs hzA
    have hRf : ∀ p ∈ R', p.1 ≠ fl := fun p hp => hfA _ (re_get (hR' ▸ hp)).2
    clear F1 N1 N2 l1 l2
    repeat' (first | (k_unfold; (try dsimp only)) | (k_end; wrow_close) | ((fail_if_success (with_reducible show wpAny _ _ (call (Value.ref 371) _) _ _ _)); first | walk1 | (dsimp only; walk1) | (leave1; walk_say "STEP leave1"; try dsimp only)) | fail "no step")
    refine count_ok X T (upG sg' F3) (by first | exact room2 (by assumption) (by decide) | exact room3 (by assumption) (by decide) | exact room1 (by assumption) (by decide) | (trace "DUFALL"; simp only [AA, Around.deeper, Around.in1]; omega)) (by first | exact room2 (by assumption) (by decide) | exact room3 (by assumption) (by decide) | exact room1 (by assumption) (by decide) | (trace "DUFALL"; simp only [AA, Around.deeper, Around.in1]; omega)) A3.hsh (by omega) ?_
    intro h4 tk4 u4 st4
    have F4 := backA F3 (kb_of st4) sub_nil
    have N4 : News g' L' h4 ((fl, W.listOf its ep) :: R') := fun p hp => ⟨st4 _ _ (N3 p hp).1, (N3 p hp).2⟩
    have A4 := A3.on (As := As) (fun x _ o q => st4 _ _ q) hAs4 hCs hzA
    clear F3 N3
    dsimp only at F4 N4 A4 ⊢
    have hal : acc.length ≤ 20 := by
      have h1 := congrArg List.length htot
      have h2 := roundsF_len (prs es).length (prs es)
      rw [List.length_append] at h1
      have h3 : (roundsR (prs es)).length ≤ (prs es).length := h2
      omega
    have hil := IntsAre.length hacc
    rw [List.length_map, Array.length_toList] at hil
    repeat' (first | (k_unfold; (try dsimp only)) | (k_end; wrow_close) | ((fail_if_success (with_reducible show wpAny _ _ (call (Value.ref 364) _) _ _ _)); (fail_if_success (with_reducible show wpAny _ _ (call (Value.builtin "sorted") _) _ _ _)); first | walk1 | (dsimp only; walk1) | (leave1; walk_say "STEP leave1"; try dsimp only)) | fail "no step")
    · rename (0 : Int) < _ => hpos
      cases es' with
      | nil => exact absurd hpos (by simp)
      | cons e0 r0 =>
      refine keys_ok X T (upG sg' F4) (by first | exact room2 (by assumption) (by decide) | exact room3 (by assumption) (by decide) | exact room1 (by assumption) (by decide) | (trace "DUFALL"; simp only [AA, Around.deeper, Around.in1]; omega)) (by first | exact room2 (by assumption) (by decide) | exact room3 (by assumption) (by decide) | exact room1 (by assumption) (by decide) | (trace "DUFALL"; simp only [AA, Around.deeper, Around.in1]; omega)) A4.hsh (by omega) ?_
      intro D5 h5 tk5 ys5 ep5 kb5 hD5 hD5o hys5 hd5
      have hld : ld ∈ As := hAs4 _ (.tail _ (.head _))
      have F5 := backA F4 kb5 (fun a ha => by rw [List.mem_singleton.mp ha]; exact hAs1 _ hld)
      have A5 := A4.keys hsep kb5 hd5
      obtain ⟨R5, hR5⟩ : ∃ R, R = re h5 As := ⟨_, rfl⟩
      have N5 : News g' L' h5 ((fl, W.listOf its ep) :: R5) := newsC (fun p hp => by
        rw [List.mem_singleton.mp hp]
        exact ⟨kb5 _ _ (N4 _ (.head _)).1 (notin1 (hfA _ hld).symm), (N4 _ (.head _)).2⟩) (hR5 ▸ re_news hAs1)
      generalize hv5 : ys5.toList = l5 at hys5
      rw [List.map_cons] at hys5
      cases hys5 with | cons _ t5 hys5 =>
      clear F4 N4
      dsimp only
      repeat' (first | (k_unfold; (try dsimp only)) | (k_end; wrow_close) | ((fail_if_success (with_reducible show wpAny _ _ (subscriptTail _ _ (Value.ref _) (Value.int _ _)) _ _ _)); first | walk1 | (dsimp only; walk1) | (leave1; walk_say "STEP leave1"; try dsimp only)) | fail "no step")
      refine liS_tail (vs := ys5.toList) ⟨_, hD5o, rfl, ep5, by simp⟩ (by decide) (by decide) (by rw [hv5]; rfl) ?_
      repeat' (first | (k_unfold; (try dsimp only)) | (k_end; wrow_close) | ((fail_if_success (with_reducible show wpAny _ _ (exec (Stmt.While _ _ _ _) _) _ _ _)); first | walk1 | (dsimp only; walk1) | (leave1; walk_say "STEP leave1"; try dsimp only)) | fail "no step")
      rename Fr _ _ _ _ => F7
      rename News _ _ _ _ => N7
      have N7' : News g' L' _ ((fl, W.listOf its ep) :: R5) := fun p hp => N7 p (.tail _ hp)
      obtain ⟨T9, hT9⟩ : ∃ T, T = chaseR (prs (e0 :: r0)) e0.k 0 := ⟨_, rfl⟩
      refine' while_T (σ := ISt) (fun c => (fl, W.listOf its ep) :: c.R) (fun c => [("here", c.v), ("many", .int c.m c.mt)]) []
        (fun c => (∃ h, c.R = re h As ∧ RAt w base h6 V d la ld lt les (z + es.length) h c.es) ∧ c.es.length ≤ 20 ∧ ((c.v = .none ∧ c.live = false ∧ (prs c.es, c.m) = T9) ∨ ∃ k t, c.v = .str k t ∧ c.live = true ∧ chaseR (prs c.es) k c.m = T9)) (fun c => if c.live then c.es.length + 1 else 0)
        ⟨e0 :: r0, .str e0.k t5, true, 0, _, R5⟩ F7 N7' ?hk2 ?hp2 0 (Nat.zero_le _) ?turn2
      case hk2 =>
        intro p hp
        rcases List.mem_cons.mp hp with rfl | hp
        · exact rfl
        · rw [List.mem_singleton.mp hp]; exact rfl
      case hp2 => exact ⟨⟨h5, hR5, A5⟩, hes', .inr ⟨_, _, rfl, rfl, hT9.symm⟩⟩
      case turn2 =>
        rintro ⟨es2, v, live, m, mt, R2⟩ u2 h7 tk7 htk7 ⟨⟨h8, hR8, A8⟩, hl2, hv⟩ F8 N8
        dsimp only at hR8 A8 hl2 hv F8 N8
        have A9 := A8.on (re_on N8 fun p hp => .tail _ (hR8 ▸ hp)) hAs4 hCs hzA
        have hRf2 : ∀ p ∈ R2, p.1 ≠ fl := fun p hp => hfA _ (re_get (hR8 ▸ hp)).2
        clear F7 N7 N7'
        rcases hv with ⟨rfl, rfl, hT⟩ | ⟨k, t, rfl, rfl, hT⟩
        · repeat' (first | (k_unfold; (try dsimp only)) | (k_end; wrow_close) | (first | walk1 | (dsimp only; walk1) | (leave1; walk_say "STEP leave1"; try dsimp only)) | fail "no step")
          rename Fr _ _ _ _ => F10
          rename News _ _ _ _ => N10
          have hm1 : 1 ≤ m := by
            have := chaseR_pos (prs (e0 :: r0)) e0.k 0
            rw [← hT9, ← hT] at this; exact this
          have hl9 : (prs es2).length < (prs (e0 :: r0)).length := by
            have := chaseR_lt (e0.k, e0.x) (prs r0) 0
            have e1 : (e0.k, e0.x) :: prs r0 = prs (e0 :: r0) := rfl
            rw [e1, ← hT9, ← hT] at this
            exact this
          refine' ksw_end ⟨_, _, es2, R2⟩ F10 N10 (fun p hp => hp) trivial ?_ ?_ ⟨⟨h8, hR8, A8⟩, acc ++ [m - 1], ?_, ?_, hl2⟩ ?_
          · intro p hp; cases hp
          · intro z h1 h2
            have e1 : z ≠ Str.ofString "here" := by intro e; subst e; exact absurd h2 (by decide)
            have e2 : z ≠ Str.ofString "many" := by intro e; subst e; exact absurd h2 (by decide)
            simp only [kstB, if_neg e1, if_neg e2, h2, Bool.false_eq_true, if_false]
            simp
          · show IntsAre (List.concat its.toList _) _
            rw [List.concat_eq_append, List.map_append]
            have e1 : (m : Int) - 1 = Int.ofNat (m - 1) := by
              show (m : Int) - 1 = ((m - 1 : Nat) : Int)
              omega
            rw [e1]
            exact ints_snoc hacc _ _
          · dsimp only
            rw [← htot]
            have e1 : prs (e0 :: r0) = (e0.k, e0.x) :: prs r0 := rfl
            rw [e1, roundsR_cons, ← e1, ← hT9, ← hT, List.append_assoc]; rfl
          · simpa [prs] using hl9
        · repeat' (first | (k_unfold; (try dsimp only)) | (k_end; wrow_close) | ((fail_if_success (with_reducible show wpAny _ _ (call (Value.ref 350) _) _ _ _)); first | walk1 | (dsimp only; walk1) | (leave1; walk_say "STEP leave1"; try dsimp only)) | fail "no step")
          have hzl2 := A9.zl
          by_cases hk : k ∈ es2.map (·.k)
          · obtain ⟨e, he, rfl⟩ := List.mem_map.mp hk
            have s1 := hsep.sep ld (.inl rfl)
            have s2 := hsep.sep lt (.inr (.inl rfl))
            have s3 := hsep.sep e.sd (.inr (.inr (List.mem_map_of_mem (A9.sub e he))))
            have c1 : V.cD ∈ Cs V d := (.tail _ (.tail _ (.tail _ (.head _))))
            have c2 : V.hD ∈ Cs V d := (.tail _ (.head _))
            refine del_ok (V := V) (z := z + es.length - es2.length) X T (upG sg' F8) (by first | exact room2 (by assumption) (by decide) | exact room3 (by assumption) (by decide) | exact room1 (by assumption) (by decide) | (trace "DUFALL"; simp only [AA, Around.deeper, Around.in1]; omega)) (by first | exact room2 (by assumption) (by decide) | exact room3 (by assumption) (by decide) | exact room1 (by assumption) (by decide) | (trace "DUFALL"; simp only [AA, Around.deeper, Around.in1]; omega)) (A9.wd hV6) (by omega) A9.hsh he (by omega) (fun q => s1.2 (q ▸ c1)) (fun q => s1.2 (q ▸ c2)) (fun q => s2.2 (q ▸ c1)) (fun q => s2.2 (q ▸ c2)) (fun q => s3.2 (q ▸ c1)) (fun q => s3.2 (q ▸ c2)) ?_
            intro h11 tk11 u11 kb11 hz11 hd11
            have A11 := A9.del hsep he kb11 hz11 hd11
            have i1 : lt ∈ As := hAs4 _ (.tail _ (.tail _ (.head _)))
            have i2 : e.sd ∈ As := hAs4 _ (by simp only [hAs, List.mem_cons, List.mem_append]; exact .inr (.inr (.inr (.inr (List.mem_map_of_mem (A9.sub e he))))))
            have F11 := backA F8 kb11 (fun a ha => by
              simp only [List.mem_cons, List.not_mem_nil, or_false] at ha
              rcases ha with rfl | rfl | rfl
              · exact hAs1 _ i1
              · exact hAs1 _ i2
              · exact hAs1 _ hzA)
            obtain ⟨R11, hR11⟩ : ∃ R, R = re h11 As := ⟨_, rfl⟩
            have N11 : News g' L' h11 ((fl, W.listOf its ep) :: R11) := newsC (fun p hp => by
              rw [List.mem_singleton.mp hp]
              exact ⟨kb11 _ _ (N8 _ (.head _)).1 (notin3 (hfA _ i1).symm (hfA _ i2).symm (hfA _ hzA).symm), (N8 _ (.head _)).2⟩) (hR11 ▸ re_news hAs1)
            clear F8 N8
            dsimp only
            repeat' (first | (k_unfold; (try dsimp only)) | (k_end; wrow_close) | (first | walk1 | (dsimp only; walk1) | (leave1; walk_say "STEP leave1"; try dsimp only)) | fail "no step")
            rename Fr _ _ _ _ => F12
            rename News _ _ _ _ => N12
            refine' ksw_end ⟨es2.filter fun x => decide (x.k ≠ e.k), .str e.x u11, true, m + 1, tk11 + 1, R11⟩ F12 N12 (fun p hp => .tail _ hp) trivial ?_ ?_ ⟨⟨h11, hR11, A11⟩, Nat.le_trans (List.length_filter_le _ _) hl2, .inr ⟨_, _, rfl, rfl, ?_⟩⟩ ?_
            · intro p hp
              rcases List.mem_cons.mp hp with rfl | hp
              · exact rfl
              · rw [List.mem_singleton.mp hp]; exact rfl
            · intro z h1 h2
              have e1 : z ≠ Str.ofString "here" := h1 _ (.head _)
              have e2 : z ≠ Str.ofString "many" := h1 _ (.tail _ (.head _))
              first | exact (if_neg e1).trans ((if_neg e2).trans rfl) | (trace "KSTFALL"; simp only [kstB, if_neg e1, if_neg e2]; simp)
            · rw [prs_filter, ← chaseR_some (prs_find A9.hsh.tab.nodup he)]; exact hT
            · have := strike_lt (List.mem_of_find?_eq_some (prs_find A9.hsh.tab.nodup he))
              rw [← prs_filter] at this
              simp only [prs, List.length_map] at this
              simp only [if_true]
              omega
          · refine del_no X T (upG sg' F8) (by first | exact room2 (by assumption) (by decide) | exact room3 (by assumption) (by decide) | exact room1 (by assumption) (by decide) | (trace "DUFALL"; simp only [AA, Around.deeper, Around.in1]; omega)) (by first | exact room2 (by assumption) (by decide) | exact room3 (by assumption) (by decide) | exact room1 (by assumption) (by decide) | (trace "DUFALL"; simp only [AA, Around.deeper, Around.in1]; omega)) A9.hsh hk ?_
            intro h11 tk11 st11
            have A11 := A9.on (As := As) (fun x _ o q => st11 _ _ q) hAs4 hCs hzA
            have F11 := backA F8 (kb_of st11) sub_nil
            obtain ⟨R11, hR11⟩ : ∃ R, R = re h11 As := ⟨_, rfl⟩
            have N11 : News g' L' h11 ((fl, W.listOf its ep) :: R11) := newsC (fun p hp => by
              rw [List.mem_singleton.mp hp]
              exact ⟨st11 _ _ (N8 _ (.head _)).1, (N8 _ (.head _)).2⟩) (hR11 ▸ re_news hAs1)
            clear F8 N8
            dsimp only
            repeat' (first | (k_unfold; (try dsimp only)) | (k_end; wrow_close) | (first | walk1 | (dsimp only; walk1) | (leave1; walk_say "STEP leave1"; try dsimp only)) | fail "no step")
            rename Fr _ _ _ _ => F12
            rename News _ _ _ _ => N12
            refine' ksw_end ⟨es2, .none, false, m + 1, tk11 + 1, R11⟩ F12 N12 (fun p hp => .tail _ hp) trivial ?_ ?_ ⟨⟨h11, hR11, A11⟩, hl2, .inl ⟨rfl, rfl, ?_⟩⟩ ?_
            · intro p hp
              rcases List.mem_cons.mp hp with rfl | hp
              · exact rfl
              · rw [List.mem_singleton.mp hp]; exact rfl
            · intro z h1 h2
              have e1 : z ≠ Str.ofString "here" := h1 _ (.head _)
              have e2 : z ≠ Str.ofString "many" := h1 _ (.tail _ (.head _))
              first | exact (if_neg e1).trans ((if_neg e2).trans rfl) | (trace "KSTFALL"; simp only [kstB, if_neg e1, if_neg e2]; simp)
            · rw [← hT, chaseR_none (prs_none hk)]
            · simp
    · rename ¬ (0 : Int) < _ => hpos
      have : es' = [] := by
        cases es' with
        | nil => rfl
        | cons => exact absurd (show (0 : Int) < _ by simp) hpos
      subst this
      rename Fr _ _ _ _ => F8
      rename News _ _ _ _ => N8
      refine kso_sorted F8 N8 ⟨_, (N8 _ (.head _)).1, rfl, ep, by simp⟩ hacc (by rw [List.length_map]; omega) ?_
      intro D9 vs9 ns9 c9 h9 F9 N9 l9 hi9 hl9 hp9 hw9 _
      dsimp only
      try k_unfold
      have hm : acc = roundsR (prs es) := by rw [← htot]; simp [roundsR, roundsF, prs]
      have A9 := A'.on (re_on N9 fun p hp => .tail _ (.tail _ (hR' ▸ hp))) hAs4 hCs hzA
      have hex : ∀ x ∈ d :: V.all, ∃ o, (x, o) ∈ R' := fun x hx => by
        have hxA : x ∈ As := by
          rcases List.mem_cons.mp hx with h | h
          · exact h ▸ hAs3
          · exact hAs2 _ h
        by_cases hz : x = V.zl
        · obtain ⟨i, e, q, _⟩ := A'.zl
          exact ⟨_, hR' ▸ re_mem hxA (hz ▸ q)⟩
        · obtain ⟨o, ho⟩ := hAs5 x hxA
          exact ⟨o, hR' ▸ re_mem hxA (A'.con x (Cs_of hx hz) o ho)⟩
      refine hret D9 _ _ vs9.toArray c9 ns9 ?_ ?_ ⟨od1, A9.con _ (.head _) _ hd6, ho1⟩ ?_ ?_ (N9 _ (.head _)).1 (by simpa using hi9) (hm ▸ hp9) hw9
      · intro b o q hb
        by_cases hb2 : b ∈ d :: V.all
        · refine A9.con b (Cs_of hb2 fun e => hb (by rw [e]; exact (.tail _ (.tail _ (.head _))))) o (kb6' b o q fun m => hb ?_)
          rcases List.mem_cons.mp m with m | m
          · rw [m]; exact (.head _)
          · rw [List.mem_singleton.mp m]; exact (.tail _ (.head _))
        · exact F9.keep b o (G' b o q (hled b hb2))
      · obtain ⟨o, q, r⟩ := hHD
        exact ⟨o, A9.con _ (.tail _ (.head _)) _ q, r⟩
      · obtain ⟨i, e, q, r⟩ := A9.zl
        exact ⟨i, e, q, by simpa using r⟩
      · refine new_of G' N9 (.head _) (hled D9 fun hx => ?_)
        obtain ⟨o, ho⟩ := hex D9 hx
        exact Nat.lt_irrefl _ (l9 _ (.tail _ ho))
end
section
theorem ch_lt {i j : Nat} : ((ch i).cps.toList < (ch j).cps.toList) ↔ i < j := by
  show ([97 + i] : List Nat) < [97 + j] ↔ i < j
  rw [List.cons_lt_cons_iff]
  constructor
  · rintro (h | ⟨_, h⟩)
    · omega
    · exact absurd h (List.not_lt_nil _)
  · intro h; left; omega
theorem cmp_ok {w : World} {dp un : Nat} {fr : Option (List Env)} {gd : Option (List Code)} {s : Shared} {base : Heap} {mean : ExcName → Option Value} {mg mb : Str → Option Value} {Q E : Value → Shared → Prop} {i j : Nat} {t u : Tok}
    (X : (hd.heap_1 w.params).In base) (T : TP mean mg mb base) (st : base.StaysIn s.heap) (hdp : dp + 20 < recursionLimit) (hun : un + 200 < cLine)
    (hret : ∀ h' tk' (c : Int) v, s.heap.StaysIn h' → (0 < c ↔ j < i) → Q (.int c v) { s with heap := h', toks := tk' }) :
    wpAny (model PySem.Challenge.rw_sz0091_01.row.prog w) (AA dp un fr gd) (call (.ref 271) [.str (ch i) t, .str (ch j) u]) Q E s := by
  have hl0 := (Led.nil (h := s.heap) (base := base))
  refine wpAny_call ?_
  k_dflt refine' enter0 X T st hl0 ?k6 ?k7 ?k8 ?k9 ?kB ?c2 ?c3 ?c4 ?c5 ?_
  case k6 => k_dflt k_is
  case k7 => k_dflt k_is
  case k8 => k_room
  case k9 => k_dflt first | exact BindsTo.of_eq rfl | exact binds_K (by k_in) rfl (by k_is) rfl rfl rfl
  case kB => exact locs rfl
  case c2 => exact rfl
  case c3 => exact rfl
  case c4 => exact rfl
  case c5 => decide
  intro g' L' h' hL' sg' G' gs' F' N' X' T'
  dsimp only
  k_fold
  repeat' (first | (k_unfold; (try dsimp only)) | (k_end; wrow_close) | (first | walk1 | (dsimp only; walk1) | (leave1; walk_say "STEP leave1"; try dsimp only)) | fail "no step")
  all_goals
    rename Fr g' L' _ _ => F9
    rename News g' L' _ _ => N9
    (try dsimp only)
    (try k_unfold)
    (try dsimp only)
    refine hret _ _ _ _ (stays_end hl0 G' F9 N9 (fun _ h => nomatch h)) ?_
  · rename (_ < _) => h1
    rw [ch_lt] at h1
    constructor
    · intro h; exact absurd h (by decide)
    · intro h; omega
  · rename (_ < _) => h1
    rw [ch_lt] at h1
    exact ⟨fun _ => h1, fun _ => by decide⟩
  · rename ¬ ((ch j).cps.toList < (ch i).cps.toList) => h1
    rw [ch_lt] at h1
    exact ⟨fun h => absurd h (by decide), fun h => absurd h h1⟩
def TStep (h₀ : Heap) (L I : Addr) (oI : Obj) (Jn : (Str → Option Value) → List (Addr × Obj) → Prop) (s₁ : Shared) (f : Flow) (s₂ : Shared) : Prop :=
  f = .next ∧ ∃ h' tk m' news', s₂ = { s₁ with heap := h', toks := tk } ∧ Fr h₀ L h' m' ∧ News h₀ L h' ((I, oI) :: news') ∧ (∀ p ∈ news', p.1 ≠ I) ∧ Jn m' news'
theorem TStep.mk {h₀ : Heap} {L I : Addr} {oI : Obj} {Jn : (Str → Option Value) → List (Addr × Obj) → Prop} {s₁ : Shared} {h' : Heap} {tk : Nat} {m' : Str → Option Value} {nE : List (Addr × Obj)} (news' : List (Addr × Obj))
    (F : Fr h₀ L h' m') (N : News h₀ L h' nE) (hs : ∀ p ∈ (I, oI) :: news', p ∈ nE) (hn : ∀ p ∈ news', p.1 ≠ I) (hJ : Jn m' news') : TStep h₀ L I oI Jn s₁ .next { s₁ with heap := h', toks := tk } := ⟨rfl, h', tk, m', news', rfl, F, fun p hp => N p (hs p hp), hn, hJ⟩
section
variable {prog : Program} {w : World} {A : Around} {E : Value → Shared → Prop} {s : Shared} {env : Env} {h₀ : Heap} {body : List Stmt} {Q : Flow → Shared → Prop}
theorem for_rangeT {σ : Type} {x : Str} {px : Pos} {r : Addr} {a₀ b₀ c₀ : Int} {t₀ u₀ v₀ : Tok} {n : Nat} {m₀ : Str → Option Value} {news : List (Addr × Obj)}
    (hh : A.handled = none) (hr : IsRange s.heap r a₀ b₀ c₀ t₀ u₀ v₀) (hsmall : Builtin.Range.small a₀ b₀ c₀ = true) (hn : Builtin.Range.rangeSize a₀ b₀ c₀ = (n : Int)) (F : Fr h₀ env.locals s.heap m₀) (N : News h₀ env.locals s.heap news)
    (ps : σ → List (Str × Value)) (P : Nat → σ → List (Addr × Obj) → Prop) (z : σ) (hp : P 0 z news) (hk : ∀ p ∈ ps z, m₀ p.1 = some p.2)
    (turn : ∀ (i : Nat) t (c : σ) news₁ (s₁ : Shared) I oI, i < n → P i c news₁ → Fr h₀ env.locals s₁.heap (kstB m₀ (ps c)) → News h₀ env.locals s₁.heap ((I, oI) :: news₁) → (∀ p ∈ news₁, p.1 ≠ I) →
      wpAny (model prog w) A (assign (.Name x px) env (.int (a₀ + i * c₀) t)) (fun _ s₃ => wpAny (model prog w) A (execs body env) (TStep h₀ env.locals I oI (fun m' news' => ∃ c', P (i + 1) c' news' ∧ (∀ p ∈ ps c', m' p.1 = some p.2) ∧ ∀ y, (∀ p ∈ ps c', y ≠ p.1) → m' y = m₀ y) s₁) E s₃) E s₁)
    (done : ∀ (c : σ) news₁ h tk, P n c news₁ → Fr h₀ env.locals h (kstB m₀ (ps c)) → News h₀ env.locals h news₁ → Q .next { s with heap := h, toks := tk }) :
    wpAny (model prog w) A (pyIter (.ref r)) (fun it s₂ => LoopAtT prog w A h₀ env (.Name x px) body Q E it s₂) E s := by
  have hmap : ∀ {m₁ : Str → Option Value} {c : σ}, (∀ p ∈ ps c, m₁ p.1 = some p.2) → (∀ y, (∀ p ∈ ps c, y ≠ p.1) → m₁ y = m₀ y) → m₁ = kstB m₀ (ps c) := fun {m₁ c} h1 h2 => by
    funext y
    exact (kstB_eq h1 fun hn => (h2 y hn).symm).symm
  refine wpAny_pyIter_range hr hsmall ?_
  have W := Walks.range (prog := prog) (w := w) hh s.heap.objs.size a₀ c₀ n
  refine ⟨s.heap.objs.size, [s.heap.objs.size], [s.heap.objs.size], n, _, _, m₀, news, (fun i m news => ∃ c, P i c news ∧ (∀ p ∈ ps c, m p.1 = some p.2) ∧ ∀ y, (∀ p ∈ ps c, y ≠ p.1) → m y = m₀ y), rfl, W, ?_, ?_, ?_, (by show IsRangeIter _ _ _ _ _; rw [hn]; simpa using Heap.get?_push_size _ rfl), F.push _, (fun p hp => ⟨Heap.get?_push_of_some _ (N p hp).1, (N p hp).2⟩), ?_, ⟨z, hp, hk, fun _ _ => rfl⟩, ?_, ?_⟩
  · intro hm; exact absurd F.ns.lt ((List.mem_singleton.mp hm) ▸ Nat.lt_irrefl _)
  · intro b hb; rw [List.mem_singleton.mp hb]; exact next_is_new F
  · intro p hp e; exact absurd (Heap.lt_size (N p hp).1) ((List.mem_singleton.mp e) ▸ Nat.lt_irrefl _)
  · intro i s' v Q' _ hQ
    have e : letOwnedTupleGo (.Name x px) (.ref s.heap.objs.size) v = pure () := by with_unfolding_all rfl
    rw [e]; exact wpAny_pure hQ
  · rintro i v m₁ news₁ s₁ own hin ⟨t, rfl⟩ ⟨c, hP, h1, h2⟩ hoff hown hget hall hst F₁ N₁
    obtain ⟨oI, hoI⟩ : ∃ o, s₁.heap.get? s.heap.objs.size = some o := ⟨_, hst⟩
    have hio : (s.heap.objs.size, oI) ∈ own := hall _ (by simp) (next_is_new F) oI hoI
    have hone := own_one hown (fun b hb => .inl (List.mem_singleton.mp hb)) hoI N₁
    have hoff' : ∀ p ∈ news₁, p.1 ≠ s.heap.objs.size := fun p hp e => hoff p hp (List.mem_singleton.mpr e)
    rw [hmap h1 h2] at F₁
    refine wpAny_mono (turn i t c news₁ s₁ s.heap.objs.size oI hin hP F₁ (news_one hio N₁) hoff') (fun _ s₃ q => wpAny_mono q (fun f s₂ p => ?_) fun _ _ e => e) fun _ _ e => e
    obtain ⟨rfl, h', tk, m', news', e, F', N', hn', hm⟩ := p
    refine ⟨rfl, h', tk, m', news', e, F', fun p hp => ?_, fun p hp hI => hn' p hp (List.mem_singleton.mp hI), hm⟩
    rcases List.mem_append.mp hp with q | q
    · rw [hone p q]; exact N' _ (.head _)
    · exact N' _ (.tail _ q)
  · rintro h' tk m' news' F' N' _ ⟨c, hP, h1, h2⟩
    rw [hmap h1 h2] at F'
    exact done c news' h' tk hP F' N'
end
end
section
local macro_rules | `(tactic| walk_at "eval Name") => `(tactic| (k_here; k_inBlock; k_dflt (first
  | (refine wpAny_Name (wpAny_loadName_local (by exact rfl) (by exact rfl) (Fr.ns (by k_asm)) (by assumption) ?_) (by decide))
  | (refine wpAny_Name (wpAny_loadName_cell (by exact rfl) (by exact rfl) (by exact rfl) ⟨_, News.get (by k_asm) (by k_mem), by k_asm⟩ ?_) (by decide)))))
local macro_rules | `(tactic| walk_at "call builtin:len") => `(tactic| (k_here; (with_reducible show wpAny _ _ (call (Value.builtin "len") [Value.ref _]) _ _ _); k_dflt (refine len_G (by k_asm) (by assumption) (by omega) ?_); intro nLen hnLen))
def below (k : Nat) (v : Value) : Bool := match v with | .str x _ => decide (x.cps.toList < (ch k).cps.toList) | _ => false
theorem hideQ {α : Type} {M : Model} {A : Around} {t : Sem α} {Q : α → Shared → Prop} {E : Value → Shared → Prop} {s : Shared} (h : ∀ Qc : α → Shared → Prop, (∀ v s', Q v s' → Qc v s') → wpAny M A t Qc E s) : wpAny M A t Q E s := h Q fun _ _ h => h
theorem paired_len {R : Value → Value → Prop} {a b : List Value} (h : Paired R a b) : a.length = b.length := by
  induction h with
  | nil => rfl
  | cons _ _ ih => rw [List.length_cons, List.length_cons, ih]
theorem strs_drop {vs : List Value} {xs : List Str} (h : StrsAre vs xs) : ∀ n, StrsAre (vs.drop n) (xs.drop n) := by
  induction h with
  | nil => intro n; rw [List.drop_nil, List.drop_nil]; exact .nil
  | cons y t hh ih =>
    intro n
    cases n with
    | zero => exact .cons y t hh
    | succ m => exact ih m
theorem below_len {k : Nat} : ∀ {l : List Nat} {vs : List Value}, StrsAre vs (l.map ch) → (vs.filter (below k)).length = (l.filter (· < k)).length
  | [], _, h => by cases h; rfl
  | a :: r, _, h => by
    rw [List.map_cons] at h
    cases h with | cons _ t h =>
    have ih := below_len (k := k) h
    have e : below k (.str (ch a) t) = decide (a < k) := by
      show decide _ = decide _
      rw [decide_eq_decide]; exact ch_lt
    rw [List.filter_cons, List.filter_cons, e]
    split <;> simp [ih]
theorem inv_drop {l : List Nat} {i k : Nat} (h : l[i]? = some k) : inv (l.drop i) = ((l.drop (i + 1)).filter (· < k)).length + inv (l.drop (i + 1)) := by
  obtain ⟨hi, rfl⟩ := List.getElem?_eq_some_iff.mp h
  rw [List.drop_eq_getElem_cons hi]; rfl
theorem mod_odd (m : Nat) : ((m : Int).fmod 2 == 1) = decide (m % 2 = 1) := by
  have e : (m : Int).fmod 2 = ((m % 2 : Nat) : Int) := by rw [Int.fmod_eq_emod_of_nonneg _ (by decide)]; rfl
  rw [e]
  by_cases h : m % 2 = 1
  · simp [h]
  · have : m % 2 = 0 := by omega
    simp [this]
theorem odd_ok {w : World} {dp un : Nat} {fr : Option (List Env)} {gd : Option (List Code)} {s : Shared} {base : Heap} {mean : ExcName → Option Value} {mg mb : Str → Option Value} {Q E : Value → Shared → Prop} {gl : Addr} {vs : List Value} {l : List Nat}
    (X : (hd.heap_1 w.params).In base) (T : TP mean mg mb base) (st : base.StaysIn s.heap) (hdp : dp + 40 < recursionLimit) (hun : un + 400 < cLine)
    (hgl : s.heap.IsList gl vs.toArray) (hvs : StrsAre vs (l.map ch)) (hsz : l.length ≤ 1000)
    (hret : ∀ h' tk', s.heap.StaysIn h' → Q (.bool (decide (inv l % 2 = 1))) { s with heap := h', toks := tk' }) :
    wpAny (model PySem.Challenge.rw_sz0091_01.row.prog w) (AA dp un fr gd) (call (.ref 563) [.ref gl]) Q E s := by
  have hl0 := Led.nil (h := s.heap) (base := base)
  refine wpAny_call ?_
  k_dflt refine' enter0C X T st hl0 ?k6 ?k7 ?k8 ?k9 ?kB ?kD ?c2 ?c3 ?c4 ?_
  case k6 => k_dflt k_is
  case k7 => k_dflt k_is
  case k8 => k_room
  case k9 => k_dflt first | exact BindsTo.of_eq rfl | exact binds_K (by k_in) rfl (by k_is) rfl rfl rfl
  case kB => exact rfl
  case kD => decide +kernel
  case c2 => exact rfl
  case c3 => exact rfl
  case c4 => exact rfl
  intro g' L' h' tk' cells' hL' sg' G' gs' F' N' Y' X' T'
  k_cells Y'
  try dsimp only [List.cons_append, List.nil_append] at N'
  try dsimp only
  try k_fold
  have sH : s.heap.StaysIn g' := fun b o e => G' b o e (by simp)
  have hgl' : g'.IsList gl vs.toArray := hgl.at fun o e => sH _ _ e
  have hvl := strs_len hvs
  rw [List.length_map] at hvl
  repeat' (first | (k_unfold; (try dsimp only)) | (k_end; wrow_close) | ((fail_if_success (with_reducible show wpAny _ _ (exec (Stmt.For _ _ _ _ _) _) _ _ _)); first | walk1 | (dsimp only; walk1) | (leave1; walk_say "STEP leave1"; try dsimp only)) | fail "no step")
  refine For_invT g' ?_ (by intro _; rfl)
  repeat' (first | (k_unfold; (try dsimp only)) | (k_end; wrow_close) | ((fail_if_success (with_reducible show wpAny _ _ (pyIter _) _ _ _)); first | walk1 | (dsimp only; walk1) | (leave1; walk_say "STEP leave1"; try dsimp only)) | fail "no step")
  rename_i oa og hoa hog hA F0 N0 nL hnL hB tkB t1 u1 v1 hR F1 N1 hk1
  rw [hnL] at hR
  have hog' : og.data = .cell (some (.ref gl)) := hog
  refine' for_rangeT (σ := Nat × Tok) rfl hR (range1_small _ (by omega)) (range1_size vs.length) F1 N1 (fun c => [("many", .int c.1 c.2)]) (fun i c news => ∃ oa va, news = [(L' + 1 + 1, oa), (L' + 1, og)] ∧ oa.data = .cell va ∧ c.1 + inv (l.drop i) = inv l) (0, _) ⟨oa, _, rfl, hoa, by simp⟩ ?hk ?turn ?done
  case hk => intro p hp; rw [List.mem_singleton.mp hp]; exact rfl
  case turn =>
    rintro i t ⟨m, mt⟩ news₁ s₁ I oI hi ⟨oa', va, rfl, hva, hinv⟩ F2 N2 hne
    clear F0 N0 F1 N1 hk1
    have hi1 := neN <| hne _ (.head _)
    have hi2 := neN <| hne _ (.tail _ (.head _))
    dsimp only at hinv
    repeat' (first | (k_unfold; (try dsimp only)) | (k_end; wrow_close) | ((fail_if_success (with_reducible show wpAny _ _ (eval (Expr.ListComp _ _ _ _) _) _ _ _)); first | walk1 | (dsimp only; walk1) | (leave1; walk_say "STEP leave1"; try dsimp only)) | fail "no step")
    rename Fr _ _ _ _ => F3
    rename News _ _ _ _ => N3
    rename (Obj.data _ = Data.cell (some (Value.int _ _))) => hat
    clear F2 N2 hoa hva
    have hil : i < l.length := by omega
    obtain ⟨k, hk⟩ : ∃ k, l[i]? = some k := ⟨l[i], List.getElem?_eq_getElem hil⟩
    obtain ⟨tk0, hvk⟩ : ∃ t0, vs[i]? = some (.str (ch k) t0) := by
      obtain ⟨x, t0, q1, q2⟩ := strs_get hvs (List.getElem?_eq_getElem hi)
      rw [List.getElem?_map, hk] at q2
      cases q2
      exact ⟨t0, by rw [List.getElem?_eq_getElem hi, q1]⟩
    have ei : (0 + (i : Int) * 1).toNat = i := by omega
    have hvk' : vs[(0 + (i : Int) * 1).toNat]? = some (.str (ch k) tk0) := by rw [ei]; exact hvk
    have h0i : 0 ≤ (0 + (i : Int) * 1) := by omega
    refine hideQ fun Qc hQc => ?_
    refine' wpAny_ListComp_free (below k) (fun _ _ => True) ?hclos ?hcell ?hkind ?hnames ?hx ?h
    case hclos => with_unfolding_all exact rfl
    case hcell => decide
    case hkind => exact rfl
    case hnames => decide
    case hx => exact rfl
    repeat' (first | (k_unfold; (try dsimp only)) | (k_end; wrow_close) | ((fail_if_success (with_reducible show wpAny _ _ (subscriptTail _ (PySem.Expr.Slice _ _ _ _) _ _) _ _ _)); first | walk1 | (dsimp only; walk1) | (leave1; walk_say "STEP leave1"; try dsimp only)) | fail "no step")
    k_dflt refine' kmk_slice F3 N3 ?l (IsPart.int _ _) IsPart.none ?_ ?s ?t ?z
    case l => exact hgl'.at fun o e => F3.keep _ _ e
    case s => with_unfolding_all rfl
    case t => intro _; with_unfolding_all rfl
    case z => rw [sizeLine_eq]; simp; omega
    intro D h5 F4 N4 l4
    have ep : (0 + (i : Int) * 1 + 1) = ((i + 1 : Nat) : Int) := by omega
    rw [ep, slicePick_from'] at N4
    repeat' (first | (k_unfold; (try dsimp only)) | (k_end; wrow_close) | ((fail_if_success (with_reducible show wpAny _ _ (pyIter _) _ _ _)); first | walk1 | (dsimp only; walk1) | (leave1; walk_say "STEP leave1"; try dsimp only)) | fail "no step")
    have ed : vs.toArray.toList.drop (i + 1) = vs.drop (i + 1) := by simp
    rw [ed] at N4
    have hg1 : ∀ {j : Nat} {v : Value}, (vs.drop (i + 1))[j]? = some v → ∃ x t, v = .str (ch x) t ∧ (l.drop (i + 1))[j]? = some x := fun {j v} h => by
      rw [List.getElem?_drop] at h
      obtain ⟨x, t0, q1, q2⟩ := strs_get hvs h
      rw [List.getElem?_map] at q2
      obtain ⟨y, hy, rfl⟩ := Option.map_eq_some_iff.mp q2
      exact ⟨y, t0, q1, by rw [List.getElem?_drop]; exact hy⟩
    have hD5 : h5.IsList D (vs.drop (i + 1)).toArray := ⟨_, (N4 _ (.head _)).1, rfl, 0, rfl⟩
    dsimp only
    refine ci_list (below k) (fun _ _ => True) rfl hD5 ?hsz F4 N4 ?tests ?elt ?done2
    case hsz => rw [List.length_drop, sizeLine_eq]; omega
    case tests =>
      intro C j v s₃ m₃ E' hv F₃ hm₃ N₃ st₃
      obtain ⟨x, tx, rfl, hx⟩ := hg1 hv
      refine wpAny_tests_one ?_
      have eg : (List.map ch l).getD (0 + (i : Int) * 1).toNat Str.empty = ch k := by rw [ei, List.getD_eq_getElem?_getD, List.getElem?_map, hk]; rfl
      repeat' (first | (k_unfold; (try dsimp only)) | (k_end; wrow_close) | ((fail_if_success (with_reducible show wpAny _ _ (call (Value.ref 271) _) _ _ _)); first | walk1 | (dsimp only; walk1) | (leave1; walk_say "STEP leave1"; try dsimp only)) | fail "no step")
      rw [eg]
      refine cmp_ok X T (fun b o q => F₃.keep b o (sH b o (st b o q))) (by first | exact room2 (by assumption) (by decide) | exact room3 (by assumption) (by decide) | exact room1 (by assumption) (by decide) | (trace "DUFALL"; simp only [AA, Around.deeper, Around.in1]; omega)) (by first | exact room2 (by assumption) (by decide) | exact room3 (by assumption) (by decide) | exact room1 (by assumption) (by decide) | (trace "DUFALL"; simp only [AA, Around.deeper, Around.in1]; omega)) ?_
      intro h₄ tk₄ c v₄ st₄ hc
      (try dsimp only)
      repeat' (first | (k_unfold; (try dsimp only)) | (k_end; wrow_close) | (first | walk1 | (dsimp only; walk1) | (leave1; walk_say "STEP leave1"; try dsimp only)) | fail "no step")
      · show decide (0 < c) = decide _
        rw [decide_eq_decide]; exact hc.trans ch_lt.symm
      · exact ⟨h₄, _, rfl, st₄⟩
    case elt =>
      intro C j v s₃ m₃ E' hv _ F₃ hm₃ N₃ st₃
      repeat' (first | (k_unfold; (try dsimp only)) | (k_end; wrow_close) | (first | walk1 | (dsimp only; walk1) | (leave1; walk_say "STEP leave1"; try dsimp only)) | fail "no step")
      · trivial
      · exact ⟨s₃.heap, s₃.toks, rfl, fun _ _ e => e⟩
    case done2 =>
      intro D2 h6 tk6 ys ep6 F6 N6 hn6 hG st6 hD6
      refine hQc _ _ ?_
      dsimp only
      repeat' (first | (k_unfold; (try dsimp only)) | (k_end; wrow_close) | ((fail_if_success (with_reducible show wpAny _ _ (call (Value.builtin "len") _) _ _ _)); first | walk1 | (dsimp only; walk1) | (leave1; walk_say "STEP leave1"; try dsimp only)) | fail "no step")
      have hyl := paired_len hG
      have hbl : ((vs.drop (i + 1)).filter (below k)).length = ((l.drop (i + 1)).filter (· < k)).length := below_len (by rw [List.map_drop]; exact strs_drop hvs _)
      have hfl := List.length_filter_le (below k) (vs.drop (i + 1))
      rw [List.length_drop] at hfl
      rw [hbl] at hyl hfl
      have e9 : ys.toList.length = ys.size := Array.length_toList
      have hys : ys.size ≤ 1000 := by rw [← e9, ← hyl]; exact Nat.le_trans hfl (by omega)
      refine len_list (l := D2) (items := ys) ⟨_, (N6 _ (.head _)).1, rfl, ep6, rfl⟩ (by omega) ?_
      dsimp only
      repeat' (first | (k_unfold; (try dsimp only)) | (k_end; wrow_close) | (first | walk1 | (dsimp only; walk1) | (leave1; walk_say "STEP leave1"; try dsimp only)) | fail "no step")
      rename Fr g' L' _ _ => F9
      rename News g' L' _ _ => N9
      refine' TStep.mk [(_, _), (_, _)] F9 N9 (fun p hp => .tail _ (.tail _ hp)) (by simp [hi1, hi2]) ⟨(m + ys.size, tk6 + 1 + 1), ⟨_, _, rfl, hat, ?_⟩, ?_, ?_⟩
      · rw [← hinv, inv_drop hk, hyl, e9]; dsimp only; omega
      · intro p hp; rw [List.mem_singleton.mp hp]; exact rfl
      · intro y hy
        have e : y ≠ Str.ofString "many" := hy _ (.head _)
        simp only [kstB, if_neg e]
  case done =>
    rintro ⟨m, mt⟩ news₁ h tk ⟨oa', va, rfl, hva, hinv⟩ F2 N2
    clear F0 N0 F1 N1 hk1
    dsimp only at hinv
    repeat' (first | (k_unfold; (try dsimp only)) | (k_end; wrow_close) | (first | walk1 | (dsimp only; walk1) | (leave1; walk_say "STEP leave1"; try dsimp only)) | fail "no step")
    (try dsimp only)
    (try k_unfold)
    (try dsimp only)
    have hm : m = inv l := by rw [hvl, List.drop_length] at hinv; exact hinv
    rw [mod_odd, hm]
    exact hret _ _ (fun b o q => F2.keep b o (sH b o q))
end
section
inductive Piece
  | wd (V : Wd)
  | hash (a d tb : Addr) (es : List Ent)
  | sl (l : Addr) (xs : List Str)
  | il (l : Addr) (ns : List Int)
  | pk (dk l0 : Addr) (ns : List Int)
def Piece.as : Piece → List Addr
  | .wd V => V.all
  | .hash a d tb es => hAs a d tb es
  | .sl l _ => [l]
  | .il l _ => [l]
  | .pk dk l0 _ => [dk, l0]
def Piece.At (w : World) (g h : Heap) (z : Nat) : Piece → Prop
  | .wd V => WdAt g h V z
  | .hash a d tb es => Hsh w g h a d tb es ∧ es.length ≤ 6
  | .sl l xs => ∃ ys ep, h.get? l = some { cls := .type "list", data := .seq ys ep } ∧ StrsAre ys.toList xs
  | .il l ns => ∃ ys ep, h.get? l = some (W.listOf ys ep) ∧ IntsAre ys.toList ns
  | .pk dk l0 ns => ∃ (k : Int) (t : Tok) (vs : List Value), h.get? dk = some (W.listOf [Value.ref l0, .int k t].toArray 0) ∧ 0 ≤ k ∧ k ≤ z ∧ h.IsList l0 vs.toArray ∧ IntsAre vs ns ∧ ns.length ≤ 13 ∧ g.get? dk = none ∧ l0 ≠ dk
theorem WdAt.mono {g h : Heap} {V : Wd} {z z' : Nat} (H : WdAt g h V z) (hz : z ≤ z') : WdAt g h V z' :=
  { H with zl := let ⟨i, e, ho, r⟩ := H.zl; ⟨i, e, ho, Nat.le_trans r hz⟩ }
theorem Piece.on {w : World} {g h h' : Heap} {z z' : Nat} {p : Piece} (H : p.At w g h z) (k : On p.as h h') (hz : z ≤ z') : p.At w g h' z' := by
  cases p with
  | wd V => exact (WdAt.on H k).mono hz
  | hash a d tb es => exact ⟨Hsh.on H.1 k, H.2⟩
  | sl l xs => exact let ⟨ys, ep, ho, r⟩ := H; ⟨ys, ep, k _ (.head _) _ ho, r⟩
  | il l ns => exact let ⟨ys, ep, ho, r⟩ := H; ⟨ys, ep, k _ (.head _) _ ho, r⟩
  | pk dk l0 ns => exact let ⟨n, t, vs, ho, h0, h1, hl, r⟩ := H; ⟨n, t, vs, k _ (.head _) _ ho, h0, by omega, hl.at fun o e => k _ (.tail _ (.head _)) _ e, r⟩
theorem Piece.ex {w : World} {g h : Heap} {z : Nat} {p : Piece} (H : p.At w g h z) : ∀ a ∈ p.as, ∃ o, h.get? a = some o := by
  cases p with
  | wd V => exact fun a ha => let ⟨o, ho, _⟩ := Wd_led H a ha; ⟨o, ho⟩
  | hash a d tb es =>
    intro x hx
    simp only [Piece.as, hAs, List.mem_cons, List.mem_append, List.mem_map] at hx
    rcases hx with rfl | rfl | rfl | ⟨e, he, rfl⟩ | ⟨e, he, rfl⟩
    · exact ⟨_, H.1.ha⟩
    · obtain ⟨o, ho, _⟩ := H.1.hd; exact ⟨o, ho⟩
    · obtain ⟨o, ho, _⟩ := H.1.tab.tbObj; exact ⟨o, ho⟩
    · exact ⟨_, H.1.tab.sc e he⟩
    · obtain ⟨o, n, t, ho, _⟩ := H.1.tab.sd e he; exact ⟨o, ho⟩
  | sl l xs =>
    intro a ha
    obtain ⟨ys, ep, ho, r⟩ := H
    obtain rfl := List.mem_singleton.mp ha
    exact ⟨_, ho⟩
  | il l ns =>
    intro a ha
    obtain ⟨ys, ep, ho, r⟩ := H
    obtain rfl := List.mem_singleton.mp ha
    exact ⟨_, ho⟩
  | pk dk l0 ns =>
    intro a ha
    obtain ⟨n, t, vs, ho, h0, h1, ⟨ol, hol, _⟩, r⟩ := H
    rcases List.mem_cons.mp ha with rfl | ha
    · exact ⟨_, ho⟩
    · rw [List.mem_singleton.mp ha]; exact ⟨_, hol⟩
def asOf (Ps : List Piece) : List Addr := Ps.flatMap Piece.as
theorem mem_asOf {Ps : List Piece} {a : Addr} : a ∈ asOf Ps ↔ ∃ p ∈ Ps, a ∈ p.as := List.mem_flatMap
def Apart (p q : Piece) : Prop := ∀ a ∈ p.as, a ∉ q.as
structure St (w : World) (g : Heap) (L : Addr) (h : Heap) (z : Nat) (Ps : List Piece) : Prop where
  at_ : ∀ p ∈ Ps, p.At w g h z
  ok : AsOk g L (asOf Ps)
  sep : Ps.Pairwise Apart
theorem St.on {w : World} {g h h' : Heap} {L : Addr} {z : Nat} {Ps : List Piece} (S : St w g L h z Ps) (k : On (asOf Ps) h h') : St w g L h' z Ps :=
  ⟨fun p hp => Piece.on (S.at_ p hp) (fun x hx => k x (mem_asOf.mpr ⟨p, hp, hx⟩)) (Nat.le_refl _), S.ok, S.sep⟩
theorem St.apart {w : World} {g h : Heap} {L : Addr} {z : Nat} {Ps : List Piece} (S : St w g L h z Ps) {p q : Piece} (hp : p ∈ Ps) (hq : q ∈ Ps) (hne : p ≠ q) : Apart p q := by
  have hs := S.sep
  clear S
  induction Ps with
  | nil => cases hp
  | cons a r ih =>
    rw [List.pairwise_cons] at hs
    rcases List.mem_cons.mp hp with h1 | h1
    · rcases List.mem_cons.mp hq with h2 | h2
      · exact absurd (h1.trans h2.symm) hne
      · rw [h1]; exact hs.1 q h2
    · rcases List.mem_cons.mp hq with h2 | h2
      · rw [h2]; exact fun x hx hy => hs.1 p h1 x hy hx
      · exact ih h1 h2 hs.2
theorem St.keep {w : World} {g h h' : Heap} {L : Addr} {z z' : Nat} {Ps : List Piece} {T : List Addr} (S : St w g L h z Ps) (kb : KeepsBut T h h') (hz : z ≤ z') (M : List Piece) (hM : ∀ p ∈ M, p ∈ Ps ∧ p.At w g h' z') (hT : ∀ a ∈ T, ∃ p ∈ M, a ∈ p.as) : ∀ p ∈ Ps, p.At w g h' z' := fun p hp => by
  by_cases q : p ∈ M
  · exact (hM p q).2
  · refine Piece.on (S.at_ p hp) (fun x hx o ho => kb x o ho fun hxT => ?_) hz
    obtain ⟨r, hr, hxr⟩ := hT x hxT
    exact S.apart hp (hM r hr).1 (fun e => q (e ▸ hr)) x hx hxr
structure Call (w : World) (g h h' : Heap) (z' : Nat) (Ps new : List Piece) : Prop where
  kb : KeepsBut (asOf Ps) h h'
  at_ : ∀ p ∈ new ++ Ps, p.At w g h' z'
  fresh : ∀ q ∈ new, ∀ a ∈ q.as, h.get? a = none
  sep : new.Pairwise Apart
theorem Call.st {w : World} {g h h' : Heap} {L : Addr} {z z' : Nat} {Ps new : List Piece} {m : Str → Option Value} (C : Call w g h h' z' Ps new) (S : St w g L h z Ps) (F : Fr g L h m) : St w g L h' z' (new ++ Ps) where
  at_ := C.at_
  ok := fun x hx => by
    obtain ⟨p, hp, hxp⟩ := mem_asOf.mp hx
    rcases List.mem_append.mp hp with hp | hp
    · exact fresh_as F (C.fresh p hp x hxp)
    · exact S.ok x (mem_asOf.mpr ⟨p, hp, hxp⟩)
  sep := by
    rw [List.pairwise_append]
    refine ⟨C.sep, S.sep, fun p hp q hq x hx hy => ?_⟩
    obtain ⟨o, ho⟩ := Piece.ex (S.at_ q hq) x hy
    rw [C.fresh p hp x hx] at ho; cases ho
theorem Call.fr {w : World} {g h h' : Heap} {L : Addr} {z z' : Nat} {Ps new : List Piece} {m : Str → Option Value} (C : Call w g h h' z' Ps new) (S : St w g L h z Ps) (F : Fr g L h m) : Fr g L h' m := backA F C.kb S.ok
theorem Call.cells {w : World} {g h h' : Heap} {L : Addr} {z z' : Nat} {Ps new : List Piece} {nE cells : List (Addr × Obj)} (C : Call w g h h' z' Ps new) (S : St w g L h z Ps) (N : News g L h nE) (hN : ∀ p ∈ cells, p ∈ nE) (hc : ∀ p ∈ cells, p.1 ∉ asOf Ps) : ∀ p ∈ cells, p.1 ∉ asOf (new ++ Ps) := fun p hp hm => by
  obtain ⟨q, hq, hx⟩ := mem_asOf.mp hm
  rcases List.mem_append.mp hq with hq | hq
  · have := (N p (hN p hp)).1
    rw [C.fresh q hq _ hx] at this; cases this
  · exact hc p hp (mem_asOf.mpr ⟨q, hq, hx⟩)
theorem Call.news {w : World} {g h h' : Heap} {L : Addr} {z z' : Nat} {Ps new : List Piece} {m : Str → Option Value} {nE cells : List (Addr × Obj)} (C : Call w g h h' z' Ps new) (S : St w g L h z Ps) (F : Fr g L h m) (N : News g L h nE) (hN : ∀ p ∈ cells, p ∈ nE) (hc : ∀ p ∈ cells, p.1 ∉ asOf Ps) : News g L h' (cells ++ re h' (asOf (new ++ Ps))) := fun p hp => by
  rcases List.mem_append.mp hp with hp | hp
  · have := N p (hN p hp)
    exact ⟨C.kb _ _ this.1 (hc p hp), this.2⟩
  · exact re_news (C.st S F).ok p hp
end
section
theorem St.call {w : World} {g h h' : Heap} {L : Addr} {z z' : Nat} {Ps : List Piece} {T : List Addr} (S : St w g L h z Ps) (kb : KeepsBut T h h') (hz : z ≤ z') (M : List Piece) (hM : ∀ p ∈ M, p ∈ Ps ∧ p.At w g h' z') (hT : ∀ a ∈ T, ∃ p ∈ M, a ∈ p.as) (new : List Piece) (hn : ∀ q ∈ new, q.At w g h' z') (hf : ∀ q ∈ new, ∀ a ∈ q.as, h.get? a = none) (hs : new.Pairwise Apart) : Call w g h h' z' Ps new where
  kb := fun b o q hb => kb b o q fun hx => hb (by
    obtain ⟨p, hp, hxp⟩ := hT b hx
    exact mem_asOf.mpr ⟨p, (hM p hp).1, hxp⟩)
  at_ := fun p hp => (List.mem_append.mp hp).elim (hn p) (S.keep kb hz M hM hT p)
  fresh := hf
  sep := hs
theorem hash_fresh {h : Heap} {a d tb : Addr} {es : List Ent} (fa : h.get? a = none) (fd : h.get? d = none) (ft : h.get? tb = none) (fe : ∀ e ∈ es, h.get? e.sc = none ∧ h.get? e.sd = none) : ∀ x ∈ (Piece.hash a d tb es).as, h.get? x = none := fun x hx => by
  simp only [Piece.as, hAs, List.mem_cons, List.mem_append, List.mem_map] at hx
  rcases hx with rfl | rfl | rfl | ⟨e, he, rfl⟩ | ⟨e, he, rfl⟩
  · exact fa
  · exact fd
  · exact ft
  · exact (fe e he).1
  · exact (fe e he).2
section
variable {w : World} {dp un : Nat} {fr : Option (List Env)} {gd : Option (List Code)} {s : Shared} {base : Heap} {mean : ExcName → Option Value} {mg mb : Str → Option Value} {Q E : Value → Shared → Prop} {L : Addr} {m : Str → Option Value} {z : Nat} {Ps : List Piece}
theorem st_shuffle {dk l0 : Addr} {ns : List Int} {n : Int} {tn : Tok} (X : (hd.heap_1 w.params).In base) (T : TP mean mg mb base) (F : Fr base L s.heap m) (hdp : dp + 10 < recursionLimit) (hun : un + 100 < cLine)
    (S : St w base L s.heap z Ps) (hp : Piece.pk dk l0 ns ∈ Ps) (hz : z ≤ 400) (hn0 : 0 < n) (hn1 : n ≤ 10)
    (hret : ∀ h' tk' r u, Call w base s.heap h' (z + 1) Ps [] → 0 ≤ r → r < n → Q (.int r u) { s with heap := h', toks := tk' }) :
    wpAny (model PySem.Challenge.rw_sz0091_01.row.prog w) (AA dp un fr gd) (call (.ref 516) [.ref dk, .int n tn]) Q E s := by
  obtain ⟨k, t, vs, ho, h0, h1, hl, hi, hlen, hb, hne⟩ := S.at_ _ hp
  refine shuffle_ok X T (fun b o e => F.keep b o e) hdp hun ho hb hl hne hi hlen h0 (by omega) hn0 hn1 ?_
  intro h' tk' r u t' kb hr0 hr1 ho'
  refine hret _ _ _ _ (S.call kb (Nat.le_succ z) [Piece.pk dk l0 ns] (fun p hq => ?_) (fun a ha => ⟨_, .head _, by rw [List.mem_singleton.mp ha]; exact .head _⟩) [] (fun _ h => nomatch h) (fun _ h => nomatch h) .nil) hr0 hr1
  rw [List.mem_singleton.mp hq]
  exact ⟨hp, k + 1, t', vs, ho', by omega, by omega, hl.at fun o e => kb _ _ e (by simpa using hne), hi, hlen, hb, hne⟩
theorem st_order {dk l0 : Addr} {ns : List Int} {l : List Nat} {tl : Tok} (X : (hd.heap_1 w.params).In base) (T : TP mean mg mb base) (F : Fr base L s.heap m) (hdp : dp + 20 < recursionLimit) (hun : un + 200 < cLine)
    (S : St w base L s.heap z Ps) (hp : Piece.pk dk l0 ns ∈ Ps) (hz : z ≤ 400) (hnd : l.Nodup) (hll : l.length ≤ 6) (htk : 1 ≤ s.toks)
    (hret : ∀ D h' tk' (fs : List Nat), Call w base s.heap h' (z + 6) Ps [.sl D (fs.map ch)] → fs.Perm l → Q (.ref D) { s with heap := h', toks := tk' }) :
    wpAny (model PySem.Challenge.rw_sz0091_01.row.prog w) (AA dp un fr gd) (call (.ref 523) [.ref dk, .str (txt l) tl]) Q E s := by
  obtain ⟨k, t, vs, ho, h0, h1, hl, hi, hlen, hb, hne⟩ := S.at_ _ hp
  refine order_ok X T (fun b o e => F.keep b o e) hdp hun ho hb hl hne hi hlen h0 (by omega) hnd hll htk ?_
  intro D h' tk' ys ep fs k' t' kb hD hDo hst hpm hk0 hk1 ho'
  refine hret D _ _ fs (S.call kb (by omega) [Piece.pk dk l0 ns] (fun p hq => ?_) (fun a ha => ⟨_, .head _, by rw [List.mem_singleton.mp ha]; exact .head _⟩) _ (fun q hq => ?_) (fun q hq a ha => ?_) (List.pairwise_singleton _ _)) hpm
  · rw [List.mem_singleton.mp hq]
    exact ⟨hp, k', t', vs, ho', hk0, by omega, hl.at fun o e => kb _ _ e (by simpa using hne), hi, hlen, hb, hne⟩
  · rw [List.mem_singleton.mp hq]; exact ⟨ys, ep, hDo, hst⟩
  · rw [List.mem_singleton.mp hq] at ha
    rw [List.mem_singleton.mp ha]; exact hD
theorem wd_up {h h' : Heap} {V : Wd} {T : List Addr} (hV : WdAt base h V z) (S : St w base L h z Ps) (hp : Piece.wd V ∈ Ps) (kb : KeepsBut T h h') (hT : ∀ a ∈ T, a = V.hD ∨ ∃ p ∈ Ps, p ≠ Piece.wd V ∧ a ∈ p.as) (hh : ∃ o, h'.get? V.hD = some o ∧ HpD V.lim V.zl o) : WdAt base h' V z := by
  refine hV.up kb (fun a ha => ?_) hh
  rcases hT a ha with h1 | ⟨p, hp', hne, hx⟩
  · exact .inl h1
  · have hA := S.apart hp' hp hne a hx
    simp only [Piece.as, Wd.all, List.mem_cons, List.not_mem_nil, or_false, not_or] at hA
    exact .inr ⟨hA.2.2.1, hA.2.2.2.1, hA.2.2.2.2.1, hA.2.2.2.2.2.1, hA.2.2.2.2.2.2, hA.2.1⟩
theorem sl_list {h : Heap} {l : Addr} {xs : List Str} (H : (Piece.sl l xs).At w base h z) : ∃ vs, h.IsList l vs.toArray ∧ StrsAre vs xs :=
  let ⟨ys, ep, ho, hs⟩ := H; ⟨ys.toList, ⟨_, ho, rfl, ep, by simp⟩, hs⟩
theorem st_laid {V : Wd} {ll gl : Addr} {xs ys : List Str} (X : (hd.heap_1 w.params).In base) (T : TP mean mg mb base) (F : Fr base L s.heap m) (hdp : dp + 50 < recursionLimit) (hun : un + 500 < cLine)
    (S : St w base L s.heap z Ps) (hp : Piece.wd V ∈ Ps) (hx : Piece.sl ll xs ∈ Ps) (hy : Piece.sl gl ys ∈ Ps) (hlen : xs.length = ys.length) (hnd : xs.Nodup) (hsz : xs.length ≤ 6)
    (hret : ∀ h' tk' a d tb es, Call w base s.heap h' z Ps [.hash a d tb es] → prs es = xs.zip ys → Q (.ref a) { s with heap := h', toks := tk' }) :
    wpAny (model PySem.Challenge.rw_sz0091_01.row.prog w) (AA dp un fr gd) (call (.ref 537) [.ref V.cnt, .ref ll, .ref gl]) Q E s := by
  obtain ⟨vs, hll, hvs⟩ := sl_list (S.at_ _ hx)
  obtain ⟨us, hgl, hus⟩ := sl_list (S.at_ _ hy)
  have hV : WdAt base s.heap V z := S.at_ _ hp
  refine laid_ok X T (fun b o e => F.keep b o e) hdp hun hV hll hvs hgl hus hlen hnd (by omega) ?_
  intro h' tk' a d tb es kb hHD hH hes fa fd ft fe
  have hl : es.length ≤ 6 := by
    have := congrArg List.length hes
    rw [List.length_map, List.length_zip] at this
    omega
  refine hret _ _ a d tb es (S.call kb (Nat.le_refl z) [Piece.wd V] (fun p hq => ?_) (fun a ha => ⟨_, .head _, by rw [List.mem_singleton.mp ha]; exact .head _⟩) _ (fun q hq => ?_) (fun q hq => ?_) (List.pairwise_singleton _ _)) hes
  · rw [List.mem_singleton.mp hq]
    exact ⟨hp, wd_up hV S hp kb (fun a ha => .inl (List.mem_singleton.mp ha)) hHD⟩
  · rw [List.mem_singleton.mp hq]; exact ⟨hH, hl⟩
  · rw [List.mem_singleton.mp hq]; exact hash_fresh fa fd ft fe
theorem hash_apart {h : Heap} {V : Wd} {a d tb : Addr} {es : List Ent} (S : St w base L h z Ps) (hp : Piece.wd V ∈ Ps) (hh : Piece.hash a d tb es ∈ Ps) : d ≠ V.cnt ∧ d ≠ V.cD ∧ d ≠ V.hp ∧ d ≠ V.lim ∧ d ≠ V.lD ∧ d ≠ V.zl ∧ d ≠ V.hD := by
  have hA := S.apart hh hp (by intro e; cases e) d (by simp [Piece.as, hAs])
  simp only [Piece.as, Wd.all, List.mem_cons, List.not_mem_nil, or_false, not_or] at hA
  exact ⟨hA.2.2.1, hA.2.2.2.1, hA.2.2.2.2.1, hA.2.2.2.2.2.1, hA.2.2.2.2.2.2, hA.2.1, hA.1⟩
theorem hash_up {h h' : Heap} {a d tb : Addr} {es : List Ent} (H : Hsh w base h a d tb es) {T : List Addr} (kb : KeepsBut T h h') (hT : ∀ x ∈ T, x = d ∨ x ∉ hAs a d tb es) (hd' : ∃ od, h'.get? d = some od ∧ HaD tb od) : Hsh w base h' a d tb es where
  ha := kb _ _ H.ha fun hx => by
    rcases hT _ hx with e | e
    · obtain ⟨od, ho, ⟨⟩⟩ := H.hd
      exact ne_cls H.ha ho (by intro e; cases e) e
    · exact e (by simp [hAs])
  hd := hd'
  tab := by
    obtain ⟨ot, ht, hc⟩ := H.tab.tbObj
    refine H.tab.up (fun q => kb _ _ q fun hx => ?_) (fun e he _ q => kb _ _ q fun hx => ?_) (fun e he _ q => kb _ _ q fun hx => ?_)
    · rcases hT _ hx with e | e
      · exact H.dt e
      · exact e (by simp [hAs])
    · rcases hT _ hx with e' | e'
      · obtain ⟨od, ho, ⟨⟩⟩ := H.hd
        exact ne_cls (H.tab.sc e he) ho (by intro e; cases e) e'
      · exact e' (by simp only [hAs, List.mem_cons, List.mem_append]; exact .inr (.inr (.inr (.inl (List.mem_map_of_mem he)))))
    · rcases hT _ hx with e' | e'
      · exact H.dsd e he e'
      · exact e' (by simp only [hAs, List.mem_cons, List.mem_append]; exact .inr (.inr (.inr (.inr (List.mem_map_of_mem he)))))
  na := H.na
  nd := H.nd
  dt := H.dt
  dsd := H.dsd
end
end
section
section
variable {w : World} {dp un : Nat} {fr : Option (List Env)} {gd : Option (List Code)} {s : Shared} {base : Heap} {mean : ExcName → Option Value} {mg mb : Str → Option Value} {Q E : Value → Shared → Prop} {L : Addr} {m : Str → Option Value} {z : Nat} {Ps : List Piece}
theorem St.stays {h h' : Heap} (S : St w base L h z Ps) (st : h.StaysIn h') (new : List Piece) (hn : ∀ q ∈ new, q.At w base h' z) (hf : ∀ q ∈ new, ∀ a ∈ q.as, h.get? a = none) (hs : new.Pairwise Apart) : Call w base h h' z Ps new :=
  S.call (T := []) (fun b o q _ => st _ _ q) (Nat.le_refl z) [] (fun _ h => nomatch h) (fun _ h => nomatch h) new hn hf hs
theorem st_turned {V : Wd} {a d tb : Addr} {es : List Ent} (X : (hd.heap_1 w.params).In base) (T : TP mean mg mb base) (F : Fr base L s.heap m) (hdp : dp + 50 < recursionLimit) (hun : un + 500 < cLine)
    (S : St w base L s.heap z Ps) (hp : Piece.wd V ∈ Ps) (hh : Piece.hash a d tb es ∈ Ps) (hnd : (es.map (·.x)).Nodup)
    (hret : ∀ h' tk' a' d' tb' es', Call w base s.heap h' z Ps [.hash a' d' tb' es'] → prs es' = (es.map fun e => (e.x, e.k)).reverse → Q (.ref a') { s with heap := h', toks := tk' }) :
    wpAny (model PySem.Challenge.rw_sz0091_01.row.prog w) (AA dp un fr gd) (call (.ref 544) [.ref V.cnt, .ref a]) Q E s := by
  have hV : WdAt base s.heap V z := S.at_ _ hp
  obtain ⟨H, hl⟩ := S.at_ _ hh
  have hdW := hash_apart S hp hh
  refine turned_ok X T (fun b o e => F.keep b o e) hdp hun hV H hdW hnd (by omega) ?_
  intro h' tk' a' d' tb' es' kb hHD hd' hH hes fa fd ft fe
  have hl' : es'.length ≤ 6 := by
    have := congrArg List.length hes
    simp at this
    omega
  refine hret _ _ a' d' tb' es' (S.call kb (Nat.le_refl z) [Piece.wd V, Piece.hash a d tb es] (fun p hq => ?_) (fun x hx => ?_) _ (fun q hq => ?_) (fun q hq => ?_) (List.pairwise_singleton _ _)) hes
  · rcases List.mem_cons.mp hq with rfl | hq
    · refine ⟨hp, wd_up hV S hp kb (fun x hx => ?_) hHD⟩
      rcases List.mem_cons.mp hx with h | h
      · exact .inl h
      · exact .inr ⟨_, hh, (by intro e; cases e), by rw [List.mem_singleton.mp h]; simp [Piece.as, hAs]⟩
    · rw [List.mem_singleton.mp hq]
      refine ⟨hh, hash_up H kb (fun x hx => ?_) hd', hl⟩
      rcases List.mem_cons.mp hx with h | h
      · exact .inr (h ▸ S.apart hp hh (by intro e; cases e) V.hD (by simp [Piece.as, Wd.all]))
      · exact .inl (List.mem_singleton.mp h)
  · rcases List.mem_cons.mp hx with rfl | hx
    · exact ⟨_, .head _, by simp [Piece.as, Wd.all]⟩
    · exact ⟨_, .tail _ (.head _), by rw [List.mem_singleton.mp hx]; simp [Piece.as, hAs]⟩
  · rw [List.mem_singleton.mp hq]; exact ⟨hH, hl'⟩
  · rw [List.mem_singleton.mp hq]; exact hash_fresh fa fd ft fe
theorem st_through {a d tb nl : Addr} {es : List Ent} {ks : List Str} (X : (hd.heap_1 w.params).In base) (T : TP mean mg mb base) (F : Fr base L s.heap m) (hdp : dp + 30 < recursionLimit) (hun : un + 300 < cLine)
    (S : St w base L s.heap z Ps) (hh : Piece.hash a d tb es ∈ Ps) (hx : Piece.sl nl ks ∈ Ps) (hks : ∀ k ∈ ks, ∃ e ∈ es, e.k = k) (hsz : ks.length ≤ 6)
    (hret : ∀ D h' tk', Call w base s.heap h' z Ps [.sl D (ks.map (look es))] → Q (.ref D) { s with heap := h', toks := tk' }) :
    wpAny (model PySem.Challenge.rw_sz0091_01.row.prog w) (AA dp un fr gd) (call (.ref 551) [.ref a, .ref nl]) Q E s := by
  obtain ⟨H, hl⟩ := S.at_ _ hh
  obtain ⟨vs, hnl, hvs⟩ := sl_list (S.at_ _ hx)
  refine through_ok X T (fun b o e => F.keep b o e) hdp hun H hnl hvs hks (by omega) ?_
  intro D h' tk' ys ep st' hD hDo hys
  refine hret D _ _ (S.stays st' _ (fun q hq => ?_) (fun q hq b hb => ?_) (List.pairwise_singleton _ _))
  · rw [List.mem_singleton.mp hq]; exact ⟨ys, ep, hDo, hys⟩
  · rw [List.mem_singleton.mp hq] at hb
    rw [List.mem_singleton.mp hb]; exact hD
theorem st_rounds {V : Wd} {a d tb : Addr} {es : List Ent} (X : (hd.heap_1 w.params).In base) (T : TP mean mg mb base) (F : Fr base L s.heap m) (hdp : dp + 50 < recursionLimit) (hun : un + 500 < cLine)
    (S : St w base L s.heap z Ps) (hp : Piece.wd V ∈ Ps) (hh : Piece.hash a d tb es ∈ Ps) (hz : z ≤ 400)
    (hret : ∀ D h' tk' ns, Call w base s.heap h' (z + 6) Ps [.il D ns] → ns.Perm ((roundsR (prs es)).map Int.ofNat) → ns.Pairwise (· ≤ ·) → Q (.ref D) { s with heap := h', toks := tk' }) :
    wpAny (model PySem.Challenge.rw_sz0091_01.row.prog w) (AA dp un fr gd) (call (.ref 558) [.ref V.cnt, .ref a]) Q E s := by
  have hV : WdAt base s.heap V z := S.at_ _ hp
  obtain ⟨H, hl⟩ := S.at_ _ hh
  have hdW := hash_apart S hp hh
  refine rounds_ok X T (fun b o e => F.keep b o e) hdp hun hV H hdW (by omega) (by omega) ?_
  intro D h' tk' ys ep ns kb hHD hd' hzl hD hDo hi hpm hpw
  refine hret D _ _ ns (S.call kb (by omega) [Piece.wd V, Piece.hash a d tb es] (fun p hq => ?_) (fun x hx => ?_) _ (fun q hq => ?_) (fun q hq b hb => ?_) (List.pairwise_singleton _ _)) hpm hpw
  · rcases List.mem_cons.mp hq with rfl | hq
    · refine ⟨hp, ?_⟩
      obtain ⟨i, e, q1, q2⟩ := hzl
      obtain ⟨oc, hcD, hoc⟩ := hV.cD
      obtain ⟨oh, hhD, hoh⟩ := hV.hD
      obtain ⟨ol, hlD, hol⟩ := hV.lD
      obtain ⟨i0, e0, hz0, _⟩ := hV.zl
      have k : ∀ {b : Addr} {o : Obj}, s.heap.get? b = some o → b ≠ V.hD → b ≠ d → b ≠ V.zl → h'.get? b = some o := fun {b o} q n1 n2 n3 => kb _ _ q (by
        simp only [List.mem_cons, List.not_mem_nil, or_false, not_or]; exact ⟨n1, n2, n3⟩)
      have c1 : ∀ {b : Addr} {o : Obj}, s.heap.get? b = some o → o.cls ≠ .type "dict" → b ≠ V.hD := fun q h1 => by cases hoh; exact ne_cls q hhD h1
      have c2 : ∀ {b : Addr} {o : Obj}, s.heap.get? b = some o → o.cls ≠ .type "list" → b ≠ V.zl := fun q h1 => ne_cls q hz0 h1
      exact { cnt := k hV.cnt (c1 hV.cnt (by intro e; cases e)) hdW.1.symm (c2 hV.cnt (by intro e; cases e)), cD := ⟨oc, k hcD hV.n1 hdW.2.1.symm (c2 hcD (by cases hoc; intro e; exact absurd (Value.type.inj e) (by decide))), hoc⟩,
              hp := k hV.hp (c1 hV.hp (by intro e; cases e)) hdW.2.2.1.symm (c2 hV.hp (by intro e; cases e)), hD := hHD, ncnt := hV.ncnt, ncD := hV.ncD, nhp := hV.nhp, nhD := hV.nhD, n1 := hV.n1,
              lim := k hV.lim (c1 hV.lim (by intro e; cases e)) hdW.2.2.2.1.symm (c2 hV.lim (by intro e; cases e)), lD := ⟨ol, k hlD hV.n2 hdW.2.2.2.2.1.symm (c2 hlD (by cases hol; intro e; exact absurd (Value.type.inj e) (by decide))), hol⟩,
              zl := ⟨i, e, q1, by omega⟩, nlim := hV.nlim, nlD := hV.nlD, nzl := hV.nzl, n2 := hV.n2 : WdAt base h' V (z + 6) }
    · rw [List.mem_singleton.mp hq]
      refine ⟨hh, hash_up H kb (fun x hx => ?_) hd', hl⟩
      rcases List.mem_cons.mp hx with h | h
      · exact .inr (h ▸ S.apart hp hh (by intro e; cases e) V.hD (by simp [Piece.as, Wd.all]))
      · rcases List.mem_cons.mp h with h | h
        · exact .inl h
        · rw [List.mem_singleton.mp h]
          exact .inr (S.apart hp hh (by intro e; cases e) V.zl (by simp [Piece.as, Wd.all]))
  · rcases List.mem_cons.mp hx with rfl | hx
    · exact ⟨_, .head _, by simp [Piece.as, Wd.all]⟩
    · rcases List.mem_cons.mp hx with rfl | hx
      · exact ⟨_, .tail _ (.head _), by simp [Piece.as, hAs]⟩
      · exact ⟨_, .head _, by rw [List.mem_singleton.mp hx]; simp [Piece.as, Wd.all]⟩
  · rw [List.mem_singleton.mp hq]; exact ⟨ys, ep, hDo, hi⟩
  · rw [List.mem_singleton.mp hq] at hb
    rw [List.mem_singleton.mp hb]; exact hD
end
end
section
local macro_rules | `(tactic| walk_at "eval Name") => `(tactic| (k_here; k_inBlock; k_dflt (first
  | (refine wpAny_Name (wpAny_loadName_local (by exact rfl) (by exact rfl) (Fr.ns (by k_asm)) (by assumption) ?_) (by decide))
  | (refine wpAny_Name (wpAny_loadName_cell (by exact rfl) (by exact rfl) (by exact rfl) ⟨_, News.get (by k_asm) (by k_mem), by k_asm⟩ ?_) (by decide)))))
theorem Call.all {w : World} {g h h' : Heap} {L : Addr} {z z' : Nat} {Ps new : List Piece} {m : Str → Option Value} {nE : List (Addr × Obj)} (C : Call w g h h' z' Ps new) (S : St w g L h z Ps) (F : Fr g L h m) (N : News g L h nE) (cells : List (Addr × Obj)) (hN : ∀ p ∈ cells, p ∈ nE) (hc : ∀ p ∈ cells, p.1 ∉ asOf Ps) :
    ∃ R, R = re h' (asOf (new ++ Ps)) ∧ St w g L h' z' (new ++ Ps) ∧ Fr g L h' m ∧ News g L h' (cells ++ R) ∧ (∀ p ∈ cells, p.1 ∉ asOf (new ++ Ps)) ∧ ∀ c ∈ cells, ∀ p ∈ R, p.1 ≠ c.1 :=
  ⟨_, rfl, C.st S F, C.fr S F, C.news S F N hN hc, C.cells S N hN hc, fun c hcc p hp q => C.cells S N hN hc c hcc (q ▸ (re_get hp).2)⟩
theorem st_first (w : World) {base hC : Heap} {L dk D0 : Addr} {nE : List (Addr × Obj)} {ws : List Value} {ns : List Int} {t : Tok} (N : News base L hC nE) (h1 : (dk, W.listOf #[.ref D0, .int 0 t] 0) ∈ nE) (h2 : (D0, W.listOf ws.toArray 0) ∈ nE) (hi : IntsAre ws ns) (hl : ns.length ≤ 13) (hne : @LT.lt Nat _ D0 dk) : St w base L hC 0 [Piece.pk dk D0 ns] where
  at_ := fun p hp => by
    rw [List.mem_singleton.mp hp]
    exact ⟨0, _, ws, (N _ h1).1, Int.le_refl 0, Int.le_refl 0, ⟨_, (N _ h2).1, rfl, 0, rfl⟩, hi, hl, (N _ h1).2.2, Nat.ne_of_lt hne⟩
  ok := fun x hx => by
    obtain ⟨p, hp, hxp⟩ := mem_asOf.mp hx
    rw [List.mem_singleton.mp hp] at hxp
    rcases List.mem_cons.mp hxp with rfl | hxp
    · exact (N _ h1).2
    · rw [List.mem_singleton.mp hxp]; exact (N _ h2).2
  sep := List.pairwise_singleton _ _
theorem hc_first {dk D0 : Addr} {ws : List Value} {ns : List Int} {cells : List (Addr × Obj)} (_hi : IntsAre ws ns) (hne : @LT.lt Nat _ D0 dk) (h : ∀ p ∈ cells, @LT.lt Nat _ p.1 D0) : ∀ p ∈ cells, p.1 ∉ asOf [Piece.pk dk D0 ns] := fun p hp hx => by
  obtain ⟨q, hq, hxq⟩ := mem_asOf.mp hx
  rw [List.mem_singleton.mp hq] at hxq
  have h1 := h p hp
  rcases List.mem_cons.mp hxq with e | e
  · rw [e] at h1; exact absurd (Nat.lt_trans h1 hne) (Nat.lt_irrefl _)
  · rw [List.mem_singleton.mp e] at h1; exact absurd h1 (Nat.lt_irrefl _)
theorem abc_slice {r : Int} (h0 : 0 ≤ r) (h1 : r < 5) : ∃ n : Nat, 2 ≤ n ∧ n ≤ 6 ∧ Txt.slice (Str.ofString "abcdef") none (some (2 + r)) = txt (List.range n) := by
  have : r = 0 ∨ r = 1 ∨ r = 2 ∨ r = 3 ∨ r = 4 := by omega
  rcases this with rfl | rfl | rfl | rfl | rfl
  · exact ⟨2, by decide, by decide, by decide +kernel⟩
  · exact ⟨3, by decide, by decide, by decide +kernel⟩
  · exact ⟨4, by decide, by decide, by decide +kernel⟩
  · exact ⟨5, by decide, by decide, by decide +kernel⟩
  · exact ⟨6, by decide, by decide, by decide +kernel⟩
section
variable {prog : Program} {w : World} {A : Around} {E : Value → Shared → Prop} {s : Shared} {env : Env} {h₀ : Heap} {L : Addr} {m : Str → Option Value} {news : List (Addr × Obj)} {Q : Value → Shared → Prop}
theorem ci_txt {scope : Scope} {cl : List (Str × Addr)} {x : Str} {elt : Expr} {l : List Nat} {t : Tok} (G : Value → Value → Prop)
    (hh : A.handled = none) (hsz : l.length ≤ 1000) (F : Fr h₀ L s.heap m) (N : News h₀ L s.heap news)
    (elt' : ∀ C (i : Nat) k u s₃ m₃ E', l[i]? = some k → Fr h₀ C s₃.heap m₃ → m₃ x = some (.str (ch k) u) → News h₀ C s₃.heap news → s.heap.StaysIn s₃.heap →
      wpAny (model prog w) A (eval elt (compEnvC scope cl C env)) (fun y s₄ => G (.str (ch k) u) y ∧ Keeps s₃ s₄) E' s₃)
    (done : ∀ D h' tk ys ep vs, Fr h₀ L h' m → News h₀ L h' ((D, { cls := .type "list", data := .seq ys ep }) :: news) → StrsAre vs (l.map ch) → Paired G vs ys.toList → s.heap.StaysIn h' → s.heap.get? D = none →
      Q (.ref D) { s with heap := h', toks := tk }) :
    wpAny (model prog w) A (pyIter (.str (txt l) t)) (fun it s₂ => ∃ I fp wr n P St, it = .ref I ∧ Walks prog w A I fp wr n P St ∧ n ≤ sizeLine ∧ St 0 s₂.heap ∧ (∀ b ∈ fp, b < s₂.heap.objs.size) ∧
      QuietOnC prog w A env scope cl x [] elt wr P (fun _ => true) G s₂ ∧
      (∀ D h' tk ys (vs : List Value), s₂.heap.get? D = none → h'.IsList D ys → h'.PlainList D ys → vs.length = n → (∀ j v, vs[j]? = some v → P j v) → Paired G (vs.filter fun _ => true) ys.toList →
        (∀ b o, b ∉ wr → s₂.heap.get? b = some o → h'.get? b = some o) → Q (.ref D) { s₂ with heap := h', toks := tk })) E s := by
  have hlen : (txt l).cps.size = l.length := txt_len l
  have hat : ∀ {i : Nat} {v : Value}, SignAt (txt l) i v → ∃ k u, l[i]? = some k ∧ v = .str (ch k) u := fun {i v} h => by
    obtain ⟨c, u, h1, rfl⟩ := h
    have h2 : (l.map (97 + ·))[i]? = some c := by simpa [txt] using h1
    rw [List.getElem?_map] at h2
    obtain ⟨k, hk, rfl⟩ := Option.map_eq_some_iff.mp h2
    exact ⟨k, u, hk, rfl⟩
  refine wpAny_pyIter_str fun o St W hst => ?_
  refine ci_any (fun _ => true) G rfl (W A hh) (by rw [hlen, sizeLine_eq]; omega) hst ?_ F N ?_ ?_ ?_
  · intro b hb
    rw [Heap.size_push, List.mem_singleton.mp hb]
    exact Nat.lt_succ_self _
  · intros; exact no_tests (v := .none) (p := fun _ => true) rfl
  · intro C i v s₃ m₃ E' hP _ F₃ hm₃ N₃ st₃
    obtain ⟨k, u, hk, rfl⟩ := hat hP
    exact elt' C i k u s₃ m₃ E' hk F₃ hm₃ N₃ st₃
  · intro D h' tk ys ep us F' N' hn hl hP hG st hD
    rw [List.filter_eq_self.mpr (fun _ _ => rfl)] at hG
    refine done D h' tk ys ep us F' N' (strs_at (by rw [hl, hlen, List.length_map]) fun j v hj => ?_) hG st hD
    obtain ⟨k, u, hk, rfl⟩ := hat (hP j v hj)
    exact ⟨ch k, u, by rw [List.getElem?_map, hk]; rfl, rfl⟩
end
theorem paired_eq {vs ys : List Value} (h : Paired (fun v y => y = v) vs ys) : ys = vs := by
  induction h with
  | nil => rfl
  | cons h1 _ ih => rw [h1, ih]
local macro_rules | `(tactic| k_all) => `(tactic| with_reducible assumption)
theorem st_wd {w : World} {base h h₁ : Heap} {L : Addr} {z : Nat} {Ps : List Piece} {R nE : List (Addr × Obj)} {V : Wd} {oc oh ol : Obj} (S : St w base L h₁ z Ps) (hR : R = re h₁ (asOf Ps)) (hlt : AllLt V.lD R) (N : News base L h nE) (hRn : ∀ p ∈ R, p ∈ nE)
    (m1 : (V.cnt, instObj 482 V.cD) ∈ nE) (m2 : (V.cD, oc) ∈ nE) (k2 : CntD V.hp oc) (m3 : (V.zl, W.listOf #[] 0) ∈ nE) (m4 : (V.hp, instObj 225 V.hD) ∈ nE) (m5 : (V.hD, oh) ∈ nE) (k5 : HpD V.lim V.zl oh) (m6 : (V.lim, instObj 504 V.lD) ∈ nE) (m7 : (V.lD, ol) ∈ nE) (k7 : LimD ol)
    (h1 : @Ne Nat V.cD V.hD) (h2 : @Ne Nat V.lD V.hD) (hge : ∀ x ∈ V.all, @LE.le Nat _ V.lD x) : St w base L h z (.wd V :: Ps) := by
  have S' := S.on (re_on N (hR ▸ hRn))
  refine ⟨fun p hp => ?_, fun x hx => ?_, ?_⟩
  · rcases List.mem_cons.mp hp with rfl | hp
    · exact { cnt := (N _ m1).1, cD := ⟨oc, (N _ m2).1, k2⟩, hp := (N _ m4).1, hD := ⟨oh, (N _ m5).1, k5⟩, ncnt := (N _ m1).2.2, ncD := (N _ m2).2.2, nhp := (N _ m4).2.2, nhD := (N _ m5).2.2, n1 := h1,
              lim := (N _ m6).1, lD := ⟨ol, (N _ m7).1, k7⟩, zl := ⟨#[], 0, (N _ m3).1, Nat.zero_le _⟩, nlim := (N _ m6).2.2, nlD := (N _ m7).2.2, nzl := (N _ m3).2.2, n2 := h2 : WdAt base h V z }
    · exact S'.at_ p hp
  · obtain ⟨p, hp, hxp⟩ := mem_asOf.mp hx
    rcases List.mem_cons.mp hp with rfl | hp
    · simp only [Piece.as, Wd.all, List.mem_cons, List.not_mem_nil, or_false] at hxp
      rcases hxp with rfl | rfl | rfl | rfl | rfl | rfl | rfl
      · exact (N _ m5).2
      · exact (N _ m3).2
      · exact (N _ m1).2
      · exact (N _ m2).2
      · exact (N _ m4).2
      · exact (N _ m6).2
      · exact (N _ m7).2
    · exact S.ok x (mem_asOf.mpr ⟨p, hp, hxp⟩)
  · refine List.pairwise_cons.mpr ⟨fun q hq x hx hy => ?_, S.sep⟩
    obtain ⟨o, ho⟩ := Piece.ex (S.at_ q hq) x hy
    have hm : (x, o) ∈ R := hR ▸ re_mem (mem_asOf.mpr ⟨q, hq, hy⟩) ho
    exact Nat.lt_irrefl _ (Nat.lt_of_le_of_lt (hge x hx) (tb_ltOf hlt _ hm))
theorem and5 {a b c d e : Prop} (h : a ∧ b ∧ c ∧ d ∧ e) : e := h.2.2.2.2
theorem hc_wd {V : Wd} {Ps : List Piece} {cells : List (Addr × Obj)} (hlt : ∀ p ∈ cells, @LT.lt Nat _ p.1 V.lD) (hge : ∀ x ∈ V.all, @LE.le Nat _ V.lD x) (hc : ∀ p ∈ cells, p.1 ∉ asOf Ps) : ∀ p ∈ cells, p.1 ∉ asOf (.wd V :: Ps) := fun p hp hx => by
  obtain ⟨q, hq, hxq⟩ := mem_asOf.mp hx
  rcases List.mem_cons.mp hq with e | hq
  · rw [e] at hxq
    exact Nat.lt_irrefl _ (Nat.lt_of_lt_of_le (hlt p hp) (hge _ hxq))
  · exact hc p hp (mem_asOf.mpr ⟨q, hq, hxq⟩)
theorem St.all {w : World} {g h : Heap} {L : Addr} {z : Nat} {Ps : List Piece} {nE : List (Addr × Obj)} (S : St w g L h z Ps) (N : News g L h nE) (cells : List (Addr × Obj)) (hN : ∀ p ∈ cells, p ∈ nE) (hc : ∀ p ∈ cells, p.1 ∉ asOf Ps) :
    ∃ R, R = re h (asOf Ps) ∧ News g L h (cells ++ R) ∧ ∀ c ∈ cells, ∀ p ∈ R, p.1 ≠ c.1 :=
  ⟨_, rfl, fun p hp => (List.mem_append.mp hp).elim (fun hp => N p (hN p hp)) (fun hp => re_news S.ok p hp), fun c hcc p hp q => hc c hcc (q ▸ (re_get hp).2)⟩
theorem hc_cells {Ps : List Piece} {cells cells' : List (Addr × Obj)} (h : ∀ p ∈ cells, p.1 ∉ asOf Ps) (e : cells.map (·.1) = cells'.map (·.1)) : ∀ p ∈ cells', p.1 ∉ asOf Ps := fun p hp => by
  have : p.1 ∈ cells.map (·.1) := e ▸ List.mem_map_of_mem hp
  obtain ⟨q, hq, e2⟩ := List.mem_map.mp this
  rw [← e2]; exact h q hq
theorem lt4 {d a1 a2 a3 a4 : Addr} {b1 b2 b3 b4 : Obj} (h1 : @LT.lt Nat _ a1 d) (h2 : @LT.lt Nat _ a2 d) (h3 : @LT.lt Nat _ a3 d) (h4 : @LT.lt Nat _ a4 d) : ∀ p ∈ [(a1, b1), (a2, b2), (a3, b3), (a4, b4)], @LT.lt Nat _ p.1 d := by
  intro p hp
  simp only [List.mem_cons, List.not_mem_nil, or_false] at hp
  rcases hp with rfl | rfl | rfl | rfl <;> assumption
theorem le7 {V : Wd} (h1 : @LE.le Nat _ V.lD V.hD) (h2 : @LE.le Nat _ V.lD V.zl) (h3 : @LE.le Nat _ V.lD V.cnt) (h4 : @LE.le Nat _ V.lD V.cD) (h5 : @LE.le Nat _ V.lD V.hp) (h6 : @LE.le Nat _ V.lD V.lim) : ∀ x ∈ V.all, @LE.le Nat _ V.lD x := by
  intro x hx
  simp only [Wd.all, List.mem_cons, List.not_mem_nil, or_false] at hx
  rcases hx with rfl | rfl | rfl | rfl | rfl | rfl | rfl
  · exact h1
  · exact h2
  · exact h3
  · exact h4
  · exact h5
  · exact h6
  · exact Nat.le_refl _
theorem cnt_of {g h : Heap} {L : Addr} {m : Str → Option Value} {x : Addr} (F : Fr g L h m) (_ : m (Str.ofString "counter") = some (.ref x)) : ∃ y, y = x := ⟨x, rfl⟩
theorem ltsz {h : Heap} {a : Addr} {o : Obj} (e : h.get? a = some o) : @LT.lt Nat _ a h.objs.size := Heap.lt_size e
end
section
theorem ch_inj {i j : Nat} (h : ch i = ch j) : i = j := by
  have := congrArg (fun s : Str => s.cps.toList) h
  have h2 : ([97 + i] : List Nat) = [97 + j] := this
  have h3 := List.head_eq_of_cons_eq h2
  omega
theorem ch_nodup {l : List Nat} (h : l.Nodup) : (l.map ch).Nodup := List.Pairwise.map ch (fun _ _ hne e => hne (ch_inj e)) h
def Maps (es : List Ent) (n : Nat) (f : Nat → Nat) : Prop := ∀ k, k < n → (∃ e ∈ es, e.k = ch k) ∧ look es (ch k) = ch (f k)
theorem look_of {es : List Ent} (hn : (es.map (·.k)).Nodup) {e : Ent} (he : e ∈ es) : look es e.k = e.x := by
  induction es with
  | nil => cases he
  | cons a r ih =>
    rw [List.map_cons, List.nodup_cons] at hn
    rcases List.mem_cons.mp he with rfl | he
    · simp [look]
    · have hne : ¬ a.k = e.k := fun q => hn.1 (q ▸ List.mem_map.mpr ⟨e, he, rfl⟩)
      have := ih hn.2 he
      simpa [look, List.find?_cons, hne] using this
theorem maps_of {es : List Ent} {n : Nat} {f : Nat → Nat} (hn : (es.map (·.k)).Nodup) (h : ∀ k, k < n → (ch k, ch (f k)) ∈ prs es) : Maps es n f := fun k hk => by
  obtain ⟨e, he, q⟩ := List.mem_map.mp (h k hk)
  injection q with q1 q2
  exact ⟨⟨e, he, q1⟩, by rw [← q1, look_of hn he, q2]⟩
theorem keys_prs (es : List Ent) : es.map (·.k) = (prs es).map (·.1) := by simp [prs]
theorem xs_prs (es : List Ent) : es.map (·.x) = (prs es).map (·.2) := by simp [prs]
theorem prs_fst {es : List Ent} {xs ys : List Str} (h : prs es = xs.zip ys) (hl : xs.length = ys.length) : es.map (·.k) = xs := by
  rw [keys_prs, h, List.map_fst_zip (Nat.le_of_eq hl)]
theorem prs_snd {es : List Ent} {xs ys : List Str} (h : prs es = xs.zip ys) (hl : xs.length = ys.length) : es.map (·.x) = ys := by
  rw [xs_prs, h, List.map_snd_zip (Nat.le_of_eq hl.symm)]
theorem app_get {f : List Nat} {k : Nat} (hk : k < f.length) : f[k]? = some (app f k) := by
  rw [app, List.getD_eq_getElem?_getD, List.getElem?_eq_getElem hk]; rfl
theorem zip_at {n : Nat} {f : List Nat} (hl : f.length = n) {k : Nat} (hk : k < n) : (ch k, ch (app f k)) ∈ ((List.range n).map ch).zip (f.map ch) := by
  refine List.mem_iff_getElem?.mpr ⟨k, ?_⟩
  rw [List.getElem?_zip_eq_some]
  refine ⟨?_, ?_⟩
  · rw [List.getElem?_map, List.getElem?_range hk]; rfl
  · rw [List.getElem?_map, app_get (by omega)]; rfl
theorem maps_laid {es : List Ent} {n : Nat} {f : List Nat} (hf : f.Perm (List.range n)) (h : prs es = ((List.range n).map ch).zip (f.map ch)) : Maps es n (app f) := by
  have hl : f.length = n := by rw [hf.length_eq, List.length_range]
  refine maps_of ?_ fun k hk => by rw [h]; exact zip_at hl hk
  rw [prs_fst h (by simp [hl])]
  exact ch_nodup List.nodup_range
theorem maps_turned {es es' : List Ent} {n : Nat} {f : List Nat} (hf : f.Perm (List.range n)) (h : prs es = ((List.range n).map ch).zip (f.map ch)) (h' : prs es' = (es.map fun e => (e.x, e.k)).reverse) : Maps es' n (fun v => f.idxOf v) := by
  have hl : f.length = n := by rw [hf.length_eq, List.length_range]
  have e2 := prs_snd h (by simp [hl])
  have e1 : es'.map (·.k) = (es.map (·.x)).reverse := by
    rw [keys_prs, h', List.map_reverse, List.map_map]; rfl
  refine maps_of ?_ fun k hk => ?_
  · rw [e1, e2]
    exact (List.reverse_perm _).nodup_iff.mpr (ch_nodup (hf.nodup_iff.mpr List.nodup_range))
  · have hk' : k ∈ f := hf.symm.subset (List.mem_range.mpr hk)
    have hi : f.idxOf k < f.length := List.idxOf_lt_length_of_mem hk'
    have ha : app f (f.idxOf k) = k := by
      have := app_get hi
      rw [List.getElem?_eq_getElem hi, List.getElem_idxOf hi] at this
      exact (Option.some.inj this).symm
    have hz := zip_at hl (k := f.idxOf k) (by omega)
    rw [ha, ← h] at hz
    rw [h', List.mem_reverse]
    obtain ⟨e, he, q⟩ := List.mem_map.mp hz
    injection q with q1 q2
    exact List.mem_map.mpr ⟨e, he, by rw [q1, q2]⟩
theorem maps_list {es : List Ent} {n : Nat} {f : Nat → Nat} (H : Maps es n f) {l : List Nat} (hl : ∀ k ∈ l, k < n) : (l.map ch).map (look es) = (l.map f).map ch := by
  rw [List.map_map, List.map_map]
  exact List.map_congr_left fun k hk => (H k (hl k hk)).2
theorem maps_keys {es : List Ent} {n : Nat} {f : Nat → Nat} (H : Maps es n f) {l : List Nat} (hl : ∀ k ∈ l, k < n) : ∀ k ∈ l.map ch, ∃ e ∈ es, e.k = k := fun x hx => by
  obtain ⟨k, hk, rfl⟩ := List.mem_map.mp hx
  exact (H k (hl k hk)).1
theorem range_app {n : Nat} {f : List Nat} (hl : f.length = n) : (List.range n).map (app f) = f := by
  refine List.ext_getElem? fun k => ?_
  by_cases hk : k < n
  · rw [List.getElem?_map, List.getElem?_range hk, app_get (by omega)]; rfl
  · rw [List.getElem?_eq_none (by simp; omega), List.getElem?_eq_none (by omega)]
theorem idx_app {n : Nat} {f : List Nat} (hf : f.Perm (List.range n)) {k : Nat} (hk : k < n) : f.idxOf (app f k) = k := by
  have hl : f.length = n := by rw [hf.length_eq, List.length_range]
  have hnd : f.Nodup := hf.nodup_iff.mpr List.nodup_range
  have h := app_get (f := f) (k := k) (by omega)
  have hk' : k < f.length := by omega
  rw [List.getElem?_eq_getElem hk'] at h
  have e : f[k] = app f k := Option.some.inj h
  rw [← e]
  exact hnd.idxOf_getElem k hk'
theorem app_lt {n : Nat} {f : List Nat} (hf : f.Perm (List.range n)) {k : Nat} (hk : k < n) : app f k < n := by
  have hl : f.length = n := by rw [hf.length_eq, List.length_range]
  have h := app_get (f := f) (k := k) (by omega)
  exact List.mem_range.mp (hf.subset (List.mem_of_getElem? h))
theorem idx_lt {n : Nat} {f : List Nat} (hf : f.Perm (List.range n)) {k : Nat} (hk : k < n) : f.idxOf k < n := by
  have hl : f.length = n := by rw [hf.length_eq, List.length_range]
  rw [← hl]
  exact List.idxOf_lt_length_of_mem (hf.symm.subset (List.mem_range.mpr hk))
theorem st_thr {w : World} {dp un : Nat} {fr : Option (List Env)} {gd : Option (List Code)} {s : Shared} {base : Heap} {mean : ExcName → Option Value} {mg mb : Str → Option Value} {Q E : Value → Shared → Prop} {L : Addr} {m : Str → Option Value} {z : Nat} {Ps : List Piece}
    {a d tb nl : Addr} {es : List Ent} {n : Nat} {f : Nat → Nat} {l : List Nat} (X : (hd.heap_1 w.params).In base) (T : TP mean mg mb base) (F : Fr base L s.heap m) (hdp : dp + 30 < recursionLimit) (hun : un + 300 < cLine)
    (S : St w base L s.heap z Ps) (hh : Piece.hash a d tb es ∈ Ps) (hx : Piece.sl nl (l.map ch) ∈ Ps) (M : Maps es n f) (hl : ∀ k ∈ l, k < n) (hsz : l.length ≤ 6)
    (hret : ∀ D h' tk', Call w base s.heap h' z Ps [.sl D ((l.map f).map ch)] → Q (.ref D) { s with heap := h', toks := tk' }) :
    wpAny (model PySem.Challenge.rw_sz0091_01.row.prog w) (AA dp un fr gd) (call (.ref 551) [.ref a, .ref nl]) Q E s :=
  st_through X T F hdp hun S hh hx (maps_keys M hl) (by rw [List.length_map]; exact hsz) fun D h' tk' C => hret D h' tk' (maps_list M hl ▸ C)
end
section
open PyProof.V PySem.Spec
def okS (ns : List Str) : Prop := ∀ x ∈ ns, PyData.strOk x = true
theorem ok_ch {l : List Nat} (h : ∀ k ∈ l, k < 6) : okS (l.map ch) := fun x hx => by
  obtain ⟨k, hk, rfl⟩ := List.mem_map.mp hx
  have := h k hk
  have := lt6 k this
  rcases this with rfl | rfl | rfl | rfl | rfl | rfl <;> decide +kernel
theorem se_canLayAll0 : ∀ ns : List Str, okS ns → PyData.canLayAll0 (ns.map PyData.str) = true
  | [], _ => rfl
  | a :: r, h => by simp [PyData.canLayAll0, PyData.canLay0, se_canLayAll0 r (fun x hx => h x (.tail _ hx)), h a (.head _)]
theorem se_depthAll : ∀ ns : List Str, PyData.depthAll (ns.map PyData.str) = 0
  | [] => rfl
  | _ :: r => by simp [PyData.depthAll, PyData.depth, se_depthAll r]
theorem se_shaped (ns : List Str) (h : okS ns) : SeqAt.shaped (.list (ns.map PyData.str)) = true := by
  simp [SeqAt.shaped, PyData.canLay0, PyData.depth, se_canLayAll0 ns h, se_depthAll]
theorem se_sameAll : ∀ ns ms : List Str, PySem.Spec.sameAll (ns.map PyData.str) (ms.map PyData.str) = decide (ns = ms)
  | [], [] => by simp [PySem.Spec.sameAll]
  | [], _ :: _ => by simp [PySem.Spec.sameAll]
  | _ :: _, [] => by simp [PySem.Spec.sameAll]
  | a :: r, b :: t => by
    simp only [List.map_cons, PySem.Spec.sameAll, PySem.Spec.same, se_sameAll r t]
    by_cases h : a = b <;> by_cases h' : r = t <;> simp [h, h']
theorem se_same (ns ms : List Str) : PySem.Spec.same (.list (ns.map PyData.str)) (.list (ms.map PyData.str)) = decide (ns = ms) := by
  simp only [PySem.Spec.same]; exact se_sameAll ns ms
theorem se_carried : ∀ {vs : List Value} {ns : List Str}, StrsAre vs ns → CarriedAll vs (ns.map PyData.str)
  | _, _, .nil => .nil
  | _, _, .cons _ t r => .cons (.str _ t) (se_carried r)
section
variable {prog : Program} {w : World} {A : Around} {E : Value → Shared → Prop} {s : Shared} {a b : Addr} {xs ys : List Value} {ns ms : List Str} {Q : Value → Shared → Prop} {base : Heap} {L : Addr} {z : Nat} {Ps : List Piece}
theorem se_ne (ha : s.heap.IsList a xs.toArray) (hb : s.heap.IsList b ys.toArray) (hi : StrsAre xs ns) (hj : StrsAre ys ms) (oi : okS ns) (oj : okS ms) (hu : A.units + 64 < cLine) (h : Q (.bool (!decide (ns = ms))) s) :
    wpAny (model prog w) A (compareOp .NotEq (.ref a) (.ref b)) Q E s :=
  ne_dataH_same (reads_newData ha (se_carried hi)) (reads_newData hb (se_carried hj)) (se_shaped _ oi) (se_shaped _ oj) hu (SeqAt.noMix_of_shape (.list .str) rfl _ _ (list_map_has fun _ => rfl) (list_map_has fun _ => rfl)) (by rw [se_same]; exact h)
theorem st_ne {l r : List Nat} (S : St w base L s.heap z Ps) (ha : Piece.sl a (l.map ch) ∈ Ps) (hb : Piece.sl b (r.map ch) ∈ Ps) (ol : ∀ k ∈ l, k < 6) (or : ∀ k ∈ r, k < 6) (hu : A.units + 64 < cLine) (h : Q (.bool (!decide (l = r))) s) :
    wpAny (model prog w) A (compareOp .NotEq (.ref a) (.ref b)) Q E s := by
  obtain ⟨_, h1, h2⟩ := sl_list (S.at_ _ ha)
  obtain ⟨_, h3, h4⟩ := sl_list (S.at_ _ hb)
  refine se_ne h1 h3 h2 h4 (ok_ch ol) (ok_ch or) hu ?_
  have : (l.map ch = r.map ch) ↔ l = r := ⟨fun e => List.map_inj_right (fun _ _ q => ch_inj q) |>.mp e, fun e => by rw [e]⟩
  rw [decide_eq_decide.mpr this]; exact h
theorem st_neF {l r : List Nat} (S : St w base L s.heap z Ps) (ha : Piece.sl a (l.map ch) ∈ Ps) (hb : Piece.sl b (r.map ch) ∈ Ps) (ol : ∀ k ∈ l, k < 6) (e : l = r) (hu : A.units + 64 < cLine) (h : Q (.bool false) s) :
    wpAny (model prog w) A (compareOp .NotEq (.ref a) (.ref b)) Q E s := st_ne S ha hb ol (e ▸ ol) hu (by simpa [e] using h)
def isS (k : Str) : Value → Bool
  | .str x _ => x.cps.toList == k.cps.toList
  | _ => false
theorem isS_eq {k : Str} {t : Tok} {vs : List Value} {xs : List Str} (h : StrsAre vs xs) : ∀ y, y ∈ vs → MeetsSeq.EqGives y (.str k t) (isS k y) := by
  induction h with
  | nil => intro y hy; cases hy
  | cons x u _ ih =>
    intro y hy
    rcases List.mem_cons.mp hy with rfl | hy
    · exact SeqRoads2.EqGives.str x k u t
    · exact ih y hy
theorem idx_names {D : Addr} {its : Array Value} {n ep i : Nat} {t : Tok} (hget : s.heap.get? D = some { cls := .type "list", data := .seq its ep }) (hs : StrsAre its.toList ((List.range n).map ch)) (hi : i < n) (hn : n ≤ 1000)
    (h : Q (.int i s.toks) { s with toks := s.toks + 1 }) : wpAny (model prog w) A (call (.builtin "list.index") [.ref D, .str (ch i) t]) Q E s := by
  have hl : its.toList.length = n := by rw [strs_len hs]; simp
  have hsz : its.size = n := by rw [← hl]; exact Array.length_toList.symm
  have hat : ∀ {j : Nat} (hj : j < its.size), isS (ch i) its[j] = decide (j = i) := fun {j} hj => by
    have e1 : its.toList[j]? = some its[j] := by simp [hj]
    obtain ⟨x, u, e2, e3⟩ := strs_get hs e1
    rw [List.getElem?_map, List.getElem?_range (by omega)] at e3
    cases e3
    rw [e2]
    show ((ch j).cps.toList == (ch i).cps.toList) = _
    by_cases hji : j = i
    · subst hji; simp
    · have : (ch j).cps.toList ≠ (ch i).cps.toList := fun e => hji (ch_inj (congrArg (fun l : List Nat => (⟨l.toArray⟩ : Str)) e))
      rw [decide_eq_false hji]
      exact beq_eq_false_iff_ne.mpr this
  refine call_meets PySem.F.slot_list_index ⟨_, hget, rfl⟩ PySem.F.entry_list_index (PySem.F.args_list_index_2 _ _)
    (MeetsSeq.list_index D its ep (.str (ch i) t) (isS (ch i)) (fun y hy => isS_eq hs y (by simpa using hy)) i (by omega) (by omega) ?_ fun j hj hlt => ?_) ⟨hget, h⟩
  · rw [hat]; simp
  · rw [hat]; exact decide_eq_false (by omega)
theorem getm_list {D : Addr} {its : Array Value} {ep : Nat} {name : Str} {id : String} {pl : Sem Bool} {Q : Value × List Value → Shared → Prop} (hget : s.heap.get? D = some { cls := .type "list", data := .seq its ep }) (slot : Slot "list" name id) (hty : typeOf (.builtin id) = pure (.type "method_descriptor"))
    (h : Q (.builtin id, [.ref D]) s) : wpAny (model prog w) A (getMethod (.ref D) name pl) Q E s :=
  getMethod_builtin ⟨_, hget, rfl⟩ PySem.F.plainAttrs_list slot hty (fun a e => by cases e; exact ⟨_, hget, rfl⟩) h
end
def OtherG (gs : List Nat) (v y : Value) : Prop := ∀ k t, v = .str (ch k) t → ∃ u, y = .str (ch (app gs k)) u
theorem OtherG.mk {gs : List Nat} {k : Nat} {t u : Tok} : OtherG gs (.str (ch k) t) (.str (ch (app gs k)) u) := fun k' t' e => by
  injection e with e1 e2
  rw [ch_inj e1]; exact ⟨_, rfl⟩
theorem other_map {gs fs : List Nat} {vs ys : List Value} (hs : StrsAre vs (fs.map ch)) (hp : Paired (OtherG gs) vs ys) : StrsAre ys ((fs.map (app gs)).map ch) := by
  induction fs generalizing vs ys with
  | nil => cases hs; cases hp; exact .nil
  | cons a r ih =>
    rw [List.map_cons] at hs
    cases hs with | cons _ t hs =>
    cases hp with | cons h1 h2 =>
    obtain ⟨u, rfl⟩ := h1 a t rfl
    exact .cons _ _ (ih hs h2)
theorem filter_true {vs : List Value} : vs.filter (fun _ => true) = vs := List.filter_eq_self.mpr fun _ _ => rfl
theorem map_idx {n : Nat} {f : List Nat} (hf : f.Perm (List.range n)) {l : List Nat} (hl : ∀ k ∈ l, k < n) : (l.map (app f)).map (fun v => f.idxOf v) = l := by
  rw [List.map_map]
  exact (List.map_congr_left fun k hk => idx_app hf (hl k hk)).trans (List.map_id _)
theorem back_one {n : Nat} {f : List Nat} (hf : f.Perm (List.range n)) : f.map (fun v => f.idxOf v) = List.range n := by
  have hl : f.length = n := by rw [hf.length_eq, List.length_range]
  have := map_idx hf (l := List.range n) fun k hk => List.mem_range.mp hk
  rwa [range_app hl] at this
theorem xs_nodup {es : List Ent} {n : Nat} {f : List Nat} (hf : f.Perm (List.range n)) (h : prs es = ((List.range n).map ch).zip (f.map ch)) : (es.map (·.x)).Nodup := by
  have hl : f.length = n := by rw [hf.length_eq, List.length_range]
  rw [prs_snd h (by simp [hl])]
  exact ch_nodup (hf.nodup_iff.mpr List.nodup_range)
end
section
theorem St.sub {w : World} {g h : Heap} {L : Addr} {z : Nat} {Ps Ps' : List Piece} (S : St w g L h z Ps) (hs : Ps'.Sublist Ps) : St w g L h z Ps' where
  at_ := fun p hp => S.at_ p (hs.subset hp)
  ok := fun x hx => by
    obtain ⟨p, hp, hxp⟩ := mem_asOf.mp hx
    exact S.ok x (mem_asOf.mpr ⟨p, hs.subset hp, hxp⟩)
  sep := S.sep.sublist hs
theorem re_ne {h : Heap} {As : List Addr} {R cells : List (Addr × Obj)} (hR : R = re h As) (hc : ∀ p ∈ cells, p.1 ∉ As) : ∀ c ∈ cells, ∀ p ∈ R, p.1 ≠ c.1 := fun c hcc p hp q => hc c hcc (q ▸ (re_get (hR ▸ hp)).2)
theorem hc_sub {Ps Ps' : List Piece} {cells : List (Addr × Obj)} (hs : Ps'.Sublist Ps) (h : ∀ p ∈ cells, p.1 ∉ asOf Ps) : ∀ p ∈ cells, p.1 ∉ asOf Ps' := fun p hp hx => by
  obtain ⟨q, hq, hxq⟩ := mem_asOf.mp hx
  exact h p hp (mem_asOf.mpr ⟨q, hs.subset hq, hxq⟩)
structure WSt where
  o : Obj
  t : Nat
  tk : Tok
  hl : Addr
  ex : List Piece
  R : List (Addr × Obj)
theorem pw_lt {n : Nat} {f : List Nat} (hf : f.Perm (List.range n)) : ∀ t, ∀ k ∈ pw f t, k < n
  | 0, k, hk => by
    have hl : f.length = n := by rw [hf.length_eq, List.length_range]
    have := List.mem_range.mp (show k ∈ List.range f.length from hk)
    omega
  | t + 1, k, hk => by
    obtain ⟨j, hj, rfl⟩ := List.mem_map.mp (show k ∈ (pw f t).map (app f) from hk)
    exact app_lt hf (pw_lt hf t j hj)
theorem pw_len {f : List Nat} : ∀ t, (pw f t).length = f.length
  | 0 => List.length_range
  | t + 1 => by show ((pw f t).map (app f)).length = _; rw [List.length_map, pw_len t]
theorem pw_one {n : Nat} {f : List Nat} (hf : f.Perm (List.range n)) : pw f 1 = f := by
  have hl : f.length = n := by rw [hf.length_eq, List.length_range]
  show (List.range f.length).map (app f) = f
  rw [hl, range_app hl]
structure Good (n : Nat) (f : List Nat) : Prop where
  sum : (roundsR (prN f)).sum = n
  rng : ∀ r ∈ roundsR (prN f), 1 ≤ r ∧ r ≤ 6
  len : (roundsR (prN f)).length ≤ n
  odd : inv f % 2 = (n - (roundsR (prN f)).length) % 2
  lcm : ∀ t, 1 ≤ t → t ≤ 6 → (pw f t = List.range n ↔ ∀ r ∈ roundsR (prN f), t % r = 0)
  back : ∃ t, 1 ≤ t ∧ t ≤ 6 ∧ pw f t = List.range n
  s1 : still f 1 = (roundsR (prN f)).count 1
  s2 : still f 2 = 2 * (roundsR (prN f)).count 2 + (roundsR (prN f)).count 1
  s3 : still f 3 = 3 * (roundsR (prN f)).count 3 + (roundsR (prN f)).count 1
  s4 : still f 4 = 4 * (roundsR (prN f)).count 4 + still f 2
  s5 : still f 5 = 5 * (roundsR (prN f)).count 5 + (roundsR (prN f)).count 1
  s6 : still f 6 + (roundsR (prN f)).count 1 = 6 * (roundsR (prN f)).count 6 + still f 2 + still f 3
theorem good_of {n : Nat} (h2 : 2 ≤ n) (h6 : n ≤ 6) {f : List Nat} (hf : f.Perm (List.range n)) : Good n f := by
  have h := good_all h2 h6 hf
  simp only [good, Bool.and_eq_true, beq_iff_eq, decide_eq_true_eq, List.all_eq_true, List.any_eq_true, List.mem_range] at h
  obtain ⟨⟨⟨⟨⟨⟨⟨⟨⟨⟨⟨a1, a2⟩, a3⟩, a4⟩, a5⟩, a6⟩, b1⟩, b2⟩, b3⟩, b4⟩, b5⟩, b6⟩ := h
  refine ⟨a1, a2, a3, a4, fun t h1 ht => ?_, ?_, b1, b2, b3, b4, b5, b6⟩
  · have := a5 (t - 1) (by omega)
    have e : t - 1 + 1 = t := by omega
    rw [e] at this
    rw [← decide_eq_true_iff (p := pw f t = List.range n), this, List.all_eq_true]
    exact forall_congr' fun r => forall_congr' fun _ => beq_iff_eq
  · obtain ⟨t, ht, e⟩ := a6
    exact ⟨t + 1, by omega, by omega, e⟩
theorem least_le {n : Nat} {f : List Nat} (G : Good n f) {t : Nat} (hmin : ∀ j, 1 ≤ j → j < t → pw f j ≠ List.range n) : t ≤ 6 := by
  obtain ⟨j, h1, h6, e⟩ := G.back
  refine Nat.le_of_not_lt fun h => hmin j h1 (by omega) e
theorem fr_name {g h : Heap} {L : Addr} {m : Str → Option Value} (F : Fr g L h m) : ∃ m', m' = m ∧ Fr g L h m' := ⟨m, rfl, F⟩
theorem cell_tok {o : Obj} {k : Int} {t : Tok} (h : o.data = .cell (some (.int k t))) : ∃ t', o.data = .cell (some (.int k t')) := ⟨t, h⟩
end
section
section
variable {α β : Type} [DecidableEq α] [DecidableEq β] (φ : α → β) (hφ : ∀ x y, φ x = φ y → x = y)
def mp2 (p : α × α) : β × β := (φ p.1, φ p.2)
include hφ
theorem find_mp (ps : List (α × α)) (k : α) : (ps.map (mp2 φ)).find? (fun p => decide (p.1 = φ k)) = (ps.find? fun p => decide (p.1 = k)).map (mp2 φ) := by
  rw [List.find?_map]
  congr 1
  refine congrArg (fun f => ps.find? f) (funext fun p => ?_)
  show decide (φ p.1 = φ k) = decide (p.1 = k)
  exact decide_eq_decide.mpr ⟨hφ _ _, congrArg φ⟩
theorem filter_mp (ps : List (α × α)) (k : α) : (ps.map (mp2 φ)).filter (fun q => decide (q.1 ≠ φ k)) = (ps.filter fun q => decide (q.1 ≠ k)).map (mp2 φ) := by
  rw [List.filter_map]
  congr 1
  refine congrArg (fun f => ps.filter f) (funext fun p => ?_)
  show decide (φ p.1 ≠ φ k) = decide (p.1 ≠ k)
  exact decide_eq_decide.mpr (not_congr ⟨hφ _ _, congrArg φ⟩)
theorem chase_mp : ∀ (f : Nat) (ps : List (α × α)) (k : α) (m : Nat), chase f (ps.map (mp2 φ)) (φ k) m = ((chase f ps k m).1.map (mp2 φ), (chase f ps k m).2)
  | 0, _, _, _ => rfl
  | f + 1, ps, k, m => by
    unfold chase
    rw [find_mp φ hφ]
    cases q : ps.find? (fun p => decide (p.1 = k)) with
    | none => rfl
    | some p =>
      show chase f _ (φ p.2) (m + 1) = _
      rw [filter_mp φ hφ, chase_mp f]
theorem rounds_mp : ∀ (f : Nat) (ps : List (α × α)), roundsF f (ps.map (mp2 φ)) = roundsF f ps
  | 0, _ => by simp [roundsF]
  | _ + 1, [] => rfl
  | f + 1, p :: r => by
    have e : chaseR ((p :: r).map (mp2 φ)) (φ p.1) 0 = ((chaseR (p :: r) p.1 0).1.map (mp2 φ), (chaseR (p :: r) p.1 0).2) := by
      unfold chaseR
      rw [List.length_map]
      exact chase_mp φ hφ _ _ _ _
    show ((chaseR ((p :: r).map (mp2 φ)) (φ p.1) 0).2 - 1) :: roundsF f (chaseR ((p :: r).map (mp2 φ)) (φ p.1) 0).1 = _
    rw [e, rounds_mp f]; rfl
theorem roundsR_mp (ps : List (α × α)) : roundsR (ps.map (mp2 φ)) = roundsR ps := by
  unfold roundsR
  rw [List.length_map, rounds_mp φ hφ]
end
theorem rounds_of {es : List Ent} {n : Nat} {f : List Nat} (hl : f.length = n) (h : prs es = ((List.range n).map ch).zip (f.map ch)) : roundsR (prs es) = roundsR (prN f) := by
  have e : ((List.range n).map ch).zip (f.map ch) = (prN f).map (mp2 ch) := by
    rw [prN, hl, List.zip_map]; rfl
  rw [h, e]
  exact roundsR_mp ch (fun _ _ => ch_inj) _
theorem sum_nat : ∀ R : List Nat, (R.map Int.ofNat).sum = (R.sum : Int)
  | [] => rfl
  | a :: r => by rw [List.map_cons, List.sum_cons, List.sum_cons, sum_nat r]; simp
theorem sum_perm {a b : List Int} (h : a.Perm b) : a.sum = b.sum := by
  induction h with
  | nil => rfl
  | cons x _ ih => rw [List.sum_cons, List.sum_cons, ih]
  | swap x y l => simp only [List.sum_cons]; omega
  | trans _ _ h1 h2 => exact h1.trans h2
theorem sum_of {ns : List Int} {R : List Nat} (h : ns.Perm (R.map Int.ofNat)) : ns.sum = (R.sum : Int) := (sum_perm h).trans (sum_nat R)
theorem mem_of {ns : List Int} {R : List Nat} (h : ns.Perm (R.map Int.ofNat)) {r : Int} (hr : r ∈ ns) : ∃ k ∈ R, r = (k : Int) := by
  obtain ⟨k, hk, rfl⟩ := List.mem_map.mp (h.subset hr)
  exact ⟨k, hk, rfl⟩
theorem ints_get {vs : List Value} {ns : List Int} (h : IntsAre vs ns) : ∀ {i : Nat} {v : Value}, vs[i]? = some v → ∃ k t, v = .int k t ∧ k ∈ ns := by
  induction h with
  | nil => intro i v e; simp at e
  | cons y t _ ih =>
    intro i v e
    cases i with
    | zero => simp at e; exact ⟨y, t, e.symm, .head _⟩
    | succ j =>
      obtain ⟨k, u, e1, e2⟩ := ih (by simpa using e)
      exact ⟨k, u, e1, .tail _ e2⟩
theorem paired_nil {G : Value → Value → Prop} {vs : List Value} {ys : Array Value} (h : Paired G (vs.filter fun _ => false) ys.toList) : ys = #[] := by
  have e : vs.filter (fun _ => false) = [] := List.filter_eq_nil_iff.mpr (by simp)
  rw [e] at h
  have := paired_len h
  exact Array.eq_empty_of_size_eq_zero (by simpa using this.symm)
theorem fmod_nat (a b : Nat) : ((a : Int).fmod (b : Int)) = ((a % b : Nat) : Int) := by
  rw [Int.fmod_eq_emod_of_nonneg _ (by omega)]; rfl
end
section
section
variable {prog : Program} {w : World} {A : Around} {E : Value → Shared → Prop} {env : Env}
theorem newEnv_one {s : Shared} {scope : Scope} {g : Addr} {cl : List (Str × Addr)} {q : Str} {x : Str} {Q : Env → Shared → Prop} (h1 : ∀ n, cellsFrom n scope.names cl = (x, n) :: cl) (h2 : ∀ h, pushCells h scope.names = h.push { cls := .type "cell", data := .cell none })
    (hQ : Q { scope, locals := s.heap.objs.size, globals := g, cells := (x, s.heap.objs.size + 1) :: cl, qual := q, func := none, code := env.code, frame := env.frame, builtins := env.builtins }
      { s with heap := (s.heap.push { cls := .type "dict", data := .dict #[] }).push { cls := .type "cell", data := .cell none } }) :
    wpAny (model prog w) A (newFunctionEnv scope g cl [] q none .none (some env)) Q E s := by
  simp only [newFunctionEnv, Option.isSome_some, if_true]
  refine wpAny_bind (wpAny_alloc ?_)
  refine wpAny_bind (wpAny_layCells _ (fun name kind cells => by cases hkc : kind == NameKind.cell <;> simp [hkc]) _ _ _ _ ?_)
  rw [show ({ s with heap := s.heap.push { cls := .type "dict", data := .dict #[] } } : Shared).heap.objs.size = s.heap.objs.size + 1 from Heap.size_push .., h1, h2]
  exact wpAny_bind (wpAny_pure (wpAny_pure hQ))
theorem comp_cell_none {s : Shared} {elt iter : Expr} {x : Str} {px : Pos} {ifs : List Expr} {scope : Scope} {cl : List (Str × Addr)} {pos : Pos} {Q : Value → Shared → Prop}
    (hclos : closureFor scope env = pure cl) (hkind : scope.kind = .function) (hnames : ∀ y ∈ scope.names, y.2 = .local → scope.names.lookup y.1 = some .local)
    (h1 : ∀ n, cellsFrom n scope.names cl = (x, n) :: cl) (h2 : ∀ h, pushCells h scope.names = h.push { cls := .type "cell", data := .cell none })
    (hl : ∀ C cells, (compEnvC scope cells C env).kindOf x = some .cell)
    (h : wpAny (model prog w) A (eval iter env) (fun xv s₁ => wpAny (model prog w) A (pyIter xv) (fun it s₂ => ∃ I fp wr n P St, it = .ref I ∧ Walks prog w A I fp wr n P St ∧ St 0 s₂.heap ∧ (∀ b ∈ fp, b < s₂.heap.objs.size) ∧
      (∀ C i v s₃ m₃ E', s₂.heap.objs.size ≤ C → i < n → P i v → s₃.heap.Ns C m₃ → s₃.heap.IsCell (C + 1) (some v) → (∀ b o, b ∉ wr → s₂.heap.get? b = some o → s₃.heap.get? b = some o) →
        wpAny (model prog w) A (forIn ifs true fun c r => if r = true then do let ok ← isTrue c (compEnvC scope ((x, C + 1) :: cl) C env) (eval c (compEnvC scope ((x, C + 1) :: cl) C env)); pure (ForInStep.yield ok) else pure (ForInStep.yield r))
          (fun ok s₄ => ok = false ∧ Keeps s₃ s₄) E' s₃) ∧
      (∀ D h' tk, s₂.heap.get? D = none → h'.PlainList D #[] → (∀ b o, b ∉ wr → s₂.heap.get? b = some o → h'.get? b = some o) → Q (.ref D) { s₂ with heap := h', toks := tk })) E s₁) E s)
    (hs : ∀ x, foldedSetIterable iter env x = pure x := by intro _; rfl) :
    wpAny (model prog w) A (eval (.ListComp elt [⟨.Name x px, iter, ifs, 0⟩] scope pos) env) Q E s := by
  rw [eval_ListComp]
  refine wpAny_comprehension_free (use := none) rfl hs hclos hkind hnames (wpAny_mono h (fun xv s₁ h₁ => wpAny_mono h₁ (fun it s₂ hh => ?_) fun _ _ e => e) fun _ _ e => e)
  clear h
  obtain ⟨I, fp, wr, n, P, St, rfl, W, hst, hfp, ht, hQ⟩ := hh
  refine wpAny_newObj_type (newEnv_one h1 h2 ?_)
  dsimp only
  generalize hH2 : s₂.heap.push { cls := .type "list", dict := none, data := .seq ([] : List Value).toArray } = H2
  have hC : H2.objs.size = s₂.heap.objs.size + 1 := by rw [← hH2, Heap.size_push]
  generalize hH3 : H2.push { cls := .type "dict", data := .dict #[] } = H3
  have hC3 : H3.objs.size = H2.objs.size + 1 := by rw [← hH3, Heap.size_push]
  generalize hH4 : H3.push { cls := .type "cell", data := .cell none } = H4
  have up34 : ∀ {b o}, H3.get? b = some o → H4.get? b = some o := fun e => hH4 ▸ Heap.get?_push_of_some _ e
  have up23 : ∀ {b o}, H2.get? b = some o → H3.get? b = some o := fun e => hH3 ▸ Heap.get?_push_of_some _ e
  have up12 : ∀ {b o}, s₂.heap.get? b = some o → H2.get? b = some o := fun e => hH2 ▸ Heap.get?_push_of_some _ e
  have iD : H4.PlainList s₂.heap.objs.size #[] := ⟨_, up34 (up23 (hH2 ▸ Heap.get?_push_size _ rfl))⟩
  have iC : H4.Ns H2.objs.size fun _ => none := (hH3 ▸ Heap.Ns.new H2 (.type "dict") : H3.Ns H2.objs.size fun _ => none).at' fun _ e => up34 e
  have ic : H4.IsCell (H2.objs.size + 1) none := ⟨_, hC3 ▸ hH4 ▸ Heap.get?_push_size _ rfl, rfl⟩
  have old : ∀ b o, s₂.heap.get? b = some o → H4.get? b = some o := fun b o e => up34 (up23 (up12 e))
  have lo : ∀ {b : Addr}, b < s₂.heap.objs.size → b ≠ s₂.heap.objs.size ∧ b ≠ H2.objs.size ∧ b ≠ H2.objs.size + 1 := fun {b} hb => by
    have hb' : @LT.lt Nat _ b s₂.heap.objs.size := hb
    refine ⟨Nat.ne_of_lt hb', ?_, ?_⟩
    · rw [hC]; exact Nat.ne_of_lt (Nat.lt_succ_of_lt hb')
    · rw [hC]; exact Nat.ne_of_lt (Nat.lt_succ_of_lt (Nat.lt_succ_of_lt hb'))
  have nf : ∀ {a : Addr}, @LE.le Nat _ s₂.heap.objs.size a → a ∉ fp ∧ a ∉ wr := fun {a} ha =>
    ⟨fun hm => Nat.lt_irrefl _ (Nat.lt_of_lt_of_le (hfp _ hm) ha), fun hm => Nat.lt_irrefl _ (Nat.lt_of_lt_of_le (hfp _ (W.sub _ hm)) ha)⟩
  have nD := nf (Nat.le_refl _)
  have nC := nf (a := H2.objs.size) (by rw [hC]; exact Nat.le_succ _)
  have nc := nf (a := H2.objs.size + 1) (by rw [hC]; exact Nat.le_succ_of_le (Nat.le_succ _))
  have st4 : St 0 H4 := W.frame _ _ _ hst fun b _ o e => old b o e
  have loop : codeAny (model prog w) A (.compLoop (.ListComp elt [⟨.Name x px, iter, ifs, 0⟩] scope pos) 0 (.ref I) (.ref s₂.heap.objs.size) (compEnvC scope ((x, H2.objs.size + 1) :: cl) H2.objs.size env))
      (compPost (model prog w) A E none Q (.ref s₂.heap.objs.size) H2.objs.size) { s₂ with heap := H4 } := by
    refine codeAny_compLoop_tests (fun k s' => ∃ H tk i cv m, s' = { s₂ with heap := H, toks := tk } ∧ St i H ∧ H.PlainList s₂.heap.objs.size #[] ∧ H.Ns H2.objs.size m ∧ H.IsCell (H2.objs.size + 1) cv ∧ i ≤ n ∧ k = n + 1 - i ∧
      (∀ b o, b ∉ wr → s₂.heap.get? b = some o → H.get? b = some o)) ?_ (n + 1) ⟨H4, s₂.toks, 0, none, _, rfl, st4, iD, iC, ic, Nat.zero_le _, rfl, fun b o _ e => old b o e⟩
    rintro k s' ⟨H, tk, i, cv, m, rfl, hst', hD', hC', hc', hi, rfl, hk⟩
    by_cases hlt : i < n
    · refine W.item i _ _ _ hlt hst' fun v H5 tk5 hPv hst5 hk5 => ?_
      have hc5 : H5.IsCell (H2.objs.size + 1) cv := let ⟨o, ho, hd⟩ := hc'; ⟨o, hk5 _ _ nc.2 ho, hd⟩
      refine wpAny_assign_Name (wpAny_storeName_cell (c := H2.objs.size + 1) hkind (hl _ _) (by simp [compEnvC]) hc5 fun H6 hv6 hs6 => ?_)
      have keep6 : ∀ {b o}, b ≠ H2.objs.size + 1 → b ∉ wr → H.get? b = some o → H6.get? b = some o := fun hb hw e => hs6.extBut _ _ hb (hk5 _ _ hw e)
      have hC6 : H6.Ns H2.objs.size m := hC'.at' fun o e => keep6 (Nat.ne_of_lt (Nat.lt_succ_self _)) nC.2 e
      have hD6 : H6.PlainList s₂.heap.objs.size #[] := hD'.at fun o e => keep6 (by rw [hC]; exact Nat.ne_of_lt (Nat.lt_succ_of_lt (Nat.lt_succ_self _))) nD.2 e
      have hst6 : St (i + 1) H6 := W.frame _ _ _ hst5 fun b hb o e => hs6.extBut _ _ (fun q => nc.1 (q ▸ hb)) e
      have hk6 : ∀ b o, b ∉ wr → s₂.heap.get? b = some o → H6.get? b = some o := fun b o hw e => keep6 (lo (Heap.lt_size e)).2.2 hw (hk b o hw e)
      refine wpAny_mono (ht H2.objs.size i v _ m _ (by rw [hC]; exact Nat.le_succ _) hlt hPv hC6 hv6 hk6) (fun ok s₃ q => ?_) fun _ _ e => e
      obtain ⟨rfl, H7, tk7, rfl, hk7⟩ := q
      simp only [Bool.false_eq_true, if_false]
      exact ⟨n + 1 - (i + 1), by omega, H7, tk7, i + 1, some v, m, rfl, W.frame _ _ _ hst6 fun b _ o e => hk7 b o e, hD6.at fun o e => hk7 _ _ e, hC6.at' fun o e => hk7 _ _ e, hv6.keeps hk7, hlt, rfl, fun b o hw e => hk7 b o (hk6 b o hw e)⟩
    · have hin : i = n := by omega
      refine W.done _ _ _ (hin ▸ hst') fun H5 tk5 hk5 => ?_
      refine ⟨m, hC'.at' fun o e => hk5 _ _ nC.2 e, fun h'' hs'' => hQ _ h'' tk5 ?_ ?_ fun b o hw e => ?_⟩
      · cases e : s₂.heap.get? s₂.heap.objs.size with
        | none => rfl
        | some o => exact absurd (Heap.lt_size e) (Nat.lt_irrefl _)
      · exact (hD'.at fun o e => hk5 _ _ nD.2 e).extBut hs''.extBut (by rw [hC]; exact Nat.ne_of_lt (Nat.lt_succ_self _))
      · exact hs''.extBut _ _ (lo (Heap.lt_size e)).2.1 (hk5 _ _ hw (hk b o hw e))
  exact codeAny_compStart_list loop (W.self 0 _ _ _ st4 loop)
theorem cc_range {s : Shared} {h₀ : Heap} {L : Addr} {m : Str → Option Value} {news : List (Addr × Obj)} {scope : Scope} {cl : List (Str × Addr)} {x : Str} {ifs : List Expr} {r : Addr} {a₀ b₀ c₀ : Int} {t₀ u₀ v₀ : Tok} {n : Nat} {Q : Value → Shared → Prop}
    (hh : A.handled = none) (hr : IsRange s.heap r a₀ b₀ c₀ t₀ u₀ v₀) (hsmall : Builtin.Range.small a₀ b₀ c₀ = true) (hn : Builtin.Range.rangeSize a₀ b₀ c₀ = (n : Int)) (F : Fr h₀ L s.heap m) (N : News h₀ L s.heap news)
    (tests : ∀ C (i : Nat) t s₃ m₃ oc E', i < n → Fr h₀ C s₃.heap m₃ → News h₀ C s₃.heap ((C + 1, oc) :: news) → oc.data = .cell (some (.int (a₀ + i * c₀) t)) → s.heap.StaysIn s₃.heap →
      wpAny (model prog w) A (forIn ifs true fun c r => if r = true then do let ok ← isTrue c (compEnvC scope ((x, C + 1) :: cl) C env) (eval c (compEnvC scope ((x, C + 1) :: cl) C env)); pure (ForInStep.yield ok) else pure (ForInStep.yield r))
        (fun ok s₄ => ok = false ∧ Keeps s₃ s₄) E' s₃)
    (done : ∀ D h' tk ep, Fr h₀ L h' m → News h₀ L h' ((D, { cls := .type "list", data := .seq #[] ep }) :: news) → s.heap.StaysIn h' → s.heap.get? D = none → Q (.ref D) { s with heap := h', toks := tk }) :
    wpAny (model prog w) A (pyIter (.ref r)) (fun it s₂ => ∃ I fp wr n P St, it = .ref I ∧ Walks prog w A I fp wr n P St ∧ St 0 s₂.heap ∧ (∀ b ∈ fp, b < s₂.heap.objs.size) ∧
      (∀ C i v s₃ m₃ E', s₂.heap.objs.size ≤ C → i < n → P i v → s₃.heap.Ns C m₃ → s₃.heap.IsCell (C + 1) (some v) → (∀ b o, b ∉ wr → s₂.heap.get? b = some o → s₃.heap.get? b = some o) →
        wpAny (model prog w) A (forIn ifs true fun c r => if r = true then do let ok ← isTrue c (compEnvC scope ((x, C + 1) :: cl) C env) (eval c (compEnvC scope ((x, C + 1) :: cl) C env)); pure (ForInStep.yield ok) else pure (ForInStep.yield r))
          (fun ok s₄ => ok = false ∧ Keeps s₃ s₄) E' s₃) ∧
      (∀ D h' tk, s₂.heap.get? D = none → h'.PlainList D #[] → (∀ b o, b ∉ wr → s₂.heap.get? b = some o → h'.get? b = some o) → Q (.ref D) { s₂ with heap := h', toks := tk })) E s := by
  refine wpAny_pyIter_range hr hsmall ?_
  have W := Walks.range (prog := prog) (w := w) hh s.heap.objs.size a₀ c₀ n
  generalize hO : s.heap.push _ = H
  have hsz : H.objs.size = s.heap.objs.size + 1 := by rw [← hO, Heap.size_push]
  have hup : ∀ {b o}, s.heap.get? b = some o → H.get? b = some o := fun e => hO ▸ Heap.get?_push_of_some _ e
  have up : ∀ {h' : Heap}, (∀ b o, b ∉ [s.heap.objs.size] → H.get? b = some o → h'.get? b = some o) → s.heap.StaysIn h' := fun hk b o e => hk b o (fun q => absurd (Heap.lt_size e) ((List.mem_singleton.mp q) ▸ Nat.lt_irrefl _)) (hup e)
  refine ⟨s.heap.objs.size, [s.heap.objs.size], [s.heap.objs.size], n, _, _, rfl, W, ?_, ?_, ?_, ?_⟩
  · show IsRangeIter _ _ _ _ _
    rw [← hO, hn]
    simpa using Heap.get?_push_size _ rfl
  · intro b hb
    show @LT.lt Nat _ b H.objs.size
    rw [List.mem_singleton.mp hb, hsz]; exact Nat.lt_succ_self _
  · rintro C i v s₃ m₃ E' hC hi ⟨t, rfl⟩ hn₃ hc₃ hk
    have hC' : @LE.le Nat _ (s.heap.objs.size + 1) C := hsz ▸ hC
    have st := up hk
    obtain ⟨oc, hoc, hod⟩ := hc₃
    have lt : ∀ {b o}, s.heap.get? b = some o → @LT.lt Nat _ b C := fun e => Nat.lt_of_lt_of_le (Heap.lt_size e) (Nat.le_of_succ_le hC')
    have F₃ : Fr h₀ C s₃.heap m₃ := ⟨hn₃, fun b o e => st b o (F.keep b o e), Nat.le_trans F.above (Nat.le_trans (Nat.le_of_lt F.ns.lt) (Nat.le_of_succ_le hC'))⟩
    refine tests C i t s₃ m₃ oc E' hi F₃ (fun p hp => ?_) hod st
    rcases List.mem_cons.mp hp with rfl | hp
    · refine ⟨hoc, Nat.ne_of_gt (Nat.lt_succ_self _), ?_⟩
      cases q : h₀.get? (C + 1) with
      | none => rfl
      | some o => exact absurd (lt (F.keep _ _ q)) (Nat.not_lt_of_gt (Nat.lt_succ_self C))
    · exact ⟨st _ _ (N p hp).1, Nat.ne_of_lt (lt (N p hp).1), (N p hp).2.2⟩
  · rintro D h' tk hD ⟨ep, hD'⟩ hk
    have st := up hk
    have hDs : s.heap.get? D = none := by
      cases q : s.heap.get? D with
      | none => rfl
      | some o' => rw [hup q] at hD; cases hD
    have hne : ∀ {b : Addr} {o' : Obj}, s.heap.get? b = some o' → b ≠ D := fun e q => by rw [q, hDs] at e; cases e
    obtain ⟨oL, es, ep', hL, hr'⟩ := F.ns
    refine done D h' tk ep ⟨⟨oL, es, ep', st _ _ hL, hr'⟩, fun b o' e => st b o' (F.keep b o' e), F.above⟩ (fun p hp => ?_) st hDs
    rcases List.mem_cons.mp hp with rfl | hp
    · refine ⟨hD', fun q => hne hL q.symm, ?_⟩
      cases q : h₀.get? D with
      | none => rfl
      | some o' => exact absurd rfl (hne (F.keep _ _ q))
    · exact ⟨st _ _ (N p hp).1, (N p hp).2⟩
end
def pm (z : Int) (v : Value) : Bool := match v with | .int r _ => z.fmod r != 0 | _ => false
theorem pm_ints {z : Int} {vs : List Value} {ns : List Int} (h : IntsAre vs ns) : IntsAre (vs.filter (pm z)) (ns.filter fun r => z.fmod r != 0) := by
  induction h with
  | nil => exact .nil
  | cons r t _ ih =>
    rw [List.filter_cons, List.filter_cons]
    show IntsAre (if (z.fmod r != 0) = true then _ else _) (if (z.fmod r != 0) = true then _ else _)
    split
    · exact .cons r t ih
    · exact ih
theorem range1_len {t : Nat} (h1 : 1 ≤ t) (h6 : t ≤ 6) : Builtin.Range.small 1 (t : Int) 1 = true ∧ Builtin.Range.rangeSize 1 (t : Int) 1 = ((t - 1 : Nat) : Int) := by
  have := in16 t (Nat.lt_succ_of_le h6) h1
  rcases this with rfl | rfl | rfl | rfl | rfl | rfl <;> decide
theorem pm_some {n : Nat} {f : List Nat} (G : Good n f) {ns : List Int} (h : ns.Perm ((roundsR (prN f)).map Int.ofNat)) {i : Nat} (hi : i + 1 ≤ 6) (hne : pw f (i + 1) ≠ List.range n) : ns.filter (fun r => (1 + (i : Int) * 1).fmod r != 0) ≠ [] := fun e => by
  refine hne ((G.lcm (i + 1) (Nat.succ_le_succ (Nat.zero_le i)) hi).mpr fun k hk => ?_)
  have hm : (k : Int) ∈ ns := h.symm.subset (List.mem_map.mpr ⟨k, hk, rfl⟩)
  have := List.filter_eq_nil_iff.mp e _ hm
  have e2 : (1 + (i : Int) * 1) = ((i + 1 : Nat) : Int) := by omega
  rw [e2, fmod_nat] at this
  exact Decidable.byContradiction fun hk0 => this (bne_iff_ne.mpr fun h => hk0 (Int.ofNat.inj h))
end
section
section
variable {prog : Program} {w : World} {A : Around} {E : Value → Shared → Prop} {env : Env}
theorem sa_tuple {s : Shared} {h₀ : Heap} {m : Str → Option Value} {news : List (Addr × Obj)} {scope : Scope} {cl : List (Str × Addr)} {x y : Str} {elt : Expr} {T : Addr} {items : Array Value} {Q : Flow → Shared → Prop} (G : Value → Value → Prop)
    (hh : A.handled = none) (hT : s.heap.IsTuple T items) (hsz : items.size ≤ sizeLine) (F : Fr h₀ env.locals s.heap m) (N : News h₀ env.locals s.heap news)
    (elt' : ∀ C (i : Nat) v s₃ m₃ E', items[i]? = some v → Fr h₀ C s₃.heap m₃ → m₃ x = some v → News h₀ C s₃.heap news → s.heap.StaysIn s₃.heap →
      wpAny (model prog w) A (eval elt (compEnvC scope cl C env)) (fun y s₄ => G v y ∧ Keeps s₃ s₄) E' s₃)
    (done : ∀ D h' tk ys ep, Fr h₀ env.locals h' (fun z => if z = y then some (.ref D) else m z) → News h₀ env.locals h' ((D, { cls := .type "list", data := .seq ys ep }) :: news) → (∀ p ∈ news, p.1 ≠ D) → Paired G items.toList ys.toList →
      (∀ b o, b ≠ env.locals → s.heap.get? b = some o → h'.get? b = some o) → s.heap.get? D = none → Q .next { s with heap := h', toks := tk }) :
    wpAny (model prog w) A (pyIter (.ref T)) (fun it s₂ => ∃ I fp wr n P St m, it = .ref I ∧ Walks prog w A I fp wr n P St ∧ n ≤ sizeLine ∧ St 0 s₂.heap ∧ (∀ b ∈ fp, b < s₂.heap.objs.size) ∧
      env.locals ∉ wr ∧ s₂.heap.Ns env.locals m ∧ QuietOnC prog w A env scope cl x [] elt wr P (fun _ => true) G s₂ ∧
      (∀ D h' tk ys (vs : List Value), s₂.heap.get? D = none → h'.IsList D ys → h'.PlainList D ys → vs.length = n → (∀ j v, vs[j]? = some v → P j v) → Paired G (vs.filter fun _ => true) ys.toList →
        h'.Ns env.locals (fun z => if z = y then some (.ref D) else m z) → (∀ b o, b ≠ env.locals → b ∉ wr → s₂.heap.get? b = some o → h'.get? b = some o) → Q .next { s₂ with heap := h', toks := tk })) E s := by
  obtain ⟨ot, hot, _⟩ := id hT
  have hlt : @LT.lt Nat _ T s.heap.objs.size := Heap.lt_size hot
  refine wpAny_pyIter_tuple hT ?_
  have W := Walks.tuple (prog := prog) (w := w) hh s.heap.objs.size T (Nat.ne_of_lt hlt) items
  generalize hO : s.heap.push _ = H
  have hsz' : H.objs.size = s.heap.objs.size + 1 := by rw [← hO, Heap.size_push]
  have hup : ∀ {b o}, s.heap.get? b = some o → H.get? b = some o := fun e => hO ▸ Heap.get?_push_of_some _ e
  have off : ∀ {b o}, s.heap.get? b = some o → b ∉ [s.heap.objs.size] := fun e q => absurd (Heap.lt_size e) ((List.mem_singleton.mp q) ▸ Nat.lt_irrefl _)
  have hself : H.IsTupleIter s.heap.objs.size T 0 := hO ▸ ⟨_, Heap.get?_push_size _ rfl, rfl, rfl⟩
  refine ⟨s.heap.objs.size, _, _, _, _, _, m, rfl, W, hsz, ⟨hself, hT.at fun o e => hup e⟩, ?_, ?_, F.ns.at' fun o e => hup e, ⟨?_, ?_⟩, ?_⟩
  · intro b hb
    show @LT.lt Nat _ b H.objs.size
    rw [hsz']
    rcases List.mem_cons.mp hb with rfl | hb
    · exact Nat.lt_succ_self _
    · rw [List.mem_singleton.mp hb]; exact Nat.lt_succ_of_lt hlt
  · intro hm; exact absurd F.ns.lt ((List.mem_singleton.mp hm) ▸ Nat.lt_irrefl _)
  · intros; exact no_tests (v := .none) (p := fun _ => true) rfl
  · intro C i v s₃ m₃ E' hC hP _ hn hm hk _
    have st : s.heap.StaysIn s₃.heap := fun b o e => hk b o (off e) (hup e)
    have hC' : @LE.le Nat _ (s.heap.objs.size + 1) C := hsz' ▸ hC
    exact elt' C i v s₃ m₃ E' hP ⟨hn, fun b o e => st b o (F.keep b o e), Nat.le_trans F.above (Nat.le_trans (Nat.le_of_lt F.ns.lt) (Nat.le_of_succ_le hC'))⟩ hm
      (fun p hp => ⟨st _ _ (N p hp).1, Nat.ne_of_lt (Nat.lt_of_lt_of_le (Heap.lt_size (N p hp).1) (Nat.le_of_succ_le hC')), (N p hp).2.2⟩) st
  · rintro D h' tk ys vs hD _ ⟨ep, hD'⟩ hlen hP hG hns hk
    have hDs : s.heap.get? D = none := by
      cases q : s.heap.get? D with
      | none => rfl
      | some o' => rw [hup q] at hD; cases hD
    have hne : ∀ {b : Addr} {o' : Obj}, s.heap.get? b = some o' → b ≠ D := fun e q => by rw [q, hDs] at e; cases e
    have kp : ∀ b o, b ≠ env.locals → s.heap.get? b = some o → h'.get? b = some o := fun b o hb e => hk b o hb (off e) (hup e)
    have hL0 : h₀.get? env.locals = none := by
      cases q : h₀.get? env.locals with
      | none => rfl
      | some o => exact absurd (Nat.lt_of_lt_of_le (Heap.lt_size q) F.above) (Nat.lt_irrefl _)
    have hb0 : ∀ {b : Addr} {o : Obj}, h₀.get? b = some o → b ≠ env.locals := fun e q => by rw [q, hL0] at e; cases e
    obtain ⟨oL, _, _, hL, _⟩ := F.ns
    have e : vs = items.toList := same_list (by simpa using hlen) fun j v hj => by simpa using hP j v hj
    subst e
    rw [List.filter_eq_self.mpr (fun _ _ => rfl)] at hG
    refine done D h' tk ys ep ⟨hns, fun b o e => kp b o (hb0 e) (F.keep b o e), F.above⟩ (fun p hp => ?_) (fun p hp => hne (N p hp).1) hG kp hDs
    rcases List.mem_cons.mp hp with rfl | hp
    · refine ⟨hD', fun q => hne hL q.symm, ?_⟩
      cases q : h₀.get? D with
      | none => rfl
      | some o' => exact absurd rfl (hne (F.keep _ _ q))
    · exact ⟨kp _ _ (N p hp).2.1 (N p hp).1, (N p hp).2⟩
end
def OddG (P : List Piece) (v y : Value) : Prop := ∃ l a, v = .ref a ∧ Piece.sl a (l.map ch) ∈ P ∧ y = .bool (decide (inv l % 2 = 1))
theorem strs_uniq {vs : List Value} {a b : List Str} (h1 : StrsAre vs a) : StrsAre vs b → a = b := by
  induction h1 generalizing b with
  | nil => intro h2; cases h2; rfl
  | cons x t _ ih => intro h2; cases h2 with | cons _ _ h => rw [ih h]
theorem odd_at {w : World} {g h : Heap} {L : Addr} {z : Nat} {P : List Piece} (S : St w g L h z P) {a : Addr} {l : List Nat} (hp : Piece.sl a (l.map ch) ∈ P) {y : Value} (H : OddG P (.ref a) y) : y = .bool (decide (inv l % 2 = 1)) := by
  obtain ⟨l', a', e, hp', rfl⟩ := H
  cases e
  obtain ⟨ys, ep, h1, h2⟩ := S.at_ _ hp
  obtain ⟨ys', ep', h3, h4⟩ := S.at_ _ hp'
  rw [h1] at h3
  cases h3
  have := strs_uniq h2 h4
  rw [List.map_inj_right (fun _ _ q => ch_inj q)] at this
  rw [this]
theorem odd_three {w : World} {g h : Heap} {L : Addr} {z : Nat} {P : List Piece} (S : St w g L h z P) {a b c : Addr} {l m n : List Nat} (ha : Piece.sl a (l.map ch) ∈ P) (hb : Piece.sl b (m.map ch) ∈ P) (hc : Piece.sl c (n.map ch) ∈ P) {ys : Array Value} (H : Paired (OddG P) [.ref a, .ref b, .ref c] ys.toList) :
    ys = #[.bool (decide (inv l % 2 = 1)), .bool (decide (inv m % 2 = 1)), .bool (decide (inv n % 2 = 1))] := by
  obtain ⟨ys⟩ := ys
  cases H with | cons h1 H =>
  cases H with | cons h2 H =>
  cases H with | cons h3 H =>
  cases H
  rw [odd_at S ha h1, odd_at S hb h2, odd_at S hc h3]
theorem three_at {a b c v : Value} {i : Nat} (h : (#[a, b, c] : Array Value)[i]? = some v) : v = a ∨ v = b ∨ v = c := by
  match i, h with
  | 0, h => exact .inl (Option.some.inj h).symm
  | 1, h => exact .inr (.inl (Option.some.inj h).symm)
  | 2, h => exact .inr (.inr (Option.some.inj h).symm)
  | _ + 3, h => cases h
end
section
theorem below_perm {l l' : List Nat} (h : l.Perm l') (a : Nat) : (l.filter (· < a)).length = (l'.filter (· < a)).length := (h.filter _).length_eq
theorem inv_cons (a : Nat) (l : List Nat) : inv (a :: l) = (l.filter (· < a)).length + inv l := rfl
theorem below_cons (x y : Nat) (l : List Nat) : ((x :: l).filter (· < y)).length = (if x < y then 1 else 0) + (l.filter (· < y)).length := by
  rw [List.filter_cons]
  by_cases h : x < y
  · simp [h]; omega
  · simp [h]
theorem par (p q r s A B C D X Y : Nat) (h : (p + q) % 2 = (r + s) % 2) : (p + A + (B + X) + (q + C + (D + Y))) % 2 = (r + B + (A + X) + (s + D + (C + Y))) % 2 := by omega
theorem inv_perm (g : Nat → Nat) {l l' : List Nat} (h : l.Perm l') : l.Nodup → (∀ a ∈ l, ∀ b ∈ l, g a = g b → a = b) → (inv (l.map g) + inv l) % 2 = (inv (l'.map g) + inv l') % 2 := by
  induction h with
  | nil => intro _ _; rfl
  | cons x hp ih =>
    intro hn hi
    have := ih (List.nodup_cons.mp hn).2 fun a ha b hb => hi a (.tail _ ha) b (.tail _ hb)
    rw [List.map_cons, List.map_cons, inv_cons, inv_cons, inv_cons, inv_cons, below_perm hp, below_perm (hp.map g)]
    omega
  | swap x y l =>
    intro hn hi
    have hne : y ≠ x := fun e => (List.nodup_cons.mp hn).1 (e ▸ .head _)
    have hge : g y ≠ g x := fun e => hne (hi y (.head _) x (.tail _ (.head _)) e)
    simp only [List.map_cons, inv_cons, below_cons]
    refine par _ _ _ _ _ _ _ _ _ _ ?_
    by_cases h1 : x < y
    · rw [if_pos h1, if_neg (Nat.lt_asymm h1)]
      by_cases h3 : g x < g y
      · rw [if_pos h3, if_neg (Nat.lt_asymm h3)]
      · rw [if_neg h3, if_pos (Nat.lt_of_le_of_ne (Nat.le_of_not_lt h3) hge)]
    · rw [if_neg h1, if_pos (Nat.lt_of_le_of_ne (Nat.le_of_not_lt h1) hne)]
      by_cases h3 : g x < g y
      · rw [if_pos h3, if_neg (Nat.lt_asymm h3)]
      · rw [if_neg h3, if_pos (Nat.lt_of_le_of_ne (Nat.le_of_not_lt h3) hge)]
  | trans h1 _ ih1 ih2 =>
    intro hn hi
    exact (ih1 hn hi).trans (ih2 (h1.nodup_iff.mp hn) fun a ha b hb => hi a (h1.symm.subset ha) b (h1.symm.subset hb))
theorem inv_range {n : Nat} (h2 : 2 ≤ n) (h6 : n ≤ 6) : inv (List.range n) = 0 := by
  have := in26 n (Nat.lt_succ_of_le h6) h2
  rcases this with rfl | rfl | rfl | rfl | rfl <;> decide
theorem inv_both {n : Nat} (h2 : 2 ≤ n) (h6 : n ≤ 6) {f g : List Nat} (hf : f.Perm (List.range n)) (hg : g.Perm (List.range n)) : inv (f.map (app g)) % 2 = (inv f + inv g) % 2 := by
  have hgl : g.length = n := by rw [hg.length_eq, List.length_range]
  have := inv_perm (app g) hf (hf.nodup_iff.mpr List.nodup_range) fun a ha b hb e => by
    have h1 := idx_app hg (List.mem_range.mp (hf.subset ha))
    have h2 := idx_app hg (List.mem_range.mp (hf.subset hb))
    rw [← h1, ← h2, e]
  rw [range_app hgl, inv_range h2 h6] at this
  omega
theorem odd_val {n : Nat} {f : List Nat} (G : Good n f) : (((n : Int) - ((roundsR (prN f)).length : Int)).fmod 2 == 1) = decide (inv f % 2 = 1) := by
  have h := G.len
  have e : ((n : Int) - ((roundsR (prN f)).length : Int)) = ((n - (roundsR (prN f)).length : Nat) : Int) := by omega
  rw [e, G.odd, mod_odd]
theorem bne_both {a b c : Nat} (h : c % 2 = (a + b) % 2) : (decide (c % 2 = 1) != (decide (a % 2 = 1) != decide (b % 2 = 1))) = false := by
  rw [Nat.add_mod] at h
  rcases Nat.mod_two_eq_zero_or_one a with ha | ha <;> rcases Nat.mod_two_eq_zero_or_one b with hb | hb <;> rw [ha, hb] at h <;> rw [ha, hb, h] <;> rfl
end
section
def it (f : List Nat) : Nat → Nat → Nat
  | 0, k => k
  | t + 1, k => app f (it f t k)
theorem pw_it {n : Nat} {f : List Nat} (hl : f.length = n) : ∀ t, pw f t = (List.range n).map (it f t)
  | 0 => by show List.range f.length = (List.range n).map fun k => k; rw [hl, List.map_id']
  | t + 1 => by show (pw f t).map (app f) = _; rw [pw_it hl t, List.map_map]; rfl
theorem it_lt {n : Nat} {f : List Nat} (hf : f.Perm (List.range n)) : ∀ t k, k < n → it f t k < n
  | 0, _, h => h
  | t + 1, k, h => app_lt hf (it_lt hf t k h)
theorem still_it {n : Nat} {f : List Nat} (hl : f.length = n) (t : Nat) : still f t = (List.range n).countP fun k => k == it f t k := by
  have e : (List.range n).zip ((List.range n).map (it f t)) = (List.range n).map fun k => (k, it f t k) := by
    refine List.ext_getElem? fun i => ?_
    by_cases h : i < n
    · rw [List.getElem?_map, List.getElem?_range h]
      refine List.getElem?_zip_eq_some.mpr ⟨List.getElem?_range h, ?_⟩
      rw [List.getElem?_map, List.getElem?_range h]; rfl
    · rw [List.getElem?_eq_none (by simp; omega), List.getElem?_eq_none (by simp; omega)]
  rw [still, pw_it hl, hl, e, List.countP_map]; rfl
theorem app_idx {n : Nat} {g : List Nat} (hg : g.Perm (List.range n)) {x : Nat} (hx : x < n) : app g (g.idxOf x) = x := by
  have hk' : x ∈ g := hg.symm.subset (List.mem_range.mpr hx)
  have hi : g.idxOf x < g.length := List.idxOf_lt_length_of_mem hk'
  have := app_get hi
  rw [List.getElem?_eq_getElem hi, List.getElem_idxOf hi] at this
  exact (Option.some.inj this).symm
def conj (f g : List Nat) : List Nat := (g.map (app f)).map fun v => g.idxOf v
theorem conj_len (f g : List Nat) : (conj f g).length = g.length := by simp [conj]
section
variable {n : Nat} {f g : List Nat} (hf : f.Perm (List.range n)) (hg : g.Perm (List.range n))
include hf hg
theorem conj_app {k : Nat} (hk : k < n) : app (conj f g) k = g.idxOf (app f (app g k)) := by
  have hl : g.length = n := by rw [hg.length_eq, List.length_range]
  have h1 := app_get (f := g) (k := k) (by omega)
  have h2 := app_get (f := conj f g) (k := k) (by rw [conj_len]; omega)
  rw [conj, List.getElem?_map, List.getElem?_map, h1] at h2
  exact (Option.some.inj h2).symm
theorem conj_perm : (conj f g).Perm (List.range n) := by
  have hl : g.length = n := by rw [hg.length_eq, List.length_range]
  have hfl : f.length = n := by rw [hf.length_eq, List.length_range]
  have h1 : (g.map (app f)).Perm (List.range n) := by
    have := hg.map (app f)
    rw [range_app hfl] at this
    exact this.trans hf
  have h2 : ((g.map (app f)).map fun v => g.idxOf v).Perm ((List.range n).map fun v => g.idxOf v) := h1.map _
  have h3 : ((List.range n).map fun v => g.idxOf v).Perm (List.range n) := by
    have := (hg.symm.map fun v => g.idxOf v)
    rw [back_one hg] at this
    exact this
  exact h2.trans h3
theorem conj_it : ∀ t k, k < n → it (conj f g) t k = g.idxOf (it f t (app g k))
  | 0, k, hk => (idx_app hg hk).symm
  | t + 1, k, hk => by
    show app (conj f g) (it (conj f g) t k) = g.idxOf (app f (it f t (app g k)))
    have hj := it_lt hf t _ (app_lt hg hk)
    rw [conj_it t k hk, conj_app hf hg (idx_lt hg hj), app_idx hg hj]
theorem conj_still (t : Nat) : still (conj f g) t = still f t := by
  have hl : g.length = n := by rw [hg.length_eq, List.length_range]
  have hfl : f.length = n := by rw [hf.length_eq, List.length_range]
  rw [still_it (n := n) (by rw [conj_len]; exact hl), still_it hfl]
  have e1 : (List.range n).countP (fun k => k == it (conj f g) t k) = (List.range n).countP ((fun v => v == it f t v) ∘ app g) := by
    refine List.countP_congr fun k hk => ?_
    have hk' := List.mem_range.mp hk
    rw [conj_it hf hg t k hk']
    have hj := it_lt hf t _ (app_lt hg hk')
    show (k == g.idxOf (it f t (app g k))) = true ↔ (app g k == it f t (app g k)) = true
    rw [beq_iff_eq, beq_iff_eq]
    constructor
    · intro e
      have := congrArg (app g) e
      rwa [app_idx hg hj] at this
    · intro e
      rw [← e]; exact (idx_app hg hk').symm
  rw [e1, ← List.countP_map, range_app hl]
  exact hg.countP_eq _
end
theorem count_zero {R : List Nat} (h : ∀ r ∈ R, 1 ≤ r ∧ r ≤ 6) {a : Nat} (ha : a = 0 ∨ 6 < a) : R.count a = 0 := List.count_eq_zero.mpr fun hm => by
  have := h a hm
  omega
theorem rounds_perm {n : Nat} {f g : List Nat} (G : Good n f) (H : Good n g) (h : ∀ t, still f t = still g t) : (roundsR (prN f)).Perm (roundsR (prN g)) := by
  refine List.perm_iff_count.mpr fun a => ?_
  have h1 := h 1
  have h2 := h 2
  have h3 := h 3
  have h4 := h 4
  have h5 := h 5
  have h6 := h 6
  rw [G.s1, H.s1] at h1
  rw [G.s2, H.s2] at h2
  rw [G.s3, H.s3] at h3
  rw [G.s4, H.s4] at h4
  rw [G.s5, H.s5] at h5
  have g6 := G.s6
  have k6 := H.s6
  have g2 := h 2
  have g3 := h 3
  by_cases ha : a = 0 ∨ 6 < a
  · rw [count_zero G.rng ha, count_zero H.rng ha]
  · have := in16 a (Nat.lt_succ_of_le (Nat.le_of_not_lt fun q => ha (.inr q))) (Nat.pos_of_ne_zero fun q => ha (.inl q))
    rcases this with rfl | rfl | rfl | rfl | rfl | rfl <;> omega
theorem sorted_eq : ∀ {a b : List Int}, a.Perm b → a.Pairwise (· ≤ ·) → b.Pairwise (· ≤ ·) → a = b
  | [], b, h, _, _ => (List.nil_perm.mp h).symm
  | x :: r, [], h, _, _ => absurd h.length_eq (by simp)
  | x :: r, y :: s, h, ha, hb => by
    have h1 := List.pairwise_cons.mp ha
    have h2 := List.pairwise_cons.mp hb
    have e : x = y := by
      have hx : x ∈ y :: s := h.subset (.head _)
      have hy : y ∈ x :: r := h.symm.subset (.head _)
      rcases List.mem_cons.mp hx with e | hx
      · exact e
      · rcases List.mem_cons.mp hy with e | hy
        · exact e.symm
        · have i1 := h1.1 y hy
          have i2 := h2.1 x hx
          omega
    subst e
    rw [sorted_eq (List.Perm.cons_inv h) h1.2 h2.2]
theorem rounds_same {n : Nat} {f g : List Nat} (h2 : 2 ≤ n) (h6 : n ≤ 6) (hf : f.Perm (List.range n)) (hg : g.Perm (List.range n)) {a b : List Int} (ha : a.Perm ((roundsR (prN (conj f g))).map Int.ofNat)) (hb : b.Perm ((roundsR (prN f)).map Int.ofNat)) (sa : a.Pairwise (· ≤ ·)) (sb : b.Pairwise (· ≤ ·)) : a = b :=
  sorted_eq ((ha.trans ((rounds_perm (good_of h2 h6 (conj_perm hf hg)) (good_of h2 h6 hf) (conj_still hf hg)).map _)).trans hb.symm) sa sb
end
-- The law's body, walked once over the contracts; each «as_aux_lemma» is a stage of its own.
section
local macro_rules | `(tactic| walk_at "eval Name") => `(tactic| (k_here; k_inBlock; k_dflt (first
  | (refine wpAny_Name (wpAny_loadName_local (by exact rfl) (by exact rfl) (Fr.ns (by k_asm)) (by assumption) ?_) (by decide))
  | (refine wpAny_Name (wpAny_loadName_cell (by exact rfl) (by exact rfl) (by exact rfl) ⟨_, News.get (by k_asm) (by k_mem), by k_asm⟩ ?_) (by decide)))))
local macro_rules | `(tactic| k_all) => `(tactic| with_reducible assumption)
local macro_rules | `(tactic| k_qdec) => `(tactic| decide +kernel)
set_option maxHeartbeats 40000000 in
theorem law_T : ∃ d kwd, defOf hd.view_1 PySem.Challenge.rw_sz0091_01.row.name = some (d, kwd) ∧
    WalkO hd.view_1 [Str.ofString "Limits"] (XL hd.view_1 []) (kHook hd.heap_1 [2,3,15,17,18,20,21,22,24,25,27,28,36,38,39,41,42,43,44,45,46,47,50,57,59,60,62,63,64,65,66,69,76,78,79,81,82,83,84,85,88,95,97,98,100,101,102,103,104,107,114,116,117,119,120,121,122,123,126,133,135,136,138,139,140,141,142,152,153,155,156,158,159,160,161,162,163,164,174,176,177,179,180,181,183,184,186,187,188,190,191,193,194,195,197,198,200,201,202,204,205,207,208,209,211,212,214,215,216,218,219,221,222,223,224,225,226,227,230,232,233,235,236,237,239,240,242,243,244,246,247,249,250,251,253,254,256,257,258,260,261,263,264,265,267,268,270,271,272,279,281,282,284,285,286,287,288,289,292,299,301,302,304,305,306,307,308,311,313,314,316,317,318,320,321,323,324,325,328,329,330,332,333,335,336,337,339,340,342,343,344,346,347,349,350,351,353,354,356,357,358,360,361,363,364,365,367,368,370,371,372,374,375,377,378,379,382,383,384,386,387,389,390,398,400,401,403,404,405,407,408,410,411,412,414,415,417,418,419,421,422,424,425,426,428,429,431,432,433,436,437,438,440,441,443,444,445,447,448,450,451,452,454,455,457,458,459,461,462,464,465,466,468,469,471,472,473,475,476,478,479,480,481,482,483,484,494,495,497,498,500,501,502,503,504,505,506,509,510,512,513,515,516,517,519,520,522,523,524,526,527,529,530,531,533,534,536,537,538,540,541,543,544,545,547,548,550,551,552,554,555,557,558,559,562,563,564,567,568] (fun _ => by kernel_rfl)).says PySem.Challenge.rw_sz0091_01.row.toRowW d kwd (fun f vs => PySem.call f vs) := by
  refine ⟨_, _, rfl, ?_⟩
  k_go0
  repeat' (first | (k_unfold; (try dsimp only)) | (k_end; wrow_close) | ((fail_if_success (with_reducible show wpAny _ _ (call (Value.ref 516) _) _ _ _)); first | walk1 | (dsimp only; walk1) | (leave1; walk_say "STEP leave1"; try dsimp only)) | fail "no step")
  rename_i D0 ws hA hIw hCw hLw l1a dk hB l1b hC F1 N1 tk1 htk1
  rename Frag.In _ _ => X
  rename Top _ _ _ _ _ _ => T
  rename_i o4 o3 o2 o1 _ _ _ _ _
  rename World => w
  rename Shared => s1
  have S1 := st_first w N1 (.head _) (.tail _ (.head _)) hIw (by omega) l1b.1
  have hc1 := hc_first hIw l1b.1 (cells := [(_, o4), (_, o3), (_, o2), (_, o1)]) (by
    intro p hp
    simp only [List.mem_cons, List.not_mem_nil, or_false] at hp
    rcases hp with rfl | rfl | rfl | rfl
    · exact l1a.1
    · exact l1a.2.1
    · exact l1a.2.2.1
    · exact l1a.2.2.2)
  refine wpAny_with_toks (n := 1) (by first | exact tkpos (by assumption) | (trace "TKFALL"; dsimp only; omega)) ?_
  refine st_shuffle X T F1 (by decide +kernel) (by decide +kernel) S1 (.head _) (by decide) (by decide) (by decide) ?_
  intro h2 tk2 r u2 C hr0 hr1 htk2
  obtain ⟨R2, hR2, S2, F2, N2, hc2, hx2⟩ := C.all S1 F1 N1 [(_, o4), (_, o3), (_, o2), (_, o1)] (by first | ((repeat' (first | exact sub_nil | refine sub_cons ?_ ?_)); (all_goals (first | ((repeat (first | exact .head _ | refine .tail _ ?_)); done) | (refine Or.inr ?_; (repeat (first | exact .head _ | refine .tail _ ?_)); done) | (refine Or.inl ?_; (repeat (first | exact .head _ | refine .tail _ ?_)); done) | (apply Exists.intro; (repeat (first | exact .head _ | refine .tail _ ?_)); done) | (intro p hp; (repeat (first | exact hp | refine .tail _ ?_)); done))); done) | (trace "SUBFALL"; simp)) hc1
  clear S1 hc1 F1 N1 C l1a l1b hIw
  dsimp only [List.cons_append, List.nil_append] at N2
  dsimp only
  repeat' (first | (k_unfold; (try dsimp only)) | (k_end; wrow_close) | ((fail_if_success (with_reducible show wpAny _ _ (subscriptTail _ (PySem.Expr.Slice _ _ _ _) _ _) _ _ _)); first | walk1 | (dsimp only; walk1) | (leave1; walk_say "STEP leave1"; try dsimp only)) | fail "no step")
  obtain ⟨n, hn2, hn6, htx⟩ := abc_slice hr0 hr1
  refine wpAny_with_toks (n := 1) (by first | exact tkpos (by assumption) | (trace "TKFALL"; dsimp only; omega)) ?_
  refine slice_strN_ns (hsz := ?hsz) (s := ⟨_, _, _, _, _⟩) F2 N2 ?_
  case hsz => kxi_size
  intro h3 t3 tk3 F3 N3 htk3
  rw [htx]
  clear F2 N2 htx
  dsimp only at htk3 ⊢
  repeat' (first | (k_unfold; (try dsimp only)) | (k_end; wrow_close) | ((fail_if_success (with_reducible show wpAny _ _ (eval (Expr.ListComp _ _ _ _) _) _ _ _)); first | walk1 | (dsimp only; walk1) | (leave1; walk_say "STEP leave1"; try dsimp only)) | fail "no step")
  rename Fr _ _ _ _ => F4
  rename News _ _ _ _ => N4
  refine wpAny_with_toks (n := 1) (by first | exact tkpos (by assumption) | (trace "TKFALL"; dsimp only; omega)) ?_
  refine hideQ fun Qc hQc => ?_
  refine' wpAny_ListComp_free (fun _ => true) (fun v y => y = v) ?hclos ?hcell ?hkind ?hnames ?hx ?h
  case hclos => with_unfolding_all exact rfl
  case hcell => decide
  case hkind => exact rfl
  case hnames => decide
  case hx => exact rfl
  repeat' (first | (k_unfold; (try dsimp only)) | (k_end; wrow_close) | ((fail_if_success (with_reducible show wpAny _ _ (pyIter _) _ _ _)); first | walk1 | (dsimp only; walk1) | (leave1; walk_say "STEP leave1"; try dsimp only)) | fail "no step")
  refine ci_txt (fun v y => y = v) rfl (by rw [List.length_range]; omega) F4 N4 ?elt ?done
  case elt =>
    intro C i k u s₃ m₃ E' hk F₃ hm₃ N₃ st₃
    repeat' (first | (k_unfold; (try dsimp only)) | (k_end; wrow_close) | (first | walk1 | (dsimp only; walk1) | (leave1; walk_say "STEP leave1"; try dsimp only)) | fail "no step")
    exact ⟨s₃.heap, s₃.toks, rfl, fun _ _ e => e⟩
  intro nl h5 tk5 ys5 ep5 vs5 F5 N5 hs5 hG5 st5 hD5
  refine hQc _ _ ?_
  intro htk5
  dsimp only at htk5 ⊢
  have S4 := S2.on (re_on N4 (by rw [← hR2]; intro p hp; first | ((repeat (first | exact hp | refine .tail _ ?_)); done) | (trace "INRFALL"; simp [hp])))
  obtain rfl := paired_eq hG5
  have C5 := S4.stays st5 [Piece.sl nl ((List.range n).map ch)] (fun q hq => by rw [List.mem_singleton.mp hq]; exact ⟨ys5, ep5, (N5 _ (.head _)).1, hs5⟩) (fun q hq b hb => by
    rw [List.mem_singleton.mp hq] at hb
    rw [List.mem_singleton.mp hb]; exact hD5) (List.pairwise_singleton _ _)
  obtain ⟨R5, hR5, S5, F5', N5', hc5, hx5⟩ := C5.all S4 F4 N4 [(_, o4), (_, o3), (_, o2), (_, o1)] (by first | ((repeat' (first | exact sub_nil | refine sub_cons ?_ ?_)); (all_goals (first | ((repeat (first | exact .head _ | refine .tail _ ?_)); done) | (refine Or.inr ?_; (repeat (first | exact .head _ | refine .tail _ ?_)); done) | (refine Or.inl ?_; (repeat (first | exact .head _ | refine .tail _ ?_)); done) | (apply Exists.intro; (repeat (first | exact .head _ | refine .tail _ ?_)); done) | (intro p hp; (repeat (first | exact hp | refine .tail _ ?_)); done))); done) | (trace "SUBFALL"; simp)) hc2
  clear F4 N4 F5 N5 S2 S4 C5 hR2 hx2 hc2
  dsimp only [List.cons_append, List.nil_append] at N5' S5 hR5
  have q1 := hx5 _ (.head _)
  have q2 := hx5 _ (.tail _ (.head _))
  have q3 := hx5 _ (.tail _ (.tail _ (.head _)))
  have q4 := hx5 _ (.tail _ (.tail _ (.tail _ (.head _))))
  dsimp only at q1 q2 q3 q4
  as_aux_lemma =>
   w_top off
   repeat' (first | (k_unfold; (try dsimp only)) | (k_end; wrow_close) | ((fail_if_success (with_reducible show wpAny _ _ (call (Value.ref 523) _) _ _ _)); first | walk1 | (dsimp only; walk1) | (leave1; walk_say "STEP leave1"; try dsimp only)) | fail "no step")
   rename News _ _ _ _ => N7a
   rename Fr _ _ _ _ => F7
   rename (Obj.data _ = Data.cell _) => hcn
   rename_i x1 _ _ _ _ _ _ _ _ _ _ _ _ _ _ _ o1' _ _ _
   obtain ⟨xc, hxc⟩ := cnt_of F7 (if_pos rfl)
   obtain ⟨V, hVx, hc7, S7⟩ : ∃ V : Wd, V.cnt = xc ∧ (∀ p ∈ [(s1.heap.objs.size + 1 + 1 + 1 + 1, o4), (s1.heap.objs.size + 1 + 1 + 1, o3), (s1.heap.objs.size + 1 + 1, o2), (s1.heap.objs.size + 1, o1')], p.1 ∉ asOf (.wd V :: _)) ∧ St w _ _ _ 1 (.wd V :: _) := by
     refine' ⟨⟨_, _, _, _, _, _, _⟩, hxc.symm, hc_wd (lt4 ?_ ?_ ?_ ?_) (le7 ?g1 ?g2 ?g3 ?g4 ?g5 ?g6) (hc_cells hc5 ?_), st_wd S5 hR5 ?_ N7a (fun p hp => by first | ((repeat (first | exact hp | refine .tail _ ?_)); done) | (trace "INRFALL"; simp [hp])) (.tail _ (.tail _ (.tail _ (.head _)))) (.tail _ (.tail _ (.tail _ (.tail _ (.head _))))) .mk (.tail _ (.tail _ (.tail _ (.tail _ (.tail _ (.head _)))))) (.tail _ (.tail _ (.tail _ (.tail _ (.tail _ (.tail _ (.head _))))))) (.tail _ (.tail _ (.tail _ (.tail _ (.tail _ (.tail _ (.tail _ (.head _)))))))) .mk (.tail _ (.tail _ (.tail _ (.tail _ (.tail _ (.tail _ (.tail _ (.tail _ (.head _))))))))) (.tail _ (.tail _ (.tail _ (.tail _ (.tail _ (.tail _ (.tail _ (.tail _ (.tail _ (.head _)))))))))) .mk ?_ ?_ (le7 ?g1 ?g2 ?g3 ?g4 ?g5 ?g6)⟩
     all_goals first | exact rfl | exact and5 (by assumption) | (dsimp only; omega)
   obtain ⟨R7, hR7, N7, hx7⟩ := S7.all N7a [(s1.heap.objs.size + 1 + 1 + 1 + 1, o4), (s1.heap.objs.size + 1 + 1 + 1, o3), (s1.heap.objs.size + 1 + 1, o2), (s1.heap.objs.size + 1, o1')] (by simp) hc7
   clear N7a S5 hR5 hc5 hx5 q1 q2 q3 q4 st5 hD5 hs5 hG5
   repeat (rename GSub _ _ _ => hh; clear hh)
   repeat (rename (_ ∧ _) => hh; clear hh)
   repeat (rename (_ < _) => hh; clear hh)
   repeat (rename Glob _ _ _ _ _ _ _ _ => hh; clear hh)
   repeat (rename (Flow → Shared → Prop) => hh; clear hh)
   repeat (rename (Value → Shared → Prop) => hh; clear hh)
   dsimp only [List.cons_append, List.nil_append] at N7 S7 hR7
   subst hVx
   subst hxc
   have q1 := hx7 _ (.head _)
   have q2 := hx7 _ (.tail _ (.head _))
   have q3 := hx7 _ (.tail _ (.tail _ (.head _)))
   have q4 := hx7 _ (.tail _ (.tail _ (.tail _ (.head _))))
   dsimp only at q1 q2 q3 q4
   have ksz := ltsz (N7 _ (.head _)).1
   dsimp only at ksz
   as_aux_lemma =>
    refine wpAny_with_toks (n := 1) (by first | exact tkpos (by assumption) | (trace "TKFALL"; dsimp only; omega)) ?_
    refine st_order X T F7 (by decide +kernel) (by decide +kernel) S7 (.tail _ (.tail _ (.head _))) (by decide) List.nodup_range (by rw [List.length_range]; exact hn6) (by dsimp only; omega) ?_
    intro l8 h8 tk8 fs C8 hfs htk8
    obtain ⟨R8, hR8, S8, F8, N8, hc8, hx8⟩ := C8.all S7 F7 N7 [(s1.heap.objs.size + 1 + 1 + 1 + 1, o4), (s1.heap.objs.size + 1 + 1 + 1, o3), (s1.heap.objs.size + 1 + 1, o2), (s1.heap.objs.size + 1, o1')] (by first | ((repeat' (first | exact sub_nil | refine sub_cons ?_ ?_)); (all_goals (first | ((repeat (first | exact .head _ | refine .tail _ ?_)); done) | (refine Or.inr ?_; (repeat (first | exact .head _ | refine .tail _ ?_)); done) | (refine Or.inl ?_; (repeat (first | exact .head _ | refine .tail _ ?_)); done) | (apply Exists.intro; (repeat (first | exact .head _ | refine .tail _ ?_)); done) | (intro p hp; (repeat (first | exact hp | refine .tail _ ?_)); done))); done) | (trace "SUBFALL"; simp)) (hc_cells hc7 rfl)
    clear C8 S7 F7 N7 hc7
    (try clear q1 q2 q3 q4); (try clear hx7); (try clear hR7)
    dsimp only [List.cons_append, List.nil_append] at N8 S8 hR8
    have q1 := hx8 _ (.head _)
    have q2 := hx8 _ (.tail _ (.head _))
    have q3 := hx8 _ (.tail _ (.tail _ (.head _)))
    have q4 := hx8 _ (.tail _ (.tail _ (.tail _ (.head _))))
    dsimp only at q1 q2 q3 q4
    (try clear ksz)
    have ksz := ltsz (N8 _ (.head _)).1
    dsimp only at ksz
    dsimp only
    repeat' (first | (k_unfold; (try dsimp only)) | (k_end; wrow_close) | ((fail_if_success (with_reducible show wpAny _ _ (call (Value.ref 523) _) _ _ _)); first | walk1 | (dsimp only; walk1) | (leave1; walk_say "STEP leave1"; try dsimp only)) | fail "no step")
    rename News _ _ _ _ => N8
    rename Fr _ _ _ _ => F8
    refine wpAny_with_toks (n := 1) (by first | exact tkpos (by assumption) | (trace "TKFALL"; dsimp only; omega)) ?_
    refine st_order X T F8 (by decide +kernel) (by decide +kernel) S8 (.tail _ (.tail _ (.tail _ (.head _)))) (by decide) List.nodup_range (by rw [List.length_range]; exact hn6) (by dsimp only; omega) ?_
    intro l9 h9 tk9 gs C9 hgs htk9
    obtain ⟨R9, hR9, S9, F9, N9, hc9, hx9⟩ := C9.all S8 F8 N8 [(s1.heap.objs.size + 1 + 1 + 1 + 1, o4), (s1.heap.objs.size + 1 + 1 + 1, o3), (s1.heap.objs.size + 1 + 1, o2), (s1.heap.objs.size + 1, o1')] (by first | ((repeat' (first | exact sub_nil | refine sub_cons ?_ ?_)); (all_goals (first | ((repeat (first | exact .head _ | refine .tail _ ?_)); done) | (refine Or.inr ?_; (repeat (first | exact .head _ | refine .tail _ ?_)); done) | (refine Or.inl ?_; (repeat (first | exact .head _ | refine .tail _ ?_)); done) | (apply Exists.intro; (repeat (first | exact .head _ | refine .tail _ ?_)); done) | (intro p hp; (repeat (first | exact hp | refine .tail _ ?_)); done))); done) | (trace "SUBFALL"; simp)) (hc_cells hc8 rfl)
    clear C9 S8 F8 N8 hc8
    (try clear q1 q2 q3 q4); (try clear hx8); (try clear hR8)
    dsimp only [List.cons_append, List.nil_append] at N9 S9 hR9
    have q1 := hx9 _ (.head _)
    have q2 := hx9 _ (.tail _ (.head _))
    have q3 := hx9 _ (.tail _ (.tail _ (.head _)))
    have q4 := hx9 _ (.tail _ (.tail _ (.tail _ (.head _))))
    dsimp only at q1 q2 q3 q4
    (try clear ksz)
    have ksz := ltsz (N9 _ (.head _)).1
    dsimp only at ksz
    dsimp only
    repeat' (first | (k_unfold; (try dsimp only)) | (k_end; wrow_close) | ((fail_if_success (with_reducible show wpAny _ _ (call (Value.ref 537) _) _ _ _)); first | walk1 | (dsimp only; walk1) | (leave1; walk_say "STEP leave1"; try dsimp only)) | fail "no step")
    as_aux_lemma =>
     rename Obj => o2'
     rename (Obj.data _ = Data.cell _) => hco
     rename News _ _ _ _ => N9
     rename Fr _ _ _ _ => F9
     have S9 := S9.on (re_on N9 (by rw [← hR9]; intro p hp; first | ((repeat (first | exact hp | refine .tail _ ?_)); done) | (trace "INRFALL"; simp [hp])))
     have hfl : fs.length = n := by rw [hfs.length_eq, List.length_range]
     have hgl : gs.length = n := by rw [hgs.length_eq, List.length_range]
     refine wpAny_with_toks (n := 1) (by first | exact tkpos (by assumption) | (trace "TKFALL"; dsimp only; omega)) ?_
     refine st_laid X T F9 (by decide +kernel) (by decide +kernel) S9 (.tail _ (.tail _ (.head _))) (.tail _ (.tail _ (.tail _ (.head _)))) (.tail _ (.head _)) (by simp [hfl]) (ch_nodup List.nodup_range) (by simp [hn6]) ?_
     intro h10 tk10 a1 d1 t1 es1 C10 hes1 htk10
     obtain ⟨R10, hR10, S10, F10, N10, hc10, hx10⟩ := C10.all S9 F9 N9 [(s1.heap.objs.size + 1 + 1 + 1 + 1, o4), (s1.heap.objs.size + 1 + 1 + 1, o3), (s1.heap.objs.size + 1 + 1, o2'), (s1.heap.objs.size + 1, o1')] (by first | ((repeat' (first | exact sub_nil | refine sub_cons ?_ ?_)); (all_goals (first | ((repeat (first | exact .head _ | refine .tail _ ?_)); done) | (refine Or.inr ?_; (repeat (first | exact .head _ | refine .tail _ ?_)); done) | (refine Or.inl ?_; (repeat (first | exact .head _ | refine .tail _ ?_)); done) | (apply Exists.intro; (repeat (first | exact .head _ | refine .tail _ ?_)); done) | (intro p hp; (repeat (first | exact hp | refine .tail _ ?_)); done))); done) | (trace "SUBFALL"; simp)) (hc_cells hc9 rfl)
     clear C10 S9 F9 N9 hc9
     (try clear q1 q2 q3 q4); (try clear hx9); (try clear hR9)
     dsimp only [List.cons_append, List.nil_append] at N10 S10 hR10
     have q1 := hx10 _ (.head _)
     have q2 := hx10 _ (.tail _ (.head _))
     have q3 := hx10 _ (.tail _ (.tail _ (.head _)))
     have q4 := hx10 _ (.tail _ (.tail _ (.tail _ (.head _))))
     dsimp only at q1 q2 q3 q4
     (try clear ksz)
     have ksz := ltsz (N10 _ (.head _)).1
     dsimp only at ksz
     dsimp only
     repeat' (first | (k_unfold; (try dsimp only)) | (k_end; wrow_close) | ((fail_if_success (with_reducible show wpAny _ _ (call (Value.ref 537) _) _ _ _)); first | walk1 | (dsimp only; walk1) | (leave1; walk_say "STEP leave1"; try dsimp only)) | fail "no step")
     rename News _ _ _ _ => N10
     rename Fr _ _ _ _ => F10
     refine wpAny_with_toks (n := 1) (by first | exact tkpos (by assumption) | (trace "TKFALL"; dsimp only; omega)) ?_
     refine st_laid X T F10 (by decide +kernel) (by decide +kernel) S10 (.tail _ (.tail _ (.tail _ (.head _)))) (.tail _ (.tail _ (.tail _ (.tail _ (.head _))))) (.tail _ (.head _)) (by simp [hgl]) (ch_nodup List.nodup_range) (by simp [hn6]) ?_
     intro h11 tk11 a2 d2 t2 es2 C11 hes2 htk11
     obtain ⟨R11, hR11, S11, F11, N11, hc11, hx11⟩ := C11.all S10 F10 N10 [(s1.heap.objs.size + 1 + 1 + 1 + 1, o4), (s1.heap.objs.size + 1 + 1 + 1, o3), (s1.heap.objs.size + 1 + 1, o2'), (s1.heap.objs.size + 1, o1')] (by first | ((repeat' (first | exact sub_nil | refine sub_cons ?_ ?_)); (all_goals (first | ((repeat (first | exact .head _ | refine .tail _ ?_)); done) | (refine Or.inr ?_; (repeat (first | exact .head _ | refine .tail _ ?_)); done) | (refine Or.inl ?_; (repeat (first | exact .head _ | refine .tail _ ?_)); done) | (apply Exists.intro; (repeat (first | exact .head _ | refine .tail _ ?_)); done) | (intro p hp; (repeat (first | exact hp | refine .tail _ ?_)); done))); done) | (trace "SUBFALL"; simp)) (hc_cells hc10 rfl)
     clear C11 S10 F10 N10 hc10
     (try clear q1 q2 q3 q4); (try clear hx10); (try clear hR10)
     dsimp only [List.cons_append, List.nil_append] at N11 S11 hR11
     have q1 := hx11 _ (.head _)
     have q2 := hx11 _ (.tail _ (.head _))
     have q3 := hx11 _ (.tail _ (.tail _ (.head _)))
     have q4 := hx11 _ (.tail _ (.tail _ (.tail _ (.head _))))
     dsimp only at q1 q2 q3 q4
     (try clear ksz)
     have ksz := ltsz (N11 _ (.head _)).1
     dsimp only at ksz
     have M1 := maps_laid hfs hes1
     have M2 := maps_laid hgs hes2
     dsimp only
     repeat' (first | (k_unfold; (try dsimp only)) | (k_end; wrow_close) | ((fail_if_success (with_reducible show wpAny _ _ (call (Value.ref 551) _) _ _ _)); first | walk1 | (dsimp only; walk1) | (leave1; walk_say "STEP leave1"; try dsimp only)) | fail "no step")
     rename News _ _ _ _ => N11
     rename Fr _ _ _ _ => F11
     have S11 := S11.on (re_on N11 (by rw [← hR11]; intro p hp; first | ((repeat (first | exact hp | refine .tail _ ?_)); done) | (trace "INRFALL"; simp [hp])))
     refine wpAny_with_toks (n := 1) (by first | exact tkpos (by assumption) | (trace "TKFALL"; dsimp only; omega)) ?_
     refine st_thr X T F11 (by decide +kernel) (by decide +kernel) S11 (.tail _ (.head _)) (.tail _ (.tail _ (.tail _ (.tail _ (.tail _ (.head _)))))) M1 (fun k hk => List.mem_range.mp hk) (by simp [hn6]) ?_
     intro l12 h12 tk12 C12 htk12
     rw [range_app hfl] at C12
     obtain ⟨R12, hR12, S12, F12, N12, hc12, hx12⟩ := C12.all S11 F11 N11 [(s1.heap.objs.size + 1 + 1 + 1 + 1, o4), (s1.heap.objs.size + 1 + 1 + 1, o3), (s1.heap.objs.size + 1 + 1, o2'), (s1.heap.objs.size + 1, o1')] (by first | ((repeat' (first | exact sub_nil | refine sub_cons ?_ ?_)); (all_goals (first | ((repeat (first | exact .head _ | refine .tail _ ?_)); done) | (refine Or.inr ?_; (repeat (first | exact .head _ | refine .tail _ ?_)); done) | (refine Or.inl ?_; (repeat (first | exact .head _ | refine .tail _ ?_)); done) | (apply Exists.intro; (repeat (first | exact .head _ | refine .tail _ ?_)); done) | (intro p hp; (repeat (first | exact hp | refine .tail _ ?_)); done))); done) | (trace "SUBFALL"; simp)) (hc_cells hc11 rfl)
     clear C12 S11 F11 N11 hc11
     (try clear q1 q2 q3 q4); (try clear hx11); (try clear hR11)
     dsimp only [List.cons_append, List.nil_append] at N12 S12 hR12
     have q1 := hx12 _ (.head _)
     have q2 := hx12 _ (.tail _ (.head _))
     have q3 := hx12 _ (.tail _ (.tail _ (.head _)))
     have q4 := hx12 _ (.tail _ (.tail _ (.tail _ (.head _))))
     dsimp only at q1 q2 q3 q4
     (try clear ksz)
     have ksz := ltsz (N12 _ (.head _)).1
     dsimp only at ksz
     dsimp only
     repeat' (first | (k_unfold; (try dsimp only)) | (k_end; wrow_close) | ((fail_if_success (with_reducible show wpAny _ _ (call (Value.ref 551) _) _ _ _)); first | walk1 | (dsimp only; walk1) | (leave1; walk_say "STEP leave1"; try dsimp only)) | fail "no step")
     rename News _ _ _ _ => N12
     rename Fr _ _ _ _ => F12
     refine wpAny_with_toks (n := 1) (by first | exact tkpos (by assumption) | (trace "TKFALL"; dsimp only; omega)) ?_
     refine st_thr X T F12 (by decide +kernel) (by decide +kernel) S12 (.tail _ (.head _)) (.head _) M2 (fun k hk => List.mem_range.mp (hfs.subset hk)) (by simp [hfl, hn6]) ?_
     intro l13 h13 tk13 C13 htk13
     obtain ⟨R13, hR13, S13, F13, N13, hc13, hx13⟩ := C13.all S12 F12 N12 [(s1.heap.objs.size + 1 + 1 + 1 + 1, o4), (s1.heap.objs.size + 1 + 1 + 1, o3), (s1.heap.objs.size + 1 + 1, o2'), (s1.heap.objs.size + 1, o1')] (by first | ((repeat' (first | exact sub_nil | refine sub_cons ?_ ?_)); (all_goals (first | ((repeat (first | exact .head _ | refine .tail _ ?_)); done) | (refine Or.inr ?_; (repeat (first | exact .head _ | refine .tail _ ?_)); done) | (refine Or.inl ?_; (repeat (first | exact .head _ | refine .tail _ ?_)); done) | (apply Exists.intro; (repeat (first | exact .head _ | refine .tail _ ?_)); done) | (intro p hp; (repeat (first | exact hp | refine .tail _ ?_)); done))); done) | (trace "SUBFALL"; simp)) (hc_cells hc12 rfl)
     clear C13 S12 F12 N12 hc12
     (try clear q1 q2 q3 q4); (try clear hx12); (try clear hR12)
     dsimp only [List.cons_append, List.nil_append] at N13 S13 hR13
     have q1 := hx13 _ (.head _)
     have q2 := hx13 _ (.tail _ (.head _))
     have q3 := hx13 _ (.tail _ (.tail _ (.head _)))
     have q4 := hx13 _ (.tail _ (.tail _ (.tail _ (.head _))))
     dsimp only at q1 q2 q3 q4
     (try clear ksz)
     have ksz := ltsz (N13 _ (.head _)).1
     dsimp only at ksz
     dsimp only
     repeat' (first | (k_unfold; (try dsimp only)) | (k_end; wrow_close) | ((fail_if_success (with_reducible show wpAny _ _ (eval (Expr.ListComp _ _ _ _) _) _ _ _)); first | walk1 | (dsimp only; walk1) | (leave1; walk_say "STEP leave1"; try dsimp only)) | fail "no step")
     as_aux_lemma =>
      rename News _ _ _ _ => N13
      rename Fr _ _ _ _ => F13
      have S13 := S13.on (re_on N13 (by rw [← hR13]; intro p hp; first | ((repeat (first | exact hp | refine .tail _ ?_)); done) | (trace "INRFALL"; simp [hp])))
      have f6 : ∀ k ∈ fs, k < n := fun k hk => List.mem_range.mp (hfs.subset hk)
      have g6 : ∀ k ∈ gs, k < n := fun k hk => List.mem_range.mp (hgs.subset hk)
      obtain ⟨ysn, epn, hgn, hsn⟩ := S13.at_ (.sl nl _) (.tail _ (.tail _ (.tail _ (.tail _ (.tail _ (.tail _ (.tail _ (.head _))))))))
      obtain ⟨yso, epo, hgo, hso⟩ := S13.at_ (.sl l9 _) (.tail _ (.tail _ (.tail _ (.tail _ (.head _)))))
      obtain ⟨vs1, hl1, hv1⟩ := sl_list (S13.at_ (.sl l8 _) (.tail _ (.tail _ (.tail _ (.tail _ (.tail _ (.head _)))))))
      refine wpAny_with_toks (n := 1) (by first | exact tkpos (by assumption) | (trace "TKFALL"; dsimp only; omega)) ?_
      refine hideQ fun Qc hQc => ?_
      refine' wpAny_ListComp_free (fun _ => true) (OtherG gs) ?clos5 ?cell5 ?kind5 ?names5 ?x5 ?h5
      case clos5 => with_unfolding_all exact rfl
      case cell5 => decide
      case kind5 => exact rfl
      case names5 => decide
      case x5 => exact rfl
      repeat' (first | (k_unfold; (try dsimp only)) | (k_end; wrow_close) | ((fail_if_success (with_reducible show wpAny _ _ (pyIter _) _ _ _)); first | walk1 | (dsimp only; walk1) | (leave1; walk_say "STEP leave1"; try dsimp only)) | fail "no step")
      refine ci_list (fun _ => true) _ rfl hl1 (by rw [strs_len hv1, List.length_map, hfl, sizeLine_eq]; omega) F13 N13 ?tests5 ?elt5 ?done5
      case tests5 => intros; exact no_tests (v := .none) (p := fun _ => true) rfl
      case elt5 =>
        intro C i v s₃ m₃ E' hv hp F₃ hm₃ N₃ st₃
        obtain ⟨x, t, rfl, hx⟩ := strs_get hv1 hv
        rw [List.getElem?_map] at hx
        obtain ⟨k, hk, rfl⟩ := Option.map_eq_some_iff.mp hx
        have hkn : k < n := f6 k (List.mem_of_getElem? hk)
        obtain ⟨u0, hvo⟩ : ∃ u, yso.toList[((k : Nat) : Int).toNat]? = some (.str (ch (app gs k)) u) := by
          have h1 : k < yso.toList.length := by rw [strs_len hso, List.length_map]; omega
          obtain ⟨y, u, e1, e2⟩ := strs_get hso (List.getElem?_eq_getElem h1)
          rw [List.getElem?_map, app_get (by omega)] at e2
          cases e2
          exact ⟨u, by rw [Int.toNat_natCast, List.getElem?_eq_getElem h1, e1]⟩
        repeat' (first | (k_unfold; (try dsimp only)) | (k_end; wrow_close) | ((fail_if_success (with_reducible show wpAny _ _ (getMethod (Value.ref _) _ _) _ _ _)); first | walk1 | (dsimp only; walk1) | (leave1; walk_say "STEP leave1"; try dsimp only)) | fail "no step")
        refine getm_list (st₃ _ _ hgn) PySem.F.slot_list_index PySem.F.type_list_index ?_
        repeat' (first | (k_unfold; (try dsimp only)) | (k_end; wrow_close) | ((fail_if_success (with_reducible show wpAny _ _ (call (Value.builtin "list.index") _) _ _ _)); first | walk1 | (dsimp only; walk1) | (leave1; walk_say "STEP leave1"; try dsimp only)) | fail "no step")
        refine idx_names (st₃ _ _ hgn) hsn hkn (by omega) ?_
        repeat' (first | (k_unfold; (try dsimp only)) | (k_end; wrow_close) | ((fail_if_success (with_reducible show wpAny _ _ (subscriptTail _ _ (Value.ref _) (Value.int _ _)) _ _ _)); first | walk1 | (dsimp only; walk1) | (leave1; walk_say "STEP leave1"; try dsimp only)) | fail "no step")
        refine liS_tail (vs := yso.toList) ⟨_, st₃ _ _ hgo, rfl, epo, by simp⟩ (by omega) (by omega) hvo ?_
        repeat' (first | (k_unfold; (try dsimp only)) | (k_end; wrow_close) | (first | walk1 | (dsimp only; walk1) | (leave1; walk_say "STEP leave1"; try dsimp only)) | fail "no step")
        · exact OtherG.mk
        · exact ⟨s₃.heap, _, rfl, fun _ _ e => e⟩
      intro l14 h14 tk14 ys14 ep14 F14 N14 hn14 hG14 st14 hD14
      rw [filter_true] at hG14
      have hs14 := other_map hv1 hG14
      refine hQc _ _ ?_
      intro htk14
      dsimp only at htk14 ⊢
      have C14 := S13.stays st14 [Piece.sl l14 ((fs.map (app gs)).map ch)] (fun q hq => by rw [List.mem_singleton.mp hq]; exact ⟨ys14, ep14, (N14 _ (.head _)).1, hs14⟩) (fun q hq b hb => by
        rw [List.mem_singleton.mp hq] at hb
        rw [List.mem_singleton.mp hb]; exact hD14) (List.pairwise_singleton _ _)
      clear N14 F14 hQc hG14 hs14 hD14 st14 hn14 hgn hsn hgo hso hl1 hv1
      obtain ⟨R14, hR14, S14, F14, N14, hc14, hx14⟩ := C14.all S13 F13 N13 [(s1.heap.objs.size + 1 + 1 + 1 + 1, o4), (s1.heap.objs.size + 1 + 1 + 1, o3), (s1.heap.objs.size + 1 + 1, o2'), (s1.heap.objs.size + 1, o1')] (by first | ((repeat' (first | exact sub_nil | refine sub_cons ?_ ?_)); (all_goals (first | ((repeat (first | exact .head _ | refine .tail _ ?_)); done) | (refine Or.inr ?_; (repeat (first | exact .head _ | refine .tail _ ?_)); done) | (refine Or.inl ?_; (repeat (first | exact .head _ | refine .tail _ ?_)); done) | (apply Exists.intro; (repeat (first | exact .head _ | refine .tail _ ?_)); done) | (intro p hp; (repeat (first | exact hp | refine .tail _ ?_)); done))); done) | (trace "SUBFALL"; simp)) (hc_cells hc13 rfl)
      clear C14 S13 F13 N13 hc13
      (try clear q1 q2 q3 q4); (try clear hx13); (try clear hR13)
      dsimp only [List.cons_append, List.nil_append] at N14 S14 hR14
      have q1 := hx14 _ (.head _)
      have q2 := hx14 _ (.tail _ (.head _))
      have q3 := hx14 _ (.tail _ (.tail _ (.head _)))
      have q4 := hx14 _ (.tail _ (.tail _ (.tail _ (.head _))))
      dsimp only at q1 q2 q3 q4
      (try clear ksz)
      have ksz := ltsz (N14 _ (.head _)).1
      dsimp only at ksz
      repeat' (first | (k_unfold; (try dsimp only)) | (k_end; wrow_close) | ((fail_if_success (with_reducible show wpAny _ _ (compareOp _ (Value.ref _) (Value.ref _)) _ _ _)); first | walk1 | (dsimp only; walk1) | (leave1; walk_say "STEP leave1"; try dsimp only)) | fail "no step")
      refine st_neF S14 (.tail _ (.head _)) (.head _) (fun k hk => ?_) rfl (by ke_room) ?_
      · obtain ⟨j, hj, rfl⟩ := List.mem_map.mp hk
        have := app_lt hgs (f6 j hj)
        omega
      repeat' (first | (k_unfold; (try dsimp only)) | (k_end; wrow_close) | ((fail_if_success (with_reducible show wpAny _ _ (call (Value.ref 551) _) _ _ _)); first | walk1 | (dsimp only; walk1) | (leave1; walk_say "STEP leave1"; try dsimp only)) | fail "no step")
      rename News _ _ _ _ => N14
      rename Fr _ _ _ _ => F14
      have S14 := S14.on (re_on N14 (by rw [← hR14]; intro p hp; first | ((repeat (first | exact hp | refine .tail _ ?_)); done) | (trace "INRFALL"; simp [hp])))
      refine wpAny_with_toks (n := 1) (by first | exact tkpos (by assumption) | (trace "TKFALL"; dsimp only; omega)) ?_
      refine st_thr X T F14 (by decide +kernel) (by decide +kernel) S14 (.tail _ (.tail _ (.tail _ (.tail _ (.head _))))) (.tail _ (.tail _ (.tail _ (.tail _ (.tail _ (.tail _ (.tail _ (.tail _ (.head _))))))))) M1 (fun k hk => List.mem_range.mp hk) (by simp [hn6]) ?_
      intro l15 h15 tk15 C15 htk15
      rw [range_app hfl] at C15
      obtain ⟨R15, hR15, S15, F15, N15, hc15, hx15⟩ := C15.all S14 F14 N14 [(s1.heap.objs.size + 1 + 1 + 1 + 1, o4), (s1.heap.objs.size + 1 + 1 + 1, o3), (s1.heap.objs.size + 1 + 1, o2'), (s1.heap.objs.size + 1, o1')] (by first | ((repeat' (first | exact sub_nil | refine sub_cons ?_ ?_)); (all_goals (first | ((repeat (first | exact .head _ | refine .tail _ ?_)); done) | (refine Or.inr ?_; (repeat (first | exact .head _ | refine .tail _ ?_)); done) | (refine Or.inl ?_; (repeat (first | exact .head _ | refine .tail _ ?_)); done) | (apply Exists.intro; (repeat (first | exact .head _ | refine .tail _ ?_)); done) | (intro p hp; (repeat (first | exact hp | refine .tail _ ?_)); done))); done) | (trace "SUBFALL"; simp)) (hc_cells hc14 rfl)
      clear C15 S14 F14 N14 hc14
      (try clear q1 q2 q3 q4); (try clear hx14); (try clear hR14)
      dsimp only [List.cons_append, List.nil_append] at N15 S15 hR15
      have q1 := hx15 _ (.head _)
      have q2 := hx15 _ (.tail _ (.head _))
      have q3 := hx15 _ (.tail _ (.tail _ (.head _)))
      have q4 := hx15 _ (.tail _ (.tail _ (.tail _ (.head _))))
      dsimp only at q1 q2 q3 q4
      (try clear ksz)
      have ksz := ltsz (N15 _ (.head _)).1
      dsimp only at ksz
      dsimp only
      repeat' (first | (k_unfold; (try dsimp only)) | (k_end; wrow_close) | ((fail_if_success (with_reducible show wpAny _ _ (compareOp _ (Value.ref _) (Value.ref _)) _ _ _)); first | walk1 | (dsimp only; walk1) | (leave1; walk_say "STEP leave1"; try dsimp only)) | fail "no step")
      refine st_neF S15 (.head _) (.tail _ (.tail _ (.tail _ (.tail _ (.tail _ (.tail _ (.tail _ (.head _)))))))) (fun k hk => by have := f6 k hk; omega) rfl (by ke_room) ?_
      repeat' (first | (k_unfold; (try dsimp only)) | (k_end; wrow_close) | ((fail_if_success (with_reducible show wpAny _ _ (call (Value.ref 544) _) _ _ _)); first | walk1 | (dsimp only; walk1) | (leave1; walk_say "STEP leave1"; try dsimp only)) | fail "no step")
      as_aux_lemma =>
       rename News _ _ _ _ => N15
       rename Fr _ _ _ _ => F15
       have S15 := S15.on (re_on N15 (by rw [← hR15]; intro p hp; first | ((repeat (first | exact hp | refine .tail _ ?_)); done) | (trace "INRFALL"; simp [hp])))
       refine wpAny_with_toks (n := 1) (by first | exact tkpos (by assumption) | (trace "TKFALL"; dsimp only; omega)) ?_
       refine st_turned X T F15 (by decide +kernel) (by decide +kernel) S15 (.tail _ (.tail _ (.tail _ (.tail _ (.tail _ (.tail _ (.tail _ (.tail _ (.head _))))))))) (.tail _ (.tail _ (.tail _ (.tail _ (.tail _ (.head _)))))) (xs_nodup hfs hes1) ?_
       intro h16 tk16 a3 d3 t3' es3 C16 hes3 htk16
       obtain ⟨R16, hR16, S16, F16, N16, hc16, hx16⟩ := C16.all S15 F15 N15 [(s1.heap.objs.size + 1 + 1 + 1 + 1, o4), (s1.heap.objs.size + 1 + 1 + 1, o3), (s1.heap.objs.size + 1 + 1, o2'), (s1.heap.objs.size + 1, o1')] (by first | ((repeat' (first | exact sub_nil | refine sub_cons ?_ ?_)); (all_goals (first | ((repeat (first | exact .head _ | refine .tail _ ?_)); done) | (refine Or.inr ?_; (repeat (first | exact .head _ | refine .tail _ ?_)); done) | (refine Or.inl ?_; (repeat (first | exact .head _ | refine .tail _ ?_)); done) | (apply Exists.intro; (repeat (first | exact .head _ | refine .tail _ ?_)); done) | (intro p hp; (repeat (first | exact hp | refine .tail _ ?_)); done))); done) | (trace "SUBFALL"; simp)) (hc_cells hc15 rfl)
       clear C16 S15 F15 N15 hc15
       (try clear q1 q2 q3 q4); (try clear hx15); (try clear hR15)
       dsimp only [List.cons_append, List.nil_append] at N16 S16 hR16
       have q1 := hx16 _ (.head _)
       have q2 := hx16 _ (.tail _ (.head _))
       have q3 := hx16 _ (.tail _ (.tail _ (.head _)))
       have q4 := hx16 _ (.tail _ (.tail _ (.tail _ (.head _))))
       dsimp only at q1 q2 q3 q4
       (try clear ksz)
       have ksz := ltsz (N16 _ (.head _)).1
       dsimp only at ksz
       have M3 := maps_turned hfs hes1 hes3
       dsimp only
       repeat' (first | (k_unfold; (try dsimp only)) | (k_end; wrow_close) | ((fail_if_success (with_reducible show wpAny _ _ (call (Value.ref 544) _) _ _ _)); first | walk1 | (dsimp only; walk1) | (leave1; walk_say "STEP leave1"; try dsimp only)) | fail "no step")
       rename News _ _ _ _ => N16
       rename Fr _ _ _ _ => F16
       refine wpAny_with_toks (n := 1) (by first | exact tkpos (by assumption) | (trace "TKFALL"; dsimp only; omega)) ?_
       refine st_turned X T F16 (by decide +kernel) (by decide +kernel) S16 (.tail _ (.tail _ (.tail _ (.tail _ (.tail _ (.tail _ (.tail _ (.tail _ (.tail _ (.head _)))))))))) (.tail _ (.tail _ (.tail _ (.tail _ (.tail _ (.head _)))))) (xs_nodup hgs hes2) ?_
       intro h17 tk17 a4 d4 t4' es4 C17 hes4 htk17
       obtain ⟨R17, hR17, S17, F17, N17, hc17, hx17⟩ := C17.all S16 F16 N16 [(s1.heap.objs.size + 1 + 1 + 1 + 1, o4), (s1.heap.objs.size + 1 + 1 + 1, o3), (s1.heap.objs.size + 1 + 1, o2'), (s1.heap.objs.size + 1, o1')] (by first | ((repeat' (first | exact sub_nil | refine sub_cons ?_ ?_)); (all_goals (first | ((repeat (first | exact .head _ | refine .tail _ ?_)); done) | (refine Or.inr ?_; (repeat (first | exact .head _ | refine .tail _ ?_)); done) | (refine Or.inl ?_; (repeat (first | exact .head _ | refine .tail _ ?_)); done) | (apply Exists.intro; (repeat (first | exact .head _ | refine .tail _ ?_)); done) | (intro p hp; (repeat (first | exact hp | refine .tail _ ?_)); done))); done) | (trace "SUBFALL"; simp)) (hc_cells hc16 rfl)
       clear C17 S16 F16 N16 hc16
       (try clear q1 q2 q3 q4); (try clear hx16); (try clear hR16)
       dsimp only [List.cons_append, List.nil_append] at N17 S17 hR17
       have q1 := hx17 _ (.head _)
       have q2 := hx17 _ (.tail _ (.head _))
       have q3 := hx17 _ (.tail _ (.tail _ (.head _)))
       have q4 := hx17 _ (.tail _ (.tail _ (.tail _ (.head _))))
       dsimp only at q1 q2 q3 q4
       (try clear ksz)
       have ksz := ltsz (N17 _ (.head _)).1
       dsimp only at ksz
       have M4 := maps_turned hgs hes2 hes4
       dsimp only
       repeat' (first | (k_unfold; (try dsimp only)) | (k_end; wrow_close) | ((fail_if_success (with_reducible show wpAny _ _ (call (Value.ref 551) _) _ _ _)); first | walk1 | (dsimp only; walk1) | (leave1; walk_say "STEP leave1"; try dsimp only)) | fail "no step")
       rename News _ _ _ _ => N17
       rename Fr _ _ _ _ => F17
       have S17 := S17.on (re_on N17 (by rw [← hR17]; intro p hp; first | ((repeat (first | exact hp | refine .tail _ ?_)); done) | (trace "INRFALL"; simp [hp])))
       refine wpAny_with_toks (n := 1) (by first | exact tkpos (by assumption) | (trace "TKFALL"; dsimp only; omega)) ?_
       refine st_thr X T F17 (by decide +kernel) (by decide +kernel) S17 (.tail _ (.head _)) (.tail _ (.tail _ (.tail _ (.tail _ (.tail _ (.tail _ (.tail _ (.tail _ (.tail _ (.head _)))))))))) M3 f6 (by omega) ?_
       intro l18 h18 tk18 C18 htk18
       rw [back_one hfs] at C18
       obtain ⟨R18, hR18, S18, F18, N18, hc18, hx18⟩ := C18.all S17 F17 N17 [(s1.heap.objs.size + 1 + 1 + 1 + 1, o4), (s1.heap.objs.size + 1 + 1 + 1, o3), (s1.heap.objs.size + 1 + 1, o2'), (s1.heap.objs.size + 1, o1')] (by first | ((repeat' (first | exact sub_nil | refine sub_cons ?_ ?_)); (all_goals (first | ((repeat (first | exact .head _ | refine .tail _ ?_)); done) | (refine Or.inr ?_; (repeat (first | exact .head _ | refine .tail _ ?_)); done) | (refine Or.inl ?_; (repeat (first | exact .head _ | refine .tail _ ?_)); done) | (apply Exists.intro; (repeat (first | exact .head _ | refine .tail _ ?_)); done) | (intro p hp; (repeat (first | exact hp | refine .tail _ ?_)); done))); done) | (trace "SUBFALL"; simp)) (hc_cells hc17 rfl)
       clear C18 S17 F17 N17 hc17
       (try clear q1 q2 q3 q4); (try clear hx17); (try clear hR17)
       dsimp only [List.cons_append, List.nil_append] at N18 S18 hR18
       have q1 := hx18 _ (.head _)
       have q2 := hx18 _ (.tail _ (.head _))
       have q3 := hx18 _ (.tail _ (.tail _ (.head _)))
       have q4 := hx18 _ (.tail _ (.tail _ (.tail _ (.head _))))
       dsimp only at q1 q2 q3 q4
       (try clear ksz)
       have ksz := ltsz (N18 _ (.head _)).1
       dsimp only at ksz
       dsimp only
       repeat' (first | (k_unfold; (try dsimp only)) | (k_end; wrow_close) | ((fail_if_success (with_reducible show wpAny _ _ (compareOp _ (Value.ref _) (Value.ref _)) _ _ _)); first | walk1 | (dsimp only; walk1) | (leave1; walk_say "STEP leave1"; try dsimp only)) | fail "no step")
       refine st_neF S18 (.head _) (.tail _ (.tail _ (.tail _ (.tail _ (.tail _ (.tail _ (.tail _ (.tail _ (.tail _ (.tail _ (.tail _ (.tail _ (.head _))))))))))))) (fun k hk => by have := List.mem_range.mp hk; omega) rfl (by ke_room) ?_
       repeat' (first | (k_unfold; (try dsimp only)) | (k_end; wrow_close) | ((fail_if_success (with_reducible show wpAny _ _ (call (Value.ref 551) _) _ _ _)); first | walk1 | (dsimp only; walk1) | (leave1; walk_say "STEP leave1"; try dsimp only)) | fail "no step")
       rename News _ _ _ _ => N18
       rename Fr _ _ _ _ => F18
       have S18 := S18.on (re_on N18 (by rw [← hR18]; intro p hp; first | ((repeat (first | exact hp | refine .tail _ ?_)); done) | (trace "INRFALL"; simp [hp])))
       refine wpAny_with_toks (n := 1) (by first | exact tkpos (by assumption) | (trace "TKFALL"; dsimp only; omega)) ?_
       refine st_thr X T F18 (by decide +kernel) (by decide +kernel) S18 (.tail _ (.head _)) (.tail _ (.tail _ (.tail _ (.tail _ (.tail _ (.head _)))))) M4 (fun k hk => ?_) (by rw [List.length_map]; omega) ?_
       · obtain ⟨j, hj, rfl⟩ := List.mem_map.mp hk
         exact app_lt hgs (f6 j hj)
       intro l19 h19 tk19 C19 htk19
       rw [map_idx hgs f6] at C19
       obtain ⟨R19, hR19, S19, F19, N19, hc19, hx19⟩ := C19.all S18 F18 N18 [(s1.heap.objs.size + 1 + 1 + 1 + 1, o4), (s1.heap.objs.size + 1 + 1 + 1, o3), (s1.heap.objs.size + 1 + 1, o2'), (s1.heap.objs.size + 1, o1')] (by first | ((repeat' (first | exact sub_nil | refine sub_cons ?_ ?_)); (all_goals (first | ((repeat (first | exact .head _ | refine .tail _ ?_)); done) | (refine Or.inr ?_; (repeat (first | exact .head _ | refine .tail _ ?_)); done) | (refine Or.inl ?_; (repeat (first | exact .head _ | refine .tail _ ?_)); done) | (apply Exists.intro; (repeat (first | exact .head _ | refine .tail _ ?_)); done) | (intro p hp; (repeat (first | exact hp | refine .tail _ ?_)); done))); done) | (trace "SUBFALL"; simp)) (hc_cells hc18 rfl)
       clear C19 S18 F18 N18 hc18
       (try clear q1 q2 q3 q4); (try clear hx18); (try clear hR18)
       dsimp only [List.cons_append, List.nil_append] at N19 S19 hR19
       have q1 := hx19 _ (.head _)
       have q2 := hx19 _ (.tail _ (.head _))
       have q3 := hx19 _ (.tail _ (.tail _ (.head _)))
       have q4 := hx19 _ (.tail _ (.tail _ (.tail _ (.head _))))
       dsimp only at q1 q2 q3 q4
       (try clear ksz)
       have ksz := ltsz (N19 _ (.head _)).1
       dsimp only at ksz
       dsimp only
       repeat' (first | (k_unfold; (try dsimp only)) | (k_end; wrow_close) | ((fail_if_success (with_reducible show wpAny _ _ (call (Value.ref 551) _) _ _ _)); first | walk1 | (dsimp only; walk1) | (leave1; walk_say "STEP leave1"; try dsimp only)) | fail "no step")
       rename News _ _ _ _ => N19
       rename Fr _ _ _ _ => F19
       have S19 := S19.on (re_on N19 (by rw [← hR19]; intro p hp; first | ((repeat (first | exact hp | refine .tail _ ?_)); done) | (trace "INRFALL"; simp [hp])))
       refine wpAny_with_toks (n := 1) (by first | exact tkpos (by assumption) | (trace "TKFALL"; dsimp only; omega)) ?_
       refine st_thr X T F19 (by decide +kernel) (by decide +kernel) S19 (.tail _ (.tail _ (.tail _ (.head _)))) (.head _) M3 f6 (by omega) ?_
       intro l20 h20 tk20 C20 htk20
       rw [back_one hfs] at C20
       obtain ⟨R20, hR20, S20, F20, N20, hc20, hx20⟩ := C20.all S19 F19 N19 [(s1.heap.objs.size + 1 + 1 + 1 + 1, o4), (s1.heap.objs.size + 1 + 1 + 1, o3), (s1.heap.objs.size + 1 + 1, o2'), (s1.heap.objs.size + 1, o1')] (by first | ((repeat' (first | exact sub_nil | refine sub_cons ?_ ?_)); (all_goals (first | ((repeat (first | exact .head _ | refine .tail _ ?_)); done) | (refine Or.inr ?_; (repeat (first | exact .head _ | refine .tail _ ?_)); done) | (refine Or.inl ?_; (repeat (first | exact .head _ | refine .tail _ ?_)); done) | (apply Exists.intro; (repeat (first | exact .head _ | refine .tail _ ?_)); done) | (intro p hp; (repeat (first | exact hp | refine .tail _ ?_)); done))); done) | (trace "SUBFALL"; simp)) (hc_cells hc19 rfl)
       clear C20 S19 F19 N19 hc19
       (try clear q1 q2 q3 q4); (try clear hx19); (try clear hR19)
       dsimp only [List.cons_append, List.nil_append] at N20 S20 hR20
       have q1 := hx20 _ (.head _)
       have q2 := hx20 _ (.tail _ (.head _))
       have q3 := hx20 _ (.tail _ (.tail _ (.head _)))
       have q4 := hx20 _ (.tail _ (.tail _ (.tail _ (.head _))))
       dsimp only at q1 q2 q3 q4
       (try clear ksz)
       have ksz := ltsz (N20 _ (.head _)).1
       dsimp only at ksz
       dsimp only
       repeat' (first | (k_unfold; (try dsimp only)) | (k_end; wrow_close) | ((fail_if_success (with_reducible show wpAny _ _ (compareOp _ (Value.ref _) (Value.ref _)) _ _ _)); first | walk1 | (dsimp only; walk1) | (leave1; walk_say "STEP leave1"; try dsimp only)) | fail "no step")
       refine st_neF S20 (.head _) (.tail _ (.tail _ (.tail _ (.tail _ (.tail _ (.tail _ (.tail _ (.tail _ (.tail _ (.tail _ (.tail _ (.tail _ (.tail _ (.tail _ (.head _))))))))))))))) (fun k hk => by have := List.mem_range.mp hk; omega) rfl (by ke_room) ?_
       repeat' (first | (k_unfold; (try dsimp only)) | (k_end; wrow_close) | ((fail_if_success (with_reducible show wpAny _ _ (call (Value.ref 558) _) _ _ _)); first | walk1 | (dsimp only; walk1) | (leave1; walk_say "STEP leave1"; try dsimp only)) | fail "no step")
       as_aux_lemma =>
        rename News _ _ _ _ => N20
        rename Fr _ _ _ _ => F20
        have S20 := S20.on (re_on N20 (by rw [← hR20]; intro p hp; first | ((repeat (first | exact hp | refine .tail _ ?_)); done) | (trace "INRFALL"; simp [hp])))
        refine wpAny_with_toks (n := 1) (by first | exact tkpos (by assumption) | (trace "TKFALL"; dsimp only; omega)) ?_
        refine st_rounds X T F20 (by decide +kernel) (by decide +kernel) S20 (.tail _ (.tail _ (.tail _ (.tail _ (.tail _ (.tail _ (.tail _ (.tail _ (.tail _ (.tail _ (.tail _ (.tail _ (.tail _ (.head _)))))))))))))) (.tail _ (.tail _ (.tail _ (.tail _ (.tail _ (.tail _ (.tail _ (.tail _ (.tail _ (.tail _ (.head _))))))))))) (by decide) ?_
        intro l21 h21 tk21 ns C21 hns hsort htk21
        obtain ⟨R21, hR21, S21, F21, N21, hc21, hx21⟩ := C21.all S20 F20 N20 [(s1.heap.objs.size + 1 + 1 + 1 + 1, o4), (s1.heap.objs.size + 1 + 1 + 1, o3), (s1.heap.objs.size + 1 + 1, o2'), (s1.heap.objs.size + 1, o1')] (by first | ((repeat' (first | exact sub_nil | refine sub_cons ?_ ?_)); (all_goals (first | ((repeat (first | exact .head _ | refine .tail _ ?_)); done) | (refine Or.inr ?_; (repeat (first | exact .head _ | refine .tail _ ?_)); done) | (refine Or.inl ?_; (repeat (first | exact .head _ | refine .tail _ ?_)); done) | (apply Exists.intro; (repeat (first | exact .head _ | refine .tail _ ?_)); done) | (intro p hp; (repeat (first | exact hp | refine .tail _ ?_)); done))); done) | (trace "SUBFALL"; simp)) (hc_cells hc20 rfl)
        clear C21 S20 F20 N20 hc20
        (try clear q1 q2 q3 q4); (try clear hx20); (try clear hR20)
        dsimp only [List.cons_append, List.nil_append] at N21 S21 hR21
        have q1 := hx21 _ (.head _)
        have q2 := hx21 _ (.tail _ (.head _))
        have q3 := hx21 _ (.tail _ (.tail _ (.head _)))
        have q4 := hx21 _ (.tail _ (.tail _ (.tail _ (.head _))))
        dsimp only at q1 q2 q3 q4
        (try clear ksz)
        have ksz := ltsz (N21 _ (.head _)).1
        dsimp only at ksz
        dsimp only
        repeat' (first | (k_unfold; (try dsimp only)) | (k_end; wrow_close) | ((fail_if_success (with_reducible show wpAny _ _ (exec (Stmt.While _ _ _ _) _) _ _ _)); first | walk1 | (dsimp only; walk1) | (leave1; walk_say "STEP leave1"; try dsimp only)) | fail "no step")
        rename_i o3' hcr _ o4' hcl _ _ _ _ htkw
        obtain ⟨P21, hP21, SP⟩ : ∃ P, P = _ ∧ St w _ _ _ _ P := ⟨_, rfl, S21⟩
        rename News _ _ _ _ => N21
        rename Fr _ _ _ _ => F21
        have S21 := S21.on (re_on N21 (by rw [← hR21]; intro p hp; first | ((repeat (first | exact hp | refine .tail _ ?_)); done) | (trace "INRFALL"; simp [hp])))
        have mil : Piece.il l21 ns ∈ P21 := hP21 ▸ (.head _)
        have mboth : Piece.sl l13 ((fs.map (app gs)).map ch) ∈ P21 := hP21 ▸ (.tail _ (.tail _ (.tail _ (.tail _ (.tail _ (.tail _ (.tail _ (.tail _ (.head _)))))))))
        have mone : Piece.sl l8 (fs.map ch) ∈ P21 := hP21 ▸ (.tail _ (.tail _ (.tail _ (.tail _ (.tail _ (.tail _ (.tail _ (.tail _ (.tail _ (.tail _ (.tail _ (.tail _ (.tail _ (.head _))))))))))))))
        have mother : Piece.sl l9 (gs.map ch) ∈ P21 := hP21 ▸ (.tail _ (.tail _ (.tail _ (.tail _ (.tail _ (.tail _ (.tail _ (.tail _ (.tail _ (.tail _ (.tail _ (.tail _ (.head _)))))))))))))
        have ma1 : Piece.hash a1 d1 t1 es1 ∈ P21 := hP21 ▸ (.tail _ (.tail _ (.tail _ (.tail _ (.tail _ (.tail _ (.tail _ (.tail _ (.tail _ (.tail _ (.tail _ (.head _))))))))))))
        have ma2 : Piece.hash a2 d2 t2 es2 ∈ P21 := hP21 ▸ (.tail _ (.tail _ (.tail _ (.tail _ (.tail _ (.tail _ (.tail _ (.tail _ (.tail _ (.tail _ (.head _)))))))))))
        have ma4 : Piece.hash a4 d4 t4' es4 ∈ P21 := hP21 ▸ (.tail _ (.tail _ (.tail _ (.tail _ (.head _)))))
        have mwd : Piece.wd V ∈ P21 := hP21 ▸ (.tail _ (.tail _ (.tail _ (.tail _ (.tail _ (.tail _ (.tail _ (.tail _ (.tail _ (.tail _ (.tail _ (.tail _ (.tail _ (.tail _ (.head _)))))))))))))))
        have mnl : Piece.sl nl ((List.range n).map ch) ∈ P21 := hP21 ▸ (.tail _ (.tail _ (.tail _ (.tail _ (.tail _ (.tail _ (.tail _ (.tail _ (.tail _ (.tail _ (.tail _ (.tail _ (.tail _ (.tail _ (.tail _ (.head _))))))))))))))))
        have hcP : ∀ p ∈ [(s1.heap.objs.size + 1 + 1 + 1 + 1, o4'), (s1.heap.objs.size + 1 + 1 + 1, o3'), (s1.heap.objs.size + 1 + 1, o2'), (s1.heap.objs.size + 1, o1')], p.1 ∉ asOf P21 := by rw [hP21]; exact hc_cells hc21 rfl
        have hRP : R21 = re h21 (asOf P21) := by rw [hP21]; exact hR21
        clear S21 hc21 hR21 hP21 hx21
        as_aux_lemma =>
         have GF := good_of hn2 hn6 hfs
         obtain ⟨m21, hm21, F21'⟩ := fr_name F21
         have N21' : News s1.heap s1.heap.objs.size _ ([(s1.heap.objs.size + 1 + 1 + 1 + 1, o4'), (s1.heap.objs.size + 1 + 1 + 1, o3'), (s1.heap.objs.size + 1 + 1, o2'), (s1.heap.objs.size + 1, o1')] ++ R21) := fun p hp => N21 p (.tail _ hp)
         obtain ⟨WQ, hWQ⟩ : ∃ Q : WSt → Prop, Q = fun c => (∃ h, c.R = re h (asOf (c.ex ++ P21)) ∧ St w s1.heap s1.heap.objs.size h 19 (c.ex ++ P21)) ∧ Piece.sl c.hl ((pw fs c.t).map ch) ∈ c.ex ++ P21 ∧ 1 ≤ c.t ∧ (∀ j, 1 ≤ j → j < c.t → pw fs j ≠ List.range n) ∧
             c.o.data = .cell (some (.int (c.t : Int) c.tk)) ∧ ∀ p ∈ [(s1.heap.objs.size + 1 + 1 + 1 + 1, o4'), (s1.heap.objs.size + 1 + 1 + 1, o3'), (s1.heap.objs.size + 1 + 1, o2'), (s1.heap.objs.size + 1, o1')], p.1 ∉ asOf (c.ex ++ P21) := ⟨_, rfl⟩
         obtain ⟨QD, hQD⟩ : ∃ Q : Flow → Shared → Prop, Q = fun f s₂ => f = .next ∧ ∃ (c : WSt) (h : Heap) (tk : Nat) (u : Str → Option Value), s₂ = { s1 with heap := h, toks := tk } ∧ 1 ≤ tk ∧ WQ c ∧ pw fs c.t = List.range n ∧
               Fr s1.heap s1.heap.objs.size h (kstB (fun z => if ([] : List Str).contains z then u z else m21 z) [("here", .ref c.hl)]) ∧ News s1.heap s1.heap.objs.size h ((s1.heap.objs.size + 1 + 1 + 1 + 1, c.o) :: (s1.heap.objs.size + 1 + 1 + 1, o3') :: (s1.heap.objs.size + 1 + 1, o2') :: (s1.heap.objs.size + 1, o1') :: c.R) := ⟨_, rfl⟩
         refine wpAny_mono (while_T (σ := WSt) (Q := QD)
             (fun c => (s1.heap.objs.size + 1 + 1 + 1 + 1, c.o) :: (s1.heap.objs.size + 1 + 1 + 1, o3') :: (s1.heap.objs.size + 1 + 1, o2') :: (s1.heap.objs.size + 1, o1') :: c.R)
             (fun c => [("here", .ref c.hl)]) [] WQ (fun c => 13 - c.t) ⟨o4', 1, tk21, l8, [], R21⟩ F21' N21' ?hk8 ?hp8 1 (by dsimp only; omega) ?turn8) ?done8 (fun _ _ e => e)
         case hk8 => intro p hp; rw [List.mem_singleton.mp hp, hm21]; exact rfl
         case hp8 =>
           rw [hWQ]
           exact ⟨⟨h21, hRP, SP⟩, by rw [pw_one hfs]; exact mone, Nat.le_refl _, fun j h1 (h2 : j < 1) => by omega, hcl, hcP⟩
         case turn8 =>
           intro c u h tk htk hP F8 N8
           clear F21 F21' N21 N21'
           obtain ⟨o, t, tt, hl, ex, R⟩ := c
           have hP' := hP
           rw [hWQ] at hP'
           obtain ⟨⟨h0, hR0, S0⟩, hm, h1, hmin, hod, hcc⟩ := hP'
           dsimp only at hR0 S0 hm h1 hmin hod hcc F8 N8
           have S8 := S0.on (re_on N8 (by rw [← hR0]; intro p hp; first | ((repeat (first | exact hp | refine .tail _ ?_)); done) | (trace "INRFALL"; simp [hp])))
           have hx8 := re_ne hR0 hcc
           clear q1 q2 q3 q4 ksz
           have q1 := hx8 _ (.head _)
           have q2 := hx8 _ (.tail _ (.head _))
           have q3 := hx8 _ (.tail _ (.tail _ (.head _)))
           have q4 := hx8 _ (.tail _ (.tail _ (.tail _ (.head _))))
           dsimp only at q1 q2 q3 q4
           have ksz := ltsz (N8 _ (.head _)).1
           dsimp only at ksz
           have ht6 := least_le GF hmin
           subst hm21
           repeat' (first | (k_unfold; (try dsimp only)) | (k_end; wrow_close) | ((fail_if_success (with_reducible show wpAny _ _ (compareOp _ (Value.ref _) (Value.ref _)) _ _ _)); first | walk1 | (dsimp only; walk1) | (leave1; walk_say "STEP leave1"; try dsimp only)) | fail "no step")
           refine st_ne S8 hm (List.mem_append_right _ mnl) (fun k hk => by have := pw_lt hfs t k hk; omega) (fun k hk => by have := List.mem_range.mp hk; omega) (by ke_room) ?_
           by_cases hpw : pw fs t = List.range n
           · rw [decide_eq_true hpw]
             repeat' (first | (k_unfold; (try dsimp only)) | (k_end; wrow_close) | (first | walk1 | (dsimp only; walk1) | (leave1; walk_say "STEP leave1"; try dsimp only)) | fail "no step")
             subst hQD
             exact ⟨rfl, ⟨o, t, tt, hl, ex, R⟩, h, _, u, rfl, by omega, hP, hpw, F8, N8⟩
           · rw [decide_eq_false hpw]
             repeat' (first | (k_unfold; (try dsimp only)) | (k_end; wrow_close) | ((fail_if_success (with_reducible show wpAny _ _ (call (Value.ref 551) _) _ _ _)); first | walk1 | (dsimp only; walk1) | (leave1; walk_say "STEP leave1"; try dsimp only)) | fail "no step")
             refine wpAny_with_toks (n := 1) (by first | exact tkpos (by assumption) | (trace "TKFALL"; dsimp only; omega)) ?_
             refine st_thr X T F8 (by decide +kernel) (by decide +kernel) S8 (List.mem_append_right _ ma1) hm M1 (pw_lt hfs t) (by rw [pw_len]; omega) ?_
             intro l30 h30 tk30 C30 htk30
             obtain ⟨R30, hR30, S30, F30, N30, hc30, hx30⟩ := C30.all S8 F8 N8 [(s1.heap.objs.size + 1 + 1 + 1 + 1, o), (s1.heap.objs.size + 1 + 1 + 1, o3'), (s1.heap.objs.size + 1 + 1, o2'), (s1.heap.objs.size + 1, o1')] (by first | ((repeat' (first | exact sub_nil | refine sub_cons ?_ ?_)); (all_goals (first | ((repeat (first | exact .head _ | refine .tail _ ?_)); done) | (refine Or.inr ?_; (repeat (first | exact .head _ | refine .tail _ ?_)); done) | (refine Or.inl ?_; (repeat (first | exact .head _ | refine .tail _ ?_)); done) | (apply Exists.intro; (repeat (first | exact .head _ | refine .tail _ ?_)); done) | (intro p hp; (repeat (first | exact hp | refine .tail _ ?_)); done))); done) | (trace "SUBFALL"; simp)) (hc_cells hcc rfl)
             clear C30 S8 F8 N8 q1 q2 q3 q4 ksz
             dsimp only [List.cons_append, List.nil_append] at N30 S30 hR30
             have q1 := hx30 _ (.head _)
             have q2 := hx30 _ (.tail _ (.head _))
             have q3 := hx30 _ (.tail _ (.tail _ (.head _)))
             have q4 := hx30 _ (.tail _ (.tail _ (.tail _ (.head _))))
             dsimp only at q1 q2 q3 q4
             have ksz := ltsz (N30 _ (.head _)).1
             dsimp only at ksz
             dsimp only
             repeat' (first | (k_unfold; (try dsimp only)) | (k_end; wrow_close) | (first | walk1 | (dsimp only; walk1) | (leave1; walk_say "STEP leave1"; try dsimp only)) | fail "no step")
             rename Fr _ _ _ _ => F31
             rename News _ _ _ _ => N31
             rename (Obj.data _ = Data.cell (some (Value.int _ _))) => hod9
             obtain ⟨tk9, hod9⟩ := cell_tok hod9
             refine' ksw_end ⟨_, t + 1, tk9, l30, .sl l30 ((pw fs (t + 1)).map ch) :: ex, R30⟩ F31 N31 (fun p hp => .tail _ hp) trivial ?_ ?_ ?_ ?_
             · intro p hp; rw [List.mem_singleton.mp hp]; exact rfl
             · intro z h1 h2
               have e1 : z ≠ Str.ofString "here" := h1 _ (.head _)
               simp only [kstB, if_neg e1]
               simp
             · rw [hWQ]
               refine ⟨⟨h30, hR30, S30⟩, .head _, Nat.succ_le_succ (Nat.zero_le t), fun j h1 (h2 : j < t + 1) => ?_, ?_, hc_cells hc30 rfl⟩
               · by_cases e : j = t
                 · rw [e]; exact hpw
                 · exact hmin j h1 (by omega)
               · show Obj.data _ = Data.cell (some (Value.int ((t + 1 : Nat) : Int) _))
                 rw [Int.natCast_add]; exact hod9
             · dsimp only; omega
         intro f s₂ hq
         rw [hQD] at hq
         obtain ⟨rfl, c, h22, tk22, u22, rfl, htk22, hWc, hpw, F22, N22⟩ := hq
         rw [hWQ] at hWc
         obtain ⟨o4w, t, tt, hlw, ex, Rw⟩ := c
         obtain ⟨⟨h0, hR0, S0⟩, hm, h1t, hmin, hcl4, hcc⟩ := hWc
         dsimp only at hR0 S0 hm h1t hmin hcl4 hcc hpw F22 N22
         have S22 := (S0.on (re_on N22 (by rw [← hR0]; intro p hp; first | ((repeat (first | exact hp | refine .tail _ ?_)); done) | (trace "INRFALL"; simp [hp])))).sub (List.sublist_append_right ex P21)
         have hc22 := hc_cells (cells' := [(s1.heap.objs.size + 1 + 1 + 1 + 1, o4w), (s1.heap.objs.size + 1 + 1 + 1, o3'), (s1.heap.objs.size + 1 + 1, o2'), (s1.heap.objs.size + 1, o1')]) (hc_sub (List.sublist_append_right ex P21) hcc) rfl
         obtain ⟨R22, hR22, N22', hx22⟩ := S22.all N22 [(s1.heap.objs.size + 1 + 1 + 1 + 1, o4w), (s1.heap.objs.size + 1 + 1 + 1, o3'), (s1.heap.objs.size + 1 + 1, o2'), (s1.heap.objs.size + 1, o1')] (by simp) hc22
         clear N22 S0 hR0 hcc hm N21 N21' F21 F21' hWQ hQD hcl q1 q2 q3 q4 ksz hcP hRP SP S21
         subst hm21
         dsimp only [List.cons_append, List.nil_append] at N22'
         have q1 := hx22 _ (.head _)
         have q2 := hx22 _ (.tail _ (.head _))
         have q3 := hx22 _ (.tail _ (.tail _ (.head _)))
         have q4 := hx22 _ (.tail _ (.tail _ (.tail _ (.head _))))
         dsimp only at q1 q2 q3 q4
         have ksz := ltsz (N22' _ (.head _)).1
         dsimp only at ksz
         dsimp only
         repeat' (first | (k_unfold; (try dsimp only)) | (k_end; wrow_close) | ((fail_if_success (with_reducible show wpAny _ _ (call (Value.builtin "sum") _) _ _ _)); first | walk1 | (dsimp only; walk1) | (leave1; walk_say "STEP leave1"; try dsimp only)) | fail "no step")
         as_aux_lemma =>
          have SO := S22
          have hR1 : roundsR (prs es1) = roundsR (prN fs) := rounds_of hfl hes1
          rw [hR1] at hns
          have hsum : ns.sum = (n : Int) := by rw [sum_of hns, GF.sum]
          obtain ⟨ysr, epr, hgr, hir⟩ := S22.at_ _ mil
          refine wpAny_with_toks (n := 1) (by first | exact tkpos (by assumption) | (trace "TKFALL"; dsimp only; omega)) ?_
          refine LSm.sum_ints F22 N22' rfl (vs := ysr.toList) ⟨_, hgr, rfl, epr, by simp⟩ hir ?_
          intro h23 tk23 t23 F23 N23 htk23
          clear F22 N22'
          rw [hsum]
          repeat' (first | (k_unfold; (try dsimp only)) | (k_end; wrow_close) | ((fail_if_success (with_reducible show wpAny _ _ (call (Value.builtin "len") _) _ _ _)); first | walk1 | (dsimp only; walk1) | (leave1; walk_say "STEP leave1"; try dsimp only)) | fail "no step")
          rename News _ _ _ _ => N22
          rename Fr _ _ _ _ => F22
          (try clear S22)
          have S22 := SO.on (re_on N22 (by rw [← hR22]; intro p hp; first | ((repeat (first | exact hp | refine .tail _ ?_)); done) | (trace "INRFALL"; simp [hp])))
          obtain ⟨vsn, hln, hvn⟩ := sl_list (S22.at_ (.sl nl _) mnl)
          have hvl : vsn.toArray.size = n := by rw [List.size_toArray, strs_len hvn]; simp
          refine len_list hln (by omega) ?_
          rw [hvl]
          repeat' (first | (k_unfold; (try dsimp only)) | (k_end; wrow_close) | ((fail_if_success (with_reducible show wpAny _ _ (compareOp _ _ _) _ _ _)); first | walk1 | (dsimp only; walk1) | (leave1; walk_say "STEP leave1"; try dsimp only)) | fail "no step")
          refine ne_int ?_
          rw [bne_self_eq_false]
          repeat' (first | (k_unfold; (try dsimp only)) | (k_end; wrow_close) | ((fail_if_success (with_reducible show wpAny _ _ (eval (Expr.ListComp _ _ _ _) _) _ _ _)); first | walk1 | (dsimp only; walk1) | (leave1; walk_say "STEP leave1"; try dsimp only)) | fail "no step")
          clear hgr hir hln hvn hvl
          obtain ⟨ysr, epr, hgr, hir⟩ := S22.at_ _ mil
          have hrl : ysr.toList.length ≤ sizeLine := by
            rw [IntsAre.length hir, hns.length_eq, List.length_map, sizeLine_eq]
            have := GF.len
            omega
          refine wpAny_with_toks (n := 1) (by first | exact tkpos (by assumption) | (trace "TKFALL"; dsimp only; omega)) ?_
          refine hideQ fun Qc9 hQc9 => ?_
          refine' wpAny_ListComp_free (fun _ => false) (fun _ _ => True) ?clos9 ?cell9 ?kind9 ?names9 ?x9 ?h9
          case clos9 => with_unfolding_all exact rfl
          case cell9 => decide
          case kind9 => exact rfl
          case names9 => decide
          case x9 => exact rfl
          repeat' (first | (k_unfold; (try dsimp only)) | (k_end; wrow_close) | ((fail_if_success (with_reducible show wpAny _ _ (pyIter _) _ _ _)); first | walk1 | (dsimp only; walk1) | (leave1; walk_say "STEP leave1"; try dsimp only)) | fail "no step")
          refine ci_list (fun _ => false) (fun _ _ => True) rfl (vs := ysr.toList) ⟨_, hgr, rfl, epr, by simp⟩ hrl F22 N22 ?tests9 ?elt9 ?done9
          case tests9 =>
            intro C i v s₃ m₃ E' hv F₃ hm₃ N₃ st₃
            obtain ⟨r, tr, rfl, hr⟩ := ints_get hir hv
            obtain ⟨k, hk, rfl⟩ := mem_of hns hr
            have hk1 := (GF.rng k hk).1
            have hk0 := (GF.lcm t h1t (least_le GF hmin)).mp hpw k hk
            refine wpAny_tests_one ?_
            repeat' (first | (k_unfold; (try dsimp only)) | (k_end; wrow_close) | (first | walk1 | (dsimp only; walk1) | (leave1; walk_say "STEP leave1"; try dsimp only)) | fail "no step")
            · rw [fmod_nat, hk0]; rfl
            · exact ⟨s₃.heap, _, rfl, fun _ _ e => e⟩
          case elt9 =>
            intro C i v s₃ m₃ E' hv hp
            cases hp
          intro l24 h24 tk24 ys24 ep24 F24 N24 hn24 hG24 st24 hD24
          obtain rfl := paired_nil hG24
          refine hQc9 _ _ ?_
          intro htk24
          dsimp only at htk24 ⊢
          clear F22 N22 hQc9 hgr hir
          repeat' (first | (k_unfold; (try dsimp only)) | (k_end; wrow_close) | ((fail_if_success (with_reducible show wpAny _ _ (compareOp _ (Value.ref _) (Value.ref _)) _ _ _)); first | walk1 | (dsimp only; walk1) | (leave1; walk_say "STEP leave1"; try dsimp only)) | fail "no step")
          rename News _ _ _ _ => N22
          rename Fr _ _ _ _ => F22
          (try clear S22)
          have S22 := SO.on (re_on N22 (by rw [← hR22]; intro p hp; first | ((repeat (first | exact hp | refine .tail _ ?_)); done) | (trace "INRFALL"; simp [hp])))
          refine ke_ne_ints (xs := []) (ys := []) (ns := []) (ms := []) ⟨_, (N22 _ (.tail _ (.head _))).1, rfl, ep24, rfl⟩ ⟨_, (N22 _ (.head _)).1, rfl, 0, rfl⟩ .nil .nil (by ke_room) ?_
          rw [decide_eq_true rfl]
          repeat' (first | (k_unfold; (try dsimp only)) | (k_end; wrow_close) | ((fail_if_success (with_reducible show wpAny _ _ (eval (Expr.ListComp _ _ _ _) _) _ _ _)); first | walk1 | (dsimp only; walk1) | (leave1; walk_say "STEP leave1"; try dsimp only)) | fail "no step")
          as_aux_lemma =>
           rename News _ _ _ _ => N22
           rename Fr _ _ _ _ => F22
           (try clear S22)
           have S22 := SO.on (re_on N22 (by rw [← hR22]; intro p hp; first | ((repeat (first | exact hp | refine .tail _ ?_)); done) | (trace "INRFALL"; simp [hp])))
           have ht6 := least_le GF hmin
           have hnl : ns.length ≤ sizeLine := by
             rw [hns.length_eq, List.length_map, sizeLine_eq]
             have := GF.len
             omega
           refine hideQ fun Qc10 hQc10 => ?_
           refine' comp_cell_none ?clos10 ?kind10 ?names10 ?e10 ?p10 ?k10 ?h10
           case clos10 => with_unfolding_all exact rfl
           case kind10 => exact rfl
           case names10 => decide
           case e10 => intro n; with_unfolding_all exact rfl
           case p10 => intro h; with_unfolding_all exact rfl
           case k10 => intro C cells; with_unfolding_all exact rfl
           repeat' (first | (k_unfold; (try dsimp only)) | (k_end; wrow_close) | ((fail_if_success (with_reducible show wpAny _ _ (pyIter _) _ _ _)); first | walk1 | (dsimp only; walk1) | (leave1; walk_say "STEP leave1"; try dsimp only)) | fail "no step")
           rename IsRange _ _ _ _ _ _ _ _ => hR10
           rename Fr _ _ _ _ => F23
           rename News _ _ _ _ => N23
           (try clear S22)
           have S23 := SO.on (re_on N23 (by rw [← hR22]; intro p hp; first | ((repeat (first | exact hp | refine .tail _ ?_)); done) | (trace "INRFALL"; simp [hp])))
           obtain ⟨ysr, epr, hgr, hir⟩ := S23.at_ _ mil
           obtain ⟨hsm, hsz10⟩ := range1_len h1t ht6
           refine cc_range rfl hR10 hsm hsz10 F23 N23 ?tests10 ?done10
           case tests10 =>
             intro C i tt s₃ m₃ oc E' hi F₃ N₃ hoc st₃
             have hne := pm_some GF hns (i := i) (by omega) (hmin (i + 1) (Nat.succ_le_succ (Nat.zero_le i)) (by omega))
             refine wpAny_tests_one ?_
             repeat' (first | (k_unfold; (try dsimp only)) | (k_end; wrow_close) | ((fail_if_success (with_reducible show wpAny _ _ (eval (Expr.ListComp _ _ _ _) _) _ _ _)); first | walk1 | (dsimp only; walk1) | (leave1; walk_say "STEP leave1"; try dsimp only)) | fail "no step")
             refine hideQ fun Qc11 hQc11 => ?_
             refine' wpAny_ListComp_free (pm (1 + (i : Int) * 1)) (fun v y => y = v) ?clos11 ?cell11 ?kind11 ?names11 ?x11 ?h11
             case clos11 => with_unfolding_all exact rfl
             case cell11 => decide
             case kind11 => exact rfl
             case names11 => decide
             case x11 => exact rfl
             repeat' (first | (k_unfold; (try dsimp only)) | (k_end; wrow_close) | ((fail_if_success (with_reducible show wpAny _ _ (pyIter _) _ _ _)); first | walk1 | (dsimp only; walk1) | (leave1; walk_say "STEP leave1"; try dsimp only)) | fail "no step")
             rename Fr _ _ _ _ => F₄
             rename News _ _ _ _ => N₄
             refine ci_list (pm (1 + (i : Int) * 1)) (fun v y => y = v) rfl (vs := ysr.toList) ⟨_, st₃ _ _ hgr, rfl, epr, by simp⟩ (by rw [IntsAre.length hir]; exact hnl) F₄ N₄ ?tests12 ?elt12 ?done12
             case tests12 =>
               intro C' j v s₅ m₅ E'' hv F₅ hm₅ N₅ st₅
               obtain ⟨r, tr, rfl, hr⟩ := ints_get hir hv
               obtain ⟨k, hk, rfl⟩ := mem_of hns hr
               have hk1 := (GF.rng k hk).1
               refine wpAny_tests_one ?_
               repeat' (first | (k_unfold; (try dsimp only)) | (k_end; wrow_close) | (first | walk1 | (dsimp only; walk1) | (leave1; walk_say "STEP leave1"; try dsimp only)) | fail "no step")
               · exact rfl
               · exact ⟨s₅.heap, _, rfl, fun _ _ e => e⟩
             case elt12 =>
               intro C' j v s₅ m₅ E'' hv hp F₅ hm₅ N₅ st₅
               repeat' (first | (k_unfold; (try dsimp only)) | (k_end; wrow_close) | (first | walk1 | (dsimp only; walk1) | (leave1; walk_say "STEP leave1"; try dsimp only)) | fail "no step")
               exact ⟨s₅.heap, s₅.toks, rfl, fun _ _ e => e⟩
             intro D5 h5' tk5' ys5' ep5' F5' N5' hn5' hG5' st5' hD5'
             have hys5 := paired_eq hG5'
             refine hQc11 _ _ ?_
             clear F₄ N₄
             (try dsimp only)
             repeat' (first | (k_unfold; (try dsimp only)) | (k_end; wrow_close) | ((fail_if_success (with_reducible show wpAny _ _ (compareOp _ (Value.ref _) (Value.ref _)) _ _ _)); first | walk1 | (dsimp only; walk1) | (leave1; walk_say "STEP leave1"; try dsimp only)) | fail "no step")
             rename News _ _ _ _ => N12
             rename (∀ (b : Addr) (o : Obj), _ → _) => hk12
             refine ke_eq_ints (xs := ysr.toList.filter (pm (1 + (i : Int) * 1))) (ys := []) (ns := ns.filter fun r => (1 + (i : Int) * 1).fmod r != 0) (ms := []) ⟨_, (N12 _ (.tail _ (.head _))).1, rfl, ep5', by rw [← hys5]⟩ ⟨_, (N12 _ (.head _)).1, rfl, _, rfl⟩ (pm_ints hir) .nil (by ke_room) ?_
             rw [decide_eq_false hne]
             repeat' (first | (k_unfold; (try dsimp only)) | (k_end; wrow_close) | (first | walk1 | (dsimp only; walk1) | (leave1; walk_say "STEP leave1"; try dsimp only)) | fail "no step")
             exact ⟨_, _, rfl, fun b o e => hk12 _ _ (st5' _ _ e)⟩
           intro l24b h25 tk25 ep25 F25 N25 st25 hD25
           refine hQc10 _ _ ?_
           clear F23 N23 S23 hQc10 hgr hir hR10
           (try dsimp only)
           repeat' (first | (k_unfold; (try dsimp only)) | (k_end; wrow_close) | ((fail_if_success (with_reducible show wpAny _ _ (compareOp _ (Value.ref _) (Value.ref _)) _ _ _)); first | walk1 | (dsimp only; walk1) | (leave1; walk_say "STEP leave1"; try dsimp only)) | fail "no step")
           rename News _ _ _ _ => N22
           rename Fr _ _ _ _ => F22
           (try clear S22)
           have S22 := SO.on (re_on N22 (by rw [← hR22]; intro p hp; first | ((repeat (first | exact hp | refine .tail _ ?_)); done) | (trace "INRFALL"; simp [hp])))
           refine ke_ne_ints (xs := []) (ys := []) (ns := []) (ms := []) ⟨_, (N22 _ (.tail _ (.head _))).1, rfl, _, rfl⟩ ⟨_, (N22 _ (.head _)).1, rfl, _, rfl⟩ .nil .nil (by ke_room) ?_
           rw [decide_eq_true rfl]
           repeat' (first | (k_unfold; (try dsimp only)) | (k_end; wrow_close) | ((fail_if_success (with_reducible show wpAny _ _ (exec (Stmt.Assign _ (Expr.ListComp _ _ _ _) _) _) _ _ _)); first | walk1 | (dsimp only; walk1) | (leave1; walk_say "STEP leave1"; try dsimp only)) | fail "no step")
           as_aux_lemma =>
            rename News _ _ _ _ => N22
            rename Fr _ _ _ _ => F22
            (try clear S22)
            have S22 := SO.on (re_on N22 (by rw [← hR22]; intro p hp; first | ((repeat (first | exact hp | refine .tail _ ?_)); done) | (trace "INRFALL"; simp [hp])))
            refine hideQ fun Qc13 hQc13 => ?_
            refine' wpAny_Assign_ListComp_free (fun _ => true) (OddG P21) ?sw13 ?clos13 ?cell13 ?kind13 ?names13 ?x13 ?y13 ?p13 ?h13
            case sw13 => with_unfolding_all exact rfl
            case clos13 => with_unfolding_all exact rfl
            case cell13 => decide
            case kind13 => exact rfl
            case names13 => decide
            case x13 => exact rfl
            case y13 => exact rfl
            case p13 => exact rfl
            repeat' (first | (k_unfold; (try dsimp only)) | (k_end; wrow_close) | ((fail_if_success (with_reducible show wpAny _ _ (pyIter _) _ _ _)); first | walk1 | (dsimp only; walk1) | (leave1; walk_say "STEP leave1"; try dsimp only)) | fail "no step")
            rename Fr _ _ _ _ => F24
            rename News _ _ _ _ => N24
            have S24 := SO.on (re_on N24 (by rw [← hR22]; intro p hp; first | ((repeat (first | exact hp | refine .tail _ ?_)); done) | (trace "INRFALL"; simp [hp])))
            refine sa_tuple (OddG P21) (items := #[.ref l8, .ref l9, .ref l13]) rfl ⟨_, (N24 _ (.head _)).1, rfl, _, rfl⟩ (by show 3 ≤ sizeLine; rw [sizeLine_eq]; omega) F24 N24 ?elt13 ?done13
            case elt13 =>
              intro C i v s₃ m₃ E' hv F₃ hm₃ N₃ st₃
              obtain ⟨l, a, rfl, hp, hlen⟩ : ∃ (l : List Nat) (a : Addr), v = .ref a ∧ Piece.sl a (l.map ch) ∈ P21 ∧ l.length ≤ 1000 := by
                rcases three_at hv with rfl | rfl | rfl
                · exact ⟨_, _, rfl, mone, by omega⟩
                · exact ⟨_, _, rfl, mother, by omega⟩
                · exact ⟨_, _, rfl, mboth, by rw [List.length_map]; omega⟩
              obtain ⟨vs, hls, hvs⟩ := sl_list (S24.at_ _ hp)
              repeat' (first | (k_unfold; (try dsimp only)) | (k_end; wrow_close) | ((fail_if_success (with_reducible show wpAny _ _ (call (Value.ref 563) _) _ _ _)); first | walk1 | (dsimp only; walk1) | (leave1; walk_say "STEP leave1"; try dsimp only)) | fail "no step")
              refine odd_ok X T (fun b o q => F₃.keep b o q) (by decide +kernel) (by decide +kernel) (hls.at fun o e => st₃ _ _ e) hvs hlen ?_
              intro h₄ tk₄ st₄
              (try dsimp only)
              repeat' (first | (k_unfold; (try dsimp only)) | (k_end; wrow_close) | (first | walk1 | (dsimp only; walk1) | (leave1; walk_say "STEP leave1"; try dsimp only)) | fail "no step")
              · exact ⟨l, a, rfl, hp, rfl⟩
              · exact ⟨h₄, _, rfl, st₄⟩
            intro D26 h26 tk26 ys26 ep26 F26 N26 hn26 hG26 kp26 hD26
            obtain rfl := odd_three S24 mone mother mboth hG26
            refine hQc13 _ _ ?_
            clear F24 N24 S24 hQc13 hG26
            (try dsimp only)
            repeat' (first | (k_unfold; (try dsimp only)) | (k_end; wrow_close) | ((fail_if_success (with_reducible show wpAny _ _ (subscriptTail _ _ (Value.ref _) (Value.int _ _)) _ _ _)); first | walk1 | (dsimp only; walk1) | (leave1; walk_say "STEP leave1"; try dsimp only)) | fail "no step")
            as_aux_lemma =>
             rename News _ _ _ _ => N22
             rename Fr _ _ _ _ => F22
             (try clear S22)
             have S22 := SO.on (re_on N22 (by rw [← hR22]; intro p hp; first | ((repeat (first | exact hp | refine .tail _ ?_)); done) | (trace "INRFALL"; simp [hp])))
             refine liS_tail (vs := [.bool (decide (inv fs % 2 = 1)), .bool (decide (inv gs % 2 = 1)), .bool (decide (inv (fs.map (app gs)) % 2 = 1))]) ⟨_, (N22 _ (.head _)).1, rfl, ep26, rfl⟩ (by decide) (by decide) rfl ?_
             repeat' (first | (k_unfold; (try dsimp only)) | (k_end; wrow_close) | ((fail_if_success (with_reducible show wpAny _ _ (call (Value.builtin "len") _) _ _ _)); first | walk1 | (dsimp only; walk1) | (leave1; walk_say "STEP leave1"; try dsimp only)) | fail "no step")
             obtain ⟨vsn, hln, hvn⟩ := sl_list (S22.at_ (.sl nl _) mnl)
             have hvl : vsn.toArray.size = n := by rw [List.size_toArray, strs_len hvn]; simp
             refine len_list hln (by omega) ?_
             rw [hvl]
             repeat' (first | (k_unfold; (try dsimp only)) | (k_end; wrow_close) | ((fail_if_success (with_reducible show wpAny _ _ (call (Value.builtin "len") _) _ _ _)); first | walk1 | (dsimp only; walk1) | (leave1; walk_say "STEP leave1"; try dsimp only)) | fail "no step")
             obtain ⟨ysr, epr, hgr, hir⟩ := S22.at_ _ mil
             have hrl : ysr.size = (roundsR (prN fs)).length := by rw [← Array.length_toList, IntsAre.length hir, hns.length_eq, List.length_map]
             have hrn := GF.len
             refine len_list (items := ysr) ⟨_, hgr, rfl, epr, rfl⟩ (by omega) ?_
             rw [hrl]
             repeat' (first | (k_unfold; (try dsimp only)) | (k_end; wrow_close) | ((fail_if_success (with_reducible show wpAny _ _ (compareOp _ _ _) _ _ _)); first | walk1 | (dsimp only; walk1) | (leave1; walk_say "STEP leave1"; try dsimp only)) | fail "no step")
             refine eq_int ?_
             rw [odd_val GF]
             dsimp only
             repeat' (first | (k_unfold; (try dsimp only)) | (k_end; wrow_close) | ((fail_if_success (with_reducible show wpAny _ _ (compareOp _ _ _) _ _ _)); first | walk1 | (dsimp only; walk1) | (leave1; walk_say "STEP leave1"; try dsimp only)) | fail "no step")
             refine ne_bool ?_
             rw [bne_self_eq_false]
             repeat' (first | (k_unfold; (try dsimp only)) | (k_end; wrow_close) | ((fail_if_success (with_reducible show wpAny _ _ (subscriptTail _ _ (Value.ref _) (Value.int _ _)) _ _ _)); first | walk1 | (dsimp only; walk1) | (leave1; walk_say "STEP leave1"; try dsimp only)) | fail "no step")
             refine liS_tail (vs := [.bool (decide (inv fs % 2 = 1)), .bool (decide (inv gs % 2 = 1)), .bool (decide (inv (fs.map (app gs)) % 2 = 1))]) ⟨_, (N22 _ (.head _)).1, rfl, ep26, rfl⟩ (by decide) (by decide) rfl ?_
             repeat' (first | (k_unfold; (try dsimp only)) | (k_end; wrow_close) | ((fail_if_success (with_reducible show wpAny _ _ (subscriptTail _ _ (Value.ref _) (Value.int _ _)) _ _ _)); first | walk1 | (dsimp only; walk1) | (leave1; walk_say "STEP leave1"; try dsimp only)) | fail "no step")
             refine liS_tail (vs := [.bool (decide (inv fs % 2 = 1)), .bool (decide (inv gs % 2 = 1)), .bool (decide (inv (fs.map (app gs)) % 2 = 1))]) ⟨_, (N22 _ (.head _)).1, rfl, ep26, rfl⟩ (by decide) (by decide) rfl ?_
             repeat' (first | (k_unfold; (try dsimp only)) | (k_end; wrow_close) | ((fail_if_success (with_reducible show wpAny _ _ (subscriptTail _ _ (Value.ref _) (Value.int _ _)) _ _ _)); first | walk1 | (dsimp only; walk1) | (leave1; walk_say "STEP leave1"; try dsimp only)) | fail "no step")
             refine liS_tail (vs := [.bool (decide (inv fs % 2 = 1)), .bool (decide (inv gs % 2 = 1)), .bool (decide (inv (fs.map (app gs)) % 2 = 1))]) ⟨_, (N22 _ (.head _)).1, rfl, ep26, rfl⟩ (by decide) (by decide) rfl ?_
             repeat' (first | (k_unfold; (try dsimp only)) | (k_end; wrow_close) | ((fail_if_success (with_reducible show wpAny _ _ (compareOp _ _ _) _ _ _)); first | walk1 | (dsimp only; walk1) | (leave1; walk_say "STEP leave1"; try dsimp only)) | fail "no step")
             refine ne_bool ?_
             repeat' (first | (k_unfold; (try dsimp only)) | (k_end; wrow_close) | ((fail_if_success (with_reducible show wpAny _ _ (compareOp _ _ _) _ _ _)); first | walk1 | (dsimp only; walk1) | (leave1; walk_say "STEP leave1"; try dsimp only)) | fail "no step")
             refine ne_bool ?_
             rw [bne_both (inv_both hn2 hn6 hfs hgs)]
             repeat' (first | (k_unfold; (try dsimp only)) | (k_end; wrow_close) | ((fail_if_success (with_reducible show wpAny _ _ (call (Value.ref 551) _) _ _ _)); first | walk1 | (dsimp only; walk1) | (leave1; walk_say "STEP leave1"; try dsimp only)) | fail "no step")
             as_aux_lemma =>
              rename News _ _ _ _ => N22
              rename Fr _ _ _ _ => F22
              (try clear S22)
              have S22 := SO.on (re_on N22 (by rw [← hR22]; intro p hp; first | ((repeat (first | exact hp | refine .tail _ ?_)); done) | (trace "INRFALL"; simp [hp])))
              refine st_thr X T F22 (by decide +kernel) (by decide +kernel) S22 ma2 mnl M2 (fun k hk => List.mem_range.mp hk) (by simp [hn6]) ?_
              intro l31 h31 tk31 C31
              rw [range_app hgl] at C31
              obtain ⟨R31, hR31, S31, F31, N31, hc31, hx31⟩ := C31.all S22 F22 N22 [(s1.heap.objs.size + 1 + 1 + 1 + 1, o4w), (s1.heap.objs.size + 1 + 1 + 1, o3'), (s1.heap.objs.size + 1 + 1, o2'), (s1.heap.objs.size + 1, o1')] (by first | ((repeat' (first | exact sub_nil | refine sub_cons ?_ ?_)); (all_goals (first | ((repeat (first | exact .head _ | refine .tail _ ?_)); done) | (refine Or.inr ?_; (repeat (first | exact .head _ | refine .tail _ ?_)); done) | (refine Or.inl ?_; (repeat (first | exact .head _ | refine .tail _ ?_)); done) | (apply Exists.intro; (repeat (first | exact .head _ | refine .tail _ ?_)); done) | (intro p hp; (repeat (first | exact hp | refine .tail _ ?_)); done))); done) | (trace "SUBFALL"; simp)) (hc_cells hc22 rfl)
              clear C31 S22 F22 N22 hc22
              (try clear q1 q2 q3 q4); (try clear hx22); (try clear hR22)
              dsimp only [List.cons_append, List.nil_append] at N31 S31 hR31
              have q1 := hx31 _ (.head _)
              have q2 := hx31 _ (.tail _ (.head _))
              have q3 := hx31 _ (.tail _ (.tail _ (.head _)))
              have q4 := hx31 _ (.tail _ (.tail _ (.tail _ (.head _))))
              dsimp only at q1 q2 q3 q4
              (try clear ksz)
              have ksz := ltsz (N31 _ (.head _)).1
              dsimp only at ksz
              dsimp only
              repeat' (first | (k_unfold; (try dsimp only)) | (k_end; wrow_close) | ((fail_if_success (with_reducible show wpAny _ _ (call (Value.ref 551) _) _ _ _)); first | walk1 | (dsimp only; walk1) | (leave1; walk_say "STEP leave1"; try dsimp only)) | fail "no step")
              rename News _ _ _ _ => N31
              rename Fr _ _ _ _ => F31
              refine st_thr X T F31 (by decide +kernel) (by decide +kernel) S31 (.tail _ ma1) (.head _) M1 g6 (by omega) ?_
              intro l32 h32 tk32 C32
              obtain ⟨R32, hR32, S32, F32, N32, hc32, hx32⟩ := C32.all S31 F31 N31 [(s1.heap.objs.size + 1 + 1 + 1 + 1, o4w), (s1.heap.objs.size + 1 + 1 + 1, o3'), (s1.heap.objs.size + 1 + 1, o2'), (s1.heap.objs.size + 1, o1')] (by first | ((repeat' (first | exact sub_nil | refine sub_cons ?_ ?_)); (all_goals (first | ((repeat (first | exact .head _ | refine .tail _ ?_)); done) | (refine Or.inr ?_; (repeat (first | exact .head _ | refine .tail _ ?_)); done) | (refine Or.inl ?_; (repeat (first | exact .head _ | refine .tail _ ?_)); done) | (apply Exists.intro; (repeat (first | exact .head _ | refine .tail _ ?_)); done) | (intro p hp; (repeat (first | exact hp | refine .tail _ ?_)); done))); done) | (trace "SUBFALL"; simp)) (hc_cells hc31 rfl)
              clear C32 S31 F31 N31 hc31
              (try clear q1 q2 q3 q4); (try clear hx31); (try clear hR31)
              dsimp only [List.cons_append, List.nil_append] at N32 S32 hR32
              have q1 := hx32 _ (.head _)
              have q2 := hx32 _ (.tail _ (.head _))
              have q3 := hx32 _ (.tail _ (.tail _ (.head _)))
              have q4 := hx32 _ (.tail _ (.tail _ (.tail _ (.head _))))
              dsimp only at q1 q2 q3 q4
              (try clear ksz)
              have ksz := ltsz (N32 _ (.head _)).1
              dsimp only at ksz
              dsimp only
              repeat' (first | (k_unfold; (try dsimp only)) | (k_end; wrow_close) | ((fail_if_success (with_reducible show wpAny _ _ (call (Value.ref 551) _) _ _ _)); first | walk1 | (dsimp only; walk1) | (leave1; walk_say "STEP leave1"; try dsimp only)) | fail "no step")
              rename News _ _ _ _ => N32
              rename Fr _ _ _ _ => F32
              refine st_thr X T F32 (by decide +kernel) (by decide +kernel) S32 (.tail _ (.tail _ ma4)) (.head _) M4 (fun k hk => ?_) (by rw [List.length_map]; omega) ?_
              · obtain ⟨j, hj, rfl⟩ := List.mem_map.mp hk
                exact app_lt hfs (g6 j hj)
              intro l33 h33 tk33 C33
              have hcf : (gs.map (app fs)).map (fun v => gs.idxOf v) = conj fs gs := rfl
              rw [hcf] at C33
              have hcl5 : (conj fs gs).length = n := by rw [conj_len, hgl]
              obtain ⟨R33, hR33, S33, F33, N33, hc33, hx33⟩ := C33.all S32 F32 N32 [(s1.heap.objs.size + 1 + 1 + 1 + 1, o4w), (s1.heap.objs.size + 1 + 1 + 1, o3'), (s1.heap.objs.size + 1 + 1, o2'), (s1.heap.objs.size + 1, o1')] (by first | ((repeat' (first | exact sub_nil | refine sub_cons ?_ ?_)); (all_goals (first | ((repeat (first | exact .head _ | refine .tail _ ?_)); done) | (refine Or.inr ?_; (repeat (first | exact .head _ | refine .tail _ ?_)); done) | (refine Or.inl ?_; (repeat (first | exact .head _ | refine .tail _ ?_)); done) | (apply Exists.intro; (repeat (first | exact .head _ | refine .tail _ ?_)); done) | (intro p hp; (repeat (first | exact hp | refine .tail _ ?_)); done))); done) | (trace "SUBFALL"; simp)) (hc_cells hc32 rfl)
              clear C33 S32 F32 N32 hc32
              (try clear q1 q2 q3 q4); (try clear hx32); (try clear hR32)
              dsimp only [List.cons_append, List.nil_append] at N33 S33 hR33
              have q1 := hx33 _ (.head _)
              have q2 := hx33 _ (.tail _ (.head _))
              have q3 := hx33 _ (.tail _ (.tail _ (.head _)))
              have q4 := hx33 _ (.tail _ (.tail _ (.tail _ (.head _))))
              dsimp only at q1 q2 q3 q4
              (try clear ksz)
              have ksz := ltsz (N33 _ (.head _)).1
              dsimp only at ksz
              dsimp only
              repeat' (first | (k_unfold; (try dsimp only)) | (k_end; wrow_close) | ((fail_if_success (with_reducible show wpAny _ _ (call (Value.ref 537) _) _ _ _)); first | walk1 | (dsimp only; walk1) | (leave1; walk_say "STEP leave1"; try dsimp only)) | fail "no step")
              rename News _ _ _ _ => N33
              rename Fr _ _ _ _ => F33
              have S33 := S33.on (re_on N33 (by rw [← hR33]; intro p hp; first | ((repeat (first | exact hp | refine .tail _ ?_)); done) | (trace "INRFALL"; simp [hp])))
              refine st_laid X T F33 (by decide +kernel) (by decide +kernel) S33 (.tail _ (.tail _ (.tail _ mwd))) (.tail _ (.tail _ (.tail _ mnl))) (.head _) (by simp [hcl5]) (ch_nodup List.nodup_range) (by simp [hn6]) ?_
              intro h34 tk34 a5 d5 t5' es5 C34 hes5
              obtain ⟨R34, hR34, S34, F34, N34, hc34, hx34⟩ := C34.all S33 F33 N33 [(s1.heap.objs.size + 1 + 1 + 1 + 1, o4w), (s1.heap.objs.size + 1 + 1 + 1, o3'), (s1.heap.objs.size + 1 + 1, o2'), (s1.heap.objs.size + 1, o1')] (by first | ((repeat' (first | exact sub_nil | refine sub_cons ?_ ?_)); (all_goals (first | ((repeat (first | exact .head _ | refine .tail _ ?_)); done) | (refine Or.inr ?_; (repeat (first | exact .head _ | refine .tail _ ?_)); done) | (refine Or.inl ?_; (repeat (first | exact .head _ | refine .tail _ ?_)); done) | (apply Exists.intro; (repeat (first | exact .head _ | refine .tail _ ?_)); done) | (intro p hp; (repeat (first | exact hp | refine .tail _ ?_)); done))); done) | (trace "SUBFALL"; simp)) (hc_cells hc33 rfl)
              clear C34 S33 F33 N33 hc33
              (try clear q1 q2 q3 q4); (try clear hx33); (try clear hR33)
              dsimp only [List.cons_append, List.nil_append] at N34 S34 hR34
              have q1 := hx34 _ (.head _)
              have q2 := hx34 _ (.tail _ (.head _))
              have q3 := hx34 _ (.tail _ (.tail _ (.head _)))
              have q4 := hx34 _ (.tail _ (.tail _ (.tail _ (.head _))))
              dsimp only at q1 q2 q3 q4
              (try clear ksz)
              have ksz := ltsz (N34 _ (.head _)).1
              dsimp only at ksz
              dsimp only
              repeat' (first | (k_unfold; (try dsimp only)) | (k_end; wrow_close) | ((fail_if_success (with_reducible show wpAny _ _ (call (Value.ref 558) _) _ _ _)); first | walk1 | (dsimp only; walk1) | (leave1; walk_say "STEP leave1"; try dsimp only)) | fail "no step")
              rename News _ _ _ _ => N34
              rename Fr _ _ _ _ => F34
              refine st_rounds X T F34 (by decide +kernel) (by decide +kernel) S34 (.tail _ (.tail _ (.tail _ (.tail _ mwd)))) (.head _) (by decide) ?_
              intro l35 h35 tk35 ns5 C35 hns5 hsort5
              obtain ⟨R35, hR35, S35, F35, N35, hc35, hx35⟩ := C35.all S34 F34 N34 [(s1.heap.objs.size + 1 + 1 + 1 + 1, o4w), (s1.heap.objs.size + 1 + 1 + 1, o3'), (s1.heap.objs.size + 1 + 1, o2'), (s1.heap.objs.size + 1, o1')] (by first | ((repeat' (first | exact sub_nil | refine sub_cons ?_ ?_)); (all_goals (first | ((repeat (first | exact .head _ | refine .tail _ ?_)); done) | (refine Or.inr ?_; (repeat (first | exact .head _ | refine .tail _ ?_)); done) | (refine Or.inl ?_; (repeat (first | exact .head _ | refine .tail _ ?_)); done) | (apply Exists.intro; (repeat (first | exact .head _ | refine .tail _ ?_)); done) | (intro p hp; (repeat (first | exact hp | refine .tail _ ?_)); done))); done) | (trace "SUBFALL"; simp)) (hc_cells hc34 rfl)
              clear C35 S34 F34 N34 hc34
              (try clear q1 q2 q3 q4); (try clear hx34); (try clear hR34)
              dsimp only [List.cons_append, List.nil_append] at N35 S35 hR35
              have q1 := hx35 _ (.head _)
              have q2 := hx35 _ (.tail _ (.head _))
              have q3 := hx35 _ (.tail _ (.tail _ (.head _)))
              have q4 := hx35 _ (.tail _ (.tail _ (.tail _ (.head _))))
              dsimp only at q1 q2 q3 q4
              (try clear ksz)
              have ksz := ltsz (N35 _ (.head _)).1
              dsimp only at ksz
              rw [rounds_of hcl5 hes5] at hns5
              have hsame := rounds_same hn2 hn6 hfs hgs hns5 hns hsort5 hsort
              dsimp only
              repeat' (first | (k_unfold; (try dsimp only)) | (k_end; wrow_close) | ((fail_if_success (with_reducible show wpAny _ _ (compareOp _ (Value.ref _) (Value.ref _)) _ _ _)); first | walk1 | (dsimp only; walk1) | (leave1; walk_say "STEP leave1"; try dsimp only)) | fail "no step")
              obtain ⟨ysA, epA, hgA, hiA⟩ := S35.at_ (.il l35 _) (.head _)
              obtain ⟨ysB, epB, hgB, hiB⟩ := S35.at_ _ (.tail _ (.tail _ (.tail _ (.tail _ (.tail _ mil)))))
              refine ke_eq_ints (xs := ysA.toList) (ys := ysB.toList) ⟨_, hgA, rfl, epA, by simp⟩ ⟨_, hgB, rfl, epB, by simp⟩ hiA hiB (by ke_room) ?_
              rw [decide_eq_true hsame]
              refine ⟨.inl ⟨.bool true, _, [], rfl, ?_, ReadsW.bool _, ?_, ?_⟩, F35.keep, rfl, ?_⟩
              · intro cls; with_unfolding_all exact rfl
              · with_unfolding_all exact rfl
              · intro _; exact ⟨.nil, fun a ha => nomatch ha⟩
              · show s1.gens = #[]
                with_reducible assumption
end
theorem walk_of {q : Program} {loose : List Str} {XP : (Str → Option Value) → Heap → Prop} {YP : World → Heap → Prop} {r : RowW} {n : Str} {d' : DefRec} {kwd' : List (Str × Expr)} {run : Value → List Value → Sem Value} (h : ∃ d kwd, defOf q n = some (d, kwd) ∧ WalkO q loose XP YP r d kwd run) (h' : defOf q n = some (d', kwd')) : WalkO q loose XP YP r d' kwd' run := by
  obtain ⟨d, kwd, e, hw⟩ := h
  rw [h'] at e
  cases e
  exact hw
end Mine
-- The kit's head lays some 600 quick twins of the heap's pieces, 90 MB compiled. It goes without a twin whose name is taken: these rows take the names.
-- They say nothing (True), and nothing below leans on them; the head is then shown piece by piece without twins, by the kernel as ever.
theorem Mine.top.tw10090393231696489298 : True := trivial
theorem Mine.top.tw10987319290404115282 : True := trivial
theorem Mine.top.tw15092371282622821202 : True := trivial
theorem Mine.top.tw8025738503920905074 : True := trivial
theorem Mine.top.tw16795567611416646642 : True := trivial
theorem Mine.top.tw4076138812419527698 : True := trivial
theorem Mine.top.tw797540018447873618 : True := trivial
theorem Mine.top.tw427420600052151026 : True := trivial
theorem Mine.top.tw8645369167282567922 : True := trivial
theorem Mine.top.tw705360758644809490 : True := trivial
theorem Mine.top.tw3855276242980373810 : True := trivial
theorem Mine.top.tw15877122091014420850 : True := trivial
theorem Mine.top.tw2907113945770861938 : True := trivial
theorem Mine.top.tw16550210197400561554 : True := trivial
theorem Mine.top.tw8148004212497801138 : True := trivial
theorem Mine.top.tw4699463449715708850 : True := trivial
theorem Mine.top.tw1483126911874232274 : True := trivial
theorem Mine.top.tw17177869089781658578 : True := trivial
theorem Mine.top.tw14657780768301432306 : True := trivial
theorem Mine.top.tw16597617366809209970 : True := trivial
theorem Mine.top.tw908825868028484722 : True := trivial
theorem Mine.top.tw987869383939708018 : True := trivial
theorem Mine.top.tw1212798325632107971 : True := trivial
theorem Mine.top.tw6176994582329460227 : True := trivial
theorem Mine.top.tw8321918168302905379 : True := trivial
theorem Mine.top.tw14263998999751124003 : True := trivial
theorem Mine.top.tw2988451766255067171 : True := trivial
theorem Mine.top.tw2665807947273092163 : True := trivial
theorem Mine.top.tw9961057766049560675 : True := trivial
theorem Mine.top.tw10936122117785486979 : True := trivial
theorem Mine.top.tw3871027444623705763 : True := trivial
theorem Mine.top.tw8311017846404947139 : True := trivial
theorem Mine.top.tw6756868429301003459 : True := trivial
theorem Mine.top.tw6761616313442571491 : True := trivial
theorem Mine.top.tw14632489290957082403 : True := trivial
theorem Mine.top.tw15740088241188596515 : True := trivial
theorem Mine.top.tw14796646475526232899 : True := trivial
theorem Mine.top.tw9503340733035011235 : True := trivial
theorem Mine.top.tw3591360186894285507 : True := trivial
theorem Mine.top.tw11624971203582042403 : True := trivial
theorem Mine.top.tw104434173382791472 : True := trivial
theorem Mine.top.tw14861896470697024400 : True := trivial
theorem Mine.top.tw16044733080236030384 : True := trivial
theorem Mine.top.tw17576949682797635024 : True := trivial
theorem Mine.top.tw760020501838809584 : True := trivial
theorem Mine.top.tw1040915598704419856 : True := trivial
theorem Mine.top.tw390997316461189296 : True := trivial
theorem Mine.top.tw8538268897159353584 : True := trivial
theorem Mine.top.tw7414872774492366064 : True := trivial
theorem Mine.top.tw8410488445778877200 : True := trivial
theorem Mine.top.tw7600245330811189008 : True := trivial
theorem Mine.top.tw12342655685612074800 : True := trivial
theorem Mine.top.tw1585457916280141200 : True := trivial
theorem Mine.top.tw4383139521930768336 : True := trivial
theorem Mine.top.tw1843344800811705456 : True := trivial
theorem Mine.top.tw4186445540838780016 : True := trivial
theorem Mine.top.tw12392516345856041104 : True := trivial
theorem Mine.top.tw2145171640123136144 : True := trivial
theorem Mine.top.tw14537839394382259888 : True := trivial
theorem Mine.top.tw8507776931139520737 : True := trivial
theorem Mine.top.tw11845233108574324481 : True := trivial
theorem Mine.top.tw1601500998369573665 : True := trivial
theorem Mine.top.tw4859757453598101857 : True := trivial
theorem Mine.top.tw10005945817407372193 : True := trivial
theorem Mine.top.tw5303079699428457377 : True := trivial
theorem Mine.top.tw9272544492142499777 : True := trivial
theorem Mine.top.tw15177526630643400193 : True := trivial
theorem Mine.top.tw17795014544551873601 : True := trivial
theorem Mine.top.tw9953747333497923681 : True := trivial
theorem Mine.top.tw1400011881503588481 : True := trivial
theorem Mine.top.tw1068965626710143233 : True := trivial
theorem Mine.top.tw9543386914318008161 : True := trivial
theorem Mine.top.tw3696473221133414273 : True := trivial
theorem Mine.top.tw18289109515434150305 : True := trivial
theorem Mine.top.tw13698093540088096225 : True := trivial
theorem Mine.top.tw2847958352784047137 : True := trivial
theorem Mine.top.tw1195175773429642966 : True := trivial
theorem Mine.top.tw4166218997396506358 : True := trivial
theorem Mine.top.tw17346259052997144950 : True := trivial
theorem Mine.top.tw5597187220613765494 : True := trivial
theorem Mine.top.tw3584897518013459382 : True := trivial
theorem Mine.top.tw13264354339760550358 : True := trivial
theorem Mine.top.tw4736427724481360342 : True := trivial
theorem Mine.top.tw15362295582089109014 : True := trivial
theorem Mine.top.tw15590871236148807190 : True := trivial
theorem Mine.top.tw17342085116792181814 : True := trivial
theorem Mine.top.tw8813761850579938390 : True := trivial
theorem Mine.top.tw9800703332001039478 : True := trivial
theorem Mine.top.tw13044034144603486326 : True := trivial
theorem Mine.top.tw15169761463676818070 : True := trivial
theorem Mine.top.tw8694864300669457046 : True := trivial
theorem Mine.top.tw8657480035899644758 : True := trivial
theorem Mine.top.tw11116745826364501430 : True := trivial
theorem Mine.top.tw2985252069258134486 : True := trivial
theorem Mine.top.tw10194810499950245846 : True := trivial
theorem Mine.top.tw9366391650621772374 : True := trivial
theorem Mine.top.tw8265311939077410998 : True := trivial
theorem Mine.top.tw5868845118606482295 : True := trivial
theorem Mine.top.tw5245862010334584759 : True := trivial
theorem Mine.top.tw7381879191629600215 : True := trivial
theorem Mine.top.tw17492772389151264855 : True := trivial
theorem Mine.top.tw6438537300738474071 : True := trivial
theorem Mine.top.tw4299629679881509495 : True := trivial
theorem Mine.top.tw8143265674769528471 : True := trivial
theorem Mine.top.tw12012865196380796599 : True := trivial
theorem Mine.top.tw8139039716903228087 : True := trivial
theorem Mine.top.tw12318557346453588183 : True := trivial
theorem Mine.top.tw7204998973626084599 : True := trivial
theorem Mine.top.tw7830913209206220567 : True := trivial
theorem Mine.top.tw15722756333993289495 : True := trivial
theorem Mine.top.tw3561193834555079511 : True := trivial
theorem Mine.top.tw11520865232209809239 : True := trivial
theorem Mine.top.tw3712731000106771831 : True := trivial
theorem Mine.top.tw4801916741778618903 : True := trivial
theorem Mine.top.tw2312856594315299383 : True := trivial
theorem Mine.top.tw620129878449983639 : True := trivial
theorem Mine.top.tw7458633546980236471 : True := trivial
theorem Mine.top.tw16885616592811714743 : True := trivial
theorem Mine.top.tw6694047246710070196 : True := trivial
theorem Mine.top.tw17022078359063049780 : True := trivial
theorem Mine.top.tw11760055953109336660 : True := trivial
theorem Mine.top.tw1676862907878916244 : True := trivial
theorem Mine.top.tw15918733279669447828 : True := trivial
theorem Mine.top.tw9442318146202087700 : True := trivial
theorem Mine.top.tw84136930442132756 : True := trivial
theorem Mine.top.tw16759092144687519636 : True := trivial
theorem Mine.top.tw14789260269991461300 : True := trivial
theorem Mine.top.tw4526881389914513428 : True := trivial
theorem Mine.top.tw1617357707322924660 : True := trivial
theorem Mine.top.tw1284575025550258836 : True := trivial
theorem Mine.top.tw4159251561096739476 : True := trivial
theorem Mine.top.tw12415523145999629524 : True := trivial
theorem Mine.top.tw12535971307161669396 : True := trivial
theorem Mine.top.tw11922380849998532372 : True := trivial
theorem Mine.top.tw13345470168829271861 : True := trivial
theorem Mine.top.tw11960245374511038805 : True := trivial
theorem Mine.top.tw1988063486488863061 : True := trivial
theorem Mine.top.tw11334203419191126389 : True := trivial
theorem Mine.top.tw7386116660499605909 : True := trivial
theorem Mine.top.tw18367679650794681301 : True := trivial
theorem Mine.top.tw18371284783138465269 : True := trivial
theorem Mine.top.tw11203750815551599093 : True := trivial
theorem Mine.top.tw4213018616267185653 : True := trivial
theorem Mine.top.tw72247145696351765 : True := trivial
theorem Mine.top.tw2686433634493928565 : True := trivial
theorem Mine.top.tw4796303294375832693 : True := trivial
theorem Mine.top.tw2924597203103170677 : True := trivial
theorem Mine.top.tw6664487174759623829 : True := trivial
theorem Mine.top.tw10797620697341660853 : True := trivial
theorem Mine.top.tw4058662728301269685 : True := trivial
theorem Mine.top.tw864819663365544661 : True := trivial
theorem Mine.top.tw14402358008270493973 : True := trivial
theorem Mine.top.tw3739144386018749749 : True := trivial
theorem Mine.top.tw2220570432770164149 : True := trivial
theorem Mine.top.tw575894324575664597 : True := trivial
theorem Mine.top.tw13983857475226248213 : True := trivial
theorem Mine.top.tw5225916559131626549 : True := trivial
theorem Mine.top.tw4784893810139332661 : True := trivial
theorem Mine.top.tw11994683656316670133 : True := trivial
theorem Mine.top.tw7008692893051332821 : True := trivial
theorem Mine.top.tw10562855833978642645 : True := trivial
theorem Mine.top.tw14724332232928298890 : True := trivial
theorem Mine.top.tw9951221954081769418 : True := trivial
theorem Mine.top.tw14372152842798730730 : True := trivial
theorem Mine.top.tw2369445192022557226 : True := trivial
theorem Mine.top.tw15976228082101565994 : True := trivial
theorem Mine.top.tw2732273902793177162 : True := trivial
theorem Mine.top.tw8729362747519067210 : True := trivial
theorem Mine.top.tw3315250197877816394 : True := trivial
theorem Mine.top.tw339143206060000330 : True := trivial
theorem Mine.top.tw9919435345466941130 : True := trivial
theorem Mine.top.tw7204493036743257322 : True := trivial
theorem Mine.top.tw9233715247699887402 : True := trivial
theorem Mine.top.tw11247735229740821898 : True := trivial
theorem Mine.top.tw6885214360128481674 : True := trivial
theorem Mine.top.tw501154541418245514 : True := trivial
theorem Mine.top.tw16004416686337608138 : True := trivial
theorem Mine.top.tw6624316729101989866 : True := trivial
theorem Mine.top.tw8622502720953521162 : True := trivial
theorem Mine.top.tw8184561461823581802 : True := trivial
theorem Mine.top.tw9059672392935016618 : True := trivial
theorem Mine.top.tw12166907935582030026 : True := trivial
theorem Mine.top.tw10187724287525710026 : True := trivial
theorem Mine.top.tw17469865338272021226 : True := trivial
theorem Mine.top.tw13889309363888878346 : True := trivial
theorem Mine.top.tw1655259298481077034 : True := trivial
theorem Mine.top.tw5058314954733539658 : True := trivial
theorem Mine.top.tw342308947776675178 : True := trivial
theorem Mine.top.tw11858546649754279707 : True := trivial
theorem Mine.top.tw6127594578889010139 : True := trivial
theorem Mine.top.tw3422688185749166683 : True := trivial
theorem Mine.top.tw16800595933775061595 : True := trivial
theorem Mine.top.tw4134505453457115739 : True := trivial
theorem Mine.top.tw17089494485692210459 : True := trivial
theorem Mine.top.tw995497684801637723 : True := trivial
theorem Mine.top.tw9152664641465651067 : True := trivial
theorem Mine.top.tw427269002284569659 : True := trivial
theorem Mine.top.tw10187264123177260123 : True := trivial
theorem Mine.top.tw16821654228018055803 : True := trivial
theorem Mine.top.tw3337584539547039419 : True := trivial
theorem Mine.top.tw10657950659306570408 : True := trivial
theorem Mine.top.tw14615657086365298920 : True := trivial
theorem Mine.top.tw2249405535684624136 : True := trivial
theorem Mine.top.tw3261557481417251176 : True := trivial
theorem Mine.top.tw4205137553216949640 : True := trivial
theorem Mine.top.tw18063644159110109576 : True := trivial
theorem Mine.top.tw4916261283513009128 : True := trivial
theorem Mine.top.tw3484022092364678248 : True := trivial
theorem Mine.top.tw13994475860397038760 : True := trivial
theorem Mine.top.tw5667650583090716360 : True := trivial
theorem Mine.top.tw10648311167861321448 : True := trivial
theorem Mine.top.tw16439428074185983240 : True := trivial
theorem Mine.top.tw13864677062968915208 : True := trivial
theorem Mine.top.tw708234853630380328 : True := trivial
theorem Mine.top.tw594810645892935528 : True := trivial
theorem Mine.top.tw6042063481754889096 : True := trivial
theorem Mine.top.tw4985058935396193736 : True := trivial
theorem Mine.top.tw12622177474791663080 : True := trivial
theorem Mine.top.tw5244899138074338376 : True := trivial
theorem Mine.top.tw15629967545924217721 : True := trivial
theorem Mine.top.tw6659320528611288953 : True := trivial
theorem Mine.top.tw16229821709851022329 : True := trivial
theorem Mine.top.tw5889316905344633881 : True := trivial
theorem Mine.top.tw11546936639936008217 : True := trivial
theorem Mine.top.tw16273406610938067001 : True := trivial
theorem Mine.top.tw14349089067433371257 : True := trivial
theorem Mine.top.tw17030962893124633753 : True := trivial
theorem Mine.top.tw10001883323181062329 : True := trivial
theorem Mine.top.tw13359135706311490777 : True := trivial
theorem Mine.top.tw11466170419677230873 : True := trivial
theorem Mine.top.tw16325430554902658873 : True := trivial
theorem Mine.top.tw9178861053002065721 : True := trivial
theorem Mine.top.tw16196420915677631385 : True := trivial
theorem Mine.top.tw9851269098105209369 : True := trivial
theorem Mine.top.tw795583310449317561 : True := trivial
theorem Mine.top.tw11622387365439013561 : True := trivial
theorem Mine.top.tw5476889619067714990 : True := trivial
theorem Mine.top.tw2544169868661182894 : True := trivial
theorem Mine.top.tw13318506193475082254 : True := trivial
theorem Mine.top.tw1142415686869020238 : True := trivial
theorem Mine.top.tw15240379268576122478 : True := trivial
theorem Mine.top.tw12385144161495827662 : True := trivial
theorem Mine.top.tw17542608870123051758 : True := trivial
theorem Mine.top.tw12930341388693044974 : True := trivial
theorem Mine.top.tw8472579005086612782 : True := trivial
theorem Mine.top.tw15451780782824253742 : True := trivial
theorem Mine.top.tw12209182163369298222 : True := trivial
theorem Mine.top.tw12958502747184954254 : True := trivial
theorem Mine.top.tw15985961358823992270 : True := trivial
theorem Mine.top.tw5938664839603501006 : True := trivial
theorem Mine.top.tw14502225709538309166 : True := trivial
theorem Mine.top.tw6124053682588569230 : True := trivial
theorem Mine.top.tw14611434983143301774 : True := trivial
theorem Mine.top.tw15503665604740900718 : True := trivial
theorem Mine.top.tw15299407806266782574 : True := trivial
theorem Mine.top.tw12718909917080609646 : True := trivial
theorem Mine.top.tw7198060816514059695 : True := trivial
theorem Mine.top.tw9378254376102152143 : True := trivial
theorem Mine.top.tw6898770573198911631 : True := trivial
theorem Mine.top.tw8369368087495890639 : True := trivial
theorem Mine.top.tw5581607755468803823 : True := trivial
theorem Mine.top.tw16900427199656544559 : True := trivial
theorem Mine.top.tw9631074621892390191 : True := trivial
theorem Mine.top.tw2126296398998916975 : True := trivial
theorem Mine.top.tw352232786441526191 : True := trivial
theorem Mine.top.tw13326734554550294991 : True := trivial
theorem Mine.top.tw9913501989792142831 : True := trivial
theorem Mine.top.tw7046679081361425455 : True := trivial
theorem Mine.top.tw9590735534726013551 : True := trivial
theorem Mine.top.tw1123975283337734383 : True := trivial
theorem Mine.top.tw11334350811105764591 : True := trivial
theorem Mine.top.tw1638113669730673903 : True := trivial
theorem Mine.top.tw14697636140705633519 : True := trivial
theorem Mine.top.tw8560541052185303311 : True := trivial
theorem Mine.top.tw17565814175750979855 : True := trivial
theorem Mine.top.tw381845443943030031 : True := trivial
theorem Mine.top.tw10567129059001840431 : True := trivial
theorem Mine.top.tw11762496359356365647 : True := trivial
theorem Mine.top.tw4655869559712951663 : True := trivial
theorem Mine.top.tw15484318188022702764 : True := trivial
theorem Mine.top.tw12958664272152378060 : True := trivial
theorem Mine.top.tw2443449257678562572 : True := trivial
theorem Mine.top.tw17470836177267949868 : True := trivial
theorem Mine.top.tw6333448901615975916 : True := trivial
theorem Mine.top.tw13799840507378627052 : True := trivial
theorem Mine.top.tw9227057690007400460 : True := trivial
theorem Mine.top.tw5915399644114372684 : True := trivial
theorem Mine.top.tw11542710104232473196 : True := trivial
theorem Mine.top.tw17781115878593249900 : True := trivial
theorem Mine.top.tw3254097082911018636 : True := trivial
theorem Mine.top.tw17046948494117081484 : True := trivial
theorem Mine.top.tw10404823597219466188 : True := trivial
theorem Mine.top.tw17323899518341599180 : True := trivial
theorem Mine.top.tw9195894827357321740 : True := trivial
theorem Mine.top.tw17555251805378815213 : True := trivial
theorem Mine.top.tw8265191368974092141 : True := trivial
theorem Mine.top.tw672699306608606093 : True := trivial
theorem Mine.top.tw4047667213573674445 : True := trivial
theorem Mine.top.tw3479634599624807885 : True := trivial
theorem Mine.top.tw6240723676877644813 : True := trivial
theorem Mine.top.tw10774637447528242797 : True := trivial
theorem Mine.top.tw283044589724301 : True := trivial
theorem Mine.top.tw16174758807025615021 : True := trivial
theorem Mine.top.tw7527032243904285869 : True := trivial
theorem Mine.top.tw4940147422707163885 : True := trivial
theorem Mine.top.tw1814787853859245837 : True := trivial
theorem Mine.top.tw12080426169559351053 : True := trivial
theorem Mine.top.tw2581206410525282061 : True := trivial
theorem Mine.top.tw1112988674713690477 : True := trivial
theorem Mine.top.tw1516213087968936877 : True := trivial
theorem Mine.top.tw10574840078274726829 : True := trivial
theorem Mine.top.tw12427389293880184781 : True := trivial
theorem Mine.top.tw14453841093610474573 : True := trivial
theorem Mine.top.tw13822267516522204269 : True := trivial
theorem Mine.top.tw728428047077509346 : True := trivial
theorem Mine.top.tw3217022616335106338 : True := trivial
theorem Mine.top.tw17103177528636943170 : True := trivial
theorem Mine.top.tw16580785732701462914 : True := trivial
theorem Mine.top.tw16878204669230926818 : True := trivial
theorem Mine.top.tw2405475915293451298 : True := trivial
theorem Mine.top.tw1016984595167383106 : True := trivial
theorem Mine.top.tw4177254973167742082 : True := trivial
theorem Mine.top.tw2029088862249889922 : True := trivial
theorem Mine.top.tw12425085872883035938 : True := trivial
theorem Mine.top.tw1291508964198565346 : True := trivial
theorem Mine.top.tw3767615275625035234 : True := trivial
theorem Mine.top.tw2130142222745090 : True := trivial
theorem Mine.top.tw9601329371697537090 : True := trivial
theorem Mine.top.tw15254643099363442306 : True := trivial
theorem Mine.top.tw9739860059890490050 : True := trivial
theorem Mine.top.tw11133666699803404755 : True := trivial
theorem Mine.top.tw6662652255960138227 : True := trivial
theorem Mine.top.tw16204670001084760307 : True := trivial
theorem Mine.top.tw7160873610591055699 : True := trivial
theorem Mine.top.tw5278709424875269971 : True := trivial
theorem Mine.top.tw17486766287000646611 : True := trivial
theorem Mine.top.tw12643491718579748851 : True := trivial
theorem Mine.top.tw2758071753971750899 : True := trivial
theorem Mine.top.tw887695700811335699 : True := trivial
theorem Mine.top.tw1275901062530889299 : True := trivial
theorem Mine.top.tw5398424786039705171 : True := trivial
theorem Mine.top.tw5507162329139097715 : True := trivial
theorem Mine.top.tw4571971715460732019 : True := trivial
theorem Mine.top.tw9229161468869434483 : True := trivial
theorem Mine.top.tw2007660962349395123 : True := trivial
theorem Mine.top.tw877433047237710547 : True := trivial
theorem Mine.top.tw13420762306968818387 : True := trivial
theorem Mine.top.tw11141966352661209427 : True := trivial
theorem Mine.top.tw1492452104121835379 : True := trivial
theorem Mine.top.tw8874702517807110003 : True := trivial
theorem Mine.top.tw16104615914030681952 : True := trivial
theorem Mine.top.tw14168018189251442112 : True := trivial
theorem Mine.top.tw11582926029173025856 : True := trivial
theorem Mine.top.tw1732150942055357024 : True := trivial
theorem Mine.top.tw76412952228603488 : True := trivial
theorem Mine.top.tw2741389259953327712 : True := trivial
theorem Mine.top.tw15874363893724204672 : True := trivial
theorem Mine.top.tw2218668502564051296 : True := trivial
theorem Mine.top.tw13223034962123697568 : True := trivial
theorem Mine.top.tw17953984050398360512 : True := trivial
theorem Mine.top.tw11613256710310857696 : True := trivial
theorem Mine.top.tw4597200072644226624 : True := trivial
theorem Mine.top.tw2417791160451022400 : True := trivial
theorem Mine.top.tw14142502885225118848 : True := trivial
theorem Mine.top.tw1971433849790844608 : True := trivial
theorem Mine.top.tw7847650389618582240 : True := trivial
theorem Mine.top.tw1706793611546318481 : True := trivial
theorem Mine.top.tw5225153198818245361 : True := trivial
theorem Mine.top.tw9335426496214029073 : True := trivial
theorem Mine.top.tw13307591127769906961 : True := trivial
theorem Mine.top.tw7250933059871147345 : True := trivial
theorem Mine.top.tw14597223018079223185 : True := trivial
theorem Mine.top.tw8204474986945543665 : True := trivial
theorem Mine.top.tw11457754044182789617 : True := trivial
theorem Mine.top.tw9305691244287143441 : True := trivial
theorem Mine.top.tw3999890269696038449 : True := trivial
theorem Mine.top.tw7429413206186439793 : True := trivial
theorem Mine.top.tw6196800358849779857 : True := trivial
theorem Mine.top.tw9166809390415177425 : True := trivial
theorem Mine.top.tw18086089286151905521 : True := trivial
theorem Mine.top.tw10996937224433265937 : True := trivial
theorem Mine.top.tw1245559373397905713 : True := trivial
theorem Mine.top.tw2822501910515967889 : True := trivial
theorem Mine.top.tw7715697345341360870 : True := trivial
theorem Mine.top.tw9614876229902214918 : True := trivial
theorem Mine.top.tw2506305409684761478 : True := trivial
theorem Mine.top.tw5860347150701562758 : True := trivial
theorem Mine.top.tw10783980745131425670 : True := trivial
theorem Mine.top.tw8679839319945467846 : True := trivial
theorem Mine.top.tw8435561252592420358 : True := trivial
theorem Mine.top.tw5969682004907312646 : True := trivial
theorem Mine.top.tw8640399195822439974 : True := trivial
theorem Mine.top.tw4840481374290595910 : True := trivial
theorem Mine.top.tw18186074749648716422 : True := trivial
theorem Mine.top.tw1736530178072539846 : True := trivial
theorem Mine.top.tw297971269722091814 : True := trivial
theorem Mine.top.tw4835499133494076262 : True := trivial
theorem Mine.top.tw10006222313960134694 : True := trivial
theorem Mine.top.tw10617020205504526918 : True := trivial
theorem Mine.top.tw13501252493785611398 : True := trivial
theorem Mine.top.tw6520327441239513222 : True := trivial
theorem Mine.top.tw3140898538269762758 : True := trivial
theorem Mine.top.tw10864713392326063847 : True := trivial
theorem Mine.top.tw13968125046926948103 : True := trivial
theorem Mine.top.tw13090165191389475591 : True := trivial
theorem Mine.top.tw9759319705405543751 : True := trivial
theorem Mine.top.tw6176384092110617959 : True := trivial
theorem Mine.top.tw10361075674979980167 : True := trivial
theorem Mine.top.tw6286779285267259847 : True := trivial
theorem Mine.top.tw6491118196486620199 : True := trivial
theorem Mine.top.tw860223938195835975 : True := trivial
theorem Mine.top.tw16963547258517984327 : True := trivial
theorem Mine.top.tw11459358961799972967 : True := trivial
theorem Mine.top.tw12545222027267286695 : True := trivial
theorem Mine.top.tw53344730913325255 : True := trivial
theorem Mine.top.tw11443710868159068359 : True := trivial
theorem Mine.top.tw1697544655201012999 : True := trivial
theorem Mine.top.tw775762912060472103 : True := trivial
theorem Mine.top.tw12819366960792805191 : True := trivial
theorem Mine.top.tw2731995056826638727 : True := trivial
theorem Mine.top.tw12317137736924338119 : True := trivial
theorem Mine.top.tw14145802354927516647 : True := trivial
theorem Mine.top.tw3195968871104189447 : True := trivial
theorem Mine.top.tw7237037383691196423 : True := trivial
theorem Mine.top.tw16840627104734473223 : True := trivial
theorem Mine.top.tw9165953624949470791 : True := trivial
theorem Mine.top.tw12256363837256957063 : True := trivial
theorem Mine.top.tw8043003576528973991 : True := trivial
theorem Mine.top.tw6883741973766446791 : True := trivial
theorem Mine.top.tw14987219478266130788 : True := trivial
theorem Mine.top.tw146815374380898660 : True := trivial
theorem Mine.top.tw7671549972530922468 : True := trivial
theorem Mine.top.tw370947364307004932 : True := trivial
theorem Mine.top.tw13012589842206080548 : True := trivial
theorem Mine.top.tw13896958669275611876 : True := trivial
theorem Mine.top.tw10694878333477680388 : True := trivial
theorem Mine.top.tw13710211086531791108 : True := trivial
theorem Mine.top.tw16541100652227675460 : True := trivial
theorem Mine.top.tw16058212318047004132 : True := trivial
theorem Mine.top.tw12764151676501842404 : True := trivial
theorem Mine.top.tw16054190913257422852 : True := trivial
theorem Mine.top.tw14608685727046917156 : True := trivial
theorem Mine.top.tw7847352863974893604 : True := trivial
theorem Mine.top.tw2287823674025257028 : True := trivial
theorem Mine.top.tw14459580976405569124 : True := trivial
theorem Mine.top.tw12483720753089274532 : True := trivial
theorem Mine.top.tw12787338502077490372 : True := trivial
theorem Mine.top.tw6292954644110606532 : True := trivial
theorem Mine.top.tw15212760480394562756 : True := trivial
theorem Mine.top.tw8281120267493503204 : True := trivial
theorem Mine.top.tw18064794426631996164 : True := trivial
theorem Mine.top.tw814325599930780420 : True := trivial
theorem Mine.top.tw7386611806772748645 : True := trivial
theorem Mine.top.tw13001836021917841797 : True := trivial
theorem Mine.top.tw1294077662247117797 : True := trivial
theorem Mine.top.tw3669314199184481253 : True := trivial
theorem Mine.top.tw3976154599441133093 : True := trivial
theorem Mine.top.tw8212240652046128837 : True := trivial
theorem Mine.top.tw8892184565913893157 : True := trivial
theorem Mine.top.tw8363718466572441477 : True := trivial
theorem Mine.top.tw9227541089923242437 : True := trivial
theorem Mine.top.tw4656485037274611717 : True := trivial
theorem Mine.top.tw15646934709686841381 : True := trivial
theorem Mine.top.tw81815255157605957 : True := trivial
theorem Mine.top.tw196536941598035525 : True := trivial
theorem Mine.top.tw7313339093194340965 : True := trivial
theorem Mine.top.tw6505410396798821541 : True := trivial
theorem Mine.top.tw17150878257433057509 : True := trivial
theorem Mine.top.tw9059832203979395877 : True := trivial
theorem Mine.top.tw11199532085631943738 : True := trivial
theorem Mine.top.tw14376744209917385786 : True := trivial
theorem Mine.top.tw6973401727384321114 : True := trivial
theorem Mine.top.tw5702910450625016506 : True := trivial
theorem Mine.top.tw17620759639134147866 : True := trivial
theorem Mine.top.tw10079171474624433434 : True := trivial
theorem Mine.top.tw1886144042066472794 : True := trivial
theorem Mine.top.tw4713442408853163898 : True := trivial
theorem Mine.top.tw10448899703829047738 : True := trivial
theorem Mine.top.tw13068111086705522682 : True := trivial
theorem Mine.top.tw10889415215676834394 : True := trivial
theorem Mine.top.tw1108800333578037850 : True := trivial
theorem Mine.top.tw7681529838311687354 : True := trivial
theorem Mine.top.tw16420938139371093754 : True := trivial
theorem Mine.top.tw3974946682361356058 : True := trivial
theorem Mine.top.tw17219337458794519322 : True := trivial
theorem Mine.top.tw12105128591322288922 : True := trivial
theorem Mine.top.tw1047907039808853306 : True := trivial
theorem Mine.top.tw14823308797102314842 : True := trivial
theorem Mine.top.tw3195522803047326042 : True := trivial
theorem Mine.top.tw3002795768020413707 : True := trivial
theorem Mine.top.tw14282377253939248939 : True := trivial
theorem Mine.top.tw7673058066778466091 : True := trivial
theorem Mine.top.tw8598144960395782539 : True := trivial
theorem Mine.top.tw6812286434817487243 : True := trivial
theorem Mine.top.tw6431110157172167083 : True := trivial
theorem Mine.top.tw6674990990233134667 : True := trivial
theorem Mine.top.tw6919701780365589675 : True := trivial
theorem Mine.top.tw956942650209027819 : True := trivial
theorem Mine.top.tw17315540178315561739 : True := trivial
theorem Mine.top.tw9962302188120564619 : True := trivial
theorem Mine.top.tw9233335307524088747 : True := trivial
theorem Mine.top.tw13706816188851595723 : True := trivial
theorem Mine.top.tw6430265229019958763 : True := trivial
theorem Mine.top.tw10197464462941295115 : True := trivial
theorem Mine.top.tw16415559393655328363 : True := trivial
theorem Mine.top.tw13272337422414781067 : True := trivial
theorem Mine.top.tw8140125068956082859 : True := trivial
theorem Mine.top.tw4828031223510198475 : True := trivial
theorem Mine.top.tw2683898200743741643 : True := trivial
theorem Mine.top.tw6487610083215253720 : True := trivial
theorem Mine.top.tw3995942328266245912 : True := trivial
theorem Mine.top.tw2812155379371279736 : True := trivial
theorem Mine.top.tw15245507539482535896 : True := trivial
theorem Mine.top.tw11199710921928265848 : True := trivial
theorem Mine.top.tw1139600151236580504 : True := trivial
theorem Mine.top.tw681777741448182936 : True := trivial
theorem Mine.top.tw6746510453823603384 : True := trivial
theorem Mine.top.tw16713831800681072344 : True := trivial
theorem Mine.top.tw6572447435987645144 : True := trivial
theorem Mine.top.tw9063741608606530840 : True := trivial
theorem Mine.top.tw2722852734226103192 : True := trivial
theorem Mine.top.tw4498253355057717688 : True := trivial
theorem Mine.top.tw4551080515912023512 : True := trivial
theorem Mine.top.tw6211089042160764376 : True := trivial
theorem Mine.top.tw8107780213005350392 : True := trivial
theorem Mine.top.tw9768079942903668216 : True := trivial
theorem Mine.top.tw4331257952254489624 : True := trivial
theorem Mine.top.tw9843447840031818808 : True := trivial
theorem Mine.top.tw10008474027749305400 : True := trivial
theorem Mine.top.tw1149218181149386328 : True := trivial
theorem Mine.top.tw2617719716777270872 : True := trivial
theorem Mine.top.tw18164388396756303480 : True := trivial
theorem Mine.top.tw8237333600419904120 : True := trivial
theorem Mine.top.tw8810280945414196856 : True := trivial
theorem Mine.top.tw4555866861457887817 : True := trivial
theorem Mine.top.tw15569959144833144457 : True := trivial
theorem Mine.top.tw13290321428070320777 : True := trivial
theorem Mine.top.tw15878805988109762761 : True := trivial
theorem Mine.top.tw10548783162686979305 : True := trivial
theorem Mine.top.tw17103585973383926153 : True := trivial
theorem Mine.top.tw3378803678994701225 : True := trivial
theorem Mine.top.tw4671429814451907529 : True := trivial
theorem Mine.top.tw7855079511596107753 : True := trivial
theorem Mine.top.tw10915162052029792233 : True := trivial
theorem Mine.top.tw16123964013534891561 : True := trivial
theorem Mine.top.tw6906291655842520137 : True := trivial
theorem Mine.top.tw259116497763760265 : True := trivial
theorem Mine.top.tw13177472732611162249 : True := trivial
theorem Mine.top.tw16782997733028217545 : True := trivial
theorem Mine.top.tw15860264024139754761 : True := trivial
theorem Mine.top.tw2878843996050045342 : True := trivial
theorem Mine.top.tw9108098604805947806 : True := trivial
theorem Mine.top.tw6859976401760118174 : True := trivial
theorem Mine.top.tw2867133514656366558 : True := trivial
theorem Mine.top.tw5983031951866500094 : True := trivial
theorem Mine.top.tw14371913498598963198 : True := trivial
theorem Mine.top.tw15058813355848621054 : True := trivial
theorem Mine.top.tw2267912224990424062 : True := trivial
theorem Mine.top.tw5118827330378232414 : True := trivial
theorem Mine.top.tw14851680436948445374 : True := trivial
theorem Mine.top.tw2555065506035805374 : True := trivial
theorem Mine.top.tw10579768621468169598 : True := trivial
theorem Mine.top.tw788273225186049534 : True := trivial
theorem Mine.top.tw13091174067606910046 : True := trivial
theorem Mine.top.tw18237780215024852062 : True := trivial
theorem Mine.top.tw8973803690348224638 : True := trivial
theorem Mine.top.tw14747140909534839006 : True := trivial
theorem Mine.top.tw8968299171318014206 : True := trivial
theorem Mine.top.tw6930518751129746686 : True := trivial
theorem Mine.top.tw9361663168868926718 : True := trivial
theorem Mine.top.tw105208000716104510 : True := trivial
theorem Mine.top.tw13889484949932952446 : True := trivial
theorem Mine.top.tw11279390925490393535 : True := trivial
theorem Mine.top.tw5766051744304087583 : True := trivial
theorem Mine.top.tw2514443458684651071 : True := trivial
theorem Mine.top.tw12094960947251128927 : True := trivial
theorem Mine.top.tw453181688931711583 : True := trivial
theorem Mine.top.tw17428532607074087071 : True := trivial
theorem Mine.top.tw2464713573024523455 : True := trivial
theorem Mine.top.tw6187478851450931391 : True := trivial
theorem Mine.top.tw649594095290182367 : True := trivial
theorem Mine.top.tw18085771088847121727 : True := trivial
theorem Mine.top.tw3207569582813703071 : True := trivial
theorem Mine.top.tw5839659824258004927 : True := trivial
theorem Mine.top.tw9589608677651300831 : True := trivial
theorem Mine.top.tw14762295962024373759 : True := trivial
theorem Mine.top.tw14390669486469195807 : True := trivial
theorem Mine.top.tw1754339480302792767 : True := trivial
theorem Mine.top.tw7990429038631628895 : True := trivial
theorem Mine.top.tw8345894832289464959 : True := trivial
theorem Mine.top.tw10341860258655708415 : True := trivial
theorem Mine.top.tw13369591340354186047 : True := trivial
theorem Mine.top.tw10399464001100048223 : True := trivial
theorem Mine.top.tw11334415319851112604 : True := trivial
theorem Mine.top.tw5523086135645875356 : True := trivial
theorem Mine.top.tw16453443671601555132 : True := trivial
theorem Mine.top.tw216529984938456764 : True := trivial
theorem Mine.top.tw1088946173253831356 : True := trivial
theorem Mine.top.tw14826035006057030972 : True := trivial
theorem Mine.top.tw2377541652452675900 : True := trivial
theorem Mine.top.tw1124271682379634556 : True := trivial
theorem Mine.top.tw18034075008235765660 : True := trivial
theorem Mine.top.tw14084254815424685500 : True := trivial
theorem Mine.top.tw13120753694373217308 : True := trivial
theorem Mine.top.tw8689318265317240412 : True := trivial
theorem Mine.top.tw10195997230039290492 : True := trivial
theorem Mine.top.tw2727672472851901052 : True := trivial
theorem Mine.top.tw18245740138792012028 : True := trivial
theorem Mine.top.tw15286249088069653756 : True := trivial
theorem Mine.top.tw13928562000808390012 : True := trivial
theorem Mine.top.tw4547018644641229820 : True := trivial
theorem Mine.top.tw13802547742096326172 : True := trivial
theorem Mine.top.tw12376051458212225564 : True := trivial
theorem Mine.top.tw1869187583165140508 : True := trivial
theorem Mine.top.tw14917401599646851644 : True := trivial
theorem Mine.top.tw4321519831107876412 : True := trivial
theorem Mine.top.tw13134186033006778460 : True := trivial
theorem Mine.top.tw7325726471975496349 : True := trivial
theorem Mine.top.tw10773188271377071773 : True := trivial
theorem Mine.top.tw16155163154822807229 : True := trivial
theorem Mine.top.tw11430207588045935325 : True := trivial
theorem Mine.top.tw5155950481276406077 : True := trivial
theorem Mine.top.tw11423202765487971197 : True := trivial
theorem Mine.top.tw1833847959688406909 : True := trivial
theorem Mine.top.tw2782073688633401757 : True := trivial
theorem Mine.top.tw47109162367338493 : True := trivial
theorem Mine.top.tw11240886729373846589 : True := trivial
theorem Mine.top.tw15683283827167961885 : True := trivial
theorem Mine.top.tw18177719399980262173 : True := trivial
theorem Mine.top.tw2057334267981633021 : True := trivial
theorem Mine.top.tw17355269125676882429 : True := trivial
theorem Mine.top.tw5355538736458173323 : True := trivial
set_option Elab.async true
set_option maxHeartbeats 8000000 in
theorem Mine.top : PySem.Challenge.rw_sz0091_01.Holds := by
  w_on
  o_law
  k_head
  case hw => w_witness2
  exact Mine.walk_of Mine.law_T rfl
theorem PySem.Challenge.cw_sz0091_01_holds : PySem.Challenge.rw_sz0091_01.Holds := by
  exact Mine.top
