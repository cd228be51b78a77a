import PyProof.Rows.All
import Wide.All
import OpenK.AllK
import Wide.FinOn
import HandS.ForMost
import HandS.ForExc
import HandS.Defaults
import HandS.IsInst
import HandS.Style
import HandS.NoneIn
import HandS.Conv
import HandS.Codes
import HandS.More
import HandS.ExcInit
import HandS.ExcIs
import HandS.ExcValue
import HandS.TryMany
import KE.KExcIs
import PyProof.ReprRoads
import HandS.SetFor
import PySem.Challenge.RW_keepstream_k64_disks_and_cuts
import HandS.Walk
import HandS.Text
import KE.KxText
import PyProof.Rows.StrJoinRep
import PyProof.Rows.StrMul
import PyProof.Rows.RegStrFacts
import HandS.Dict
import HandS.EndBits
set_option Elab.async false
set_option linter.all false
set_option maxRecDepth 100000
set_option maxHeartbeats 4000000
/-! KsA: the ledger of the cells that a def owns; rules whose readings are computed by the values. -/
namespace Ks
open PySem PySem.Spec PyProof.Rows L2
abbrev St := L2.St

/-! ### cells -/
abbrev Cells := List (Addr × HO)
/-- what never changes once it stands -/
def imm : HO → Bool
  | .tup _ => true
  | .frz _ _ => true
  | .own _ => true
  | _ => false
structure Led (H : Hp) (L : Cells) : Prop where
  nd : (L.map (·.1)).Nodup
  hp : ∀ p ∈ L, H p.1 = some p.2
theorem Led.at {H : Hp} {L : Cells} (T : Led H L) (i : Nat) {a : Addr} {o : HO} (h : L[i]? = some (a, o)) : H a = some o := T.hp (a, o) (List.mem_of_getElem? h)
theorem Led.nil {H : Hp} : Led H [] := ⟨List.nodup_nil, fun _ h => nomatch h⟩
theorem Led.cons {H : Hp} {L : Cells} {a : Addr} {o : HO} (T : Led H L) (h : H a = some o) (n : ∀ p ∈ L, p.1 ≠ a) : Led H ((a, o) :: L) := by
  refine ⟨List.nodup_cons.mpr ⟨fun hm => ?_, T.nd⟩, fun p hp => ?_⟩
  · obtain ⟨p, hp, e⟩ := List.mem_map.mp hm
    exact n p hp e
  · rcases List.mem_cons.mp hp with e | hp
    · rw [e]; exact h
    · exact T.hp p hp
theorem Led.sub {H : Hp} {L M : Cells} (T : Led H L) (h : M.Sublist L) : Led H M :=
  ⟨T.nd.sublist (h.map _), fun p hp => T.hp p (h.subset hp)⟩
theorem Led.perm {H : Hp} {L M : Cells} (T : Led H L) (h : M.Perm L) : Led H M :=
  ⟨(h.map Prod.fst).nodup_iff.mpr T.nd, fun p hp => T.hp p (h.mem_iff.mp hp)⟩
/-- the cells at some places -/
def pick (L : Cells) : List Nat → Cells
  | [] => []
  | i :: r => match L[i]? with
    | some c => c :: pick L r
    | none => pick L r
/-- all but the cells at some places (n: the place of the first) -/
def leave (is : List Nat) : Nat → Cells → Cells
  | _, [] => []
  | n, c :: r => if is.contains n then leave is (n + 1) r else c :: leave is (n + 1) r
theorem mem_pick {L : Cells} : ∀ {is : List Nat} {p : Addr × HO}, p ∈ pick L is → ∃ i ∈ is, L[i]? = some p
  | [], _, h => nomatch h
  | i :: r, p, h => by
    unfold pick at h
    split at h
    · rename_i c e
      rcases List.mem_cons.mp h with q | q
      · exact ⟨i, List.mem_cons_self, by rw [q]; exact e⟩
      · obtain ⟨j, hj, z⟩ := mem_pick q
        exact ⟨j, List.mem_cons_of_mem _ hj, z⟩
    · obtain ⟨j, hj, z⟩ := mem_pick h
      exact ⟨j, List.mem_cons_of_mem _ hj, z⟩
theorem leave_sub (is : List Nat) : ∀ (n : Nat) (L : Cells), (leave is n L).Sublist L
  | _, [] => .slnil
  | n, c :: r => by
    unfold leave
    split
    · exact (leave_sub is (n + 1) r).cons c
    · exact (leave_sub is (n + 1) r).cons₂ c
theorem mem_leave {is : List Nat} : ∀ {n : Nat} {L : Cells} {p : Addr × HO}, p ∈ leave is n L → ∃ j, L[j]? = some p ∧ n + j ∉ is
  | _, [], _, h => nomatch h
  | n, c :: r, p, h => by
    unfold leave at h
    split at h
    · obtain ⟨j, e, q⟩ := mem_leave h
      exact ⟨j + 1, by simpa using e, by rw [show n + (j + 1) = n + 1 + j by omega]; exact q⟩
    · rename_i hc
      rcases List.mem_cons.mp h with q | q
      · exact ⟨0, by simp [q], by simpa using hc⟩
      · obtain ⟨j, e, q⟩ := mem_leave q
        exact ⟨j + 1, by simpa using e, by rw [show n + (j + 1) = n + 1 + j by omega]; exact q⟩
theorem nd_at {L : Cells} (h : (L.map (·.1)).Nodup) {i j : Nat} {a b : Addr} {o u : HO} (hi : L[i]? = some (a, o)) (hj : L[j]? = some (b, u)) (e : a = b) : i = j := by
  have h1 : (L.map (·.1))[i]? = some a := by rw [List.getElem?_map, hi]; rfl
  have h2 : (L.map (·.1))[j]? = some a := by rw [List.getElem?_map, hj, e]; rfl
  obtain ⟨l1, e1⟩ := List.getElem?_eq_some_iff.mp h1
  obtain ⟨l2, e2⟩ := List.getElem?_eq_some_iff.mp h2
  exact (List.getElem_inj h).mp (e1.trans e2.symm)
theorem nd_pick {L : Cells} (nd : (L.map (·.1)).Nodup) : ∀ {is : List Nat}, is.Nodup → ((pick L is).map (·.1)).Nodup
  | [], _ => List.nodup_nil
  | i :: r, h => by
    obtain ⟨h1, h2⟩ := List.nodup_cons.mp h
    unfold pick
    split
    · rename_i c e
      refine List.nodup_cons.mpr ⟨fun hm => ?_, nd_pick nd h2⟩
      obtain ⟨p, hp, q⟩ := List.mem_map.mp hm
      obtain ⟨j, hj, z⟩ := mem_pick hp
      have := nd_at nd (a := p.1) (b := c.1) (o := p.2) (u := c.2) z e q
      exact h1 (this ▸ hj)
    · exact nd_pick nd h2
theorem Led.pick {H : Hp} {L : Cells} (T : Led H L) (is : List Nat) (h : is.Nodup := by decide) : Led H (pick L is) :=
  ⟨nd_pick T.nd h, fun p hp => by
    obtain ⟨i, _, e⟩ := mem_pick hp
    exact T.hp p (List.mem_of_getElem? e)⟩

/-! ### from H0 on only the addresses A have changed, and now the cells L stand -/
structure Chg (A : List Addr) (H0 H : Hp) (L : Cells) : Prop where
  keep : ∀ a o, a ∉ A → H0 a = some o → H a = some o
  fix : ∀ a o, imm o = true → H0 a = some o → H a = some o
  new : ∀ a, H a = none → H0 a = none
  led : Led H L
  own : ∀ p ∈ L, p.1 ∈ A ∨ H0 p.1 = none
theorem Chg.of {H : Hp} {L : Cells} (T : Led H L) : Chg (L.map (·.1)) H H L :=
  ⟨fun _ _ _ h => h, fun _ _ _ h => h, fun _ h => h, T, fun p hp => .inl (List.mem_map_of_mem hp)⟩
section
variable {A : List Addr} {H0 H H1 : Hp} {L : Cells}
theorem Chg.at (c : Chg A H0 H L) (i : Nat) {a : Addr} {o : HO} (h : L[i]? = some (a, o)) : H a = some o := c.led.at i h
/-- a new object -/
theorem Chg.add (c : Chg A H0 H L) {p : Addr} {o : HO} (hp : H p = none) : Chg A H0 (upd H p o) ((p, o) :: L) where
  keep := fun a u n h => by
    have q := c.keep a u n h
    rw [upd_ne (ne_of_none q hp)]; exact q
  fix := fun a u i h => by
    have q := c.fix a u i h
    rw [upd_ne (ne_of_none q hp)]; exact q
  new := fun a h => by
    by_cases e : a = p
    · subst e; rw [upd_same] at h; cases h
    · rw [upd_ne e] at h; exact c.new a h
  led := by
    refine Led.cons ⟨c.led.nd, fun q hq => ?_⟩ upd_same fun q hq => ne_of_none (c.led.hp q hq) hp
    rw [upd_ne (ne_of_none (c.led.hp q hq) hp)]; exact c.led.hp q hq
  own := fun q hq => by
    rcases List.mem_cons.mp hq with e | hq
    · subst e; exact .inr (c.new _ hp)
    · exact c.own q hq
/-- a new object that nobody asks of later -/
theorem Chg.skip (c : Chg A H0 H L) {p : Addr} {o : HO} (hp : H p = none) : Chg A H0 (upd H p o) L :=
  let d := c.add (o := o) hp
  ⟨d.keep, d.fix, d.new, d.led.sub (List.sublist_cons_self ..), fun q hq => d.own q (List.mem_cons_of_mem _ hq)⟩
/-- the i-th cell changes -/
theorem Chg.set (c : Chg A H0 H L) (i : Nat) {a : Addr} {o o' : HO} (h : L[i]? = some (a, o)) (ni : imm o = false := by rfl) : Chg A H0 (upd H a o') (L.set i (a, o')) where
  keep := fun b u n hb => by
    have q := c.keep b u n hb
    have ne : b ≠ a := fun e => by
      subst e
      rcases c.own _ (List.mem_of_getElem? h) with z | z
      · exact n z
      · rw [z] at hb; cases hb
    rw [upd_ne ne]; exact q
  fix := fun b u im hb => by
    have q := c.fix b u im hb
    have ne : b ≠ a := fun e => by
      subst e
      rw [c.at i h] at q; cases q
      rw [ni] at im; cases im
    rw [upd_ne ne]; exact q
  new := fun b hb => by
    by_cases e : b = a
    · subst e; rw [upd_same] at hb; cases hb
    · rw [upd_ne e] at hb; exact c.new b hb
  led := by
    have hi : i < L.length := (List.getElem?_eq_some_iff.mp h).1
    have e1 : (L.set i (a, o')).map (·.1) = L.map (·.1) := by
      apply List.ext_getElem?
      intro j
      rw [List.getElem?_map, List.getElem?_map]
      by_cases ej : i = j
      · subst ej; rw [List.getElem?_set_self hi, h]; rfl
      · rw [List.getElem?_set_ne ej]
    refine ⟨by rw [e1]; exact c.led.nd, fun p hp => ?_⟩
    obtain ⟨j, hj⟩ := List.mem_iff_getElem?.mp hp
    by_cases ej : i = j
    · subst ej
      rw [List.getElem?_set_self hi] at hj
      cases hj
      exact upd_same
    · rw [List.getElem?_set_ne ej] at hj
      have ne : p.1 ≠ a := fun e => ej (nd_at c.led.nd (a := a) (b := p.1) h (by rw [hj]) e.symm)
      rw [upd_ne ne]
      exact c.led.hp p (List.mem_of_getElem? hj)
  own := fun p hp => by
    obtain ⟨j, hj⟩ := List.mem_iff_getElem?.mp hp
    have hi : i < L.length := (List.getElem?_eq_some_iff.mp h).1
    by_cases ej : i = j
    · subst ej
      rw [List.getElem?_set_self hi] at hj
      cases hj
      exact c.own (a, o) (List.mem_of_getElem? h)
    · rw [List.getElem?_set_ne ej] at hj
      exact c.own p (List.mem_of_getElem? hj)
/-- behind a call that may change the cells at some places -/
theorem Chg.call (c : Chg A H0 H L) (is : List Nat) {N : Cells} (d : Chg ((pick L is).map (·.1)) H H1 N) : Chg A H0 H1 (N ++ leave is 0 L) where
  keep := fun a o n h => by
    refine d.keep a o (fun hm => ?_) (c.keep a o n h)
    obtain ⟨p, hp, e⟩ := List.mem_map.mp hm
    obtain ⟨i, _, z⟩ := mem_pick hp
    subst e
    rcases c.own p (List.mem_of_getElem? z) with y | y
    · exact n y
    · rw [y] at h; cases h
  fix := fun a o im h => d.fix a o im (c.fix a o im h)
  new := fun a h => c.new a (d.new a h)
  led := by
    have hK : ∀ p ∈ leave is 0 L, p.1 ∉ (pick L is).map (·.1) := fun p hp hm => by
      obtain ⟨q, hq, e⟩ := List.mem_map.mp hm
      obtain ⟨i, hi, z⟩ := mem_pick hq
      obtain ⟨j, y, nj⟩ := mem_leave hp
      have := nd_at c.led.nd (a := q.1) (b := p.1) (by rw [z]) (by rw [y]) e
      subst this
      exact nj (by rw [Nat.zero_add]; exact hi)
    have hL : ∀ p ∈ leave is 0 L, p ∈ L := fun p hp => (leave_sub is 0 L).subset hp
    refine ⟨?_, fun p hp => ?_⟩
    · rw [List.map_append]
      refine List.nodup_append.mpr ⟨d.led.nd, c.led.nd.sublist ((leave_sub is 0 L).map _), fun x hx y hy e => ?_⟩
      subst e
      obtain ⟨q, hq, e⟩ := List.mem_map.mp hx
      obtain ⟨p, hp, e'⟩ := List.mem_map.mp hy
      rcases d.own q hq with z | z
      · exact hK p hp (by rw [e', ← e]; exact z)
      · have := c.led.hp p (hL p hp)
        rw [e', ← e, z] at this; cases this
    · rcases List.mem_append.mp hp with h | h
      · exact d.led.hp p h
      · exact d.keep p.1 p.2 (hK p h) (c.led.hp p (hL p h))
  own := fun p hp => by
    rcases List.mem_append.mp hp with h | h
    · rcases d.own p h with z | z
      · obtain ⟨q, hq, e⟩ := List.mem_map.mp z
        obtain ⟨i, _, y⟩ := mem_pick hq
        rw [← e]
        exact c.own q (List.mem_of_getElem? y)
      · exact .inr (c.new _ z)
    · exact c.own p ((leave_sub is 0 L).subset h)
theorem Chg.sub (c : Chg A H0 H L) {M : Cells} (h : M.Sublist L) : Chg A H0 H M := ⟨c.keep, c.fix, c.new, c.led.sub h, fun p hp => c.own p (h.subset hp)⟩
theorem Chg.perm (c : Chg A H0 H L) {M : Cells} (h : M.Perm L) : Chg A H0 H M := ⟨c.keep, c.fix, c.new, c.led.perm h, fun p hp => c.own p (h.mem_iff.mp hp)⟩
theorem Chg.pick (c : Chg A H0 H L) (is : List Nat) (h : is.Nodup := by decide) : Chg A H0 H (pick L is) :=
  ⟨c.keep, c.fix, c.new, c.led.pick is h, fun p hp => let ⟨_, _, e⟩ := mem_pick hp; c.own p (List.mem_of_getElem? e)⟩
theorem Chg.to (c : Chg A H0 H L) {M : Cells} (e : L = M) : Chg A H0 H M := e ▸ c
/-- more may have changed -/
theorem Chg.wide {B : List Addr} (c : Chg A H0 H L) (h : ∀ a ∈ A, a ∈ B) : Chg B H0 H L :=
  ⟨fun a o n => c.keep a o fun z => n (h a z), c.fix, c.new, c.led, fun p hp => (c.own p hp).imp (h _) id⟩
/-- what stood ahead still stands, by the frame -/
theorem Chg.led2 (c : Chg A H0 H L) {M : Cells} (T : Led H0 M) (h : ∀ p ∈ M, p.1 ∉ A) : Led H M := ⟨T.nd, fun p hp => c.keep p.1 p.2 (h p hp) (T.hp p hp)⟩
end

/-! ### a weaker reading -/
theorem peLe {X : Cx} {e : Expr} {t t' : TE} (h : PE X e t) (i : ∀ σ H Q, t' σ H Q → t σ H Q) : PE X e t' := ⟨fun pins s σ H Q I q => h.run pins s σ H Q I (i σ H Q q)⟩
theorem opLe {X : Cx} {f : Value → Value → Sem Value} {r r' : R2} (h : OpR X f r) (i : ∀ x y H Q, r' x y H Q → r x y H Q) : OpR X f r' := fun pins s σ H x y v u Q I rx ry q => h pins s σ H x y v u Q I rx ry (i x y H Q q)
theorem crLe {X : Cx} {f : Value} {r r' : List V → Hp → VK → Prop} (h : CallR X f r) (i : ∀ xs H Q, r' xs H Q → r xs H Q) : CallR X f r' := fun pins s σ H xs us Q I rx q => h pins s σ H xs us Q I rx (i xs H Q q)
section
variable {X : Cx}
/-- a slot, read -/
def tV (i : Nat) : TE := fun σ H Q => match σ[i]? with
  | some (some v) => Q v H
  | _ => False
theorem qv (i : Nat) {x : Str} {pos : Pos} (hN : X.N[i]? = some x := by rfl) (hv : Vis X.env.scope x := by first | exact Or.inl rfl | exact Or.inr (Or.inl rfl) | exact Or.inr (Or.inr rfl)) (hd : (x == ("__debug__" : Str)) = false := by decide)
    (hcd : (x == ("__classdict__" : Str)) = false := by decide) : PE X (.Name x pos) (tV i) := peLe (pe_var hN hv hd hcd) fun σ H Q h => by
  unfold tV at h
  split at h
  · rename_i v e
    exact ⟨v, e, h⟩
  · exact h.elim

/-! ### operators by the values -/
/-- x + y -/
def rAddD : R2 := fun x y H Q => match x, y with
  | .int i, .int j => Q (.int (i + j)) H
  | .str a, .str b => a.length + b.length ≤ sizeLine ∧ Q (.str (a ++ b)) H
  | .ref a, .ref b => ∃ xs ys, H a = some (.lst xs) ∧ H b = some (.lst ys) ∧ xs.length + ys.length ≤ sizeLine ∧ ∀ p, H p = none → Q (.ref p) (upd H p (.lst (xs ++ ys)))
  | _, _ => False
theorem op_addD : OpR X (binaryOp .Add) rAddD := by
  intro pins s σ H x y v u Q I rx ry h
  cases x with
  | int i =>
    cases y with
    | int j => exact op_add pins s σ H _ _ v u Q I rx ry ⟨i, j, rfl, rfl, h⟩
    | _ => exact (show False from h).elim
  | str a =>
    cases y with
    | str b => exact op_add_str pins s σ H _ _ v u Q I rx ry ⟨a, b, rfl, rfl, h.1, h.2⟩
    | _ => exact (show False from h).elim
  | ref a =>
    cases y with
    | ref b =>
      obtain ⟨xs, ys, h1, h2, h3, h4⟩ := h
      exact op_cat pins s σ H _ _ v u Q I rx ry ⟨a, b, xs, ys, rfl, rfl, h1, h2, h3, h4⟩
    | _ => exact (show False from h).elim
  | _ => exact (show False from h).elim
/-- x * y, one of them a small int -/
def rMulD : R2 := fun x y H Q => match x, y with
  | .int i, .int j => CMul i j ∧ Q (.int (i * j)) H
  | .ref a, .int k => ∃ xs, H a = some (.lst xs) ∧ -(2 ^ 63) ≤ k ∧ k < 2 ^ 63 ∧ xs.length * k.toNat ≤ sizeLine ∧ ∀ p, H p = none → Q (.ref p) (upd H p (.lst (List.replicate k.toNat xs).flatten))
  | _, _ => False
end
end Ks

/-! KsB: what a def promises, with the guards of repr known; its calls. -/
namespace Ks
open PySem PySem.Spec PyProof.Rows L2
structure Rm (hot : Bool) (k : Nat) (A : Around) : Prop where
  hd : hot = false → A.handled = none
  dp : A.depth + 3 * k + 5 < recursionLimit
  un : A.units + 16 * k + 200 < cLine
  gd : A.guards = some []
section
variable {hot : Bool} {j k : Nat} {A : Around}
theorem Rm.mono (r : Rm hot k A) (h : j ≤ k) : Rm hot j A := ⟨r.hd, by have := r.dp; omega, by have := r.un; omega, r.gd⟩
theorem Rm.deeper (r : Rm hot (k + 1) A) (env : Env) : Rm hot k (A.deeper env) :=
  ⟨r.hd, by have := r.dp; show A.depth + 1 + 3 * k + 5 < _; omega, by have := r.un; show A.units + 3 + 16 * k + 200 < _; omega, r.gd⟩
theorem make_guards {C : Addr} {us : List Value} {kw : List (Str × Value)} : (A.under (.builtin "type.__call__" ⟨.ref C :: us, kw⟩)).guards = A.guards := by
  have e : (Code.builtin "type.__call__" ⟨.ref C :: us, kw⟩).guards = [] := by
    unfold Code.guards
    rw [if_neg]
    simp [Code.isGuard, guardIds]
  unfold Around.under
  rw [e]
  cases A.guards <;> rfl
theorem Rm.make (r : Rm hot (k + 1) A) (C : Addr) (us : List Value) (kw : List (Str × Value)) : Rm hot k (A.under (.builtin "type.__call__" ⟨.ref C :: us, kw⟩)) :=
  ⟨r.hd, by have := r.dp; rw [make_depth]; omega, by have := r.un; rw [make_units]; omega, by rw [make_guards]; exact r.gd⟩
theorem Rm.any (r : Rm hot k A) (h : Option Value) : Rm true k (A.mark h) := ⟨fun z => Bool.noConfusion z, r.dp, r.un, r.gd⟩
theorem Rm.u64 (r : Rm hot k A) : A.units + 64 < cLine := by have := r.un; omega
theorem Rm.u1 (r : Rm hot k A) : A.units + 1 < cLine := by have := r.un; omega
theorem Rm.depth (r : Rm hot k A) : A.depth < recursionLimit := by have := r.dp; omega
end
/-- what a def promises: called at hot contexts too, if hot -/
structure FnG (hot : Bool) (P : Program) (w : World) (K : PySem.W.Frag) (mg : Str → Option Value) (base : Heap) (k : Nat) (f : Addr) (fd : FuncData) (ps : List Str) (sp : Sp) : Prop where
  len : ∀ vs H Q E, sp vs H Q E → vs.length = ps.length
  run : ∀ (A : Around) (outer : List Env) (s : Shared) (H : Hp) (args : Args) (us : List Value) (vs : List V) (Q : VK) (E : XK), Rm hot k A → Env0 P w K mg base A outer s H → BindsTo s fd args (ps.zip us) → Vals vs us → sp vs H Q E →
    codeAny (model P w) A (.call (.ref f) args) (CR (L2.CX P w) outer P w H s Q E) s
theorem FnG.up {hot : Bool} {P : Program} {w : World} {K : PySem.W.Frag} {mg : Str → Option Value} {base : Heap} {j k : Nat} {f : Addr} {fd : FuncData} {ps : List Str} {sp : Sp} (F : FnG hot P w K mg base j f fd ps sp) (h : j ≤ k) : FnG hot P w K mg base k f fd ps sp :=
  ⟨F.len, fun A outer s H args us vs Q E hr => F.run A outer s H args us vs Q E (hr.mono h)⟩
/-- the body's context -/
abbrev cxG (hot : Bool) (P : Program) (w : World) (K : PySem.W.Frag) (mg : Str → Option Value) (base : Heap) (N : List Str) (qual : Str) (scope : Scope) (f : Addr) (cd : Value) (A : Around) (outer : List Env) (s : Shared) (H : Hp) (E : XK) : Cx :=
  { cxOf (L2.CX P w) P w K mg base N qual scope f cd A outer s H E with calm := !hot }
theorem fun_okG {hot : Bool} {P : Program} {w : World} {K : PySem.W.Frag} {mg : Str → Option Value} {base : Heap} {x qual : Str} {st : Stmt} {f : Addr} {fd : FuncData} {N ps : List Str} {k : Nat} {sp : Sp} (F : Fun K x qual st f fd) (S : FnScope N ps (defScope st))
    (len : ∀ vs H Q E, sp vs H Q E → vs.length = ps.length)
    (hbody : ∀ (cdv : Value) (A : Around) (outer : List Env) (s : Shared) (H : Hp) (vs : List V) (Q : VK) (E : XK), Rm hot k (A.deeper (envOfC qual (defScope st) s.heap.objs.size f cdv)) → sp vs H Q E →
      ∃ t, PSs (cxG hot P w K mg base N qual (defScope st) f cdv A outer s H E) (defBody st) t ∧ t { nx := fun _ H' => Q .non H', rt := Q } (L2.start N vs) H) : FnG hot P w K mg base (k + 1) f fd ps sp := by
  obtain ⟨oc, od, kV, doc, pm, an, cdv, ct, osl, rfl, lk, hcd⟩ := F.ex
  refine ⟨len, fun A outer s H args us vs Q E hr e0 hb r hsp => ?_⟩
  have hl := len _ _ _ _ hsp
  have KX : K.In s.heap := e0.mod.kin.keeps fun b o e => (e0.bs b o e).1
  have lim : s.heap.NoLimit := e0.mod.nolimit.keeps fun b o e => (e0.bs b o e).1
  have places : ∀ y ∈ ps.zip us, (defScope st).names.lookup y.1 = some .local ∨ ((defScope st).names.lookup y.1 = some .cell ∧ ((cellsFrom (s.heap.objs.size + 1) (defScope st).names []).lookup y.1).isSome = true) := by
    rintro ⟨n, v⟩ hy
    exact (S.par n (List.of_mem_zip hy).1).imp id fun q => ⟨q, PySem.W.cellsFrom_some _ _ _ (.inl q)⟩
  refine codeAny_call_function hr.depth (KX _ _ lk) rfl S.co S.gen rfl (PySem.W.codeRec_of KX hcd) (hb _ _ _ _ (wpAny_newFunctionEnv_cells S.kind places fun env he s1 x => ?_))
  subst he
  refine ⟨lim.keeps x.toInCall.keep, codeAny_func ?_⟩
  obtain ⟨t, ht, hq⟩ := hbody cdv A outer s H vs Q E (hr.deeper _) hsp
  have I0 : hot = true ∨ hot = false := by cases hot <;> simp
  have I : Inv (cxG hot P w K mg base N qual (defScope st) f cdv A outer s H E) [] (L2.start N vs) H s1 := by
    have J := inv_start (A := { A with handled := none }) (CX := L2.CX P w) (E := E) S rfl ⟨e0.frames, e0.mod, e0.bs, e0.bsz, e0.funs, e0.frf, e0.hok, e0.bare⟩ hl r x
    refine ⟨⟨J.ok.mod, J.ok.kind, J.ok.glob, J.ok.blt, J.ok.above, J.ok.inj, J.ok.has, J.ok.cab, fun hc => ?_, Around.frames_deeper e0.frames, J.ok.stk, J.ok.exf, J.ok.bs, J.ok.bsz, J.ok.noex, J.ok.exfs, J.ok.funs, J.ok.frf⟩, J.os, J.bare, J.base, J.loc, J.cell, J.free, J.freeC, J.pin, J.hok, J.len⟩
    rcases I0 with z | z
    · subst z; exact absurd (show false = true from hc) Bool.false_ne_true
    · exact hr.hd z
  refine wpAny_mono (ht.run [] s1 (L2.start N vs) H _ I hq) (fun fl s' hs => ?_) fun e s' hs => hs
  have fin : ∀ {σ' : L2.St} {H' : Hp} {v : V} {u : Value}, Inv (cxG hot P w K mg base N qual (defScope st) f cdv A outer s H E) [] σ' H' s' → RelV v u → Q v H' → CE outer P w H s Q u s' :=
    fun {σ' H' v u} J rv q => ⟨v, H', J.os, J.bare, J.base, J.hok, rv, q⟩
  cases fl with
  | ret u => obtain ⟨v, σ', H', J, rv, q⟩ := hs; exact fin J rv q
  | next => obtain ⟨σ', H', J, q⟩ := hs; exact fin (v := V.non) (u := Value.none) J rfl q
  | brk => obtain ⟨_, _, _, q⟩ := hs; exact False.elim q
  | cont => obtain ⟨_, _, _, q⟩ := hs; exact False.elim q

/-! ### calls -/
section
variable {X : Cx} {hot : Bool} {k : Nat} {f C : Addr} {fd : FuncData} {ps ks : List Str} {sp : Sp} {W : WX} {x m : Str} {p pos apos : Pos} {e o : Expr} {es : List Expr} {kws : List Keyword} {ta : TE} {t tk' : TA} {st : Stmt} {qual : Str}
/-- a def of the module -/
structure Gd (K : PySem.W.Frag) (mg : Str → Option Value) (x : Str) (st : Stmt) (ps : List Str) (f : Addr) (fd : FuncData) : Prop where
  mg : mg x = some (.ref f)
  fn : Fun K x x st f fd
  b : Binds K fd ps []
/-- a method -/
structure Md (K : PySem.W.Frag) (C : Addr) (m qual : Str) (st : Stmt) (ps : List Str) (f : Addr) (fd : FuncData) : Prop where
  cl : Cls K C
  me : Meth K C m f
  fn : Fun K m qual st f fd
  b : Binds K fd ps []
/-- a class with its __init__ -/
structure Kd (K : PySem.W.Frag) (mg : Str → Option Value) (x : Str) (C : Addr) (qual : Str) (st : Stmt) (ps : List Str) (f : Addr) (fd : FuncData) : Prop where
  mg : mg x = some (.ref C)
  cl : Cls K C
  mkC : Mk K C f
  fn : Fun K "__init__" qual st f fd
  b : Binds K fd ps []
theorem run_g {pins : List (Addr × Obj)} {σ : L2.St} {H : Hp} {s : Shared} {Q : VK} {us as : List Value} {kw : List (Str × Value)} {vs : List V} (F : FnG hot X.prog X.w X.K X.mg X.base k f fd ps sp) (hr : Rm hot k X.A) (tk : Takes X W) (I : Inv X pins σ H s)
    (b : BindsTo s fd ⟨as, kw⟩ (ps.zip us)) (r : Vals vs us) (h : sp vs H Q fun c d H' => W c d σ H') : wpAny (model X.prog X.w) X.A (call (.ref f) as kw) (EP X pins σ Q) X.xe s := by
  refine wpAny_call (codeAny_mono (F.run X.A X.stack s H ⟨as, kw⟩ us vs Q _ hr I.env0 b r h) fun r s' hq => ?_)
  cases r with
  | error e => exact tk e s' (XE.of_call I (fun _ _ _ z => z) hq)
  | ok fl =>
    cases fl with
    | ret u => exact I.after hq
    | next => exact False.elim hq
    | brk => exact False.elim hq
    | cont => exact False.elim hq
theorem bind_g {K : PySem.W.Frag} {s : Shared} {us : List Value} {vs : List V} {H : Hp} {Q : VK} {E : XK} (len : ∀ vs H Q E, sp vs H Q E → vs.length = ps.length) (hb : Binds K fd ps []) (KI : K.In s.heap) (r : Vals vs us) (h : sp vs H Q E) : BindsTo s fd ⟨us, []⟩ (ps.zip us) := by
  have b := hb s us KI (by rw [List.append_nil, ← r.length]; exact len _ _ _ _ h)
  rw [List.append_nil] at b
  exact b
def tCl (sp : Sp) (W : WX) (t : TA) : TE := fun σ H Q => t σ H fun vs H1 => sp vs H1 Q fun c d H' => W c d σ H'
theorem q_call (G : Gd X.K X.mg x st ps f fd) (F : FnG hot X.prog X.w X.K X.mg X.base k f fd ps sp) (hr : Rm hot k X.A) (tk : Takes X W) (ha : PA X (e :: es) t) (hg : Gl X x := by rfl)
    (hdb : (x == ("__debug__" : Str)) = false := by decide) (he : starEach (e :: es) X.env = (false, eval e X.env) :: starEach es X.env := by rfl) (hpl : (backTo pos (starEach es X.env)).any (·.1) = false := by rfl) :
    PE X (.Call (.Name x p) (e :: es) [] pos) (tCl sp W t) := by
  refine ⟨fun pins s σ H Q I h => wpAny_Call_Name_kw (ld_glob I hg G.mg ?_ hdb)⟩
  refine PySem.W.callWith_K (h₀ := X.base) I.ok.mod.kin G.fn.kp (thn (ha.run pos pins s σ H _ I h) fun us s1 ⟨vs, H1, I1, r, q⟩ => ⟨I1.kIn, ?_⟩) he hpl
  exact run_g F hr tk I1 (bind_g F.len G.b I1.kIn r q) r q
/-- f() -/
theorem q_call0 (G : Gd X.K X.mg x st ps f fd) (F : FnG hot X.prog X.w X.K X.mg X.base k f fd ps sp) (hr : Rm hot k X.A) (tk : Takes X W) (hg : Gl X x := by rfl) (hdb : (x == ("__debug__" : Str)) = false := by decide) : PE X (.Call (.Name x p) [] [] pos) (tCl sp W tNil) := by
  refine ⟨fun pins s σ H Q I h => wpAny_Call_Name_kw (ld_glob I hg G.mg ?_ hdb)⟩
  exact PySem.W.callWith_K0 I.kIn G.fn.kp (run_g (us := []) F hr tk I (bind_g F.len G.b I.kIn .nil h) .nil h)
/-- o.m(..) -/
def tMt (C : Addr) (m : Str) (sp : Sp) (W : WX) (ta : TE) (t : TA) : TE := fun σ H Q => ta σ H fun x H1 => match x with
  | .ref a => (∃ dx fs, H1 a = some (.ins C dx fs) ∧ fs.lookup m = none) ∧ t σ H1 fun vs H2 => sp (.ref a :: vs) H2 Q fun c d H' => W c d σ H'
  | _ => False
theorem tMt_ref {C : Addr} {m : Str} {R : Addr → Prop} {x : V} {H1 : Hp} {S : Prop} (h : match (motive := V → Prop) x with
    | .ref a => (∃ dx fs, H1 a = some (.ins C dx fs) ∧ fs.lookup m = none) ∧ R a
    | _ => False) : ∃ a dx fs, x = .ref a ∧ H1 a = some (.ins C dx fs) ∧ fs.lookup m = none ∧ R a := by
  cases x with
  | ref a => obtain ⟨⟨dx, fs, h1, h2⟩, h3⟩ := h; exact ⟨a, dx, fs, rfl, h1, h2, h3⟩
  | _ => exact h.elim
theorem q_meth {pl : Sem Bool} (M : Md X.K C m qual st ps f fd) (F : FnG hot X.prog X.w X.K X.mg X.base k f fd ps sp) (hr : Rm hot k X.A) (tk : Takes X W) (he : PE X o ta) (ha : PA X (e :: es) t)
    (hst : starEach (e :: es) X.env = (false, eval e X.env) :: starEach es X.env := by rfl) (hpl : (backTo pos (starEach es X.env)).any (·.1) = false := by rfl)
    (ht : eval (.Call (.Attribute o m apos) (e :: es) [] pos) X.env = (do
      let ov ← eval o X.env
      standAt apos.atName
      let (f, first) ← holding [ov] (getMethod ov m pl)
      callWith pos f first (backTo pos (starEach (e :: es) X.env)) (backToKw pos (keywordEach [] X.env))) := by rfl) :
    PE X (.Call (.Attribute o m apos) (e :: es) [] pos) (tMt C m sp W ta t) := by
  refine ⟨fun pins s σ H Q I h => PySem.W.methodCall_KW (pl := pl) (thn (he.run pins s σ H _ I h) fun u s1 ⟨x, H1, I1, rx, q0⟩ => ?_) ht⟩
  obtain ⟨a, dx, fs, ex, ea, l, q⟩ := tMt_ref (S := True) q0
  subst ex
  obtain rfl : u = Value.ref a := rx
  refine getmeth_ok I1 ea M.cl M.me l (PySem.W.callWith_K (first := [.ref a]) (h₀ := X.base) I.ok.mod.kin M.me.kp (thn (ha.run pos pins s1 σ H1 _ I1 q) fun us s2 ⟨vs, H2, I2, r, q2⟩ => ⟨I2.kIn, ?_⟩) hst hpl)
  have r2 : Vals (V.ref a :: vs) (Value.ref a :: us) := .cons rfl r
  exact run_g F hr tk I2 (bind_g F.len M.b I2.kIn r2 q2) r2 q2
theorem q_meth0 {pl : Sem Bool} (M : Md X.K C m qual st ps f fd) (F : FnG hot X.prog X.w X.K X.mg X.base k f fd ps sp) (hr : Rm hot k X.A) (tk : Takes X W) (he : PE X o ta)
    (ht : eval (.Call (.Attribute o m apos) [] [] pos) X.env = (do
      let ov ← eval o X.env
      standAt apos.atName
      let (f, first) ← holding [ov] (getMethod ov m pl)
      callWith pos f first (backTo pos (starEach [] X.env)) (backToKw pos (keywordEach [] X.env))) := by rfl) :
    PE X (.Call (.Attribute o m apos) [] [] pos) (tMt C m sp W ta tNil) := by
  refine ⟨fun pins s σ H Q I h => PySem.W.methodCall_KW (pl := pl) (thn (he.run pins s σ H _ I h) fun u s1 ⟨x, H1, I1, rx, q0⟩ => ?_) ht⟩
  obtain ⟨a, dx, fs, ex, ea, l, q⟩ := tMt_ref (S := True) q0
  subst ex
  obtain rfl : u = Value.ref a := rx
  have r2 : Vals [V.ref a] [Value.ref a] := .cons rfl .nil
  exact getmeth_ok I1 ea M.cl M.me l (PySem.W.callWith_K0 (first := [.ref a]) I1.kIn M.me.kp (run_g F hr tk I1 (bind_g F.len M.b I1.kIn r2 q) r2 q))
/-- o.m(k = v, ..): keywords alone -/
def tMtK (C : Addr) (m : Str) (n : Nat) (gV : List V → List V → List V) (sp : Sp) (W : WX) (ta : TE) (t : TA) : TE := fun σ H Q => ta σ H fun x H1 => match x with
  | .ref a => (∃ dx fs, H1 a = some (.ins C dx fs) ∧ fs.lookup m = none) ∧ t σ H1 fun zs H2 => zs.length = n ∧ sp (gV [.ref a] zs) H2 Q fun c d H' => W c d σ H'
  | _ => False
theorem q_methK {pl : Sem Bool} {g : List Value → List Value → List Value} {gV : List V → List V → List V} (M : Md X.K C m qual st ps f fd) (kb : KBn X.K fd ps 1 ks g gV) (F : FnG hot X.prog X.w X.K X.mg X.base k f fd ps sp) (hr : Rm hot k X.A) (tk : Takes X W) (he : PE X o ta) (hk : PK X kws t)
    (hall : (backToKw pos (keywordEach kws X.env)).all (·.1.isSome) = true := by rfl) (hks : (backToKw pos (keywordEach kws X.env)).filterMap (·.1) = ks := by rfl)
    (hpl : ((backTo pos (starEach [] X.env)).any (·.1) || (backToKw pos (keywordEach kws X.env)).any (·.1.isNone)) = false := by rfl)
    (ht : eval (.Call (.Attribute o m apos) [] kws pos) X.env = (do
      let ov ← eval o X.env
      standAt apos.atName
      let (f, first) ← holding [ov] (getMethod ov m pl)
      callWith pos f first (backTo pos (starEach [] X.env)) (backToKw pos (keywordEach kws X.env))) := by rfl) :
    PE X (.Call (.Attribute o m apos) [] kws pos) (tMtK C m ks.length gV sp W ta t) := by
  refine ⟨fun pins s σ H Q I h => PySem.W.methodCall_KW (pl := pl) (thn (he.run pins s σ H _ I h) fun u s1 ⟨x, H1, I1, rx, q0⟩ => ?_) ht⟩
  obtain ⟨a, dx, fs, ex, ea, l, q⟩ := tMt_ref (S := True) q0
  subst ex
  obtain rfl : u = Value.ref a := rx
  refine getmeth_ok I1 ea M.cl M.me l (PySem.W.callWith_KW0 (first := [.ref a]) (h₀ := X.base) I.ok.mod.kin M.me.kp hall (thn (hk.run pos pins s1 σ H1 _ I1 q) fun ws s2 ⟨zs, H2, I2, rz, lz, q2⟩ => ⟨I2.kIn, ?_⟩) hpl)
  rw [hks]
  have r1 : Vals [V.ref a] [Value.ref a] := .cons rfl .nil
  exact run_g F hr tk I2 (kb.to s2 [.ref a] ws I2.kIn rfl (by rw [← rz.length]; exact lz)) (kb.rel r1 rz) q2
/-- C(..) -/
def tMk (C : Addr) (sp : Sp) (W : WX) (t : TA) : TE := fun σ H Q => t σ H fun vs H1 => ∀ x dx, H1 x = none → H1 dx = none → dx ≠ x →
  sp (.ref x :: vs) (upd (upd H1 dx (.own x)) x (.ins C dx [])) (fun v H2 => v = .non ∧ Q (.ref x) H2) fun c d H' => W c d σ H'
theorem run_mk {pins : List (Addr × Obj)} {σ : L2.St} {H : Hp} {s : Shared} {Q : VK} {us : List Value} {kw : List (Str × Value)} (M : Mk X.K C f) (F : FnG hot X.prog X.w X.K X.mg X.base k f fd ps sp) (hr : Rm hot (k + 1) X.A) (tk : Takes X W) (I : Inv X pins σ H s)
    {gs : Value → List Value} {gv : V → List V} (b : ∀ (s : Shared) (a : Addr), X.K.In s.heap → BindsTo s fd ⟨.ref a :: us, kw⟩ (ps.zip (gs (.ref a)))) (r : ∀ a, Vals (gv (.ref a)) (gs (.ref a)))
    (h : ∀ x dx, H x = none → H dx = none → dx ≠ x → sp (gv (.ref x)) (upd (upd H dx (.own x)) x (.ins C dx [])) (fun v H2 => v = .non ∧ Q (.ref x) H2) fun c d H' => W c d σ H') :
    wpAny (model X.prog X.w) X.A (call (.ref C) us kw) (EP X pins σ Q) X.xe s := by
  have hq := h (s.heap.objs.size + 1) s.heap.objs.size (I.hok.fresh (Nat.le_succ _)) (I.hok.fresh (Nat.le_refl _)) (Nat.ne_of_lt (Nat.lt_succ_self _))
  have I2 := Inv.made (C := C) I
  refine wpAny_call (make_map (f := f) I.kIn M.makes M.init (beq_iff_eq.mp M.fn) (codeAny_mono (F.run _ X.stack _ _ ⟨Value.ref (s.heap.objs.size + 1) :: us, kw⟩ _ _ _ _ (hr.make C us kw)
    (I2.env0.make C us kw) (b _ _ I2.kIn) (r _) hq) fun r s' hq' => ?_))
  cases r with
  | error e => exact tk e s' (XE.of_call I2 (fun _ _ _ z => z) hq')
  | ok fl =>
    cases fl with
    | ret u =>
      obtain ⟨v, H', I3, rv, ev, q3⟩ := I2.after hq'
      subst ev
      exact ⟨rv, ⟨V.ref (s.heap.objs.size + 1), H', I3, rfl, q3⟩⟩
    | next => exact False.elim hq'
    | brk => exact False.elim hq'
    | cont => exact False.elim hq'
theorem q_make (M : Kd X.K X.mg x C qual st ps f fd) (hp : ps.length = es.length + 2) (F : FnG hot X.prog X.w X.K X.mg X.base k f fd ps sp) (hr : Rm hot (k + 1) X.A) (tk : Takes X W) (ha : PA X (e :: es) t) (hg : Gl X x := by rfl)
    (hdb : (x == ("__debug__" : Str)) = false := by decide) (he : starEach (e :: es) X.env = (false, eval e X.env) :: starEach es X.env := by rfl) (hpl : (backTo pos (starEach es X.env)).any (·.1) = false := by rfl) :
    PE X (.Call (.Name x p) (e :: es) [] pos) (tMk C sp W t) := by
  refine ⟨fun pins s σ H Q I h => wpAny_Call_Name_kw (ld_glob I hg M.mg ?_ hdb)⟩
  refine PySem.W.callWith_K (h₀ := X.base) I.ok.mod.kin M.mkC.kp (thn (ha.run pos pins s σ H _ I h) fun us s1 ⟨vs, H1, I1, r, q⟩ => ⟨I1.kIn, ?_⟩) he hpl
  refine run_mk (gs := fun a => a :: us) (gv := fun a => a :: vs) M.mkC F hr tk I1 (fun s a KI => ?_) (fun a => .cons rfl r) q
  have q1 := F.len _ _ _ _ (q (s1.heap.objs.size + 1) s1.heap.objs.size (I1.hok.fresh (Nat.le_succ _)) (I1.hok.fresh (Nat.le_refl _)) (Nat.ne_of_lt (Nat.lt_succ_self _)))
  have b := M.b s (.ref a :: us) KI (by rw [List.append_nil, List.length_cons, ← r.length]; exact q1)
  rw [List.append_nil] at b
  exact b
/-- C(k = v, ..) -/
def tMkK (C : Addr) (n : Nat) (gV : List V → List V → List V) (sp : Sp) (W : WX) (t : TA) : TE := fun σ H Q => t σ H fun zs H1 => zs.length = n ∧ ∀ x dx, H1 x = none → H1 dx = none → dx ≠ x →
  sp (gV [.ref x] zs) (upd (upd H1 dx (.own x)) x (.ins C dx [])) (fun v H2 => v = .non ∧ Q (.ref x) H2) fun c d H' => W c d σ H'
theorem q_makeK {g : List Value → List Value → List Value} {gV : List V → List V → List V} (M : Kd X.K X.mg x C qual st ps f fd) (kb : KBn X.K fd ps 1 ks g gV) (F : FnG hot X.prog X.w X.K X.mg X.base k f fd ps sp) (hr : Rm hot (k + 1) X.A) (tk : Takes X W) (hk : PK X kws t) (hg : Gl X x := by rfl)
    (hall : (backToKw pos (keywordEach kws X.env)).all (·.1.isSome) = true := by rfl) (hks : (backToKw pos (keywordEach kws X.env)).filterMap (·.1) = ks := by rfl) (hdb : (x == ("__debug__" : Str)) = false := by decide)
    (hpl : ((backTo pos (starEach [] X.env)).any (·.1) || (backToKw pos (keywordEach kws X.env)).any (·.1.isNone)) = false := by rfl) :
    PE X (.Call (.Name x p) [] kws pos) (tMkK C ks.length gV sp W t) := by
  refine ⟨fun pins s σ H Q I h => wpAny_Call_Name_kw (ld_glob I hg M.mg ?_ hdb)⟩
  refine PySem.W.callWith_KW0 (h₀ := X.base) I.ok.mod.kin M.mkC.kp hall (thn (hk.run pos pins s σ H _ I h) fun ws s2 ⟨zs, H2, I2, rz, l2, q2⟩ => ⟨I2.kIn, ?_⟩) hpl
  rw [hks]
  exact run_mk (gs := fun a => g [a] ws) (gv := fun a => gV [a] zs) M.mkC F hr tk I2 (fun s a KI => kb.to s [.ref a] ws KI rfl (by rw [← rz.length]; exact l2)) (fun a => kb.rel (.cons rfl .nil) rz) q2
/-- how keywords come to a def's parameters -/
theorem fun_kbn {K : PySem.W.Frag} {n : Nat} {g : List Value → List Value → List Value} {gV : List V → List V → List V} (F : Fun K x qual st f fd)
    (h : ∀ (kV doc pm : Value) (an : Option Addr) (cdv ct : Value) (us ws : List Value), us.length = n → ws.length = ks.length → bindArgs (PySem.W.fnOf x qual (defArgs st) (defBody st) (defScope st) .none kV doc pm an cdv ct) ⟨us, ks.zip ws⟩ = pure (ps.zip (g us ws)))
    (rel : ∀ {vs : List V} {us : List Value} {zs : List V} {ws : List Value}, Vals vs us → Vals zs ws → Vals (gV vs zs) (g us ws)) : KBn K fd ps n ks g gV := by
  obtain ⟨oc, od, kV, doc, pm, an, cdv, ct, osl, rfl, lk, hcd⟩ := F.ex
  exact ⟨fun s us ws KI l1 l2 => .of_eq (h kV doc pm an cdv ct us ws l1 l2), rel⟩
end
end Ks

/-! KsC: operators, built-ins, subscripts by the values. -/
namespace Ks
open PySem PySem.Spec PyProof.Rows L2
theorem unLe {X : Cx} {f : Value → Sem Value} {r r' : V → Hp → VK → Prop} (h : UnR X f r) (i : ∀ x H Q, r' x H Q → r x H Q) : UnR X f r' := fun pins s σ H x v Q I rx q => h pins s σ H x v Q I rx (i x H Q q)
theorem ixLe {X : Cx} {r r' : R2} (h : IxR X r) (i : ∀ x y H Q, r' x y H Q → r x y H Q) : IxR X r' := fun value slice pins s σ H x y v u Q I rx ry q hs => h value slice pins s σ H x y v u Q I rx ry (i x y H Q q) hs
theorem mtLe {X : Cx} {id : String} {r r' : V → List V → Hp → VK → Prop} (h : MtR X id r) (i : ∀ x xs H Q, r' x xs H Q → r x xs H Q) : MtR X id r' := fun pins s σ H x xs v us Q I rx ry q => h pins s σ H x xs v us Q I rx ry (i x xs H Q q)
section
variable {X : Cx}
/-- two ints to a value, under C -/
def rII (C : Int → Int → Prop) (g : Int → Int → V) : R2 := fun x y H Q => match x, y with
  | .int i, .int j => C i j ∧ Q (g i j) H
  | _, _ => False
def rI2 (g : Int → Int → V) : R2 := fun x y H Q => match x, y with
  | .int i, .int j => Q (g i j) H
  | _, _ => False
theorem rI2_le {g : Int → Int → V} {x y : V} {H : Hp} {Q : VK} (h : rI2 g x y H Q) : rI0 g x y H Q := by
  cases x with
  | int i =>
    cases y with
    | int j => exact ⟨i, j, rfl, rfl, h⟩
    | _ => exact (show False from h).elim
  | _ => exact (show False from h).elim
theorem rII_le {C : Int → Int → Prop} {g : Int → Int → V} {x y : V} {H : Hp} {Q : VK} (h : rII C g x y H Q) : rI C g x y H Q := by
  cases x with
  | int i =>
    cases y with
    | int j => exact ⟨i, j, rfl, rfl, h.1, h.2⟩
    | _ => exact (show False from h).elim
  | _ => exact (show False from h).elim
theorem o_sub : OpR X (binaryOp .Sub) (rI2 fun i j => .int (i - j)) := opLe op_sub fun _ _ _ _ h => rI2_le h
theorem o_mod : OpR X (binaryOp .Mod) (rII (fun _ j => 0 < j) fun i j => .int (i % j)) := opLe op_mod fun _ _ _ _ h => rII_le h
theorem o_fdiv : OpR X (binaryOp .FloorDiv) (rII CDiv fun i j => .int (i / j)) := opLe op_fdiv fun _ _ _ _ h => rII_le h
theorem o_pow : OpR X (binaryOp .Pow) (rII CPow fun i j => .int (i ^ j.toNat)) := opLe op_pow fun _ _ _ _ h => rII_le h
theorem o_add : OpR X (binaryOp .Add) rAddD := op_addD
/-- x * y -/
def rMul : R2 := fun x y H Q => match x, y with
  | .int i, .int j => CMul i j ∧ Q (.int (i * j)) H
  | .str a, .int n => MulOk a n ∧ Q (.str (Txt.mul a n)) H
  | .ref a, .int k => ∃ xs, H a = some (.lst xs) ∧ (-(2 ^ 63) ≤ k ∧ k < 2 ^ 63 ∧ xs.length * k.toNat ≤ sizeLine) ∧ ∀ p, H p = none → Q (.ref p) (upd H p (.lst (List.replicate k.toNat xs).flatten))
  | _, _ => False
theorem o_mul : OpR X (binaryOp .Mult) rMul := by
  intro pins s σ H x y v u Q I rx ry h
  cases x with
  | int i =>
    cases y with
    | int j => exact op_mul pins s σ H _ _ v u Q I rx ry ⟨i, j, rfl, rfl, h.1, h.2⟩
    | _ => exact (show False from h).elim
  | str a =>
    cases y with
    | int j =>
      obtain ⟨t, rfl⟩ := rx
      obtain ⟨t', rfl⟩ := ry
      exact SB.mul h.1 fun t' k => ⟨.str _, H, I.tok k, ⟨_, rfl⟩, h.2⟩
    | _ => exact (show False from h).elim
  | ref a =>
    cases y with
    | int b =>
      obtain ⟨xs, h1, ⟨h2, h3, h4⟩, h5⟩ := h
      exact op_rep pins s σ H _ _ v u Q I rx ry ⟨a, b, xs, rfl, rfl, h1, h2, h3, h4, h5⟩
    | _ => exact (show False from h).elim
  | _ => exact (show False from h).elim

/-! ### comparisons -/
def rCmp (g : Int → Int → Bool) (s : List Nat → List Nat → Bool) : R2 := fun x y H Q => match x, y with
  | .int i, .int j => Q (.bl (g i j)) H
  | .str a, .str b => Q (.bl (s a.cps.toList b.cps.toList)) H
  | _, _ => False
theorem rCmp_le {f : Value → Value → Sem Value} {g : Int → Int → Bool} {s : List Nat → List Nat → Bool} (h1 : OpR X f (rI0 fun i j => .bl (g i j))) (h2 : OpR X f (fun x y H Q => ∃ i j, x = .str i ∧ y = .str j ∧ Q (.bl (s i.cps.toList j.cps.toList)) H)) : OpR X f (rCmp g s) := by
  intro pins s0 σ H x y v u Q I rx ry h
  cases x with
  | int i =>
    cases y with
    | int j => exact h1 pins s0 σ H _ _ v u Q I rx ry ⟨i, j, rfl, rfl, h⟩
    | _ => exact (show False from h).elim
  | str a =>
    cases y with
    | str b => exact h2 pins s0 σ H _ _ v u Q I rx ry ⟨a, b, rfl, rfl, h⟩
    | _ => exact (show False from h).elim
  | _ => exact (show False from h).elim
theorem o_lt : OpR X (compareOp .Lt) (rCmp (fun i j => decide (i < j)) fun a b => decide (a < b)) := rCmp_le op_lt op_lt_str
theorem o_le : OpR X (compareOp .LtE) (rCmp (fun i j => decide (i ≤ j)) fun a b => !decide (b < a)) := rCmp_le op_le op_le_str
theorem o_gt : OpR X (compareOp .Gt) (rCmp (fun i j => decide (j < i)) fun a b => decide (b < a)) := rCmp_le op_gt op_gt_str
theorem o_ge : OpR X (compareOp .GtE) (rCmp (fun i j => decide (j ≤ i)) fun a b => !decide (a < b)) := rCmp_le op_ge op_ge_str
/-- == of scalars; of what a ref is in, as data -/
def isR : V → Bool
  | .ref _ => true
  | _ => false
def rEqA (K : PySem.W.Frag) : R2 := fun x y H Q => if isR x || isR y then rEqD K x y H Q else rEq x y H Q
def rNeA (K : PySem.W.Frag) : R2 := fun x y H Q => if isR x || isR y then rNeD K x y H Q else rNe x y H Q
theorem o_eq (hu : X.A.units + 64 < cLine) : OpR X (compareOp .Eq) (rEqA X.K) := by
  intro pins s σ H x y v u Q I rx ry h
  unfold rEqA at h
  split at h
  · exact op_eqD hu pins s σ H x y v u Q I rx ry h
  · exact op_eq pins s σ H x y v u Q I rx ry h
theorem o_ne (hu : X.A.units + 64 < cLine) : OpR X (compareOp .NotEq) (rNeA X.K) := by
  intro pins s σ H x y v u Q I rx ry h
  unfold rNeA at h
  split at h
  · exact op_neD hu pins s σ H x y v u Q I rx ry h
  · exact op_ne pins s σ H x y v u Q I rx ry h
/-- is None -/
def rIs (n : Bool) : R2 := fun x y H Q => y = .non ∧ Q (.bl (n != decide (x = .non))) H
theorem o_is : OpR X (compareOp .Is) (rIs false) := opLe op_isN fun x y H Q h => ⟨h.1, by have := h.2; rw [show (false != decide (x = V.non)) = decide (x = V.non) by simp] at this; exact this⟩
theorem o_isN : OpR X (compareOp .IsNot) (rIs true) := opLe op_notN fun x y H Q h => ⟨h.1, by have := h.2; rw [show (true != decide (x = V.non)) = !decide (x = V.non) by simp] at this; exact this⟩

/-! ### subscripts -/
/-- xs[i], t[i], s[i] -/
def rIxD : R2 := fun x y H Q => match x, y with
  | .ref p, .int i => ∃ o, H p = some o ∧ (match o with
    | .lst xs => ∃ v, atI xs i = some v ∧ Q v H
    | .tup xs => ∃ v, atI xs i = some v ∧ Q v H
    | .frz _ (.lst xs) => ∃ v, atI xs i = some v ∧ Q v H
    | _ => False)
  | .str z, .int i => z.length ≤ sizeLine ∧ ∃ c, atI z.cps.toList i = some c ∧ Q (.str ⟨#[c]⟩) H
  | _, _ => False
theorem ix_d : IxR X rIxD := ixLe ix_seq fun x y H Q h => by
  cases x with
  | ref p =>
    cases y with
    | int i =>
      obtain ⟨o, ho, h⟩ := h
      cases o with
      | lst xs =>
        obtain ⟨v, h1, h2⟩ := h
        exact .inl ⟨p, xs, i, v, rfl, rfl, SqL.of ho, h1, h2⟩
      | tup xs =>
        obtain ⟨v, h1, h2⟩ := h
        exact .inr (.inl ⟨p, xs, i, v, rfl, rfl, SqT.of ho, h1, h2⟩)
      | frz ob u =>
        cases u with
        | lst xs =>
          obtain ⟨v, h1, h2⟩ := h
          exact .inl ⟨p, xs, i, v, rfl, rfl, .inl (.inr ⟨_, ho⟩), h1, h2⟩
        | _ => exact (show False from h).elim
      | _ => exact (show False from h).elim
    | _ => exact (show False from h).elim
  | str z =>
    cases y with
    | int i =>
      obtain ⟨h0, c, h1, h2⟩ := h
      exact .inr (.inr ⟨z, i, c, rfl, rfl, h0, h1, h2⟩)
    | _ => exact (show False from h).elim
  | _ => exact (show False from h).elim
/-- o[i] = e -/
def rSetD : TSet := fun o i v H Q => match o, i with
  | .ref p, .int k => ∃ xs j, H p = some (.lst xs) ∧ ixN xs.length k = some j ∧ Q (upd H p (.lst (xs.set j v)))
  | _, _ => False
theorem set_d : PSet X rSetD := by
  intro pins s σ H o i v ov iv u Q I ro ri rv h
  cases o with
  | ref p =>
    cases i with
    | int k =>
      obtain ⟨xs, j, h1, h2, h3⟩ := h
      exact set_list pins s σ H _ _ v ov iv u Q I ro ri rv ⟨p, xs, k, j, rfl, rfl, h1, h2, h3⟩
    | _ => exact (show False from h).elim
  | _ => exact (show False from h).elim
/-- xs[a:b], s[a:b] -/
def rSlD : V → Option Int → Option Int → Hp → VK → Prop := fun x lo hi H Q => match x with
  | .ref p => ∃ o, H p = some o ∧ (match o with
    | .lst xs => ∀ q, H q = none → Q (.ref q) (upd H q (.lst (cutV xs lo hi)))
    | .frz _ (.lst xs) => ∀ q, H q = none → Q (.ref q) (upd H q (.lst (cutV xs lo hi)))
    | _ => False)
  | .str z => z.length ≤ sizeLine ∧ Q (.str (cutS z lo hi)) H
  | _ => False
theorem sl_d : SlR X rSlD := by
  intro pins s σ H x v vl vu lo hi sl Q I rx hs pl pu h
  cases x with
  | ref p =>
    obtain ⟨ob, ho, h⟩ := h
    cases ob with
    | lst xs => exact sl_list pins s σ H _ v vl vu lo hi sl Q I rx hs pl pu ⟨p, xs, rfl, SqL.of ho, h⟩
    | frz ob u =>
      cases u with
      | lst xs => exact sl_list pins s σ H _ v vl vu lo hi sl Q I rx hs pl pu ⟨p, xs, rfl, .inl (.inr ⟨_, ho⟩), h⟩
      | _ => exact (show False from h).elim
    | _ => exact (show False from h).elim
  | str z => exact sl_str pins s σ H _ v vl vu lo hi sl Q I rx hs pl pu ⟨z, rfl, h.1, h.2⟩
  | _ => exact (show False from h).elim

/-! ### built-ins -/
/-- one argument -/
def r1D (k : V → Hp → VK → Prop) : List V → Hp → VK → Prop := fun xs H Q => match xs with
  | [x] => k x H Q
  | _ => False
theorem cr1 {f : Value} {r : List V → Hp → VK → Prop} {k : V → Hp → VK → Prop} (h : CallR X f r) (i : ∀ x H Q, k x H Q → r [x] H Q) : CallR X f (r1D k) := crLe h fun xs H Q q => by
  match xs, q with
  | [x], q => exact i x H Q q
def kLen : V → Hp → VK → Prop := fun x H Q => match x with
  | .ref p => ∃ o, H p = some o ∧ (match o with
    | .lst xs => Q (.int (xs.length : Nat)) H
    | .tup xs => Q (.int (xs.length : Nat)) H
    | .frz _ (.lst xs) => Q (.int (xs.length : Nat)) H
    | _ => False)
  | .str z => z.length ≤ sizeLine ∧ Q (.int (z.length : Nat)) H
  | _ => False
theorem c_len : CallR X (.builtin "len") (r1D kLen) := cr1 (call_len_seq.or call_len_str) fun x H Q h => by
  cases x with
  | ref p =>
    obtain ⟨o, ho, h⟩ := h
    cases o with
    | lst xs => exact .inl ⟨p, xs, rfl, .inl (SqL.of ho), h⟩
    | tup xs => exact .inl ⟨p, xs, rfl, .inr (SqT.of ho), h⟩
    | frz ob u =>
      cases u with
      | lst xs => exact .inl ⟨p, xs, rfl, .inl (.inl (.inr ⟨_, ho⟩)), h⟩
      | _ => exact (show False from h).elim
    | _ => exact (show False from h).elim
  | str z => exact .inr ⟨z, rfl, h.1, h.2⟩
  | _ => exact (show False from h).elim
def kInt (g : Int → V) : V → Hp → VK → Prop := fun x H Q => match x with
  | .int i => Q (g i) H
  | _ => False
theorem c_abs : CallR X (.builtin "abs") (r1D (kInt fun i => .int (i.natAbs : Nat))) := cr1 call_abs fun x H Q h => by
  cases x with
  | int i =>
    refine ⟨i, rfl, ?_⟩
    have e : (if i < 0 then -i else i) = ((i.natAbs : Nat) : Int) := by split <;> omega
    rw [e]; exact h
  | _ => exact (show False from h).elim
theorem c_int : CallR X (.type "int") (r1D (kInt fun i => .int i)) := cr1 call_int1 fun x H Q h => by
  cases x with
  | int i => exact .inl ⟨i, rfl, h⟩
  | _ => exact (show False from h).elim
def kStr : V → Hp → VK → Prop := fun x H Q => match x with
  | .int i => i.natAbs.log2 < 1920 ∧ Q (.str (toString i)) H
  | _ => False
theorem c_str : CallR X (.type "str") (r1D kStr) := cr1 call_str_int fun x H Q h => by
  cases x with
  | int i => exact ⟨i, rfl, h.1, h.2⟩
  | _ => exact (show False from h).elim
/-- list(x), tuple(x) of a list or a tuple -/
def kList : V → Hp → VK → Prop := fun x H Q => match x with
  | .ref p => ∃ o, H p = some o ∧ (match o with
    | .lst xs => ∀ l, H l = none → Q (.ref l) (upd H l (.lst xs))
    | .tup xs => ∀ l, H l = none → Q (.ref l) (upd H l (.lst xs))
    | _ => False)
  | _ => False
theorem c_list : CallR X (.type "list") (r1D kList) := cr1 call_list_of fun x H Q h => by
  cases x with
  | ref p =>
    obtain ⟨o, ho, h⟩ := h
    cases o with
    | lst xs => exact ⟨p, xs, rfl, .inl (SqL.of ho), h⟩
    | tup xs => exact ⟨p, xs, rfl, .inr (SqT.of ho), h⟩
    | _ => exact (show False from h).elim
  | _ => exact (show False from h).elim
def kTuple : V → Hp → VK → Prop := fun x H Q => match x with
  | .ref p => ∃ xs, H p = some (.lst xs) ∧ ∀ l, H l = none → Q (.ref l) (upd H l (.tup xs))
  | _ => False
theorem c_tuple : CallR X (.type "tuple") (r1D kTuple) := cr1 call_tuple_of fun x H Q h => by
  cases x with
  | ref p =>
    obtain ⟨xs, ho, h⟩ := h
    exact ⟨p, xs, rfl, .inl ⟨SqL.of ho, h⟩⟩
  | _ => exact (show False from h).elim
/-- all of a list of bools -/
def kAll : V → Hp → VK → Prop := fun x H Q => match x with
  | .ref p => ∃ bs : List Bool, H p = some (.lst (bs.map V.bl)) ∧ Q (.bl (bs.all id)) H
  | _ => False
theorem c_all (hc : X.calm = true) : CallR X (.builtin "all") (r1D kAll) := cr1 (cr_all hc) fun x H Q h => by
  cases x with
  | ref p =>
    obtain ⟨bs, ho, h⟩ := h
    exact ⟨p, bs, rfl, SqL.of ho, h⟩
  | _ => exact (show False from h).elim
/-- sum of a list of ints -/
def kSum : V → Hp → VK → Prop := fun x H Q => match x with
  | .ref p => ∃ ns : List Int, H p = some (.lst (ns.map V.int)) ∧ Q (.int ns.sum) H
  | _ => False
theorem c_sum (hc : X.calm = true) : CallR X (.builtin "sum") (r1D kSum) := cr1 (cr_sum hc) fun x H Q h => by
  cases x with
  | ref p =>
    obtain ⟨ns, ho, h⟩ := h
    exact ⟨p, ns, rfl, SqL.of ho, h⟩
  | _ => exact (show False from h).elim
/-- max, min of two ints -/
def r2D (g : Int → Int → Int) : List V → Hp → VK → Prop := fun xs H Q => match xs with
  | [.int i, .int j] => Q (.int (g i j)) H
  | _ => False
theorem c_max (hc : X.calm = true) : CallR X (.builtin "max") (r2D fun i j => max i j) := crLe (call_max2 hc) fun xs H Q q => by
  match xs, q with
  | [.int i, .int j], q =>
    refine ⟨i, j, rfl, ?_⟩
    rw [show (if j > i then j else i) = max i j by split <;> omega]; exact q
theorem c_min (hc : X.calm = true) : CallR X (.builtin "min") (r2D fun i j => min i j) := crLe (call_min2 hc) fun xs H Q q => by
  match xs, q with
  | [.int i, .int j], q =>
    refine ⟨i, j, rfl, ?_⟩
    rw [show (if j < i then j else i) = min i j by split <;> omega]; exact q

/-! ### methods of lists and texts -/
def rApp : V → List V → Hp → VK → Prop := fun x vs H Q => match x, vs with
  | .ref l, [y] => ∃ xs, H l = some (.lst xs) ∧ xs.length < sizeLine ∧ Q .non (upd H l (.lst (xs ++ [y])))
  | _, _ => False
theorem m_append : MtR X "list.append" rApp := mtLe mt_append fun x vs H Q q => by
  match x, vs, q with
  | .ref l, [y], ⟨xs, h1, h2, h3⟩ => exact ⟨l, xs, y, rfl, rfl, h1, h2, h3⟩
def rL0 (g : List V → List V) : V → List V → Hp → VK → Prop := fun x vs H Q => match x, vs with
  | .ref l, [] => ∃ xs, H l = some (.lst xs) ∧ Q .non (upd H l (.lst (g xs)))
  | _, _ => False
theorem m_clear : MtR X "list.clear" (rL0 fun _ => []) := mtLe mt_clear fun x vs H Q q => by
  match x, vs, q with
  | .ref l, [], ⟨xs, h1, h2⟩ => exact ⟨l, xs, rfl, rfl, h1, h2⟩
theorem m_reverse : MtR X "list.reverse" (rL0 List.reverse) := mtLe mt_reverse fun x vs H Q q => by
  match x, vs, q with
  | .ref l, [], ⟨xs, h1, h2⟩ => exact ⟨l, xs, rfl, rfl, h1, h2⟩
def rIns : V → List V → Hp → VK → Prop := fun x vs H Q => match x, vs with
  | .ref l, [.int i, y] => ∃ xs, H l = some (.lst xs) ∧ (xs.length < sizeLine ∧ 0 ≤ i ∧ i < 2 ^ 63) ∧ Q .non (upd H l (.lst (xs.take i.toNat ++ [y] ++ xs.drop i.toNat)))
  | _, _ => False
theorem m_insert : MtR X "list.insert" rIns := mtLe mt_insert fun x vs H Q q => by
  match x, vs, q with
  | .ref l, [.int i, y], ⟨xs, h1, ⟨h2, h3, h4⟩, h5⟩ => exact ⟨l, xs, i, y, rfl, rfl, h1, h2, h3, h4, h5⟩
/-- "sep".join(xs) -/
def rJoin : V → List V → Hp → VK → Prop := fun x vs H Q => match x, vs with
  | .str a, [.ref p] => ∃ ys : List Str, H p = some (.lst (ys.map V.str)) ∧ (ys.map (·.length)).sum + ys.length * a.length ≤ 16777216 ∧ Q (.str (Txt.join a ys)) H
  | _, _ => False
theorem m_join : MtR X "str.join" rJoin := mtLe mt_join fun x vs H Q q => by
  match x, vs, q with
  | .str a, [.ref p], ⟨ys, h1, h2, h3⟩ => exact ⟨a, p, ys, rfl, rfl, .inl (SqL.of h1), h2, h3⟩
/-- a method of a list that is tracked -/
def tLm (r : V → List V → Hp → VK → Prop) (to : TE) (t : TA) : TE := fun σ H Q => to σ H fun x H1 => match x with
  | .ref l => (∃ xs, H1 l = some (.lst xs)) ∧ t σ H1 fun vs H2 => r (.ref l) vs H2 Q
  | _ => False
/-- a method of a text -/
def tSm (r : V → List V → Hp → VK → Prop) (to : TE) (t : TA) : TE := fun σ H Q => to σ H fun x H1 => match x with
  | .str z => t σ H1 fun vs H2 => r (.str z) vs H2 Q
  | _ => False
variable {o e : Expr} {es : List Expr} {to : TE} {t : TA} {name : Str} {apos cpos : Pos} {id T : String} {r : V → List V → Hp → VK → Prop}
theorem lm_of {x : V} {H1 : Hp} {R : Addr → Prop} (h : match (motive := V → Prop) x with
    | .ref l => (∃ xs, H1 l = some (.lst xs)) ∧ R l
    | _ => False) : ∃ l xs, x = .ref l ∧ H1 l = some (.lst xs) ∧ R l := by
  cases x with
  | ref l => obtain ⟨⟨xs, h1⟩, h2⟩ := h; exact ⟨l, xs, rfl, h1, h2⟩
  | _ => exact h.elim
theorem sm_of {x : V} {R : Str → Prop} (h : match (motive := V → Prop) x with
    | .str z => R z
    | _ => False) : ∃ z, x = .str z ∧ R z := by
  cases x with
  | str z => exact ⟨z, rfl, h⟩
  | _ => exact h.elim
theorem q_lm (slot : Slot "list" name id) (hty : typeOf (.builtin id) = pure (.type "method_descriptor")) (hm : MtR X id r) (ho : PE X o to) (ha : PA X (e :: es) t)
    (hbase : attributeBase o name X.env (eval o X.env) = eval o X.env := by rfl)
    (hfew : ((backTo cpos (starEach (e :: es) X.env)).all (fun x => !x.1) && (backToKw cpos (keywordEach [] X.env)).all (fun x => x.1.isSome)
      && decide ((e :: es).length + ([] : List Keyword).length + (if ([] : List Keyword).isEmpty then 0 else 1) < 30)) = true := by rfl)
    (hline : (apos.endLine == cpos.line) = true := by rfl) (hs : starEach (e :: es) X.env = (false, eval e X.env) :: starEach es X.env := by rfl) (hplain : (backTo cpos (starEach es X.env)).any (·.1) = false := by rfl) :
    PE X (.Call (.Attribute o name apos) (e :: es) [] cpos) (tLm r to t) := by
  refine ⟨fun pins s σ H Q I h => wpAny_Call_method_late hbase hfew hline rfl (thn (ho.run pins s σ H _ I h) fun v s1 ⟨x, H1, I1, r1, q0⟩ => ?_)⟩
  obtain ⟨l, xs, ex, hl, q1⟩ := lm_of q0
  subst ex
  obtain ⟨h1, h2⟩ := tyV_is (T := "list") I1 r1 (Or.inl ⟨rfl, xs, SqL.of hl⟩)
  refine ⟨"list", id, PySem.F.plainAttrs_list, slot, hty, h1, h2, ?_⟩
  have hA := ha.run cpos pins s1 σ H1 _ I1 q1
  rw [hs] at hA ⊢
  refine Calls.callWith_builtin (by show (false || (backTo cpos (starEach es X.env)).any (·.1)) = false; rw [hplain] <;> rfl) (Calls.evalArgs_plain (thn hA fun us s2 ⟨vs, H2, I2, r2, q2⟩ => hm pins s2 σ H2 _ vs v us Q I2 r1 r2 q2))
theorem q_sm (slot : Slot "str" name id) (hty : typeOf (.builtin id) = pure (.type "method_descriptor")) (hm : MtR X id r) (ho : PE X o to) (ha : PA X (e :: es) t)
    (hbase : attributeBase o name X.env (eval o X.env) = eval o X.env := by rfl)
    (hfew : ((backTo cpos (starEach (e :: es) X.env)).all (fun x => !x.1) && (backToKw cpos (keywordEach [] X.env)).all (fun x => x.1.isSome)
      && decide ((e :: es).length + ([] : List Keyword).length + (if ([] : List Keyword).isEmpty then 0 else 1) < 30)) = true := by rfl)
    (hline : (apos.endLine == cpos.line) = true := by rfl) (hs : starEach (e :: es) X.env = (false, eval e X.env) :: starEach es X.env := by rfl) (hplain : (backTo cpos (starEach es X.env)).any (·.1) = false := by rfl) :
    PE X (.Call (.Attribute o name apos) (e :: es) [] cpos) (tSm r to t) := by
  refine ⟨fun pins s σ H Q I h => wpAny_Call_method_late hbase hfew hline rfl (thn (ho.run pins s σ H _ I h) fun v s1 ⟨x, H1, I1, r1, q0⟩ => ?_)⟩
  obtain ⟨z, ex, q1⟩ := sm_of q0
  subst ex
  obtain ⟨h1, h2⟩ := tyV_is (T := "str") I1 r1 (show tyV X.K "str" (.str z) H1 from rfl)
  refine ⟨"str", id, PySem.F.plainAttrs_str, slot, hty, h1, h2, ?_⟩
  have hA := ha.run cpos pins s1 σ H1 _ I1 q1
  rw [hs] at hA ⊢
  refine Calls.callWith_builtin (by show (false || (backTo cpos (starEach es X.env)).any (·.1)) = false; rw [hplain] <;> rfl) (Calls.evalArgs_plain (thn hA fun us s2 ⟨vs, H2, I2, r2, q2⟩ => hm pins s2 σ H2 _ vs v us Q I2 r1 r2 q2))
theorem q_lm0 (slot : Slot "list" name id) (hty : typeOf (.builtin id) = pure (.type "method_descriptor")) (hm : MtR X id r) (ho : PE X o to)
    (hbase : attributeBase o name X.env (eval o X.env) = eval o X.env := by rfl) (hline : (apos.endLine == cpos.line) = true := by rfl) : PE X (.Call (.Attribute o name apos) [] [] cpos) (tLm r to tNil) := by
  refine ⟨fun pins s σ H Q I h => wpAny_Call_method0_late hbase hline (thn (ho.run pins s σ H _ I h) fun v s1 ⟨x, H1, I1, r1, q0⟩ => ?_)⟩
  obtain ⟨l, xs, ex, hl, q1⟩ := lm_of q0
  subst ex
  obtain ⟨h1, h2⟩ := tyV_is (T := "list") I1 r1 (Or.inl ⟨rfl, xs, SqL.of hl⟩)
  exact ⟨"list", id, PySem.F.plainAttrs_list, slot, hty, h1, h2, Calls.callWith_builtin rfl (PySem.evalArgs_none (hm pins s1 σ H1 _ [] v [] Q I1 r1 .nil q1))⟩
end
end Ks

/-! KsX: own errors over a parent error of the text: made with what was given, raised, caught, held and handed on. -/
namespace Ks
open PySem PySem.Spec PyProof.Rows L2 PySem.W
/-- what stands behind an own error's parent -/
abbrev exTail : List Value := [.type "Exception", .type "BaseException", .type "object"]
/-- an error's class at C, its parent at CE -/
structure EcC (K : Frag) (CE C : Addr) : Prop where
  cls : ∃ nm q N bs sn sub ab col dd k0 k1 k2 k3 k5, K.lookup C = some (excClassObj nm q C N bs (.ref CE :: exTail) true sn sub ab col dd k0 k1 k2 k3 k5 "Exception.__new__")
  sa : findIn K (.ref C) "__setattr__" = some (some (.builtin "object.__setattr__"))
  ga : findIn K (.ref C) "__getattribute__" = some (some (.builtin "BaseException.__getattribute__"))
  gg : findIn K (.ref C) "__getattr__" = some none
  exC : subIn K (.ref C) (.type "BaseException") = some true
  tyC : typeIn K (.ref C) = some (.type "type")
  kC : keepIn K (.ref C) = true
  hdC : hasDictIn K C = true
  caC : findIn K (.ref C) "__class__" = some (some (.builtin "object.__class__"))
  moC : mroIn K C (.type "object") = some true
  up : subIn K (.ref C) (.ref CE) = some true
/-- the parent -/
structure EbC (K : Frag) (mg : Str → Option Value) (CE : Addr) : Prop where
  mg : mg "EarlierError" = some (.ref CE)
  rd : readsIn K CE (.type "type") = true
  ga : specialIn K (.ref CE) "__getattribute__" = some (some (.builtin "type.__getattribute__"))
  ini : findCls K (.ref CE) (.type "type") "__init__" = some (.val (.builtin "Exception.__init__"))
  exC : subIn K (.ref CE) (.type "BaseException") = some true
  tyC : typeIn K (.ref CE) = some (.type "type")
  hdC : hasDictIn K CE = true
  gcn : specialIn K (.builtin "object.__class__") "__get__" = some (some (.builtin "getset_descriptor.__get__"))
  tkn : takesIn K (.builtin "object.__class__") = some true
theorem tail_hT (CE : Addr) (X : String) : (Value.ref CE :: exTail).contains (.type X) = exTail.contains (.type X) := by
  rw [List.contains_cons]; rfl
theorem EcC.clsIn {K : Frag} {CE C : Addr} (T : EcC K CE C) : ∃ cd, clsIn K C = some cd ∧ cd.mro = .ref C :: .ref CE :: exTail ∧ cd.hasDict = true := by
  obtain ⟨nm, q, N, bs, sn, sub, ab, col, dd, k0, k1, k2, k3, k5, hC⟩ := T.cls
  refine ⟨{ name := nm, bases := bs, mro := .ref C :: .ref CE :: exTail, ns := N, qualname := q, hasDict := true, slotNames := sn, subclasses := sub, abstract := ab, collection := col, hasDel := false }, ?_, rfl, rfl⟩
  unfold PySem.W.clsIn
  rw [hC] <;> rfl
open Builtin Builtin.ObjectAttr in
theorem osaE {prog : Program} {w : World} {A : Around} {R : Result → Shared → Prop} {hp : Heap} {g : Array GenState} {d : Drawn} {t : Nat} {os : OsState} {K : Frag} {name : Str} {tk : Tok} {v : Value} {x C CE : Addr} {fv : Array Value} {cd : ClassData}
    (X : K.In hp) (hx : hp.get? x = some { cls := .ref C, data := .fields fv }) (hcd : clsIn K C = some cd) (hm : cd.mro = .ref C :: .ref CE :: exTail) (hh : cd.hasDict = true) (ha : findIn K (.ref C) name = some none)
    (hq : ∀ h' tk' dx, (∀ b o, b ≠ x → hp.get? b = some o → h'.get? b = some o) → hp.objs.size ≤ dx → dx ≠ x → h'.get? x = some { cls := .ref C, dict := some dx, data := .fields fv } →
      h'.Ns1 dx (fun y => if y = name then some v else none) → R (.ok (.ret .none)) ⟨h', g, d, tk', os⟩) :
    codeAny (model prog w) A (.call (.builtin "object.__setattr__") ⟨[.ref x, .str name tk, v], []⟩) R ⟨hp, g, d, t, os⟩ := by
  have I : InstAt hp x { cls := .ref C, data := .fields fv } C none := ⟨hx, rfl, rfl, trivial⟩
  have SF := F.store_object
  have hob : cd.mro.contains (.type "object") = true := by rw [hm]; rfl
  have hxs : x ≠ hp.objs.size := Nat.ne_of_lt (Heap.lt_size hx)
  have sub : Looks (model prog w) hp (isInstance (.ref x) (.type "object")) true := I.type.andThen (looks_mroIn X (by unfold mroIn; rw [hcd, Option.bind_some, if_neg (by rw [hm]; exact Bool.false_ne_true), hob]))
  refine codeAny_call_builtin SF.slot.plain SF.entry (@check_slot (model prog w) _ _ ⟨hp, g, d, t, os⟩ "object.__setattr__" "object" "__setattr__" (.ref x) [.str name tk, v] [] _ SF.kind SF.split sub (SF.args (.ref x) (.str name tk) v) ?_)
  have hmr : Looks (model prog w) hp (mroOf (.ref C)) cd.mro := (looks_clsIn X hcd).andThen .now
  have L3 : Looks (model prog w) hp (storeTaker? none) none := .now
  have hcls : Looks (model prog w) hp (classData C) cd := looks_clsIn X hcd
  rw [osa_eq, refuse_eq]
  refine wpAny_bind (wpAny_bind (I.type.at (wpAny_bind (hmr.at ?_))))
  rw [show refuseLoop (.ref x) "__setattr__" cd.mro = pure () from by rw [hm, refuseLoop_ref, refuseLoop_ref]; exact F.store_Exception.passes (.ref x)]
  refine wpAny_pure (wpAny_bind (I.type.at (wpAny_bind ((looks_findIn X ha).at (wpAny_bind (L3.at ?_))))))
  show wpAny _ _ (storeInOwnDict (.ref x) (.ref C) (.str name tk) name v false) _ _ _
  obtain ⟨nm, bs, mro, ns, qn, hd, sn, sb, ab, col, del⟩ := cd
  dsimp only at hh
  subst hh
  unfold storeInOwnDict ownDictForStores
  repeat (first | with_reducible refine PySem.HandSPX.store_in_new ?_ ?_ | with_reducible refine wpAny_loadPart_at hx ?_ | with_reducible refine hcls.at ?_ | wp_step)
  · exact ⟨_, #[], _, (Heap.get?_update_ne _ _ _ _ hxs.symm).trans (Heap.get?_push_at rfl rfl), rfl, fun e he => absurd he (by simp), fun _ => rfl⟩
  · intro h' tk' hn' hs
    have hx1 : (hp.push { cls := .type "dict", data := .dict #[] }).get? x = some { cls := .ref C, data := .fields fv } := Heap.get?_push_of_some _ hx
    refine hq h' tk' hp.objs.size (fun b o hb ho => ?_) (Nat.le_refl _) hxs.symm ?_ hn'
    · exact (hs.2 b (Nat.ne_of_lt (Heap.lt_size ho))).trans ((Heap.get?_update_ne _ _ _ _ hb).trans (Heap.get?_push_of_some _ ho))
    · exact (hs.2 x hxs).trans (Heap.get?_update_self _ hx1 rfl)
section
variable {X : Cx} {pins : List (Addr × Obj)} {σ : L2.St} {H : Hp} {s : Shared} {a C CE dx : Addr} {f : Str} {y : V} {u : Value} {E : Value → Shared → Prop} {A : Around}
/-- self.f = y, an error's first field -/
theorem setE {Q : Unit → Shared → Prop} (T : EcC X.K CE C) (I : Inv X pins σ H s) (e : H a = some (exo a C none)) (hno : findIn X.K (.ref C) f = some none) (ry : RelV y u)
    (h : ∀ dx s', H dx = none → dx ≠ a → Inv X pins σ (upd (upd H dx (exd dx [(f, y)])) a (exo a C (some dx))) s' → Q () s') : wpAny (model X.prog X.w) A (setAttr (.ref a) f u) Q E s := by
  obtain ⟨cd, hcl, hmr, hdi⟩ := T.clsIn
  obtain ⟨t1, ho⟩ := exo_at I.hok e
  obtain ⟨hp, g, d, t, os⟩ := s
  refine set_plain I.kIn (ox := { cls := .ref C, dict := none, data := .fields #[.ref t1, .none, .none, .none, .bool false, .none] }) (od := none) ⟨ho, rfl, rfl, trivial⟩ T.sa ?_
  refine osaE I.kIn ho hcl hmr hdi hno (fun h' tk' dx k dn dne hx hn => ?_)
  have hnd : H dx = none := I.hok.fresh dn
  have nd : ∀ {b : Addr} {o : Obj}, hp.get? b = some o → b ≠ dx := fun {b o} q => Nat.ne_of_lt (Nat.lt_of_lt_of_le (Heap.lt_size q) dn)
  have na : ∀ {b : Addr}, H b = none → b ≠ a := fun {b} n z => by
    rw [z, e] at n
    cases n
  have both : ∀ {b : Addr} {o : HO}, H b = some o → o ≠ exo a C none → upd (upd H dx (exd dx [(f, y)])) a (exo a C (some dx)) b = some o := fun {b o} q ne => by
    have ba : b ≠ a := fun z => by rw [z, e] at q; exact ne (Option.some.inj q).symm
    rw [upd_ne ba, upd_ne (ne_of_none q hnd)]; exact q
  have U : Un X.fs [] H (upd (upd H dx (exd dx [(f, y)])) a (exo a C (some dx))) hp h' := {
    keep := fun b o q n _ _ => k b o (na n) q
    slot := fun b o q n _ _ => ⟨o.slots, k b o (na n) q⟩
    free := fun b o q n _ => by rw [upd_ne (na n), upd_ne (nd q)]; exact n
    there := fun b o q _ => by
      by_cases hb : b = a
      · exact ⟨_, by rw [hb]; exact hx⟩
      · exact ⟨o, k b o hb q⟩
    tups := fun b xs q => both q fun z => exo_tup z.symm
    frzs := fun b o v q => both q fun z => exo_frz z.symm
    tbls := fun b ps q => ⟨#[], by rw [both q fun z => exo_tbl z.symm]; simp⟩ }
  refine h dx _ hnd dne (I.un (t' := tk') U fun b o q => ?_)
  by_cases hb : b = a
  · subst hb
    rw [upd_same] at q
    cases q
    exact exo_ok hx
  · rw [upd_ne hb] at q
    by_cases hd : b = dx
    · subst hd
      rw [upd_same] at q
      cases q
      exact exd_ok hn (relO_put (fs := []) ry fun g => True.intro)
    · rw [upd_ne hd] at q
      refine (I.hok b o q).stay (fun c v hc z => k c v ?_ z) (fun c hc => both hc fun z => exo_own z.symm) fun c xs hc => both hc fun z => exo_tup z.symm
      rcases hc with hc | hc
      · rw [hc]; exact hb
      · exact at_ne e hc exo_own
/-- the parent's __init__: nothing of it is told -/
theorem iniE {us : List Value} {Q : Value → Shared → Prop} (T : EcC X.K CE C) (I : Inv X pins σ H s) (e : H a = some (exo a C none)) (hl : us.length ≤ sizeLine) (h : ∀ s', Inv X pins σ H s' → Q .none s') :
    wpAny (model X.prog X.w) A (call (.builtin "Exception.__init__") (.ref a :: us)) Q E s := by
  obtain ⟨nm, q, N, bs, sn, sub, ab, col, dd, k0, k1, k2, k3, k5, hC⟩ := T.cls
  obtain ⟨t1, ho⟩ := exo_at I.hok e
  obtain ⟨hp, g, d, t, os⟩ := s
  refine wpAny_call (PySem.HandSPX.init_base F.excBase_Exception (tail_hT CE) (I.kIn _ _ hC) ho hl fun h' t2 k hx => ?_)
  have J := I.write (t' := t) (x := a) (e := a) (o := exo a C none) (by rw [e]; exact True.intro) (.inl rfl) k ⟨_, hx⟩ (exo_ok hx)
  have eu : upd H a (exo a C none) = H := by
    funext b
    by_cases hb : b = a
    · rw [hb, upd_same, e]
    · rw [upd_ne hb]
  rw [eu] at J
  exact h _ J
end

/-! ### the text of an error's __init__ -/
def eS (b : Bool) : Scope := { kind := .function, names := (PySem.Str.ofString "self", .local) :: (if b then [(PySem.Str.ofString "given", .local)] else []) ++ [(PySem.Str.ofString "EarlierError", .globalImplicit)], isGenerator := false, isCoroutine := false, more := [] }
section
variable {X : Cx} {C CE : Addr} {e1 e2 : Expr} {p1 p2 pos p : Pos} {ta : TA}
/-- EarlierError.__init__(self, ..) -/
def tIni (K : Frag) (CE : Addr) (ta : TA) : TE := fun σ H Q => ta σ H fun vs H1 => ∃ (a C : Addr) (ws : List V), vs = .ref a :: ws ∧ ws.length ≤ 1000 ∧ EcC K CE C ∧ H1 a = some (exo a C none) ∧ Q .non H1
theorem q_ini {pl : Sem Bool} {e : Expr} {es : List Expr} (B : EbC X.K X.mg CE) (ha : PA X (e :: es) ta) (hg : Gl X "EarlierError" := by rfl)
    (hc : eval (.Call (.Attribute (.Name "EarlierError" p1) "__init__" p2) (e :: es) [] pos) X.env = (do
      let ov ← eval (.Name "EarlierError" p1) X.env
      standAt p2.atName
      let (f, first) ← holding [ov] (getMethod ov "__init__" pl)
      callWith pos f first (backTo pos (starEach (e :: es) X.env)) (backToKw pos (keywordEach [] X.env))) := by rfl)
    (he : starEach (e :: es) X.env = (false, eval e X.env) :: starEach es X.env := by rfl) (hpl : (backTo pos (starEach es X.env)).any (·.1) = false := by rfl) :
    PE X (.Call (.Attribute (.Name "EarlierError" p1) "__init__" p2) (e :: es) [] pos) (tIni X.K CE ta) := by
  refine ⟨fun pins s σ H Q I h => methodCall_KW (ld_glob I hg B.mg ?_ (by decide)) hc⟩
  refine method_cls I.kIn B.ga (cls_value I.kIn B.rd B.ini (by decide +kernel) ?_)
  show wpAny _ _ (callWith pos (Value.builtin "Exception.__init__") [] (backTo pos (starEach (e :: es) X.env)) []) _ _ _
  refine PyProof.Rows.callWith_method1 (thn (ha.run pos pins _ σ H _ (I.tok _) h) fun us s1 ⟨vs, H1, I1, r1, a, C, ws, ev, hl, T, ea, q⟩ => ?_) he hpl
  subst ev
  cases r1 with
  | @cons _ u0 _ ur ra rw' =>
    obtain rfl : u0 = Value.ref a := ra
    exact iniE T I1 ea (by rw [← Paired.length rw', sizeLine_eq]; omega) fun s' J => ⟨.non, H1, J, rfl, q⟩
/-- self.f = e -/
def tSetE (K : Frag) (CE : Addr) (f : Str) (to te : TE) : TS := fun D σ H => te σ H fun y H1 => to σ H1 fun x H2 => ∃ a C : Addr, x = .ref a ∧ EcC K CE C ∧ findIn K (.ref C) f = some none ∧
  H2 a = some (exo a C none) ∧ ∀ dx, H2 dx = none → dx ≠ a → D.nx σ (upd (upd H2 dx (exd dx [(f, y)])) a (exo a C (some dx)))
theorem q_setE {o e : Expr} {f : Str} {to te : TE} (CE : Addr) (ho : PE X o to) (he : PE X e te) (hs : swapsWith e (some (.Attribute o f p)) pos.line X.env = pure false := by rfl) : PS X (.Assign [.Attribute o f p] e pos) (tSetE X.K CE f to te) := by
  refine ⟨fun pins s σ H D I h => plainObj_wpAny_Assign_Attribute (thn (he.run pins s σ H _ I h) fun v s1 ⟨y, H1, I1, r1, q1⟩ => thn (ho.run pins s1 σ H1 _ I1 q1) fun u s2 ⟨x, H2, I2, r2, a, C, ex, T, hno, ea, q⟩ => ?_) hs⟩
  subst ex
  obtain rfl : u = Value.ref a := r2
  exact setE T I2 ea hno r1 fun dx s' n ne J => ⟨σ, _, J, q dx n ne⟩
end
/-- what an error's __init__ promises: (self, given), (self) -/
def spE (K : Frag) (CE : Addr) : Sp := fun vs H Q _ => ∃ (a C : Addr) (v : V), vs = [.ref a, v] ∧ EcC K CE C ∧ findIn K (.ref C) "given" = some none ∧ H a = some (exo a C none) ∧
  ∀ dx, H dx = none → dx ≠ a → Q .non (upd (upd H dx (exd dx [(("given" : Str), v)])) a (exo a C (some dx)))
def spE0 (K : Frag) (CE : Addr) : Sp := fun vs H Q _ => ∃ (a C : Addr), vs = [.ref a] ∧ EcC K CE C ∧ H a = some (exo a C none) ∧ Q .non H
section
variable {X : Cx} {pins : List (Addr × Obj)} {σ : L2.St}
/-- an error without a dict is let go -/
theorem end_bare {H1 H2 : Hp} {hp hp2 h2 : Heap} {g1 g2 : Array GenState} {d1 d2 : Drawn} {t1 t2 : Nat} {os1 os2 : OsState} {a C : Addr} (I1 : Inv X pins σ H1 ⟨hp, g1, d1, t1, os1⟩)
    (ha : hp.objs.size ≤ a) (k : ∀ b o, hp.get? b = some o → hp2.get? b = some o) (un : Un (frs X.stack) [] (upd H1 a (exo a C none)) H2 hp2 h2) (hok : HOk X.prog X.w H2 h2) (ho : os2 = os1) (hb : AllBare g2) (ea : H2 a = some (exo a C none)) :
    ∃ (t0 : Addr) (G : Heap), Inv X pins σ (del H2 a) ⟨G, g2, d2, t2, os2⟩ ∧ (∀ b o, G.get? b = some o → h2.get? b = some o) ∧ G.get? a = none ∧
      h2.get? a = some ({ cls := .ref C, dict := none, data := .fields #[.ref t0, .none, .none, .none, .bool false, .none] } : Obj) := by
  obtain ⟨t0, hoe⟩ := exo_at hok ea
  have hn : H1 a = none := I1.hok.fresh ha
  obtain ⟨G, g1', g2'⟩ := restrict h2 fun b => decide (b ≠ a)
  have gk : ∀ b, b ≠ a → G.get? b = h2.get? b := fun b hb => g1' b (decide_eq_true hb)
  have ge : G.get? a = none := g2' a (by simp)
  have nha : ∀ {b : Addr} {o : Obj}, hp.get? b = some o → b ≠ a := fun {b o} z => Nat.ne_of_lt (Nat.lt_of_lt_of_le (Heap.lt_size z) ha)
  have up : ∀ {b : Addr}, b ≠ a → H1 b = none → upd H1 a (exo a C none) b = none := fun {b} hb n => by rw [upd_ne hb]; exact n
  have U : Un (frs X.stack) [] H1 (del H2 a) hp G := {
    keep := fun b o z n hf hx => by rw [gk b (nha z)]; exact un.keep b o (k b o z) (up (nha z) n) hf hx
    slot := fun b o z n hf hx => by rw [gk b (nha z)]; exact un.slot b o (k b o z) (up (nha z) n) hf hx
    free := fun b o z n hx => by rw [del_ne (nha z)]; exact un.free b o (k b o z) (up (nha z) n) hx
    there := fun b o z hx => by rw [gk b (nha z)]; exact un.there b o (k b o z) hx
    tups := fun b xs z => by rw [del_ne (ne_of_none z hn)]; exact un.tups b xs (by rw [upd_ne (ne_of_none z hn)]; exact z)
    frzs := fun b o v z => by rw [del_ne (ne_of_none z hn)]; exact un.frzs b o v (by rw [upd_ne (ne_of_none z hn)]; exact z)
    tbls := fun b ps z => by rw [del_ne (ne_of_none z hn)]; exact un.tbls b ps (by rw [upd_ne (ne_of_none z hn)]; exact z) }
  have hok3 : HOk X.prog X.w (del H2 a) G := fun b o z => by
    have hba : b ≠ a := fun e => by rw [e, del_same] at z; cases z
    rw [del_ne hba] at z
    have noa : ∀ {c : Addr}, H2 c = some (.own b) → c ≠ a := fun {c} hc => at_ne ea hc exo_own
    refine (hok b o z).stay (fun c v hc y => ?_) (fun c hc => by rw [del_ne (noa hc)]; exact hc) fun c xs hc => by rw [del_ne (at_ne ea hc exo_tup)]; exact hc
    have hca : c ≠ a := by
      rcases hc with hc | hc
      · rw [hc]; exact hba
      · exact noa hc
    rw [gk c hca]; exact y
  have J : Inv X pins σ (del H2 a) ⟨G, g2, d2, t2, os2⟩ := I1.call' (ch := []) ho U hok3 hb (fun b z => absurd z (by simp))
  refine ⟨t0, G, J, fun b o z => ?_, ge, hoe⟩
  by_cases hba : b = a
  · rw [hba, ge] at z; cases z
  · exact (gk b hba).symm.trans z
/-- the class of an error, with its __init__ -/
structure Ed (K : Frag) (mg : Str → Option Value) (CE : Addr) (x : Str) (C : Addr) (qual : Str) (st : Stmt) (ps : List Str) (f : Addr) (fd : FuncData) : Prop where
  mg : mg x = some (.ref C)
  c : EcC K CE C
  iC : findIn K (.ref C) "__init__" = some (some (.ref f))
  tI : typeIn K (.ref f) = some (.type "function")
  fn : Fun K "__init__" qual st f fd
  b : Binds K fd ps []
variable {hot : Bool} {CE C fI : Addr} {k : Nat} {fd : FuncData} {x qual : Str} {st : Stmt} {e : Expr} {te : TE} {p pos : Pos}
theorem hp2_keep {hp : Heap} {us : List Value} {C : Addr} : ∀ b o, hp.get? b = some o → ((hp.push (kdv_tup us)).push (PySem.HandSPX.excO C hp.objs.size)).get? b = some o := fun b o e => Heap.get?_push_of_some _ (Heap.get?_push_of_some _ e)
/-- X(e) -/
theorem pmkE (T : Ed X.K X.mg CE x C qual st ["self", "given"] fI fd) (hno : findIn X.K (.ref C) "given" = some none) (Fi : FnG hot X.prog X.w X.K X.mg X.base k fI fd ["self", "given"] (spE X.K CE)) (hr : Rm hot (k + 1) X.A) (he : PE X e te) (hg : Gl X x := by rfl)
    (hdb : (x == ("__debug__" : Str)) = false := by decide) (hs : starEach [e] X.env = (false, eval e X.env) :: starEach [] X.env := by rfl) (hpl : (backTo pos (starEach [] X.env)).any (·.1) = false := by rfl) :
    PMk X (.Call (.Name x p) [e] [] pos) (fun σ H Q => te σ H fun v H1 => ∀ d, H1 d = none → Q (.ref C) (some d) (upd H1 d (.xd [(("given" : Str), v)]))) := by
  intro pins s σ H Q I h
  obtain ⟨nm, q, N, bs, sn, sub, ab, col, dd, k0, k1, k2, k3, k5, hC⟩ := T.c.cls
  refine wpAny_Call_Name_kw (ld_glob I hg T.mg ?_ hdb)
  refine callWith_K (h₀ := X.base) I.ok.mod.kin T.c.kC ?_ hs hpl
  rw [hs]
  refine Calls.spliced_cons (thn (he.run pins s σ H _ I h) fun u s1 ⟨v, H1, I1, r1, q1⟩ => Calls.spliced_nil ⟨I1.kIn, ?_⟩)
  show wpAny _ _ (call (.ref C) [u]) _ _ _
  obtain ⟨hp, g, dr, tk, os⟩ := s1
  have hsz : hp.objs.size ≤ hp.objs.size + 1 := Nat.le_succ _
  have hn : H1 (hp.objs.size + 1) = none := I1.hok.fresh hsz
  have kk := hp2_keep (hp := hp) (us := [u]) (C := C)
  have hget : ((hp.push (kdv_tup [u])).push (PySem.HandSPX.excO C hp.objs.size)).get? (hp.objs.size + 1) = some (PySem.HandSPX.excO C hp.objs.size) := by heap_get
  have I2 : Inv X pins σ (upd H1 (hp.objs.size + 1) (exo (hp.objs.size + 1) C none)) ⟨(hp.push (kdv_tup [u])).push (PySem.HandSPX.excO C hp.objs.size), g, dr, tk, os⟩ := I1.laid (t' := tk) kk hsz (exo_ok hget)
  have r2 : Vals [V.ref (hp.objs.size + 1), v] [Value.ref (hp.objs.size + 1), u] := .cons rfl (.cons r1 .nil)
  refine wpAny_call (PySem.HandSPX.call_own F.excBase_Exception (tail_hT CE) (I1.kIn _ _ hC) (looks_findIn I1.kIn T.iC) (fun self => bind_fn I1.kIn self T.tI) (by show 1 ≤ sizeLine; decide)
    (codeAny_mono (Fi.run _ X.stack _ _ ⟨[Value.ref (hp.objs.size + 1), u], []⟩ _ _ (fun w H2 => w = .non ∧ ∃ dx, H1 dx = none ∧ dx ≠ hp.objs.size + 1 ∧ H2 = upd (upd (upd H1 (hp.objs.size + 1) (exo (hp.objs.size + 1) C none)) dx (exd dx [(("given" : Str), v)])) (hp.objs.size + 1) (exo (hp.objs.size + 1) C (some dx)))
      (fun _ _ _ => False) (hr.make C [u] []) (I2.env0.make C [u] []) (by have b := T.b ⟨_, g, dr, tk, os⟩ [Value.ref (hp.objs.size + 1), u] I2.kIn rfl; rw [List.append_nil] at b; exact b) r2
      ⟨_, C, v, rfl, T.c, hno, upd_same, fun dx n ne => ⟨rfl, dx, by rw [upd_ne ne] at n; exact n, ne, rfl⟩⟩) fun r s' hq' => ?_))
  cases r with
  | error er =>
    obtain ⟨_, _, _, _, _, _, _, _, _, _, _, _, z⟩ := hq'
    exact z.elim
  | ok fl =>
    cases fl with
    | ret w =>
      obtain ⟨v', H2, os2, bare2, un2, hok2, rv, ev, dx, ndx, nea, eH⟩ := hq'
      subst ev
      obtain ⟨h2, g2, d2, t2, os'⟩ := s'
      have ea : H2 (hp.objs.size + 1) = some (exo (hp.objs.size + 1) C (some dx)) := by rw [eH, upd_same]
      have ed : H2 dx = some (exd dx [(("given" : Str), v)]) := by rw [eH, upd_ne nea, upd_same]
      refine ⟨rv, mk_end (raises_own T.c.exC T.c.tyC) I1 hsz kk un2 hok2 os2 bare2 ea ed ndx ?_⟩
      have e2 : upd (del H2 (hp.objs.size + 1)) dx (.xd [(("given" : Str), v)]) = upd H1 dx (.xd [(("given" : Str), v)]) := by
        funext b
        by_cases hbd : b = dx
        · rw [hbd, upd_same, upd_same]
        · rw [upd_ne hbd, upd_ne hbd]
          by_cases hba : b = hp.objs.size + 1
          · rw [hba, del_same, hn]
          · rw [del_ne hba, eH, upd_ne hba, upd_ne hbd, upd_ne hba]
      rw [e2]
      exact q1 dx ndx
    | next => exact False.elim hq'
    | brk => exact False.elim hq'
    | cont => exact False.elim hq'
/-- X() -/
theorem pmkE0 (T : Ed X.K X.mg CE x C qual st ["self"] fI fd) (Fi : FnG hot X.prog X.w X.K X.mg X.base k fI fd ["self"] (spE0 X.K CE)) (hr : Rm hot (k + 1) X.A) (hg : Gl X x := by rfl) (hdb : (x == ("__debug__" : Str)) = false := by decide) :
    PMk X (.Call (.Name x p) [] [] pos) (fun σ H Q => Q (.ref C) none H) := by
  intro pins s σ H1 Q I1 q1
  obtain ⟨nm, q, N, bs, sn, sub, ab, col, dd, k0, k1, k2, k3, k5, hC⟩ := T.c.cls
  refine wpAny_Call_Name_kw (ld_glob I1 hg T.mg ?_ hdb)
  refine callWith_K0 I1.kIn T.c.kC ?_
  show wpAny _ _ (call (.ref C) []) _ _ _
  obtain ⟨hp, g, dr, tk, os⟩ := s
  have hsz : hp.objs.size ≤ hp.objs.size + 1 := Nat.le_succ _
  have hn : H1 (hp.objs.size + 1) = none := I1.hok.fresh hsz
  have kk := hp2_keep (hp := hp) (us := []) (C := C)
  have hget : ((hp.push (kdv_tup [])).push (PySem.HandSPX.excO C hp.objs.size)).get? (hp.objs.size + 1) = some (PySem.HandSPX.excO C hp.objs.size) := by heap_get
  have I2 : Inv X pins σ (upd H1 (hp.objs.size + 1) (exo (hp.objs.size + 1) C none)) ⟨(hp.push (kdv_tup [])).push (PySem.HandSPX.excO C hp.objs.size), g, dr, tk, os⟩ := I1.laid (t' := tk) kk hsz (exo_ok hget)
  have r2 : Vals [V.ref (hp.objs.size + 1)] [Value.ref (hp.objs.size + 1)] := .cons rfl .nil
  refine wpAny_call (PySem.HandSPX.call_own F.excBase_Exception (tail_hT CE) (I1.kIn _ _ hC) (looks_findIn I1.kIn T.iC) (fun self => bind_fn I1.kIn self T.tI) (by show 0 ≤ sizeLine; decide)
    (codeAny_mono (Fi.run _ X.stack _ _ ⟨[Value.ref (hp.objs.size + 1)], []⟩ _ _ (fun w H2 => w = .non ∧ H2 = upd H1 (hp.objs.size + 1) (exo (hp.objs.size + 1) C none))
      (fun _ _ _ => False) (hr.make C [] []) (I2.env0.make C [] []) (by have b := T.b ⟨_, g, dr, tk, os⟩ [Value.ref (hp.objs.size + 1)] I2.kIn rfl; rw [List.append_nil] at b; exact b) r2
      ⟨_, C, rfl, T.c, upd_same, rfl, rfl⟩) fun r s' hq' => ?_))
  cases r with
  | error er =>
    obtain ⟨_, _, _, _, _, _, _, _, _, _, _, _, z⟩ := hq'
    exact z.elim
  | ok fl =>
    cases fl with
    | ret w =>
      obtain ⟨v', H2, os2, bare2, un2, hok2, rv, ev, eH⟩ := hq'
      subst ev
      obtain ⟨h2, g2, d2, t2, os'⟩ := s'
      have ea : H2 (hp.objs.size + 1) = some (exo (hp.objs.size + 1) C none) := by rw [eH, upd_same]
      obtain ⟨t0, G, J, kG, ge, hoe⟩ := end_bare (d2 := d2) (t2 := t2) I1 hsz kk un2 hok2 os2 bare2 ea
      have e2 : del H2 (hp.objs.size + 1) = H1 := by
        funext b
        by_cases hba : b = hp.objs.size + 1
        · rw [hba, del_same, hn]
        · rw [del_ne hba, eH, upd_ne hba]
      rw [e2] at J
      exact ⟨rv, hp.objs.size + 1, _, _, ⟨G, g2, d2, t2, os'⟩, H1, .ref C, none, rfl, J, kG, ge, hoe, ⟨rfl, rfl⟩, rfl, rfl, hn, rfl, bare2, raises_own T.c.exC T.c.tyC, q1⟩
    | next => exact False.elim hq'
    | brk => exact False.elim hq'
    | cont => exact False.elim hq'
/-- raise X(e), raise X() -/
def tRaiseE (C : Addr) (W : WX) (te : TE) : TS := fun _ σ H => te σ H fun v H1 => ∀ d, H1 d = none → W (.ref C) (some d) σ (upd H1 d (.xd [(("given" : Str), v)]))
def tRaise0 (C : Addr) (W : WX) : TS := fun _ σ H => W (.ref C) none σ H
variable {W : WX} {pos2 : Pos}
theorem q_raise (hc : X.calm = true) (tk : Takes X W) (T : Ed X.K X.mg CE x C qual st ["self", "given"] fI fd) (hno : findIn X.K (.ref C) "given" = some none) (F : FnG hot X.prog X.w X.K X.mg X.base k fI fd ["self", "given"] (spE X.K CE)) (hr : Rm hot (k + 1) X.A) (he : PE X e te) (hg : Gl X x := by rfl)
    (hdb : (x == ("__debug__" : Str)) = false := by decide) (hs : starEach [e] X.env = (false, eval e X.env) :: starEach [] X.env := by rfl) (hpl : (backTo pos (starEach [] X.env)).any (·.1) = false := by rfl) :
    PS X (.Raise (some (.Call (.Name x p) [e] [] pos)) none pos2) (tRaiseE C W te) := ps_raise hc tk (pmkE T hno F hr he hg hdb hs hpl)
theorem q_raise0 (hc : X.calm = true) (tk : Takes X W) (T : Ed X.K X.mg CE x C qual st ["self"] fI fd) (F : FnG hot X.prog X.w X.K X.mg X.base k fI fd ["self"] (spE0 X.K CE)) (hr : Rm hot (k + 1) X.A) (hg : Gl X x := by rfl)
    (hdb : (x == ("__debug__" : Str)) = false := by decide) : PS X (.Raise (some (.Call (.Name x p) [] [] pos)) none pos2) (tRaise0 C W) := ps_raise hc tk (pmkE0 T F hr hg hdb)
end
end Ks

/-! KsY: try with several clauses that hold the error by a name; the held error is a value like others; isinstance; repr. -/
namespace Ks
open PySem PySem.Spec PyProof.Rows L2 PySem.W
/-- an error that is held: its class, its own dict -/
def ExH (cls : Value) (d : Option Addr) (a : Addr) : HO := .ext fun h => ∃ oe vs, h.get? a = some oe ∧ Zc cls d oe ∧ oe.data = .fields vs
theorem exH_ok {P : Program} {w : World} {H : Hp} {h : Heap} {a : Addr} {cls : Value} {d : Option Addr} {oe : Obj} {vs : Array Value} (e : h.get? a = some oe) (z : Zc cls d oe) (dt : oe.data = .fields vs) : ObjOk P w H h a (ExH cls d a) :=
  ⟨⟨oe, vs, e, z, dt⟩, ⟨oe, e⟩, fun _ _ ⟨o, v, q, r⟩ k => ⟨o, v, k o q, r⟩⟩
theorem exH_at {P : Program} {w : World} {H : Hp} {h : Heap} {a : Addr} {cls : Value} {d : Option Addr} (hok : HOk P w H h) (e : H a = some (ExH cls d a)) : ∃ oe vs, h.get? a = some oe ∧ Zc cls d oe ∧ oe.data = .fields vs := by
  have x : ObjOk P w H h a (.ext fun h => ∃ oe vs, h.get? a = some oe ∧ Zc cls d oe ∧ oe.data = .fields vs) := hok a _ e
  exact x.1
section
variable {X : Cx} {pins : List (Addr × Obj)} {σ : L2.St} {H : Hp} {s sI : Shared}
theorem suite_in {a : Addr} {oe : Obj} {vs : Array Value} {cls : Value} {d : Option Addr} (J : Inv X pins σ H sI) (I : Inv X pins σ H s) (h0 : sI.heap.get? a = none) (he : s.heap.get? a = some oe) (hz : Zc cls d oe) (hd : oe.data = .fields vs) (na : H a = none) (nL : a ≠ X.env.locals) :
    Inv (X.suite a (X.pn ++ pins)) [] σ (upd H a (ExH cls d a)) s := by
  have nI : ∀ {b : Addr} {o : Obj}, sI.heap.get? b = some o → b ≠ a := fun {b o} q z => by rw [z, h0] at q; cases q
  have n0 : ∀ {b : Addr} {o : Obj}, X.s_0.heap.get? b = some o → b ∉ X.ex → b ≠ a := fun {b o} q hx => by
    obtain ⟨o', z⟩ := J.base.there b o q hx
    exact nI z
  have nH : ∀ {b : Addr} {o : HO}, H b = some o → b ≠ a := fun {b o} q z => by rw [z, na] at q; cases q
  have nC : ∀ {c : Addr} {v : Option Value}, s.heap.IsCell c v → c ≠ a := fun {c v} ⟨o, q, e⟩ z => by
    rw [z, he] at q; cases q
    rw [hd] at e; cases e
  refine ⟨I.ok.suite _ _, I.os, I.bare, ⟨I.base.keep, I.base.slot, fun b o q n hx => ?_, I.base.there, fun b xs q => ?_, fun b o u q => ?_, fun b ps q => ?_⟩, I.loc, I.cell, ?_, fun x c q => ?_, fun p hp => ?_, fun b o q => ?_, I.len⟩
  · rw [upd_ne (n0 q hx)]; exact I.base.free b o q n hx
  · have z := I.base.tups b xs q; rw [upd_ne (nH z)]; exact z
  · have z := I.base.frzs b o u q; rw [upd_ne (nH z)]; exact z
  · obtain ⟨m, z⟩ := I.base.tbls b ps q; exact ⟨m, by rw [upd_ne (nH z)]; exact z⟩
  · rw [upd_ne nL.symm]; exact I.free
  · obtain ⟨v, z⟩ := I.cell x c q
    rw [upd_ne (nC z)]; exact I.freeC x c q
  · have hp' : p ∈ X.pn ++ pins := by rw [List.append_nil] at hp; exact hp
    obtain ⟨e, n, ne, nf, dd⟩ := I.pin p hp'
    refine ⟨e, ?_, ne, nf, dd⟩
    rw [upd_ne (nI (J.pin p hp').1)]; exact n
  · by_cases hb : b = a
    · subst hb; rw [upd_same] at q; cases q; exact exH_ok he hz hd
    · rw [upd_ne hb] at q
      exact (I.hok b o q).stay (fun c v _ z => z) (fun c z => by rw [upd_ne (nH z)]; exact z) fun c xs z => by rw [upd_ne (nH z)]; exact z
theorem suite_out {a : Addr} {pn' : List (Addr × Obj)} (I : Inv (X.suite a (X.pn ++ pins)) pn' σ H s) (ok : X.Ok) : Inv X pins σ H s :=
  ⟨ok, I.os, I.bare, I.base, I.loc, I.cell, I.free, I.freeC, fun p hp => I.pin p (List.mem_append_left _ hp), I.hok, I.len⟩
end
/-- a suite with the error at slot i -/
def tAs (i : Nat) (ts : Addr → Value → Option Addr → TS) : Addr → Value → Option Addr → TS := fun a cls d D σ H =>
  ts a cls d { nx := fun σ' H' => D.nx (σ'.set i none) H', rt := D.rt, bk := fun σ' H' => D.bk (σ'.set i none) H', ct := fun σ' H' => D.ct (σ'.set i none) H' } (σ.set i (some (.ref a))) H
/-- what the clauses wish of an error of the body -/
def wHd (K : Frag) (Wout : WX) (D : Ends) : List (Value × (Addr → Value → Option Addr → TS)) → WX
  | [] => Wout
  | (c, ts) :: r => fun cls d σ H => ∃ b, exmOne K cls c = some b ∧ if b = true then ∀ a, H a = none → ts a cls d D σ (upd H a (ExH cls d a)) else wHd K Wout D r cls d σ H
inductive Hds (X : Cx) : List ExceptHandler → List (Value × (Addr → Value → Option Addr → TS)) → Prop
  | nil : Hds X [] []
  | as {x n : Str} {i : Nat} {c : Value} {ts : Addr → Value → Option Addr → TS} {b₀ : Stmt} {suite : List Stmt} {np pos' : Pos} {hds : List ExceptHandler} {l : List (Value × (Addr → Value → Option Addr → TS))} (hi : X.N[i]? = some n) (hln : X.env.kindOf n = some .local) (hc : Names X x c)
      (hsu : ∀ (a : Addr) (cls : Value) (d : Option Addr) (pn : List (Addr × Obj)), PSs (X.suite a pn) (b₀ :: suite) (ts a cls d)) (r : Hds X hds l) :
      Hds X (.ExceptHandler (some (.Name x np)) (some n) (b₀ :: suite) pos' :: hds) ((c, tAs i ts) :: l)
  | no {x : Str} {c : Value} {ts : Addr → Value → Option Addr → TS} {b₀ : Stmt} {suite : List Stmt} {np pos' : Pos} {hds : List ExceptHandler} {l : List (Value × (Addr → Value → Option Addr → TS))} (hc : Names X x c)
      (hsu : ∀ (a : Addr) (cls : Value) (d : Option Addr) (pn : List (Addr × Obj)), PSs (X.suite a pn) (b₀ :: suite) (ts a cls d)) (r : Hds X hds l) :
      Hds X (.ExceptHandler (some (.Name x np)) none (b₀ :: suite) pos' :: hds) ((c, ts) :: l)
section
variable {X : Cx} {body : List Stmt} {h₀ : ExceptHandler} {hds : List ExceptHandler} {l : List (Value × (Addr → Value → Option Addr → TS))} {pos : Pos} {tb : WX → TS} {Wout : WX}
theorem q_try (hN : X.N.Nodup) (tk : Takes X Wout)
    (hb : ∀ (W : WX) (pn : List (Addr × Obj)) (xe : Value → Shared → Prop), Takes (X.tr pn xe) W → PassesOwn (model X.prog X.w) X.A X.env xe → PSs (X.tr pn xe) body (tb W))
    (hh : Hds X (h₀ :: hds) l) (hs : X.stack = X.env :: X.outer := by rfl) (hf : X.env.frame = some X.env.locals := by rfl) : PS X (.Try body (h₀ :: hds) [] [] pos) (fun D σ H => tb (wHd X.K Wout D l) D σ H) := by
  refine ⟨fun pins s σ H D I h => ?_⟩
  have ok := I.ok
  have hfr : X.A.frames = some (X.env :: X.outer) := by rw [ok.frames, hs]
  refine wpAny_Try_except ?_
  refine wpAny_mono ((hb (wHd X.K Wout D l) (X.pn ++ pins) (fun e s₁ => wpAny (model X.prog X.w) X.A (noteFrame e X.env) (fun _ s₂ => wpAny (model X.prog X.w) X.A (setFlight e none) (fun _ s₃ =>
    wpAny (model X.prog X.w) X.A (handleBy e X.env (h₀ :: hds)) (SP X pins D) X.xe s₃) X.xe s₂) X.xe s₁) (fun u s' xx => ?_) PassesOwn.looking).run [] s σ H D (I.toTry _) h) (fun f s1 hsp => ?_) (fun e s1 he => he)
  · obtain ⟨a, B, sI, pins', σ', H', cls, d, rfl, J', nb, up, sky, na, os, ag, w⟩ := xx
    have J : Inv X pins σ' H' sI := J'.ofTry ok
    have sky' : Sky B (X.env :: X.outer) a (Zc cls d) X.env.locals s'.heap := by rw [← hs]; exact sky
    show wpAny (model X.prog X.w) X.A (noteFrame (.ref a) X.env) _ _ _
    refine Sky.land Zc.steady hfr hf sky' fun h3 fl3 up3 => ?_
    have J3 : Inv X pins σ' H' { s' with heap := h3 } := J.landed nb fl3.1 (up.trans up3) os ag
    obtain ⟨oe3, vs3, he3, hz3, hd3⟩ := fl3.there
    have nfr : a ∉ frs (X.env :: X.outer) := fun hm => by
      obtain ⟨_, o', e', hnf⟩ := fl3.2.2.1.mem hm
      rw [he3] at e'; cases e'
      exact hnf _ hd3
    have nL : a ≠ X.env.locals := fun z => nfr (List.mem_filterMap.mpr ⟨X.env, List.mem_cons_self, by rw [hf, z]⟩)
    have nF : a ∉ X.fs := fun hm => by
      obtain ⟨e, he, q⟩ := List.mem_filterMap.mp hm
      exact nfr (List.mem_filterMap.mpr ⟨e, List.mem_cons_of_mem _ he, q⟩)
    have hI : sI.heap.get? a = none := by
      cases q : sI.heap.get? a with
      | none => rfl
      | some o =>
        have z := nb a o q (by rw [hs]; exact nfr)
        rw [fl3.2.1] at z; cases z
    have S3 := J3.suite he3 hd3 na nL nF
    have LT : Looks (model X.prog X.w) h3 (typeOf (.ref a)) cls := fun A Q E s k q => wpAny_typeOf_ref (k _ _ he3) (by rw [hz3.1]; exact q)
    have test : ∀ {x : Str} {np : Pos} {c : Value} {Q : Value → Shared → Prop} {E : Value → Shared → Prop}, Names X x c → Q c { s' with heap := h3 } → wpAny (model X.prog X.w) (X.A.mark (some (.ref a))) (eval (.Name x np) X.env) Q E { s' with heap := h3 } := fun {x np c Q E} hc q => by
      obtain ⟨hg, hdbg, hm | ⟨hm, hv, hnn⟩⟩ := hc
      · exact ld_glob (X := X.suite a ((a, oe3) :: (X.pn ++ pins))) S3 hg hm q hdbg
      · exact ld_blt (X := X.suite a ((a, oe3) :: (X.pn ++ pins))) S3 hg hm hv q hnn hdbg
    have go : ∀ {hds' : List ExceptHandler} {l' : List (Value × (Addr → Value → Option Addr → TS))}, Hds X hds' l' → wHd X.K Wout D l' cls d σ' H' →
        wpAny (model X.prog X.w) X.A (handleBy (.ref a) X.env hds') (SP X pins D) X.xe { s' with heap := h3 } := by
      intro hds' l' hk
      induction hk with
      | nil =>
        intro w
        refine wpAny_handleBy_nil ?_
        obtain ⟨k1, k2, k3, oe, vs, T, oT, ts', he, hz, hd, h1, hr⟩ := id fl3
        unfold PySem.passOn
        refine wpAny_bind (wpAny_field he hd h1 ?_)
        rw [if_neg (show ¬ ((Value.ref T == Value.none) = true) from by simp)]
        have fin : wpAny (model X.prog X.w) X.A (setFlight (.ref a) X.env.frame) (fun _ s4 => wpAny (model X.prog X.w) X.A (throw (.ref a) : Sem Flow) (SP X pins D) X.xe s4) X.xe { s' with heap := h3 } := by
          rw [hf]
          refine HandSPX.setFlight_upZ fl3 fun h4 hh4 up4 => wpAny_throw (tk _ _ ?_)
          exact ⟨a, B, sI, pins, σ', H', cls, d, rfl, J, nb, (up.trans up3).trans up4, .inr (.inr (by rw [hs]; exact hh4)), na, os, ag, w⟩
        first
          | exact wpAny_bind (wpAny_pure (wpAny_bind fin))
          | exact wpAny_bind fin
      | @as x n i c ts b₀ suite np pos' hds2 l2 hi hln hc hsu r ih =>
        intro w
        obtain ⟨b, hb1, w⟩ := w
        refine wpAny_handleBy_cons (codeAny_handlers_test ?_) (by intro q; cases q)
        refine test hc ((exm_one (M := model X.prog X.w) J3.kIn LT hb1).here ?_)
        cases b with
        | true =>
          have w : ∀ a, H' a = none → tAs i ts a cls d D σ' (upd H' a (ExH cls d a)) := by rw [if_pos rfl] at w; exact w
          refine codeAny_handlers_suite_as ?_
          refine HandSPX.lands_againZ fl3 fun h4 fl4 up4 => ?_
          have J4 : Inv X pins σ' H' { s' with heap := h4 } := J.landed nb fl4.1 ((up.trans up3).trans up4) os ag
          obtain ⟨oe4, vs4, he4, hz4, hd4⟩ := fl4.there
          have S4 := suite_in J J4 hI he4 hz4 hd4 na nL
          refine store_ok (X := X.suite a (X.pn ++ pins)) (v := .ref a) S4 hN hi (.inl hln) rfl (fun s5 S5 => ?_) (.inr hln)
          refine wpAny_mono ((hsu a cls d (X.pn ++ pins)).run [] s5 _ _ _ S5 (w a na)) (fun f s6 hsp => ?_) (fun _ _ z => False.elim z)
          have end_ : ∀ {σ6 : L2.St} {H6 : Hp} {Q : Shared → Prop}, Inv (X.suite a (X.pn ++ pins)) [] σ6 H6 s6 → (∀ s7, Inv X pins (σ6.set i none) H6 s7 → Q s7) →
              wpAny (model X.prog X.w) X.A (do bindName X.env n .none; unbindBehindTheSuite X.env n pos') (fun _ s7 => Q s7) X.xe s6 := fun {σ6 H6 Q} S6 hq => gone_ok (suite_out S6 ok) hN hi hln hq
          cases f with
          | next => obtain ⟨σ6, H6, S6, q6⟩ := hsp; exact end_ S6 fun s7 J7 => ⟨_, _, J7, q6⟩
          | brk => obtain ⟨σ6, H6, S6, q6⟩ := hsp; exact end_ S6 fun s7 J7 => ⟨_, _, J7, q6⟩
          | cont => obtain ⟨σ6, H6, S6, q6⟩ := hsp; exact end_ S6 fun s7 J7 => ⟨_, _, J7, q6⟩
          | ret u => obtain ⟨v6, σ6, H6, S6, r6, q6⟩ := hsp; exact end_ S6 fun s7 J7 => ⟨_, _, _, J7, r6, q6⟩
        | false =>
          show wpAny _ X.A (handleBy (.ref a) X.env hds2) _ _ _
          exact ih (by rw [if_neg Bool.false_ne_true] at w; exact w)
      | @no x c ts b₀ suite np pos' hds2 l2 hc hsu r ih =>
        intro w
        obtain ⟨b, hb1, w⟩ := w
        refine wpAny_handleBy_cons (codeAny_handlers_test ?_) (by intro q; cases q)
        refine test hc ((exm_one (M := model X.prog X.w) J3.kIn LT hb1).here ?_)
        cases b with
        | true =>
          have w : ∀ a, H' a = none → ts a cls d D σ' (upd H' a (ExH cls d a)) := by rw [if_pos rfl] at w; exact w
          refine codeAny_handlers_suite ?_
          refine HandSPX.lands_againZ fl3 fun h4 fl4 up4 => ?_
          have J4 : Inv X pins σ' H' { s' with heap := h4 } := J.landed nb fl4.1 ((up.trans up3).trans up4) os ag
          obtain ⟨oe4, vs4, he4, hz4, hd4⟩ := fl4.there
          have S4 := suite_in J J4 hI he4 hz4 hd4 na nL
          refine wpAny_mono ((hsu a cls d (X.pn ++ pins)).run [] _ _ _ _ S4 (w a na)) (fun f s6 hsp => ?_) (fun _ _ z => False.elim z)
          cases f with
          | next => obtain ⟨σ6, H6, S6, q6⟩ := hsp; exact ⟨_, _, suite_out S6 ok, q6⟩
          | brk => obtain ⟨σ6, H6, S6, q6⟩ := hsp; exact ⟨_, _, suite_out S6 ok, q6⟩
          | cont => obtain ⟨σ6, H6, S6, q6⟩ := hsp; exact ⟨_, _, suite_out S6 ok, q6⟩
          | ret u => obtain ⟨v6, σ6, H6, S6, r6, q6⟩ := hsp; exact ⟨_, _, _, suite_out S6 ok, r6, q6⟩
        | false =>
          show wpAny _ X.A (handleBy (.ref a) X.env hds2) _ _ _
          exact ih (by rw [if_neg Bool.false_ne_true] at w; exact w)
    exact go hh w
  · cases f with
    | next => obtain ⟨σ', H', J', q⟩ := hsp; exact wpAny_execs_nil ⟨σ', H', J'.ofTry ok, q⟩
    | brk => obtain ⟨σ', H', J', q⟩ := hsp; exact ⟨σ', H', J'.ofTry ok, q⟩
    | cont => obtain ⟨σ', H', J', q⟩ := hsp; exact ⟨σ', H', J'.ofTry ok, q⟩
    | ret u => obtain ⟨v, σ', H', J', r, q⟩ := hsp; exact ⟨v, σ', H', J'.ofTry ok, r, q⟩
end

/-! ### a held error: isinstance, its field -/
/-- a value's type, errors too -/
inductive TyE (K : Frag) (H : Hp) : V → Value → Prop where
  | x {x : V} {t : Value} (h : TyX K H x t) : TyE K H x t
  | e {a C CE : Addr} {d : Option Addr} (h : H a = some (ExH (.ref C) d a)) (hd : ∀ dd, d = some dd → ∃ fs, H dd = some (.xd fs)) (T : EcC K CE C) : TyE K H (.ref a) (.ref C)
def kIsi (K : Frag) : List V → Hp → VK → Prop := fun xs H Q => match xs with
  | [x, c] => ∃ (t u : Value) (b : Bool), ClsV c u ∧ TyE K H x t ∧ kitOne K t u = some b ∧ Q (.bl b) H
  | _ => False
section
variable {X : Cx} {CE : Addr}
theorem inst_exH {pins : List (Addr × Obj)} {σ : L2.St} {H : Hp} {s : Shared} {a C : Addr} {d : Option Addr} (I : Inv X pins σ H s) (h : H a = some (ExH (.ref C) d a)) (hd : ∀ dd, d = some dd → ∃ fs, H dd = some (.xd fs)) : ∃ oe od, InstAt s.heap a oe C od := by
  obtain ⟨oe, vs, he, hz, dt⟩ := exH_at I.hok h
  cases d with
  | none =>
    refine ⟨oe, none, ?_⟩
    obtain ⟨oc, od, oda, osl⟩ := oe
    obtain ⟨h1, h2⟩ := hz
    dsimp only at h1 h2 dt
    subst h1 h2 dt
    exact ⟨he, rfl, rfl, trivial⟩
  | some dd =>
    obtain ⟨fs, hx⟩ := hd dd rfl
    obtain ⟨mA, ⟨o, es, ep, ho, r⟩, _⟩ := (show ObjOk X.prog X.w H s.heap dd (.xd fs) from I.hok dd _ hx)
    exact ⟨oe, some o, he, hz.1, by unfold notCls; rw [dt] <;> rfl, by rw [hz.2]; exact ho⟩
theorem c_isi (B : EbC X.K X.mg CE) : CallR X (.builtin "isinstance") (kIsi X.K) := by
  intro pins s σ H xs us Q I r h
  match xs, h with
  | [x, c], ⟨t, u, b, hc, ty, ek, q⟩ =>
    cases ty with
    | x ty => exact call_isi pins s σ H [x, c] us Q I r ⟨x, c, t, u, b, rfl, hc, ty, ek, q⟩
    | e h hd T =>
      rename_i a C CE' d
      obtain ⟨u1, u2, rfl, r1, r2⟩ := vals2 r
      have e2 := hc.eq r2
      subst e2
      obtain rfl : u1 = Value.ref a := r1
      obtain ⟨oe, od, J⟩ := inst_exH I h hd
      obtain ⟨cd, hcl, _, _⟩ := T.clsIn
      exact kia_one (kitx_exc (by rw [hcl]; rfl) T.ga T.gg T.exC T.caC B.gcn B.tkn T.moC) I.kIn J ek (fun z => nomatch z) fun tk => ⟨.bl b, H, I.tok tk, rfl, q⟩
/-- isinstance(x, (c1, c2, ..)) -/
def kIsiT (K : Frag) : List V → Hp → VK → Prop := fun xs H Q => match xs with
  | [x, .ref tp] => ∃ (cs : List V) (us : List Value) (t : Value) (b : Bool), H tp = some (.tup cs) ∧ Paired ClsV cs us ∧ TyX K H x t ∧ kitAny K t us = some b ∧ Q (.bl b) H
  | _ => False
theorem c_isiT : CallR X (.builtin "isinstance") (kIsiT X.K) := crLe call_isiT fun xs H Q q => by
  match xs, q with
  | [x, .ref tp], ⟨cs, us, t, b, h1, h2, h3, h4, h5⟩ => exact ⟨x, tp, cs, t, us, b, rfl, h1, h2, h3, h4, h5⟩
/-- e.given, e a held error with its own dict -/
def tGiv (K : Frag) (f : Str) (te : TE) : TE := fun σ H Q => te σ H fun x H1 => match x with
  | .ref a => ∃ C CE dd fs v, H1 a = some (ExH (.ref C) (some dd) a) ∧ EcC K CE C ∧ findIn K (.ref C) f = some none ∧ H1 dd = some (.xd fs) ∧ fs.lookup f = some v ∧ Q v H1
  | _ => False
theorem giv_of {K : Frag} {f : Str} {x : V} {R : Addr → Prop} (h : match (motive := V → Prop) x with
    | .ref a => R a
    | _ => False) : ∃ a, x = .ref a ∧ R a := by
  cases x with
  | ref a => exact ⟨a, rfl, h⟩
  | _ => exact h.elim
theorem q_giv {e : Expr} {te : TE} {f : Str} {pos : Pos} (he : PE X e te) (hb : attributeBase e f X.env (eval e X.env) = eval e X.env := by rfl) : PE X (.Attribute e f pos) (tGiv X.K f te) := by
  refine ⟨fun pins s σ H Q I h => attr_of hb (thn (he.run pins s σ H _ I h) fun u s1 ⟨x, H1, I1, rx, q0⟩ => ?_)⟩
  obtain ⟨a, ex, C, CE, dd, fs, v, ha, T, hno, hx, hl, q⟩ := giv_of (K := X.K) (f := f) q0
  subst ex
  obtain rfl : u = Value.ref a := rx
  obtain ⟨oe, vs, hg, hz, dt⟩ := exH_at I1.hok ha
  obtain ⟨mA, hns, hr⟩ := (show ObjOk X.prog X.w H1 s1.heap dd (.xd fs) from I1.hok dd _ hx)
  obtain ⟨od, ho, hlk⟩ := lookIn_ns hns
  obtain ⟨u, hu, ru⟩ := RelO.some_of (v := v) (o := mA f) (by rw [← hl]; exact hr f)
  have J : InstAt s1.heap a oe C (some od) := ⟨hg, hz.1, by unfold notCls; rw [dt] <;> rfl, by rw [hz.2]; exact ho⟩
  exact HandSPX.exc_get I1.kIn J T.ga T.gg T.exC (findObj_own T.hdC hno rfl (by rw [hlk, hu])) (handed_of ru) ⟨v, H1, I1.tok _, ru, q⟩
end
end Ks

/-! KsZ: repr of data; what the data of a value is. -/
namespace Ks
open PySem PySem.Spec PyProof.Rows L2 PySem.W
/-- the data of a flat value -/
def flatP : V → Option PyData
  | .non => some .none
  | .bl b => some (.bool b)
  | .int i => some (.int i)
  | .str x => some (.str x)
  | _ => none
def keyP : Key → PyData
  | .inl i => .int i
  | .inr x => .str x
theorem reads_flat {h : Heap} {x : V} {u : Value} {d : PyData} (r : RelV x u) (e : flatP x = some d) : Reads h u d [] := by
  cases x with
  | non => cases e; cases (show u = Value.none from r); exact .none
  | bl b => cases e; cases (show u = Value.bool b from r); exact .bool b
  | int i => cases e; obtain ⟨t, rfl⟩ := r; exact .int i t
  | str x => cases e; obtain ⟨t, rfl⟩ := r; exact .str x t
  | _ => cases e
/-- a dict's entries as data -/
inductive KvP : List (Key × V) → List (PyData × PyData) → Prop
  | nil : KvP [] []
  | cons {k : Key} {v : V} {d : PyData} {kvs : List (Key × V)} {ds : List (PyData × PyData)} (e : flatP v = some d) (r : KvP kvs ds) : KvP ((k, v) :: kvs) ((keyP k, d) :: ds)
theorem reads_kv {P : Program} {w : World} {h : Heap} : ∀ {kvs : List (Key × V)} {ds : List (PyData × PyData)} {vs : List (Key × Value)} {es : List DictEntry}, KvP kvs ds → KV kvs vs → PySem.Pairs (mixKind P w) es vs →
    ReadsAll h (es.map (·.key)) (ds.map (·.1)) [] ∧ ReadsAll h (es.map (·.val)) (ds.map (·.2)) []
  | _, _, _, _, .nil, r, p => by
    cases r
    cases p
    exact ⟨.nil, .nil⟩
  | _, _, _, _, .cons e rr, r, p => by
    cases r with
    | cons h1 r =>
      cases p with
      | cons h2 hv p =>
        obtain ⟨q1, q2⟩ := reads_kv (h := h) rr r p
        obtain ⟨ek, rv⟩ := h1
        rename_i k v d kvs' ds' kv' vs' e' es'
        obtain ⟨k', u'⟩ := kv'
        dsimp only at ek rv hv h2
        subst ek
        refine ⟨?_, ?_⟩
        · show ReadsAll h (e'.key :: es'.map (·.key)) (keyP k :: ds'.map (·.1)) []
          refine .cons (as := []) (bs := []) ?_ q1
          rcases keyIs_shape (show keyIs k e'.key = true from h2) with ⟨i, t, rfl, ev⟩ | ⟨x, t, rfl, ev⟩
          · rw [ev]; exact .int i t
          · rw [ev]; exact .str x t
        · show ReadsAll h (e'.val :: es'.map (·.val)) (d :: ds'.map (·.2)) []
          refine .cons (as := []) (bs := []) ?_ q2
          rw [hv]; exact reads_flat rv e
mutual
theorem dp_noDict {K : Frag} {H : Hp} : ∀ {x : V} {d : PyData}, Dp K H x d → d.hasDict = false
  | _, _, .non => by simp only [PyData.hasDict]
  | _, _, .bl _ => by simp only [PyData.hasDict]
  | _, _, .int _ => by simp only [PyData.hasDict]
  | _, _, .str _ => by simp only [PyData.hasDict]
  | _, _, .lst _ h => by simp only [PyData.hasDict]; exact dpAll_noDict h
  | _, _, .tup _ h => by simp only [PyData.hasDict]; exact dpAll_noDict h
theorem dpAll_noDict {K : Frag} {H : Hp} : ∀ {xs : List V} {ds : List PyData}, DpAll K H xs ds → PyData.hasDictAll ds = false
  | _, _, .nil => by simp only [PyData.hasDictAll]
  | _, _, .cons h t => by simp only [PyData.hasDictAll, dp_noDict h, dpAll_noDict t, Bool.or_self]
end
/-- what repr shows of x: data without dicts, or a dict of flat ones -/
def RpZ (K : Frag) (H : Hp) (x : V) (z : Str) : Prop :=
  (∃ d, Dp K H x d ∧ d.showable = true ∧ d.shown.length ≤ sizeLine ∧ d.depth ≤ 40 ∧ z = d.shown) ∨
    ∃ a kvs ds, x = .ref a ∧ H a = some (.dK kvs) ∧ KvP kvs ds ∧ (PyData.dict ds).showable = true ∧ (PyData.dict ds).shown.length ≤ sizeLine ∧ (PyData.dict ds).depth ≤ 40 ∧ z = (PyData.dict ds).shown
def kRepr (K : Frag) : V → Hp → VK → Prop := fun x H Q => ∃ z, RpZ K H x z ∧ Q (.str z) H
theorem c_repr {X : Cx} (hu : X.A.units + 64 < cLine) (hg : X.A.guards = some []) : CallR X (.builtin "repr") (r1D (kRepr X.K)) := by
  intro pins s σ H xs us Q I r h
  match xs, h with
  | [x], h =>
    obtain ⟨u, rfl, rx⟩ := vals1 r
    obtain ⟨z, h, q⟩ := h
    rcases h with ⟨d, hd, sh, sz, dp, rfl⟩ | ⟨a, kvs, ds, ex, ha, kp, sh, sz, dp, rfl⟩
    · have nd := dp_noDict hd
      cases hd with
      | non => cases (show u = Value.none from rx); exact PySem.P.repr_of_none ⟨.str _, H, I.tok _, ⟨_, rfl⟩, q⟩
      | bl b => cases (show u = Value.bool b from rx); exact PySem.P.repr_of_bool ⟨.str _, H, I.tok _, ⟨_, rfl⟩, by cases b <;> exact q⟩
      | int i => obtain ⟨t, rfl⟩ := rx; exact PySem.P.repr_of_int (by simpa [PyData.showable] using sh) ⟨.str _, H, I.tok _, ⟨_, rfl⟩, q⟩
      | str x => obtain ⟨t, rfl⟩ := rx; exact PySem.P.repr_of_str ⟨.str _, H, I.tok _, ⟨_, rfl⟩, q⟩ (by simpa [PyData.shown] using sz)
      | lst h1 h2 =>
        obtain ⟨as, rd⟩ := Dp.reads I _ _ u (.lst h1 h2) rx
        cases (show u = _ from rx)
        exact repr_of_reads' rd sh (PyData.noDict_hsm nd) hg (by omega) (fun _ _ e => e) (fun h' u tk k => ⟨.str _, H, I.kept k, ⟨_, rfl⟩, q⟩) sz
      | tup h1 h2 =>
        obtain ⟨as, rd⟩ := Dp.reads I _ _ u (.tup h1 h2) rx
        cases (show u = _ from rx)
        exact repr_of_reads' rd sh (PyData.noDict_hsm nd) hg (by omega) (fun _ _ e => e) (fun h' u tk k => ⟨.str _, H, I.kept k, ⟨_, rfl⟩, q⟩) sz
    · subst ex
      cases (show u = _ from rx)
      obtain ⟨_, ns, vs, kv, o, es, ep, ho, hx, hda, ko, pr, nd⟩ := (show ObjOk X.prog X.w H s.heap a (.dK kvs) from I.hok a _ ha)
      obtain ⟨r1, r2⟩ := reads_kv (h := s.heap) kp kv pr
      have rd := Reads.dict ho hx.1 hda r1 r2
      exact repr_of_reads' rd sh (fun _ hm => by
        have e : sysModules = a := by simpa using hm
        rw [← e] at ns; simp at ns) hg (by omega) (fun _ _ e => e) (fun h' u tk k => ⟨.str _, H, I.kept k, ⟨_, rfl⟩, q⟩) sz
end Ks

/-! KsW: attributes, len(set(..)), range and slices by the values. -/
namespace Ks
open PySem PySem.Spec PyProof.Rows L2
/-- e.f of an instance of the class at C -/
def tF (C : Addr) (f : Str) (te : TE) : TE := fun σ H Q => te σ H fun x H1 => match x with
  | .ref a => ∃ dx fs, H1 a = some (.ins C dx fs) ∧ ∃ v, fs.lookup f = some v ∧ Q v H1
  | _ => False
/-- o.f = e -/
def sF (C : Addr) (f : Str) (to te : TE) : TS := fun D σ H => te σ H fun y H1 => to σ H1 fun x H2 => match x with
  | .ref a => ∃ dx fs, H2 a = some (.ins C dx fs) ∧ fs.length < 1000 ∧ D.nx σ (upd H2 a (.ins C dx (putF f y fs)))
  | _ => False
/-- .. as one of several targets -/
def gF (C : Addr) (f : Str) (to : TE) : TG := fun v σ H Q => to σ H fun x H1 => match x with
  | .ref a => ∃ dx fs, H1 a = some (.ins C dx fs) ∧ fs.length < 1000 ∧ Q σ (upd H1 a (.ins C dx (putF f v fs)))
  | _ => False
/-- o.f -= e, ints -/
def sFsub (C : Addr) (f : Str) (to te : TE) : TS := fun D σ H => to σ H fun x H1 => match x with
  | .ref a => ∃ dx fs, H1 a = some (.ins C dx fs) ∧ ∃ v, fs.lookup f = some v ∧ te σ H1 fun y H2 => ∃ i j, v = .int i ∧ y = .int j ∧ H2 a = some (.ins C dx fs) ∧ fs.length < 1000 ∧ D.nx σ (upd H2 a (.ins C dx (putF f (.int (i - j)) fs)))
  | _ => False
theorem ref_of {x : V} {R : Addr → Prop} (h : match (motive := V → Prop) x with
    | .ref a => R a
    | _ => False) : ∃ a, x = .ref a ∧ R a := by
  cases x with
  | ref a => exact ⟨a, rfl, h⟩
  | _ => exact h.elim
section
variable {X : Cx} {C : Addr} {f : Str} {o e : Expr} {to te : TE} {pos pos' : Pos}
theorem q_fld (cl : Cls X.K C) (n : NoAttr X.K C f) (he : PE X e te) (hb : attributeBase e f X.env (eval e X.env) = eval e X.env := by rfl) : PE X (.Attribute e f pos) (tF C f te) := by
  refine ⟨fun pins s σ H Q I h => attr_of hb (thn (he.run pins s σ H _ I h) fun u s1 ⟨x, H1, I1, rx, q0⟩ => ?_)⟩
  obtain ⟨a, ex, dx, fs, ea, v, l, q⟩ := ref_of (R := fun a => ∃ dx fs, H1 a = some (.ins C dx fs) ∧ ∃ v, fs.lookup f = some v ∧ Q v H1) q0
  subst ex
  obtain rfl : u = Value.ref a := rx
  exact getattr_ok I1 ea cl n l fun u' s2 I2 ru => ⟨v, H1, I2, ru, q⟩
theorem q_set (cl : Cls X.K C) (n : NoAttr X.K C f) (ho : PE X o to) (he : PE X e te) (hs : swapsWith e (some (.Attribute o f pos')) pos.line X.env = pure false := by rfl) : PS X (.Assign [.Attribute o f pos'] e pos) (sF C f to te) := by
  refine ⟨fun pins s σ H D I h => ?_⟩
  refine plainObj_wpAny_Assign_Attribute (thn (he.run pins s σ H _ I h) fun u s1 ⟨y, H1, I1, ry, q⟩ => thn (ho.run pins s1 σ H1 _ I1 q) fun ov s2 ⟨x, H2, I2, rx, q0⟩ => ?_) hs
  obtain ⟨a, ex, dx, fs, ea, l, q2⟩ := ref_of (R := fun a => ∃ dx fs, H2 a = some (.ins C dx fs) ∧ fs.length < 1000 ∧ D.nx σ (upd H2 a (.ins C dx (putF f y fs)))) q0
  subst ex
  obtain rfl : ov = Value.ref a := rx
  exact setattr_ok I2 ea cl n l ry fun s3 I3 => ⟨σ, _, I3, q2⟩
theorem qg_fld (cl : Cls X.K C) (n : NoAttr X.K C f) (ho : PE X o to)
    (ha : ∀ v, assign (.Attribute o f pos) X.env v = (do
      let ov ← holding [v] (eval o X.env)
      standAt pos.atName
      holding [v, ov] (setAttr ov f v)
      release [v, ov] []) := by intro _; rfl) : PG X (.Attribute o f pos) (gF C f to) := by
  refine ⟨fun pins s σ H v u Q I r h => ?_⟩
  rw [ha]
  refine wpAny_bind (wpAny_holding (thn (ho.run pins s σ H _ I h) fun ov s1 ⟨x, H1, I1, r1, q0⟩ => ?_))
  obtain ⟨a, ex, dx, fs, ea, l, q2⟩ := ref_of (R := fun a => ∃ dx fs, H1 a = some (.ins C dx fs) ∧ fs.length < 1000 ∧ Q σ (upd H1 a (.ins C dx (putF f v fs)))) q0
  subst ex
  obtain rfl : ov = Value.ref a := r1
  refine wpAny_bind (wpAny_standAt (wpAny_bind (wpAny_holding (setattr_ok I1 ea cl n l r fun s3 I3 => ?_))))
  exact wpAny_release ⟨σ, _, I3, q2⟩
theorem q_fsub (cl : Cls X.K C) (n : NoAttr X.K C f) (ho : PE X o to) (he : PE X e te) : PS X (.AugAssign (.Attribute o f pos') .Sub e pos) (sFsub C f to te) := by
  refine ⟨fun pins s σ H D I h => ?_⟩
  refine wpAny_AugAssign_AttributeAny (thn (ho.run pins s σ H _ I h) fun ov s1 ⟨x, H1, I1, rx, q0⟩ => ?_)
  obtain ⟨a, ex, dx, fs, ea, v, l, q⟩ := ref_of (R := fun a => ∃ dx fs, H1 a = some (.ins C dx fs) ∧ ∃ v, fs.lookup f = some v ∧ te σ H1 fun y H2 => ∃ i j, v = .int i ∧ y = .int j ∧ H2 a = some (.ins C dx fs) ∧ fs.length < 1000 ∧ D.nx σ (upd H2 a (.ins C dx (putF f (.int (i - j)) fs)))) q0
  subst ex
  obtain rfl : ov = Value.ref a := rx
  refine getattr_ok I1 ea cl n l fun u s2 I2 ru => thn (he.run pins s2 σ H1 _ I2 q) fun w3 s3 ⟨y, H2, I3, ry, i, j, ev, ey, ea', l', q4⟩ => ?_
  subst ev ey
  refine thn (in_sub pins s3 σ H2 _ _ u w3 (fun z H3 => z = .int (i - j) ∧ H3 = H2) I3 ru ry ⟨i, j, rfl, rfl, rfl, rfl⟩) fun w4 s4 ⟨z, H3, I4, rz, ez, eH⟩ => ?_
  subst ez eH
  exact setattr_ok I4 ea' cl n l' rz fun s5 I5 => ⟨σ, _, I5, q4⟩
end
/-! ### len(set(xs)) of ints, equal ones or not -/
theorem nodup_of_keys : ∀ {ks ns : List Int}, ks.Nodup → (∀ k, k ∈ ks ↔ k ∈ ns) → ks.length ≤ ns.length ∧ (ks.length = ns.length ↔ ns.Nodup)
  | ks, [], _, h => by
    cases ks with
    | nil => exact ⟨Nat.le_refl _, fun _ => List.nodup_nil, fun _ => rfl⟩
    | cons k r => exact absurd ((h k).mp List.mem_cons_self) (by simp)
  | ks, n :: ns, nd, h => by
    by_cases hn : n ∈ ns
    · have h' : ∀ k, k ∈ ks ↔ k ∈ ns := fun k => by
        rw [h k, List.mem_cons]
        exact ⟨fun z => z.elim (fun e => e ▸ hn) id, .inr⟩
      have := (nodup_of_keys nd h').1
      refine ⟨by rw [List.length_cons]; omega, fun e => ?_, fun e => ?_⟩
      · rw [List.length_cons] at e; omega
      · exact absurd hn (List.nodup_cons.mp e).1
    · have hk : n ∈ ks := (h n).mpr List.mem_cons_self
      have h' : ∀ k, k ∈ ks.erase n ↔ k ∈ ns := fun k => by
        rw [nd.mem_erase_iff, h k, List.mem_cons]
        refine ⟨fun ⟨a, b⟩ => b.resolve_left a, fun z => ⟨fun e => hn (e ▸ z), .inr z⟩⟩
      have q := nodup_of_keys (nd.erase n) h'
      have l : (ks.erase n).length + 1 = ks.length := by
        have := List.length_pos_of_mem hk
        rw [List.length_erase_of_mem hk]; omega
      rw [List.length_cons, List.nodup_cons]
      refine ⟨by omega, fun e => ⟨hn, q.2.mp (by omega)⟩, fun e => by have := q.2.mpr e.2; omega⟩
theorem firstMet_nd (val : Nat → Int) : ∀ i, (firstMet val i).Nodup
  | 0 => by rw [firstMet_zero]; exact List.nodup_nil
  | i + 1 => by
    rw [firstMet_succ]
    have ih := firstMet_nd val i
    unfold step_dedup
    split
    · exact ih
    · rename_i h
      refine List.nodup_append.mpr ⟨ih, by simp, fun a ha b hb e => h ?_⟩
      rw [List.mem_singleton] at hb
      subst hb e
      exact List.any_eq_true.mpr ⟨_, ha, by simp⟩
theorem firstMet_mem (ns : List Int) (k : Int) : k ∈ firstMet (fun i => ns.getD i 0) ns.length ↔ k ∈ ns := by
  have h := firstMet_any (fun i => ns.getD i 0) ns.length k
  have e : (List.range ns.length).map (fun i => ns.getD i 0) = ns := by
    apply List.ext_getElem?
    intro j
    rw [List.getElem?_map]
    by_cases hj : j < ns.length
    · rw [List.getElem?_range hj, List.getElem?_eq_getElem hj]
      simp [List.getD, List.getElem?_eq_getElem hj]
    · have h1 : (List.range ns.length)[j]? = none := List.getElem?_eq_none (by rw [List.length_range]; omega)
      have h2 : ns[j]? = none := List.getElem?_eq_none (by omega)
      rw [h1, h2]; rfl
  rw [e] at h
  have a1 : ∀ l : List Int, (l.any (· == k) = true) ↔ k ∈ l := fun l => by simp
  rw [← a1, ← a1, h]
theorem intsAre_v : ∀ {ns : List Int} {us : List Value}, Vals (ns.map V.int) us → PyProof.Rows.IntsAre us ns
  | [], _, .nil => .nil
  | n :: ns, _, .cons r t => by
    obtain ⟨k, rfl⟩ := r
    exact .cons n k (intsAre_v t)
def tLenSet (K : PySem.W.Frag) (ta : TE) : TE := fun σ H Q => ta σ H fun x H1 => match x with
  | .ref l => ∃ ns : List Int, (SqL K H1 l (ns.map V.int) ∨ SqT K H1 l (ns.map V.int)) ∧ ns.length ≤ 4000 ∧ ∀ n : Nat, n ≤ ns.length → (n = ns.length ↔ ns.Nodup) → Q (.int n) H1
  | _ => False
theorem q_lenSet {X : Cx} {a : Expr} {ta : TE} {p p2 q pos : Pos} (hc : X.calm = true) (hg : Gl X "len") (hm : X.mg "len" = none) (hg2 : Gl X "set") (hm2 : X.mg "set" = none) (ha : PE X a ta)
    (na : starEach [a] X.env = (false, eval a X.env) :: starEach [] X.env := by rfl) : PE X (.Call (.Name "len" p) [.Call (.Name "set" p2) [a] [] q] [] pos) (tLenSet X.K ta) := by
  refine ⟨fun pins s σ H Q I h => ?_⟩
  refine Call_ (ld_blt I hg hm PySem.boot_len ?_)
  refine PyProof.Rows.callWith_builtin1 (PyProof.Rows.args_cons ?_ rfl) rfl rfl
  refine Call_ (ld_blt I hg2 hm2 PyProof.Rows.boot_set ?_)
  refine PyProof.Rows.callWith_type1 (PyProof.Rows.args_cons (thn (ha.run pins s σ H _ I h) fun v s1 ⟨x, H1, I1, r1, q1⟩ => PyProof.Rows.args_nil ?_) na) na rfl
  obtain ⟨l, ex, ns, hq, hl, q2⟩ := ref_of (R := fun l => ∃ ns : List Int, (SqL X.K H1 l (ns.map V.int) ∨ SqT X.K H1 l (ns.map V.int)) ∧ ns.length ≤ 4000 ∧ ∀ n : Nat, n ≤ ns.length → (n = ns.length ↔ ns.Nodup) → Q (.int n) H1) q1
  subst ex
  cases r1
  rcases hq with hq | hq
  · obtain ⟨its, r, pl, hz⟩ := I1.list hq
    have hlen : its.toArray.size = ns.length := by rw [List.size_toArray, ← r.length, List.length_map]
    refine call_set_list (I1.ok.hd hc) pl.isList (by simpa using intsAre_v r) (by rw [hlen]; unfold scanBound; omega) fun h' tk hS hk => ?_
    refine PyProof.Rows.args_nil ?_
    rw [hlen] at hS
    obtain ⟨o, es, ep, t, ho, hex, hd, _, _, _, hf, hn⟩ := hS
    have hk2 := nodup_of_keys (firstMet_nd (fun i => ns.getD i 0) ns.length) (firstMet_mem ns)
    have I2 : Inv X pins σ H1 { s1 with heap := h', toks := tk } := I1.kept fun b o e => hk b o (Heap.lt_size e) e
    exact call_len_set ho hex hd hf (by rw [hn] <;> omega) ⟨.int (firstMet (fun i => ns.getD i 0) ns.length).length, H1, I2.tok _, ⟨_, by rw [hn]⟩, q2 _ hk2.1 hk2.2⟩
  · obtain ⟨its, r, pl, hz⟩ := I1.tuple hq
    have hlen : its.toArray.size = ns.length := by rw [List.size_toArray, ← r.length, List.length_map]
    refine L2.call_set_tupI ns (I1.ok.hd hc) pl (by simpa using intsAre_v r) (by unfold scanBound; omega) fun h' tk c hS hc' hk => ?_
    refine PyProof.Rows.args_nil ?_
    obtain ⟨o, es, ep, t, ho, hex, hd, _, nd, mem, _, hf, hn, _⟩ := hS
    have hk2 := nodup_of_keys (ks := es.toList.map L2.keyOf) (ns := ns) nd (fun k => (mem k).symm.trans (by simp))
    rw [List.length_map, Array.length_toList, hn] at hk2
    have I2 : Inv X pins σ H1 { s1 with heap := h', toks := tk } := I1.kept hk
    exact call_len_set ho hex hd hf (by rw [hn] <;> omega) ⟨.int c, H1, I2.tok _, ⟨_, by rw [hn]⟩, q2 _ hk2.1 hk2.2⟩
end Ks

/-! KsD: the text of the law by places; what the walk asks of the top. -/
namespace Ks
open PySem PySem.Spec PyProof.Rows L2 PySem.W
def top (i : Nat) : Stmt := PySem.Challenge.pw_keepstream_k64_disks_and_cuts.main.body.getD i (.Pass ⟨0, 0, 0, 0⟩)
theorem bt_len : bootBuiltins "len" = some (.builtin "len") := by decide +kernel
theorem bt_abs : bootBuiltins "abs" = some (.builtin "abs") := by decide +kernel
theorem bt_all : bootBuiltins "all" = some (.builtin "all") := by decide +kernel
theorem bt_sum : bootBuiltins "sum" = some (.builtin "sum") := by decide +kernel
theorem bt_max : bootBuiltins "max" = some (.builtin "max") := by decide +kernel
theorem bt_min : bootBuiltins "min" = some (.builtin "min") := by decide +kernel
theorem bt_repr : bootBuiltins "repr" = some (.builtin "repr") := by decide +kernel
theorem bt_isinstance : bootBuiltins "isinstance" = some (.builtin "isinstance") := by decide +kernel
theorem bt_int : bootBuiltins "int" = some (.type "int") := by decide +kernel
theorem bt_str : bootBuiltins "str" = some (.type "str") := by decide +kernel
theorem bt_list : bootBuiltins "list" = some (.type "list") := by decide +kernel
theorem bt_tuple : bootBuiltins "tuple" = some (.type "tuple") := by decide +kernel
theorem bt_bool : bootBuiltins "bool" = some (.type "bool") := by decide +kernel
theorem o_neg {X : Cx} : UnR X (unaryOp .USub) (kInt fun i => .int (-i)) := unLe un_neg fun x H Q h => by
  cases x with
  | int i => exact ⟨i, rfl, h⟩
  | _ => exact (show False from h).elim
theorem names_own {X : Cx} {x : Str} {C : Addr} (hg : Gl X x) (hm : X.mg x = some (.ref C)) (hd : (x == ("__debug__" : Str)) = false := by decide) : Names X x (.ref C) := ⟨hg, hd, .inl hm⟩
abbrev s_InvalidText_init : Stmt := inClass (top 2) 0
theorem sc_InvalidText_init : FnScope ["self", "given"] ["self", "given"] (defScope s_InvalidText_init) := ⟨rfl, rfl, rfl, by decide +kernel, rfl, by decide +kernel, by decide +kernel⟩
abbrev s_InvalidWidth_init : Stmt := inClass (top 3) 0
theorem sc_InvalidWidth_init : FnScope ["self", "given"] ["self", "given"] (defScope s_InvalidWidth_init) := ⟨rfl, rfl, rfl, by decide +kernel, rfl, by decide +kernel, by decide +kernel⟩
abbrev s_InvalidPages_init : Stmt := inClass (top 4) 0
theorem sc_InvalidPages_init : FnScope ["self", "given"] ["self", "given"] (defScope s_InvalidPages_init) := ⟨rfl, rfl, rfl, by decide +kernel, rfl, by decide +kernel, by decide +kernel⟩
abbrev s_InvalidPage_init : Stmt := inClass (top 5) 0
theorem sc_InvalidPage_init : FnScope ["self", "given"] ["self", "given"] (defScope s_InvalidPage_init) := ⟨rfl, rfl, rfl, by decide +kernel, rfl, by decide +kernel, by decide +kernel⟩
abbrev s_InvalidCount_init : Stmt := inClass (top 6) 0
theorem sc_InvalidCount_init : FnScope ["self", "given"] ["self", "given"] (defScope s_InvalidCount_init) := ⟨rfl, rfl, rfl, by decide +kernel, rfl, by decide +kernel, by decide +kernel⟩
abbrev s_InvalidDone_init : Stmt := inClass (top 7) 0
theorem sc_InvalidDone_init : FnScope ["self", "given"] ["self", "given"] (defScope s_InvalidDone_init) := ⟨rfl, rfl, rfl, by decide +kernel, rfl, by decide +kernel, by decide +kernel⟩
abbrev s_PowerCut_init : Stmt := inClass (top 8) 0
theorem sc_PowerCut_init : FnScope ["self"] ["self"] (defScope s_PowerCut_init) := ⟨rfl, rfl, rfl, by decide +kernel, rfl, by decide +kernel, by decide +kernel⟩
abbrev s_is_whole : Stmt := top 10
theorem sc_is_whole : FnScope ["value"] ["value"] (defScope s_is_whole) := ⟨rfl, rfl, rfl, by decide +kernel, rfl, by decide +kernel, by decide +kernel⟩
abbrev s_is_from_to : Stmt := top 11
theorem sc_is_from_to : FnScope ["value", "low", "high"] ["value", "low", "high"] (defScope s_is_from_to) := ⟨rfl, rfl, rfl, by decide +kernel, rfl, by decide +kernel, by decide +kernel⟩
abbrev s_is_index : Stmt := top 12
theorem sc_is_index : FnScope ["value", "many"] ["value", "many"] (defScope s_is_index) := ⟨rfl, rfl, rfl, by decide +kernel, rfl, by decide +kernel, by decide +kernel⟩
abbrev s_is_listed : Stmt := top 13
theorem sc_is_listed : FnScope ["value"] ["value"] (defScope s_is_listed) := ⟨rfl, rfl, rfl, by decide +kernel, rfl, by decide +kernel, by decide +kernel⟩
abbrev s_are_unlike : Stmt := top 14
theorem sc_are_unlike : FnScope ["items"] ["items"] (defScope s_are_unlike) := ⟨rfl, rfl, rfl, by decide +kernel, rfl, by decide +kernel, by decide +kernel⟩
abbrev s_ascend : Stmt := top 15
theorem sc_ascend : FnScope ["items", "at"] ["items"] (defScope s_ascend) := ⟨rfl, rfl, rfl, by decide +kernel, rfl, by decide +kernel, by decide +kernel⟩
abbrev s_are_indices : Stmt := top 16
theorem sc_are_indices : FnScope ["value", "many", "item"] ["value", "many"] (defScope s_are_indices) := ⟨rfl, rfl, rfl, by decide +kernel, rfl, by decide +kernel, by decide +kernel⟩
abbrev s_are_kept : Stmt := top 17
theorem sc_are_kept : FnScope ["value", "many"] ["value", "many"] (defScope s_are_kept) := ⟨rfl, rfl, rfl, by decide +kernel, rfl, by decide +kernel, by decide +kernel⟩
abbrev s_is_page_text : Stmt := top 23
theorem sc_is_page_text : FnScope ["value", "width", "sign"] ["value", "width"] (defScope s_is_page_text) := ⟨rfl, rfl, rfl, by decide +kernel, rfl, by decide +kernel, by decide +kernel⟩
abbrev s_Disk_init : Stmt := inClass (top 24) 0
theorem sc_Disk_init : FnScope ["self", "pages", "width"] ["self", "pages", "width"] (defScope s_Disk_init) := ⟨rfl, rfl, rfl, by decide +kernel, rfl, by decide +kernel, by decide +kernel⟩
abbrev s_Disk_check_page : Stmt := inClass (top 24) 1
theorem sc_Disk_check_page : FnScope ["self", "page"] ["self", "page"] (defScope s_Disk_check_page) := ⟨rfl, rfl, rfl, by decide +kernel, rfl, by decide +kernel, by decide +kernel⟩
abbrev s_Disk_spend : Stmt := inClass (top 24) 2
theorem sc_Disk_spend : FnScope ["self"] ["self"] (defScope s_Disk_spend) := ⟨rfl, rfl, rfl, by decide +kernel, rfl, by decide +kernel, by decide +kernel⟩
abbrev s_Disk_read : Stmt := inClass (top 24) 3
theorem sc_Disk_read : FnScope ["self", "page"] ["self", "page"] (defScope s_Disk_read) := ⟨rfl, rfl, rfl, by decide +kernel, rfl, by decide +kernel, by decide +kernel⟩
abbrev s_Disk_write : Stmt := inClass (top 24) 4
theorem sc_Disk_write : FnScope ["self", "page", "text"] ["self", "page", "text"] (defScope s_Disk_write) := ⟨rfl, rfl, rfl, by decide +kernel, rfl, by decide +kernel, by decide +kernel⟩
abbrev s_Disk_settle : Stmt := inClass (top 24) 5
theorem sc_Disk_settle : FnScope ["self"] ["self"] (defScope s_Disk_settle) := ⟨rfl, rfl, rfl, by decide +kernel, rfl, by decide +kernel, by decide +kernel⟩
abbrev s_Disk_loose : Stmt := inClass (top 24) 6
theorem sc_Disk_loose : FnScope ["self", "page", "text"] ["self"] (defScope s_Disk_loose) := ⟨rfl, rfl, rfl, by decide +kernel, rfl, by decide +kernel, by decide +kernel⟩
abbrev s_Disk_stop : Stmt := inClass (top 24) 7
theorem sc_Disk_stop : FnScope ["self", "count"] ["self", "count"] (defScope s_Disk_stop) := ⟨rfl, rfl, rfl, by decide +kernel, rfl, by decide +kernel, by decide +kernel⟩
abbrev s_Disk_cut : Stmt := inClass (top 24) 8
theorem sc_Disk_cut : FnScope ["self", "done", "lasting", "at", "page", "text", "rest"] ["self", "done"] (defScope s_Disk_cut) := ⟨rfl, rfl, rfl, by decide +kernel, rfl, by decide +kernel, by decide +kernel⟩
abbrev s_law_cell : Stmt := top 26
theorem sc_law_cell : FnScope ["script", "k"] ["script", "k"] (defScope s_law_cell) := ⟨rfl, rfl, rfl, by decide +kernel, rfl, by decide +kernel, by decide +kernel⟩
abbrev s_law_box : Stmt := top 27
theorem sc_law_box : FnScope ["great"] ["great"] (defScope s_law_box) := ⟨rfl, rfl, rfl, by decide +kernel, rfl, by decide +kernel, by decide +kernel⟩
abbrev s_law_take : Stmt := top 28
theorem sc_law_take : FnScope ["box", "many", "digit", "mixed"] ["box", "many"] (defScope s_law_take) := ⟨rfl, rfl, rfl, by decide +kernel, rfl, by decide +kernel, by decide +kernel⟩
abbrev s_law_text : Stmt := top 29
theorem sc_law_text : FnScope ["box", "many", "signs", "k"] ["box", "many"] (defScope s_law_text) := ⟨rfl, rfl, rfl, by decide +kernel, rfl, by decide +kernel, by decide +kernel⟩
abbrev s_law_good_text : Stmt := top 30
theorem sc_law_good_text : FnScope ["box", "width", "way", "stem"] ["box", "width"] (defScope s_law_good_text) := ⟨rfl, rfl, rfl, by decide +kernel, rfl, by decide +kernel, by decide +kernel⟩
abbrev s_law_bad_text : Stmt := top 31
theorem sc_law_bad_text : FnScope ["way", "stem", "width", "at", "long"] ["way", "stem", "width"] (defScope s_law_bad_text) := ⟨rfl, rfl, rfl, by decide +kernel, rfl, by decide +kernel, by decide +kernel⟩
abbrev s_law_bad_page : Stmt := top 32
theorem sc_law_bad_page : FnScope ["way", "pages"] ["way", "pages"] (defScope s_law_bad_page) := ⟨rfl, rfl, rfl, by decide +kernel, rfl, by decide +kernel, by decide +kernel⟩
abbrev s_law_bad_count : Stmt := top 33
theorem sc_law_bad_count : FnScope ["way"] ["way"] (defScope s_law_bad_count) := ⟨rfl, rfl, rfl, by decide +kernel, rfl, by decide +kernel, by decide +kernel⟩
abbrev s_law_bad_size : Stmt := top 34
theorem sc_law_bad_size : FnScope ["way", "low", "high"] ["way", "low", "high"] (defScope s_law_bad_size) := ⟨rfl, rfl, rfl, by decide +kernel, rfl, by decide +kernel, by decide +kernel⟩
abbrev s_law_same : Stmt := top 35
theorem sc_law_same : FnScope ["e", "value"] ["e", "value"] (defScope s_law_same) := ⟨rfl, rfl, rfl, by decide +kernel, rfl, by decide +kernel, by decide +kernel⟩
abbrev s_law_made : Stmt := top 36
theorem sc_law_made : FnScope ["pages", "width", "by_name", "e"] ["pages", "width", "by_name"] (defScope s_law_made) := ⟨rfl, rfl, rfl, by decide +kernel, rfl, by decide +kernel, by decide +kernel⟩
abbrev s_law_write : Stmt := top 37
theorem sc_law_write : FnScope ["disk", "page", "text", "by_name", "e"] ["disk", "page", "text", "by_name"] (defScope s_law_write) := ⟨rfl, rfl, rfl, by decide +kernel, rfl, by decide +kernel, by decide +kernel⟩
abbrev s_law_settle : Stmt := top 38
theorem sc_law_settle : FnScope ["disk", "e"] ["disk"] (defScope s_law_settle) := ⟨rfl, rfl, rfl, by decide +kernel, rfl, by decide +kernel, by decide +kernel⟩
abbrev s_law_read : Stmt := top 39
theorem sc_law_read : FnScope ["disk", "page", "by_name", "e"] ["disk", "page", "by_name"] (defScope s_law_read) := ⟨rfl, rfl, rfl, by decide +kernel, rfl, by decide +kernel, by decide +kernel⟩
abbrev s_law_stop : Stmt := top 40
theorem sc_law_stop : FnScope ["disk", "count", "by_name", "e"] ["disk", "count", "by_name"] (defScope s_law_stop) := ⟨rfl, rfl, rfl, by decide +kernel, rfl, by decide +kernel, by decide +kernel⟩
abbrev s_law_new : Stmt := top 41
theorem sc_law_new : FnScope ["pages", "width"] ["pages", "width"] (defScope s_law_new) := ⟨rfl, rfl, rfl, by decide +kernel, rfl, by decide +kernel, by decide +kernel⟩
abbrev s_law_let : Stmt := top 42
theorem sc_law_let : FnScope ["state"] ["state"] (defScope s_law_let) := ⟨rfl, rfl, rfl, by decide +kernel, rfl, by decide +kernel, by decide +kernel⟩
abbrev s_law_state_right : Stmt := top 43
theorem sc_law_state_right : FnScope ["disk", "state", "by_name", "told", "page"] ["disk", "state", "by_name"] (defScope s_law_state_right) := ⟨rfl, rfl, rfl, by decide +kernel, rfl, by decide +kernel, by decide +kernel⟩
abbrev s_law_write_right : Stmt := top 44
theorem sc_law_write_right : FnScope ["box", "disk", "state", "by_name", "page", "text", "let", "told"] ["box", "disk", "state", "by_name"] (defScope s_law_write_right) := ⟨rfl, rfl, rfl, by decide +kernel, rfl, by decide +kernel, by decide +kernel⟩
abbrev s_law_settle_right : Stmt := top 45
theorem sc_law_settle_right : FnScope ["disk", "state", "let", "told"] ["disk", "state"] (defScope s_law_settle_right) := ⟨rfl, rfl, rfl, by decide +kernel, rfl, by decide +kernel, by decide +kernel⟩
abbrev s_law_stop_right : Stmt := top 46
theorem sc_law_stop_right : FnScope ["disk", "state", "count", "by_name", "told"] ["disk", "state", "count", "by_name"] (defScope s_law_stop_right) := ⟨rfl, rfl, rfl, by decide +kernel, rfl, by decide +kernel, by decide +kernel⟩
abbrev s_law_loose_right : Stmt := top 47
theorem sc_law_loose_right : FnScope ["box", "disk", "state", "told", "way"] ["box", "disk", "state"] (defScope s_law_loose_right) := ⟨rfl, rfl, rfl, by decide +kernel, rfl, by decide +kernel, by decide +kernel⟩
abbrev s_law_deed_right : Stmt := top 48
theorem sc_law_deed_right : FnScope ["box", "disk", "state", "by_name", "way", "odd", "stem", "bad", "page", "text"] ["box", "disk", "state", "by_name"] (defScope s_law_deed_right) := ⟨rfl, rfl, rfl, by decide +kernel, rfl, by decide +kernel, by decide +kernel⟩
abbrev s_law_stopped_right : Stmt := top 49
theorem sc_law_stopped_right : FnScope ["box", "disk", "state", "by_name", "count", "turn", "settled", "good"] ["box", "disk", "state", "by_name"] (defScope s_law_stopped_right) := ⟨rfl, rfl, rfl, by decide +kernel, rfl, by decide +kernel, by decide +kernel⟩
abbrev s_law_sizes_right : Stmt := top 50
theorem sc_law_sizes_right : FnScope ["box", "by_name", "pages", "width", "told", "way"] ["box", "by_name"] (defScope s_law_sizes_right) := ⟨rfl, rfl, rfl, by decide +kernel, rfl, by decide +kernel, by decide +kernel⟩
abbrev s_law_pair_right : Stmt := top 51
theorem sc_law_pair_right : FnScope ["box", "by_name", "sizes", "pairs", "held", "turn", "which", "disk", "state", "other", "told", "pages", "width", "text"] ["box"] (defScope s_law_pair_right) := ⟨rfl, rfl, rfl, by decide +kernel, rfl, by decide +kernel, by decide +kernel⟩
abbrev s_law_long_right : Stmt := top 52
theorem sc_law_long_right : FnScope ["box", "disk", "state", "turn", "way", "good"] ["box"] (defScope s_law_long_right) := ⟨rfl, rfl, rfl, by decide +kernel, rfl, by decide +kernel, by decide +kernel⟩
abbrev s_law_first : Stmt := top 53
theorem sc_law_first : FnScope ["script", "k", "box"] ["script"] (defScope s_law_first) := ⟨rfl, rfl, rfl, by decide +kernel, rfl, by decide +kernel, by decide +kernel⟩
abbrev s_law_text_too : Stmt := top 54
theorem sc_law_text_too : FnScope ["box", "signs", "k"] ["box"] (defScope s_law_text_too) := ⟨rfl, rfl, rfl, by decide +kernel, rfl, by decide +kernel, by decide +kernel⟩
abbrev s_law_behind : Stmt := top 55
theorem sc_law_behind : FnScope ["texts", "writes", "found", "page", "text"] ["texts", "writes"] (defScope s_law_behind) := ⟨rfl, rfl, rfl, by decide +kernel, rfl, by decide +kernel, by decide +kernel⟩
abbrev s_law_cut_of : Stmt := top 56
theorem sc_law_cut_of : FnScope ["state", "done", "at"] ["state", "done"] (defScope s_law_cut_of) := ⟨rfl, rfl, rfl, by decide +kernel, rfl, by decide +kernel, by decide +kernel⟩
abbrev s_law_state_right_too : Stmt := top 57
theorem sc_law_state_right_too : FnScope ["disk", "state", "page", "text"] ["disk", "state"] (defScope s_law_state_right_too) := ⟨rfl, rfl, rfl, by decide +kernel, rfl, by decide +kernel, by decide +kernel⟩
abbrev s_law_wrote : Stmt := top 58
theorem sc_law_wrote : FnScope ["disk", "state", "page", "text", "let", "e"] ["disk", "state", "page", "text"] (defScope s_law_wrote) := ⟨rfl, rfl, rfl, by decide +kernel, rfl, by decide +kernel, by decide +kernel⟩
abbrev s_law_settled : Stmt := top 59
theorem sc_law_settled : FnScope ["disk", "state", "let", "e"] ["disk", "state"] (defScope s_law_settled) := ⟨rfl, rfl, rfl, by decide +kernel, rfl, by decide +kernel, by decide +kernel⟩
abbrev s_law_stopped : Stmt := top 60
theorem sc_law_stopped : FnScope ["disk", "state", "count"] ["disk", "state", "count"] (defScope s_law_stopped) := ⟨rfl, rfl, rfl, by decide +kernel, rfl, by decide +kernel, by decide +kernel⟩
abbrev s_law_cut : Stmt := top 61
theorem sc_law_cut : FnScope ["disk", "done", "by_name", "e"] ["disk", "done", "by_name"] (defScope s_law_cut) := ⟨rfl, rfl, rfl, by decide +kernel, rfl, by decide +kernel, by decide +kernel⟩
abbrev s_law_bad_done : Stmt := top 62
theorem sc_law_bad_done : FnScope ["way", "many", "some", "menu"] ["way", "many"] (defScope s_law_bad_done) := ⟨rfl, rfl, rfl, by decide +kernel, rfl, by decide +kernel, by decide +kernel⟩
abbrev s_law_lists : Stmt := top 63
theorem sc_law_lists : FnScope ["box", "many", "some", "found", "at", "k", "done"] ["box", "many"] (defScope s_law_lists) := ⟨rfl, rfl, rfl, by decide +kernel, rfl, by decide +kernel, by decide +kernel⟩
abbrev s_law_refused_right : Stmt := top 64
theorem sc_law_refused_right : FnScope ["box", "disk", "state", "by_name", "way"] ["box", "disk", "state", "by_name"] (defScope s_law_refused_right) := ⟨rfl, rfl, rfl, by decide +kernel, rfl, by decide +kernel, by decide +kernel⟩
abbrev s_law_one_right : Stmt := top 65
theorem sc_law_one_right : FnScope ["box", "disk", "state", "done", "by_name", "passed", "told", "new", "left", "turn"] ["box", "disk", "state", "done", "by_name"] (defScope s_law_one_right) := ⟨rfl, rfl, rfl, by decide +kernel, rfl, by decide +kernel, by decide +kernel⟩
abbrev s_law_grown : Stmt := top 66
theorem sc_law_grown : FnScope ["box", "disk", "state", "pages", "turn", "k"] ["box", "disk", "state"] (defScope s_law_grown) := ⟨rfl, rfl, rfl, by decide +kernel, rfl, by decide +kernel, by decide +kernel⟩
abbrev s_law_chain_right : Stmt := top 67
theorem sc_law_chain_right : FnScope ["box", "by_name", "pages", "disk", "state", "others", "turn", "found", "done", "one"] ["box"] (defScope s_law_chain_right) := ⟨rfl, rfl, rfl, by decide +kernel, rfl, by decide +kernel, by decide +kernel⟩
abbrev s_law_great_right : Stmt := top 68
theorem sc_law_great_right : FnScope ["box", "disk", "state", "turn", "text", "half", "done", "at"] ["box"] (defScope s_law_great_right) := ⟨rfl, rfl, rfl, by decide +kernel, rfl, by decide +kernel, by decide +kernel⟩
abbrev s_law_second : Stmt := top 69
theorem sc_law_second : FnScope ["script", "k"] ["script"] (defScope s_law_second) := ⟨rfl, rfl, rfl, by decide +kernel, rfl, by decide +kernel, by decide +kernel⟩
abbrev s_law : Stmt := top 70
theorem sc_law : FnScope ["script"] ["script"] (defScope s_law) := ⟨rfl, rfl, rfl, by decide +kernel, rfl, by decide +kernel, by decide +kernel⟩
/-- what the top has written, as the walk asks it: a: the defs, c: the classes -/
structure Wd (K : PySem.W.Frag) (mg : Str → Option Value) (a : Nat → Addr × FuncData) (c : Nat → Addr) : Prop where
  n_len : mg "len" = none
  n_abs : mg "abs" = none
  n_all : mg "all" = none
  n_sum : mg "sum" = none
  n_max : mg "max" = none
  n_min : mg "min" = none
  n_repr : mg "repr" = none
  n_isinstance : mg "isinstance" = none
  n_int : mg "int" = none
  n_str : mg "str" = none
  n_list : mg "list" = none
  n_tuple : mg "tuple" = none
  n_range : mg "range" = none
  n_set : mg "set" = none
  n_bool : mg "bool" = none
  k_LEAST_PAGES : ∃ u, mg "LEAST_PAGES" = some u ∧ RelV (.int 3) u
  k_MOST_PAGES : ∃ u, mg "MOST_PAGES" = some u ∧ RelV (.int 40) u
  k_LEAST_WIDTH : ∃ u, mg "LEAST_WIDTH" = some u ∧ RelV (.int 20) u
  k_MOST_WIDTH : ∃ u, mg "MOST_WIDTH" = some u ∧ RelV (.int 400) u
  eb : EbC K mg (c 0)
  mg_EarlierError : mg "EarlierError" = some (.ref (c 0))
  mg_InvalidText : mg "InvalidText" = some (.ref (c 1))
  mg_InvalidWidth : mg "InvalidWidth" = some (.ref (c 2))
  mg_InvalidPages : mg "InvalidPages" = some (.ref (c 3))
  mg_InvalidPage : mg "InvalidPage" = some (.ref (c 4))
  mg_InvalidCount : mg "InvalidCount" = some (.ref (c 5))
  mg_InvalidDone : mg "InvalidDone" = some (.ref (c 6))
  mg_PowerCut : mg "PowerCut" = some (.ref (c 7))
  mg_Disk : mg "Disk" = some (.ref (c 8))
  cl : Cls K (c 8)
  a_pages : NoAttr K (c 8) "pages"
  a_width : NoAttr K (c 8) "width"
  a_lasting : NoAttr K (c 8) "lasting"
  a_texts : NoAttr K (c 8) "texts"
  a_writes : NoAttr K (c 8) "writes"
  a_left : NoAttr K (c 8) "left"
  ss_InvalidText : subIn K (.ref (c 1)) (.ref (c 1)) = some true
  ss_InvalidWidth : subIn K (.ref (c 2)) (.ref (c 2)) = some true
  ss_InvalidPages : subIn K (.ref (c 3)) (.ref (c 3)) = some true
  ss_InvalidPage : subIn K (.ref (c 4)) (.ref (c 4)) = some true
  ss_InvalidCount : subIn K (.ref (c 5)) (.ref (c 5)) = some true
  ss_InvalidDone : subIn K (.ref (c 6)) (.ref (c 6)) = some true
  ss_PowerCut : subIn K (.ref (c 7)) (.ref (c 7)) = some true
  sf_InvalidWidth_InvalidPages : subIn K (.ref (c 2)) (.ref (c 3)) = some false
  sf_InvalidText_InvalidPage : subIn K (.ref (c 1)) (.ref (c 4)) = some false
  sf_PowerCut_InvalidPage : subIn K (.ref (c 7)) (.ref (c 4)) = some false
  sf_PowerCut_InvalidText : subIn K (.ref (c 7)) (.ref (c 1)) = some false
  dcC : findIn K (.ref (c 8)) "__class__" = some (some (.builtin "object.__class__"))
  dmo : mroIn K (c 8) (.type "object") = some true
  e_InvalidText : Ed K mg (c 0) "InvalidText" (c 1) "InvalidText.__init__" s_InvalidText_init ["self", "given"] (a 0).1 (a 0).2
  en_InvalidText : findIn K (.ref (c 1)) "given" = some none
  e_InvalidWidth : Ed K mg (c 0) "InvalidWidth" (c 2) "InvalidWidth.__init__" s_InvalidWidth_init ["self", "given"] (a 1).1 (a 1).2
  en_InvalidWidth : findIn K (.ref (c 2)) "given" = some none
  e_InvalidPages : Ed K mg (c 0) "InvalidPages" (c 3) "InvalidPages.__init__" s_InvalidPages_init ["self", "given"] (a 2).1 (a 2).2
  en_InvalidPages : findIn K (.ref (c 3)) "given" = some none
  e_InvalidPage : Ed K mg (c 0) "InvalidPage" (c 4) "InvalidPage.__init__" s_InvalidPage_init ["self", "given"] (a 3).1 (a 3).2
  en_InvalidPage : findIn K (.ref (c 4)) "given" = some none
  e_InvalidCount : Ed K mg (c 0) "InvalidCount" (c 5) "InvalidCount.__init__" s_InvalidCount_init ["self", "given"] (a 4).1 (a 4).2
  en_InvalidCount : findIn K (.ref (c 5)) "given" = some none
  e_InvalidDone : Ed K mg (c 0) "InvalidDone" (c 6) "InvalidDone.__init__" s_InvalidDone_init ["self", "given"] (a 5).1 (a 5).2
  en_InvalidDone : findIn K (.ref (c 6)) "given" = some none
  e_PowerCut : Ed K mg (c 0) "PowerCut" (c 7) "PowerCut.__init__" s_PowerCut_init ["self"] (a 6).1 (a 6).2
  en_PowerCut : findIn K (.ref (c 7)) "given" = some none
  g_is_whole : Gd K mg "is_whole" s_is_whole ["value"] (a 7).1 (a 7).2
  g_is_from_to : Gd K mg "is_from_to" s_is_from_to ["value", "low", "high"] (a 8).1 (a 8).2
  g_is_index : Gd K mg "is_index" s_is_index ["value", "many"] (a 9).1 (a 9).2
  g_is_listed : Gd K mg "is_listed" s_is_listed ["value"] (a 10).1 (a 10).2
  g_are_unlike : Gd K mg "are_unlike" s_are_unlike ["items"] (a 11).1 (a 11).2
  g_ascend : Gd K mg "ascend" s_ascend ["items"] (a 12).1 (a 12).2
  g_are_indices : Gd K mg "are_indices" s_are_indices ["value", "many"] (a 13).1 (a 13).2
  g_are_kept : Gd K mg "are_kept" s_are_kept ["value", "many"] (a 14).1 (a 14).2
  g_is_page_text : Gd K mg "is_page_text" s_is_page_text ["value", "width"] (a 15).1 (a 15).2
  kd : Kd K mg "Disk" (c 8) "Disk.__init__" s_Disk_init ["self", "pages", "width"] (a 16).1 (a 16).2
  m_check_page : Md K (c 8) "check_page" "Disk.check_page" s_Disk_check_page ["self", "page"] (a 17).1 (a 17).2
  m_spend : Md K (c 8) "spend" "Disk.spend" s_Disk_spend ["self"] (a 18).1 (a 18).2
  m_read : Md K (c 8) "read" "Disk.read" s_Disk_read ["self", "page"] (a 19).1 (a 19).2
  m_write : Md K (c 8) "write" "Disk.write" s_Disk_write ["self", "page", "text"] (a 20).1 (a 20).2
  m_settle : Md K (c 8) "settle" "Disk.settle" s_Disk_settle ["self"] (a 21).1 (a 21).2
  m_loose : Md K (c 8) "loose" "Disk.loose" s_Disk_loose ["self"] (a 22).1 (a 22).2
  m_stop : Md K (c 8) "stop" "Disk.stop" s_Disk_stop ["self", "count"] (a 23).1 (a 23).2
  m_cut : Md K (c 8) "cut" "Disk.cut" s_Disk_cut ["self", "done"] (a 24).1 (a 24).2
  g_law_cell : Gd K mg "_law_cell" s_law_cell ["script", "k"] (a 25).1 (a 25).2
  g_law_box : Gd K mg "_law_box" s_law_box ["great"] (a 26).1 (a 26).2
  g_law_take : Gd K mg "_law_take" s_law_take ["box", "many"] (a 27).1 (a 27).2
  g_law_text : Gd K mg "_law_text" s_law_text ["box", "many"] (a 28).1 (a 28).2
  g_law_good_text : Gd K mg "_law_good_text" s_law_good_text ["box", "width"] (a 29).1 (a 29).2
  g_law_bad_text : Gd K mg "_law_bad_text" s_law_bad_text ["way", "stem", "width"] (a 30).1 (a 30).2
  g_law_bad_page : Gd K mg "_law_bad_page" s_law_bad_page ["way", "pages"] (a 31).1 (a 31).2
  g_law_bad_count : Gd K mg "_law_bad_count" s_law_bad_count ["way"] (a 32).1 (a 32).2
  g_law_bad_size : Gd K mg "_law_bad_size" s_law_bad_size ["way", "low", "high"] (a 33).1 (a 33).2
  g_law_same : Gd K mg "_law_same" s_law_same ["e", "value"] (a 34).1 (a 34).2
  g_law_made : Gd K mg "_law_made" s_law_made ["pages", "width", "by_name"] (a 35).1 (a 35).2
  g_law_write : Gd K mg "_law_write" s_law_write ["disk", "page", "text", "by_name"] (a 36).1 (a 36).2
  g_law_settle : Gd K mg "_law_settle" s_law_settle ["disk"] (a 37).1 (a 37).2
  g_law_read : Gd K mg "_law_read" s_law_read ["disk", "page", "by_name"] (a 38).1 (a 38).2
  g_law_stop : Gd K mg "_law_stop" s_law_stop ["disk", "count", "by_name"] (a 39).1 (a 39).2
  g_law_new : Gd K mg "_law_new" s_law_new ["pages", "width"] (a 40).1 (a 40).2
  g_law_let : Gd K mg "_law_let" s_law_let ["state"] (a 41).1 (a 41).2
  g_law_state_right : Gd K mg "_law_state_right" s_law_state_right ["disk", "state", "by_name"] (a 42).1 (a 42).2
  g_law_write_right : Gd K mg "_law_write_right" s_law_write_right ["box", "disk", "state", "by_name"] (a 43).1 (a 43).2
  g_law_settle_right : Gd K mg "_law_settle_right" s_law_settle_right ["disk", "state"] (a 44).1 (a 44).2
  g_law_stop_right : Gd K mg "_law_stop_right" s_law_stop_right ["disk", "state", "count", "by_name"] (a 45).1 (a 45).2
  g_law_loose_right : Gd K mg "_law_loose_right" s_law_loose_right ["box", "disk", "state"] (a 46).1 (a 46).2
  g_law_deed_right : Gd K mg "_law_deed_right" s_law_deed_right ["box", "disk", "state", "by_name"] (a 47).1 (a 47).2
  g_law_stopped_right : Gd K mg "_law_stopped_right" s_law_stopped_right ["box", "disk", "state", "by_name"] (a 48).1 (a 48).2
  g_law_sizes_right : Gd K mg "_law_sizes_right" s_law_sizes_right ["box", "by_name"] (a 49).1 (a 49).2
  g_law_pair_right : Gd K mg "_law_pair_right" s_law_pair_right ["box"] (a 50).1 (a 50).2
  g_law_long_right : Gd K mg "_law_long_right" s_law_long_right ["box"] (a 51).1 (a 51).2
  g_law_first : Gd K mg "_law_first" s_law_first ["script"] (a 52).1 (a 52).2
  g_law_text_too : Gd K mg "_law_text_too" s_law_text_too ["box"] (a 53).1 (a 53).2
  g_law_behind : Gd K mg "_law_behind" s_law_behind ["texts", "writes"] (a 54).1 (a 54).2
  g_law_cut_of : Gd K mg "_law_cut_of" s_law_cut_of ["state", "done"] (a 55).1 (a 55).2
  g_law_state_right_too : Gd K mg "_law_state_right_too" s_law_state_right_too ["disk", "state"] (a 56).1 (a 56).2
  g_law_wrote : Gd K mg "_law_wrote" s_law_wrote ["disk", "state", "page", "text"] (a 57).1 (a 57).2
  g_law_settled : Gd K mg "_law_settled" s_law_settled ["disk", "state"] (a 58).1 (a 58).2
  g_law_stopped : Gd K mg "_law_stopped" s_law_stopped ["disk", "state", "count"] (a 59).1 (a 59).2
  g_law_cut : Gd K mg "_law_cut" s_law_cut ["disk", "done", "by_name"] (a 60).1 (a 60).2
  g_law_bad_done : Gd K mg "_law_bad_done" s_law_bad_done ["way", "many"] (a 61).1 (a 61).2
  g_law_lists : Gd K mg "_law_lists" s_law_lists ["box", "many"] (a 62).1 (a 62).2
  g_law_refused_right : Gd K mg "_law_refused_right" s_law_refused_right ["box", "disk", "state", "by_name"] (a 63).1 (a 63).2
  g_law_one_right : Gd K mg "_law_one_right" s_law_one_right ["box", "disk", "state", "done", "by_name"] (a 64).1 (a 64).2
  g_law_grown : Gd K mg "_law_grown" s_law_grown ["box", "disk", "state"] (a 65).1 (a 65).2
  g_law_chain_right : Gd K mg "_law_chain_right" s_law_chain_right ["box"] (a 66).1 (a 66).2
  g_law_great_right : Gd K mg "_law_great_right" s_law_great_right ["box"] (a 67).1 (a 67).2
  g_law_second : Gd K mg "_law_second" s_law_second ["script"] (a 68).1 (a 68).2
  g_law : Gd K mg "law" s_law ["script"] (a 69).1 (a 69).2

/-! ### keywords -/
section
variable {K : PySem.W.Frag} {mg : Str → Option Value} {a : Nat → Addr × FuncData} {c : Nat → Addr}
def g1 {α : Type} : List α → List α → List α
  | [x], [y] => [x, y]
  | _, _ => []
def g2 {α : Type} : List α → List α → List α
  | [x], [y, z] => [x, z, y]
  | _, _ => []
theorem g1_rel {vs : List V} {us : List Value} {zs : List V} {ws : List Value} (h1 : Vals vs us) (h2 : Vals zs ws) : Vals (g1 vs zs) (g1 us ws) := by
  cases h1 with
  | nil => cases h2 <;> exact .nil
  | cons a h1 =>
    cases h1 with
    | nil =>
      cases h2 with
      | nil => exact .nil
      | cons b h2 =>
        cases h2 with
        | nil => exact .cons a (.cons b .nil)
        | cons _ _ => exact .nil
    | cons _ _ => cases h2 <;> exact .nil
theorem g2_rel {vs : List V} {us : List Value} {zs : List V} {ws : List Value} (h1 : Vals vs us) (h2 : Vals zs ws) : Vals (g2 vs zs) (g2 us ws) := by
  cases h1 with
  | nil => cases h2 <;> exact .nil
  | cons a h1 =>
    cases h1 with
    | nil =>
      cases h2 with
      | nil => exact .nil
      | cons b h2 =>
        cases h2 with
        | nil => exact .nil
        | cons d h2 =>
          cases h2 with
          | nil => exact .cons a (.cons d (.cons b .nil))
          | cons _ _ => exact .nil
    | cons _ _ => cases h2 <;> exact .nil
theorem kb_read (Z : Wd K mg a c) : KBn K (a 19).2 ["self", "page"] 1 ["page"] g1 g1 := fun_kbn Z.m_read.fn (fun kV doc pm an cdv ct us ws l1 l2 => by
  match us, l1, ws, l2 with
  | [x], _, [y], _ => rfl) g1_rel
theorem kb_stop (Z : Wd K mg a c) : KBn K (a 23).2 ["self", "count"] 1 ["count"] g1 g1 := fun_kbn Z.m_stop.fn (fun kV doc pm an cdv ct us ws l1 l2 => by
  match us, l1, ws, l2 with
  | [x], _, [y], _ => rfl) g1_rel
theorem kb_cut (Z : Wd K mg a c) : KBn K (a 24).2 ["self", "done"] 1 ["done"] g1 g1 := fun_kbn Z.m_cut.fn (fun kV doc pm an cdv ct us ws l1 l2 => by
  match us, l1, ws, l2 with
  | [x], _, [y], _ => rfl) g1_rel
theorem kb_write (Z : Wd K mg a c) : KBn K (a 20).2 ["self", "page", "text"] 1 ["text", "page"] g2 g2 := fun_kbn Z.m_write.fn (fun kV doc pm an cdv ct us ws l1 l2 => by
  match us, l1, ws, l2 with
  | [x], _, [y, z], _ => rfl) g2_rel
theorem kb_init (Z : Wd K mg a c) : KBn K (a 16).2 ["self", "pages", "width"] 1 ["width", "pages"] g2 g2 := fun_kbn Z.kd.fn (fun kV doc pm an cdv ct us ws l1 l2 => by
  match us, l1, ws, l2 with
  | [x], _, [y, z], _ => rfl) g2_rel
end
end Ks

/-! KsE: the small defs. -/
namespace Ks
open PySem PySem.Spec PyProof.Rows L2 PySem.W
/-! ### kinds of arguments -/
inductive Knd | non | bl | int | str | lst | tup | dct
  deriving DecidableEq
def Knd.nm : Knd → String
  | .non => "NoneType" | .bl => "bool" | .int => "int" | .str => "str" | .lst => "list" | .tup => "tuple" | .dct => "dict"
inductive Arg (H : Hp) : V → Knd → Prop
  | non : Arg H .non .non
  | bl (b : Bool) : Arg H (.bl b) .bl
  | int (i : Int) : Arg H (.int i) .int
  | str (x : Str) : Arg H (.str x) .str
  | lst {l : Addr} {xs : List V} (e : H l = some (.lst xs)) : Arg H (.ref l) .lst
  | tup {l : Addr} {xs : List V} (e : H l = some (.tup xs)) : Arg H (.ref l) .tup
  | dct {l : Addr} {kvs : List (Key × V)} (e : H l = some (.dK kvs)) : Arg H (.ref l) .dct
section
variable {K : PySem.W.Frag} {H : Hp} {x : V} {k : Knd}
theorem Arg.ty (h : Arg H x k) : TyE K H x (.type k.nm) := by
  cases h with
  | non => exact .x (.base .non)
  | bl b => exact .x (.base (.bl b))
  | int i => exact .x (.base (.int i))
  | str s => exact .x (.base (.str s))
  | lst e => exact .x (.base (.lst e))
  | tup e => exact .x (.base (.tup e))
  | dct e => exact .x (.base (.dK e))
theorem Arg.tyX (h : Arg H x k) : TyX K H x (.type k.nm) := by
  cases h with
  | non => exact .base .non
  | bl b => exact .base (.bl b)
  | int i => exact .base (.int i)
  | str s => exact .base (.str s)
  | lst e => exact .base (.lst e)
  | tup e => exact .base (.tup e)
  | dct e => exact .base (.dK e)
theorem kit_int (k : Knd) : kitOne K (.type k.nm) (.type "int") = some (decide (k = .int) || decide (k = .bl)) := by cases k <;> exact kit_ty (by decide +kernel)
theorem kit_bool (k : Knd) : kitOne K (.type k.nm) (.type "bool") = some (decide (k = .bl)) := by cases k <;> exact kit_ty (by decide +kernel)
theorem kit_str (k : Knd) : kitOne K (.type k.nm) (.type "str") = some (decide (k = .str)) := by cases k <;> exact kit_ty (by decide +kernel)
theorem kit_list (k : Knd) : kitOne K (.type k.nm) (.type "list") = some (decide (k = .lst)) := by cases k <;> exact kit_ty (by decide +kernel)
theorem kit_tuple (k : Knd) : kitOne K (.type k.nm) (.type "tuple") = some (decide (k = .tup)) := by cases k <;> exact kit_ty (by decide +kernel)
theorem kit_lt (k : Knd) : kitAny K (.type k.nm) [.type "list", .type "tuple"] = some (decide (k = .lst) || decide (k = .tup)) := by
  unfold kitAny
  rw [kit_list]
  cases k <;> first | rfl | (simp only [kitAny, kit_tuple]; rfl)
end
/-- an int from l to h -/
def inR (x : V) (l h : Int) : Bool := match x with
  | .int i => decide (l ≤ i) && decide (i ≤ h)
  | _ => false
/-- an index below m -/
def ixB (x : V) (m : Int) : Bool := match x with
  | .int i => decide (0 ≤ i) && decide (i < m)
  | _ => false
section
variable {P : Program} {w : World} {K : PySem.W.Frag} {mg : Str → Option Value} {base : Heap} {a : Nat → Addr × FuncData} {c : Nat → Addr}
def sp_is_whole : Sp := fun vs H Q _ => ∃ x k, vs = [x] ∧ Arg H x k ∧ Q (.bl (decide (k = .int))) H
theorem ok_is_whole (Z : Wd K mg a c) : FnG false P w K mg base 1 (a 7).1 (a 7).2 ["value"] sp_is_whole := by
  refine fun_okG Z.g_is_whole.fn sc_is_whole (fun vs H Q E h => ?_) (fun cdv A outer s H vs Q E hr h => ?_)
  · obtain ⟨x, k, rfl, _⟩ := h; rfl
  · obtain ⟨x, k, rfl, ar, h⟩ := h
    refine ⟨_, (pss_one (ps_ret (pe_and (pe_callB (c_isi Z.eb) (by rfl) Z.n_isinstance bt_isinstance (pa_cons (qv 0) (pa_cons (pe_bltn (v := .ty "int") (by rfl) Z.n_int bt_int rfl) pa_nil))) (pe_one (pe_not (pe_callB (c_isi Z.eb) (by rfl) Z.n_isinstance bt_isinstance (pa_cons (qv 0) (pa_cons (pe_bltn (v := .ty "bool") (by rfl) Z.n_bool bt_bool rfl) pa_nil)))))))), ?_⟩
    refine ⟨_, _, _, .ty _, ar.ty, kit_int k, _, rfl, ?_⟩
    cases k
    case int => exact ⟨_, _, _, .ty _, ar.ty, kit_bool _, _, rfl, h⟩
    case bl => exact ⟨_, _, _, .ty _, ar.ty, kit_bool _, _, rfl, h⟩
    all_goals exact h
def sp_is_from_to : Sp := fun vs H Q _ => ∃ x k l h, vs = [x, .int l, .int h] ∧ Arg H x k ∧ Q (.bl (inR x l h)) H
theorem ok_is_from_to (Z : Wd K mg a c) : FnG false P w K mg base 2 (a 8).1 (a 8).2 ["value", "low", "high"] sp_is_from_to := by
  refine fun_okG Z.g_is_from_to.fn sc_is_from_to (fun vs H Q E h => ?_) (fun cdv A outer s H vs Q E hr h => ?_)
  · obtain ⟨x, k, l, h, rfl, _⟩ := h; rfl
  · obtain ⟨x, k, l, m, rfl, ar, h⟩ := h
    refine ⟨_, (pss_one (ps_ret (pe_and (q_call Z.g_is_whole (ok_is_whole Z) (hr.mono (by decide)) takes0 (pa_cons (qv 0) pa_nil)) (pe_one (pe_chain o_le o_le (qv 1) (qv 0) (qv 2)))))), ?_⟩
    refine ⟨x, k, rfl, ar, _, rfl, ?_⟩
    cases ar with
    | int i =>
      refine ⟨_, rfl, ?_⟩
      by_cases h1 : l ≤ i
      · simp only [inR, h1] at h ⊢
        exact h
      · simp only [inR, h1] at h ⊢
        exact h
    | _ => exact h
end
end Ks

/-! KsF: sequences; the judges of arguments. -/
namespace Ks
open PySem PySem.Spec PyProof.Rows L2 PySem.W
/-- the items of a list or a tuple -/
def sqOf : HO → Option (List V)
  | .lst xs => some xs
  | .tup xs => some xs
  | .frz _ (.lst xs) => some xs
  | _ => none
def iSq (tl : TE) : TI := fun σ H R => tl σ H fun x H1 => match x with
  | .ref a => ∃ o xs, H1 a = some o ∧ sqOf o = some xs ∧ ∀ J, Walk J xs.length (fun H => H a = some o) (YAt xs) → R J H1
  | _ => False
theorem pi_seq {X : Cx} {tg l : Expr} {tl : TE} (hl : PE X l tl) : PI X tg l (iSq tl) := by
  refine ⟨fun pins s σ H R I h => ?_⟩
  refine thn (hl.run pins s σ H _ I h) fun v s1 ⟨x, H1, I1, r1, q0⟩ => ?_
  obtain ⟨a, ex, o, xs, ho, hx, q⟩ := ref_of (R := fun a => ∃ o xs, H1 a = some o ∧ sqOf o = some xs ∧ ∀ J, Walk J xs.length (fun H => H a = some o) (YAt xs) → R J H1) q0
  subst ex
  cases r1
  have go : (∀ H, H a = some o → SqL X.K H a xs) ∨ (∀ H, H a = some o → SqT X.K H a xs) := by
    cases o with
    | lst ys => cases hx; exact .inl fun H h => .of h
    | tup ys => cases hx; exact .inr fun H h => .of h
    | frz ob u =>
      cases u with
      | lst ys => cases hx; exact .inl fun H h => .inl (.inr ⟨_, h⟩)
      | _ => cases hx
    | _ => cases hx
  rcases go with hq | hq
  · obtain ⟨its, rv, p, hz⟩ := I1.list (hq H1 ho)
    refine wpAny_pyIter_list p.isList ?_
    refine ⟨s1.heap.objs.size, [s1.heap.objs.size], _, _, H1, rfl, I1.kept (t' := s1.toks) fun b o e => Heap.get?_push_of_some _ e, turn_list a _, ⟨_, Heap.get?_push_size _ rfl, rfl, rfl⟩, fun b hb => ?_, q _ ?_⟩
    · have e : b = s1.heap.objs.size := by simpa using hb
      subst e
      exact I1.fpOk (Nat.le_refl _) (I1.hok.fresh (Nat.le_refl _))
    · exact (walk_list (K := X.K) (a := a) (xs := xs)).mono (fun H h => hq H h) fun _ _ _ _ _ _ y => y
  · obtain ⟨its, rv, p, hz⟩ := I1.tuple (hq H1 ho)
    refine wpAny_pyIter_tuple (show s1.heap.IsTuple a its.toArray from p) ?_
    refine ⟨s1.heap.objs.size, [s1.heap.objs.size], _, _, H1, rfl, I1.kept (t' := s1.toks) fun b o e => Heap.get?_push_of_some _ e, turn_tuple a _, ⟨_, Heap.get?_push_size _ rfl, rfl, rfl⟩, fun b hb => ?_, q _ ?_⟩
    · have e : b = s1.heap.objs.size := by simpa using hb
      subst e
      exact I1.fpOk (Nat.le_refl _) (I1.hok.fresh (Nat.le_refl _))
    · exact (walk_tup (K := X.K) (a := a) (xs := xs)).mono (fun H h => hq H h) fun _ _ _ _ _ _ y => y
/-- a comprehension by the ledger: the new list at D, a state z whose cells are L z -/
theorem lc_led {J : It} {n : Nat} {G : Hp → Prop} {Y : Nat → Hp → V → Hp → Prop} (w : Walk J n G Y) {g : TG} {tt : TT} {te : TE} {vs : List Nat} {σ : L2.St} {H0 H1 : Hp} {D : Addr} {Qd : Hp → Prop} {S : Type} {A : List Addr} (L : S → Cells) (P : Nat → S → List V → Prop) (z0 : S)
    (hD : H1 D = none) (C0 : Chg A H0 H1 (L z0)) (p0 : P 0 z0 []) (hn : n ≤ sizeLine) (hl : ∀ i z acc, P i z acc → acc.length ≤ i) (hG : ∀ i z acc H, P i z acc → Chg A H0 H ((D, .lst acc) :: L z) → G H)
    (hs : ∀ i x H H' z acc (Qk : VK) (Nk : Hp → Prop), i < n → P i z acc → Chg A H0 H ((D, .lst acc) :: L z) → Y i H x H' →
      (∀ z' y H4, P (i + 1) z' (acc ++ [y]) → Chg A H0 H4 ((D, .lst acc) :: L z') → Qk y H4) → (∀ z' H4, P (i + 1) z' acc → Chg A H0 H4 ((D, .lst acc) :: L z') → Nk H4) →
      g x (wipe σ vs) H' fun σ2 H2 => wipe σ2 vs = wipe σ vs ∧ tt σ2 H2 fun b H3 => if b = true then te σ2 H3 Qk else Nk H3)
    (hd : ∀ H z acc, P n z acc → Chg A H0 H ((D, .lst acc) :: L z) → Qd H) :
    ∃ W : Nat → Nat → Hp → Prop, (∃ m, W 0 m (upd H1 D (.lst []))) ∧ ∀ i m H, W i m H →
      (J.stop i H ∧ Qd H) ∨ (J.go i H ∧ ∃ Nx : Hp → Prop, (∀ H', Nx H' → ∃ m', m' < m ∧ W (i + 1) m' H') ∧ ∀ x H', J.yld i H x H' → g x (wipe σ vs) H' fun σ2 H2 => wipe σ2 vs = wipe σ vs ∧ tt σ2 H2 fun b H3 =>
        if b = true then te σ2 H3 fun y H4 => ∃ acc, H4 D = some (.lst acc) ∧ acc.length < sizeLine ∧ Nx (upd H4 D (.lst (acc ++ [y]))) else Nx H3) := by
  refine lc_it w (fun i H => ∃ z acc, P i z acc ∧ Chg A H0 H ((D, .lst acc) :: L z)) ⟨z0, [], p0, C0.add hD⟩ (fun i H _ ⟨z, acc, p, C⟩ => hG i z acc H p C) ?_ fun H ⟨z, acc, p, C⟩ => hd H z acc p C
  rintro i x H H' hi ⟨z, acc, p, C⟩ y
  exact hs i x H H' z acc (fun y H4 => ∃ acc, H4 D = some (.lst acc) ∧ acc.length < sizeLine ∧ ∃ z' acc', P (i + 1) z' acc' ∧ Chg A H0 (upd H4 D (.lst (acc ++ [y]))) ((D, .lst acc') :: L z')) (fun H3 => ∃ z acc, P (i + 1) z acc ∧ Chg A H0 H3 ((D, .lst acc) :: L z)) hi p C y
    (fun z' y H4 p' C' => ⟨acc, C'.at 0 rfl, Nat.lt_of_le_of_lt (hl i z acc p) (Nat.lt_of_lt_of_le hi hn), z', acc ++ [y], p', C'.set 0 rfl⟩) fun z' H4 p' C' => ⟨z', acc, p', C'⟩
/-- .. the i-th item is f i, nothing else changes -/
theorem lc_fn {J : It} {n : Nat} {G : Hp → Prop} {Y : Nat → Hp → V → Hp → Prop} (w : Walk J n G Y) {g : TG} {te : TE} {vs : List Nat} {σ : L2.St} {H0 H1 : Hp} {D : Addr} {Qd : Hp → Prop} {A : List Addr} {L : Cells} (f : Nat → V)
    (hD : H1 D = none) (C0 : Chg A H0 H1 L) (hn : n ≤ sizeLine) (hG : ∀ acc H, Chg A H0 H ((D, .lst acc) :: L) → G H)
    (hs : ∀ i x H H' acc (Qk : VK), i < n → Chg A H0 H ((D, .lst acc) :: L) → Y i H x H' → (∀ H4, Chg A H0 H4 ((D, .lst acc) :: L) → Qk (f i) H4) → g x (wipe σ vs) H' fun σ2 H2 => wipe σ2 vs = wipe σ vs ∧ te σ2 H2 Qk)
    (hd : ∀ H, Chg A H0 H ((D, .lst ((List.range n).map f)) :: L) → Qd H)
    (gm : ∀ x H' Q Q', (∀ σ2 H2, Q σ2 H2 → Q' σ2 H2) → g x (wipe σ vs) H' Q → g x (wipe σ vs) H' Q' := by intro _ _ _ _ h; exact h _ _) :
    ∃ W : Nat → Nat → Hp → Prop, (∃ m, W 0 m (upd H1 D (.lst []))) ∧ ∀ i m H, W i m H →
      (J.stop i H ∧ Qd H) ∨ (J.go i H ∧ ∃ Nx : Hp → Prop, (∀ H', Nx H' → ∃ m', m' < m ∧ W (i + 1) m' H') ∧ ∀ x H', J.yld i H x H' → g x (wipe σ vs) H' fun σ2 H2 => wipe σ2 vs = wipe σ vs ∧ tYes σ2 H2 fun b H3 =>
        if b = true then te σ2 H3 fun y H4 => ∃ acc, H4 D = some (.lst acc) ∧ acc.length < sizeLine ∧ Nx (upd H4 D (.lst (acc ++ [y]))) else Nx H3) := by
  refine lc_led w (S := Unit) (fun _ => L) (fun i _ acc => acc = (List.range i).map f) () hD C0 rfl hn (fun i _ acc e => by rw [e, List.length_map, List.length_range] <;> omega) (fun i z acc H _ C => hG acc H C) ?_ fun H z acc e C => hd H (e ▸ C)
  intro i x H H' z acc Qk Nk hi e C y q1 q2
  refine gm x H' _ _ (fun σ2 H2 ⟨h1, h2⟩ => ⟨h1, ?_⟩) (hs i x H H' acc Qk hi C y fun H4 C' => q1 () (f i) H4 (by rw [e, List.range_succ, List.map_append]; rfl) C')
  show if true = true then te σ2 H2 Qk else Nk H2
  rw [if_pos rfl]; exact h2
section
variable {P : Program} {w : World} {K : PySem.W.Frag} {mg : Str → Option Value} {base : Heap} {a : Nat → Addr × FuncData} {c : Nat → Addr}
def sp_is_index : Sp := fun vs H Q _ => ∃ x k m, vs = [x, .int m] ∧ Arg H x k ∧ Q (.bl (ixB x m)) H
theorem ok_is_index (Z : Wd K mg a c) : FnG false P w K mg base 2 (a 9).1 (a 9).2 ["value", "many"] sp_is_index := by
  refine fun_okG Z.g_is_index.fn sc_is_index (fun vs H Q E h => ?_) (fun cdv A outer s H vs Q E hr h => ?_)
  · obtain ⟨x, k, m, rfl, _⟩ := h; rfl
  · obtain ⟨x, k, m, rfl, ar, h⟩ := h
    refine ⟨_, (pss_one (ps_ret (pe_and (q_call Z.g_is_whole (ok_is_whole Z) (hr.mono (by decide)) takes0 (pa_cons (qv 0) pa_nil)) (pe_one (pe_chain o_le o_lt pe_int (qv 0) (qv 1)))))), ?_⟩
    refine ⟨x, k, rfl, ar, _, rfl, ?_⟩
    cases ar with
    | int i =>
      refine ⟨_, rfl, ?_⟩
      by_cases h1 : 0 ≤ i
      · simp only [ixB, h1] at h ⊢
        exact h
      · simp only [ixB, h1] at h ⊢
        exact h
    | _ => exact h
def sp_is_listed : Sp := fun vs H Q _ => ∃ x k, vs = [x] ∧ Arg H x k ∧ ∀ H', Chg [] H H' [] → Q (.bl (decide (k = .lst) || decide (k = .tup))) H'
theorem ok_is_listed (Z : Wd K mg a c) : FnG false P w K mg base 1 (a 10).1 (a 10).2 ["value"] sp_is_listed := by
  refine fun_okG Z.g_is_listed.fn sc_is_listed (fun vs H Q E h => ?_) (fun cdv A outer s H vs Q E hr h => ?_)
  · obtain ⟨x, k, rfl, _⟩ := h; rfl
  · obtain ⟨x, k, rfl, ar, h⟩ := h
    refine ⟨_, (pss_one (ps_ret (pe_callB c_isiT (by rfl) Z.n_isinstance bt_isinstance (pa_cons (qv 0) (pa_cons (pe_tup (pa_cons (pe_bltn (v := .ty "list") (by rfl) Z.n_list bt_list rfl) (pa_cons (pe_bltn (v := .ty "tuple") (by rfl) Z.n_tuple bt_tuple rfl) pa_nil))) pa_nil))))), ?_⟩
    refine ⟨by decide, fun p hp => ?_⟩
    have C := (Chg.of (H := H) .nil).add (o := .tup [.ty "list", .ty "tuple"]) hp
    have ar' : Arg (upd H p (.tup [.ty "list", .ty "tuple"])) x k := by
      cases ar with
      | non => exact .non
      | bl b => exact .bl b
      | int i => exact .int i
      | str s => exact .str s
      | lst e => exact .lst (C.keep _ _ (by simp) e)
      | tup e => exact .tup (C.keep _ _ (by simp) e)
      | dct e => exact .dct (C.keep _ _ (by simp) e)
    exact ⟨_, _, _, _, upd_same, .cons (.ty _) (.cons (.ty _) .nil), ar'.tyX, kit_lt k, h _ (C.sub (List.nil_sublist _))⟩
def sp_are_unlike : Sp := fun vs H Q _ => ∃ (l : Addr) (o : HO) (ns : List Int), vs = [.ref l] ∧ H l = some o ∧ (o = .lst (ns.map V.int) ∨ o = .tup (ns.map V.int)) ∧ ns.length ≤ 4000 ∧ ∀ b : Bool, (b = true ↔ ns.Nodup) → Q (.bl b) H
theorem ok_are_unlike (Z : Wd K mg a c) : FnG false P w K mg base 1 (a 11).1 (a 11).2 ["items"] sp_are_unlike := by
  refine fun_okG Z.g_are_unlike.fn sc_are_unlike (fun vs H Q E h => ?_) (fun cdv A outer s H vs Q E hr h => ?_)
  · obtain ⟨l, o, ns, rfl, _⟩ := h; rfl
  · obtain ⟨l, o, ns, rfl, ho, hx, hl, h⟩ := h
    refine ⟨_, (pss_one (ps_ret (pe_cmpR (o_eq hr.u64) (q_lenSet (by rfl) (by rfl) Z.n_len (by rfl) Z.n_set (qv 0)) (pe_callB c_len (by rfl) Z.n_len bt_len (pa_cons (qv 0) pa_nil)) (nomark _)))), ?_⟩
    refine ⟨ns, hx.imp (fun e => .of (by rw [ho, e])) (fun e => .of (by rw [ho, e])), hl, fun n hn hd => ⟨o, ho, ?_⟩⟩
    have fin : rEqA K (.int n) (.int (ns.map V.int).length) H Q := by
      refine ⟨rfl, h _ ?_⟩
      rw [List.length_map, ← hd, decide_eq_true_iff]
      constructor
      · intro e
        have := V.int.inj e
        omega
      · intro e; rw [e]
    rcases hx with rfl | rfl
    · exact fin
    · exact fin
def sp_ascend : Sp := fun vs H Q _ => ∃ (l : Addr) (o : HO) (ns : List Int), vs = [.ref l] ∧ H l = some o ∧ (o = .lst (ns.map V.int) ∨ o = .tup (ns.map V.int)) ∧ ns.length ≤ 4000 ∧ ∀ b : Bool, (b = true ↔ ns.Pairwise (· < ·)) → ∀ H', Chg [] H H' [] → Q (.bl b) H'
theorem asc_all (ns : List Int) : ((List.range (ns.length - 1)).all (fun i => decide (ns.getD i 0 < ns.getD (i + 1) 0))) = true ↔ ns.Pairwise (· < ·) := by
  rw [List.all_eq_true]
  constructor
  · intro h
    induction ns with
    | nil => exact .nil
    | cons n r ih =>
      have hr : r.Pairwise (· < ·) := ih fun i hi => by
        have := h (i + 1) (by rw [List.mem_range] at hi ⊢; simp only [List.length_cons]; omega)
        simpa using this
      refine List.pairwise_cons.mpr ⟨?_, hr⟩
      cases r with
      | nil => exact fun _ hm => nomatch hm
      | cons m q =>
        have h0 := h 0 (by rw [List.mem_range]; simp)
        have h0 : n < m := by simpa using h0
        intro x hx
        rcases List.mem_cons.mp hx with rfl | hx
        · exact h0
        · exact Int.lt_trans h0 ((List.pairwise_cons.mp hr).1 x hx)
  · intro h i hi
    rw [List.mem_range] at hi
    have hl : i + 1 < ns.length := by omega
    have := List.pairwise_iff_getElem.mp h i (i + 1) (by omega) hl (by omega)
    rw [decide_eq_true_iff, List.getD_eq_getElem?_getD, List.getD_eq_getElem?_getD, List.getElem?_eq_getElem (by omega), List.getElem?_eq_getElem hl]
    exact this
theorem ok_ascend (Z : Wd K mg a c) : FnG false P w K mg base 1 (a 12).1 (a 12).2 ["items"] sp_ascend := by
  refine fun_okG Z.g_ascend.fn sc_ascend (fun vs H Q E h => ?_) (fun cdv A outer s H vs Q E hr h => ?_)
  · obtain ⟨l, o, ns, rfl, _⟩ := h; rfl
  · obtain ⟨l, o, ns, rfl, ho, hx, hl, h⟩ := h
    refine ⟨_, (pss_one (ps_ret (pe_callB (c_all (by rfl)) (by rfl) Z.n_all bt_all (pa_cons (pe_lc (own := [("at", 1)]) (by rfl) sc_ascend.nd (pi_range2 (by rfl) Z.n_range (pa_cons pe_int (pa_cons (pe_callB c_len (by rfl) Z.n_len bt_len (pa_cons (qv 0) pa_nil)) pa_nil))) (blkOk_by (N := ["items", "at"]) (sc := defScope s_ascend) (by decide +kernel)) (fun _ _ _ _ _ => (pg_name (i := 1) sc_ascend.nd rfl (Or.inl rfl))) (fun _ _ _ _ _ => pts_nil) (fun _ _ _ _ _ => (pe_cmpR o_lt (pe_ix ix_d (qv 0) (pe_op o_sub (qv 1) pe_int) (fun _ _ => rfl)) (pe_ix ix_d (qv 0) (qv 1) (fun _ _ => rfl)) (nomark _)))) pa_nil)))), ?_⟩
    have hlm : (ns.map V.int).length = ns.length := List.length_map _
    have hat : ∀ j : Nat, j < ns.length → (ns.map V.int)[j]? = some (V.int (ns.getD j 0)) := fun j hj => by
      rw [List.getElem?_map, List.getD_eq_getElem?_getD, List.getElem?_eq_getElem hj]; rfl
    have hix : ∀ j : Nat, j < ns.length → atI (ns.map V.int) (j : Int) = some (V.int (ns.getD j 0)) := fun j hj => by
      unfold atI ixN
      rw [if_pos (by omega), if_pos (by rw [hlm]; omega)]
      exact hat j hj
    rcases hx with rfl | rfl
    all_goals
      refine ⟨_, ho, 1, _, rfl, ⟨by decide, by decide, by omega, by omega⟩, fun D hD => ?_⟩
      refine lc_fn walk_range (fun i => V.bl (decide (ns.getD i 0 < ns.getD (i + 1) 0))) hD (Chg.of .nil) (by rw [hlm, sizeLine_eq]; omega) (fun _ _ _ => ⟨⟩) ?_ ?_
      · rintro i x H1 H1' acc Qk hi C ⟨rfl, rfl⟩ q
        refine ⟨rfl, ?_⟩
        have hi' : i + 1 < ns.length := by rw [hlm] at hi; omega
        have ho1 := C.keep _ _ (by simp) ho
        refine ⟨_, ho1, _, (show atI (ns.map V.int) (1 + (i : Int) - 1) = some (V.int (ns.getD i 0)) by rw [show 1 + (i : Int) - 1 = (i : Int) by omega]; exact hix i (by omega)), ?_⟩
        refine ⟨_, ho1, _, (show atI (ns.map V.int) (1 + (i : Int)) = some (V.int (ns.getD (i + 1) 0)) by rw [show 1 + (i : Int) = ((i + 1 : Nat) : Int) by omega]; exact hix (i + 1) hi'), ?_⟩
        exact q _ C
      · intro H1 C
        rw [show (((ns.map V.int).length : Nat) : Int) - 1 = ((ns.length : Nat) : Int) - 1 by rw [hlm], show (((ns.length : Nat) : Int) - 1).toNat = ns.length - 1 by omega] at C
        refine ⟨(List.range (ns.length - 1)).map fun i => decide (ns.getD i 0 < ns.getD (i + 1) 0), (C.at 0 rfl).trans (by rw [List.map_map]; rfl), ?_⟩
        refine h _ ?_ _ (C.sub (List.nil_sublist _))
        rw [← asc_all ns, List.all_map]
        rfl
theorem Arg.keep {H H' : Hp} {x : V} {k : Knd} (h : Arg H x k) (e : ∀ l o, H l = some o → H' l = some o) : Arg H' x k := by
  cases h with
  | non => exact .non
  | bl b => exact .bl b
  | int i => exact .int i
  | str s => exact .str s
  | lst h => exact .lst (e _ _ h)
  | tup h => exact .tup (e _ _ h)
  | dct h => exact .dct (e _ _ h)
/-- x with its items, if it is a list or a tuple -/
inductive Seqd (H : Hp) : V → Knd → List V → Prop
  | lst {l : Addr} {ys : List V} (e : H l = some (.lst ys)) (ar : ∀ y ∈ ys, ∃ k, Arg H y k) (n : ys.length ≤ 4000) : Seqd H (.ref l) .lst ys
  | tup {l : Addr} {ys : List V} (e : H l = some (.tup ys)) (ar : ∀ y ∈ ys, ∃ k, Arg H y k) (n : ys.length ≤ 4000) : Seqd H (.ref l) .tup ys
  | no {x : V} {k : Knd} (ar : Arg H x k) (h1 : k ≠ .lst) (h2 : k ≠ .tup) : Seqd H x k []
theorem Seqd.arg {H : Hp} {x : V} {k : Knd} {ys : List V} (h : Seqd H x k ys) : Arg H x k := by
  cases h with
  | lst e _ _ => exact .lst e
  | tup e _ _ => exact .tup e
  | no ar _ _ => exact ar
theorem Seqd.keep {H H' : Hp} {x : V} {k : Knd} {ys : List V} (h : Seqd H x k ys) (e : ∀ l o, H l = some o → H' l = some o) : Seqd H' x k ys := by
  cases h with
  | lst h ar n => exact .lst (e _ _ h) (fun y hy => (ar y hy).imp fun k q => q.keep e) n
  | tup h ar n => exact .tup (e _ _ h) (fun y hy => (ar y hy).imp fun k q => q.keep e) n
  | no ar h1 h2 => exact .no (ar.keep e) h1 h2
theorem Seqd.seq {H : Hp} {x : V} {k : Knd} {ys : List V} (h : Seqd H x k ys) :
    ((k = .lst ∨ k = .tup) ∧ ∃ l o, x = .ref l ∧ H l = some o ∧ sqOf o = some ys ∧ (o = .lst ys ∨ o = .tup ys) ∧ (∀ y ∈ ys, ∃ k, Arg H y k) ∧ ys.length ≤ 4000) ∨ (k ≠ .lst ∧ k ≠ .tup) := by
  cases h with
  | lst e ar n => exact .inl ⟨.inl rfl, _, _, rfl, e, rfl, .inl rfl, ar, n⟩
  | tup e ar n => exact .inl ⟨.inr rfl, _, _, rfl, e, rfl, .inr rfl, ar, n⟩
  | no _ h1 h2 => exact .inr ⟨h1, h2⟩
/-- ys are indices below m, unlike ones -/
def Inds (k : Knd) (ys : List V) (m : Int) (ns : List Int) : Prop := (k = .lst ∨ k = .tup) ∧ ys = ns.map V.int ∧ (∀ n ∈ ns, 0 ≤ n ∧ n < m) ∧ ns.Nodup
def sp_are_indices : Sp := fun vs H Q _ => ∃ (x : V) (k : Knd) (m : Int) (ys : List V), vs = [x, .int m] ∧ Seqd H x k ys ∧ ∀ b : Bool, (b = true ↔ ∃ ns, Inds k ys m ns) → ∀ H', Chg [] H H' [] → Q (.bl b) H'
theorem ix_ints : ∀ {ys : List V} {m : Int}, (∀ y ∈ ys, ixB y m = true) → ∃ ns : List Int, ys = ns.map V.int ∧ ∀ n ∈ ns, 0 ≤ n ∧ n < m
  | [], m, _ => ⟨[], rfl, fun _ h => nomatch h⟩
  | y :: ys, m, h => by
    obtain ⟨ns, e, b⟩ := ix_ints (ys := ys) (m := m) fun y hy => h y (List.mem_cons_of_mem _ hy)
    have h0 := h y List.mem_cons_self
    cases y with
    | int i =>
      simp only [ixB, Bool.and_eq_true, decide_eq_true_eq] at h0
      exact ⟨i :: ns, by rw [e]; rfl, fun n hn => by
        rcases List.mem_cons.mp hn with rfl | hn
        · exact h0
        · exact b n hn⟩
    | _ => exact absurd h0 (by simp [ixB])
theorem keepAll {H H' : Hp} {L : Cells} (C : Chg [] H H' L) : ∀ l o, H l = some o → H' l = some o := fun l o h => C.keep l o (by simp) h
theorem keepAll' {H H' : Hp} {L : Cells} (C : Chg (List.map (fun x => x.fst) ([] : Cells)) H H' L) : ∀ l o, H l = some o → H' l = some o := fun l o h => C.keep l o (by simp) h
theorem ok_are_indices (Z : Wd K mg a c) : FnG false P w K mg base 3 (a 13).1 (a 13).2 ["value", "many"] sp_are_indices := by
  refine fun_okG Z.g_are_indices.fn sc_are_indices (fun vs H Q E h => ?_) (fun cdv A outer s H vs Q E hr h => ?_)
  · obtain ⟨x, k, m, ys, rfl, _⟩ := h; rfl
  · obtain ⟨x, k, m, ys, rfl, sq, h⟩ := h
    refine ⟨_, (pss_one (ps_ret (pe_and (q_call Z.g_is_listed (ok_is_listed Z) (hr.mono (by decide)) takes0 (pa_cons (qv 0) pa_nil)) (pe_and (pe_callB (c_all (by rfl)) (by rfl) Z.n_all bt_all (pa_cons (pe_lc (own := [("item", 2)]) (by rfl) sc_are_indices.nd (pi_seq (qv 0)) (blkOk_by (N := ["value", "many", "item"]) (sc := defScope s_are_indices) (by decide +kernel)) (fun _ _ _ _ _ => (pg_name (i := 2) sc_are_indices.nd rfl (Or.inl rfl))) (fun _ _ _ _ _ => pts_nil) (fun _ _ _ _ _ => (q_call Z.g_is_index (ok_is_index Z) (hr.mono (by decide)) takes0 (pa_cons (qv 2) (pa_cons (qv 1) pa_nil))))) pa_nil)) (pe_one (q_call Z.g_are_unlike (ok_are_unlike Z) (hr.mono (by decide)) takes0 (pa_cons (qv 0) pa_nil))))))), ?_⟩
    refine ⟨x, k, rfl, sq.arg, fun H1 C1 => ⟨_, rfl, ?_⟩⟩
    have C1' : Chg (List.map (fun x => x.fst) ([] : Cells)) H H1 [] := C1
    rcases sq.seq with ⟨hk, l, o, rfl, e, hx, he, ar, n⟩ | ⟨h1, h2⟩
    · rw [if_pos (by simpa using hk)]
      refine ⟨o, ys, keepAll C1 _ _ e, hx, fun J wk D hD => ?_⟩
      refine lc_fn wk (fun i => V.bl (ixB (ys.getD i .non) m)) hD C1' (by rw [sizeLine_eq]; omega) (fun acc H2 C => keepAll' C _ _ e) ?_ ?_
      · rintro i x H2 _ acc Qk hi C ⟨rfl, hy⟩ q
        refine ⟨rfl, ?_⟩
        obtain ⟨kx, hx'⟩ := ar x (List.mem_of_getElem? hy)
        have ed : ys.getD i .non = x := by rw [List.getD_eq_getElem?_getD, hy]; rfl
        refine ⟨x, kx, m, rfl, hx'.keep (keepAll' C), ?_⟩
        rw [← ed]
        exact q _ C
      · intro H2 C2
        refine ⟨(List.range ys.length).map fun i => ixB (ys.getD i .non) m, (C2.at 0 rfl).trans (by rw [List.map_map]; rfl), _, rfl, ?_⟩
        by_cases hb : ((List.range ys.length).map fun i => ixB (ys.getD i .non) m).all id = true
        · rw [if_pos hb]
          have hb : ∀ y ∈ ys, ixB y m = true := fun y hy => by
            obtain ⟨j, hj, ej⟩ := List.mem_iff_getElem.mp hy
            have := List.all_eq_true.mp hb (ixB (ys.getD j .non) m) (List.mem_map.mpr ⟨j, List.mem_range.mpr hj, rfl⟩)
            rw [List.getD_eq_getElem?_getD, List.getElem?_eq_getElem hj] at this
            rw [← ej]; exact this
          obtain ⟨ns, en, bn⟩ := ix_ints hb
          subst en
          refine ⟨l, o, ns, rfl, keepAll' C2 _ _ e, he, by rw [List.length_map] at n; exact n, fun b hb2 => ?_⟩
          refine h b (Iff.intro (fun z => ⟨ns, hk, rfl, bn, hb2.mp z⟩) fun z => ?_) _ (C2.sub (List.nil_sublist _))
          obtain ⟨ns', _, e', _, nd⟩ := z
          have : ns = ns' := (List.map_inj_right (fun a b z => V.int.inj z)).mp e'
          rw [this] at hb2; exact hb2.mpr nd
        · rw [if_neg hb]
          refine h false ⟨fun z => (nomatch z), fun z => ?_⟩ _ (C2.sub (List.nil_sublist _))
          obtain ⟨ns, _, e', bn, _⟩ := z
          refine (hb (List.all_eq_true.mpr fun z hz => ?_)).elim
          obtain ⟨j, hj, ej⟩ := List.mem_map.mp hz
          have hj := List.mem_range.mp hj
          have hm : ys[j] ∈ ns.map V.int := e' ▸ List.getElem_mem hj
          obtain ⟨i, hi, ei⟩ := List.mem_map.mp hm
          have := bn i hi
          rw [List.getD_eq_getElem?_getD, List.getElem?_eq_getElem hj] at ej
          rw [← ej]
          show ixB ys[j] m = true
          rw [← ei]
          simp only [ixB, Bool.and_eq_true, decide_eq_true_eq]
          exact this
    · rw [if_neg (by simp [h1, h2])]
      refine h false (Iff.intro (fun z => nomatch z) fun z => ?_) H1 C1
      obtain ⟨ns, hk, _⟩ := z
      rcases hk with e | e
      · exact absurd e h1
      · exact absurd e h2
/-- done, as cut takes it -/
def Kept (k : Knd) (ys : List V) (m : Int) (ns : List Int) : Prop := (k = .lst ∨ k = .tup) ∧ ys = ns.map V.int ∧ (∀ n ∈ ns, 0 ≤ n ∧ n < m) ∧ ns.Pairwise (· < ·)
def sp_are_kept : Sp := fun vs H Q _ => ∃ (x : V) (k : Knd) (m : Int) (ys : List V), vs = [x, .int m] ∧ Seqd H x k ys ∧ ∀ b : Bool, (b = true ↔ ∃ ns, Kept k ys m ns) → ∀ H', Chg [] H H' [] → Q (.bl b) H'
theorem ok_are_kept (Z : Wd K mg a c) : FnG false P w K mg base 4 (a 14).1 (a 14).2 ["value", "many"] sp_are_kept := by
  refine fun_okG Z.g_are_kept.fn sc_are_kept (fun vs H Q E h => ?_) (fun cdv A outer s H vs Q E hr h => ?_)
  · obtain ⟨x, k, m, ys, rfl, _⟩ := h; rfl
  · obtain ⟨x, k, m, ys, rfl, sq, h⟩ := h
    refine ⟨_, (pss_one (ps_ret (pe_and (q_call Z.g_are_indices (ok_are_indices Z) (hr.mono (by decide)) takes0 (pa_cons (qv 0) (pa_cons (qv 1) pa_nil))) (pe_one (q_call Z.g_ascend (ok_ascend Z) (hr.mono (by decide)) takes0 (pa_cons (qv 0) pa_nil)))))), ?_⟩
    refine ⟨x, k, m, ys, rfl, sq, fun b hb H1 C1 => ⟨b, rfl, ?_⟩⟩
    cases b with
    | true =>
      obtain ⟨ns, hk, e1, bn, nd⟩ := hb.mp rfl
      have n : ys.length ≤ 4000 ∧ ∃ l o, x = .ref l ∧ H1 l = some o ∧ (o = .lst ys ∨ o = .tup ys) := by
        rcases (sq.keep (keepAll C1)).seq with ⟨_, l, o, rfl, e, hx, he, ar, n⟩ | ⟨h1, h2⟩
        · exact ⟨n, l, o, rfl, e, he⟩
        · exact (hk.elim h1 h2).elim
      obtain ⟨n, l, o, rfl, e, he⟩ := n
      subst e1
      refine ⟨l, o, ns, rfl, e, he, by rw [List.length_map] at n; exact n, fun b hb2 H2 C2 => ?_⟩
      refine h b (Iff.intro (fun z => ⟨ns, hk, rfl, bn, hb2.mp z⟩) fun z => ?_) H2 ?_
      · obtain ⟨ns', _, e', _, pw⟩ := z
        have : ns = ns' := (List.map_inj_right (fun a b z => V.int.inj z)).mp e'
        rw [this] at hb2; exact hb2.mpr pw
      · exact (C1.call [] C2).to rfl
    | false =>
      refine h false (Iff.intro (fun z => nomatch z) fun z => ?_) H1 C1
      obtain ⟨ns, hk, e, bn, pw⟩ := z
      exact hb.mpr ⟨ns, hk, e, bn, pw.imp fun h => by omega⟩
end
end Ks

/-! KsG: the errors; the disk's methods. -/
namespace Ks
open PySem PySem.Spec PyProof.Rows L2 PySem.W
section
variable {P : Program} {w : World} {K : PySem.W.Frag} {mg : Str → Option Value} {base : Heap} {a : Nat → Addr × FuncData} {c : Nat → Addr}
theorem ok_InvalidText_init (Z : Wd K mg a c) : FnG false P w K mg base 1 (a 0).1 (a 0).2 ["self", "given"] (spE K (c 0)) := by
  refine fun_okG Z.e_InvalidText.fn sc_InvalidText_init (fun vs H Q E h => ?_) (fun cdv A outer s H vs Q E hr h => ?_)
  · obtain ⟨x, C, v, rfl, _⟩ := h; rfl
  · obtain ⟨x, C, v, rfl, T, n, ho, h⟩ := h
    refine ⟨_, (pss_cons (ps_expr (q_ini Z.eb (pa_cons (qv 0) (pa_cons pe_str pa_nil))))
      (pss_one (q_setE (c 0) (qv 0) (qv 1)))), ?_⟩
    exact ⟨x, C, _, rfl, by decide, T, ho, x, C, rfl, T, n, ho, fun dx hd ne => h dx hd ne⟩
theorem ok_InvalidWidth_init (Z : Wd K mg a c) : FnG false P w K mg base 1 (a 1).1 (a 1).2 ["self", "given"] (spE K (c 0)) := by
  refine fun_okG Z.e_InvalidWidth.fn sc_InvalidWidth_init (fun vs H Q E h => ?_) (fun cdv A outer s H vs Q E hr h => ?_)
  · obtain ⟨x, C, v, rfl, _⟩ := h; rfl
  · obtain ⟨x, C, v, rfl, T, n, ho, h⟩ := h
    refine ⟨_, (pss_cons (ps_expr (q_ini Z.eb (pa_cons (qv 0) (pa_cons pe_str pa_nil))))
      (pss_one (q_setE (c 0) (qv 0) (qv 1)))), ?_⟩
    exact ⟨x, C, _, rfl, by decide, T, ho, x, C, rfl, T, n, ho, fun dx hd ne => h dx hd ne⟩
theorem ok_InvalidPages_init (Z : Wd K mg a c) : FnG false P w K mg base 1 (a 2).1 (a 2).2 ["self", "given"] (spE K (c 0)) := by
  refine fun_okG Z.e_InvalidPages.fn sc_InvalidPages_init (fun vs H Q E h => ?_) (fun cdv A outer s H vs Q E hr h => ?_)
  · obtain ⟨x, C, v, rfl, _⟩ := h; rfl
  · obtain ⟨x, C, v, rfl, T, n, ho, h⟩ := h
    refine ⟨_, (pss_cons (ps_expr (q_ini Z.eb (pa_cons (qv 0) (pa_cons pe_str pa_nil))))
      (pss_one (q_setE (c 0) (qv 0) (qv 1)))), ?_⟩
    exact ⟨x, C, _, rfl, by decide, T, ho, x, C, rfl, T, n, ho, fun dx hd ne => h dx hd ne⟩
theorem ok_InvalidPage_init (Z : Wd K mg a c) : FnG false P w K mg base 1 (a 3).1 (a 3).2 ["self", "given"] (spE K (c 0)) := by
  refine fun_okG Z.e_InvalidPage.fn sc_InvalidPage_init (fun vs H Q E h => ?_) (fun cdv A outer s H vs Q E hr h => ?_)
  · obtain ⟨x, C, v, rfl, _⟩ := h; rfl
  · obtain ⟨x, C, v, rfl, T, n, ho, h⟩ := h
    refine ⟨_, (pss_cons (ps_expr (q_ini Z.eb (pa_cons (qv 0) (pa_cons pe_str pa_nil))))
      (pss_one (q_setE (c 0) (qv 0) (qv 1)))), ?_⟩
    exact ⟨x, C, _, rfl, by decide, T, ho, x, C, rfl, T, n, ho, fun dx hd ne => h dx hd ne⟩
theorem ok_InvalidCount_init (Z : Wd K mg a c) : FnG false P w K mg base 1 (a 4).1 (a 4).2 ["self", "given"] (spE K (c 0)) := by
  refine fun_okG Z.e_InvalidCount.fn sc_InvalidCount_init (fun vs H Q E h => ?_) (fun cdv A outer s H vs Q E hr h => ?_)
  · obtain ⟨x, C, v, rfl, _⟩ := h; rfl
  · obtain ⟨x, C, v, rfl, T, n, ho, h⟩ := h
    refine ⟨_, (pss_cons (ps_expr (q_ini Z.eb (pa_cons (qv 0) (pa_cons pe_str pa_nil))))
      (pss_one (q_setE (c 0) (qv 0) (qv 1)))), ?_⟩
    exact ⟨x, C, _, rfl, by decide, T, ho, x, C, rfl, T, n, ho, fun dx hd ne => h dx hd ne⟩
theorem ok_InvalidDone_init (Z : Wd K mg a c) : FnG false P w K mg base 1 (a 5).1 (a 5).2 ["self", "given"] (spE K (c 0)) := by
  refine fun_okG Z.e_InvalidDone.fn sc_InvalidDone_init (fun vs H Q E h => ?_) (fun cdv A outer s H vs Q E hr h => ?_)
  · obtain ⟨x, C, v, rfl, _⟩ := h; rfl
  · obtain ⟨x, C, v, rfl, T, n, ho, h⟩ := h
    refine ⟨_, (pss_cons (ps_expr (q_ini Z.eb (pa_cons (qv 0) (pa_cons pe_str pa_nil))))
      (pss_one (q_setE (c 0) (qv 0) (qv 1)))), ?_⟩
    exact ⟨x, C, _, rfl, by decide, T, ho, x, C, rfl, T, n, ho, fun dx hd ne => h dx hd ne⟩
theorem ok_PowerCut_init (Z : Wd K mg a c) : FnG false P w K mg base 1 (a 6).1 (a 6).2 ["self"] (spE0 K (c 0)) := by
  refine fun_okG Z.e_PowerCut.fn sc_PowerCut_init (fun vs H Q E h => ?_) (fun cdv A outer s H vs Q E hr h => ?_)
  · obtain ⟨x, C, rfl, _⟩ := h; rfl
  · obtain ⟨x, C, rfl, T, ho, h⟩ := h
    refine ⟨_, (pss_one (ps_expr (q_ini Z.eb (pa_cons (qv 0) (pa_cons pe_str pa_nil))))), ?_⟩
    exact ⟨x, C, _, rfl, by decide, T, ho, h⟩
/-! ### texts -/
theorem itP {b : Bool} {A B : Prop} (e : b = true) (h : A) : if b = true then A else B := by rw [if_pos e]; exact h
theorem itN {b : Bool} {A B : Prop} (e : b = false) (h : B) : if b = true then A else B := by rw [if_neg (by rw [e]; decide)]; exact h
def okc (n : Nat) : Bool := !decide ([n] < [32]) && !decide ([126] < [n])
def pgT (z : Str) (w : Int) : Bool := decide ((z.length : Int) ≤ w) && z.cps.toList.all okc
def pgV (x : V) (w : Int) : Bool := match x with
  | .str z => pgT z w
  | _ => false
def sp_is_page_text : Sp := fun vs H Q _ => ∃ (x : V) (k : Knd) (w : Int), vs = [x, .int w] ∧ Arg H x k ∧ w ≤ 1000 ∧ (∀ z, x = .str z → z.length ≤ 100000) ∧ ∀ H', Chg [] H H' [] → Q (.bl (pgV x w)) H'
theorem ok_is_page_text (Z : Wd K mg a c) : FnG false P w K mg base 1 (a 15).1 (a 15).2 ["value", "width"] sp_is_page_text := by
  refine fun_okG Z.g_is_page_text.fn sc_is_page_text (fun vs H Q E h => ?_) (fun cdv A outer s H vs Q E hr h => ?_)
  · obtain ⟨x, k, m, rfl, _⟩ := h; rfl
  · obtain ⟨x, k, m, rfl, ar, hm, hz, h⟩ := h
    refine ⟨_, (pss_one (ps_ret (pe_and (pe_callB (c_isi Z.eb) (by rfl) Z.n_isinstance bt_isinstance (pa_cons (qv 0) (pa_cons (pe_bltn (v := .ty "str") (by rfl) Z.n_str bt_str rfl) pa_nil))) (pe_and (pe_cmpR o_le (pe_callB c_len (by rfl) Z.n_len bt_len (pa_cons (qv 0) pa_nil)) (qv 1) (nomark _)) (pe_one (pe_callB (c_all (by rfl)) (by rfl) Z.n_all bt_all (pa_cons (pe_lc (own := [("sign", 2)]) (by rfl) sc_is_page_text.nd (pi_str (qv 0)) (blkOk_by (N := ["value", "width", "sign"]) (sc := defScope s_is_page_text) (by decide +kernel)) (fun _ _ _ _ _ => (pg_name (i := 2) sc_is_page_text.nd rfl (Or.inl rfl))) (fun _ _ _ _ _ => pts_nil) (fun _ _ _ _ _ => (pe_chain o_le o_le pe_str (qv 2) pe_str))) pa_nil))))))), ?_⟩
    refine ⟨_, _, _, .ty _, ar.ty, kit_str k, _, rfl, ?_⟩
    have C0 : Chg (List.map (fun x => x.fst) ([] : Cells)) H H [] := .of .nil
    cases ar with
    | str z =>
      rw [if_pos (by decide)]
      have hz := hz z rfl
      refine ⟨by rw [sizeLine_eq]; omega, _, rfl, ?_⟩
      by_cases hl : (z.length : Int) ≤ m
      · rw [if_pos (by simpa using hl)]
        refine ⟨z, rfl, fun D hD => ?_⟩
        have hsz : z.cps.size ≤ 1000 := by
          have : z.length = z.cps.size := rfl
          omega
        refine lc_fn walk_str (fun i => V.bl (okc (z.cps.getD i 0))) hD C0 (by rw [sizeLine_eq]; omega) (fun _ _ _ => ⟨⟩) ?_ ?_
        · rintro i x H1' H1 acc Qk hi C ⟨rfl, n, hn, rfl⟩ q
          refine ⟨rfl, ?_⟩
          have q := q _ C
          have en : z.cps.getD i 0 = n := by rw [Array.getD_eq_getD_getElem?, hn]; rfl
          rw [en] at q
          have q : Qk (.bl (!decide ([n] < [32]) && !decide ([126] < [n]))) H1 := q
          refine ⟨_, rfl, ?_⟩
          by_cases h1 : [n] < [32]
          · rw [decide_eq_true h1] at q
            refine itN (show (!decide ([n] < [32])) = false by rw [decide_eq_true h1]; rfl) ?_
            exact q
          · rw [decide_eq_false h1] at q
            refine itP (show (!decide ([n] < [32])) = true by rw [decide_eq_false h1]; rfl) ?_
            exact q
        · intro H1 C
          refine ⟨(List.range z.cps.size).map fun i => okc (z.cps.getD i 0), (C.at 0 rfl).trans (by rw [List.map_map]; rfl), ?_⟩
          have e : ((List.range z.cps.size).map fun i => okc (z.cps.getD i 0)).all id = pgV (.str z) m := by
            show _ = (decide ((z.length : Int) ≤ m) && z.cps.toList.all okc)
            rw [decide_eq_true hl, Bool.true_and, List.all_map]
            rw [Bool.eq_iff_iff, List.all_eq_true, List.all_eq_true]
            constructor
            · intro g x hx
              obtain ⟨j, hj, ej⟩ := List.mem_iff_getElem.mp hx
              have hj' : j < z.cps.size := by simpa using hj
              have := g j (List.mem_range.mpr hj')
              rw [← ej]
              simpa [Array.getD, hj'] using this
            · intro g j hj
              have hj' : j < z.cps.size := List.mem_range.mp hj
              have := g z.cps[j] (by simp)
              simpa [Array.getD, hj'] using this
          rw [e]
          exact h H1 (C.sub (List.nil_sublist _))
      · rw [if_neg (by simpa using hl)]
        have e : pgV (.str z) m = false := by
          show (decide ((z.length : Int) ≤ m) && z.cps.toList.all okc) = false
          rw [decide_eq_false hl]; rfl
        rw [e] at h
        exact h H C0
    | _ => exact h H C0
/-! ### the disk -/
def dkF (p w : Int) (la te wr : Addr) (lf : V) : List (Str × V) := [("pages", .int p), ("width", .int w), ("lasting", .ref la), ("texts", .ref te), ("writes", .ref wr), ("left", lf)]
section
variable {p w : Int} {la te wr : Addr} {lf : V}
theorem lk_pages : (dkF p w la te wr lf).lookup ("pages" : Str) = some (V.int p) := by rfl
theorem lk_width : (dkF p w la te wr lf).lookup ("width" : Str) = some (V.int w) := by rfl
theorem lk_lasting : (dkF p w la te wr lf).lookup ("lasting" : Str) = some (V.ref la) := by rfl
theorem lk_texts : (dkF p w la te wr lf).lookup ("texts" : Str) = some (V.ref te) := by rfl
theorem lk_writes : (dkF p w la te wr lf).lookup ("writes" : Str) = some (V.ref wr) := by rfl
theorem lk_left : (dkF p w la te wr lf).lookup ("left" : Str) = some lf := by rfl
theorem pt_left (v : V) : putF "left" v (dkF p w la te wr lf) = dkF p w la te wr v := by rfl
theorem pt_lasting (v : Addr) : putF "lasting" (.ref v) (dkF p w la te wr lf) = dkF p w v te wr lf := by rfl
theorem pt_texts (v : Addr) : putF "texts" (.ref v) (dkF p w la te wr lf) = dkF p w la v wr lf := by rfl
theorem pt_writes (v : Addr) : putF "writes" (.ref v) (dkF p w la te wr lf) = dkF p w la te v lf := by rfl
theorem lk_none (m : Str) (h : m = "read" ∨ m = "write" ∨ m = "settle" ∨ m = "loose" ∨ m = "stop" ∨ m = "cut" ∨ m = "check_page" ∨ m = "spend") : (dkF p w la te wr lf).lookup m = none := by
  rcases h with rfl | rfl | rfl | rfl | rfl | rfl | rfl | rfl <;> rfl
theorem dk_len : (dkF p w la te wr lf).length < 1000 := by show 6 < 1000; decide
end
end
end Ks

/-! KsH: the disk's methods. -/
namespace Ks
open PySem PySem.Spec PyProof.Rows L2 PySem.W
theorem q_gc {X : Cx} {x : Str} {v : V} {pos : Pos} (hg : Gl X x) (h : ∃ u, X.mg x = some u ∧ RelV v u) (hd : (x == ("__debug__" : Str)) = false := by decide) : PE X (.Name x pos) (tC v) := by
  obtain ⟨u, h1, h2⟩ := h
  exact pe_glob hg h1 h2 hd
theorem o_eqK {X : Cx} (K : PySem.W.Frag) (hK : X.K = K) (hu : X.A.units + 64 < cLine) : OpR X (compareOp .Eq) (rEqA K) := by subst hK; exact o_eq hu
theorem o_neK {X : Cx} (K : PySem.W.Frag) (hK : X.K = K) (hu : X.A.units + 64 < cLine) : OpR X (compareOp .NotEq) (rNeA K) := by subst hK; exact o_ne hu
theorem op_notInK {X : Cx} (K : PySem.W.Frag) (hK : X.K = K) : OpR X (compareOp .NotIn) (rIn K true) := by subst hK; exact op_notIn_seq
theorem c_reprK {X : Cx} (K : PySem.W.Frag) (hK : X.K = K) (hu : X.A.units + 64 < cLine) (hg : X.A.guards = some []) : CallR X (.builtin "repr") (r1D (kRepr K)) := by subst hK; exact c_repr hu hg
theorem pg_tupK {X : Cx} (K : PySem.W.Frag) (hK : X.K = K) {es : List Expr} {k : Nat} {t : TGs} {n : Nat} {pos : Pos} (hc : X.calm = true) (h : PGs X es t)
    (hn : (assignEach es X.env).length = n := by rfl) (hst : (assignEach es X.env).findIdx? (·.1) = none := by rfl) : PG X (.Tuple es k pos) (gTup K n t) := by subst hK; exact pg_tup hc h hn hst
theorem pg_unlK {X : Cx} (K : PySem.W.Frag) (hK : X.K = K) {es : List Expr} {k : Nat} {t : TGs} {n : Nat} {pos : Pos} (hc : X.calm = true) (h : PGs X es t)
    (hn : (assignEach es X.env).length = n := by rfl) (hst : (assignEach es X.env).findIdx? (·.1) = none := by rfl) : PG X (.Tuple es k pos) (gUnl K n t) := by subst hK; exact pg_unl hc h hn hst
/-- an error with what was given -/
def Bad (C : Addr) (H : Hp) (v : V) (E : XK) : Prop := ∀ d H', Chg [] H H' [(d, .xd [(("given" : Str), v)])] → E (.ref C) (some d) H'
theorem Bad.up {C : Addr} {H H1 : Hp} {v : V} {E : XK} (b : Bad C H v E) (e : Chg [] H H1 []) : Bad C H1 v E := fun d H' c => b d H' ((e.call [] c).to (by rfl))
theorem Bad.go {C : Addr} {H : Hp} {v : V} {E : XK} (b : Bad C H v E) (d : Addr) (hd : H d = none) : E (.ref C) (some d) (upd H d (.xd [(("given" : Str), v)])) := b d _ ((Chg.of .nil).add hd)
/-- the writes that are loose, as they stand in the heap -/
abbrev Wrs (H : Hp) : List Addr → List (Int × Str) → Prop := Paired fun r w => H r = some (.tup [.int w.1, .str w.2])
theorem Wrs.up {H H' : Hp} (k : ∀ a o, imm o = true → H a = some o → H' a = some o) : ∀ {R : List Addr} {W : List (Int × Str)}, Wrs H R W → Wrs H' R W
  | _, _, .nil => .nil
  | _, _, .cons h t => .cons (k _ _ rfl h) (Wrs.up k t)
theorem Wrs.app {H : Hp} {r : Addr} {w : Int × Str} (h : H r = some (.tup [.int w.1, .str w.2])) : ∀ {R : List Addr} {W : List (Int × Str)}, Wrs H R W → Wrs H (R ++ [r]) (W ++ [w])
  | _, _, .nil => .cons h .nil
  | _, _, .cons q t => .cons q (Wrs.app h t)
theorem Wrs.get {H : Hp} {R : List Addr} {W : List (Int × Str)} (h : Wrs H R W) (i : Nat) (hi : i < W.length) : ∃ r, R[i]? = some r ∧ H r = some (.tup [.int (W[i]).1, .str (W[i]).2]) := by
  induction h generalizing i with
  | nil => exact absurd hi (by simp)
  | @cons r w R W q t ih =>
    cases i with
    | zero => exact ⟨r, rfl, q⟩
    | succ i =>
      obtain ⟨r', e, q'⟩ := ih i (by simpa using hi)
      exact ⟨r', by simpa using e, q'⟩
theorem Led.one {H : Hp} {x : Addr} {o : HO} (h : H x = some o) : Led H [(x, o)] := Led.nil.cons h (fun p hp => nomatch hp)
theorem lt1k {n : Nat} (h : Nat.blt n 1000 = true) : n < 1000 := by
  have : n ≤ 999 := by simpa [Nat.blt] using h
  omega
theorem leS {n : Nat} (h : Nat.ble n 16777216 = true) : n ≤ sizeLine := by
  have : n ≤ 16777216 := by simpa using h
  rw [sizeLine_eq]; omega
theorem putF_dk {p w : Int} {la te wr : Addr} : putF "left" V.non (putF "writes" (.ref wr) (putF "texts" (.ref te) (putF "lasting" (.ref la) [("pages", .int p), ("width", .int w)]))) = dkF p w la te wr .non := by rfl
section
variable {P : Program} {w : World} {K : PySem.W.Frag} {mg : Str → Option Value} {base : Heap} {a : Nat → Addr × FuncData} {c : Nat → Addr}
def sp_init (c : Nat → Addr) : Sp := fun vs H Q E => ∃ (x dx : Addr) (pg wd : V) (k1 k2 : Knd), vs = [.ref x, pg, wd] ∧ H x = some (.ins (c 8) dx []) ∧ Arg H pg k1 ∧ Arg H wd k2 ∧
  (inR pg 3 40 = false → Bad (c 3) H pg E) ∧ (inR pg 3 40 = true → inR wd 20 400 = false → Bad (c 2) H wd E) ∧
  ∀ p w, pg = .int p → wd = .int w → 3 ≤ p → p ≤ 40 → 20 ≤ w → w ≤ 400 → ∀ la te wr H', Chg [x] H H' [(wr, .lst []), (te, .lst ((List.replicate p.toNat ([] : List Nat)).map fun _ => V.str "")), (la, .lst ((List.replicate p.toNat ([] : List Nat)).map fun _ => V.str "")), (x, .ins (c 8) dx (dkF p w la te wr .non))] → Q .non H'
theorem rep_one (n : Nat) : (List.replicate n [V.str ""]).flatten = (List.replicate n ([] : List Nat)).map fun _ => V.str "" := by
  induction n with
  | zero => rfl
  | succ n ih => rw [List.replicate_succ, List.replicate_succ, List.flatten_cons, ih]; rfl
theorem ok_Disk_init (Z : Wd K mg a c) : FnG false P w K mg base 3 (a 16).1 (a 16).2 ["self", "pages", "width"] (sp_init c) := by
  refine fun_okG Z.kd.fn sc_Disk_init (fun vs H Q E h => ?_) (fun cdv A outer s H vs Q E hr h => ?_)
  · obtain ⟨x, dx, pg, wd, k1, k2, rfl, _⟩ := h; rfl
  · obtain ⟨x, dx, pg, wd, k1, k2, rfl, hx, a1, a2, b1, b2, h⟩ := h
    refine ⟨_, (pss_cons (ps_if (pt_not (pt_val (q_call Z.g_is_from_to (ok_is_from_to Z) (hr.mono (by decide)) (takes_of rfl rfl rfl rfl) (pa_cons (qv 1) (pa_cons (q_gc (by rfl) Z.k_LEAST_PAGES) (pa_cons (q_gc (by rfl) Z.k_MOST_PAGES) pa_nil)))))) (pss_one (q_raise (by rfl) (takes_of rfl rfl rfl rfl) Z.e_InvalidPages Z.en_InvalidPages (ok_InvalidPages_init Z) (hr.mono (by decide)) (qv 1))) pss_nil)
      (pss_cons (ps_if (pt_not (pt_val (q_call Z.g_is_from_to (ok_is_from_to Z) (hr.mono (by decide)) (takes_of rfl rfl rfl rfl) (pa_cons (qv 2) (pa_cons (q_gc (by rfl) Z.k_LEAST_WIDTH) (pa_cons (q_gc (by rfl) Z.k_MOST_WIDTH) pa_nil)))))) (pss_one (q_raise (by rfl) (takes_of rfl rfl rfl rfl) Z.e_InvalidWidth Z.en_InvalidWidth (ok_InvalidWidth_init Z) (hr.mono (by decide)) (qv 2))) pss_nil)
      (pss_cons (q_set Z.cl Z.a_pages (qv 0) (qv 1))
      (pss_cons (q_set Z.cl Z.a_width (qv 0) (qv 2))
      (pss_cons (q_set Z.cl Z.a_lasting (qv 0) (pe_op o_mul (pe_lst (pa_cons pe_str pa_nil)) (qv 1)))
      (pss_cons (q_set Z.cl Z.a_texts (qv 0) (pe_op o_mul (pe_lst (pa_cons pe_str pa_nil)) (qv 1)))
      (pss_cons (q_set Z.cl Z.a_writes (qv 0) (pe_lst pa_nil))
      (pss_one (q_set Z.cl Z.a_left (qv 0) pe_non))))))))), ?_⟩
    refine ⟨pg, k1, _, _, rfl, a1, _, rfl, ?_⟩
    cases hb1 : inR pg 3 40 with
    | false => exact fun d hd => (b1 hb1).go d hd
    | true =>
      refine itN rfl ?_
      refine ⟨wd, k2, _, _, rfl, a2, _, rfl, ?_⟩
      cases hb2 : inR wd 20 400 with
      | false => exact fun d hd => (b2 hb1 hb2).go d hd
      | true =>
        refine itN rfl ?_
        cases a1 with
        | int p =>
          cases a2 with
          | int w =>
            simp only [inR, Bool.and_eq_true, decide_eq_true_eq] at hb1 hb2
            have C0 : Chg [x] H H [(x, .ins (c 8) dx [])] := .of (Led.one hx)
            have C1 := C0.set 0 (o' := .ins (c 8) dx [("pages", .int p)]) rfl
            have C2 := C1.set 0 (o' := .ins (c 8) dx [("pages", .int p), ("width", .int w)]) rfl
            refine ⟨_, _, hx, lt1k rfl, ?_⟩
            refine ⟨_, _, C1.at 0 rfl, lt1k rfl, ?_⟩
            have hp : 1 * p.toNat ≤ sizeLine := by rw [sizeLine_eq]; omega
            refine ⟨by decide, fun q1 f1 => ⟨_, upd_same, ⟨by omega, by omega, hp⟩, fun la f2 => ?_⟩⟩
            have C3 := (C2.skip (o := .lst [V.str ""]) f1).add (o := .lst (List.replicate p.toNat [V.str ""]).flatten) f2
            refine ⟨_, _, C3.at 1 rfl, lt1k rfl, ?_⟩
            have C4 := C3.set 1 (o' := .ins (c 8) dx (putF "lasting" (.ref la) [("pages", .int p), ("width", .int w)])) rfl
            refine ⟨by decide, fun q1 f1 => ⟨_, upd_same, ⟨by omega, by omega, hp⟩, fun te f2 => ?_⟩⟩
            have C5 := (C4.skip (o := .lst [V.str ""]) f1).add (o := .lst (List.replicate p.toNat [V.str ""]).flatten) f2
            refine ⟨_, _, C5.at 2 rfl, lt1k rfl, ?_⟩
            have C6 := C5.set 2 (o' := .ins (c 8) dx (putF "texts" (.ref te) (putF "lasting" (.ref la) [("pages", .int p), ("width", .int w)]))) rfl
            refine ⟨by decide, fun wr f2 => ?_⟩
            have C7 := C6.add (o := .lst []) f2
            refine ⟨_, _, C7.at 3 rfl, lt1k rfl, ?_⟩
            have C8 := C7.set 3 (o' := .ins (c 8) dx (putF "writes" (.ref wr) (putF "texts" (.ref te) (putF "lasting" (.ref la) [("pages", .int p), ("width", .int w)])))) rfl
            refine ⟨_, _, C8.at 3 rfl, lt1k rfl, ?_⟩
            have C9 := C8.set 3 (o' := .ins (c 8) dx (dkF p w la te wr .non)) rfl
            refine h p w rfl rfl hb1.1 hb1.2 hb2.1 hb2.2 la te wr _ (C9.to ?_)
            rw [rep_one]; rfl
          | _ => cases hb2
        | _ => cases hb1
def sp_check (c : Nat → Addr) : Sp := fun vs H Q E => ∃ (d dx : Addr) (pg : V) (k : Knd) (p w : Int) (la te wr : Addr) (lf : V), vs = [.ref d, pg] ∧ H d = some (.ins (c 8) dx (dkF p w la te wr lf)) ∧ Arg H pg k ∧
  (ixB pg p = false → Bad (c 4) H pg E) ∧ (ixB pg p = true → Q .non H)
theorem ok_Disk_check_page (Z : Wd K mg a c) : FnG false P w K mg base 3 (a 17).1 (a 17).2 ["self", "page"] (sp_check c) := by
  refine fun_okG Z.m_check_page.fn sc_Disk_check_page (fun vs H Q E h => ?_) (fun cdv A outer s H vs Q E hr h => ?_)
  · obtain ⟨d, dx, pg, k, p, w, la, te, wr, lf, rfl, _⟩ := h; rfl
  · obtain ⟨d, dx, pg, k, p, w, la, te, wr, lf, rfl, hd, ar, b, h⟩ := h
    refine ⟨_, (pss_one (ps_if (pt_not (pt_val (q_call Z.g_is_index (ok_is_index Z) (hr.mono (by decide)) (takes_of rfl rfl rfl rfl) (pa_cons (qv 1) (pa_cons (q_fld Z.cl Z.a_pages (qv 0)) pa_nil))))) (pss_one (q_raise (by rfl) (takes_of rfl rfl rfl rfl) Z.e_InvalidPage Z.en_InvalidPage (ok_InvalidPage_init Z) (hr.mono (by decide)) (qv 1))) pss_nil)), ?_⟩
    refine ⟨_, _, hd, _, lk_pages, pg, k, p, rfl, ar, _, rfl, ?_⟩
    cases hb : ixB pg p with
    | false => exact fun e he => (b hb).go e he
    | true => exact h hb
/-- what is left of calls: none told, or so many -/
def lfV : Option Nat → V
  | none => .non
  | some n => .int n
def sp_spend (c : Nat → Addr) : Sp := fun vs H Q E => ∃ (d dx : Addr) (p w : Int) (la te wr : Addr) (lf : Option Nat), vs = [.ref d] ∧ H d = some (.ins (c 8) dx (dkF p w la te wr (lfV lf))) ∧
  (lf = some 0 → E (.ref (c 7)) none H) ∧ (lf ≠ some 0 → ∀ H', Chg [d] H H' [(d, .ins (c 8) dx (dkF p w la te wr (lfV (lf.map (· - 1)))))] → Q .non H')
theorem ok_Disk_spend (Z : Wd K mg a c) : FnG false P w K mg base 3 (a 18).1 (a 18).2 ["self"] (sp_spend c) := by
  refine fun_okG Z.m_spend.fn sc_Disk_spend (fun vs H Q E h => ?_) (fun cdv A outer s H vs Q E hr h => ?_)
  · obtain ⟨d, dx, p, w, la, te, wr, lf, rfl, _⟩ := h; rfl
  · obtain ⟨d, dx, p, w, la, te, wr, lf, rfl, hd, b, h⟩ := h
    refine ⟨_, (pss_cons (ps_if (pt_cmpR (o_eq hr.u64) (q_fld Z.cl Z.a_left (qv 0)) pe_int (nomark _)) (pss_one (q_raise0 (by rfl) (takes_of rfl rfl rfl rfl) Z.e_PowerCut (ok_PowerCut_init Z) (hr.mono (by decide)))) pss_nil)
      (pss_one (ps_if (pt_cmpR o_isN (q_fld Z.cl Z.a_left (qv 0)) pe_non (nomark _)) (pss_one (q_fsub Z.cl Z.a_left (qv 0) pe_int)) pss_nil))), ?_⟩
    refine ⟨_, _, hd, _, lk_left, ?_⟩
    have C0 : Chg [d] H H [(d, .ins (c 8) dx (dkF p w la te wr (lfV lf)))] := .of (.one hd)
    cases lf with
    | none =>
      refine ⟨rfl, _, rfl, itN rfl ?_⟩
      refine ⟨_, _, hd, _, lk_left, rfl, _, rfl, ?_⟩
      exact h (by simp) H C0
    | some n =>
      cases n with
      | zero => exact ⟨rfl, _, rfl, b rfl⟩
      | succ n =>
        refine ⟨rfl, _, rfl, itN (decide_eq_false (fun e => by have := V.int.inj e; omega)) ?_⟩
        refine ⟨_, _, hd, _, lk_left, rfl, _, rfl, ?_⟩
        refine ⟨_, _, hd, _, lk_left, _, _, rfl, rfl, hd, lt1k rfl, ?_⟩
        refine h (by simp) _ ((C0.set 0 (o' := .ins (c 8) dx (dkF p w la te wr (.int (((n + 1 : Nat) : Int) - 1)))) rfl).to ?_)
        rw [show ((n + 1 : Nat) : Int) - 1 = (n : Nat) by omega]; rfl
def sp_read (c : Nat → Addr) : Sp := fun vs H Q E => ∃ (d dx : Addr) (pg : V) (k : Knd) (p w : Int) (la te wr : Addr) (lf : V) (T : List Str), vs = [.ref d, pg] ∧ H d = some (.ins (c 8) dx (dkF p w la te wr lf)) ∧ H te = some (.lst (T.map V.str)) ∧ (T.length : Int) = p ∧ Arg H pg k ∧
  (ixB pg p = false → Bad (c 4) H pg E) ∧ ∀ i : Nat, pg = .int i → ∀ x, T[i]? = some x → Q (.str x) H
theorem ixB_int {x : V} {m : Int} (h : ixB x m = true) : ∃ i : Nat, x = .int i ∧ (i : Int) < m := by
  cases x with
  | int i =>
    simp only [ixB, Bool.and_eq_true, decide_eq_true_eq] at h
    exact ⟨i.toNat, by congr 1; omega, by omega⟩
  | _ => cases h
theorem atI_nat {α : Type} {xs : List α} {i : Nat} {x : α} (h : xs[i]? = some x) : atI xs (i : Int) = some x := by
  have hl := (List.getElem?_eq_some_iff.mp h).1
  unfold atI ixN
  rw [if_pos (by omega), if_pos (by omega)]
  exact h
theorem ixN_nat {n i : Nat} (h : i < n) : ixN n (i : Int) = some i := by
  unfold ixN
  rw [if_pos (by omega), if_pos (by omega)]
  rfl
theorem ok_Disk_read (Z : Wd K mg a c) : FnG false P w K mg base 4 (a 19).1 (a 19).2 ["self", "page"] (sp_read c) := by
  refine fun_okG Z.m_read.fn sc_Disk_read (fun vs H Q E h => ?_) (fun cdv A outer s H vs Q E hr h => ?_)
  · obtain ⟨d, dx, pg, k, p, w, la, te, wr, lf, T, rfl, _⟩ := h; rfl
  · obtain ⟨d, dx, pg, k, p, w, la, te, wr, lf, T, rfl, hd, ht, hT, ar, b, h⟩ := h
    refine ⟨_, (pss_cons (ps_expr (q_meth Z.m_check_page (ok_Disk_check_page Z) (hr.mono (by decide)) (takes_of rfl rfl rfl rfl) (qv 0) (pa_cons (qv 1) pa_nil)))
      (pss_one (ps_ret (pe_ix ix_d (q_fld Z.cl Z.a_texts (qv 0)) (qv 1) (fun _ _ => rfl))))), ?_⟩
    refine ⟨⟨_, _, hd, lk_none _ (by simp)⟩, d, dx, pg, k, p, w, la, te, wr, lf, rfl, hd, ar, b, fun hb => ?_⟩
    obtain ⟨i, rfl, hi⟩ := ixB_int hb
    have hi' : i < T.length := by omega
    exact ⟨_, _, hd, _, lk_texts, _, ht, _, atI_nat (by rw [List.getElem?_map, List.getElem?_eq_getElem hi']; rfl), h i rfl _ (List.getElem?_eq_getElem hi')⟩
def sp_write (c : Nat → Addr) : Sp := fun vs H Q E => ∃ (d dx : Addr) (pg tx : V) (k k2 : Knd) (p w : Int) (la te wr : Addr) (lf : Option Nat) (T : List Str) (R : List Addr),
  vs = [.ref d, pg, tx] ∧ Led H [(d, .ins (c 8) dx (dkF p w la te wr (lfV lf))), (te, .lst (T.map V.str)), (wr, .lst (R.map V.ref))] ∧ (T.length : Int) = p ∧ w ≤ 1000 ∧ R.length ≤ 10000 ∧ Arg H pg k ∧ Arg H tx k2 ∧ (∀ z, tx = .str z → z.length ≤ 100000) ∧
  (ixB pg p = false → Bad (c 4) H pg E) ∧ (ixB pg p = true → pgV tx w = false → Bad (c 1) H tx E) ∧ (ixB pg p = true → pgV tx w = true → lf = some 0 → ∀ H', Chg [] H H' [] → E (.ref (c 7)) none H') ∧
  (∀ (i : Nat) z, pg = .int i → (i : Int) < p → tx = .str z → pgT z w = true → lf ≠ some 0 → ∀ r H', Chg [d, te, wr] H H' [(d, .ins (c 8) dx (dkF p w la te wr (lfV (lf.map (· - 1))))), (te, .lst ((T.set i z).map V.str)), (wr, .lst ((R ++ [r]).map V.ref)), (r, .tup [.int i, .str z])] → Q .non H')
theorem pgV_str {x : V} {w : Int} (h : pgV x w = true) : ∃ z, x = .str z ∧ pgT z w = true := by
  cases x with
  | str z => exact ⟨z, rfl, h⟩
  | _ => cases h
theorem ok_Disk_write (Z : Wd K mg a c) : FnG false P w K mg base 4 (a 20).1 (a 20).2 ["self", "page", "text"] (sp_write c) := by
  refine fun_okG Z.m_write.fn sc_Disk_write (fun vs H Q E h => ?_) (fun cdv A outer s H vs Q E hr h => ?_)
  · obtain ⟨d, dx, pg, tx, k, k2, p, w, la, te, wr, lf, T, R, rfl, _⟩ := h; rfl
  · obtain ⟨d, dx, pg, tx, k, k2, p, w, la, te, wr, lf, T, R, rfl, L, hT, hw, hR, a1, a2, hz, b1, b2, b3, h⟩ := h
    have hd := L.at 0 rfl
    refine ⟨_, (pss_cons (ps_expr (q_meth Z.m_check_page (ok_Disk_check_page Z) (hr.mono (by decide)) (takes_of rfl rfl rfl rfl) (qv 0) (pa_cons (qv 1) pa_nil)))
      (pss_cons (ps_if (pt_not (pt_val (q_call Z.g_is_page_text (ok_is_page_text Z) (hr.mono (by decide)) (takes_of rfl rfl rfl rfl) (pa_cons (qv 2) (pa_cons (q_fld Z.cl Z.a_width (qv 0)) pa_nil))))) (pss_one (q_raise (by rfl) (takes_of rfl rfl rfl rfl) Z.e_InvalidText Z.en_InvalidText (ok_InvalidText_init Z) (hr.mono (by decide)) (qv 2))) pss_nil)
      (pss_cons (ps_expr (q_meth0 Z.m_spend (ok_Disk_spend Z) (hr.mono (by decide)) (takes_of rfl rfl rfl rfl) (qv 0)))
      (pss_cons (ps_asg (qv 2) (pg_sub (q_fld Z.cl Z.a_texts (qv 0)) (qv 1) set_d))
      (pss_one (ps_expr (q_lm PySem.F.slot_list_append PySem.F.type_list_append m_append (q_fld Z.cl Z.a_writes (qv 0)) (pa_cons (pe_tup (pa_cons (qv 1) (pa_cons (qv 2) pa_nil))) pa_nil)))))))), ?_⟩
    refine ⟨⟨_, _, hd, lk_none _ (by simp)⟩, d, dx, pg, k, p, w, la, te, wr, _, rfl, hd, a1, b1, fun hb1 => ?_⟩
    refine ⟨_, _, hd, _, lk_width, tx, k2, w, rfl, a2, hw, hz, fun H1 C1 => ⟨_, rfl, ?_⟩⟩
    cases hb2 : pgV tx w with
    | false => exact fun e he => ((b2 hb1 hb2).up C1).go e he
    | true =>
      refine itN rfl ?_
      obtain ⟨z, rfl, hz2⟩ := pgV_str hb2
      obtain ⟨i, rfl, hi⟩ := ixB_int hb1
      have e1 := keepAll C1
      have hd1 := e1 _ _ hd
      refine ⟨⟨_, _, hd1, lk_none _ (by simp)⟩, d, dx, p, w, la, te, wr, lf, rfl, hd1, fun e => b3 hb1 hb2 e H1 C1, fun hl H2 C2 => ?_⟩
      have D1 := ((Chg.of L).call [] C1).call [0] C2
      refine ⟨_, _, D1.at 0 rfl, _, lk_texts, ?_⟩
      have hi' : i < T.length := by omega
      refine ⟨_, i, D1.at 1 rfl, ixN_nat (by rw [List.length_map]; exact hi'), ?_⟩
      have D2 := D1.set 1 (o' := .lst ((T.map V.str).set i (.str z))) rfl
      refine ⟨_, _, D2.at 0 rfl, _, lk_writes, ⟨_, D2.at 2 rfl⟩, leS rfl, fun r hr' => ?_⟩
      have D3 := D2.add (o := .tup [.int i, .str z]) hr'
      refine ⟨_, D3.at 3 rfl, by rw [List.length_map, sizeLine_eq]; omega, ?_⟩
      have D4 := D3.set 3 (o' := .lst (R.map V.ref ++ [V.ref r])) rfl
      have D5 := D4.pick [1, 2, 3, 0]
      refine h i z rfl hi rfl hz2 hl r _ (D5.to ?_)
      rw [List.map_append, List.map_set]; rfl
def sp_settle (c : Nat → Addr) : Sp := fun vs H Q E => ∃ (d dx : Addr) (p w : Int) (la te wr : Addr) (lf : Option Nat) (T : List Str),
  vs = [.ref d] ∧ Led H [(d, .ins (c 8) dx (dkF p w la te wr (lfV lf))), (te, .lst (T.map V.str))] ∧ (lf = some 0 → E (.ref (c 7)) none H) ∧
  (lf ≠ some 0 → ∀ la wr H', Chg [d] H H' [(d, .ins (c 8) dx (dkF p w la te wr (lfV (lf.map (· - 1))))), (la, .lst (T.map V.str)), (wr, .lst [])] → Q .non H')
theorem ok_Disk_settle (Z : Wd K mg a c) : FnG false P w K mg base 4 (a 21).1 (a 21).2 ["self"] (sp_settle c) := by
  refine fun_okG Z.m_settle.fn sc_Disk_settle (fun vs H Q E h => ?_) (fun cdv A outer s H vs Q E hr h => ?_)
  · obtain ⟨d, dx, p, w, la, te, wr, lf, T, rfl, _⟩ := h; rfl
  · obtain ⟨d, dx, p, w, la, te, wr, lf, T, rfl, L, b, h⟩ := h
    have hd := L.at 0 rfl
    have ht := L.at 1 rfl
    refine ⟨_, (pss_cons (ps_expr (q_meth0 Z.m_spend (ok_Disk_spend Z) (hr.mono (by decide)) (takes_of rfl rfl rfl rfl) (qv 0)))
      (pss_cons (q_set Z.cl Z.a_lasting (qv 0) (pe_callTy c_list (by rfl) Z.n_list bt_list (pa_cons (q_fld Z.cl Z.a_texts (qv 0)) pa_nil)))
      (pss_one (q_set Z.cl Z.a_writes (qv 0) (pe_lst pa_nil))))), ?_⟩
    refine ⟨⟨_, _, hd, lk_none _ (by simp)⟩, d, dx, p, w, la, te, wr, lf, rfl, hd, b, fun hl H1 C1 => ?_⟩
    have nd : te ≠ d := fun e => by have q := ht; rw [e, hd] at q; cases q
    have ht1 := C1.keep _ _ (by simpa using nd) ht
    refine ⟨_, _, C1.at 0 rfl, _, lk_texts, _, ht1, fun la' hla => ?_⟩
    have C2 := C1.add (o := .lst (T.map V.str)) hla
    refine ⟨_, _, C2.at 1 rfl, lt1k rfl, ?_⟩
    have C3 := C2.set 1 (o' := .ins (c 8) dx (dkF p w la' te wr (lfV (lf.map (· - 1))))) rfl
    refine ⟨leS rfl, fun wr' hwr => ?_⟩
    have C4 := C3.add (o := .lst []) hwr
    refine ⟨_, _, C4.at 2 rfl, lt1k rfl, ?_⟩
    have C5 := C4.set 2 (o' := .ins (c 8) dx (dkF p w la' te wr' (lfV (lf.map (· - 1))))) rfl
    exact h hl la' wr' _ ((C5.pick [2, 1, 0]).to (by rfl))
def sp_loose (c : Nat → Addr) : Sp := fun vs H Q E => ∃ (d dx : Addr) (p w : Int) (la te wr : Addr) (lf : V) (R : List Addr) (W : List (Int × Str)),
  vs = [.ref d] ∧ H d = some (.ins (c 8) dx (dkF p w la te wr lf)) ∧ H wr = some (.lst (R.map V.ref)) ∧ Wrs H R W ∧ W.length ≤ 10000 ∧ ∀ l H', Chg [] H H' [(l, .lst (W.map fun x => V.int x.1))] → Q (.ref l) H'
theorem ok_Disk_loose (Z : Wd K mg a c) : FnG false P w K mg base 1 (a 22).1 (a 22).2 ["self"] (sp_loose c) := by
  refine fun_okG Z.m_loose.fn sc_Disk_loose (fun vs H Q E h => ?_) (fun cdv A outer s H vs Q E hr h => ?_)
  · obtain ⟨d, dx, p, w, la, te, wr, lf, R, W, rfl, _⟩ := h; rfl
  · obtain ⟨d, dx, p, w, la, te, wr, lf, R, W, rfl, hd, hw, hW, hn, h⟩ := h
    refine ⟨_, (pss_one (ps_ret (pe_lc (own := [("page", 1), ("text", 2)]) (by rfl) sc_Disk_loose.nd (pi_seq (q_fld Z.cl Z.a_writes (qv 0))) (blkOk_by (N := ["self", "page", "text"]) (sc := defScope s_Disk_loose) (by decide +kernel)) (fun _ _ _ _ _ => (pg_tupK (n := 2) K rfl (by rfl) (pgs_cons (pg_name (i := 1) sc_Disk_loose.nd rfl (Or.inl rfl)) (pgs_cons (pg_name (i := 2) sc_Disk_loose.nd rfl (Or.inl rfl)) pgs_nil)))) (fun _ _ _ _ _ => pts_nil) (fun _ _ _ _ _ => (qv 1))))), ?_⟩
    have hR : (R.map V.ref).length = W.length := by rw [List.length_map, hW.length]
    refine ⟨_, _, hd, _, lk_writes, _, _, hw, rfl, fun J wk D hD => ?_⟩
    have C0 : Chg (List.map (fun x => x.fst) ([] : Cells)) H H [] := .of .nil
    refine lc_fn wk (fun i => V.int (W.getD i (0, "")).1) hD C0 (by rw [hR, sizeLine_eq]; omega) (fun acc H2 C => keepAll' C _ _ hw) ?_ ?_ (by rintro x H' Q Q' q ⟨a, xs, e1, e2, e3, e4⟩; obtain ⟨v, r, f1, v2, r2, f2, f3, f4⟩ := e4; exact ⟨a, xs, e1, e2, e3, v, r, f1, v2, r2, f2, f3, q _ _ f4⟩)
    · rintro i x H1' H1 acc Qk hi C ⟨rfl, hx⟩ q
      have hi' : i < W.length := by rw [hR] at hi; exact hi
      obtain ⟨r, er, hr'⟩ := hW.get i hi'
      rw [List.getElem?_map, er] at hx
      cases hx
      refine ⟨r, _, rfl, .of (keepAll' C _ _ hr'), rfl, _, _, rfl, _, _, rfl, rfl, rfl, ?_⟩
      have q := q _ C
      rw [List.getD_eq_getElem?_getD, List.getElem?_eq_getElem hi'] at q
      exact q
    · intro H1 C
      refine h D H1 (C.to ?_)
      rw [hR]
      congr 3
      apply List.ext_getElem?
      intro j
      rw [List.getElem?_map, List.getElem?_map]
      by_cases hj : j < W.length
      · rw [List.getElem?_range hj, List.getElem?_eq_getElem hj]
        simp [List.getD_eq_getElem?_getD, List.getElem?_eq_getElem hj]
      · have e1 : (List.range W.length)[j]? = none := List.getElem?_eq_none (by rw [List.length_range]; omega)
        have e2 : W[j]? = none := List.getElem?_eq_none (by omega)
        rw [e1, e2]; rfl
/-- a count as stop takes it -/
def ctB (x : V) : Bool := match x with
  | .non => true
  | .int i => decide (0 ≤ i)
  | _ => false
def sp_stop (c : Nat → Addr) : Sp := fun vs H Q E => ∃ (d dx : Addr) (x : V) (k : Knd) (p w : Int) (la te wr : Addr) (lf : V),
  vs = [.ref d, x] ∧ H d = some (.ins (c 8) dx (dkF p w la te wr lf)) ∧ Arg H x k ∧ (ctB x = false → Bad (c 5) H x E) ∧ (ctB x = true → ∀ H', Chg [d] H H' [(d, .ins (c 8) dx (dkF p w la te wr x))] → Q .non H')
theorem ok_Disk_stop (Z : Wd K mg a c) : FnG false P w K mg base 3 (a 23).1 (a 23).2 ["self", "count"] (sp_stop c) := by
  refine fun_okG Z.m_stop.fn sc_Disk_stop (fun vs H Q E h => ?_) (fun cdv A outer s H vs Q E hr h => ?_)
  · obtain ⟨d, dx, x, k, p, w, la, te, wr, lf, rfl, _⟩ := h; rfl
  · obtain ⟨d, dx, x, k, p, w, la, te, wr, lf, rfl, hd, ar, b, h⟩ := h
    refine ⟨_, (pss_cons (ps_if (PW.pt (pw_and (pt_cmpR o_isN (qv 1) pe_non (nomark _)) (pw_and1 (pt_not (PW.pt (pw_and (pt_val (q_call Z.g_is_whole (ok_is_whole Z) (hr.mono (by decide)) (takes_of rfl rfl rfl rfl) (pa_cons (qv 1) pa_nil))) (pw_and1 (pt_cmpR o_ge (qv 1) pe_int (nomark _))))))))) (pss_one (q_raise (by rfl) (takes_of rfl rfl rfl rfl) Z.e_InvalidCount Z.en_InvalidCount (ok_InvalidCount_init Z) (hr.mono (by decide)) (qv 1))) pss_nil)
      (pss_one (q_set Z.cl Z.a_left (qv 0) (qv 1)))), ?_⟩
    have C0 : Chg [d] H H [(d, .ins (c 8) dx (dkF p w la te wr lf))] := .of (.one hd)
    have fin : ctB x = true → ∃ dx' fs, H d = some (.ins (c 8) dx' fs) ∧ fs.length < 1000 ∧ Q .non (upd H d (.ins (c 8) dx' (putF "left" x fs))) := fun e =>
      ⟨_, _, hd, lt1k rfl, h e _ (C0.set 0 (o' := .ins (c 8) dx (dkF p w la te wr x)) rfl)⟩
    refine ⟨rfl, _, rfl, ?_⟩
    cases ar with
    | non => exact fin rfl
    | int i =>
      refine ⟨_, _, rfl, .int i, _, rfl, _, rfl, ?_⟩
      by_cases h0 : 0 ≤ i
      · refine itN (show (!decide (0 ≤ i)) = false by rw [decide_eq_true h0]; rfl) ?_
        exact fin (by simpa [ctB] using h0)
      · refine itP (show (!decide (0 ≤ i)) = true by rw [decide_eq_false h0]; rfl) ?_
        exact fun e he => (b (by simpa [ctB] using h0)).go e he
    | bl i => exact ⟨_, _, rfl, .bl i, _, rfl, fun e he => (b rfl).go e he⟩
    | str i => exact ⟨_, _, rfl, .str i, _, rfl, fun e he => (b rfl).go e he⟩
    | lst i => exact ⟨_, _, rfl, .lst i, _, rfl, fun e he => (b rfl).go e he⟩
    | tup i => exact ⟨_, _, rfl, .tup i, _, rfl, fun e he => (b rfl).go e he⟩
    | dct i => exact ⟨_, _, rfl, .dct i, _, rfl, fun e he => (b rfl).go e he⟩
end
end Ks

/-! KsI: cut. -/
namespace Ks
open PySem PySem.Spec PyProof.Rows L2 PySem.W
/-- pages behind some writes -/
def beh (T : List Str) (W : List (Int × Str)) : List Str := W.foldl (fun T w => T.set w.1.toNat w.2) T
theorem beh_len : ∀ (W : List (Int × Str)) (T : List Str), (beh T W).length = T.length
  | [], _ => rfl
  | w :: W, T => by
    show (beh (T.set w.1.toNat w.2) W).length = _
    rw [beh_len W, List.length_set]
theorem beh_app (T : List Str) (W : List (Int × Str)) (w : Int × Str) : beh T (W ++ [w]) = (beh T W).set w.1.toNat w.2 := by
  unfold beh
  rw [List.foldl_append]; rfl
/-- the writes at some indices -/
def atW (W : List (Int × Str)) (ns : List Int) : List (Int × Str) := ns.map fun n => W.getD n.toNat (0, "")
theorem atW_take (W : List (Int × Str)) (ns : List Int) (i : Nat) (n : Int) (h : ns[i]? = some n) : atW W (ns.take (i + 1)) = atW W (ns.take i) ++ [W.getD n.toNat (0, "")] := by
  unfold atW
  rw [List.take_succ, h, List.map_append]; rfl
section
variable {P : Program} {w : World} {K : PySem.W.Frag} {mg : Str → Option Value} {base : Heap} {a : Nat → Addr × FuncData} {c : Nat → Addr}
def sp_cut (c : Nat → Addr) : Sp := fun vs H Q E => ∃ (d dx : Addr) (dn : V) (k : Knd) (ys : List V) (p w : Int) (la te wr : Addr) (lf : V) (L : List Str) (R : List Addr) (W : List (Int × Str)),
  vs = [.ref d, dn] ∧ H d = some (.ins (c 8) dx (dkF p w la te wr lf)) ∧ H la = some (.lst (L.map V.str)) ∧ H wr = some (.lst (R.map V.ref)) ∧ Wrs H R W ∧ Seqd H dn k ys ∧ (L.length : Int) = p ∧ 3 ≤ p ∧ p ≤ 40 ∧ 20 ≤ w ∧ w ≤ 400 ∧ W.length ≤ 4000 ∧
  (∀ x ∈ W, 0 ≤ x.1 ∧ x.1 < p) ∧ ((¬ ∃ ns, Kept k ys W.length ns) → Bad (c 6) H dn E) ∧
  ∀ ns, Kept k ys W.length ns → ∀ r dx' la' te' wr' H', Chg [] H H' [(r, .ins (c 8) dx' (dkF p w la' te' wr' .non)), (la', .lst ((beh L (atW W ns)).map V.str)), (te', .lst ((beh L (atW W ns)).map V.str)), (wr', .lst [])] → Q (.ref r) H'
theorem ok_Disk_cut (Z : Wd K mg a c) : FnG false P w K mg base 5 (a 24).1 (a 24).2 ["self", "done"] (sp_cut c) := by
  refine fun_okG Z.m_cut.fn sc_Disk_cut (fun vs H Q E h => ?_) (fun cdv A outer s H vs Q E hr h => ?_)
  · obtain ⟨d, dx, dn, k, ys, p, w, la, te, wr, lf, L, R, W, rfl, _⟩ := h; rfl
  · obtain ⟨d, dx, dn, k, ys, p, w, la, te, wr, lf, L, R, W, rfl, hd, hla, hw, hW, sq, hL, p3, p40, w20, w400, hn, hWp, b, h⟩ := h
    refine ⟨_, (pss_cons (ps_if (pt_not (pt_val (q_call Z.g_are_kept (ok_are_kept Z) (hr.mono (by decide)) (takes_of rfl rfl rfl rfl) (pa_cons (qv 1) (pa_cons (pe_callB c_len (by rfl) Z.n_len bt_len (pa_cons (q_fld Z.cl Z.a_writes (qv 0)) pa_nil)) pa_nil))))) (pss_one (q_raise (by rfl) (takes_of rfl rfl rfl rfl) Z.e_InvalidDone Z.en_InvalidDone (ok_InvalidDone_init Z) (hr.mono (by decide)) (qv 1))) pss_nil)
      (pss_cons (ps_set (i := 2) sc_Disk_cut.nd rfl (Or.inl rfl) (pe_callTy c_list (by rfl) Z.n_list bt_list (pa_cons (q_fld Z.cl Z.a_lasting (qv 0)) pa_nil)))
      (pss_cons (ps_for (passes_of rfl) (by rfl) (pi_seq (qv 1)) (pg_name (i := 3) sc_Disk_cut.nd rfl (Or.inl rfl))
      (pss_cons (ps_asg (pe_ix ix_d (q_fld Z.cl Z.a_writes (qv 0)) (qv 3) (fun _ _ => rfl)) (pg_tup (n := 2) (by rfl) (pgs_cons (pg_name (i := 4) sc_Disk_cut.nd rfl (Or.inl rfl)) (pgs_cons (pg_name (i := 5) sc_Disk_cut.nd rfl (Or.inl rfl)) pgs_nil))))
      (pss_one (ps_asg (qv 5) (pg_sub (qv 2) (qv 4) set_d)))))
      (pss_cons (ps_set (i := 6) sc_Disk_cut.nd rfl (Or.inl rfl) (q_make Z.kd (by rfl) (ok_Disk_init Z) (hr.mono (by decide)) (takes_of rfl rfl rfl rfl) (pa_cons (q_fld Z.cl Z.a_pages (qv 0)) (pa_cons (q_fld Z.cl Z.a_width (qv 0)) pa_nil))))
      (pss_cons (ps_asg (pe_tup (pa_cons (qv 2) (pa_cons (pe_callTy c_list (by rfl) Z.n_list bt_list (pa_cons (qv 2) pa_nil)) pa_nil))) (pg_tup (n := 2) (by rfl) (pgs_cons (qg_fld Z.cl Z.a_lasting (qv 6)) (pgs_cons (qg_fld Z.cl Z.a_texts (qv 6)) pgs_nil))))
      (pss_one (ps_ret (qv 6)))))))), ?_⟩
    have hR : (R.map V.ref).length = W.length := by rw [List.length_map, hW.length]
    refine ⟨_, _, hd, _, lk_writes, _, hw, dn, k, _, ys, rfl, sq, fun bb hb H1 C1 => ⟨bb, rfl, ?_⟩⟩
    rw [hR] at hb
    have e1 := keepAll C1
    cases bb with
    | false => exact fun e he => ((b (fun z => by have := hb.mpr z; cases this)).up C1).go e he
    | true =>
      refine itN rfl ?_
      obtain ⟨ns, hk⟩ := hb.mp rfl
      refine ⟨_, _, e1 _ _ hd, _, lk_lasting, _, e1 _ _ hla, fun lc hlc => ?_⟩
      have C2 := C1.add (o := .lst (L.map V.str)) hlc
      obtain ⟨hk1, ens, bns, pw⟩ := id hk
      rcases sq.seq with ⟨_, l, o, rfl, e, hx, he, ar, n⟩ | ⟨h1, h2⟩
      · refine ⟨o, ys, keepAll C2 _ _ e, hx, fun J wk => ?_⟩
        refine for_it wk (fun i σ H' => ∃ v3 v4 v5, σ = [some (.ref d), some (.ref l), some (.ref lc), v3, v4, v5, none] ∧ Chg [] H H' [(lc, .lst ((beh L (atW W (ns.take i))).map V.str))])
          ⟨none, none, none, rfl, C2⟩ (fun i σ H' _ q => ?_) ?_ ?_
        · obtain ⟨_, _, _, _, C⟩ := q
          exact keepAll C _ _ e
        · rintro i x σ H2' H2 hi ⟨v3, v4, v5, rfl, C⟩ ⟨rfl, hx'⟩
          have e2 := keepAll C
          subst ens
          rw [List.getElem?_map] at hx'
          cases hni : ns[i]? with
          | none => rw [hni] at hx'; cases hx'
          | some m =>
            rw [hni] at hx'
            cases hx'
            obtain ⟨m0, m1⟩ := bns m (List.mem_of_getElem? hni)
            have hm : m.toNat < W.length := by omega
            obtain ⟨r, er, hr'⟩ := hW.get m.toNat hm
            have em : m = (m.toNat : Int) := by omega
            refine ⟨_, _, e2 _ _ hd, _, lk_writes, _, e2 _ _ hw, V.ref r, (by rw [em]; exact atI_nat (by rw [List.getElem?_map, er]; rfl)), ?_⟩
            refine ⟨r, _, rfl, .of (e2 _ _ hr'), rfl, _, _, rfl, _, _, rfl, rfl, ?_⟩
            obtain ⟨q0, q1⟩ := hWp W[m.toNat] (List.getElem_mem hm)
            have hlen : (beh L (atW W (ns.take i))).length = L.length := beh_len _ _
            refine ⟨_, W[m.toNat].1.toNat, C.at 0 rfl, ?_, some (.int m), some (.int W[m.toNat].1), some (.str W[m.toNat].2), rfl, (C.set 0 rfl).to ?_⟩
            · have : W[m.toNat].1 = (W[m.toNat].1.toNat : Int) := by omega
              rw [this]
              exact ixN_nat (by rw [List.length_map, hlen]; omega)
            · rw [atW_take W ns i m hni, beh_app, List.map_set]
              rw [List.getD_eq_getElem?_getD, List.getElem?_eq_getElem hm]; rfl
        · rintro σ H2 ⟨v3, v4, v5, rfl, C⟩
          have e2 := keepAll C
          have etk : ns.take ys.length = ns := by rw [ens, List.length_map]; exact List.take_length
          rw [etk] at C
          refine ⟨_, _, e2 _ _ hd, _, lk_pages, _, _, e2 _ _ hd, _, lk_width, fun x dx' nx ndx ne => ?_⟩
          have C3 := (C.skip (o := .own x) ndx).add (p := x) (o := .ins (c 8) dx' []) (by rw [upd_ne ne.symm]; exact nx)
          have hin : inR (.int p) 3 40 = true := by simp only [inR, Bool.and_eq_true, decide_eq_true_eq]; omega
          have hin2 : inR (.int w) 20 400 = true := by simp only [inR, Bool.and_eq_true, decide_eq_true_eq]; omega
          refine ⟨x, dx', .int p, .int w, _, _, rfl, upd_same, .int p, .int w, fun z => ?_, fun _ z => ?_, fun p' w' ep ew _ _ _ _ la' te' wr' H4 C4 => ⟨rfl, ?_⟩⟩
          · rw [hin] at z; cases z
          · rw [hin2] at z; cases z
          cases ep
          cases ew
          have C5 := C3.call [0] C4
          refine ⟨_, C5.at 4 rfl, fun te2 hte2 => ?_⟩
          have C6 := C5.add (o := .lst ((beh L (atW W ns)).map V.str)) hte2
          refine ⟨leS rfl, fun tp htp => ?_⟩
          have C7 := C6.skip (o := .tup [.ref lc, .ref te2]) htp
          refine ⟨tp, _, rfl, .of upd_same, rfl, _, _, rfl, _, _, C7.at 4 rfl, lt1k rfl, ?_⟩
          have C8 := C7.set 4 (o' := .ins (c 8) dx' (dkF p w lc te' wr' .non)) rfl
          refine ⟨_, _, rfl, _, _, C8.at 4 rfl, lt1k rfl, rfl, ?_⟩
          have C9 := C8.set 4 (o' := .ins (c 8) dx' (dkF p w lc te2 wr' .non)) rfl
          exact h ns hk x dx' lc te2 wr' _ ((C9.pick [4, 5, 0, 1]).to (by rfl))
      · exact (hk1.elim h1 h2).elim
end
end Ks

/-! KsT: facts about texts. -/
namespace Ks
open PySem PySem.Spec PyProof.Rows L2 PySem.W
theorem okc_iff (n : Nat) : okc n = true ↔ 32 ≤ n ∧ n ≤ 126 := by
  unfold okc
  rw [Bool.and_eq_true, Bool.not_eq_true', Bool.not_eq_true', decide_eq_false_iff_not, decide_eq_false_iff_not]
  have h1 : ([n] < [32]) ↔ n < 32 := by
    rw [List.cons_lt_cons_iff]; simp
  have h2 : ([126] < [n]) ↔ 126 < n := by
    rw [List.cons_lt_cons_iff]; simp
  rw [h1, h2]
  omega
/-- printable signs alone; signs below 128 alone -/
def Prn (z : Str) : Prop := ∀ c ∈ z.cps.toList, okc c = true
def Asc (z : Str) : Prop := ∀ c ∈ z.cps.toList, c < 128
theorem Prn.asc {z : Str} (h : Prn z) : Asc z := fun c hc => by
  have := (okc_iff c).mp (h c hc)
  omega
theorem prn_all {z : Str} : z.cps.toList.all okc = true ↔ Prn z := List.all_eq_true
theorem len_tl (z : Str) : z.cps.toList.length = z.length := by simp [Str.length]
theorem tl_joinE (ys : List Str) : (Txt.join "" ys).cps.toList = (ys.map fun y => y.cps.toList).flatten := by
  rw [show Txt.join "" ys = Str.join "" ys from TL.join_eq _ _]
  have h := TL.tl_join ("" : Str) ys
  have e : ∀ l : List (List Nat), TL.joinL [] l = l.flatten := fun l => by
    induction l with
    | nil => rfl
    | cons p l ih =>
      cases l with
      | nil => show p = p ++ []; simp
      | cons q r =>
        show p ++ ([] ++ TL.joinL [] (q :: r)) = p ++ (q :: r).flatten
        rw [ih, List.nil_append]
  have e2 : TL.tl ("" : Str) = [] := rfl
  rw [e2, e] at h
  exact h
theorem prn_join {ys : List Str} (h : ∀ y ∈ ys, Prn y) : Prn (Txt.join "" ys) := fun c hc => by
  rw [tl_joinE] at hc
  obtain ⟨l, hl, hc⟩ := List.mem_flatten.mp hc
  obtain ⟨y, hy, rfl⟩ := List.mem_map.mp hl
  exact h y hy c hc
theorem len_join1 {ys : List Str} (h : ∀ y ∈ ys, y.length = 1) : (Txt.join "" ys).length = ys.length := by
  rw [← len_tl, tl_joinE]
  induction ys with
  | nil => rfl
  | cons y ys ih =>
    rw [List.map_cons, List.flatten_cons, List.length_append, ih (fun z hz => h z (List.mem_cons_of_mem _ hz)), len_tl, h y List.mem_cons_self, List.length_cons]
    omega
theorem tl_cut (z : Str) (lo hi : Option Int) : (cutS z lo hi).cps.toList = (z.cps.toList.drop (HT.sIx z.length 0 lo)).take (HT.sIx z.length z.length hi - HT.sIx z.length 0 lo) := by
  unfold cutS
  simp
theorem cut_mem {z : Str} {lo hi : Option Int} {c : Nat} (h : c ∈ (cutS z lo hi).cps.toList) : c ∈ z.cps.toList := by
  rw [tl_cut] at h
  exact List.mem_of_mem_drop (List.mem_of_mem_take h)
theorem tl_mul (x : Str) (n : Int) : ∀ c ∈ (Txt.mul x n).cps.toList, c ∈ x.cps.toList := fun c hc => by
  unfold Txt.mul at hc
  split at hc
  · exact absurd hc (by simp [Str.empty])
  · split at hc
    · exact hc
    · have key : ∀ (k : Nat) (acc : Array Nat), (∀ c ∈ acc.toList, c ∈ x.cps.toList) → ∀ c ∈ ((List.replicate k x.cps).foldl (· ++ ·) acc).toList, c ∈ x.cps.toList := by
        intro k
        induction k with
        | zero => intro acc h c hc; exact h c hc
        | succ k ih =>
          intro acc h c hc
          rw [List.replicate_succ, List.foldl_cons] at hc
          refine ih _ (fun c hc => ?_) c hc
          rw [Array.toList_append] at hc
          rcases List.mem_append.mp hc with q | q
          · exact h c q
          · exact q
      exact key n.toNat #[] (fun c hc => by simp at hc) c hc
theorem len_mulN (x : Str) (n : Nat) : (Txt.mul x n).length = x.length * n := by
  have h := len_mul x n
  rw [if_neg (by simp)] at h
  exact_mod_cast h
theorem tl_app (x y : Str) : (x ++ y).cps.toList = x.cps.toList ++ y.cps.toList := by
  show (x.cps ++ y.cps).toList = _
  simp
theorem len_app (x y : Str) : (x ++ y).length = x.length + y.length := by
  rw [← len_tl, tl_app, List.length_append, len_tl, len_tl]
theorem Asc.app {x y : Str} (h : Asc x) (g : Asc y) : Asc (x ++ y) := fun c hc => by
  rw [tl_app] at hc
  exact (List.mem_append.mp hc).elim (h c) (g c)
theorem Prn.app {x y : Str} (h : Prn x) (g : Prn y) : Prn (x ++ y) := fun c hc => by
  rw [tl_app] at hc
  exact (List.mem_append.mp hc).elim (h c) (g c)
theorem repr_small {x : Str} (h : Asc x) : (reprText x).length ≤ 10 * x.length + 2 := StrLaws.reprText_len x fun c hc => Nat.lt_trans (h c hc) (by decide)
theorem pgT_ok {z : Str} {w : Int} (h : Prn z) (l : (z.length : Int) ≤ w) : pgT z w = true := by
  unfold pgT
  rw [decide_eq_true l, prn_all.mpr h]; rfl
theorem pgT_len {z : Str} {w : Int} (l : w < (z.length : Int)) : pgT z w = false := by
  unfold pgT
  rw [decide_eq_false (by omega)]; rfl
theorem pgT_odd {z : Str} {w : Int} (c : Nat) (h : c ∈ z.cps.toList) (o : okc c = false) : pgT z w = false := by
  unfold pgT
  have : z.cps.toList.all okc = false := by
    rw [Bool.eq_false_iff]
    intro e
    have := List.all_eq_true.mp e c h
    rw [o] at this; cases this
  rw [this, Bool.and_false]
end Ks

/-! KsJ: the law's box and texts. -/
namespace Ks
open PySem PySem.Spec PyProof.Rows L2 PySem.W
/-- a box that gave at most n draws by itself -/
def Bx (n : Nat) (o : HO) : Prop := ∃ (g : Int) (f : Bool) (s k : Int), o = .lst [.int g, .bl f, .int s, .int k] ∧ 0 ≤ s ∧ s < 2147483648 ∧ 0 ≤ k ∧ k ≤ n
theorem Bx.le {n m : Nat} {o : HO} (b : Bx n o) (h : n ≤ m) : Bx m o := by
  obtain ⟨g, f, s, k, e, h1, h2, h3, h4⟩ := b
  exact ⟨g, f, s, k, e, h1, h2, h3, by omega⟩
def cutL (ns : List Int) (lo hi : Option Int) : List Int := (ns.drop (HT.sIx ns.length 0 lo)).take (HT.sIx ns.length ns.length hi - HT.sIx ns.length 0 lo)
theorem cutV_map (ns : List Int) (lo hi : Option Int) : cutV (ns.map V.int) lo hi = (cutL ns lo hi).map V.int := by
  unfold cutV cutL
  rw [List.map_take, List.map_drop, List.length_map]
theorem getI {ns : List Int} {i : Nat} (h : i < ns.length) : atI (ns.map V.int) (i : Int) = some (V.int ns[i]) := atI_nat (by rw [List.getElem?_map, List.getElem?_eq_getElem h]; rfl)
section
variable {P : Program} {w : World} {K : PySem.W.Frag} {mg : Str → Option Value} {base : Heap} {a : Nat → Addr × FuncData} {c : Nat → Addr}
def sp_cell (K : PySem.W.Frag) : Sp := fun vs H Q _ => ∃ (l : Addr) (ns : List Int) (k : Nat), vs = [.ref l, .int k] ∧ SqL K H l (ns.map V.int) ∧ ∀ z H', Chg [] H H' [] → Q (.int z) H'
theorem ok_law_cell (Z : Wd K mg a c) : FnG false P w K mg base 1 (a 25).1 (a 25).2 ["script", "k"] (sp_cell K) := by
  refine fun_okG Z.g_law_cell.fn sc_law_cell (fun vs H Q E h => ?_) (fun cdv A outer s H vs Q E hr h => ?_)
  · obtain ⟨l, ns, k, rfl, _⟩ := h; rfl
  · obtain ⟨l, ns, k, rfl, hl, h⟩ := h
    refine ⟨_, (pss_one (ps_ret (pe_ifExp (pt_cmpR o_lt (qv 1) (pe_callB call_len_seq (by rfl) Z.n_len bt_len (pa_cons (qv 0) pa_nil)) (nomark _)) (pe_ix ix_seq (qv 0) (qv 1) (fun _ _ => rfl)) (pe_op o_add (pe_op o_mul pe_int (qv 1)) (pe_op o_mod (pe_callB (c_sum (by rfl)) (by rfl) Z.n_sum bt_sum (pa_cons (pe_slice sl_list (qv 0) po_none (po_some pe_int)) pa_nil)) pe_int))))), ?_⟩
    have C0 : Chg (List.map (fun x => x.fst) ([] : Cells)) H H [] := .of .nil
    refine ⟨l, _, rfl, .inl hl, _, rfl, ?_⟩
    rw [List.length_map]
    by_cases hk : (k : Int) < (ns.length : Nat)
    · refine itP (decide_eq_true hk) ?_
      exact .inl ⟨l, _, _, _, rfl, rfl, hl, getI (by omega), h _ _ C0⟩
    · refine itN (decide_eq_false hk) ?_
      refine ⟨.inl ⟨by decide, by decide⟩, _, rfl, l, _, rfl, hl, fun q hq => ⟨cutL ns none (some 1), ?_, (by show (0 : Int) < 1000033; decide), ?_⟩⟩
      · rw [upd_same, cutV_map]
      · exact h _ _ (C0.skip hq)
def sp_box : Sp := fun vs H Q _ => ∃ z : Int, vs = [.int z] ∧ ∀ b o H', Bx 0 o → Chg [] H H' [(b, o)] → Q (.ref b) H'
theorem ok_law_box (Z : Wd K mg a c) : FnG false P w K mg base 1 (a 26).1 (a 26).2 ["great"] sp_box := by
  refine fun_okG Z.g_law_box.fn sc_law_box (fun vs H Q E h => ?_) (fun cdv A outer s H vs Q E hr h => ?_)
  · obtain ⟨z, rfl, _⟩ := h; rfl
  · obtain ⟨z, rfl, h⟩ := h
    refine ⟨_, (pss_one (ps_ret (pe_lst (pa_cons (pe_callB c_abs (by rfl) Z.n_abs bt_abs (pa_cons (qv 0) pa_nil)) (pa_cons (pe_cmpR o_ge (pe_callB c_abs (by rfl) Z.n_abs bt_abs (pa_cons (qv 0) pa_nil)) (pe_op o_pow pe_int pe_int) (nomark _)) (pa_cons (pe_op o_mod (pe_callTy c_int (by rfl) Z.n_int bt_int (pa_cons (pe_callB c_abs (by rfl) Z.n_abs bt_abs (pa_cons (qv 0) pa_nil)) pa_nil)) pe_int) (pa_cons pe_int pa_nil))))))), ?_⟩
    refine ⟨⟨by decide, by decide, by decide⟩, (by show (0 : Int) < 2147483629; decide), leS rfl, fun p hp => ?_⟩
    have C0 : Chg (List.map (fun x => x.fst) ([] : Cells)) H H [] := .of .nil
    exact h p _ _ ⟨_, _, _, _, rfl, by omega, by omega, by decide, by decide⟩ (C0.add hp)
def sp_take : Sp := fun vs H Q _ => ∃ (b : Addr) (o : HO) (n : Nat) (m : Int), vs = [.ref b, .int m] ∧ H b = some o ∧ Bx n o ∧ n ≤ 1073741824 ∧ 0 < m ∧ m < 1073741824 ∧
  ∀ d o' H', 0 ≤ d → d < m → Bx (n + 1) o' → Chg [b] H H' [(b, o')] → Q (.int d) H'
theorem ok_law_take (Z : Wd K mg a c) : FnG false P w K mg base 1 (a 27).1 (a 27).2 ["box", "many"] sp_take := by
  refine fun_okG Z.g_law_take.fn sc_law_take (fun vs H Q E h => ?_) (fun cdv A outer s H vs Q E hr h => ?_)
  · obtain ⟨b, o, n, m, rfl, _⟩ := h; rfl
  · obtain ⟨b, o, n, m, rfl, hb, ⟨g, f, s0, k, rfl, s1, s2, k1, k2⟩, hn, m1, m2, h⟩ := h
    refine ⟨_, (pss_cons (ps_if (PW.pt (pw_and (pt_val (pe_ix ix_d (qv 0) pe_int (fun _ _ => rfl))) (pw_and1 (pt_cmpR o_gt (pe_ix ix_d (qv 0) pe_int (fun _ _ => rfl)) pe_int (nomark _))))) (pss_cons (ps_set (i := 2) sc_law_take.nd rfl (Or.inl rfl) (pe_op o_mod (pe_callTy c_int (by rfl) Z.n_int bt_int (pa_cons (pe_ix ix_d (qv 0) pe_int (fun _ _ => rfl)) pa_nil)) (qv 1)))
      (pss_cons (ps_asg (pe_op o_fdiv (pe_ix ix_d (qv 0) pe_int (fun _ _ => rfl)) (qv 1)) (pg_sub (qv 0) pe_int set_d))
      (pss_one (ps_ret (qv 2))))) pss_nil)
      (pss_cons (ps_asg (pe_op o_add (pe_ix ix_d (qv 0) pe_int (fun _ _ => rfl)) pe_int) (pg_sub (qv 0) pe_int set_d))
      (pss_cons (ps_set (i := 3) sc_law_take.nd rfl (Or.inl rfl) (pe_op o_mod (pe_callTy c_int (by rfl) Z.n_int bt_int (pa_cons (pe_op o_pow (pe_op o_add (pe_op o_add (pe_ix ix_d (qv 0) pe_int (fun _ _ => rfl)) (pe_op o_mul pe_int (pe_ix ix_d (qv 0) pe_int (fun _ _ => rfl)))) pe_int) pe_int) pa_nil)) pe_int))
      (pss_one (ps_ret (pe_op o_mod (pe_op o_fdiv (pe_op o_mod (pe_callTy c_int (by rfl) Z.n_int bt_int (pa_cons (pe_op o_pow (pe_op o_add (pe_op o_mul (qv 3) pe_int) (pe_op o_mul pe_int (pe_ix ix_d (qv 0) pe_int (fun _ _ => rfl)))) pe_int) pa_nil)) pe_int) pe_int) (qv 1))))))), ?_⟩
    have C0 : Chg [b] H H [(b, .lst [.int g, .bl f, .int s0, .int k])] := .of (.one hb)
    have drawn : (tSeq (tAsg (tOp rAddD (tOp rIxD (tV 0) (tC (V.int 3))) (tC (V.int 1))) (gSub (tV 0) (tC (V.int 3)) rSetD))
        (tSeq (tAsg (tOp (rII (fun _ j => 0 < j) fun i j => V.int (i % j)) (tCB (r1D (kInt fun i => V.int i)) (tCons (tOp (rII CPow fun i j => V.int (i ^ j.toNat)) (tOp rAddD (tOp rAddD (tOp rIxD (tV 0) (tC (V.int 2))) (tOp rMul (tC (V.int 15485863)) (tOp rIxD (tV 0) (tC (V.int 3))))) (tC (V.int 179424673))) (tC (V.int 5))) tNil)) (tC (V.int 2147483647))) (gName 3))
        (tRet (tOp (rII (fun _ j => 0 < j) fun i j => V.int (i % j)) (tOp (rII CDiv fun i j => V.int (i / j)) (tOp (rII (fun _ j => 0 < j) fun i j => V.int (i % j)) (tCB (r1D (kInt fun i => V.int i)) (tCons (tOp (rII CPow fun i j => V.int (i ^ j.toNat)) (tOp rAddD (tOp rMul (tV 3) (tC (V.int 48271))) (tOp rMul (tC (V.int 104729)) (tOp rIxD (tV 0) (tC (V.int 3))))) (tC (V.int 3))) tNil)) (tC (V.int 2147483587))) (tC (V.int 64))) (tV 1)))))
        { nx := fun _ H' => Q .non H', rt := Q } (L2.start ["box", "many", "digit", "mixed"] [.ref b, .int m]) H := by
      have C1 := C0.set 0 (o' := .lst [.int g, .bl f, .int s0, .int (k + 1)]) rfl
      refine ⟨_, hb, _, rfl, _, 3, hb, rfl, ?_⟩
      have d1 : 0 ≤ (s0 + 15485863 * (k + 1) + 179424673) ^ 5 % 2147483647 ∧ (s0 + 15485863 * (k + 1) + 179424673) ^ 5 % 2147483647 < 2147483647 := by
        have h1 := Int.emod_nonneg ((s0 + 15485863 * (k + 1) + 179424673) ^ 5) (show (2147483647 : Int) ≠ 0 by decide)
        have h2 := Int.emod_lt_of_pos ((s0 + 15485863 * (k + 1) + 179424673) ^ 5) (show (0 : Int) < 2147483647 by decide)
        exact ⟨h1, h2⟩
      refine ⟨_, C1.at 0 rfl, _, rfl, _, C1.at 0 rfl, _, rfl, .inl ⟨by decide, by decide⟩, ⟨by decide, by decide, by omega⟩, (by show (0 : Int) < 2147483647; decide), ?_⟩
      refine ⟨.inr ⟨by decide, by decide⟩, _, C1.at 0 rfl, _, rfl, .inl ⟨by decide, by decide⟩, ⟨by decide, by decide, ?_⟩, (by show (0 : Int) < 2147483587; decide), ⟨by decide, by decide⟩, m1, ?_⟩
      · show ((s0 + 15485863 * (k + 1) + 179424673) ^ 5 % 2147483647 * 48271 + 104729 * (k + 1)).natAbs < 2 ^ 64
        omega
      · exact h _ _ _ (Int.emod_nonneg _ (by omega)) (Int.emod_lt_of_pos _ m1) ⟨g, f, s0, k + 1, rfl, s1, s2, by omega, by omega⟩ C1
    refine ⟨_, hb, _, rfl, f, rfl, ?_⟩
    cases f with
    | false => exact drawn
    | true =>
      refine ⟨_, hb, _, rfl, _, rfl, ?_⟩
      by_cases g0 : 0 < g
      · refine itP (decide_eq_true g0) ?_
        refine ⟨_, hb, _, rfl, m1, _, hb, _, rfl, ⟨m1, m2⟩, _, 0, hb, rfl, ?_⟩
        have C1 := C0.set 0 (o' := .lst [.int (g / m), .bl true, .int s0, .int k]) rfl
        exact h _ _ _ (Int.emod_nonneg _ (by omega)) (Int.emod_lt_of_pos _ m1) ⟨_, _, _, _, rfl, s1, s2, k1, by omega⟩ C1
      · refine itN (decide_eq_false g0) ?_
        exact drawn
end
end Ks

/-! KsK: the law's texts. -/
namespace Ks
open PySem PySem.Spec PyProof.Rows L2 PySem.W
abbrev sg1 : Str := " !\"#$&'()*+,-./0123456789:;<=>?@ABCDEFGHIJKLMNOPQRSTUVWXYZ[\\]^_`abcdefghijklmnopqrstuvwxyz{|}~"
abbrev sg2 : Str := " !#$&'()*+,-./0123456789:;<=>?@ABCDEFGHIJKLMNOPQRSTUVWXYZ[]^_abcdefghijklmnopqrstuvwxyz{|}~"
theorem sg1_ok : sg1.cps.toList.length = 94 ∧ sg1.cps.toList.all okc = true := by decide +kernel
theorem sg2_ok : sg2.cps.toList.length = 91 ∧ sg2.cps.toList.all okc = true := by decide +kernel
theorem sign_at {z : Str} {n : Nat} (h : z.cps.toList.length = n ∧ z.cps.toList.all okc = true) {d : Int} (d0 : 0 ≤ d) (d1 : d < n) : ∃ ch, atI z.cps.toList d = some ch ∧ okc ch = true := by
  obtain ⟨i, rfl⟩ : ∃ i : Nat, d = i := ⟨d.toNat, by omega⟩
  have hi : i < z.cps.toList.length := by omega
  exact ⟨z.cps.toList[i], atI_nat (List.getElem?_eq_getElem hi), List.all_eq_true.mp h.2 _ (List.getElem_mem hi)⟩
theorem cut_le {z : Str} {v : Int} (h : 0 ≤ v) : (cutS z none (some v)).length ≤ v.toNat := by
  rw [← len_tl, tl_cut, List.length_take]
  have : HT.sIx z.length z.length (some v) ≤ v.toNat := by
    show (if v < 0 then (v + (z.length : Int)).toNat else min v.toNat z.length) ≤ v.toNat
    rw [if_neg (by omega)]
    omega
  omega
section
variable {P : Program} {w : World} {K : PySem.W.Frag} {mg : Str → Option Value} {base : Heap} {a : Nat → Addr × FuncData} {c : Nat → Addr}
def sp_text : Sp := fun vs H Q _ => ∃ (b : Addr) (o : HO) (n m : Nat), vs = [.ref b, .int m] ∧ H b = some o ∧ Bx n o ∧ n ≤ 1000000000 ∧ m ≤ 8 ∧
  ∀ z o' H', z.length = m → Prn z → Bx (n + m) o' → Chg [b] H H' [(b, o')] → Q (.str z) H'
/-- the items of a drawn text -/
def Drn (n i : Nat) (o : HO) (acc : List V) : Prop := Bx (n + i) o ∧ ∃ zs : List Str, acc = zs.map V.str ∧ zs.length = i ∧ ∀ z ∈ zs, z.length = 1 ∧ Prn z
theorem Drn.next {n i : Nat} {o o' : HO} {acc : List V} {ch : Nat} (d : Drn n i o acc) (h : okc ch = true) (b : Bx (n + i + 1) o') : Drn n (i + 1) o' (acc ++ [.str ⟨#[ch]⟩]) := by
  obtain ⟨_, zs, e, l, hz⟩ := d
  refine ⟨b, zs ++ [⟨#[ch]⟩], by rw [e, List.map_append]; rfl, by rw [List.length_append, l]; rfl, fun z hm => ?_⟩
  rcases List.mem_append.mp hm with q | q
  · exact hz z q
  · rw [List.mem_singleton] at q
    subst q
    refine ⟨rfl, fun c hc => ?_⟩
    have : c = ch := by simpa using hc
    rw [this]; exact h
theorem sum_ones : ∀ {zs : List Str}, (∀ z ∈ zs, z.length = 1) → (zs.map (·.length)).sum = zs.length
  | [], _ => rfl
  | z :: zs, h => by
    rw [List.map_cons, List.sum_cons, sum_ones (fun y hy => h y (List.mem_cons_of_mem _ hy)), h z List.mem_cons_self, List.length_cons]; omega
theorem ok_law_text (Z : Wd K mg a c) : FnG false P w K mg base 2 (a 28).1 (a 28).2 ["box", "many"] sp_text := by
  refine fun_okG Z.g_law_text.fn sc_law_text (fun vs H Q E h => ?_) (fun cdv A outer s H vs Q E hr h => ?_)
  · obtain ⟨b, o, n, m, rfl, _⟩ := h; rfl
  · obtain ⟨b, o, n, m, rfl, hb, bx, hn, hm, h⟩ := h
    refine ⟨_, (pss_cons (ps_set (i := 2) sc_law_text.nd rfl (Or.inr rfl) pe_str)
      (pss_one (ps_ret (q_sm PySem.F.slot_str_join PySem.F.type_str_join m_join pe_str (pa_cons (pe_lc (own := [("k", 3)]) (by rfl) sc_law_text.nd (pi_range1 (by rfl) Z.n_range (pa_cons (qv 1) pa_nil)) (blkOk_by (N := ["box", "many", "signs", "k"]) (sc := defScope s_law_text) (by decide +kernel)) (fun _ _ _ _ _ => (pg_name (i := 3) sc_law_text.nd rfl (Or.inl rfl))) (fun _ _ _ _ _ => pts_nil) (fun _ _ _ _ _ => (pe_ix ix_d (qv 2) (q_call Z.g_law_take (ok_law_take Z) (hr.mono (by decide)) takes0 (pa_cons (qv 0) (pa_cons pe_int pa_nil))) (fun _ _ => rfl)))) pa_nil))))), ?_⟩
    have C0 : Chg [b] H H [(b, o)] := .of (.one hb)
    refine ⟨_, rfl, by omega, by omega, fun D hD => ?_⟩
    refine lc_led walk_range (S := HO) (A := [b]) (H0 := H) (fun o => [(b, o)]) (Drn n) o hD C0 ⟨bx, [], rfl, rfl, fun z h => nomatch h⟩ (by rw [sizeLine_eq]; omega) (fun i z acc p => ?_) (fun _ _ _ _ _ _ => ⟨⟩) ?_ ?_
    · obtain ⟨_, zs, e, l, _⟩ := p
      rw [e, List.length_map]; omega
    · rintro i x H1' H1 o1 acc Qk Nk hi dr C ⟨rfl, rfl⟩ q1 q2
      refine ⟨rfl, ?_⟩
      refine ⟨b, o1, n + i, 94, rfl, C.at 1 rfl, dr.1, by omega, by decide, by decide, fun d o2 H2 d0 d1 bx2 C2 => ?_⟩
      obtain ⟨ch, h1, h2⟩ := sign_at sg1_ok d0 d1
      refine ⟨by decide +kernel, ch, h1, q1 o2 _ H2 (dr.next h2 bx2) ?_⟩
      exact (C.call [1] C2).perm (by exact List.Perm.swap ..)
    · rintro H1 o1 acc ⟨bx1, zs, rfl, l, hz⟩ C
      have l : zs.length = m := by rw [l]; simp
      have e := sum_ones (fun z hzm => (hz z hzm).1)
      refine ⟨zs, C.at 0 rfl, ?_, ?_⟩
      · rw [e]; show zs.length + zs.length * 0 ≤ _; omega
      · refine h _ o1 H1 ?_ (prn_join fun z hzm => (hz z hzm).2) (bx1.le (by simp)) (C.sub (List.sublist_cons_self ..))
        rw [len_join1 fun z hzm => (hz z hzm).1, l]
def sp_text_too : Sp := fun vs H Q _ => ∃ (b : Addr) (o : HO) (n : Nat), vs = [.ref b] ∧ H b = some o ∧ Bx n o ∧ n ≤ 1000000000 ∧
  ∀ z o' H', z.length ≤ 6 → Prn z → Bx (n + 8) o' → Chg [b] H H' [(b, o')] → Q (.str z) H'
theorem ok_law_text_too (Z : Wd K mg a c) : FnG false P w K mg base 2 (a 53).1 (a 53).2 ["box"] sp_text_too := by
  refine fun_okG Z.g_law_text_too.fn sc_law_text_too (fun vs H Q E h => ?_) (fun cdv A outer s H vs Q E hr h => ?_)
  · obtain ⟨b, o, n, rfl, _⟩ := h; rfl
  · obtain ⟨b, o, n, rfl, hb, bx, hn, h⟩ := h
    refine ⟨_, (pss_cons (ps_set (i := 1) sc_law_text_too.nd rfl (Or.inr rfl) pe_str)
      (pss_one (ps_ret (q_sm PySem.F.slot_str_join PySem.F.type_str_join m_join pe_str (pa_cons (pe_lc (own := [("k", 2)]) (by rfl) sc_law_text_too.nd (pi_range1 (by rfl) Z.n_range (pa_cons (q_call Z.g_law_take (ok_law_take Z) (hr.mono (by decide)) takes0 (pa_cons (qv 0) (pa_cons pe_int pa_nil))) pa_nil)) (blkOk_by (N := ["box", "signs", "k"]) (sc := defScope s_law_text_too) (by decide +kernel)) (fun _ _ _ _ _ => (pg_name (i := 2) sc_law_text_too.nd rfl (Or.inl rfl))) (fun _ _ _ _ _ => pts_nil) (fun _ _ _ _ _ => (pe_ix ix_d (qv 1) (q_call Z.g_law_take (ok_law_take Z) (hr.mono (by decide)) takes0 (pa_cons (qv 0) (pa_cons pe_int pa_nil))) (fun _ _ => rfl)))) pa_nil))))), ?_⟩
    refine ⟨b, o, n, 7, rfl, hb, bx, by omega, by decide, by decide, fun m o1 H1 m0 m1 bx1 C1 => ?_⟩
    have C1 : Chg [b] H H1 [(b, o1)] := C1
    refine ⟨m, rfl, by omega, by omega, fun D hD => ?_⟩
    refine lc_led walk_range (S := HO) (A := [b]) (H0 := H) (fun o => [(b, o)]) (Drn (n + 1)) o1 hD C1 ⟨bx1, [], rfl, rfl, fun z h => nomatch h⟩ (by rw [sizeLine_eq]; omega) (fun i z acc p => ?_) (fun _ _ _ _ _ _ => ⟨⟩) ?_ ?_
    · obtain ⟨_, zs, e, l, _⟩ := p
      rw [e, List.length_map]; omega
    · rintro i x H1' H1 o1 acc Qk Nk hi dr C ⟨rfl, rfl⟩ q1 q2
      refine ⟨rfl, ?_⟩
      refine ⟨b, o1, n + 1 + i, 91, rfl, C.at 1 rfl, dr.1, by omega, by decide, by decide, fun d o2 H2 d0 d1 bx2 C2 => ?_⟩
      obtain ⟨ch, h1, h2⟩ := sign_at sg2_ok d0 d1
      refine ⟨by decide +kernel, ch, h1, q1 o2 _ H2 (dr.next h2 bx2) ?_⟩
      exact (C.call [1] C2).perm (by exact List.Perm.swap ..)
    · rintro H1 o1 acc ⟨bx1, zs, rfl, l, hz⟩ C
      have e := sum_ones (fun z hzm => (hz z hzm).1)
      refine ⟨zs, C.at 0 rfl, ?_, ?_⟩
      · rw [e]; show zs.length + zs.length * 0 ≤ _; omega
      · refine h _ o1 H1 ?_ (prn_join fun z hzm => (hz z hzm).2) (bx1.le (by omega)) (C.sub (List.sublist_cons_self ..))
        rw [len_join1 fun z hzm => (hz z hzm).1]; omega
def sp_good_text : Sp := fun vs H Q _ => ∃ (b : Addr) (o : HO) (n : Nat) (w : Int), vs = [.ref b, .int w] ∧ H b = some o ∧ Bx n o ∧ n ≤ 900000000 ∧ 20 ≤ w ∧ w ≤ 400 ∧
  ∀ z o' H', (z.length : Int) ≤ w → Prn z → Bx (n + 9) o' → Chg [b] H H' [(b, o')] → Q (.str z) H'
theorem ok_law_good_text (Z : Wd K mg a c) : FnG false P w K mg base 3 (a 29).1 (a 29).2 ["box", "width"] sp_good_text := by
  refine fun_okG Z.g_law_good_text.fn sc_law_good_text (fun vs H Q E h => ?_) (fun cdv A outer s H vs Q E hr h => ?_)
  · obtain ⟨b, o, n, w, rfl, _⟩ := h; rfl
  · obtain ⟨b, o, n, w, rfl, hb, bx, hn, w20, w400, h⟩ := h
    refine ⟨_, (pss_cons (ps_par (i := 2) (j := 3) (by rfl) sc_law_good_text.nd rfl rfl (by decide) rfl rfl (pa_cons (q_call Z.g_law_take (ok_law_take Z) (hr.mono (by decide)) takes0 (pa_cons (qv 0) (pa_cons pe_int pa_nil))) (pa_cons (q_call Z.g_law_text (ok_law_text Z) (hr.mono (by decide)) takes0 (pa_cons (qv 0) (pa_cons (pe_op o_add pe_int (q_call Z.g_law_take (ok_law_take Z) (hr.mono (by decide)) takes0 (pa_cons (qv 0) (pa_cons pe_int pa_nil)))) pa_nil))) pa_nil)) rfl)
      (pss_cons (ps_if (pt_cmpR (o_eq hr.u64) (qv 2) pe_int (nomark _)) (pss_one (ps_ret pe_str)) pss_nil)
      (pss_cons (ps_if (pt_cmpR o_lt (qv 2) pe_int (nomark _)) (pss_one (ps_ret (pe_slice sl_d (pe_op o_mul (qv 3) (qv 1)) po_none (po_some (pe_op o_add (pe_op o_sub (qv 1) (qv 2)) pe_int))))) pss_nil)
      (pss_one (ps_ret (qv 3)))))), ?_⟩
    have C0 : Chg [b] H H [(b, o)] := .of (.one hb)
    refine ⟨b, o, n, 8, rfl, hb, bx, by omega, by decide, by decide, fun way o1 H1 y0 y1 bx1 C1 => ?_⟩
    refine ⟨b, o1, n + 1, 6, rfl, C1.at 0 rfl, bx1, by omega, by decide, by decide, fun m o2 H2 m0 m1 bx2 C2 => ?_⟩
    have C2 := (C1.call [0] C2)
    obtain ⟨m, rfl⟩ : ∃ i : Nat, m = i := ⟨m.toNat, by omega⟩
    refine ⟨b, o2, n + 1 + 1, 1 + m, by simp, C2.at 0 rfl, bx2, by omega, by omega, fun z o3 H3 hz pz bx3 C3 => ⟨_, _, rfl, ?_⟩⟩
    have C3 := C2.call [0] C3
    refine ⟨rfl, _, rfl, ?_⟩
    have fin : ∀ z : Str, (z.length : Int) ≤ w → Prn z → Q (.str z) H3 := fun z l p => h z o3 H3 l p (bx3.le (by omega)) (C3.to (by rfl))
    by_cases y2 : way = 0
    · subst y2
      exact fin "" (by show (0 : Int) ≤ w; omega) (fun c hc => nomatch hc)
    · refine itN (decide_eq_false (fun e => y2 (V.int.inj e))) ?_
      refine ⟨_, rfl, ?_⟩
      by_cases y3 : way < 3
      · refine itP (decide_eq_true y3) ?_
        refine ⟨mulOk_of 8 400 (by omega) (by omega) (by omega) (by decide) (by decide), ⟨_, rfl, ?_⟩⟩
        have l1 : (Txt.mul z w).length ≤ 8 * 400 := len_mul_leN (by omega) (by omega)
        refine ⟨by rw [sizeLine_eq]; omega, fin _ ?_ fun c hc => pz c (tl_mul _ _ c (cut_mem hc))⟩
        have : (cutS (Txt.mul z w) none (some (w - way + 1))).length ≤ (w - way + 1).toNat := cut_le (by omega)
        omega
      · refine itN (decide_eq_false y3) ?_
        exact fin z (by omega) pz
end
end Ks

/-! KsL: what is shown of arguments; wrong arguments; the same one. -/
namespace Ks
open PySem PySem.Spec PyProof.Rows L2 PySem.W
/-! ### lengths of what is shown -/
theorem textFrom_le (b : Nat) : ∀ (ts : List Str) (k : Nat) (acc : Str), (∀ t ∈ ts, t.length ≤ b) → (textFrom k acc ts).length ≤ acc.length + ts.length * (b + 2)
  | [], k, acc, _ => by show acc.length ≤ _; omega
  | t :: r, k, acc, h => by
    have ih := textFrom_le b r (k + 1) (acc ++ (if k > 0 then ", " else "" : String) ++ t) fun t ht => h t (List.mem_cons_of_mem _ ht)
    have h0 := h t List.mem_cons_self
    have e : (acc ++ ((if k > 0 then ", " else "" : String) : Str) ++ t).length ≤ acc.length + 2 + t.length := by
      rw [len_app, len_app]
      split
      · show acc.length + 2 + t.length ≤ _; omega
      · show acc.length + 0 + t.length ≤ _; omega
    show (textFrom (k + 1) (acc ++ (if k > 0 then ", " else "" : String) ++ t) r).length ≤ _
    rw [List.length_cons, Nat.add_mul]
    omega
theorem listText_le {b : Nat} {ts : List Str} (h : ∀ t ∈ ts, t.length ≤ b) : (listText ts).length ≤ 2 + ts.length * (b + 2) := by
  have := textFrom_le b ts 0 "[" h
  unfold listText
  rw [len_app]
  have e1 : ("[" : Str).length = 1 := rfl
  have e2 : ("]" : Str).length = 1 := rfl
  omega
theorem tupleText_le {b : Nat} {ts : List Str} (h : ∀ t ∈ ts, t.length ≤ b) : (tupleText ts).length ≤ 3 + ts.length * (b + 2) := by
  have h1 := StrLaws.join_length_le ", " ts
  have h2 : ∀ ts : List Str, (∀ t ∈ ts, t.length ≤ b) → (ts.map (·.length)).sum ≤ ts.length * b := fun ts => by
    induction ts with
    | nil => intro _; simp
    | cons t r ih =>
      intro h
      have := ih fun t ht => h t (List.mem_cons_of_mem _ ht)
      have := h t List.mem_cons_self
      rw [List.map_cons, List.sum_cons, List.length_cons, Nat.add_mul]
      omega
  have h3 := h2 ts h
  unfold tupleText
  rw [len_app, len_app]
  have e1 : ("(" : Str).length = 1 := rfl
  have e3 : (", " : Str).length = 2 := rfl
  have e2 : (((if ts.length == 1 then ",)" else ")" : String) : Str)).length ≤ 2 := by split <;> decide
  rw [e3] at h1
  rw [Nat.mul_add]
  omega
/-! ### data of flat values -/
def flD : V → PyData
  | .bl b => .bool b
  | .int i => .int i
  | .str x => .str x
  | _ => .none
/-- flat and small -/
def fl : V → Prop
  | .non => True
  | .bl _ => True
  | .int i => i.natAbs.log2 < 1920
  | .str z => Asc z ∧ z.length ≤ 41000
  | _ => False
theorem fl_eq {x : V} (h : fl x) : flatP x = some (flD x) := by
  cases x with
  | non => rfl
  | bl b => rfl
  | int i => rfl
  | str z => rfl
  | _ => exact h.elim
theorem fl_dp {K : PySem.W.Frag} {H : Hp} {x : V} (h : fl x) : Dp K H x (flD x) := by
  cases x with
  | non => exact .non
  | bl b => exact .bl b
  | int i => exact .int i
  | str z => exact .str z
  | _ => exact h.elim
theorem fl_show {x : V} (h : fl x) : (flD x).showable = true ∧ (flD x).shown.length ≤ 410002 ∧ (flD x).depth = 0 := by
  cases x with
  | non => exact ⟨rfl, by decide, rfl⟩
  | bl b => exact ⟨rfl, by cases b <;> decide, rfl⟩
  | int i =>
    refine ⟨?_, ?_, rfl⟩
    · simp only [flD, PyData.showable]; exact decide_eq_true h
    · have := int_text_len_1921 (i := i) h
      simp only [flD, PyData.shown]
      omega
  | str z =>
    refine ⟨by simp only [flD, PyData.showable], ?_, rfl⟩
    have := repr_small h.1
    have := h.2
    simp only [flD, PyData.shown]
    omega
  | _ => exact h.elim
theorem dpAll_of {K : PySem.W.Frag} {H : Hp} (f : V → PyData) : ∀ {xs : List V}, (∀ x ∈ xs, Dp K H x (f x)) → DpAll K H xs (xs.map f)
  | [], _ => .nil
  | x :: xs, h => .cons (h x List.mem_cons_self) (dpAll_of f fun y hy => h y (List.mem_cons_of_mem _ hy))
theorem shownAll_map : ∀ ds : List PyData, PyData.shownAll ds = ds.map PyData.shown
  | [] => by simp only [PyData.shownAll, List.map_nil]
  | d :: ds => by simp only [PyData.shownAll, List.map_cons, shownAll_map ds]
theorem showableAll_of : ∀ {ds : List PyData}, (∀ d ∈ ds, d.showable = true) → PyData.showableAll ds = true
  | [], _ => by simp only [PyData.showableAll]
  | d :: ds, h => by simp only [PyData.showableAll, h d List.mem_cons_self, showableAll_of fun e he => h e (List.mem_cons_of_mem _ he), Bool.and_self]
theorem depthAll_le {n : Nat} : ∀ {ds : List PyData}, (∀ d ∈ ds, d.depth ≤ n) → PyData.depthAll ds ≤ n
  | [], _ => by simp only [PyData.depthAll]; omega
  | d :: ds, h => by
    have := h d List.mem_cons_self
    have := depthAll_le fun e he => h e (List.mem_cons_of_mem _ he)
    simp only [PyData.depthAll]
    omega
/-- repr of it is told, whatever it is -/
def Rp (K : PySem.W.Frag) (H : Hp) (x : V) : Prop := ∃ z, RpZ K H x z
section
variable {K : PySem.W.Frag} {H : Hp}
theorem Rp.dp {x : V} {d : PyData} (h : Dp K H x d) (s : d.showable = true) (l : d.shown.length ≤ 16777216) (n : d.depth ≤ 40) : Rp K H x := ⟨d.shown, .inl ⟨d, h, s, by rw [sizeLine_eq]; omega, n, rfl⟩⟩
theorem Rp.flat {x : V} (h : fl x) : Rp K H x := by
  obtain ⟨h1, h2, h3⟩ := fl_show h
  exact .dp (fl_dp h) h1 (by omega) (by omega)
theorem Rp.lst {l : Addr} {xs : List V} {b : Nat} (f : V → PyData) (e : H l = some (.lst xs)) (h : ∀ x ∈ xs, Dp K H x (f x)) (h1 : ∀ x ∈ xs, (f x).showable = true) (h2 : ∀ x ∈ xs, (f x).shown.length ≤ b) (h3 : ∀ x ∈ xs, (f x).depth ≤ 30) (hb : 2 + xs.length * (b + 2) ≤ 16777216) : Rp K H (.ref l) := by
  refine .dp (d := .list (xs.map f)) (.lst (.of e) (dpAll_of f h)) ?_ ?_ ?_
  · simp only [PyData.showable]
    exact showableAll_of fun d hd => by
      obtain ⟨x, hx, rfl⟩ := List.mem_map.mp hd
      exact h1 x hx
  · simp only [PyData.shown, shownAll_map, List.map_map]
    refine Nat.le_trans (listText_le (b := b) fun t ht => ?_) (by rw [List.length_map]; exact hb)
    obtain ⟨x, hx, rfl⟩ := List.mem_map.mp ht
    exact h2 x hx
  · simp only [PyData.depth]
    have := depthAll_le (n := 30) (ds := xs.map f) fun d hd => by
      obtain ⟨x, hx, rfl⟩ := List.mem_map.mp hd
      exact h3 x hx
    omega
theorem Rp.tup {l : Addr} {xs : List V} {b : Nat} (f : V → PyData) (e : H l = some (.tup xs)) (h : ∀ x ∈ xs, Dp K H x (f x)) (h1 : ∀ x ∈ xs, (f x).showable = true) (h2 : ∀ x ∈ xs, (f x).shown.length ≤ b) (h3 : ∀ x ∈ xs, (f x).depth ≤ 30) (hb : 3 + xs.length * (b + 2) ≤ 16777216) : Rp K H (.ref l) := by
  refine .dp (d := .tuple (xs.map f)) (.tup (.of e) (dpAll_of f h)) ?_ ?_ ?_
  · simp only [PyData.showable]
    exact showableAll_of fun d hd => by
      obtain ⟨x, hx, rfl⟩ := List.mem_map.mp hd
      exact h1 x hx
  · simp only [PyData.shown, shownAll_map, List.map_map]
    refine Nat.le_trans (tupleText_le (b := b) fun t ht => ?_) (by rw [List.length_map]; exact hb)
    obtain ⟨x, hx, rfl⟩ := List.mem_map.mp ht
    exact h2 x hx
  · simp only [PyData.depth]
    have := depthAll_le (n := 30) (ds := xs.map f) fun d hd => by
      obtain ⟨x, hx, rfl⟩ := List.mem_map.mp hd
      exact h3 x hx
    omega
theorem Rp.lstF {l : Addr} {xs : List V} (e : H l = some (.lst xs)) (h : ∀ x ∈ xs, fl x) (n : xs.length ≤ 40) : Rp K H (.ref l) :=
  .lst (b := 410002) flD e (fun x hx => fl_dp (h x hx)) (fun x hx => (fl_show (h x hx)).1) (fun x hx => (fl_show (h x hx)).2.1) (fun x hx => by have := (fl_show (h x hx)).2.2; omega) (by omega)
theorem Rp.tupF {l : Addr} {xs : List V} (e : H l = some (.tup xs)) (h : ∀ x ∈ xs, fl x) (n : xs.length ≤ 40) : Rp K H (.ref l) :=
  .tup (b := 410002) flD e (fun x hx => fl_dp (h x hx)) (fun x hx => (fl_show (h x hx)).1) (fun x hx => (fl_show (h x hx)).2.1) (fun x hx => by have := (fl_show (h x hx)).2.2; omega) (by omega)
theorem Rp.dct0 {l : Addr} (e : H l = some (.dK [])) : Rp K H (.ref l) := ⟨_, .inr ⟨l, [], [], rfl, e, .nil, by simp only [PyData.showable, PyData.showableKv], by decide, by simp only [PyData.depth, PyData.depthKv]; omega, rfl⟩⟩
theorem Rp.dct1 {l : Addr} {k : Str} {v : V} (e : H l = some (.dK [(Sum.inr k, v)])) (hk : Asc k ∧ k.length ≤ 1000) (hv : fl v) : Rp K H (.ref l) := by
  obtain ⟨h1, h2, h3⟩ := fl_show hv
  have h4 := repr_small hk.1
  have h5 := hk.2
  refine ⟨_, .inr ⟨l, _, [(.str k, flD v)], rfl, e, .cons (fl_eq hv) .nil, ?_, ?_, ?_, rfl⟩⟩
  · simp only [PyData.showable, PyData.showableKv, h1, Bool.and_self]
  · simp only [PyData.shown, PyData.shownKv]
    unfold dictText
    show (("{" : Str) ++ (reprText k ++ ": " ++ (flD v).shown) ++ ("}" : Str)).length ≤ _
    rw [len_app, len_app, len_app, len_app]
    have e1 : ("{" : Str).length = 1 := rfl
    have e2 : ("}" : Str).length = 1 := rfl
    have e3 : (": " : Str).length = 2 := rfl
    rw [sizeLine_eq]
    omega
  · simp only [PyData.depth, PyData.depthKv, h3]
    omega
end
/-- a wrong argument, with its own cells -/
inductive Bg (H : Hp) : V → Knd → Cells → Prop
  | non : Bg H .non .non []
  | bl (b : Bool) : Bg H (.bl b) .bl []
  | int (i : Int) (h : i.natAbs.log2 < 1920) : Bg H (.int i) .int []
  | str (z : Str) (h : Asc z) (n : z.length ≤ 41000) : Bg H (.str z) .str []
  | lst {l : Addr} {xs : List V} (e : H l = some (.lst xs)) (h : ∀ x ∈ xs, fl x) (n : xs.length ≤ 2) : Bg H (.ref l) .lst [(l, .lst xs)]
  | tup {l : Addr} {xs : List V} (e : H l = some (.tup xs)) (h : ∀ x ∈ xs, fl x) (n : xs.length ≤ 2) : Bg H (.ref l) .tup []
  | dct0 {l : Addr} (e : H l = some (.dK [])) : Bg H (.ref l) .dct [(l, .dK [])]
  | dct1 {l : Addr} {k : Str} {v : V} (e : H l = some (.dK [(Sum.inr k, v)])) (hk : Asc k ∧ k.length ≤ 1000) (hv : fl v) : Bg H (.ref l) .dct [(l, .dK [(Sum.inr k, v)])]
theorem Bg.arg {H : Hp} {x : V} {k : Knd} {M : Cells} (b : Bg H x k M) : Arg H x k := by
  cases b with
  | non => exact .non
  | bl b => exact .bl b
  | int i _ => exact .int i
  | str z _ _ => exact .str z
  | lst e _ _ => exact .lst e
  | tup e _ _ => exact .tup e
  | dct0 e => exact .dct e
  | dct1 e _ _ => exact .dct e
theorem Bg.up {H H' : Hp} {x : V} {k : Knd} {M : Cells} (b : Bg H x k M) (f : ∀ a o, imm o = true → H a = some o → H' a = some o) (m : ∀ p ∈ M, H' p.1 = some p.2) : Bg H' x k M := by
  cases b with
  | non => exact .non
  | bl b => exact .bl b
  | int i h => exact .int i h
  | str z h n => exact .str z h n
  | lst e h n => exact .lst (m _ List.mem_cons_self) h n
  | tup e h n => exact .tup (f _ _ rfl e) h n
  | dct0 e => exact .dct0 (m _ List.mem_cons_self)
  | dct1 e h n => exact .dct1 (m _ List.mem_cons_self) h n
theorem Bg.txt {H : Hp} {x : V} {k : Knd} {M : Cells} (b : Bg H x k M) : ∀ z, x = .str z → z.length ≤ 100000 := fun z e => by
  cases b with
  | str z' h n => cases e; omega
  | _ => cases e
theorem Bg.rp {K : PySem.W.Frag} {H : Hp} {x : V} {k : Knd} {M : Cells} (b : Bg H x k M) : Rp K H x := by
  cases b with
  | non => exact .flat ⟨⟩
  | bl b => exact .flat (x := .bl b) ⟨⟩
  | int i h => exact .flat (x := .int i) h
  | str z h n => exact .flat (x := .str z) ⟨h, n⟩
  | lst e h n => exact .lstF e h (by omega)
  | tup e h n => exact .tupF e h (by omega)
  | dct0 e => exact .dct0 e
  | dct1 e h n => exact .dct1 e h n
theorem log_small {i : Int} (h : i.natAbs < 2 ^ 200) : i.natAbs.log2 < 1920 := by
  by_cases h0 : i.natAbs = 0
  · rw [h0]; decide
  · have := (Nat.log2_lt h0 (k := 200)).mpr h
    omega
end Ks

/-! KsM: the tries of the law. -/
namespace Ks
open PySem PySem.Spec PyProof.Rows L2 PySem.W
theorem c_isiK {X : Cx} {CE : Addr} (K : PySem.W.Frag) (mg : Str → Option Value) (hK : X.K = K) (hm : X.mg = mg) (B : EbC K mg CE) : CallR X (.builtin "isinstance") (kIsi K) := by subst hK hm; exact c_isi B
theorem q_givK {X : Cx} (K : PySem.W.Frag) (hK : X.K = K) {e : Expr} {te : TE} {f : Str} {pos : Pos} (he : PE X e te) (hb : attributeBase e f X.env (eval e X.env) = eval e X.env := by rfl) : PE X (.Attribute e f pos) (tGiv K f te) := by subst hK; exact q_giv he hb
theorem leave_nil : ∀ (n : Nat) (L : Cells), leave [] n L = L
  | _, [] => rfl
  | n, x :: r => by
    show (if ([] : List Nat).contains n then leave [] (n + 1) r else x :: leave [] (n + 1) r) = x :: r
    rw [if_neg (by simp), leave_nil (n + 1) r]
theorem Chg.and {A : List Addr} {H0 H H1 : Hp} {L N : Cells} (C : Chg A H0 H L) (D : Chg [] H H1 N) : Chg A H0 H1 (N ++ L) := by
  have := C.call [] D
  rw [leave_nil] at this
  exact this
theorem Bg.led {H : Hp} {x : V} {k : Knd} {M : Cells} (b : Bg H x k M) : Led H M := by
  cases b with
  | lst e _ _ => exact .one e
  | dct0 e => exact .one e
  | dct1 e _ _ => exact .one e
  | _ => exact .nil
theorem kit_up {K : PySem.W.Frag} {mg : Str → Option Value} {CE C : Addr} (B : EbC K mg CE) (T : EcC K CE C) : kitOne K (.ref C) (.ref CE) = some true := by
  obtain ⟨cd, hc, _⟩ := any_some B.hdC
  unfold kitOne
  split
  · rfl
  · show (if ((clsIn K CE).isSome && typeIn K (.ref CE) == some (.type "type")) = true then subIn K (.ref C) (.ref CE) else none) = some true
    rw [if_pos (by rw [hc, B.tyC] <;> rfl)]
    exact T.up
section
variable {P : Program} {w : World} {K : PySem.W.Frag} {mg : Str → Option Value} {base : Heap} {a : Nat → Addr × FuncData} {c : Nat → Addr}
def sp_same (K : PySem.W.Frag) (c : Nat → Addr) : Sp := fun vs H Q _ => ∃ (er C dd : Addr) (v : V) (k : Knd), vs = [.ref er, v] ∧ H er = some (ExH (.ref C) (some dd) er) ∧ EcC K (c 0) C ∧ findIn K (.ref C) "given" = some none ∧ H dd = some (.xd [(("given" : Str), v)]) ∧ Arg H v k ∧
  (k ≠ .lst → Rp K H v ∧ Q (.bl true) H) ∧
  (∀ l xs, v = .ref l → H l = some (.lst xs) → xs.length < 10000 ∧ Rp K (upd H l (.lst (xs ++ [.str "more"]))) v ∧ l ≠ er ∧ l ≠ dd ∧ Q (.bl true) (upd H l (.lst (xs ++ [.str "more"]))))
theorem ok_law_same (Z : Wd K mg a c) : FnG true P w K mg base 1 (a 34).1 (a 34).2 ["e", "value"] (sp_same K c) := by
  refine fun_okG Z.g_law_same.fn sc_law_same (fun vs H Q E h => ?_) (fun cdv A outer s H vs Q E hr h => ?_)
  · obtain ⟨er, C, dd, v, k, rfl, _⟩ := h; rfl
  · obtain ⟨er, C, dd, v, k, rfl, he, T, hn, hd, ar, h1, h2⟩ := h
    refine ⟨_, (pss_cons (ps_if (pt_val (pe_callB (c_isi Z.eb) (by rfl) Z.n_isinstance bt_isinstance (pa_cons (qv 1) (pa_cons (pe_bltn (v := .ty "list") (by rfl) Z.n_list bt_list rfl) pa_nil)))) (pss_one (ps_expr (q_lm PySem.F.slot_list_append PySem.F.type_list_append m_append (qv 1) (pa_cons pe_str pa_nil)))) pss_nil)
      (pss_one (ps_ret (pe_and (pe_callB (c_isi Z.eb) (by rfl) Z.n_isinstance bt_isinstance (pa_cons (qv 0) (pa_cons (pe_glob (v := .ref (c 0)) (by rfl) Z.mg_EarlierError rfl) pa_nil))) (pe_one (pe_cmpR (o_eq hr.u64) (pe_callB (c_reprK K rfl hr.u64 hr.gd) (by rfl) Z.n_repr bt_repr (pa_cons (q_giv (qv 0)) pa_nil)) (pe_callB (c_reprK K rfl hr.u64 hr.gd) (by rfl) Z.n_repr bt_repr (pa_cons (qv 1) pa_nil)) (nomark _))))))), ?_⟩
    have fin : ∀ H', H' er = some (ExH (.ref C) (some dd) er) → H' dd = some (.xd [(("given" : Str), v)]) → Rp K H' v → Q (.bl true) H' →
        tRet (tAndV (tCB (kIsi K) (tCons (tV 0) (tCons (tC (.ref (c 0))) tNil))) (tOp (rEqA K) (tCB (r1D (kRepr K)) (tCons (tGiv K "given" (tV 0)) tNil)) (tCB (r1D (kRepr K)) (tCons (tV 1) tNil))))
          { nx := fun _ H' => Q .non H', rt := Q } (L2.start ["e", "value"] [.ref er, v]) H' := fun H' he hd rp q => by
      refine ⟨_, _, _, .own _, .e he (fun d e => by cases e; exact ⟨_, hd⟩) T, kit_up Z.eb T, _, rfl, ?_⟩
      refine ⟨C, c 0, dd, _, v, he, T, hn, hd, rfl, ?_⟩
      obtain ⟨z, hz⟩ := rp
      refine ⟨z, hz, z, hz, rfl, ?_⟩
      rw [decide_eq_true rfl]
      exact q
    refine ⟨_, _, _, .ty _, ar.ty, kit_list k, _, rfl, ?_⟩
    cases ar with
    | @lst l xs e =>
      obtain ⟨n, rp, ne, nd, q⟩ := h2 l xs rfl e
      refine ⟨⟨_, e⟩, _, e, by rw [sizeLine_eq]; omega, ?_⟩
      exact fin _ (by rw [upd_ne ne.symm]; exact he) (by rw [upd_ne nd.symm]; exact hd) rp q
    | non => exact fin H he hd (h1 (by decide)).1 (h1 (by decide)).2
    | bl _ => exact fin H he hd (h1 (by decide)).1 (h1 (by decide)).2
    | int _ => exact fin H he hd (h1 (by decide)).1 (h1 (by decide)).2
    | str _ => exact fin H he hd (h1 (by decide)).1 (h1 (by decide)).2
    | tup _ => exact fin H he hd (h1 (by decide)).1 (h1 (by decide)).2
    | dct _ => exact fin H he hd (h1 (by decide)).1 (h1 (by decide)).2
theorem more_fl {xs : List V} (h : ∀ x ∈ xs, fl x) : ∀ x ∈ xs ++ [V.str "more"], fl x := fun x hx => by
  rcases List.mem_append.mp hx with q | q
  · exact h x q
  · rw [List.mem_singleton] at q
    subst q
    exact ⟨by unfold Asc; decide, by decide⟩
section
variable {H H1 : Hp} {er C dd : Addr} {v : V} {k : Knd} {M : Cells}
theorem same_b (b : Bg H v k M) (C1 : Chg (M.map (·.1)) H H1 ((er, ExH (.ref C) (some dd) er) :: (dd, .xd [(("given" : Str), v)]) :: M)) : Bg H1 v k M := b.up C1.fix fun p hp => C1.led.hp p (List.mem_cons_of_mem _ (List.mem_cons_of_mem _ hp))
theorem same_l {l : Addr} {xs : List V} (b : Bg H v k M) (C1 : Chg (M.map (·.1)) H H1 ((er, ExH (.ref C) (some dd) er) :: (dd, .xd [(("given" : Str), v)]) :: M)) (e : v = .ref l) (hl : H1 l = some (.lst xs)) :
    xs.length < 10000 ∧ Rp K (upd H1 l (.lst (xs ++ [.str "more"]))) v ∧ l ≠ er ∧ l ≠ dd ∧ Chg (M.map (·.1)) H (upd H1 l (.lst (xs ++ [.str "more"]))) [] := by
  have b1 := same_b b C1
  subst e
  cases b with
  | lst e h n =>
    have hl1 := C1.at 2 rfl
    rw [hl1] at hl; cases hl
    have C2 := C1.set 2 (o' := .lst (xs ++ [.str "more"])) rfl
    refine ⟨by omega, .lstF upd_same (more_fl h) (by rw [List.length_append]; show xs.length + 1 ≤ 40; omega), fun z => ?_, fun z => ?_, C2.sub (List.nil_sublist _)⟩
    · have := C1.at 0 rfl; rw [← z, hl1] at this; cases this
    · have := C1.at 1 rfl; rw [← z, hl1] at this; cases this
  | tup e h n => rw [C1.fix _ _ rfl e] at hl; cases hl
  | dct0 e => rw [C1.at 2 rfl] at hl; cases hl
  | dct1 e _ _ => rw [C1.at 2 rfl] at hl; cases hl
end
/-! ### the tries -/
def rs (r : Addr) (x : Str) (v : V) : Addr × HO := (r, .lst [.str x, v])
/-- after an error with what was given, held at er -/
theorem Bg.held {H H' : Hp} {v : V} {k : Knd} {M : Cells} {C dd er : Addr} (b : Bg H v k M) (D : Chg [] H H' [(dd, .xd [(("given" : Str), v)])]) (he : H' er = none) : Chg (M.map (·.1)) H (upd H' er (ExH (.ref C) (some dd) er)) ((er, ExH (.ref C) (some dd) er) :: (dd, .xd [(("given" : Str), v)]) :: M) :=
  ((Chg.of b.led).and D).add he
def sp_law_read (c : Nat → Addr) : Sp := fun vs H Q _ => ∃ (d dx : Addr) (pg : V) (k : Knd) (M : Cells) (bn : Bool) (p w : Int) (la te wr : Addr) (lf : V) (T : List Str), vs = [.ref d, pg, .bl bn] ∧ H d = some (.ins (c 8) dx (dkF p w la te wr lf)) ∧ H te = some (.lst (T.map V.str)) ∧ (T.length : Int) = p ∧ Bg H pg k M ∧
  ixB pg p = false ∧ ∀ r H', Chg (M.map (·.1)) H H' [rs r "page" (.bl true)] → Q (.ref r) H'
theorem ok_law_read (Z : Wd K mg a c) : FnG false P w K mg base 5 (a 38).1 (a 38).2 ["disk", "page", "by_name"] (sp_law_read c) := by
  refine fun_okG Z.g_law_read.fn sc_law_read (fun vs H Q E h => ?_) (fun cdv A outer s H vs Q E hr h => ?_)
  · obtain ⟨d, dx, pg, k, M, bn, p, w, la, te, wr, lf, T, rfl, _⟩ := h; rfl
  · obtain ⟨d, dx, pg, k, M, bn, p, w, la, te, wr, lf, T, rfl, hd, ht, hT, b, hb, h⟩ := h
    refine ⟨_, (pss_one (q_try sc_law_read.nd takes0 (fun _ _ _ tk hp => (pss_one (ps_ret (pe_lst (pa_cons pe_str (pa_cons (pe_ifExp (pt_val (qv 2)) (q_methK Z.m_read (kb_read Z) (ok_Disk_read Z) (hr.mono (by decide)) tk (qv 0) (pk_cons (qv 1) pk_nil)) (q_meth Z.m_read (ok_Disk_read Z) (hr.mono (by decide)) tk (qv 0) (pa_cons (qv 1) pa_nil))) pa_nil))))))
      (Hds.as (i := 3) rfl rfl (names_own (by rfl) Z.mg_InvalidPage) (fun _ _ _ _ => (pss_one (ps_ret (pe_lst (pa_cons pe_str (pa_cons (q_call Z.g_law_same (ok_law_same Z) ((hr.any _).mono (by decide)) takes0 (pa_cons (qv 3) (pa_cons (qv 1) pa_nil))) pa_nil)))))) Hds.nil))), ?_⟩
    refine ⟨bn, rfl, ?_⟩
    have T4 := Z.e_InvalidPage.c
    cases bn
    case' false => refine ⟨⟨_, _, hd, lk_none _ (by simp)⟩, ?_⟩
    case' true => refine ⟨⟨_, _, hd, lk_none _ (by simp)⟩, rfl, ?_⟩
    all_goals
      refine ⟨d, dx, pg, k, p, w, la, te, wr, lf, T, rfl, hd, ht, hT, b.arg, fun _ dd H1 C1 => ⟨true, exm_ref T4.exC T4.hdC T4.tyC Z.ss_InvalidPage, itP rfl fun er he => ?_⟩, fun i e x hx => ?_⟩
      · have C2 := b.held (C := c 4) C1 he
        refine ⟨er, _, dd, pg, k, rfl, C2.at 0 rfl, T4, Z.en_InvalidPage, C2.at 1 rfl, (same_b b C2).arg, fun _ => ⟨(same_b b C2).rp, leS rfl, fun r hr' => h r _ ((C2.sub (List.nil_sublist _)).add hr')⟩, fun l xs e hl => ?_⟩
        obtain ⟨n, rp, ne, nd, C3⟩ := same_l b C2 e hl
        exact ⟨n, rp, ne, nd, leS rfl, fun r hr' => h r _ (C3.add hr')⟩
      · subst e
        have hi := (List.getElem?_eq_some_iff.mp hx).1
        simp only [ixB, Bool.and_eq_false_iff, decide_eq_false_iff_not] at hb
        omega
theorem held' {H H1 H' : Hp} {v : V} {M : Cells} {C dd er : Addr} (C0 : Chg (M.map (·.1)) H H1 M) (D : Chg [] H1 H' [(dd, .xd [(("given" : Str), v)])]) (he : H' er = none) : Chg (M.map (·.1)) H (upd H' er (ExH (.ref C) (some dd) er)) ((er, ExH (.ref C) (some dd) er) :: (dd, .xd [(("given" : Str), v)]) :: M) :=
  (C0.and D).add he
def sp_law_stop (c : Nat → Addr) : Sp := fun vs H Q _ => ∃ (d dx : Addr) (x : V) (k : Knd) (M : Cells) (bn : Bool) (p w : Int) (la te wr : Addr) (lf : V), vs = [.ref d, x, .bl bn] ∧ H d = some (.ins (c 8) dx (dkF p w la te wr lf)) ∧ Bg H x k M ∧
  (ctB x = false → ∀ r H', Chg (M.map (·.1)) H H' [rs r "count" (.bl true)] → Q (.ref r) H') ∧
  (ctB x = true → ∀ r H', Chg [d] H H' [rs r "told" .non, (d, .ins (c 8) dx (dkF p w la te wr x))] → Q (.ref r) H')
theorem ok_law_stop (Z : Wd K mg a c) : FnG false P w K mg base 4 (a 39).1 (a 39).2 ["disk", "count", "by_name"] (sp_law_stop c) := by
  refine fun_okG Z.g_law_stop.fn sc_law_stop (fun vs H Q E h => ?_) (fun cdv A outer s H vs Q E hr h => ?_)
  · obtain ⟨d, dx, x, k, M, bn, p, w, la, te, wr, lf, rfl, _⟩ := h; rfl
  · obtain ⟨d, dx, x, k, M, bn, p, w, la, te, wr, lf, rfl, hd, b, h1, h2⟩ := h
    refine ⟨_, (pss_one (q_try sc_law_stop.nd takes0 (fun _ _ _ tk hp => (pss_one (ps_ret (pe_lst (pa_cons pe_str (pa_cons (pe_ifExp (pt_val (qv 2)) (q_methK Z.m_stop (kb_stop Z) (ok_Disk_stop Z) (hr.mono (by decide)) tk (qv 0) (pk_cons (qv 1) pk_nil)) (q_meth Z.m_stop (ok_Disk_stop Z) (hr.mono (by decide)) tk (qv 0) (pa_cons (qv 1) pa_nil))) pa_nil))))))
      (Hds.as (i := 3) rfl rfl (names_own (by rfl) Z.mg_InvalidCount) (fun _ _ _ _ => (pss_one (ps_ret (pe_lst (pa_cons pe_str (pa_cons (q_call Z.g_law_same (ok_law_same Z) ((hr.any _).mono (by decide)) takes0 (pa_cons (qv 3) (pa_cons (qv 1) pa_nil))) pa_nil)))))) Hds.nil))), ?_⟩
    refine ⟨bn, rfl, ?_⟩
    have T4 := Z.e_InvalidCount.c
    cases bn
    case' false => refine ⟨⟨_, _, hd, lk_none _ (by simp)⟩, ?_⟩
    case' true => refine ⟨⟨_, _, hd, lk_none _ (by simp)⟩, rfl, ?_⟩
    all_goals
      refine ⟨d, dx, x, k, p, w, la, te, wr, lf, rfl, hd, b.arg, fun hb dd H1 C1 => ⟨true, exm_ref T4.exC T4.hdC T4.tyC Z.ss_InvalidCount, itP rfl fun er he => ?_⟩, fun hb H1 C1 => ?_⟩
      · have C2 := b.held (C := c 5) C1 he
        refine ⟨er, _, dd, x, k, rfl, C2.at 0 rfl, T4, Z.en_InvalidCount, C2.at 1 rfl, (same_b b C2).arg, fun _ => ⟨(same_b b C2).rp, leS rfl, fun r hr' => h1 hb r _ ((C2.sub (List.nil_sublist _)).add hr')⟩, fun l xs e hl => ?_⟩
        obtain ⟨n, rp, ne, nd, C3⟩ := same_l b C2 e hl
        exact ⟨n, rp, ne, nd, leS rfl, fun r hr' => h1 hb r _ (C3.add hr')⟩
      · exact ⟨leS rfl, fun r hr' => h2 hb r _ (C1.add hr')⟩
def sp_law_settle (c : Nat → Addr) : Sp := fun vs H Q _ => ∃ (d dx : Addr) (p w : Int) (la te wr : Addr) (lf : Option Nat) (T : List Str),
  vs = [.ref d] ∧ Led H [(d, .ins (c 8) dx (dkF p w la te wr (lfV lf))), (te, .lst (T.map V.str))] ∧
  (lf = some 0 → ∀ r H', Chg [] H H' [rs r "cut" (.bl true)] → Q (.ref r) H') ∧
  (lf ≠ some 0 → ∀ r la wr H', Chg [d] H H' [rs r "told" .non, (d, .ins (c 8) dx (dkF p w la te wr (lfV (lf.map (· - 1))))), (la, .lst (T.map V.str)), (wr, .lst [])] → Q (.ref r) H')
theorem ok_law_settle (Z : Wd K mg a c) : FnG false P w K mg base 5 (a 37).1 (a 37).2 ["disk"] (sp_law_settle c) := by
  refine fun_okG Z.g_law_settle.fn sc_law_settle (fun vs H Q E h => ?_) (fun cdv A outer s H vs Q E hr h => ?_)
  · obtain ⟨d, dx, p, w, la, te, wr, lf, T, rfl, _⟩ := h; rfl
  · obtain ⟨d, dx, p, w, la, te, wr, lf, T, rfl, L, h1, h2⟩ := h
    refine ⟨_, (pss_one (q_try sc_law_settle.nd takes0 (fun _ _ _ tk hp => (pss_one (ps_ret (pe_lst (pa_cons pe_str (pa_cons (q_meth0 Z.m_settle (ok_Disk_settle Z) (hr.mono (by decide)) tk (qv 0)) pa_nil))))))
      (Hds.as (i := 1) rfl rfl (names_own (by rfl) Z.mg_PowerCut) (fun _ _ _ _ => (pss_one (ps_ret (pe_lst (pa_cons pe_str (pa_cons (pe_callB (c_isiK K mg rfl rfl Z.eb) (by rfl) Z.n_isinstance bt_isinstance (pa_cons (qv 1) (pa_cons (pe_glob (v := .ref (c 0)) (by rfl) Z.mg_EarlierError rfl) pa_nil))) pa_nil)))))) Hds.nil))), ?_⟩
    have T7 := Z.e_PowerCut.c
    have hd := L.at 0 rfl
    refine ⟨⟨_, _, hd, lk_none _ (by simp)⟩, d, dx, p, w, la, te, wr, lf, T, rfl, L, fun e0 => ⟨true, exm_ref T7.exC T7.hdC T7.tyC Z.ss_PowerCut, itP rfl fun er he => ?_⟩, fun e0 la' wr' H1 C1 => ?_⟩
    · have C2 := (Chg.of (H := H) .nil).add (o := ExH (.ref (c 7)) none er) he
      exact ⟨_, _, _, .own _, .e (C2.at 0 rfl) (fun d e => nomatch e) T7, kit_up Z.eb T7, leS rfl, fun r hr' => h1 e0 r _ ((C2.sub (List.nil_sublist _)).add hr')⟩
    · exact ⟨leS rfl, fun r hr' => h2 e0 r la' wr' _ (C1.add hr')⟩
def sp_law_write (c : Nat → Addr) : Sp := fun vs H Q _ => ∃ (d dx : Addr) (pg tx : V) (k k2 : Knd) (M N : Cells) (bn : Bool) (p w : Int) (la te wr : Addr) (lf : Option Nat) (T : List Str) (R : List Addr),
  vs = [.ref d, pg, tx, .bl bn] ∧ Led H [(d, .ins (c 8) dx (dkF p w la te wr (lfV lf))), (te, .lst (T.map V.str)), (wr, .lst (R.map V.ref))] ∧ (T.length : Int) = p ∧ w ≤ 1000 ∧ R.length ≤ 10000 ∧ Bg H pg k M ∧ Bg H tx k2 N ∧
  (ixB pg p = false → ∀ r H', Chg (M.map (·.1)) H H' [rs r "page" (.bl true)] → Q (.ref r) H') ∧ (ixB pg p = true → pgV tx w = false → ∀ r H', Chg (N.map (·.1)) H H' [rs r "text" (.bl true)] → Q (.ref r) H') ∧
  (ixB pg p = true → pgV tx w = true → lf = some 0 → ∀ r H', Chg [] H H' [rs r "cut" (.bl true)] → Q (.ref r) H') ∧
  (∀ (i : Nat) z, pg = .int i → (i : Int) < p → tx = .str z → pgT z w = true → lf ≠ some 0 → ∀ r q H', Chg [d, te, wr] H H' [rs r "told" .non, (d, .ins (c 8) dx (dkF p w la te wr (lfV (lf.map (· - 1))))), (te, .lst ((T.set i z).map V.str)), (wr, .lst ((R ++ [q]).map V.ref)), (q, .tup [.int i, .str z])] → Q (.ref r) H')
theorem ok_law_write (Z : Wd K mg a c) : FnG false P w K mg base 5 (a 36).1 (a 36).2 ["disk", "page", "text", "by_name"] (sp_law_write c) := by
  refine fun_okG Z.g_law_write.fn sc_law_write (fun vs H Q E h => ?_) (fun cdv A outer s H vs Q E hr h => ?_)
  · obtain ⟨d, dx, pg, tx, k, k2, M, N, bn, p, w, la, te, wr, lf, T, R, rfl, _⟩ := h; rfl
  · obtain ⟨d, dx, pg, tx, k, k2, M, N, bn, p, w, la, te, wr, lf, T, R, rfl, L, hT, hw, hR, b, b2, h1, h2, h3, h4⟩ := h
    refine ⟨_, (pss_one (q_try sc_law_write.nd takes0 (fun _ _ _ tk hp => (pss_one (ps_ret (pe_lst (pa_cons pe_str (pa_cons (pe_ifExp (pt_val (qv 3)) (q_methK Z.m_write (kb_write Z) (ok_Disk_write Z) (hr.mono (by decide)) tk (qv 0) (pk_cons (qv 2) (pk_cons (qv 1) pk_nil))) (q_meth Z.m_write (ok_Disk_write Z) (hr.mono (by decide)) tk (qv 0) (pa_cons (qv 1) (pa_cons (qv 2) pa_nil)))) pa_nil))))))
      (Hds.as (i := 4) rfl rfl (names_own (by rfl) Z.mg_InvalidPage) (fun _ _ _ _ => (pss_one (ps_ret (pe_lst (pa_cons pe_str (pa_cons (q_call Z.g_law_same (ok_law_same Z) ((hr.any _).mono (by decide)) takes0 (pa_cons (qv 4) (pa_cons (qv 1) pa_nil))) pa_nil)))))) (Hds.as (i := 4) rfl rfl (names_own (by rfl) Z.mg_InvalidText) (fun _ _ _ _ => (pss_one (ps_ret (pe_lst (pa_cons pe_str (pa_cons (q_call Z.g_law_same (ok_law_same Z) ((hr.any _).mono (by decide)) takes0 (pa_cons (qv 4) (pa_cons (qv 2) pa_nil))) pa_nil)))))) (Hds.as (i := 4) rfl rfl (names_own (by rfl) Z.mg_PowerCut) (fun _ _ _ _ => (pss_one (ps_ret (pe_lst (pa_cons pe_str (pa_cons (pe_callB (c_isiK K mg rfl rfl Z.eb) (by rfl) Z.n_isinstance bt_isinstance (pa_cons (qv 4) (pa_cons (pe_glob (v := .ref (c 0)) (by rfl) Z.mg_EarlierError rfl) pa_nil))) pa_nil)))))) Hds.nil))))), ?_⟩
    refine ⟨bn, rfl, ?_⟩
    have T1 := Z.e_InvalidText.c
    have T4 := Z.e_InvalidPage.c
    have T7 := Z.e_PowerCut.c
    have hd := L.at 0 rfl
    cases bn
    case' false => refine ⟨⟨_, _, hd, lk_none _ (by simp)⟩, ?_⟩
    case' true => refine ⟨⟨_, _, hd, lk_none _ (by simp)⟩, rfl, ?_⟩
    all_goals
      refine ⟨d, dx, pg, tx, k, k2, p, w, la, te, wr, lf, T, R, rfl, L, hT, hw, hR, b.arg, b2.arg, b2.txt,
        fun hb dd H1 C1 => ⟨true, exm_ref T4.exC T4.hdC T4.tyC Z.ss_InvalidPage, itP rfl fun er he => ?_⟩,
        fun hb hb2 dd H1 C1 => ⟨false, exm_ref T4.exC T4.hdC T4.tyC Z.sf_InvalidText_InvalidPage, itN rfl ⟨true, exm_ref T1.exC T1.hdC T1.tyC Z.ss_InvalidText, itP rfl fun er he => ?_⟩⟩,
        fun hb hb2 e0 H1 C1 => ⟨false, exm_ref T4.exC T4.hdC T4.tyC Z.sf_PowerCut_InvalidPage, itN rfl ⟨false, exm_ref T1.exC T1.hdC T1.tyC Z.sf_PowerCut_InvalidText, itN rfl ⟨true, exm_ref T7.exC T7.hdC T7.tyC Z.ss_PowerCut, itP rfl fun er he => ?_⟩⟩⟩,
        fun i z e1 hi e2 hz e0 q H1 C1 => ?_⟩
      · have C2 := b.held (C := c 4) C1 he
        refine ⟨er, _, dd, pg, k, rfl, C2.at 0 rfl, T4, Z.en_InvalidPage, C2.at 1 rfl, (same_b b C2).arg, fun _ => ⟨(same_b b C2).rp, leS rfl, fun r hr' => h1 hb r _ ((C2.sub (List.nil_sublist _)).add hr')⟩, fun l xs e hl => ?_⟩
        obtain ⟨n, rp, ne, nd, C3⟩ := same_l b C2 e hl
        exact ⟨n, rp, ne, nd, leS rfl, fun r hr' => h1 hb r _ (C3.add hr')⟩
      · have C2 := b2.held (C := c 1) C1 he
        refine ⟨er, _, dd, tx, k2, rfl, C2.at 0 rfl, T1, Z.en_InvalidText, C2.at 1 rfl, (same_b b2 C2).arg, fun _ => ⟨(same_b b2 C2).rp, leS rfl, fun r hr' => h2 hb hb2 r _ ((C2.sub (List.nil_sublist _)).add hr')⟩, fun l xs e hl => ?_⟩
        obtain ⟨n, rp, ne, nd, C3⟩ := same_l b2 C2 e hl
        exact ⟨n, rp, ne, nd, leS rfl, fun r hr' => h2 hb hb2 r _ (C3.add hr')⟩
      · have C2 := ((Chg.of (H := H) .nil).and C1).add (o := ExH (.ref (c 7)) none er) he
        exact ⟨_, _, _, .own _, .e (C2.at 0 rfl) (fun d e => nomatch e) T7, kit_up Z.eb T7, leS rfl, fun r hr' => h3 hb hb2 e0 r _ ((C2.sub (List.nil_sublist _)).add hr')⟩
      · exact ⟨leS rfl, fun r hr' => h4 i z e1 hi e2 hz e0 r q _ (C1.add hr')⟩
def emp (p : Int) : List Str := List.replicate p.toNat ""
theorem emp_eq (p : Int) : ((List.replicate p.toNat ([] : List Nat)).map fun _ => V.str "") = (emp p).map V.str := by
  unfold emp
  rw [List.map_replicate, List.map_replicate]
def sp_law_made (c : Nat → Addr) : Sp := fun vs H Q _ => ∃ (pg wd : V) (k k2 : Knd) (M N : Cells) (bn : Bool),
  vs = [pg, wd, .bl bn] ∧ Bg H pg k M ∧ Bg H wd k2 N ∧
  (inR pg 3 40 = false → ∀ r H', Chg (M.map (·.1)) H H' [rs r "pages" (.bl true)] → Q (.ref r) H') ∧ (inR pg 3 40 = true → inR wd 20 400 = false → ∀ r H', Chg (N.map (·.1)) H H' [rs r "width" (.bl true)] → Q (.ref r) H') ∧
  (∀ p w, pg = .int p → wd = .int w → 3 ≤ p → p ≤ 40 → 20 ≤ w → w ≤ 400 → ∀ r d dx la te wr H', Chg [] H H' [rs r "told" (.ref d), (d, .ins (c 8) dx (dkF p w la te wr .non)), (la, .lst ((emp p).map V.str)), (te, .lst ((emp p).map V.str)), (wr, .lst [])] → Q (.ref r) H')
theorem ok_law_made (Z : Wd K mg a c) : FnG false P w K mg base 5 (a 35).1 (a 35).2 ["pages", "width", "by_name"] (sp_law_made c) := by
  refine fun_okG Z.g_law_made.fn sc_law_made (fun vs H Q E h => ?_) (fun cdv A outer s H vs Q E hr h => ?_)
  · obtain ⟨pg, wd, k, k2, M, N, bn, rfl, _⟩ := h; rfl
  · obtain ⟨pg, wd, k, k2, M, N, bn, rfl, b, b2, h1, h2, h3⟩ := h
    refine ⟨_, (pss_one (q_try sc_law_made.nd takes0 (fun _ _ _ tk hp => (pss_one (ps_ret (pe_lst (pa_cons pe_str (pa_cons (pe_ifExp (pt_val (qv 2)) (q_makeK Z.kd (kb_init Z) (ok_Disk_init Z) (hr.mono (by decide)) tk (pk_cons (qv 1) (pk_cons (qv 0) pk_nil))) (q_make Z.kd (by rfl) (ok_Disk_init Z) (hr.mono (by decide)) tk (pa_cons (qv 0) (pa_cons (qv 1) pa_nil)))) pa_nil))))))
      (Hds.as (i := 3) rfl rfl (names_own (by rfl) Z.mg_InvalidPages) (fun _ _ _ _ => (pss_one (ps_ret (pe_lst (pa_cons pe_str (pa_cons (q_call Z.g_law_same (ok_law_same Z) ((hr.any _).mono (by decide)) takes0 (pa_cons (qv 3) (pa_cons (qv 0) pa_nil))) pa_nil)))))) (Hds.as (i := 3) rfl rfl (names_own (by rfl) Z.mg_InvalidWidth) (fun _ _ _ _ => (pss_one (ps_ret (pe_lst (pa_cons pe_str (pa_cons (q_call Z.g_law_same (ok_law_same Z) ((hr.any _).mono (by decide)) takes0 (pa_cons (qv 3) (pa_cons (qv 1) pa_nil))) pa_nil)))))) Hds.nil)))), ?_⟩
    refine ⟨bn, rfl, ?_⟩
    have T2 := Z.e_InvalidWidth.c
    have T3 := Z.e_InvalidPages.c
    cases bn
    case' false => refine fun x dx nx ndx ne => ?_
    case' true => refine ⟨rfl, fun x dx nx ndx ne => ?_⟩
    all_goals
      have nx2 : ∀ o, (upd H dx o) x = none := fun o => by rw [upd_ne ne.symm]; exact nx
      have D0 := ((Chg.of (H := H) .nil).skip (o := .own x) ndx).add (o := .ins (c 8) dx []) (nx2 _)
      have hk : ∀ {v k M}, Bg H v k M → Bg (upd (upd H dx (.own x)) x (.ins (c 8) dx [])) v k M := fun {v k M} b => b.up D0.fix fun p hp => D0.keep _ _ (by simp) (b.led.hp p hp)
      have hC : ∀ {v k M}, Bg H v k M → Chg (M.map (·.1)) H (upd (upd H dx (.own x)) x (.ins (c 8) dx [])) M := fun {v k M} b => ((Chg.of b.led).skip (o := .own x) ndx).skip (nx2 _)
      refine ⟨x, dx, pg, wd, k, k2, rfl, D0.at 0 rfl, (hk b).arg, (hk b2).arg,
        fun hb dd H1 C1 => ⟨true, exm_ref T3.exC T3.hdC T3.tyC Z.ss_InvalidPages, itP rfl fun er he => ?_⟩,
        fun hb hb2 dd H1 C1 => ⟨false, exm_ref T3.exC T3.hdC T3.tyC Z.sf_InvalidWidth_InvalidPages, itN rfl ⟨true, exm_ref T2.exC T2.hdC T2.tyC Z.ss_InvalidWidth, itP rfl fun er he => ?_⟩⟩,
        fun p w e1 e2 p3 p40 w20 w400 la te wr H1 C1 => ⟨rfl, leS rfl, fun r hr' => ?_⟩⟩
      · have C2 := held' (C := c 3) (hC b) C1 he
        refine ⟨er, _, dd, pg, k, rfl, C2.at 0 rfl, T3, Z.en_InvalidPages, C2.at 1 rfl, (same_b b C2).arg, fun _ => ⟨(same_b b C2).rp, leS rfl, fun r hr' => h1 hb r _ ((C2.sub (List.nil_sublist _)).add hr')⟩, fun l xs e hl => ?_⟩
        obtain ⟨n, rp, ne, nd, C3⟩ := same_l b C2 e hl
        exact ⟨n, rp, ne, nd, leS rfl, fun r hr' => h1 hb r _ (C3.add hr')⟩
      · have C2 := held' (C := c 2) (hC b2) C1 he
        refine ⟨er, _, dd, wd, k2, rfl, C2.at 0 rfl, T2, Z.en_InvalidWidth, C2.at 1 rfl, (same_b b2 C2).arg, fun _ => ⟨(same_b b2 C2).rp, leS rfl, fun r hr' => h2 hb hb2 r _ ((C2.sub (List.nil_sublist _)).add hr')⟩, fun l xs e hl => ?_⟩
        obtain ⟨n, rp, ne, nd, C3⟩ := same_l b2 C2 e hl
        exact ⟨n, rp, ne, nd, leS rfl, fun r hr' => h2 hb hb2 r _ (C3.add hr')⟩
      · have C2 := (D0.call [0] C1).add (o := .lst [.str "told", .ref x]) hr'
        refine h3 p w e1 e2 p3 p40 w20 w400 r x dx la te wr _ ((C2.pick [0, 4, 3, 2, 1]).to ?_)
        show [(r, _), (x, _), (la, HO.lst _), (te, HO.lst _), (wr, _)] = _
        rw [emp_eq]; rfl
end
end Ks

/-! KsN: the wrong arguments. -/
namespace Ks
open PySem PySem.Spec PyProof.Rows L2 PySem.W
theorem atI_of {α : Type} {xs : List α} {i : Int} {x : α} (j : Nat) (e : i = j) (h : xs[j]? = some x) : atI xs i = some x := by rw [e]; exact atI_nat h
theorem log39 : ((10 : Int) ^ (39 : Int).toNat).natAbs.log2 < 1920 := by decide
theorem log39n : (-((10 : Int) ^ (39 : Int).toNat)).natAbs.log2 < 1920 := by decide
theorem asc_lit {z : Str} (h : z.cps.toList.all (fun n => decide (n < 128)) = true) : Asc z := fun ch hc => by simpa using List.all_eq_true.mp h ch hc
theorem fl1 {v : V} (h : fl v) : ∀ x ∈ [v], fl x := fun x hx => by rw [List.mem_singleton] at hx; rw [hx]; exact h
theorem fli {i : Int} (h : i.natAbs.log2 < 1920) : fl (.int i) := h
theorem fls {z : Str} (h : Asc z) (n : z.length ≤ 41000) : fl (.str z) := ⟨h, n⟩
section
variable {P : Program} {w : World} {K : PySem.W.Frag} {mg : Str → Option Value} {base : Heap} {a : Nat → Addr × FuncData} {c : Nat → Addr}
def sp_bad_count : Sp := fun vs H Q _ => ∃ way : Nat, vs = [.int way] ∧ ∀ v k M H', Bg H' v k M → ctB v = false → Chg [] H H' M → Q v H'
theorem ok_law_bad_count (Z : Wd K mg a c) : FnG false P w K mg base 1 (a 32).1 (a 32).2 ["way"] sp_bad_count := by
  refine fun_okG Z.g_law_bad_count.fn sc_law_bad_count (fun vs H Q E h => ?_) (fun cdv A outer s H vs Q E hr h => ?_)
  · obtain ⟨way, rfl, _⟩ := h; rfl
  · obtain ⟨way, rfl, h⟩ := h
    refine ⟨_, (pss_one (ps_ret (pe_ix ix_d (pe_lst (pa_cons (pe_un o_neg pe_int) (pa_cons pe_bl (pa_cons pe_bl (pa_cons pe_str (pa_cons (pe_tup (pa_cons pe_int pa_nil)) (pa_cons (pe_lst (pa_cons pe_int pa_nil)) (pa_cons pe_dnewK (pa_cons (pe_un o_neg (pe_op o_pow pe_int pe_int)) (pa_cons pe_str (pa_cons (pe_lst pa_nil) (pa_cons (pe_tup pa_nil) (pa_cons (pe_lst (pa_cons pe_non pa_nil)) (pa_cons pe_str pa_nil)))))))))))))) (pe_op o_mod (pe_callTy c_int (by rfl) Z.n_int bt_int (pa_cons (qv 0) pa_nil)) pe_int) (fun _ _ => rfl)))), ?_⟩
    have C0 : Chg [] H H [] := .of .nil
    refine ⟨leS rfl, fun t1 n1 => ⟨leS rfl, fun l1 n2 => ?_⟩⟩
    have C2 := (C0.add (o := .tup [.int 1]) n1).add (o := .lst [.int 1]) n2
    intro d1 n3
    have C3 := C2.add (o := .dK []) n3
    refine ⟨⟨by decide, by decide, by decide⟩, leS rfl, fun l2 n4 => ⟨leS rfl, fun t2 n5 => ⟨leS rfl, fun l3 n6 => ⟨leS rfl, fun r n7 => ?_⟩⟩⟩⟩
    have C6 := ((C3.add (o := .lst []) n4).add (o := .tup []) n5).add (o := .lst [.non]) n6
    have C7 := C6.skip (o := .lst [.int (-1), .bl true, .bl false, .str "1", .ref t1, .ref l1, .ref d1, .int (-(10 ^ (39 : Int).toNat)), .str "", .ref l2, .ref t2, .ref l3, .str "none"]) n7
    refine ⟨by show (0 : Int) < 13; decide, _, upd_same, ?_⟩
    have hj : way % 13 < 13 := Nat.mod_lt _ (by decide)
    have ej : (way : Int) % 13 = ((way % 13 : Nat) : Int) := by omega
    generalize hw : way % 13 = j at hj ej
    match j, hj with
    | 0, _ => exact ⟨_, atI_of _ ej rfl, h _ _ _ _ (.int (-1) (by decide)) rfl (C7.pick [])⟩
    | 1, _ => exact ⟨_, atI_of _ ej rfl, h _ _ _ _ (.bl true) rfl (C7.pick [])⟩
    | 2, _ => exact ⟨_, atI_of _ ej rfl, h _ _ _ _ (.bl false) rfl (C7.pick [])⟩
    | 3, _ => exact ⟨_, atI_of _ ej rfl, h _ _ _ _ (.str _ (asc_lit (by decide +kernel)) (by decide +kernel)) rfl (C7.pick [])⟩
    | 4, _ => exact ⟨_, atI_of _ ej rfl, h _ _ _ _ (.tup (C7.at 5 rfl) (fl1 (fli (by decide))) (by simp)) rfl (C7.pick [])⟩
    | 5, _ => exact ⟨_, atI_of _ ej rfl, h _ _ _ _ (.lst (C7.at 4 rfl) (fl1 (fli (by decide))) (by simp)) rfl (C7.pick [4])⟩
    | 6, _ => exact ⟨_, atI_of _ ej rfl, h _ _ _ _ (.dct0 (C7.at 3 rfl)) rfl (C7.pick [3])⟩
    | 7, _ => exact ⟨_, atI_of _ ej rfl, h _ _ _ _ (.int _ log39n) (by decide) (C7.pick [])⟩
    | 8, _ => exact ⟨_, atI_of _ ej rfl, h _ _ _ _ (.str _ (asc_lit (by decide +kernel)) (by decide +kernel)) rfl (C7.pick [])⟩
    | 9, _ => exact ⟨_, atI_of _ ej rfl, h _ _ _ _ (.lst (C7.at 2 rfl) (by simp) (by simp)) rfl (C7.pick [2])⟩
    | 10, _ => exact ⟨_, atI_of _ ej rfl, h _ _ _ _ (.tup (C7.at 1 rfl) (by simp) (by simp)) rfl (C7.pick [])⟩
    | 11, _ => exact ⟨_, atI_of _ ej rfl, h _ _ _ _ (.lst (C7.at 0 rfl) (by simp [fl]) (by simp)) rfl (C7.pick [0])⟩
    | 12, _ => exact ⟨_, atI_of _ ej rfl, h _ _ _ _ (.str _ (asc_lit (by decide +kernel)) (by decide +kernel)) rfl (C7.pick [])⟩
def sp_bad_page : Sp := fun vs H Q _ => ∃ (way : Nat) (p : Int), vs = [.int way, .int p] ∧ 3 ≤ p ∧ p ≤ 40 ∧ ∀ v k M H', Bg H' v k M → ixB v p = false → Chg [] H H' M → Q v H'
theorem ok_law_bad_page (Z : Wd K mg a c) : FnG false P w K mg base 1 (a 31).1 (a 31).2 ["way", "pages"] sp_bad_page := by
  refine fun_okG Z.g_law_bad_page.fn sc_law_bad_page (fun vs H Q E h => ?_) (fun cdv A outer s H vs Q E hr h => ?_)
  · obtain ⟨way, p, rfl, _⟩ := h; rfl
  · obtain ⟨way, p, rfl, p3, p40, h⟩ := h
    refine ⟨_, (pss_cons (ps_if (pt_cmpR o_lt (qv 0) pe_int (nomark _)) (pss_one (ps_ret (pe_ix ix_d (pe_lst (pa_cons (qv 1) (pa_cons (pe_un o_neg pe_int) (pa_cons (pe_un o_neg (qv 1)) (pa_cons (pe_op o_add (qv 1) pe_int) pa_nil))))) (qv 0) (fun _ _ => rfl)))) pss_nil)
      (pss_one (ps_ret (pe_ix ix_d (pe_lst (pa_cons pe_non (pa_cons pe_bl (pa_cons pe_bl (pa_cons pe_str (pa_cons (pe_tup (pa_cons pe_int pa_nil)) (pa_cons (pe_lst (pa_cons pe_int pa_nil)) (pa_cons pe_dnewK (pa_cons (pe_op o_pow pe_int pe_int) (pa_cons pe_str (pa_cons (pe_lst pa_nil) (pa_cons (pe_un o_neg (pe_op o_pow pe_int pe_int)) (pa_cons (pe_disp (pps_cons pe_str pe_int pps_nil) rfl rfl (by simp) (by decide)) pa_nil))))))))))))) (pe_op o_mod (pe_callTy c_int (by rfl) Z.n_int bt_int (pa_cons (pe_op o_sub (qv 0) pe_int) pa_nil)) pe_int) (fun _ _ => rfl))))), ?_⟩
    have C0 : Chg [] H H [] := .of .nil
    have no : ∀ i : Int, i < 0 ∨ p ≤ i → ixB (.int i) p = false := fun i hi => by
      simp only [ixB, Bool.and_eq_false_iff, decide_eq_false_iff_not]
      omega
    refine ⟨_, rfl, ?_⟩
    by_cases w4 : (way : Int) < 4
    · refine itP (decide_eq_true w4) ?_
      refine ⟨leS rfl, fun r n7 => ⟨_, upd_same, ?_⟩⟩
      have C7 := C0.skip (o := .lst [.int p, .int (-1), .int (-p), .int (p + 360)]) n7
      have hj : way < 4 := by omega
      match way, hj with
      | 0, _ => exact ⟨_, atI_of 0 rfl rfl, h _ _ _ _ (.int p (log_small (by omega))) (no _ (by omega)) C7⟩
      | 1, _ => exact ⟨_, atI_of 1 rfl rfl, h _ _ _ _ (.int (-1) (by decide)) (no _ (by omega)) C7⟩
      | 2, _ => exact ⟨_, atI_of 2 rfl rfl, h _ _ _ _ (.int (-p) (log_small (by omega))) (no _ (by omega)) C7⟩
      | 3, _ => exact ⟨_, atI_of 3 rfl rfl, h _ _ _ _ (.int (p + 360) (log_small (by omega))) (no _ (by omega)) C7⟩
    · refine itN (decide_eq_false w4) ?_
      refine ⟨leS rfl, fun t1 n1 => ⟨leS rfl, fun l1 n2 d1 n3 => ?_⟩⟩
      have C3 := ((C0.add (o := .tup [.int 0]) n1).add (o := .lst [.int 0]) n2).add (o := .dK []) n3
      refine ⟨⟨by decide, by decide, by decide⟩, leS rfl, fun l2 n4 => ⟨⟨by decide, by decide, by decide⟩, fun d2 n5 => ⟨upd_same, [(Sum.inr "0", .int 0)], rfl, by decide, ?_⟩⟩⟩
      have C5 := (C3.add (o := .lst []) n4).add (o := .dK []) n5
      have C6 := C5.set 0 (o' := .dK [(Sum.inr "0", .int 0)]) rfl
      refine ⟨leS rfl, fun r n7 => ⟨by show (0 : Int) < 12; decide, _, upd_same, ?_⟩⟩
      have C7 := C6.skip (o := .lst [.non, .bl true, .bl false, .str "0", .ref t1, .ref l1, .ref d1, .int (10 ^ (39 : Int).toNat), .str "", .ref l2, .int (-(10 ^ (39 : Int).toNat)), .ref d2]) n7
      have hj : (way - 4) % 12 < 12 := Nat.mod_lt _ (by decide)
      have ej : ((way : Int) - 4) % 12 = (((way - 4) % 12 : Nat) : Int) := by omega
      generalize hw : (way - 4) % 12 = j at hj ej
      match j, hj with
      | 0, _ => exact ⟨_, atI_of _ ej rfl, h _ _ _ _ .non rfl (C7.pick [])⟩
      | 1, _ => exact ⟨_, atI_of _ ej rfl, h _ _ _ _ (.bl true) rfl (C7.pick [])⟩
      | 2, _ => exact ⟨_, atI_of _ ej rfl, h _ _ _ _ (.bl false) rfl (C7.pick [])⟩
      | 3, _ => exact ⟨_, atI_of _ ej rfl, h _ _ _ _ (.str _ (asc_lit (by decide +kernel)) (by decide +kernel)) rfl (C7.pick [])⟩
      | 4, _ => exact ⟨_, atI_of _ ej rfl, h _ _ _ _ (.tup (C7.at 4 rfl) (fl1 (fli (by decide))) (by simp)) rfl (C7.pick [])⟩
      | 5, _ => exact ⟨_, atI_of _ ej rfl, h _ _ _ _ (.lst (C7.at 3 rfl) (fl1 (fli (by decide))) (by simp)) rfl (C7.pick [3])⟩
      | 6, _ => exact ⟨_, atI_of _ ej rfl, h _ _ _ _ (.dct0 (C7.at 2 rfl)) rfl (C7.pick [2])⟩
      | 7, _ => exact ⟨_, atI_of _ ej rfl, h _ _ _ _ (.int _ log39) (no _ (.inr (by have : p ≤ (10 : Int) ^ (39 : Int).toNat := Int.le_trans p40 (by decide); exact this))) (C7.pick [])⟩
      | 8, _ => exact ⟨_, atI_of _ ej rfl, h _ _ _ _ (.str _ (asc_lit (by decide +kernel)) (by decide +kernel)) rfl (C7.pick [])⟩
      | 9, _ => exact ⟨_, atI_of _ ej rfl, h _ _ _ _ (.lst (C7.at 1 rfl) (by simp) (by simp)) rfl (C7.pick [1])⟩
      | 10, _ => exact ⟨_, atI_of _ ej rfl, h _ _ _ _ (.int _ log39n) (no _ (.inl (by decide))) (C7.pick [])⟩
      | 11, _ => exact ⟨_, atI_of _ ej rfl, h _ _ _ _ (.dct1 (C7.at 0 rfl) ⟨asc_lit (by decide +kernel), by decide +kernel⟩ (fli (by decide))) rfl (C7.pick [0])⟩
def sp_bad_size : Sp := fun vs H Q _ => ∃ (way : Nat) (lo hi : Int), vs = [.int way, .int lo, .int hi] ∧ (lo = 3 ∧ hi = 40 ∨ lo = 20 ∧ hi = 400) ∧ ∀ v k M H', Bg H' v k M → inR v lo hi = false → Chg [] H H' M → Q v H'
theorem ok_law_bad_size (Z : Wd K mg a c) : FnG false P w K mg base 1 (a 33).1 (a 33).2 ["way", "low", "high"] sp_bad_size := by
  refine fun_okG Z.g_law_bad_size.fn sc_law_bad_size (fun vs H Q E h => ?_) (fun cdv A outer s H vs Q E hr h => ?_)
  · obtain ⟨way, lo, hi, rfl, _⟩ := h; rfl
  · obtain ⟨way, lo, hi, rfl, hl, h⟩ := h
    refine ⟨_, (pss_one (ps_ret (pe_ix ix_d (pe_lst (pa_cons (pe_op o_sub (qv 1) pe_int) (pa_cons (pe_op o_add (qv 2) pe_int) (pa_cons pe_int (pa_cons (pe_un o_neg (qv 1)) (pa_cons pe_bl (pa_cons pe_non (pa_cons (pe_callTy c_str (by rfl) Z.n_str bt_str (pa_cons (qv 1) pa_nil)) (pa_cons (pe_lst (pa_cons (qv 1) pa_nil)) (pa_cons (pe_tup (pa_cons (qv 2) pa_nil)) (pa_cons pe_dnewK (pa_cons (pe_op o_pow pe_int pe_int) (pa_cons pe_str (pa_cons (pe_lst pa_nil) pa_nil)))))))))))))) (pe_op o_mod (pe_callTy c_int (by rfl) Z.n_int bt_int (pa_cons (qv 0) pa_nil)) pe_int) (fun _ _ => rfl)))), ?_⟩
    have C0 : Chg [] H H [] := .of .nil
    have no : ∀ i : Int, i < lo ∨ hi < i → inR (.int i) lo hi = false := fun i hi => by
      simp only [inR, Bool.and_eq_false_iff, decide_eq_false_iff_not]
      omega
    have as : Asc (Str.ofString (toString lo)) ∧ (Str.ofString (toString lo)).length ≤ 41000 := by
      rcases hl with ⟨rfl, _⟩ | ⟨rfl, _⟩
      · exact ⟨asc_lit (by decide +kernel), by decide +kernel⟩
      · exact ⟨asc_lit (by decide +kernel), by decide +kernel⟩
    have l1' : lo.natAbs.log2 < 1920 := log_small (by omega)
    have l2' : hi.natAbs.log2 < 1920 := log_small (by omega)
    refine ⟨l1', leS rfl, fun l1 n1 => ⟨leS rfl, fun t1 n2 d1 n3 => ?_⟩⟩
    have C3 := ((C0.add (o := .lst [.int lo]) n1).add (o := .tup [.int hi]) n2).add (o := .dK []) n3
    refine ⟨⟨by decide, by decide, by decide⟩, leS rfl, fun l2 n4 => ⟨leS rfl, fun r n7 => ⟨by show (0 : Int) < 13; decide, _, upd_same, ?_⟩⟩⟩
    have C7 := (C3.add (o := .lst []) n4).skip (o := .lst [.int (lo - 1), .int (hi + 1), .int 0, .int (-lo), .bl true, .non, .str (Str.ofString (toString lo)), .ref l1, .ref t1, .ref d1, .int (10 ^ (39 : Int).toNat), .str "", .ref l2]) n7
    have hj : way % 13 < 13 := Nat.mod_lt _ (by decide)
    have ej : (way : Int) % 13 = ((way % 13 : Nat) : Int) := by omega
    generalize hw : way % 13 = j at hj ej
    match j, hj with
    | 0, _ => exact ⟨_, atI_of _ ej rfl, h _ _ _ _ (.int _ (log_small (by omega))) (no _ (by omega)) (C7.pick [])⟩
    | 1, _ => exact ⟨_, atI_of _ ej rfl, h _ _ _ _ (.int _ (log_small (by omega))) (no _ (by omega)) (C7.pick [])⟩
    | 2, _ => exact ⟨_, atI_of _ ej rfl, h _ _ _ _ (.int _ (log_small (by omega))) (no _ (by omega)) (C7.pick [])⟩
    | 3, _ => exact ⟨_, atI_of _ ej rfl, h _ _ _ _ (.int _ (log_small (by omega))) (no _ (by omega)) (C7.pick [])⟩
    | 4, _ => exact ⟨_, atI_of _ ej rfl, h _ _ _ _ (.bl true) rfl (C7.pick [])⟩
    | 5, _ => exact ⟨_, atI_of _ ej rfl, h _ _ _ _ .non rfl (C7.pick [])⟩
    | 6, _ => exact ⟨_, atI_of _ ej rfl, h _ _ _ _ (.str _ as.1 as.2) rfl (C7.pick [])⟩
    | 7, _ => exact ⟨_, atI_of _ ej rfl, h _ _ _ _ (.lst (C7.at 3 rfl) (fl1 (fli l1')) (by simp)) rfl (C7.pick [3])⟩
    | 8, _ => exact ⟨_, atI_of _ ej rfl, h _ _ _ _ (.tup (C7.at 2 rfl) (fl1 (fli l2')) (by simp)) rfl (C7.pick [])⟩
    | 9, _ => exact ⟨_, atI_of _ ej rfl, h _ _ _ _ (.dct0 (C7.at 1 rfl)) rfl (C7.pick [1])⟩
    | 10, _ => exact ⟨_, atI_of _ ej rfl, h _ _ _ _ (.int _ log39) (no _ (.inr (Int.lt_of_le_of_lt (show hi ≤ 400 by omega) (by decide)))) (C7.pick [])⟩
    | 11, _ => exact ⟨_, atI_of _ ej rfl, h _ _ _ _ (.str _ (asc_lit (by decide +kernel)) (by decide +kernel)) rfl (C7.pick [])⟩
    | 12, _ => exact ⟨_, atI_of _ ej rfl, h _ _ _ _ (.lst (C7.at 0 rfl) (by simp) (by simp)) rfl (C7.pick [0])⟩
end
end Ks

/-! KsO: wrong texts; the law's own state. -/
namespace Ks
open PySem PySem.Spec PyProof.Rows L2 PySem.W
theorem cut_len_eq {z : Str} {v : Int} (h : 0 ≤ v) : (cutS z none (some v)).length = min v.toNat z.length := by
  rw [← len_tl, tl_cut, List.length_take, List.length_drop, len_tl]
  have : HT.sIx z.length z.length (some v) = min v.toNat z.length := by
    show (if v < 0 then (v + (z.length : Int)).toNat else min v.toNat z.length) = _
    rw [if_neg (by omega)]
  have e0 : HT.sIx z.length 0 none = 0 := rfl
  rw [this, e0]
  omega
theorem cut_asc {z : Str} {lo hi : Option Int} (h : Asc z) : Asc (cutS z lo hi) := fun ch hc => h ch (cut_mem hc)
theorem nl_asc : Asc ("\n" : Str) := asc_lit (by decide +kernel)
theorem nl_in : (10 : Nat) ∈ ("\n" : Str).cps.toList := by decide +kernel
section
variable {P : Program} {w : World} {K : PySem.W.Frag} {mg : Str → Option Value} {base : Heap} {a : Nat → Addr × FuncData} {c : Nat → Addr}
def sp_bad_text : Sp := fun vs H Q _ => ∃ (way : Nat) (z : Str) (w : Int), vs = [.int way, .str z, .int w] ∧ Prn z ∧ 1 ≤ z.length ∧ z.length ≤ 8 ∧ 20 ≤ w ∧ w ≤ 400 ∧ ∀ v k M H', Bg H' v k M → pgV v w = false → Chg [] H H' M → Q v H'
theorem ok_law_bad_text (Z : Wd K mg a c) : FnG false P w K mg base 1 (a 30).1 (a 30).2 ["way", "stem", "width"] sp_bad_text := by
  refine fun_okG Z.g_law_bad_text.fn sc_law_bad_text (fun vs H Q E h => ?_) (fun cdv A outer s H vs Q E hr h => ?_)
  · obtain ⟨way, z, w, rfl, _⟩ := h; rfl
  · obtain ⟨way, z, w, rfl, pz, z1, z8, w20, w400, h⟩ := h
    refine ⟨_, (pss_cons (ps_par (i := 3) (j := 4) (by rfl) sc_law_bad_text.nd rfl rfl (by decide) rfl rfl (pa_cons (pe_op o_fdiv (pe_callB c_len (by rfl) Z.n_len bt_len (pa_cons (qv 1) pa_nil)) pe_int) (pa_cons (pe_op o_mul (qv 1) pe_int) pa_nil)) rfl)
      (pss_cons (ps_if (pt_cmpR o_lt (qv 0) pe_int (nomark _)) (pss_one (ps_ret (pe_ix ix_d (pe_lst (pa_cons (pe_op o_add (qv 1) pe_str) (pa_cons pe_str (pa_cons (pe_op o_add (pe_op o_add (pe_slice sl_d (qv 1) po_none (po_some (qv 3))) pe_str) (pe_slice sl_d (qv 1) (po_some (qv 3)) po_none)) (pa_cons (pe_slice sl_d (qv 4) po_none (po_some (pe_op o_add (qv 2) pe_int))) (pa_cons (pe_slice sl_d (qv 4) po_none (po_some (pe_op o_add (qv 2) pe_int))) pa_nil)))))) (qv 0) (fun _ _ => rfl)))) pss_nil)
      (pss_one (ps_ret (pe_ix ix_d (pe_lst (pa_cons pe_non (pa_cons pe_bl (pa_cons pe_int (pa_cons (pe_lst (pa_cons (qv 1) pa_nil)) (pa_cons (pe_tup (pa_cons (qv 1) pa_nil)) (pa_cons (pe_disp (pps_cons pe_str (qv 1) pps_nil) rfl rfl (by simp) (by decide)) (pa_cons (pe_lst pa_nil) (pa_cons (pe_op o_pow pe_int pe_int) (pa_cons (pe_op o_mul pe_str pe_int) pa_nil)))))))))) (pe_op o_mod (pe_callTy c_int (by rfl) Z.n_int bt_int (pa_cons (pe_op o_sub (qv 0) pe_int) pa_nil)) pe_int) (fun _ _ => rfl)))))), ?_⟩
    have C0 : Chg [] H H [] := .of .nil
    have lz : (Txt.mul z 401).length = z.length * 401 := len_mulN z 401
    have az : Asc (Txt.mul z 401) := fun ch hc => pz.asc ch (tl_mul _ _ ch hc)
    refine ⟨by rw [sizeLine_eq]; omega, ⟨by decide, by decide⟩, mulOk_of 8 401 (by omega) (by decide) (by decide) (by decide) (by decide), _, _, rfl, ?_⟩
    refine ⟨_, rfl, ?_⟩
    have nl1 : ("\n" : Str).length = 1 := rfl
    by_cases w5 : (way : Int) < 5
    · refine itP (decide_eq_true w5) ?_
      have c1 := cutS_length z none (some ((z.length : Int) / 2))
      have c2 := cutS_length z (some ((z.length : Int) / 2)) none
      refine ⟨by rw [nl1, sizeLine_eq]; omega, _, rfl, by rw [sizeLine_eq]; omega, by rw [nl1, sizeLine_eq]; omega, _, rfl, by rw [sizeLine_eq]; omega, by rw [len_app, nl1, sizeLine_eq]; omega, _, rfl, by rw [sizeLine_eq]; omega, _, rfl, by rw [sizeLine_eq]; omega, leS rfl, fun r n7 => ⟨_, upd_same, ?_⟩⟩
      have C7 := C0.skip (o := .lst [.str (z ++ "\n"), .str "\n", .str (cutS z none (some ((z.length : Int) / 2)) ++ "\n" ++ cutS z (some ((z.length : Int) / 2)) none), .str (cutS (Txt.mul z 401) none (some (w + 1))), .str (cutS (Txt.mul z 401) none (some (w + 30)))]) n7
      have hj : way < 5 := by omega
      match way, hj with
      | 0, _ => exact ⟨_, atI_of 0 rfl rfl, h _ _ _ _ (.str _ (pz.asc.app nl_asc) (by rw [len_app, nl1]; omega)) (pgT_odd 10 (by rw [tl_app]; exact List.mem_append_right _ nl_in) (by decide)) C7⟩
      | 1, _ => exact ⟨_, atI_of 1 rfl rfl, h _ _ _ _ (.str _ nl_asc (by rw [nl1]; omega)) (pgT_odd 10 nl_in (by decide)) C7⟩
      | 2, _ => exact ⟨_, atI_of 2 rfl rfl, h _ _ _ _ (.str _ (((cut_asc pz.asc).app nl_asc).app (cut_asc pz.asc)) (by rw [len_app, len_app, nl1]; omega)) (pgT_odd 10 (by rw [tl_app, tl_app]; exact List.mem_append_left _ (List.mem_append_right _ nl_in)) (by decide)) C7⟩
      | 3, _ =>
        have e := cut_len_eq (z := Txt.mul z 401) (v := w + 1) (by omega)
        exact ⟨_, atI_of 3 rfl rfl, h _ _ _ _ (.str _ (cut_asc az) (by omega)) (pgT_len (by omega)) C7⟩
      | 4, _ =>
        have e := cut_len_eq (z := Txt.mul z 401) (v := w + 30) (by omega)
        exact ⟨_, atI_of 4 rfl rfl, h _ _ _ _ (.str _ (cut_asc az) (by omega)) (pgT_len (by omega)) C7⟩
    · refine itN (decide_eq_false w5) ?_
      refine ⟨leS rfl, fun l1 n1 => ⟨leS rfl, fun t1 n2 d1 n3 => ⟨upd_same, [(Sum.inr "a", .str z)], rfl, (by show 1 ≤ 15; decide), leS rfl, fun l2 n4 => ?_⟩⟩⟩
      have C3 := ((C0.add (o := .lst [.str z]) n1).add (o := .tup [.str z]) n2).add (o := .dK []) n3
      have C4 := (C3.set 0 (o' := .dK [(Sum.inr "a", .str z)]) rfl).add (o := .lst []) n4
      refine ⟨⟨by decide, by decide, by decide⟩, mulOk_of 1 40000 (by decide) (by decide) (by decide) (by decide) (by decide), leS rfl, fun r n7 => ⟨by show (0 : Int) < 9; decide, _, upd_same, ?_⟩⟩
      have C7 := C4.skip (o := .lst [.non, .bl true, .int 7, .ref l1, .ref t1, .ref d1, .ref l2, .int (10 ^ (39 : Int).toNat), .str (Txt.mul "~" 40000)]) n7
      have hj : (way - 5) % 9 < 9 := Nat.mod_lt _ (by decide)
      have ej : ((way : Int) - 5) % 9 = (((way - 5) % 9 : Nat) : Int) := by omega
      have fz : fl (.str z) := ⟨pz.asc, by omega⟩
      have l4 : (Txt.mul "~" 40000).length = 1 * 40000 := len_mulN "~" 40000
      generalize hw : (way - 5) % 9 = j at hj ej
      match j, hj with
      | 0, _ => exact ⟨_, atI_of _ ej rfl, h _ _ _ _ .non rfl (C7.pick [])⟩
      | 1, _ => exact ⟨_, atI_of _ ej rfl, h _ _ _ _ (.bl true) rfl (C7.pick [])⟩
      | 2, _ => exact ⟨_, atI_of _ ej rfl, h _ _ _ _ (.int _ (by decide)) rfl (C7.pick [])⟩
      | 3, _ => exact ⟨_, atI_of _ ej rfl, h _ _ _ _ (.lst (C7.at 3 rfl) (fl1 fz) (by simp)) rfl (C7.pick [3])⟩
      | 4, _ => exact ⟨_, atI_of _ ej rfl, h _ _ _ _ (.tup (C7.at 2 rfl) (fl1 fz) (by simp)) rfl (C7.pick [])⟩
      | 5, _ => exact ⟨_, atI_of _ ej rfl, h _ _ _ _ (.dct1 (C7.at 1 rfl) ⟨asc_lit (by decide +kernel), by decide +kernel⟩ fz) rfl (C7.pick [1])⟩
      | 6, _ => exact ⟨_, atI_of _ ej rfl, h _ _ _ _ (.lst (C7.at 0 rfl) (by simp) (by simp)) rfl (C7.pick [0])⟩
      | 7, _ => exact ⟨_, atI_of _ ej rfl, h _ _ _ _ (.int _ log39) rfl (C7.pick [])⟩
      | 8, _ => exact ⟨_, atI_of _ ej rfl, h _ _ _ _ (.str _ (fun ch hc => asc_lit (z := "~") (by decide +kernel) ch (tl_mul _ _ ch hc)) (by omega)) (pgT_len (by omega)) (C7.pick [])⟩
def sp_new : Sp := fun vs H Q _ => ∃ (p w : Int), vs = [.int p, .int w] ∧ 3 ≤ p ∧ p ≤ 40 ∧ ∀ s tx kp H', Chg [] H H' [(s, .lst [.int p, .int w, .ref tx, .ref kp, .non]), (tx, .lst ((emp p).map V.str)), (kp, .lst [])] → Q (.ref s) H'
theorem ok_law_new (Z : Wd K mg a c) : FnG false P w K mg base 1 (a 40).1 (a 40).2 ["pages", "width"] sp_new := by
  refine fun_okG Z.g_law_new.fn sc_law_new (fun vs H Q E h => ?_) (fun cdv A outer s H vs Q E hr h => ?_)
  · obtain ⟨p, w, rfl, _⟩ := h; rfl
  · obtain ⟨p, w, rfl, p3, p40, h⟩ := h
    refine ⟨_, (pss_one (ps_ret (pe_lst (pa_cons (qv 0) (pa_cons (qv 1) (pa_cons (pe_op o_mul (pe_lst (pa_cons pe_str pa_nil)) (qv 0)) (pa_cons (pe_lst pa_nil) (pa_cons pe_non pa_nil)))))))), ?_⟩
    have C0 : Chg [] H H [] := .of .nil
    have hp : 1 * p.toNat ≤ sizeLine := by rw [sizeLine_eq]; omega
    refine ⟨leS rfl, fun q1 f1 => ⟨_, upd_same, ⟨by omega, by omega, hp⟩, fun tx f2 => ⟨leS rfl, fun kp f3 => ⟨leS rfl, fun s f4 => ?_⟩⟩⟩⟩
    have C4 := (((C0.skip (o := .lst [V.str ""]) f1).add (o := .lst (List.replicate p.toNat [V.str ""]).flatten) f2).add (o := .lst []) f3).add (o := .lst [.int p, .int w, .ref tx, .ref kp, .non]) f4
    refine h s tx kp _ ((C4.pick [0, 2, 1]).to ?_)
    show [(s, _), (tx, HO.lst (List.replicate p.toNat [V.str ""]).flatten), (kp, _)] = _
    rw [rep_one, emp_eq]
def sp_let : Sp := fun vs H Q _ => ∃ (s : Addr) (p w : Int) (tx kp : Addr) (lf : Option Nat), vs = [.ref s] ∧ H s = some (.lst [.int p, .int w, .ref tx, .ref kp, lfV lf]) ∧
  (lf = some 0 → Q (.bl false) H) ∧ (lf ≠ some 0 → ∀ H', Chg [s] H H' [(s, .lst [.int p, .int w, .ref tx, .ref kp, lfV (lf.map (· - 1))])] → Q (.bl true) H')
theorem ok_law_let (Z : Wd K mg a c) : FnG false P w K mg base 1 (a 41).1 (a 41).2 ["state"] sp_let := by
  refine fun_okG Z.g_law_let.fn sc_law_let (fun vs H Q E h => ?_) (fun cdv A outer s H vs Q E hr h => ?_)
  · obtain ⟨s, p, w, tx, kp, lf, rfl, _⟩ := h; rfl
  · obtain ⟨s, p, w, tx, kp, lf, rfl, hs, h1, h2⟩ := h
    refine ⟨_, (pss_cons (ps_if (pt_cmpR (o_eq hr.u64) (pe_ix ix_d (qv 0) pe_int (fun _ _ => rfl)) pe_int (nomark _)) (pss_one (ps_ret pe_bl)) pss_nil)
      (pss_cons (ps_if (pt_cmpR o_isN (pe_ix ix_d (qv 0) pe_int (fun _ _ => rfl)) pe_non (nomark _)) (pss_one (ps_asg (pe_op o_sub (pe_ix ix_d (qv 0) pe_int (fun _ _ => rfl)) pe_int) (pg_sub (qv 0) pe_int set_d))) pss_nil)
      (pss_one (ps_ret pe_bl)))), ?_⟩
    have C0 : Chg [s] H H [(s, .lst [.int p, .int w, .ref tx, .ref kp, lfV lf])] := .of (.one hs)
    refine ⟨_, hs, _, atI_of 4 rfl rfl, ?_⟩
    cases lf with
    | none => exact ⟨rfl, _, rfl, _, hs, _, atI_of 4 rfl rfl, rfl, _, rfl, h2 (by simp) H C0⟩
    | some n =>
      cases n with
      | zero => exact ⟨rfl, _, rfl, h1 rfl⟩
      | succ n =>
        refine ⟨rfl, _, rfl, itN (decide_eq_false (fun e => by have := V.int.inj e; omega)) ?_⟩
        refine ⟨_, hs, _, atI_of 4 rfl rfl, rfl, _, rfl, _, hs, _, atI_of 4 rfl rfl, _, 4, hs, rfl, ?_⟩
        refine h2 (by simp) _ ((C0.set 0 (o' := .lst [.int p, .int w, .ref tx, .ref kp, .int (((n + 1 : Nat) : Int) - 1)]) rfl).to ?_)
        rw [show ((n + 1 : Nat) : Int) - 1 = (n : Nat) by omega]; rfl
end
end Ks

/-! KsP: a disk and the law's own state beside it. -/
namespace Ks
open PySem PySem.Spec PyProof.Rows L2 PySem.W
section
variable {K : PySem.W.Frag} {H : Hp}
theorem RpZ.lst {l : Addr} {xs : List V} {b : Nat} (f : V → PyData) (e : H l = some (.lst xs)) (h : ∀ x ∈ xs, Dp K H x (f x) ∧ (f x).showable = true ∧ (f x).shown.length ≤ b ∧ (f x).depth ≤ 30) (hb : 2 + xs.length * (b + 2) ≤ 16777216) : RpZ K H (.ref l) (PyData.list (xs.map f)).shown := by
  refine .inl ⟨.list (xs.map f), .lst (.of e) (dpAll_of f fun x hx => (h x hx).1), ?_, ?_, ?_, rfl⟩
  · simp only [PyData.showable]
    exact showableAll_of fun d hd => by
      obtain ⟨x, hx, rfl⟩ := List.mem_map.mp hd
      exact (h x hx).2.1
  · simp only [PyData.shown, shownAll_map, List.map_map]
    rw [sizeLine_eq]
    refine Nat.le_trans (listText_le (b := b) fun t ht => ?_) (by rw [List.length_map]; exact hb)
    obtain ⟨x, hx, rfl⟩ := List.mem_map.mp ht
    exact (h x hx).2.2.1
  · simp only [PyData.depth]
    have := depthAll_le (n := 30) (ds := xs.map f) fun d hd => by
      obtain ⟨x, hx, rfl⟩ := List.mem_map.mp hd
      exact (h x hx).2.2.2
    omega
theorem RpZ.lstF {l : Addr} {xs : List V} (e : H l = some (.lst xs)) (h : ∀ x ∈ xs, fl x) (n : xs.length ≤ 40) : RpZ K H (.ref l) (PyData.list (xs.map flD)).shown :=
  .lst (b := 410002) flD e (fun x hx => ⟨fl_dp (h x hx), (fl_show (h x hx)).1, (fl_show (h x hx)).2.1, by have := (fl_show (h x hx)).2.2; omega⟩) (by omega)
theorem RpZ.ints {l : Addr} {xs : List V} (e : H l = some (.lst xs)) (h : ∀ x ∈ xs, ∃ i : Int, x = .int i ∧ i.natAbs < 2 ^ 200) (n : xs.length ≤ 8000) : RpZ K H (.ref l) (PyData.list (xs.map flD)).shown := by
  refine .lst (b := 1921) flD e (fun x hx => ?_) (by omega)
  obtain ⟨i, rfl, hi⟩ := h x hx
  refine ⟨fl_dp (fli (log_small hi)), (fl_show (fli (log_small hi))).1, ?_, by have := (fl_show (fli (log_small hi))).2.2; omega⟩
  have := int_text_len_1921 (i := i) (log_small hi)
  simp only [flD, PyData.shown]
  exact this
end
/-- a disk's and its own state's data -/
structure Pr where
  dx : Addr
  la : Addr
  te : Addr
  wr : Addr
  tx : Addr
  kp : Addr
  lf : Option Nat
  T : List Str
  R : List Addr
  W : List (Int × Str)
abbrev cel (c : Nat → Addr) (d s : Addr) (p w : Int) (x : Pr) : Cells :=
  [(d, .ins (c 8) x.dx (dkF p w x.la x.te x.wr (lfV x.lf))), (x.te, .lst (x.T.map V.str)), (x.wr, .lst (x.R.map V.ref)),
    (s, .lst [.int p, .int w, .ref x.tx, .ref x.kp, lfV x.lf]), (x.tx, .lst (x.T.map V.str)), (x.kp, .lst (x.W.map fun w => V.int w.1))]
structure Ok (H : Hp) (p w : Int) (n : Nat) (x : Pr) : Prop where
  p3 : 3 ≤ p
  p40 : p ≤ 40
  w20 : 20 ≤ w
  w400 : w ≤ 400
  hT : (x.T.length : Int) = p
  hP : ∀ z ∈ x.T, Prn z ∧ z.length ≤ 400
  hW : Wrs H x.R x.W
  hw : ∀ y ∈ x.W, 0 ≤ y.1 ∧ y.1 < p
  hn : x.W.length ≤ n
theorem Ok.up {H H' : Hp} {p w : Int} {n m : Nat} {x : Pr} (o : Ok H p w n x) (f : ∀ a o, imm o = true → H a = some o → H' a = some o) (h : n ≤ m := by omega) : Ok H' p w m x :=
  ⟨o.p3, o.p40, o.w20, o.w400, o.hT, o.hP, o.hW.up f, o.hw, Nat.le_trans o.hn h⟩
theorem Ok.hR {H : Hp} {p w : Int} {n : Nat} {x : Pr} (o : Ok H p w n x) : x.R.length ≤ n := by rw [o.hW.length]; exact o.hn
theorem kit_self {K : PySem.W.Frag} {C : Addr} : kitOne K (.ref C) (.ref C) = some true := by
  unfold kitOne
  rw [if_pos (by simp)]
section
variable {P : Program} {w : World} {K : PySem.W.Frag} {mg : Str → Option Value} {base : Heap} {a : Nat → Addr × FuncData} {c : Nat → Addr}
theorem ty_disk (Z : Wd K mg a c) {H : Hp} {d dx : Addr} {fs : List (Str × V)} (h : H d = some (.ins (c 8) dx fs)) : TyE K H (.ref d) (.ref (c 8)) := .x (.base (.ins h Z.cl Z.dcC Z.eb.gcn Z.eb.tkn Z.dmo))
theorem range_T (T : List Str) : ((List.range T.length).map fun i => V.str (T.getD i "")) = T.map V.str := by
  apply List.ext_getElem?
  intro j
  rw [List.getElem?_map, List.getElem?_map]
  by_cases hj : j < T.length
  · rw [List.getElem?_range hj, List.getElem?_eq_getElem hj]
    simp [List.getD_eq_getElem?_getD, List.getElem?_eq_getElem hj]
  · have e1 : (List.range T.length)[j]? = none := List.getElem?_eq_none (by rw [List.length_range]; omega)
    have e2 : T[j]? = none := List.getElem?_eq_none (by omega)
    rw [e1, e2]; rfl
def sp_state_right (c : Nat → Addr) : Sp := fun vs H Q _ => ∃ (d s : Addr) (bn : Bool) (p w : Int) (n : Nat) (x : Pr), vs = [.ref d, .ref s, .bl bn] ∧ Led H (cel c d s p w x) ∧ Ok H p w n x ∧ n ≤ 8000 ∧ ∀ H', Chg [] H H' [] → Q (.bl true) H'
theorem ok_law_state_right (Z : Wd K mg a c) : FnG false P w K mg base 5 (a 42).1 (a 42).2 ["disk", "state", "by_name"] (sp_state_right c) := by
  refine fun_okG Z.g_law_state_right.fn sc_law_state_right (fun vs H Q E h => ?_) (fun cdv A outer s H vs Q E hr h => ?_)
  · obtain ⟨d, s, bn, p, w, n, x, rfl, _⟩ := h; rfl
  · obtain ⟨d, s, bn, p, w, n, x, rfl, L, o, hn, h⟩ := h
    refine ⟨_, (pss_cons (ps_if (PW.pt (pw_or (pt_not (pt_val (pe_callB (c_isi Z.eb) (by rfl) Z.n_isinstance bt_isinstance (pa_cons (qv 0) (pa_cons (pe_glob (v := .ref (c 8)) (by rfl) Z.mg_Disk rfl) pa_nil))))) (pw_or1 (pt_cmpR (o_ne hr.u64) (pe_callB (c_reprK K rfl hr.u64 hr.gd) (by rfl) Z.n_repr bt_repr (pa_cons (pe_lst (pa_cons (q_fld Z.cl Z.a_pages (qv 0)) (pa_cons (q_fld Z.cl Z.a_width (qv 0)) pa_nil))) pa_nil)) (pe_callB (c_reprK K rfl hr.u64 hr.gd) (by rfl) Z.n_repr bt_repr (pa_cons (pe_slice sl_d (qv 1) po_none (po_some pe_int)) pa_nil)) (nomark _))))) (pss_one (ps_ret pe_bl)) pss_nil)
      (pss_cons (ps_setLc (i := 3) (own := [("page", 4)]) (by rfl) sc_law_state_right.nd rfl rfl (sw_true rfl rfl rfl (by decide +kernel)) (pi_range1 (by rfl) Z.n_range (pa_cons (pe_ix ix_d (qv 1) pe_int (fun _ _ => rfl)) pa_nil)) (blkOk_by (N := ["disk", "state", "by_name", "told", "page"]) (sc := defScope s_law_state_right) (by decide +kernel)) (fun _ _ _ _ _ => (pg_name (i := 4) sc_law_state_right.nd rfl (Or.inl rfl))) (fun _ _ _ _ _ => pts_nil) (fun _ _ _ _ _ => (pe_ifExp (pt_val (qv 2)) (q_methK Z.m_read (kb_read Z) (ok_Disk_read Z) (hr.mono (by decide)) takes0 (qv 0) (pk_cons (qv 4) pk_nil)) (q_meth Z.m_read (ok_Disk_read Z) (hr.mono (by decide)) takes0 (qv 0) (pa_cons (qv 4) pa_nil)))))
      (pss_one (ps_ret (pe_and (pe_cmpR (o_eq hr.u64) (pe_callB (c_reprK K rfl hr.u64 hr.gd) (by rfl) Z.n_repr bt_repr (pa_cons (qv 3) pa_nil)) (pe_callB (c_reprK K rfl hr.u64 hr.gd) (by rfl) Z.n_repr bt_repr (pa_cons (pe_ix ix_d (qv 1) pe_int (fun _ _ => rfl)) pa_nil)) (nomark _)) (pe_one (pe_cmpR (o_eq hr.u64) (pe_callB (c_reprK K rfl hr.u64 hr.gd) (by rfl) Z.n_repr bt_repr (pa_cons (q_meth0 Z.m_loose (ok_Disk_loose Z) (hr.mono (by decide)) takes0 (qv 0)) pa_nil)) (pe_callB (c_reprK K rfl hr.u64 hr.gd) (by rfl) Z.n_repr bt_repr (pa_cons (pe_ix ix_d (qv 1) pe_int (fun _ _ => rfl)) pa_nil)) (nomark _)))))))), ?_⟩
    have C0 : Chg [] H H [] := .of .nil
    have hd := L.at 0 rfl
    have hs := L.at 3 rfl
    refine ⟨_, _, _, .own _, ty_disk Z hd, kit_self, _, rfl, _, _, hd, _, lk_pages, _, _, hd, _, lk_width, leS rfl, fun r1 n1 => ?_⟩
    have C1 := C0.add (o := .lst [.int p, .int w]) n1
    have f2 : ∀ y ∈ [V.int p, V.int w], fl y := fun y hy => by
      have := o.p3
      have := o.p40
      have := o.w20
      have := o.w400
      rcases List.mem_cons.mp hy with e | e
      · subst e; exact fli (log_small (by omega))
      · exact fl1 (fli (log_small (by omega))) y e
    refine ⟨_, RpZ.lstF (C1.at 0 rfl) f2 (by simp), _, rfl, _, keepAll C1 _ _ hs, fun r2 n2 => ?_⟩
    have C2 := C1.add (o := .lst [.int p, .int w]) n2
    refine ⟨_, RpZ.lstF (C2.at 0 rfl) f2 (by simp), rfl, _, rfl, ?_⟩
    refine itN (by rw [decide_eq_true rfl]; rfl) ?_
    have k2 := keepAll C2
    refine ⟨_, k2 _ _ hs, _, atI_of 0 rfl rfl, _, rfl, by have := o.p3; omega, by have := o.p40; omega, fun D hD => ?_⟩
    have C2' : Chg [] H _ [] := C2.sub (List.nil_sublist _)
    refine lc_fn walk_range (fun i => V.str (x.T.getD i "")) hD C2' (by rw [sizeLine_eq]; have := o.p40; omega) (fun _ _ _ => ⟨⟩) ?_ ?_
    · rintro i y H1' H1 acc Qk hi C ⟨rfl, rfl⟩ q
      refine ⟨rfl, ?_⟩
      have hi' : i < x.T.length := by have := o.hT; omega
      have e : x.T[i]? = some (x.T.getD i "") := by rw [List.getD_eq_getElem?_getD, List.getElem?_eq_getElem hi']; rfl
      have kk := keepAll C
      have hd1 := kk _ _ hd
      have ht1 := kk _ _ (L.at 1 rfl)
      refine ⟨bn, rfl, ?_⟩
      cases bn
      case' false => refine ⟨⟨_, _, hd1, lk_none _ (by simp)⟩, ?_⟩
      case' true => refine ⟨⟨_, _, hd1, lk_none _ (by simp)⟩, rfl, ?_⟩
      all_goals
        refine ⟨d, _, _, _, p, w, _, _, _, _, x.T, rfl, hd1, ht1, o.hT, .int _, fun hb => ?_, fun j ej z hz => ?_⟩
        · have : ixB (.int (0 + (i : Int))) p = true := by
            simp only [ixB, Bool.and_eq_true, decide_eq_true_eq]
            have := o.hT
            omega
          rw [this] at hb; cases hb
        · have ej := V.int.inj ej
          have : j = i := by omega
          subst this
          rw [e] at hz
          cases hz
          exact q _ C
    · intro H1 C3
      have eT : p.toNat = x.T.length := by have := o.hT; omega
      rw [eT, range_T] at C3
      have k3 := keepAll C3
      have fT : ∀ y ∈ x.T.map V.str, fl y := fun y hy => by
        obtain ⟨z, hz, rfl⟩ := List.mem_map.mp hy
        have := o.hP z hz
        exact ⟨this.1.asc, by omega⟩
      have lT : (x.T.map V.str).length ≤ 40 := by rw [List.length_map]; have := o.p40; have := o.hT; omega
      refine ⟨_, RpZ.lstF (C3.at 0 rfl) fT lT, _, k3 _ _ hs, _, atI_of 2 rfl rfl, _, RpZ.lstF (k3 _ _ (L.at 4 rfl)) fT lT, rfl, _, rfl, ?_⟩
      refine itP (decide_eq_true rfl) ?_
      have hWl : x.W.length ≤ 10000 := by have := o.hn; omega
      refine ⟨⟨_, _, k3 _ _ hd, lk_none _ (by simp)⟩, d, _, p, w, _, _, _, _, x.R, x.W, rfl, k3 _ _ hd, k3 _ _ (L.at 2 rfl), o.hW.up C3.fix, hWl, fun l H4 C4 => ?_⟩
      have C5 := C3.and C4
      have k5 := keepAll C5
      have fW : ∀ y ∈ x.W.map (fun w => V.int w.1), ∃ i : Int, y = .int i ∧ i.natAbs < 2 ^ 200 := fun y hy => by
        obtain ⟨z, hz, rfl⟩ := List.mem_map.mp hy
        have := o.hw z hz
        have := o.p40
        exact ⟨_, rfl, by omega⟩
      have lW : (x.W.map (fun w => V.int w.1)).length ≤ 8000 := by rw [List.length_map]; have := o.hn; omega
      refine ⟨_, RpZ.ints (C5.at 0 rfl) fW lW, _, k5 _ _ hs, _, atI_of 3 rfl rfl, _, RpZ.ints (k5 _ _ (L.at 5 rfl)) fW lW, rfl, ?_⟩
      rw [decide_eq_true rfl]
      exact h _ (C5.sub (List.nil_sublist _))
end
end Ks

/-! KsQ: the law's deeds. -/
namespace Ks
open PySem PySem.Spec PyProof.Rows L2 PySem.W
abbrev boolD (x : Str) (b : Bool) : PyData := .list [.str x, .bool b]
theorem rs_dp {K : PySem.W.Frag} {H : Hp} {r : Addr} {x : Str} {b : Bool} (h : H r = some (.lst [.str x, .bl b])) : Dp K H (.ref r) (boolD x b) := .lst (.of h) (.cons (.str _) (.cons (.bl _) .nil))
theorem ev_cut : SeqAt.shaped (boolD "cut" true) = true ∧ PyData.eqv (boolD "cut" true) (boolD "cut" true) = true := by decide +kernel
theorem ev_page : SeqAt.shaped (boolD "page" true) = true ∧ PyData.eqv (boolD "page" true) (boolD "page" true) = true := by decide +kernel
theorem ev_text : SeqAt.shaped (boolD "text" true) = true ∧ PyData.eqv (boolD "text" true) (boolD "text" true) = true := by decide +kernel
theorem ev_count : SeqAt.shaped (boolD "count" true) = true ∧ PyData.eqv (boolD "count" true) (boolD "count" true) = true := by decide +kernel
theorem ev_pages : SeqAt.shaped (boolD "pages" true) = true ∧ PyData.eqv (boolD "pages" true) (boolD "pages" true) = true := by decide +kernel
theorem ev_width : SeqAt.shaped (boolD "width" true) = true ∧ PyData.eqv (boolD "width" true) (boolD "width" true) = true := by decide +kernel
theorem ev_done : SeqAt.shaped (boolD "done" true) = true ∧ PyData.eqv (boolD "done" true) (boolD "done" true) = true := by decide +kernel
section
variable {P : Program} {w : World} {K : PySem.W.Frag} {mg : Str → Option Value} {base : Heap} {a : Nat → Addr × FuncData} {c : Nat → Addr}
def sp_write_right (c : Nat → Addr) : Sp := fun vs H Q _ => ∃ (b d s : Addr) (bn : Bool) (p w : Int) (n m : Nat) (x : Pr) (o : HO), vs = [.ref b, .ref d, .ref s, .bl bn] ∧ Led H ((b, o) :: cel c d s p w x) ∧ Bx n o ∧ n ≤ 800000000 ∧ Ok H p w m x ∧ m ≤ 7000 ∧
  ∀ o' x' H', Bx (n + 10) o' → Ok H' p w (m + 1) x' → Chg (((b, o) :: cel c d s p w x).map (·.1)) H H' ((b, o') :: cel c d s p w x') → Q (.bl true) H'
theorem ok_law_write_right (Z : Wd K mg a c) : FnG false P w K mg base 6 (a 43).1 (a 43).2 ["box", "disk", "state", "by_name"] (sp_write_right c) := by
  refine fun_okG Z.g_law_write_right.fn sc_law_write_right (fun vs H Q E h => ?_) (fun cdv A outer s H vs Q E hr h => ?_)
  · obtain ⟨b, d, s, bn, p, w, n, m, x, o, rfl, _⟩ := h; rfl
  · obtain ⟨b, d, s, bn, p, w, n, m, x, o, rfl, L, bx, hn, ok, hm, h⟩ := h
    refine ⟨_, (pss_cons (ps_par (i := 4) (j := 5) (by rfl) sc_law_write_right.nd rfl rfl (by decide) rfl rfl (pa_cons (q_call Z.g_law_take (ok_law_take Z) (hr.mono (by decide)) takes0 (pa_cons (qv 0) (pa_cons (pe_ix ix_d (qv 2) pe_int (fun _ _ => rfl)) pa_nil))) (pa_cons (q_call Z.g_law_good_text (ok_law_good_text Z) (hr.mono (by decide)) takes0 (pa_cons (qv 0) (pa_cons (pe_ix ix_d (qv 2) pe_int (fun _ _ => rfl)) pa_nil))) pa_nil)) rfl)
      (pss_cons (ps_set (i := 6) sc_law_write_right.nd rfl (Or.inl rfl) (q_call Z.g_law_let (ok_law_let Z) (hr.mono (by decide)) takes0 (pa_cons (qv 2) pa_nil)))
      (pss_cons (ps_if (pt_val (qv 6)) (pss_cons (ps_asg (qv 5) (pg_sub (pe_ix ix_d (qv 2) pe_int (fun _ _ => rfl)) (qv 4) set_d))
      (pss_one (ps_expr (q_lm PySem.F.slot_list_append PySem.F.type_list_append m_append (pe_ix ix_d (qv 2) pe_int (fun _ _ => rfl)) (pa_cons (qv 4) pa_nil))))) pss_nil)
      (pss_cons (ps_set (i := 7) sc_law_write_right.nd rfl (Or.inl rfl) (q_call Z.g_law_write (ok_law_write Z) (hr.mono (by decide)) takes0 (pa_cons (qv 1) (pa_cons (qv 4) (pa_cons (qv 5) (pa_cons (qv 3) pa_nil))))))
      (pss_one (ps_ret (pe_ifExp (pt_val (qv 6)) (pe_and (pe_cmpR (o_eq hr.u64) (pe_ix ix_d (qv 7) pe_int (fun _ _ => rfl)) pe_str (nomark _)) (pe_one (pe_cmpR o_is (pe_ix ix_d (qv 7) pe_int (fun _ _ => rfl)) pe_non (nomark _)))) (pe_cmpR (o_eq hr.u64) (qv 7) (pe_lst (pa_cons pe_str (pa_cons pe_bl pa_nil))) (nomark _))))))))), ?_⟩
    have p3 := ok.p3
    have p40 := ok.p40
    have w20 := ok.w20
    have w400 := ok.w400
    have C0 := Chg.of L
    refine ⟨_, C0.at 4 rfl, _, atI_of 0 rfl rfl, b, o, n, p, rfl, C0.at 0 rfl, bx, by omega, by omega, by omega, fun i o1 H1 i0 i1 bx1 D1 => ?_⟩
    have C1 := C0.call [0] D1
    refine ⟨_, C1.at 4 rfl, _, atI_of 1 rfl rfl, b, o1, n + 1, w, rfl, C1.at 0 rfl, bx1, by omega, w20, w400, fun z o2 H2 lz pz bx2 D2 => ⟨_, _, rfl, ?_⟩⟩
    have C2 := C1.call [0] D2
    obtain ⟨i, rfl⟩ : ∃ j : Nat, i = j := ⟨i.toNat, by omega⟩
    have hix : ixB (.int (i : Int)) p = true := by simp only [ixB, Bool.and_eq_true, decide_eq_true_eq]; omega
    have hpg : pgV (.str z) w = true := pgT_ok pz lz
    have hz : z.length ≤ 400 := by omega
    refine ⟨s, p, w, x.tx, x.kp, x.lf, rfl, C2.at 4 rfl, fun e0 => ?_, fun e0 H3 D3 => ?_⟩
    · refine ⟨false, rfl, ?_⟩
      refine ⟨d, x.dx, .int i, .str z, _, _, [], [], bn, p, w, x.la, x.te, x.wr, x.lf, x.T, x.R, rfl, (C2.pick [1, 2, 3]).led, ok.hT, by omega, by have := ok.hR; omega, .int _ (log_small (by omega)), .str _ pz.asc (by omega),
        fun e => by (rw [hix] at e; cases e), fun _ e => by (rw [hpg] at e; cases e), fun _ _ _ r H3 D3 => ?_, fun _ _ _ _ _ _ e => absurd e0 e⟩
      have C3 := C2.and D3
      refine ⟨false, rfl, leS rfl, fun l hl => ?_⟩
      have C4 := C3.add (o := .lst [.str "cut", .bl true]) hl
      refine ⟨_, _, rs_dp (C4.at 1 rfl), rs_dp (C4.at 0 rfl), ev_cut.1, ev_cut.1, ?_⟩
      rw [ev_cut.2]
      exact h o2 x _ (bx2.le (by omega)) (ok.up C4.fix) ((C4.pick [2, 3, 4, 5, 6, 7, 8]).to (by rfl))
    · refine ⟨true, rfl, ?_⟩
      have C3 := C2.call [4] D3
      have hi' : i < x.T.length := by have := ok.hT; omega
      refine ⟨_, C3.at 0 rfl, _, atI_of 2 rfl rfl, _, i, C3.at 5 rfl, ixN_nat (by rw [List.length_map]; exact hi'), ?_⟩
      have C4 := C3.set 5 (o' := .lst ((x.T.map V.str).set i (.str z))) rfl
      refine ⟨_, C4.at 0 rfl, _, atI_of 3 rfl rfl, ⟨_, C4.at 6 rfl⟩, _, C4.at 6 rfl, by rw [List.length_map, sizeLine_eq]; have := ok.hn; omega, ?_⟩
      have C5 := C4.set 6 (o' := .lst (x.W.map (fun w => V.int w.1) ++ [V.int i])) rfl
      refine ⟨d, x.dx, .int i, .str z, _, _, [], [], bn, p, w, x.la, x.te, x.wr, x.lf, x.T, x.R, rfl, (C5.pick [2, 3, 4]).led, ok.hT, by omega, by have := ok.hR; omega, .int _ (log_small (by omega)), .str _ pz.asc (by omega),
        fun e => by (rw [hix] at e; cases e), fun _ e => by (rw [hpg] at e; cases e), fun _ _ e => absurd e e0, fun j y ej _ ey _ _ r q H6 D6 => ?_⟩
      have ej := V.int.inj ej
      have ej : i = j := by omega
      cases ej
      cases ey
      have C6 := C5.call [2, 3, 4] D6
      refine ⟨true, rfl, _, C6.at 0 rfl, _, atI_of 0 rfl rfl, rfl, _, rfl, itP (decide_eq_true rfl) ?_⟩
      refine ⟨_, C6.at 0 rfl, _, atI_of 1 rfl rfl, rfl, ?_⟩
      have W6 : Wrs H6 x.R x.W := ok.hW.up C6.fix
      refine h o2 { x with lf := x.lf.map (· - 1), T := x.T.set i z, R := x.R ++ [q], W := x.W ++ [((i : Int), z)] } _ (bx2.le (by omega)) ⟨p3, p40, w20, w400, ?_, ?_, W6.app (C6.at 4 rfl), ?_, ?_⟩ ((C6.pick [6, 1, 2, 3, 5, 7, 8]).to ?_)
      · show ((x.T.set i z).length : Int) = p
        rw [List.length_set]; exact ok.hT
      · intro y hy
        rcases List.mem_or_eq_of_mem_set hy with q | q
        · exact ok.hP y q
        · rw [q]; exact ⟨pz, hz⟩
      · intro y hy
        rcases List.mem_append.mp hy with q | q
        · exact ok.hw y q
        · rw [List.mem_singleton] at q
          subst q
          exact ⟨by omega, i1⟩
      · show (x.W ++ [((i : Int), z)]).length ≤ m + 1
        rw [List.length_append]
        have := ok.hn
        show x.W.length + 1 ≤ _
        omega
      · show _ = [(b, o2), (d, _), (x.te, HO.lst ((x.T.set i z).map V.str)), (x.wr, _), (s, _), (x.tx, HO.lst ((x.T.set i z).map V.str)), (x.kp, HO.lst ((x.W ++ [((i : Int), z)]).map fun w => V.int w.1))]
        simp only [List.map_append, List.map_set]
        rfl
end
end Ks

/-! KsR: more of the law's deeds. -/
namespace Ks
open PySem PySem.Spec PyProof.Rows L2 PySem.W
section
variable {P : Program} {w : World} {K : PySem.W.Frag} {mg : Str → Option Value} {base : Heap} {a : Nat → Addr × FuncData} {c : Nat → Addr}
def sp_settle_right (c : Nat → Addr) : Sp := fun vs H Q _ => ∃ (d s : Addr) (p w : Int) (m : Nat) (x : Pr), vs = [.ref d, .ref s] ∧ Led H (cel c d s p w x) ∧ Ok H p w m x ∧
  ∀ x' H', Ok H' p w m x' → Chg ((cel c d s p w x).map (·.1)) H H' (cel c d s p w x') → Q (.bl true) H'
theorem ok_law_settle_right (Z : Wd K mg a c) : FnG false P w K mg base 6 (a 44).1 (a 44).2 ["disk", "state"] (sp_settle_right c) := by
  refine fun_okG Z.g_law_settle_right.fn sc_law_settle_right (fun vs H Q E h => ?_) (fun cdv A outer s H vs Q E hr h => ?_)
  · obtain ⟨d, s, p, w, m, x, rfl, _⟩ := h; rfl
  · obtain ⟨d, s, p, w, m, x, rfl, L, ok, h⟩ := h
    refine ⟨_, (pss_cons (ps_set (i := 2) sc_law_settle_right.nd rfl (Or.inl rfl) (q_call Z.g_law_let (ok_law_let Z) (hr.mono (by decide)) takes0 (pa_cons (qv 1) pa_nil)))
      (pss_cons (ps_if (pt_val (qv 2)) (pss_one (ps_asg (pe_lst pa_nil) (pg_sub (qv 1) pe_int set_d))) pss_nil)
      (pss_cons (ps_set (i := 3) sc_law_settle_right.nd rfl (Or.inl rfl) (q_call Z.g_law_settle (ok_law_settle Z) (hr.mono (by decide)) takes0 (pa_cons (qv 0) pa_nil)))
      (pss_one (ps_ret (pe_ifExp (pt_val (qv 2)) (pe_and (pe_cmpR (o_eq hr.u64) (pe_ix ix_d (qv 3) pe_int (fun _ _ => rfl)) pe_str (nomark _)) (pe_one (pe_cmpR o_is (pe_ix ix_d (qv 3) pe_int (fun _ _ => rfl)) pe_non (nomark _)))) (pe_cmpR (o_eq hr.u64) (qv 3) (pe_lst (pa_cons pe_str (pa_cons pe_bl pa_nil))) (nomark _)))))))), ?_⟩
    have C0 := Chg.of L
    refine ⟨s, p, w, x.tx, x.kp, x.lf, rfl, C0.at 3 rfl, fun e0 => ?_, fun e0 H3 D3 => ?_⟩
    · refine ⟨false, rfl, ?_⟩
      refine ⟨d, x.dx, p, w, x.la, x.te, x.wr, x.lf, x.T, rfl, (C0.pick [0, 1]).led, fun _ r H3 D3 => ?_, fun e => absurd e0 e⟩
      have C3 := C0.and D3
      refine ⟨false, rfl, leS rfl, fun l hl => ?_⟩
      have C4 := C3.add (o := .lst [.str "cut", .bl true]) hl
      refine ⟨_, _, rs_dp (C4.at 1 rfl), rs_dp (C4.at 0 rfl), ev_cut.1, ev_cut.1, ?_⟩
      rw [ev_cut.2]
      exact h x _ (ok.up C4.fix) ((C4.pick [2, 3, 4, 5, 6, 7]).to (by rfl))
    · refine ⟨true, rfl, leS rfl, fun kp hkp => ?_⟩
      have C3 := (C0.call [3] D3).add (o := .lst []) hkp
      refine ⟨_, 3, C3.at 1 rfl, rfl, ?_⟩
      have C4 := C3.set 1 (o' := .lst [.int p, .int w, .ref x.tx, .ref kp, lfV (x.lf.map (· - 1))]) rfl
      refine ⟨d, x.dx, p, w, x.la, x.te, x.wr, x.lf, x.T, rfl, (C4.pick [2, 3]).led, fun e => absurd e e0, fun _ r la wr H5 D5 => ?_⟩
      have C5 := C4.call [2] D5
      refine ⟨true, rfl, _, C5.at 0 rfl, _, atI_of 0 rfl rfl, rfl, _, rfl, itP (decide_eq_true rfl) ?_⟩
      refine ⟨_, C5.at 0 rfl, _, atI_of 1 rfl rfl, rfl, ?_⟩
      refine h { x with lf := x.lf.map (· - 1), la := la, wr := wr, kp := kp, R := [], W := [] } _ ⟨ok.p3, ok.p40, ok.w20, ok.w400, ok.hT, ok.hP, .nil, fun y hy => (nomatch hy), Nat.zero_le _⟩ ((C5.pick [1, 6, 3, 5, 8, 4]).to (by rfl))
def sp_stop_right (c : Nat → Addr) : Sp := fun vs H Q _ => ∃ (d s : Addr) (p w : Int) (m : Nat) (x : Pr) (lf : Option Nat) (bn : Bool), vs = [.ref d, .ref s, lfV lf, .bl bn] ∧ Led H (cel c d s p w x) ∧ Ok H p w m x ∧ (∀ n, lf = some n → n < 2 ^ 200) ∧
  ∀ H', Chg ((cel c d s p w x).map (·.1)) H H' (cel c d s p w { x with lf := lf }) → Q (.bl true) H'
theorem ok_law_stop_right (Z : Wd K mg a c) : FnG false P w K mg base 5 (a 45).1 (a 45).2 ["disk", "state", "count", "by_name"] (sp_stop_right c) := by
  refine fun_okG Z.g_law_stop_right.fn sc_law_stop_right (fun vs H Q E h => ?_) (fun cdv A outer s H vs Q E hr h => ?_)
  · obtain ⟨d, s, p, w, m, x, lf, bn, rfl, _⟩ := h; rfl
  · obtain ⟨d, s, p, w, m, x, lf, bn, rfl, L, ok, hl, h⟩ := h
    refine ⟨_, (pss_cons (ps_asg (qv 2) (pg_sub (qv 1) pe_int set_d))
      (pss_cons (ps_set (i := 4) sc_law_stop_right.nd rfl (Or.inl rfl) (q_call Z.g_law_stop (ok_law_stop Z) (hr.mono (by decide)) takes0 (pa_cons (qv 0) (pa_cons (qv 2) (pa_cons (qv 3) pa_nil)))))
      (pss_one (ps_ret (pe_and (pe_cmpR (o_eq hr.u64) (pe_ix ix_d (qv 4) pe_int (fun _ _ => rfl)) pe_str (nomark _)) (pe_one (pe_cmpR o_is (pe_ix ix_d (qv 4) pe_int (fun _ _ => rfl)) pe_non (nomark _)))))))), ?_⟩
    have C0 := Chg.of L
    refine ⟨_, 4, C0.at 3 rfl, rfl, ?_⟩
    have C1 := C0.set 3 (o' := .lst [.int p, .int w, .ref x.tx, .ref x.kp, lfV lf]) rfl
    have hct : ctB (lfV lf) = true := by
      cases lf with
      | none => rfl
      | some n =>
        show decide ((0 : Int) ≤ (n : Int)) = true
        exact decide_eq_true (by omega)
    have hb : ∃ k, Bg (upd H s (.lst [.int p, .int w, .ref x.tx, .ref x.kp, lfV lf])) (lfV lf) k [] := by
      cases lf with
      | none => exact ⟨_, .non⟩
      | some n => exact ⟨_, .int _ (log_small (by have := hl n rfl; omega))⟩
    obtain ⟨k, hb⟩ := hb
    refine ⟨d, x.dx, lfV lf, k, [], bn, p, w, x.la, x.te, x.wr, lfV x.lf, rfl, C1.at 0 rfl, hb, fun e => by (rw [hct] at e; cases e), fun _ r H2 D2 => ?_⟩
    have C2 := C1.call [0] D2
    refine ⟨_, C2.at 0 rfl, _, atI_of 0 rfl rfl, rfl, _, rfl, itP (decide_eq_true rfl) ?_⟩
    refine ⟨_, C2.at 0 rfl, _, atI_of 1 rfl rfl, rfl, ?_⟩
    exact h _ ((C2.pick [1, 2, 3, 4, 5, 6]).to (by rfl))
def sp_loose_right (c : Nat → Addr) : Sp := fun vs H Q _ => ∃ (b d s : Addr) (p w : Int) (n m : Nat) (x : Pr) (o : HO), vs = [.ref b, .ref d, .ref s] ∧ Led H ((b, o) :: cel c d s p w x) ∧ Bx n o ∧ n ≤ 800000000 ∧ Ok H p w m x ∧ m ≤ 7000 ∧
  ∀ o' H', Bx (n + 1) o' → Chg [b] H H' [(b, o')] → Q (.bl true) H'
theorem ok_law_loose_right (Z : Wd K mg a c) : FnG false P w K mg base 2 (a 46).1 (a 46).2 ["box", "disk", "state"] (sp_loose_right c) := by
  refine fun_okG Z.g_law_loose_right.fn sc_law_loose_right (fun vs H Q E h => ?_) (fun cdv A outer s H vs Q E hr h => ?_)
  · obtain ⟨b, d, s, p, w, n, m, x, o, rfl, _⟩ := h; rfl
  · obtain ⟨b, d, s, p, w, n, m, x, o, rfl, L, bx, hn, ok, hm, h⟩ := h
    refine ⟨_, (pss_cons (ps_par (i := 3) (j := 4) (by rfl) sc_law_loose_right.nd rfl rfl (by decide) rfl rfl (pa_cons (q_meth0 Z.m_loose (ok_Disk_loose Z) (hr.mono (by decide)) takes0 (qv 1)) (pa_cons (q_call Z.g_law_take (ok_law_take Z) (hr.mono (by decide)) takes0 (pa_cons (qv 0) (pa_cons pe_int pa_nil))) pa_nil)) rfl)
      (pss_cons (ps_if (PW.pt (pw_or (pt_not (pt_val (pe_callB (c_isi Z.eb) (by rfl) Z.n_isinstance bt_isinstance (pa_cons (qv 3) (pa_cons (pe_bltn (v := .ty "list") (by rfl) Z.n_list bt_list rfl) pa_nil))))) (pw_or1 (pt_cmpR (o_ne hr.u64) (pe_callB (c_reprK K rfl hr.u64 hr.gd) (by rfl) Z.n_repr bt_repr (pa_cons (qv 3) pa_nil)) (pe_callB (c_reprK K rfl hr.u64 hr.gd) (by rfl) Z.n_repr bt_repr (pa_cons (pe_ix ix_d (qv 2) pe_int (fun _ _ => rfl)) pa_nil)) (nomark _))))) (pss_one (ps_ret pe_bl)) pss_nil)
      (pss_cons (ps_if (pt_cmpR (o_eq hr.u64) (qv 4) pe_int (nomark _)) (pss_one (ps_expr (q_lm0 PySem.F.slot_list_clear PySem.F.type_list_clear m_clear (qv 3)))) (pss_one (ps_if (pt_cmpR (o_eq hr.u64) (qv 4) pe_int (nomark _)) (pss_one (ps_expr (q_lm PySem.F.slot_list_insert PySem.F.type_list_insert m_insert (qv 3) (pa_cons pe_int (pa_cons pe_int pa_nil))))) (pss_one (ps_if (pt_cmpR (o_eq hr.u64) (qv 4) pe_int (nomark _)) (pss_one (ps_expr (q_lm0 PySem.F.slot_list_reverse PySem.F.type_list_reverse m_reverse (qv 3)))) (pss_one (ps_expr (q_lm PySem.F.slot_list_append PySem.F.type_list_append m_append (qv 3) (pa_cons pe_int pa_nil)))))))))
      (pss_one (ps_ret (pe_cmpR (o_eq hr.u64) (pe_callB (c_reprK K rfl hr.u64 hr.gd) (by rfl) Z.n_repr bt_repr (pa_cons (q_meth0 Z.m_loose (ok_Disk_loose Z) (hr.mono (by decide)) takes0 (qv 1)) pa_nil)) (pe_callB (c_reprK K rfl hr.u64 hr.gd) (by rfl) Z.n_repr bt_repr (pa_cons (pe_ix ix_d (qv 2) pe_int (fun _ _ => rfl)) pa_nil)) (nomark _))))))), ?_⟩
    have p40 := ok.p40
    have hWl : x.W.length ≤ 10000 := by have := ok.hn; omega
    have fW : ∀ y ∈ x.W.map (fun w => V.int w.1), ∃ i : Int, y = .int i ∧ i.natAbs < 2 ^ 200 := fun y hy => by
      obtain ⟨z, hz, rfl⟩ := List.mem_map.mp hy
      have := ok.hw z hz
      exact ⟨_, rfl, by omega⟩
    have lW : (x.W.map (fun w => V.int w.1)).length ≤ 8000 := by rw [List.length_map]; have := ok.hn; omega
    have C0 : Chg [b] H H [(b, o)] := .of (.one (L.at 0 rfl))
    -- what stands beside the box stays
    have ne : ∀ i q, i ≠ 0 → ((b, o) :: cel c d s p w x)[i]? = some q → q.1 ∉ [b] := fun i q hi hq e => by
      rw [List.mem_singleton] at e
      exact hi (nd_at L.nd (a := q.1) (b := b) (o := q.2) (u := o) hq rfl e)
    refine ⟨⟨_, _, L.at 1 rfl, lk_none _ (by simp)⟩, d, x.dx, p, w, x.la, x.te, x.wr, lfV x.lf, x.R, x.W, rfl, L.at 1 rfl, L.at 3 rfl, ok.hW, hWl, fun l H1 D1 => ?_⟩
    have C1 := C0.and D1
    refine ⟨b, o, n, 4, rfl, C1.at 1 rfl, bx, by omega, by decide, by decide, fun way o1 H2 y0 y1 bx1 D2 => ⟨_, _, rfl, ?_⟩⟩
    have C2 := C1.call [1] D2
    have keep : ∀ {M : Cells} {H' : Hp} (i : Nat) (q : Addr × HO), Chg [b] H H' M → i ≠ 0 → ((b, o) :: cel c d s p w x)[i]? = some q → H' q.1 = some q.2 := fun {M H'} i q C hi hq => C.keep _ _ (ne i q hi hq) (L.at i hq)
    refine ⟨_, _, _, .ty _, .x (.base (.lst (C2.at 1 rfl))), kit_list .lst, _, rfl, ?_⟩
    have hs2 := keep 4 _ C2 (by decide) rfl
    have hk2 := keep 6 _ C2 (by decide) rfl
    refine ⟨_, RpZ.ints (C2.at 1 rfl) fW lW, _, hs2, _, atI_of 3 rfl rfl, _, RpZ.ints hk2 fW lW, rfl, _, rfl, ?_⟩
    refine itN (by rw [decide_eq_true rfl]; rfl) ?_
    have fin : ∀ {H3 : Hp} {xs : List V}, Chg [b] H H3 [(l, .lst xs), (b, o1)] →
        tRet (tOp (rEqA K) (tCB (r1D (kRepr K)) (tCons (tMt (c 8) "loose" (sp_loose c) (fun _ _ _ _ => False) (tV 1) tNil) tNil)) (tCB (r1D (kRepr K)) (tCons (tOp rIxD (tV 2) (tC (.int 3))) tNil)))
          { nx := fun _ H' => Q .non H', rt := Q } ((((L2.start ["box", "disk", "state", "told", "way"] [.ref b, .ref d, .ref s]).set 3 (some (.ref l))).set 4 (some (.int way)))) H3 := fun {H3 xs} C3 => by
      refine ⟨⟨_, _, keep 1 _ C3 (by decide) rfl, lk_none _ (by simp)⟩, d, x.dx, p, w, x.la, x.te, x.wr, lfV x.lf, x.R, x.W, rfl, keep 1 _ C3 (by decide) rfl, keep 3 _ C3 (by decide) rfl, ok.hW.up C3.fix, hWl, fun l2 H4 D4 => ?_⟩
      have C4 := C3.and D4
      refine ⟨_, RpZ.ints (C4.at 0 rfl) fW lW, _, keep 4 _ C4 (by decide) rfl, _, atI_of 3 rfl rfl, _, RpZ.ints (keep 6 _ C4 (by decide) rfl) fW lW, rfl, ?_⟩
      rw [decide_eq_true rfl]
      exact h o1 _ bx1 (C4.pick [2])
    have C3 := C2.pick [1, 0]
    refine ⟨rfl, _, rfl, ?_⟩
    by_cases q0 : way = 0
    · refine itP (decide_eq_true (by rw [q0])) ?_
      exact ⟨⟨_, C3.at 0 rfl⟩, _, C3.at 0 rfl, fin (C3.set 0 rfl)⟩
    · refine itN (decide_eq_false (fun e => q0 (V.int.inj e))) ?_
      refine ⟨rfl, _, rfl, ?_⟩
      by_cases q1 : way = 1
      · refine itP (decide_eq_true (by rw [q1])) ?_
        exact ⟨⟨_, C3.at 0 rfl⟩, _, C3.at 0 rfl, ⟨by rw [sizeLine_eq]; omega, by decide, by decide⟩, fin (C3.set 0 rfl)⟩
      · refine itN (decide_eq_false (fun e => q1 (V.int.inj e))) ?_
        refine ⟨rfl, _, rfl, ?_⟩
        by_cases q2 : way = 2
        · refine itP (decide_eq_true (by rw [q2])) ?_
          exact ⟨⟨_, C3.at 0 rfl⟩, _, C3.at 0 rfl, fin (C3.set 0 rfl)⟩
        · refine itN (decide_eq_false (fun e => q2 (V.int.inj e))) ?_
          exact ⟨⟨_, C3.at 0 rfl⟩, _, C3.at 0 rfl, by rw [sizeLine_eq]; omega, fin (C3.set 0 rfl)⟩
end
end Ks

/-! KsS: any deed. -/
namespace Ks
open PySem PySem.Spec PyProof.Rows L2 PySem.W
theorem pick_app {L M : Cells} : ∀ {is : List Nat}, (∀ i ∈ is, i < L.length) → pick (L ++ M) is = pick L is
  | [], _ => rfl
  | i :: r, h => by
    have hi := h i List.mem_cons_self
    have e : (L ++ M)[i]? = L[i]? := List.getElem?_append_left hi
    have ih := pick_app (L := L) (M := M) fun j hj => h j (List.mem_cons_of_mem _ hj)
    unfold pick
    rw [e, ih]
theorem leave_ge {is : List Nat} : ∀ {n : Nat} {M : Cells}, (∀ i ∈ is, i < n) → leave is n M = M
  | _, [], _ => rfl
  | n, x :: r, h => by
    unfold leave
    rw [if_neg (by simp only [List.contains_iff_mem]; intro hm; have := h n hm; omega), leave_ge fun i hi => by have := h i hi; omega]
theorem leave_app {is : List Nat} {M : Cells} : ∀ {n : Nat} {L : Cells}, (∀ i ∈ is, i < n + L.length) → leave is n (L ++ M) = leave is n L ++ M
  | n, [], h => leave_ge fun i hi => by have := h i hi; simpa using this
  | n, x :: r, h => by
    have ih := leave_app (is := is) (M := M) (n := n + 1) (L := r) fun i hi => by have := h i hi; rw [List.length_cons] at this; omega
    rw [List.cons_append]
    unfold leave
    rw [ih]
    split <;> rfl
section
variable {A : List Addr} {H0 H H1 : Hp} {L M N : Cells}
/-- a call at places of the front -/
theorem Chg.callT (C : Chg A H0 H (L ++ M)) (is : List Nat) (D : Chg ((Ks.pick L is).map (·.1)) H H1 N) (h : ∀ i ∈ is, i < L.length := by simp) : Chg A H0 H1 ((N ++ leave is 0 L) ++ M) := by
  rw [← pick_app (M := M) h] at D
  have := C.call is D
  rw [leave_app (by simpa using h), ← List.append_assoc] at this
  exact this
/-- a call at the cells in front -/
theorem Chg.callL (C : Chg A H0 H (M ++ L)) (D : Chg (M.map (·.1)) H H1 N) : Chg A H0 H1 (N ++ L) := by
  have e1 : ∀ (K M L : Cells), Ks.pick (K ++ M ++ L) ((List.range' K.length M.length)) = M := fun K M L => by
    induction M generalizing K with
    | nil => rfl
    | cons m M ih =>
      rw [List.length_cons, List.range'_succ]
      unfold Ks.pick
      have : (K ++ m :: M ++ L)[K.length]? = some m := by simp
      rw [this]
      have := ih (K ++ [m])
      rw [List.length_append] at this
      simp only [List.append_assoc, List.cons_append, List.nil_append, List.length_cons, List.length_nil] at this ⊢
      rw [this]
  have e2 : ∀ (M : Cells) (n : Nat) (L : Cells), leave (List.range' n M.length) n (M ++ L) = L := fun M => by
    induction M with
    | nil => intro n L; exact leave_nil n L
    | cons m M ih =>
      intro n L
      rw [List.length_cons, List.range'_succ, List.cons_append]
      unfold leave
      rw [if_pos (by simp)]
      have key : ∀ (X : Cells) (is : List Nat) (k : Nat), n < k → leave (n :: is) k X = leave is k X := fun X is => by
        induction X with
        | nil => intro k _; rfl
        | cons y Y ihY =>
          intro k hk
          unfold leave
          have : (n :: is).contains k = is.contains k := by
            rw [List.contains_cons]
            have : (k == n) = false := by simpa using (show ¬ k = n by omega)
            rw [this, Bool.false_or]
          rw [this, ihY (k + 1) (by omega)]
      rw [key _ _ _ (by omega), ih (n + 1) L]
  have h1 := e1 [] M L
  rw [List.nil_append, List.length_nil] at h1
  have h2 := e2 M 0 L
  have D' : Chg ((Ks.pick (M ++ L) (List.range' 0 M.length)).map (·.1)) H H1 N := by rw [h1]; exact D
  have := C.call (List.range' 0 M.length) D'
  rw [h2] at this
  exact this
theorem Chg.callM (C : Chg A H0 H (L ++ M)) (D : Chg (M.map (·.1)) H H1 N) : Chg A H0 H1 (N ++ L) := (C.perm List.perm_append_comm).callL D
theorem Chg.back (C : Chg A H0 H L) (D : Chg [] H H1 N) : Chg A H0 H1 (L ++ N) := (C.and D).perm List.perm_append_comm
end
theorem Bg.bk {A : List Addr} {H0 H H' : Hp} {x : V} {k : Knd} {L M : Cells} (b : Bg H x k M) (C : Chg A H H' L) (m : ∀ p ∈ M, p ∈ L) : Bg H' x k M := b.up C.fix fun p hp => C.led.hp p (m p hp)
theorem e39 : (10 : Int) ^ (39 : Int).toNat = 1000000000000000000000000000000000000000 := by decide
section
variable {P : Program} {w : World} {K : PySem.W.Frag} {mg : Str → Option Value} {base : Heap} {a : Nat → Addr × FuncData} {c : Nat → Addr}
def sp_deed_right (c : Nat → Addr) : Sp := fun vs H Q _ => ∃ (b d s : Addr) (bn : Bool) (p w : Int) (n m : Nat) (x : Pr) (o : HO), vs = [.ref b, .ref d, .ref s, .bl bn] ∧ Led H ((b, o) :: cel c d s p w x) ∧ Bx n o ∧ n ≤ 700000000 ∧ Ok H p w m x ∧ m ≤ 7000 ∧
  ∀ o' x' H', Bx (n + 60) o' → Ok H' p w (m + 1) x' → Chg (((b, o) :: cel c d s p w x).map (·.1)) H H' ((b, o') :: cel c d s p w x') → Q (.bl true) H'
theorem ok_law_deed_right (Z : Wd K mg a c) : FnG false P w K mg base 7 (a 47).1 (a 47).2 ["box", "disk", "state", "by_name"] (sp_deed_right c) := by
  refine fun_okG Z.g_law_deed_right.fn sc_law_deed_right (fun vs H Q E h => ?_) (fun cdv A outer s H vs Q E hr h => ?_)
  · obtain ⟨b, d, s, bn, p, w, n, m, x, o, rfl, _⟩ := h; rfl
  · obtain ⟨b, d, s, bn, p, w, n, m, x, o, rfl, L, bx, hn, ok, hm, h⟩ := h
    refine ⟨_, (pss_cons (ps_set (i := 4) sc_law_deed_right.nd rfl (Or.inl rfl) (q_call Z.g_law_take (ok_law_take Z) (hr.mono (by decide)) takes0 (pa_cons (qv 0) (pa_cons pe_int pa_nil))))
      (pss_cons (ps_if (pt_cmpR o_lt (qv 4) pe_int (nomark _)) (pss_one (ps_ret (q_call Z.g_law_write_right (ok_law_write_right Z) (hr.mono (by decide)) takes0 (pa_cons (qv 0) (pa_cons (qv 1) (pa_cons (qv 2) (pa_cons (qv 3) pa_nil))))))) pss_nil)
      (pss_cons (ps_if (pt_cmpR o_lt (qv 4) pe_int (nomark _)) (pss_one (ps_ret (q_call Z.g_law_settle_right (ok_law_settle_right Z) (hr.mono (by decide)) takes0 (pa_cons (qv 1) (pa_cons (qv 2) pa_nil))))) pss_nil)
      (pss_cons (ps_if (pt_cmpR o_lt (qv 4) pe_int (nomark _)) (pss_one (ps_ret (q_call Z.g_law_stop_right (ok_law_stop_right Z) (hr.mono (by decide)) takes0 (pa_cons (qv 1) (pa_cons (qv 2) (pa_cons (pe_ix ix_d (pe_lst (pa_cons (q_call Z.g_law_take (ok_law_take Z) (hr.mono (by decide)) takes0 (pa_cons (qv 0) (pa_cons pe_int pa_nil))) (pa_cons pe_non (pa_cons (pe_op o_sub (pe_op o_pow pe_int pe_int) (q_call Z.g_law_take (ok_law_take Z) (hr.mono (by decide)) takes0 (pa_cons (qv 0) (pa_cons pe_int pa_nil)))) pa_nil)))) (pe_op o_sub (qv 4) pe_int) (fun _ _ => rfl)) (pa_cons (qv 3) pa_nil))))))) pss_nil)
      (pss_cons (ps_if (pt_cmpR (o_eq hr.u64) (qv 4) pe_int (nomark _)) (pss_one (ps_ret (q_call Z.g_law_loose_right (ok_law_loose_right Z) (hr.mono (by decide)) takes0 (pa_cons (qv 0) (pa_cons (qv 1) (pa_cons (qv 2) pa_nil)))))) pss_nil)
      (pss_cons (ps_par (i := 5) (j := 6) (by rfl) sc_law_deed_right.nd rfl rfl (by decide) rfl rfl (pa_cons (q_call Z.g_law_take (ok_law_take Z) (hr.mono (by decide)) takes0 (pa_cons (qv 0) (pa_cons pe_int pa_nil))) (pa_cons (q_call Z.g_law_text (ok_law_text Z) (hr.mono (by decide)) takes0 (pa_cons (qv 0) (pa_cons (pe_op o_add pe_int (q_call Z.g_law_take (ok_law_take Z) (hr.mono (by decide)) takes0 (pa_cons (qv 0) (pa_cons pe_int pa_nil)))) pa_nil))) pa_nil)) rfl)
      (pss_cons (ps_if (pt_cmpR (o_eq hr.u64) (qv 4) pe_int (nomark _)) (pss_cons (ps_set (i := 7) sc_law_deed_right.nd rfl (Or.inl rfl) (q_call Z.g_law_bad_text (ok_law_bad_text Z) (hr.mono (by decide)) takes0 (pa_cons (qv 5) (pa_cons (qv 6) (pa_cons (pe_ix ix_d (qv 2) pe_int (fun _ _ => rfl)) pa_nil)))))
      (pss_cons (ps_set (i := 8) sc_law_deed_right.nd rfl (Or.inl rfl) (q_call Z.g_law_take (ok_law_take Z) (hr.mono (by decide)) takes0 (pa_cons (qv 0) (pa_cons (pe_ix ix_d (qv 2) pe_int (fun _ _ => rfl)) pa_nil))))
      (pss_one (ps_ret (pe_cmpR (o_eq hr.u64) (q_call Z.g_law_write (ok_law_write Z) (hr.mono (by decide)) takes0 (pa_cons (qv 1) (pa_cons (qv 8) (pa_cons (qv 7) (pa_cons (qv 3) pa_nil))))) (pe_lst (pa_cons pe_str (pa_cons pe_bl pa_nil))) (nomark _)))))) pss_nil)
      (pss_cons (ps_if (pt_cmpR (o_eq hr.u64) (qv 4) pe_int (nomark _)) (pss_cons (ps_set (i := 9) sc_law_deed_right.nd rfl (Or.inl rfl) (pe_ifExp (pt_cmpR (o_eq hr.u64) (q_call Z.g_law_take (ok_law_take Z) (hr.mono (by decide)) takes0 (pa_cons (qv 0) (pa_cons pe_int pa_nil))) pe_int (nomark _)) (q_call Z.g_law_bad_text (ok_law_bad_text Z) (hr.mono (by decide)) takes0 (pa_cons (q_call Z.g_law_take (ok_law_take Z) (hr.mono (by decide)) takes0 (pa_cons (qv 0) (pa_cons pe_int pa_nil))) (pa_cons (qv 6) (pa_cons (pe_ix ix_d (qv 2) pe_int (fun _ _ => rfl)) pa_nil)))) (qv 6)))
      (pss_one (ps_ret (pe_cmpR (o_eq hr.u64) (q_call Z.g_law_write (ok_law_write Z) (hr.mono (by decide)) takes0 (pa_cons (qv 1) (pa_cons (q_call Z.g_law_bad_page (ok_law_bad_page Z) (hr.mono (by decide)) takes0 (pa_cons (qv 5) (pa_cons (pe_ix ix_d (qv 2) pe_int (fun _ _ => rfl)) pa_nil))) (pa_cons (qv 9) (pa_cons (qv 3) pa_nil))))) (pe_lst (pa_cons pe_str (pa_cons pe_bl pa_nil))) (nomark _))))) pss_nil)
      (pss_cons (ps_if (pt_cmpR (o_eq hr.u64) (qv 4) pe_int (nomark _)) (pss_one (ps_ret (pe_cmpR (o_eq hr.u64) (q_call Z.g_law_read (ok_law_read Z) (hr.mono (by decide)) takes0 (pa_cons (qv 1) (pa_cons (q_call Z.g_law_bad_page (ok_law_bad_page Z) (hr.mono (by decide)) takes0 (pa_cons (qv 5) (pa_cons (pe_ix ix_d (qv 2) pe_int (fun _ _ => rfl)) pa_nil))) (pa_cons (qv 3) pa_nil)))) (pe_lst (pa_cons pe_str (pa_cons pe_bl pa_nil))) (nomark _)))) pss_nil)
      (pss_one (ps_ret (pe_cmpR (o_eq hr.u64) (q_call Z.g_law_stop (ok_law_stop Z) (hr.mono (by decide)) takes0 (pa_cons (qv 1) (pa_cons (q_call Z.g_law_bad_count (ok_law_bad_count Z) (hr.mono (by decide)) takes0 (pa_cons (qv 5) pa_nil)) (pa_cons (qv 3) pa_nil)))) (pe_lst (pa_cons pe_str (pa_cons pe_bl pa_nil))) (nomark _))))))))))))), ?_⟩
    have p3 := ok.p3
    have p40 := ok.p40
    have w20 := ok.w20
    have w400 := ok.w400
    have C0 := Chg.of L
    refine ⟨b, o, n, 16, rfl, C0.at 0 rfl, bx, by omega, by decide, by decide, fun way o1 H1 y0 y1 bx1 D1 => ?_⟩
    have C1 := C0.call [0] D1
    have ok1 := ok.up C1.fix (m := m)
    refine ⟨_, rfl, ?_⟩
    by_cases q6 : way < 6
    · refine itP (decide_eq_true q6) ?_
      refine ⟨b, d, s, bn, p, w, n + 1, m, x, o1, rfl, C1.led, bx1, by omega, ok1, by omega, fun o2 x2 H2 bx2 ok2 D2 => ?_⟩
      have C2 := C1.call [0, 1, 2, 3, 4, 5, 6] D2
      exact h o2 x2 H2 (bx2.le (by omega)) ok2 (C2.to (by rfl))
    refine itN (decide_eq_false q6) ?_
    refine ⟨_, rfl, ?_⟩
    by_cases q8 : way < 8
    · refine itP (decide_eq_true q8) ?_
      refine ⟨d, s, p, w, m, x, rfl, (C1.pick [1, 2, 3, 4, 5, 6]).led, ok1, fun x2 H2 ok2 D2 => ?_⟩
      have C2 := C1.call [1, 2, 3, 4, 5, 6] D2
      exact h o1 x2 H2 (bx1.le (by omega)) (ok2.up (fun _ _ _ e => e)) ((C2.pick [6, 0, 1, 2, 3, 4, 5]).to (by rfl))
    refine itN (decide_eq_false q8) ?_
    refine ⟨_, rfl, ?_⟩
    by_cases q11 : way < 11
    · refine itP (decide_eq_true q11) ?_
      refine ⟨b, o1, n + 1, 6, rfl, C1.at 0 rfl, bx1, by omega, by decide, by decide, fun v o2 H2 v0 v1 bx2 D2 => ?_⟩
      have C2 := C1.call [0] D2
      refine ⟨⟨by decide, by decide, by decide⟩, b, o2, n + 1 + 1, 3, rfl, C2.at 0 rfl, bx2, by omega, by decide, by decide, fun u o3 H3 u0 u1 bx3 D3 => ?_⟩
      have C3 := C2.call [0] D3
      refine ⟨leS rfl, fun r hr' => ?_⟩
      have C4 := C3.skip (o := .lst [.int v, .non, .int (10 ^ (39 : Int).toNat - u)]) hr'
      have fin : ∀ (lf : Option Nat) (y : V), atI [.int v, .non, .int ((10 : Int) ^ (39 : Int).toNat - u)] (way - 8) = some y → y = lfV lf → (∀ n, lf = some n → n < 2 ^ 200) →
          rIxD (.ref r) (.int (way - 8)) (upd H3 r (.lst [.int v, .non, .int (10 ^ (39 : Int).toNat - u)])) fun y H' => sp_stop_right c [.ref d, .ref s, y, .bl bn] H' Q fun _ _ _ => False := fun lf y hy e hl => by
        subst e
        refine ⟨_, upd_same, _, hy, d, s, p, w, m, x, lf, bn, rfl, (C4.pick [1, 2, 3, 4, 5, 6]).led, ok.up C4.fix, hl, fun H5 D5 => ?_⟩
        have C5 := C4.call [1, 2, 3, 4, 5, 6] D5
        have ok5 := ok.up C5.fix (m := m)
        refine h o3 { x with lf := lf } H5 (bx3.le (by omega)) ⟨ok5.p3, ok5.p40, ok5.w20, ok5.w400, ok5.hT, ok5.hP, ok5.hW, ok5.hw, Nat.le_succ_of_le ok5.hn⟩ ((C5.pick [6, 0, 1, 2, 3, 4, 5]).to (by rfl))
      by_cases w8 : way = 8
      · exact fin (some v.toNat) _ (atI_of 0 (by omega) rfl) (by show V.int v = V.int (v.toNat : Int); congr 1; omega) fun k e => by cases e; omega
      · by_cases w9 : way = 9
        · exact fin none _ (atI_of 1 (by omega) rfl) rfl fun k e => nomatch e
        · refine fin (some (1000000000000000000000000000000000000000 - u).toNat) _ (atI_of 2 (by omega) rfl) ?_ fun k e => by cases e; omega
          show V.int (10 ^ (39 : Int).toNat - u) = V.int (((1000000000000000000000000000000000000000 - u).toNat : Nat) : Int)
          rw [e39]
          congr 1
          omega
    refine itN (decide_eq_false q11) ?_
    refine ⟨rfl, _, rfl, ?_⟩
    by_cases w11 : way = 11
    · refine itP (decide_eq_true (by rw [w11])) ?_
      refine ⟨b, d, s, p, w, n + 1, m, x, o1, rfl, C1.led, bx1, by omega, ok1, hm, fun o2 H2 bx2 D2 => ?_⟩
      have C2 := C1.call [0] D2
      exact h o2 x H2 (bx2.le (by omega)) (ok.up C2.fix) (C2.to (by rfl))
    refine itN (decide_eq_false (fun e => w11 (V.int.inj e))) ?_
    refine ⟨b, o1, n + 1, 16, rfl, C1.at 0 rfl, bx1, by omega, by decide, by decide, fun odd o2 H2 d0 d1 bx2 D2 => ?_⟩
    have C2 := C1.call [0] D2
    refine ⟨b, o2, n + 1 + 1, 4, rfl, C2.at 0 rfl, bx2, by omega, by decide, by decide, fun e o3 H3 e0 e1 bx3 D3 => ?_⟩
    have C3 := C2.call [0] D3
    obtain ⟨e, rfl⟩ : ∃ j : Nat, e = j := ⟨e.toNat, by omega⟩
    obtain ⟨odd, rfl⟩ : ∃ j : Nat, odd = j := ⟨odd.toNat, by omega⟩
    refine ⟨b, o3, n + 1 + 1 + 1, 1 + e, by simp, C3.at 0 rfl, bx3, by omega, by omega, fun z o4 H4 lz pz bx4 D4 => ⟨_, _, rfl, ?_⟩⟩
    have C4 : Chg _ H H4 ((b, o4) :: cel c d s p w x) := C3.call [0] D4
    refine ⟨rfl, _, rfl, ?_⟩
    by_cases w12 : way = 12
    · refine itP (decide_eq_true (by rw [w12])) ?_
      refine ⟨_, C4.at 4 rfl, _, atI_of 1 rfl rfl, odd, z, w, rfl, pz, by omega, by omega, w20, w400, fun v k M H5 bg hv D5 => ?_⟩
      have C5 : Chg _ H H5 (((b, o4) :: cel c d s p w x) ++ M) := C4.back D5
      refine ⟨_, C5.at 4 rfl, _, atI_of 0 rfl rfl, b, o4, n + 1 + 1 + 1 + (1 + e), p, rfl, C5.at 0 rfl, bx4, by omega, by omega, by omega, fun i o6 H6 i0 i1 bx6 D6 => ?_⟩
      have C6 : Chg _ H H6 (((b, o6) :: cel c d s p w x) ++ M) := C5.callT [0] D6
      have bg6 : Bg H6 v k M := bg.up D6.fix fun q hq => C6.led.hp q (List.mem_append_right _ hq)
      have hix : ixB (.int i) p = true := by simp only [ixB, Bool.and_eq_true, decide_eq_true_eq]; omega
      have ok6 := ok.up C6.fix (m := m)
      refine ⟨d, x.dx, .int i, v, _, k, [], M, bn, p, w, x.la, x.te, x.wr, x.lf, x.T, x.R, rfl, (C6.pick [1, 2, 3]).led, ok.hT, by omega, by have := ok.hR; omega, .int _ (log_small (by omega)), bg6,
        fun e => by (rw [hix] at e; cases e), fun _ _ r H7 D7 => ?_, fun _ e => by (rw [hv] at e; cases e), fun j y _ _ ey hy => by (subst ey; exact absurd (hv.symm.trans hy) (by simp))⟩
      have C7 := C6.callM D7
      refine ⟨leS rfl, fun l hl => ?_⟩
      have C8 := C7.add (o := .lst [.str "text", .bl true]) hl
      refine ⟨_, _, rs_dp (C8.at 1 rfl), rs_dp (C8.at 0 rfl), ev_text.1, ev_text.1, ?_⟩
      rw [ev_text.2]
      exact h o6 x _ (bx6.le (by omega)) (ok.up C8.fix) ((C8.pick [2, 3, 4, 5, 6, 7, 8]).to (by rfl))
    refine itN (decide_eq_false (fun e => w12 (V.int.inj e))) ?_
    refine ⟨rfl, _, rfl, ?_⟩
    by_cases w13 : way = 13
    · refine itP (decide_eq_true (by rw [w13])) ?_
      refine ⟨b, o4, n + 1 + 1 + 1 + (1 + e), 2, rfl, C4.at 0 rfl, bx4, by omega, by decide, by decide, fun v o5 H5 v0 v1 bx5 D5 => ?_⟩
      have C5 : Chg _ H H5 ((b, o5) :: cel c d s p w x) := C4.call [0] D5
      refine ⟨rfl, _, rfl, ?_⟩
      by_cases v2 : v = 0
      · refine itP (decide_eq_true (by rw [v2])) ?_
        refine ⟨b, o5, n + 1 + 1 + 1 + (1 + e) + 1, 14, rfl, C5.at 0 rfl, bx5, by omega, by decide, by decide, fun u o6 H6 u0 u1 bx6 D6 => ?_⟩
        have C6 : Chg _ H H6 ((b, o6) :: cel c d s p w x) := C5.call [0] D6
        obtain ⟨u, rfl⟩ : ∃ j : Nat, u = j := ⟨u.toNat, by omega⟩
        refine ⟨_, C6.at 4 rfl, _, atI_of 1 rfl rfl, u, z, w, rfl, pz, by omega, by omega, w20, w400, fun tx k2 N H7 bgt _ D7 => ?_⟩
        have C7 : Chg _ H H7 (((b, o6) :: cel c d s p w x) ++ N) := C6.back D7
        refine ⟨_, C7.at 4 rfl, _, atI_of 0 rfl rfl, odd, p, rfl, p3, p40, fun pg k M H8 bgp hb D8 => ?_⟩
        have C8 : Chg _ H H8 ((((b, o6) :: cel c d s p w x) ++ N) ++ M) := C7.back D8
        have bgt8 : Bg H8 tx k2 N := bgt.up D8.fix fun q hq => C8.led.hp q (List.mem_append_left _ (List.mem_append_right _ hq))
        refine ⟨d, x.dx, pg, tx, k, k2, M, N, bn, p, w, x.la, x.te, x.wr, x.lf, x.T, x.R, rfl, (C8.pick [1, 2, 3]).led, ok.hT, by omega, by have := ok.hR; omega, bgp, bgt8,
          fun _ r H9 D9 => ?_, fun e => by (rw [hb] at e; cases e), fun e => by (rw [hb] at e; cases e), fun j y ej hj => ?_⟩
        · have C9 := C8.callM D9
          refine ⟨leS rfl, fun l hl => ?_⟩
          have C10 := C9.add (o := .lst [.str "page", .bl true]) hl
          refine ⟨_, _, rs_dp (C10.at 1 rfl), rs_dp (C10.at 0 rfl), ev_page.1, ev_page.1, ?_⟩
          rw [ev_page.2]
          exact h o6 x _ (bx6.le (by omega)) (ok.up C10.fix) ((C10.pick [2, 3, 4, 5, 6, 7, 8]).to (by rfl))
        · subst ej
          simp only [ixB, Bool.and_eq_false_iff, decide_eq_false_iff_not] at hb
          omega
      · refine itN (decide_eq_false (fun e => v2 (V.int.inj e))) ?_
        refine ⟨_, C5.at 4 rfl, _, atI_of 0 rfl rfl, odd, p, rfl, p3, p40, fun pg k M H8 bgp hb D8 => ?_⟩
        have C8 : Chg _ H H8 (((b, o5) :: cel c d s p w x) ++ M) := C5.back D8
        refine ⟨d, x.dx, pg, .str z, k, _, M, [], bn, p, w, x.la, x.te, x.wr, x.lf, x.T, x.R, rfl, (C8.pick [1, 2, 3]).led, ok.hT, by omega, by have := ok.hR; omega, bgp, .str _ pz.asc (by omega),
          fun _ r H9 D9 => ?_, fun e => by (rw [hb] at e; cases e), fun e => by (rw [hb] at e; cases e), fun j y ej hj => ?_⟩
        · have C9 := C8.callM D9
          refine ⟨leS rfl, fun l hl => ?_⟩
          have C10 := C9.add (o := .lst [.str "page", .bl true]) hl
          refine ⟨_, _, rs_dp (C10.at 1 rfl), rs_dp (C10.at 0 rfl), ev_page.1, ev_page.1, ?_⟩
          rw [ev_page.2]
          exact h o5 x _ (bx5.le (by omega)) (ok.up C10.fix) ((C10.pick [2, 3, 4, 5, 6, 7, 8]).to (by rfl))
        · subst ej
          simp only [ixB, Bool.and_eq_false_iff, decide_eq_false_iff_not] at hb
          omega
    refine itN (decide_eq_false (fun e => w13 (V.int.inj e))) ?_
    refine ⟨rfl, _, rfl, ?_⟩
    by_cases w14 : way = 14
    · refine itP (decide_eq_true (by rw [w14])) ?_
      refine ⟨_, C4.at 4 rfl, _, atI_of 0 rfl rfl, odd, p, rfl, p3, p40, fun pg k M H8 bgp hb D8 => ?_⟩
      have C8 : Chg _ H H8 (((b, o4) :: cel c d s p w x) ++ M) := C4.back D8
      refine ⟨d, x.dx, pg, k, M, bn, p, w, x.la, x.te, x.wr, lfV x.lf, x.T, rfl, C8.at 1 rfl, C8.at 2 rfl, ok.hT, bgp, hb, fun r H9 D9 => ?_⟩
      have C9 := C8.callM D9
      refine ⟨leS rfl, fun l hl => ?_⟩
      have C10 := C9.add (o := .lst [.str "page", .bl true]) hl
      refine ⟨_, _, rs_dp (C10.at 1 rfl), rs_dp (C10.at 0 rfl), ev_page.1, ev_page.1, ?_⟩
      rw [ev_page.2]
      exact h o4 x _ (bx4.le (by omega)) (ok.up C10.fix) ((C10.pick [2, 3, 4, 5, 6, 7, 8]).to (by rfl))
    refine itN (decide_eq_false (fun e => w14 (V.int.inj e))) ?_
    refine ⟨odd, rfl, fun pg k M H8 bgp hb D8 => ?_⟩
    have C8 : Chg _ H H8 (((b, o4) :: cel c d s p w x) ++ M) := C4.back D8
    refine ⟨d, x.dx, pg, k, M, bn, p, w, x.la, x.te, x.wr, lfV x.lf, rfl, C8.at 1 rfl, bgp, fun _ r H9 D9 => ?_, fun e => by (rw [hb] at e; cases e)⟩
    have C9 := C8.callM D9
    refine ⟨leS rfl, fun l hl => ?_⟩
    have C10 := C9.add (o := .lst [.str "count", .bl true]) hl
    refine ⟨_, _, rs_dp (C10.at 1 rfl), rs_dp (C10.at 0 rfl), ev_count.1, ev_count.1, ?_⟩
    rw [ev_count.2]
    exact h o4 x _ (bx4.le (by omega)) (ok.up C10.fix) ((C10.pick [2, 3, 4, 5, 6, 7, 8]).to (by rfl))
end
end Ks

/-! KsU: stopped disks. -/
namespace Ks
open PySem PySem.Spec PyProof.Rows L2 PySem.W
section
variable {P : Program} {w : World} {K : PySem.W.Frag} {mg : Str → Option Value} {base : Heap} {a : Nat → Addr × FuncData} {c : Nat → Addr}
theorem a_asc : Asc ("a" : Str) := asc_lit (by decide +kernel)
theorem a_prn : Prn ("a" : Str) := prn_all.mp (by decide +kernel)
def sp_stopped_right (c : Nat → Addr) : Sp := fun vs H Q _ => ∃ (b d s : Addr) (bn : Bool) (p w : Int) (n m : Nat) (x : Pr) (o : HO), vs = [.ref b, .ref d, .ref s, .bl bn] ∧ Led H ((b, o) :: cel c d s p w x) ∧ Bx n o ∧ n ≤ 700000000 ∧ Ok H p w m x ∧ m ≤ 6000 ∧
  ∀ o' x' H', Bx (n + 200) o' → Ok H' p w (m + 20) x' → Chg (((b, o) :: cel c d s p w x).map (·.1)) H H' ((b, o') :: cel c d s p w x') → Q (.bl true) H'
theorem ok_law_stopped_right (Z : Wd K mg a c) : FnG false P w K mg base 7 (a 48).1 (a 48).2 ["box", "disk", "state", "by_name"] (sp_stopped_right c) := by
  refine fun_okG Z.g_law_stopped_right.fn sc_law_stopped_right (fun vs H Q E h => ?_) (fun cdv A outer s H vs Q E hr h => ?_)
  · obtain ⟨b, d, s, bn, p, w, n, m, x, o, rfl, _⟩ := h; rfl
  · obtain ⟨b, d, s, bn, p, w, n, m, x, o, rfl, L, bx, hn, ok, hm, h⟩ := h
    refine ⟨_, (pss_cons (ps_set (i := 4) sc_law_stopped_right.nd rfl (Or.inl rfl) (q_call Z.g_law_take (ok_law_take Z) (hr.mono (by decide)) takes0 (pa_cons (qv 0) (pa_cons pe_int pa_nil))))
      (pss_cons (ps_if (pt_not (pt_val (q_call Z.g_law_stop_right (ok_law_stop_right Z) (hr.mono (by decide)) takes0 (pa_cons (qv 1) (pa_cons (qv 2) (pa_cons (qv 4) (pa_cons (qv 3) pa_nil))))))) (pss_one (ps_ret pe_bl)) pss_nil)
      (pss_cons (ps_for (passes_of rfl) (by rfl) (pi_range1 (by rfl) Z.n_range (pa_cons (pe_op o_add (qv 4) pe_int) pa_nil)) (pg_name (i := 5) sc_law_stopped_right.nd rfl (Or.inl rfl))
      (pss_cons (ps_if (PW.pt (pw_and (pt_cmpR (o_eq hr.u64) (pe_op o_mod (qv 5) pe_int) pe_int (nomark _)) (pw_and1 (pt_cmpR (o_ne hr.u64) (q_call Z.g_law_write (ok_law_write Z) (hr.mono (by decide)) takes0 (pa_cons (qv 1) (pa_cons (pe_ix ix_d (qv 2) pe_int (fun _ _ => rfl)) (pa_cons pe_str (pa_cons (qv 3) pa_nil))))) (pe_lst (pa_cons pe_str (pa_cons pe_bl pa_nil))) (nomark _))))) (pss_one (ps_ret pe_bl)) pss_nil)
      (pss_cons (ps_if (PW.pt (pw_and (pt_cmpR (o_eq hr.u64) (pe_op o_mod (qv 5) pe_int) pe_int (nomark _)) (pw_and1 (pt_cmpR (o_ne hr.u64) (q_call Z.g_law_write (ok_law_write Z) (hr.mono (by decide)) takes0 (pa_cons (qv 1) (pa_cons pe_int (pa_cons (pe_op o_mul pe_str (pe_op o_add (pe_ix ix_d (qv 2) pe_int (fun _ _ => rfl)) pe_int)) (pa_cons (qv 3) pa_nil))))) (pe_lst (pa_cons pe_str (pa_cons pe_bl pa_nil))) (nomark _))))) (pss_one (ps_ret pe_bl)) pss_nil)
      (pss_cons (ps_set (i := 6) sc_law_stopped_right.nd rfl (Or.inl rfl) (pe_cmpR (o_eq hr.u64) (q_call Z.g_law_take (ok_law_take Z) (hr.mono (by decide)) takes0 (pa_cons (qv 0) (pa_cons pe_int pa_nil))) pe_int (nomark _)))
      (pss_cons (ps_set (i := 7) sc_law_stopped_right.nd rfl (Or.inl rfl) (pe_ifExp (pt_val (qv 6)) (q_call Z.g_law_settle_right (ok_law_settle_right Z) (hr.mono (by decide)) takes0 (pa_cons (qv 1) (pa_cons (qv 2) pa_nil))) (q_call Z.g_law_write_right (ok_law_write_right Z) (hr.mono (by decide)) takes0 (pa_cons (qv 0) (pa_cons (qv 1) (pa_cons (qv 2) (pa_cons (qv 3) pa_nil)))))))
      (pss_one (ps_if (PW.pt (pw_or (pt_not (pt_val (qv 7))) (pw_or1 (pt_not (pt_val (q_call Z.g_law_state_right (ok_law_state_right Z) (hr.mono (by decide)) takes0 (pa_cons (qv 1) (pa_cons (qv 2) (pa_cons (qv 3) pa_nil))))))))) (pss_one (ps_ret pe_bl)) pss_nil)))))))
      (pss_cons (ps_if (pt_not (pt_val (q_call Z.g_law_stop_right (ok_law_stop_right Z) (hr.mono (by decide)) takes0 (pa_cons (qv 1) (pa_cons (qv 2) (pa_cons (pe_ix ix_d (pe_lst (pa_cons pe_non (pa_cons pe_int pa_nil))) (q_call Z.g_law_take (ok_law_take Z) (hr.mono (by decide)) takes0 (pa_cons (qv 0) (pa_cons pe_int pa_nil))) (fun _ _ => rfl)) (pa_cons (qv 3) pa_nil))))))) (pss_one (ps_ret pe_bl)) pss_nil)
      (pss_cons (ps_if (PW.pt (pw_or (pt_not (pt_val (q_call Z.g_law_write_right (ok_law_write_right Z) (hr.mono (by decide)) takes0 (pa_cons (qv 0) (pa_cons (qv 1) (pa_cons (qv 2) (pa_cons (qv 3) pa_nil))))))) (pw_or1 (pt_not (pt_val (q_call Z.g_law_state_right (ok_law_state_right Z) (hr.mono (by decide)) takes0 (pa_cons (qv 1) (pa_cons (qv 2) (pa_cons (qv 3) pa_nil))))))))) (pss_one (ps_ret pe_bl)) pss_nil)
      (pss_one (ps_ret (q_call Z.g_law_stop_right (ok_law_stop_right Z) (hr.mono (by decide)) takes0 (pa_cons (qv 1) (pa_cons (qv 2) (pa_cons pe_non (pa_cons (pe_not (qv 3)) pa_nil)))))))))))), ?_⟩
    have p3 := ok.p3
    have p40 := ok.p40
    have w20 := ok.w20
    have w400 := ok.w400
    have C0 := Chg.of L
    refine ⟨b, o, n, 5, rfl, C0.at 0 rfl, bx, by omega, by decide, by decide, fun ct o1 H1 y0 y1 bx1 D1 => ?_⟩
    have C1 : Chg _ H H1 ((b, o1) :: cel c d s p w x) := C0.call [0] D1
    obtain ⟨ct, rfl⟩ : ∃ j : Nat, ct = j := ⟨ct.toNat, by omega⟩
    refine ⟨d, s, p, w, m, x, some ct, bn, rfl, (C1.pick [1, 2, 3, 4, 5, 6]).led, ok.up C1.fix, fun k e => by cases e; omega, fun H2 D2 => ⟨true, rfl, ?_⟩⟩
    have C2 : Chg _ H H2 ((b, o1) :: cel c d s p w { x with lf := some ct }) := ((C1.call [1, 2, 3, 4, 5, 6] D2).pick [6, 0, 1, 2, 3, 4, 5]).to (by rfl)
    have ok2 : Ok H2 p w m { x with lf := some ct } := by
      have k := ok.up C2.fix (m := m)
      exact ⟨k.p3, k.p40, k.w20, k.w400, k.hT, k.hP, k.hW, k.hw, k.hn⟩
    refine itN rfl ?_
    refine ⟨_, rfl, by omega, by omega, ?_⟩
    refine for_it walk_range (fun i σ H' => ∃ o' x' v5 v6 v7, σ = [some (.ref b), some (.ref d), some (.ref s), some (.bl bn), some (.int ct), v5, v6, v7] ∧ Bx (n + 1 + 12 * i) o' ∧ Ok H' p w (m + i) x' ∧ Chg (((b, o) :: cel c d s p w x).map (·.1)) H H' ((b, o') :: cel c d s p w x'))
      ⟨o1, _, none, none, none, rfl, bx1, ok2, C2⟩ (fun _ _ _ _ _ => ⟨⟩) ?_ ?_
    · rintro i y σ H3' H3 hi ⟨o3, x3, v5, v6, v7, rfl, bx3, ok3, C3⟩ ⟨rfl, rfl⟩
      have hi7 : i < 7 := by omega
      have hixp : ixB (.int p) p = false := by simp only [ixB, Bool.and_eq_false_iff, decide_eq_false_iff_not]; omega
      have hix0 : ixB (.int 0) p = true := by simp only [ixB, Bool.and_eq_true, decide_eq_true_eq]; omega
      have lm : (Txt.mul "a" (w + 1)).length = (w + 1).toNat := by
        have := len_mulN "a" (w + 1).toNat
        rw [show (((w + 1).toNat : Nat) : Int) = w + 1 by omega] at this
        rw [this]
        show 1 * (w + 1).toNat = _
        omega
      have am : Asc (Txt.mul "a" (w + 1)) := fun ch hc => a_asc ch (tl_mul _ _ ch hc)
      have hpg : pgV (.str (Txt.mul "a" (w + 1))) w = false := pgT_len (by omega)
      refine ⟨by show (0 : Int) < 2; decide, rfl, _, rfl, ?_⟩
      by_cases q2 : ((0 : Int) + (i : Int)) % 2 = 0
      case' pos =>
        refine itP (decide_eq_true (congrArg V.int q2)) ?_
        refine ⟨_, C3.at 4 rfl, _, atI_of 0 rfl rfl, d, x3.dx, .int p, .str "a", _, _, [], [], bn, p, w, x3.la, x3.te, x3.wr, x3.lf, x3.T, x3.R, rfl, (C3.pick [1, 2, 3]).led, ok3.hT, by omega, by have := ok3.hR; omega, .int _ (log_small (by omega)), .str _ a_asc (by decide),
          fun _ r H4 D4 => ⟨leS rfl, fun l hl => ?_⟩, fun e => by (rw [hixp] at e; cases e), fun e => by (rw [hixp] at e; cases e), fun j y ej hj => by (have := V.int.inj ej; omega)⟩
        have C4 := (C3.and D4).add (o := .lst [.str "page", .bl true]) hl
        refine ⟨_, _, rs_dp (C4.at 1 rfl), rs_dp (C4.at 0 rfl), ev_page.1, ev_page.1, _, rfl, ?_⟩
        refine itN (by rw [ev_page.2]; rfl) ?_
        have C5 : Chg _ H _ ((b, o3) :: cel c d s p w x3) := (C4.pick [2, 3, 4, 5, 6, 7, 8]).to (by rfl)
        have ok5 := ok3.up (m := m + i) (((Chg.of (H := H3) .nil).and D4).add (o := .lst [.str "page", .bl true]) hl).fix
      case' neg =>
        refine itN (decide_eq_false (fun e => q2 (V.int.inj e))) ?_
        have C5 := C3
        have ok5 := ok3
      all_goals
        refine ⟨by show (0 : Int) < 3; decide, rfl, _, rfl, ?_⟩
        by_cases q3 : ((0 : Int) + (i : Int)) % 3 = 1
        case' pos =>
          refine itP (decide_eq_true (congrArg V.int q3)) ?_
          refine ⟨_, C5.at 4 rfl, _, atI_of 1 rfl rfl, mulOk_of 1 401 (by decide) (by omega) (by omega) (by decide) (by decide), d, x3.dx, .int 0, .str (Txt.mul "a" (w + 1)), _, _, [], [], bn, p, w, x3.la, x3.te, x3.wr, x3.lf, x3.T, x3.R, rfl, (C5.pick [1, 2, 3]).led, ok3.hT, by omega, by have := ok3.hR; omega, .int _ (by decide), .str _ am (by omega),
            fun e => by (rw [hix0] at e; cases e), fun _ _ r H6 D6 => ⟨leS rfl, fun l hl => ?_⟩, fun _ e => by (rw [hpg] at e; cases e), fun j y _ _ ey hy => by (cases ey; exact absurd (hpg.symm.trans hy) (by simp))⟩
          have C6 := (C5.and D6).add (o := .lst [.str "text", .bl true]) hl
          refine ⟨_, _, rs_dp (C6.at 1 rfl), rs_dp (C6.at 0 rfl), ev_text.1, ev_text.1, _, rfl, ?_⟩
          refine itN (by rw [ev_text.2]; rfl) ?_
          have C7 : Chg _ H _ ((b, o3) :: cel c d s p w x3) := (C6.pick [2, 3, 4, 5, 6, 7, 8]).to (by rfl)
          have ok7 := ok5.up (m := m + i) (((Chg.of .nil).and D6).add (o := .lst [.str "text", .bl true]) hl).fix
        case' neg =>
          refine itN (decide_eq_false (fun e => q3 (V.int.inj e))) ?_
          have C7 := C5
          have ok7 := ok5
        all_goals
          refine ⟨b, o3, n + 1 + 12 * i, 3, rfl, C7.at 0 rfl, bx3, by omega, by decide, by decide, fun v o8 H8 v0 v1 bx8 D8 => ⟨rfl, _, rfl, ?_⟩⟩
          have C8 : Chg _ H H8 ((b, o8) :: cel c d s p w x3) := C7.call [0] D8
          by_cases q4 : v = 0
          case' pos =>
            refine itP (decide_eq_true (by rw [q4])) ?_
            refine ⟨d, s, p, w, m + i, x3, rfl, (C8.pick [1, 2, 3, 4, 5, 6]).led, ok7.up D8.fix, fun x9 H9 ok9 D9 => ?_⟩
            have C9 : Chg _ H H9 ((b, o8) :: cel c d s p w x9) := ((C8.call [1, 2, 3, 4, 5, 6] D9).pick [6, 0, 1, 2, 3, 4, 5]).to (by rfl)
            have bx9 : Bx (n + 1 + 12 * (i + 1)) o8 := bx8.le (by omega)
            have ok9 : Ok H9 p w (m + (i + 1)) x9 := ok9.up (fun _ _ _ e => e)
          case' neg =>
            refine itN (decide_eq_false (fun e => q4 (V.int.inj e))) ?_
            refine ⟨b, d, s, bn, p, w, n + 1 + 12 * i + 1, m + i, x3, o8, rfl, C8.led, bx8, by omega, ok7.up D8.fix, by omega, fun o9 x9 H9 bx9 ok9 D9 => ?_⟩
            have C9 : Chg _ H H9 ((b, o9) :: cel c d s p w x9) := (C8.call [0, 1, 2, 3, 4, 5, 6] D9).to (by rfl)
            have bx9 : Bx (n + 1 + 12 * (i + 1)) o9 := bx9.le (by omega)
            have ok9 : Ok H9 p w (m + (i + 1)) x9 := ok9.up (fun _ _ _ e => e)
          all_goals
            refine ⟨true, rfl, ?_⟩
            refine ⟨d, s, bn, p, w, m + (i + 1), x9, rfl, (C9.pick [1, 2, 3, 4, 5, 6]).led, ok9, by omega, fun H10 D10 => ⟨true, rfl, ?_⟩⟩
            have C10 : Chg _ H H10 ((b, _) :: cel c d s p w x9) := C9.and D10
            exact ⟨_, x9, _, _, _, rfl, bx9, ok9.up D10.fix, C10⟩
    · rintro σ H3 ⟨o3, x3, v5, v6, v7, rfl, bx3, ok3, C3⟩
      have hc : ((ct : Int) + 3).toNat ≤ 7 := by omega
      generalize ((ct : Int) + 3).toNat = cn at bx3 ok3 hc
      refine ⟨leS rfl, fun r hr' => ?_⟩
      have C4 := C3.add (o := .lst [.non, .int 2]) hr'
      refine ⟨b, o3, n + 1 + 12 * cn, 2, rfl, C4.at 1 rfl, bx3, by omega, by decide, by decide, fun v o5 H5 v0 v1 bx5 D5 => ?_⟩
      have C5 := C4.call [1] D5
      have ok5 := (ok3.up (m := m + cn) ((Chg.of (H := H3) .nil).add (o := .lst [.non, .int 2]) hr').fix).up (m := m + cn) D5.fix
      have go : ∃ lf y, atI [V.non, V.int 2] v = some y ∧ y = lfV lf ∧ ∀ k, lf = some k → k < 2 ^ 200 := by
        by_cases e : v = 0
        · exact ⟨none, _, atI_of 0 (by omega) rfl, rfl, fun k e => nomatch e⟩
        · exact ⟨some 2, _, atI_of 1 (by omega) rfl, rfl, fun k e => by cases e; omega⟩
      obtain ⟨lf, y, hy, rfl, hl⟩ := go
      refine ⟨_, C5.at 1 rfl, _, hy, d, s, p, w, m + cn, x3, lf, bn, rfl, (C5.pick [2, 3, 4, 5, 6, 7]).led, ok5, hl, fun H6 D6 => ⟨true, rfl, itN rfl ?_⟩⟩
      have C6 : Chg _ H H6 ((b, o5) :: cel c d s p w { x3 with lf := lf }) := ((C5.call [2, 3, 4, 5, 6, 7] D6).pick [6, 0, 1, 2, 3, 4, 5]).to (by rfl)
      have ok6 : Ok H6 p w (m + cn) { x3 with lf := lf } := by
        have k := ok5.up D6.fix (m := m + cn)
        exact ⟨k.p3, k.p40, k.w20, k.w400, k.hT, k.hP, k.hW, k.hw, k.hn⟩
      refine ⟨b, d, s, bn, p, w, n + 1 + 12 * cn + 1, m + cn, _, o5, rfl, C6.led, bx5, by omega, ok6, by omega, fun o7 x7 H7 bx7 ok7 D7 => ⟨true, rfl, ?_⟩⟩
      have C7 : Chg _ H H7 ((b, o7) :: cel c d s p w x7) := (C6.call [0, 1, 2, 3, 4, 5, 6] D7).to (by rfl)
      refine ⟨d, s, bn, p, w, m + cn + 1, x7, rfl, (C7.pick [1, 2, 3, 4, 5, 6]).led, ok7, by omega, fun H8 D8 => ⟨true, rfl, ?_⟩⟩
      have C8 : Chg _ H H8 ((b, o7) :: cel c d s p w x7) := C7.and D8
      refine ⟨_, rfl, d, s, p, w, m + cn + 1, x7, none, !bn, rfl, (C8.pick [1, 2, 3, 4, 5, 6]).led, ok7.up D8.fix, fun k e => (nomatch e), fun H9 D9 => ?_⟩
      have C9 : Chg _ H H9 ((b, o7) :: cel c d s p w { x7 with lf := none }) := ((C8.call [1, 2, 3, 4, 5, 6] D9).pick [6, 0, 1, 2, 3, 4, 5]).to (by rfl)
      have k := (ok7.up (m := m + 20) D8.fix).up (m := m + 20) D9.fix
      exact h o7 { x7 with lf := none } H9 (bx7.le (by omega)) ⟨k.p3, k.p40, k.w20, k.w400, k.hT, k.hP, k.hW, k.hw, k.hn⟩ C9
end
end Ks

/-! KsV: sizes; a long life. -/
namespace Ks
open PySem PySem.Spec PyProof.Rows L2 PySem.W
/-- a new disk's data -/
def pr0 (dx la te wr tx kp : Addr) (p : Int) : Pr := ⟨dx, la, te, wr, tx, kp, none, emp p, [], []⟩
theorem emp_len {p : Int} (h : 0 ≤ p) : ((emp p).length : Int) = p := by
  unfold emp
  rw [List.length_replicate]; omega
theorem ok0 {H : Hp} {p w : Int} {dx la te wr tx kp : Addr} (p3 : 3 ≤ p) (p40 : p ≤ 40) (w20 : 20 ≤ w) (w400 : w ≤ 400) : Ok H p w 0 (pr0 dx la te wr tx kp p) :=
  ⟨p3, p40, w20, w400, emp_len (by omega), fun z hz => by
    have : z = "" := (List.mem_replicate.mp hz).2
    subst this
    exact ⟨prn_all.mp (by decide), by decide⟩, .nil, fun y hy => (nomatch hy), Nat.zero_le _⟩
section
variable {P : Program} {w : World} {K : PySem.W.Frag} {mg : Str → Option Value} {base : Heap} {a : Nat → Addr × FuncData} {c : Nat → Addr}
def sp_sizes_right : Sp := fun vs H Q _ => ∃ (b : Addr) (bn : Bool) (n : Nat) (o : HO), vs = [.ref b, .bl bn] ∧ H b = some o ∧ Bx n o ∧ n ≤ 700000000 ∧ ∀ o' H', Bx (n + 2) o' → Chg [b] H H' [(b, o')] → Q (.bl true) H'
theorem ok_law_sizes_right (Z : Wd K mg a c) : FnG false P w K mg base 6 (a 49).1 (a 49).2 ["box", "by_name"] sp_sizes_right := by
  refine fun_okG Z.g_law_sizes_right.fn sc_law_sizes_right (fun vs H Q E h => ?_) (fun cdv A outer s H vs Q E hr h => ?_)
  · obtain ⟨b, bn, n, o, rfl, _⟩ := h; rfl
  · obtain ⟨b, bn, n, o, rfl, hb, bx, hn, h⟩ := h
    refine ⟨_, (pss_cons (ps_for (passes_of rfl) (by rfl) (pi_seq (pe_lst (pa_cons (pe_tup (pa_cons pe_int (pa_cons pe_int pa_nil))) (pa_cons (pe_tup (pa_cons pe_int (pa_cons pe_int pa_nil))) (pa_cons (pe_tup (pa_cons (pe_op o_add pe_int (q_call Z.g_law_take (ok_law_take Z) (hr.mono (by decide)) takes0 (pa_cons (qv 0) (pa_cons pe_int pa_nil)))) (pa_cons (pe_op o_add pe_int (q_call Z.g_law_take (ok_law_take Z) (hr.mono (by decide)) takes0 (pa_cons (qv 0) (pa_cons pe_int pa_nil)))) pa_nil))) pa_nil))))) (pg_tup (n := 2) (by rfl) (pgs_cons (pg_name (i := 2) sc_law_sizes_right.nd rfl (Or.inl rfl)) (pgs_cons (pg_name (i := 3) sc_law_sizes_right.nd rfl (Or.inl rfl)) pgs_nil)))
      (pss_cons (ps_set (i := 4) sc_law_sizes_right.nd rfl (Or.inl rfl) (q_call Z.g_law_made (ok_law_made Z) (hr.mono (by decide)) takes0 (pa_cons (qv 2) (pa_cons (qv 3) (pa_cons (qv 1) pa_nil)))))
      (pss_one (ps_if (PW.pt (pw_or (pt_cmpR (o_ne hr.u64) (pe_ix ix_d (qv 4) pe_int (fun _ _ => rfl)) pe_str (nomark _)) (pw_or1 (pt_not (pt_val (q_call Z.g_law_state_right (ok_law_state_right Z) (hr.mono (by decide)) takes0 (pa_cons (pe_ix ix_d (qv 4) pe_int (fun _ _ => rfl)) (pa_cons (q_call Z.g_law_new (ok_law_new Z) (hr.mono (by decide)) takes0 (pa_cons (qv 2) (pa_cons (qv 3) pa_nil))) (pa_cons (qv 1) pa_nil))))))))) (pss_one (ps_ret pe_bl)) pss_nil))))
      (pss_cons (ps_for (passes_of rfl) (by rfl) (pi_range1 (by rfl) Z.n_range (pa_cons pe_int pa_nil)) (pg_name (i := 5) sc_law_sizes_right.nd rfl (Or.inl rfl))
      (pss_cons (ps_if (pt_cmpR (o_ne hr.u64) (q_call Z.g_law_made (ok_law_made Z) (hr.mono (by decide)) takes0 (pa_cons (q_call Z.g_law_bad_size (ok_law_bad_size Z) (hr.mono (by decide)) takes0 (pa_cons (qv 5) (pa_cons pe_int (pa_cons pe_int pa_nil)))) (pa_cons (pe_op o_add pe_int (qv 5)) (pa_cons (qv 1) pa_nil)))) (pe_lst (pa_cons pe_str (pa_cons pe_bl pa_nil))) (nomark _)) (pss_one (ps_ret pe_bl)) pss_nil)
      (pss_cons (ps_if (pt_cmpR (o_ne hr.u64) (q_call Z.g_law_made (ok_law_made Z) (hr.mono (by decide)) takes0 (pa_cons (pe_op o_add pe_int (qv 5)) (pa_cons (q_call Z.g_law_bad_size (ok_law_bad_size Z) (hr.mono (by decide)) takes0 (pa_cons (qv 5) (pa_cons pe_int (pa_cons pe_int pa_nil)))) (pa_cons (pe_not (qv 1)) pa_nil)))) (pe_lst (pa_cons pe_str (pa_cons pe_bl pa_nil))) (nomark _)) (pss_one (ps_ret pe_bl)) pss_nil)
      (pss_one (ps_if (pt_cmpR (o_ne hr.u64) (q_call Z.g_law_made (ok_law_made Z) (hr.mono (by decide)) takes0 (pa_cons (q_call Z.g_law_bad_size (ok_law_bad_size Z) (hr.mono (by decide)) takes0 (pa_cons (pe_op o_sub pe_int (qv 5)) (pa_cons pe_int (pa_cons pe_int pa_nil)))) (pa_cons (q_call Z.g_law_bad_size (ok_law_bad_size Z) (hr.mono (by decide)) takes0 (pa_cons (qv 5) (pa_cons pe_int (pa_cons pe_int pa_nil)))) (pa_cons (qv 1) pa_nil)))) (pe_lst (pa_cons pe_str (pa_cons pe_bl pa_nil))) (nomark _)) (pss_one (ps_ret pe_bl)) pss_nil)))))
      (pss_one (ps_ret pe_bl)))), ?_⟩
    have C0 : Chg [b] H H [(b, o)] := .of (.one hb)
    refine ⟨leS rfl, fun t1 n1 => ⟨leS rfl, fun t2 n2 => ?_⟩⟩
    have C1 := (C0.add (o := .tup [.int 3, .int 400]) n1).add (o := .tup [.int 40, .int 20]) n2
    refine ⟨b, o, n, 38, rfl, C1.at 2 rfl, bx, by omega, by decide, by decide, fun v o2 H2 v0 v1 bx2 D2 => ?_⟩
    have C2 := C1.call [2] D2
    refine ⟨b, o2, n + 1, 381, rfl, C2.at 0 rfl, bx2, by omega, by decide, by decide, fun u o3 H3 u0 u1 bx3 D3 => ⟨leS rfl, fun t3 n3 => ⟨leS rfl, fun l nl => ?_⟩⟩⟩
    have C3 := (((C2.call [0] D3).add (o := .tup [.int (3 + v), .int (20 + u)]) n3).add (o := .lst [.ref t1, .ref t2, .ref t3]) nl)
    have C4 := C3.pick [0, 2]
    have g1 := C3.at 4 rfl
    have g2 := C3.at 3 rfl
    have g3 := C3.at 1 rfl
    have items : ∀ (i : Nat) y, ([V.ref t1, .ref t2, .ref t3])[i]? = some y → ∃ t p w, y = .ref t ∧ (upd (upd H3 t3 (.tup [.int (3 + v), .int (20 + u)])) l (.lst [.ref t1, .ref t2, .ref t3])) t = some (.tup [.int p, .int w]) ∧ 3 ≤ p ∧ p ≤ 40 ∧ 20 ≤ w ∧ w ≤ 400 := fun i y hy => by
      match i, hy with
      | 0, hy => cases hy; exact ⟨t1, 3, 400, rfl, g1, by decide, by decide, by decide, by decide⟩
      | 1, hy => cases hy; exact ⟨t2, 40, 20, rfl, g2, by decide, by decide, by decide, by decide⟩
      | 2, hy => cases hy; exact ⟨t3, _, _, rfl, g3, by omega, by omega, by omega, by omega⟩
    generalize (upd (upd H3 t3 (.tup [.int (3 + v), .int (20 + u)])) l (.lst [.ref t1, .ref t2, .ref t3])) = Hs at C4 items ⊢
    refine ⟨_, _, C4.at 0 rfl, rfl, fun J wk => ?_⟩
    refine for_it wk (fun i σ H' => ∃ v2 v3 v4 v5, σ = [some (.ref b), some (.bl bn), v2, v3, v4, v5] ∧ (∀ a o, imm o = true → Hs a = some o → H' a = some o) ∧ Chg [b] H H' [(l, .lst [.ref t1, .ref t2, .ref t3]), (b, o3)])
      ⟨none, none, none, none, rfl, fun _ _ _ e => e, C4⟩ (fun i σ H' _ q => ?_) ?_ ?_
    · obtain ⟨_, _, _, _, _, _, C⟩ := q
      exact C.at 0 rfl
    · rintro i y σ H5' H5 hi ⟨v2, v3, v4, v5, rfl, fx, C5⟩ ⟨rfl, hy⟩
      obtain ⟨t, p, w, rfl, ht, p3, p40, w20, w400⟩ := items i y hy
      refine ⟨t, _, rfl, .of (fx _ _ rfl ht), rfl, _, _, rfl, _, _, rfl, rfl, ?_⟩
      have in1 : inR (.int p) 3 40 = true := by simp only [inR, Bool.and_eq_true, decide_eq_true_eq]; omega
      have in2 : inR (.int w) 20 400 = true := by simp only [inR, Bool.and_eq_true, decide_eq_true_eq]; omega
      refine ⟨.int p, .int w, _, _, [], [], bn, rfl, .int _ (log_small (by omega)), .int _ (log_small (by omega)), fun e => by (rw [in1] at e; cases e), fun _ e => by (rw [in2] at e; cases e), fun p' w' e1 e2 _ _ _ _ r d dx la te wr H6 D6 => ?_⟩
      cases e1
      cases e2
      have C6 := C5.and D6
      refine ⟨_, C6.at 0 rfl, _, atI_of 0 rfl rfl, rfl, _, rfl, itN (by rw [decide_eq_true rfl]; rfl) ?_⟩
      refine ⟨_, C6.at 0 rfl, _, atI_of 1 rfl rfl, p, w, rfl, p3, p40, fun s tx kp H7 D7 => ?_⟩
      have C7 := C6.and D7
      have k7 : Ok H7 p w 0 (pr0 dx la te wr tx kp p) := ok0 p3 p40 w20 w400
      refine ⟨d, s, bn, p, w, 0, pr0 dx la te wr tx kp p, rfl, ((C7.pick [4, 6, 7, 0, 1, 2]).to (by rfl)).led, k7, by omega, fun H8 D8 => ⟨true, rfl, ?_⟩⟩
      have C8 := C7.and D8
      exact ⟨_, _, _, _, rfl, fun a o im e => D8.fix a o im (D7.fix a o im (D6.fix a o im (fx a o im e))), (C8.pick [8, 9]).to (by rfl)⟩
    · rintro σ H5 ⟨v2, v3, v4, v5, rfl, fx, C5⟩
      refine ⟨13, rfl, by decide, by decide, ?_⟩
      refine for_it walk_range (fun i σ H' => ∃ v2 v3 v4 v5, σ = [some (.ref b), some (.bl bn), v2, v3, v4, v5] ∧ Chg [b] H H' [(b, o3)])
        ⟨_, _, _, _, rfl, C5.pick [1]⟩ (fun _ _ _ _ _ => ⟨⟩) ?_ ?_
      · rintro i y σ H6' H6 hi ⟨v2, v3, v4, v5, rfl, C6⟩ ⟨rfl, rfl⟩
        have hi13 : i < 13 := by simpa using hi
        have in1 : inR (.int (3 + (0 + (i : Int)))) 3 40 = true := by simp only [inR, Bool.and_eq_true, decide_eq_true_eq]; omega
        refine ⟨i, 3, 40, by simp, .inl ⟨rfl, rfl⟩, fun v k M H7 bg hv D7 => ?_⟩
        have C7 : Chg [b] H H7 ([(b, o3)] ++ M) := C6.back D7
        refine ⟨v, .int _, k, _, M, [], bn, rfl, bg, .int (20 + (0 + (i : Int))) (log_small (by omega)), fun _ r H8 D8 => ⟨leS rfl, fun l2 hl2 => ?_⟩, fun e => by (rw [hv] at e; cases e), fun p' w' e1 _ p3 p40 => by (subst e1; simp only [inR, Bool.and_eq_false_iff, decide_eq_false_iff_not] at hv; omega)⟩
        have C8 := (C7.callM D8).add (o := .lst [.str "pages", .bl true]) hl2
        refine ⟨_, _, rs_dp (C8.at 1 rfl), rs_dp (C8.at 0 rfl), ev_pages.1, ev_pages.1, _, rfl, itN (by rw [ev_pages.2]; rfl) ?_⟩
        have C9 : Chg [b] H _ [(b, o3)] := C8.pick [2]
        refine ⟨i, 20, 400, by simp, .inr ⟨rfl, rfl⟩, fun v k M H10 bg hv D10 => ⟨_, rfl, ?_⟩⟩
        have C10 : Chg [b] H H10 ([(b, o3)] ++ M) := C9.back D10
        refine ⟨.int (3 + (0 + (i : Int))), v, _, k, [], M, !bn, rfl, .int _ (log_small (by omega)), bg, fun e => by (rw [in1] at e; cases e), fun _ _ r H8 D8 => ⟨leS rfl, fun l2 hl2 => ?_⟩, fun p' w' _ e1 _ _ w20 w400 => by (subst e1; simp only [inR, Bool.and_eq_false_iff, decide_eq_false_iff_not] at hv; omega)⟩
        have C11 := (C10.callM D8).add (o := .lst [.str "width", .bl true]) hl2
        refine ⟨_, _, rs_dp (C11.at 1 rfl), rs_dp (C11.at 0 rfl), ev_width.1, ev_width.1, _, rfl, itN (by rw [ev_width.2]; rfl) ?_⟩
        have C12 : Chg [b] H _ [(b, o3)] := C11.pick [2]
        refine ⟨12 - i, 3, 40, by simp; omega, .inl ⟨rfl, rfl⟩, fun v k M H13 bg hv D13 => ?_⟩
        have C13 : Chg [b] H H13 ([(b, o3)] ++ M) := C12.back D13
        refine ⟨i, 20, 400, by simp, .inr ⟨rfl, rfl⟩, fun v2 k2 N H14 bg2 hv2 D14 => ?_⟩
        have C14 : Chg [b] H H14 (([(b, o3)] ++ M) ++ N) := C13.back D14
        have bg14 : Bg H14 v k M := bg.up D14.fix fun q hq => C14.led.hp q (List.mem_append_left _ (List.mem_append_right _ hq))
        have C15 : Chg [b] H H14 (([(b, o3)] ++ N) ++ M) := C14.perm (by rw [List.append_assoc, List.append_assoc]; exact List.Perm.append_left _ List.perm_append_comm)
        refine ⟨v, v2, k, k2, M, N, bn, rfl, bg14, bg2, fun _ r H8 D8 => ⟨leS rfl, fun l2 hl2 => ?_⟩, fun e => by (rw [hv] at e; cases e), fun p' w' e1 _ p3 p40 => by (subst e1; simp only [inR, Bool.and_eq_false_iff, decide_eq_false_iff_not] at hv; omega)⟩
        have C16 := (C15.callM D8).add (o := .lst [.str "pages", .bl true]) hl2
        refine ⟨_, _, rs_dp (C16.at 1 rfl), rs_dp (C16.at 0 rfl), ev_pages.1, ev_pages.1, _, rfl, itN (by rw [ev_pages.2]; rfl) ?_⟩
        exact ⟨_, _, _, _, rfl, C16.pick [2]⟩
      · rintro σ H6 ⟨v2, v3, v4, v5, rfl, C6⟩
        exact h o3 H6 (bx3.le (by omega)) C6
def sp_long_right : Sp := fun vs H Q _ => ∃ (b : Addr) (n : Nat) (o : HO), vs = [.ref b] ∧ H b = some o ∧ Bx n o ∧ n ≤ 100000000 ∧ ∀ H', Chg [b] H H' [] → Q (.bl true) H'
theorem ok_law_long_right (Z : Wd K mg a c) : FnG false P w K mg base 8 (a 51).1 (a 51).2 ["box"] sp_long_right := by
  refine fun_okG Z.g_law_long_right.fn sc_law_long_right (fun vs H Q E h => ?_) (fun cdv A outer s H vs Q E hr h => ?_)
  · obtain ⟨b, n, o, rfl, _⟩ := h; rfl
  · obtain ⟨b, n, o, rfl, hb, bx, hn, h⟩ := h
    refine ⟨_, (pss_cons (ps_par (i := 1) (j := 2) (by rfl) sc_law_long_right.nd rfl rfl (by decide) rfl rfl (pa_cons (q_make Z.kd (by rfl) (ok_Disk_init Z) (hr.mono (by decide)) takes0 (pa_cons pe_int (pa_cons pe_int pa_nil))) (pa_cons (q_call Z.g_law_new (ok_law_new Z) (hr.mono (by decide)) takes0 (pa_cons pe_int (pa_cons pe_int pa_nil))) pa_nil)) rfl)
      (pss_cons (ps_for (passes_of rfl) (by rfl) (pi_range1 (by rfl) Z.n_range (pa_cons pe_int pa_nil)) (pg_name (i := 3) sc_law_long_right.nd rfl (Or.inl rfl))
      (pss_cons (ps_set (i := 4) sc_law_long_right.nd rfl (Or.inl rfl) (q_call Z.g_law_take (ok_law_take Z) (hr.mono (by decide)) takes0 (pa_cons (qv 0) (pa_cons pe_int pa_nil))))
      (pss_cons (ps_set (i := 5) sc_law_long_right.nd rfl (Or.inl rfl) (pe_ifExp (pt_cmpR (o_eq hr.u64) (qv 4) pe_int (nomark _)) (q_call Z.g_law_settle_right (ok_law_settle_right Z) (hr.mono (by decide)) takes0 (pa_cons (qv 1) (pa_cons (qv 2) pa_nil))) (q_call Z.g_law_write_right (ok_law_write_right Z) (hr.mono (by decide)) takes0 (pa_cons (qv 0) (pa_cons (qv 1) (pa_cons (qv 2) (pa_cons (pe_cmpR (o_eq hr.u64) (qv 4) pe_int (nomark _)) pa_nil)))))))
      (pss_one (ps_if (PW.pt (pw_or (pt_not (pt_val (qv 5))) (pw_or1 (PW.pt (pw_and (pt_cmpR (o_eq hr.u64) (pe_op o_mod (qv 3) pe_int) pe_int (nomark _)) (pw_and1 (pt_not (pt_val (q_call Z.g_law_state_right (ok_law_state_right Z) (hr.mono (by decide)) takes0 (pa_cons (qv 1) (pa_cons (qv 2) (pa_cons pe_bl pa_nil)))))))))))) (pss_one (ps_ret pe_bl)) pss_nil)))))
      (pss_one (ps_ret (q_call Z.g_law_stopped_right (ok_law_stopped_right Z) (hr.mono (by decide)) takes0 (pa_cons (qv 0) (pa_cons (qv 1) (pa_cons (qv 2) (pa_cons pe_bl pa_nil))))))))), ?_⟩
    have C0 : Chg [b] H H [(b, o)] := .of (.one hb)
    refine fun d dx nx ndx ne => ?_
    have C1 := (C0.skip (o := .own d) ndx).add (p := d) (o := .ins (c 8) dx []) (by rw [upd_ne ne.symm]; exact nx)
    refine ⟨d, dx, .int 40, .int 400, _, _, rfl, upd_same, .int 40, .int 400, fun z => (nomatch z), fun _ z => (nomatch z), fun p' w' ep ew _ _ _ _ la te wr H2 D2 => ⟨rfl, ?_⟩⟩
    cases ep
    cases ew
    have C2 := C1.call [0] D2
    refine ⟨40, 400, rfl, by decide, by decide, fun s tx kp H3 D3 => ⟨_, _, rfl, ?_⟩⟩
    have C3 : Chg [b] H H3 ((b, o) :: cel c d s 40 400 (pr0 dx la te wr tx kp 40)) := ((C2.and D3).pick [7, 6, 4, 3, 0, 1, 2]).to (by rfl)
    refine ⟨300, rfl, by decide, by decide, ?_⟩
    refine for_it walk_range (fun i σ H' => ∃ o' x' v3 v4 v5, σ = [some (.ref b), some (.ref d), some (.ref s), v3, v4, v5] ∧ Bx (n + 12 * i) o' ∧ Ok H' 40 400 i x' ∧ Chg [b] H H' ((b, o') :: cel c d s 40 400 x'))
      ⟨o, _, none, none, none, rfl, bx, ok0 (by decide) (by decide) (by decide) (by decide), C3⟩ (fun _ _ _ _ _ => ⟨⟩) ?_ ?_
    · rintro i y σ H4' H4 hi ⟨o4, x4, v3, v4, v5, rfl, bx4, ok4, C4⟩ ⟨rfl, rfl⟩
      have hi3 : i < 300 := by simpa using hi
      refine ⟨b, o4, n + 12 * i, 30, rfl, C4.at 0 rfl, bx4, by omega, by decide, by decide, fun v o5 H5 v0 v1 bx5 D5 => ⟨rfl, _, rfl, ?_⟩⟩
      have C5 : Chg [b] H H5 ((b, o5) :: cel c d s 40 400 x4) := C4.call [0] D5
      have ok5 := ok4.up D5.fix (m := i)
      by_cases q0 : v = 0
      case' pos =>
        refine itP (decide_eq_true (congrArg V.int q0)) ?_
        refine ⟨d, s, 40, 400, i, x4, rfl, (C5.pick [1, 2, 3, 4, 5, 6]).led, ok5, fun x6 H6 ok6 D6 => ?_⟩
        have C6 : Chg [b] H H6 ((b, o5) :: cel c d s 40 400 x6) := ((C5.call [1, 2, 3, 4, 5, 6] D6).pick [6, 0, 1, 2, 3, 4, 5]).to (by rfl)
        have bx6 : Bx (n + 12 * (i + 1)) o5 := bx5.le (by omega)
        have ok6 : Ok H6 40 400 (i + 1) x6 := ok6.up (fun _ _ _ e => e)
      case' neg =>
        refine itN (decide_eq_false (fun e => q0 (V.int.inj e))) ?_
        refine ⟨rfl, b, d, s, _, 40, 400, n + 12 * i + 1, i, x4, o5, rfl, C5.led, bx5, by omega, ok5, by omega, fun o6 x6 H6 bx6 ok6 D6 => ?_⟩
        have C6 : Chg [b] H H6 ((b, o6) :: cel c d s 40 400 x6) := (C5.call [0, 1, 2, 3, 4, 5, 6] D6).to (by rfl)
        have bx6 : Bx (n + 12 * (i + 1)) o6 := bx6.le (by omega)
      all_goals
        refine ⟨true, rfl, ?_⟩
        refine ⟨by show (0 : Int) < 60; decide, rfl, _, rfl, ?_⟩
        by_cases q5 : ((0 : Int) + (i : Int)) % 60 = 59
        · refine itP (decide_eq_true (congrArg V.int q5)) ?_
          refine ⟨d, s, true, 40, 400, i + 1, x6, rfl, (C6.pick [1, 2, 3, 4, 5, 6]).led, ok6, by omega, fun H7 D7 => ⟨true, rfl, ?_⟩⟩
          have C7 : Chg [b] H H7 ((b, _) :: cel c d s 40 400 x6) := C6.and D7
          exact ⟨_, x6, _, _, _, rfl, bx6, ok6.up D7.fix, C7⟩
        · refine itN (decide_eq_false (fun e => q5 (V.int.inj e))) ?_
          exact ⟨_, x6, _, _, _, rfl, bx6, ok6, C6⟩
    · rintro σ H4 ⟨o4, x4, v3, v4, v5, rfl, bx4, ok4, C4⟩
      have e300 : (300 : Int).toNat = 300 := rfl
      rw [e300] at bx4 ok4
      refine ⟨b, d, s, false, 40, 400, n + 12 * 300, 300, x4, o4, rfl, C4.led, bx4, by omega, ok4, by omega, fun o5 x5 H5 bx5 ok5 D5 => ?_⟩
      exact h H5 ((C4.call [0, 1, 2, 3, 4, 5, 6] D5).sub (List.nil_sublist _))
end
end Ks

/-! KsPa: two disks by turns. -/
namespace Ks
open PySem PySem.Spec PyProof.Rows L2 PySem.W
/-- a disk and its state, listed at q -/
structure Pd where
  d : Addr
  s : Addr
  q : Addr
  p : Int
  w : Int
  x : Pr
abbrev cp (c : Nat → Addr) (X : Pd) : Cells := cel c X.d X.s X.p X.w X.x ++ [(X.q, .lst [.ref X.d, .ref X.s])]
abbrev frt (c : Nat → Addr) (b : Addr) (o : HO) (X Y : Pd) (ps q0 q1 hl : Addr) (hs : List V) : Cells :=
  (b, o) :: (cp c X ++ cp c Y ++ [(ps, .lst [.ref q0, .ref q1]), (hl, .lst hs)])
/-- what is held of told lists -/
def Hd (hs : List V) (G : Cells) : Prop := ∀ y ∈ hs, ∃ e t xs, y = V.ref e ∧ (e, HO.lst [.ref t, .str (PyData.list (xs.map flD)).shown]) ∈ G ∧ (t, HO.lst xs) ∈ G ∧ (∀ x ∈ xs, ∃ i : Int, x = .int i ∧ i.natAbs < 2 ^ 200) ∧ xs.length ≤ 8000
theorem Hd.more {hs : List V} {G : Cells} {e t : Addr} {xs : List V} (h : Hd hs G) (f : ∀ x ∈ xs, ∃ i : Int, x = .int i ∧ i.natAbs < 2 ^ 200) (n : xs.length ≤ 8000) : Hd (hs ++ [.ref e]) ([(e, .lst [.ref t, .str (PyData.list (xs.map flD)).shown]), (t, .lst xs)] ++ G) := fun y hy => by
  rcases List.mem_append.mp hy with q | q
  · obtain ⟨e', t', xs', h1, h2, h3, h4, h5⟩ := h y q
    exact ⟨e', t', xs', h1, List.mem_append_right _ h2, List.mem_append_right _ h3, h4, h5⟩
  · rw [List.mem_singleton] at q
    exact ⟨e, t, xs, q, by simp, by simp, f, n⟩
theorem Chg.pickT {A : List Addr} {H0 H : Hp} {L M : Cells} (C : Chg A H0 H (L ++ M)) (is : List Nat) (nd : is.Nodup := by decide) : Chg A H0 H (Ks.pick L is ++ M) := by
  have mem : ∀ p ∈ Ks.pick L is, p ∈ L := fun p hp => by
    obtain ⟨i, _, e⟩ := mem_pick hp
    exact List.mem_of_getElem? e
  refine ⟨C.keep, C.fix, C.new, ⟨?_, fun p hp => ?_⟩, fun p hp => ?_⟩
  · have h := C.led.nd
    rw [List.map_append] at h ⊢
    obtain ⟨h1, h2, h3⟩ := List.nodup_append.mp h
    refine List.nodup_append.mpr ⟨nd_pick h1 nd, h2, fun x hx y hy => ?_⟩
    obtain ⟨p, hp, e⟩ := List.mem_map.mp hx
    exact h3 x (List.mem_map.mpr ⟨p, mem p hp, e⟩) y hy
  · rcases List.mem_append.mp hp with q | q
    · exact C.led.hp p (List.mem_append_left _ (mem p q))
    · exact C.led.hp p (List.mem_append_right _ q)
  · rcases List.mem_append.mp hp with q | q
    · exact C.own p (List.mem_append_left _ (mem p q))
    · exact C.own p (List.mem_append_right _ q)
theorem ev_nil : SeqAt.shaped (.list []) = true ∧ PyData.eqv (.list []) (.list []) = true := by decide +kernel
theorem at2 {q0 q1 : Addr} {v : Int} (v0 : 0 ≤ v) (v1 : v < 2) : atI [V.ref q0, V.ref q1] v = some (.ref (if v = 0 then q0 else q1)) := by
  by_cases e : v = 0
  · rw [if_pos e]; exact atI_of 0 (by omega) rfl
  · rw [if_neg e]; exact atI_of 1 (by omega) rfl
section
variable {c : Nat → Addr} {b : Addr} {A : List Addr} {H0 H : Hp} {o : HO} {X Y : Pd} {ps q0 q1 hl : Addr} {hs : List V} {G : Cells} {n : Nat}
/-- two pairs in any order: the v-th one ahead -/
theorem arr (v : Int) (v0 : 0 ≤ v) (v1 : v < 2) (oX : Ok H X.p X.w n X.x) (oY : Ok H Y.p Y.w n Y.x) (od : X.q = q0 ∧ Y.q = q1 ∨ X.q = q1 ∧ Y.q = q0) (C : Chg A H0 H (frt c b o X Y ps q0 q1 hl hs ++ G)) :
    ∃ X' Y', Ok H X'.p X'.w n X'.x ∧ Ok H Y'.p Y'.w n Y'.x ∧ (X'.q = q0 ∧ Y'.q = q1 ∨ X'.q = q1 ∧ Y'.q = q0) ∧ atI [V.ref q0, V.ref q1] v = some (.ref X'.q) ∧ atI [V.ref q0, V.ref q1] (1 - v) = some (.ref Y'.q) ∧ Chg A H0 H (frt c b o X' Y' ps q0 q1 hl hs ++ G) := by
  have e1 := at2 (q0 := q0) (q1 := q1) v0 v1
  have e2 := at2 (q0 := q0) (q1 := q1) (v := 1 - v) (by omega) (by omega)
  have sw : Chg A H0 H (frt c b o Y X ps q0 q1 hl hs ++ G) := (C.pickT [0, 8, 9, 10, 11, 12, 13, 14, 1, 2, 3, 4, 5, 6, 7, 15, 16]).to (by rfl)
  by_cases hv : v = 0
  · rw [if_pos hv] at e1
    rw [if_neg (by omega)] at e2
    rcases od with ⟨x1, y1⟩ | ⟨x1, y1⟩
    · exact ⟨X, Y, oX, oY, .inl ⟨x1, y1⟩, by rw [x1]; exact e1, by rw [y1]; exact e2, C⟩
    · exact ⟨Y, X, oY, oX, .inl ⟨y1, x1⟩, by rw [y1]; exact e1, by rw [x1]; exact e2, sw⟩
  · rw [if_neg hv] at e1
    rw [if_pos (by omega)] at e2
    rcases od with ⟨x1, y1⟩ | ⟨x1, y1⟩
    · exact ⟨Y, X, oY, oX, .inr ⟨y1, x1⟩, by rw [y1]; exact e1, by rw [x1]; exact e2, sw⟩
    · exact ⟨X, Y, oX, oY, .inr ⟨x1, y1⟩, by rw [x1]; exact e1, by rw [y1]; exact e2, C⟩
end
section
variable {P : Program} {w : World} {K : PySem.W.Frag} {mg : Str → Option Value} {base : Heap} {a : Nat → Addr × FuncData} {c : Nat → Addr}
def sp_pair_right : Sp := fun vs H Q _ => ∃ (b : Addr) (n : Nat) (o : HO), vs = [.ref b] ∧ H b = some o ∧ Bx n o ∧ n ≤ 1000 ∧ ∀ H', Chg [b] H H' [] → Q (.bl true) H'
theorem ok_law_pair_right (Z : Wd K mg a c) : FnG false P w K mg base 8 (a 50).1 (a 50).2 ["box"] sp_pair_right := by
  refine fun_okG Z.g_law_pair_right.fn sc_law_pair_right (fun vs H Q E h => ?_) (fun cdv A outer s H vs Q E hr h => ?_)
  · obtain ⟨b, n, o, rfl, _⟩ := h; rfl
  · obtain ⟨b, n, o, rfl, hb, bx, hn, h⟩ := h
    refine ⟨_, (pss_cons (ps_set (i := 1) sc_law_pair_right.nd rfl (Or.inr rfl) (pe_cmpR (o_eq hr.u64) (q_call Z.g_law_take (ok_law_take Z) (hr.mono (by decide)) takes0 (pa_cons (qv 0) (pa_cons pe_int pa_nil))) pe_int (nomark _)))
      (pss_cons (ps_set (i := 2) sc_law_pair_right.nd rfl (Or.inl rfl) (pe_lst (pa_cons (pe_tup (pa_cons (pe_op o_add pe_int (q_call Z.g_law_take (ok_law_take Z) (hr.mono (by decide)) takes0 (pa_cons (qv 0) (pa_cons pe_int pa_nil)))) (pa_cons (pe_op o_add pe_int (q_call Z.g_law_take (ok_law_take Z) (hr.mono (by decide)) takes0 (pa_cons (qv 0) (pa_cons pe_int pa_nil)))) pa_nil))) (pa_cons (pe_tup (pa_cons (pe_op o_add pe_int (q_call Z.g_law_take (ok_law_take Z) (hr.mono (by decide)) takes0 (pa_cons (qv 0) (pa_cons pe_int pa_nil)))) (pa_cons (pe_op o_add pe_int (q_call Z.g_law_take (ok_law_take Z) (hr.mono (by decide)) takes0 (pa_cons (qv 0) (pa_cons pe_int pa_nil)))) pa_nil))) pa_nil))))
      (pss_cons (ps_setLc (i := 3) (own := [("pages", 11), ("width", 12)]) (by rfl) sc_law_pair_right.nd rfl rfl (sw_true rfl rfl rfl (by decide +kernel)) (pi_seq (qv 2)) (blkOk_by (N := ["box", "by_name", "sizes", "pairs", "held", "turn", "which", "disk", "state", "other", "told", "pages", "width", "text"]) (sc := defScope s_law_pair_right) (by decide +kernel)) (fun _ _ _ _ _ => (pg_tupK (n := 2) K rfl (by rfl) (pgs_cons (pg_name (i := 11) sc_law_pair_right.nd rfl (Or.inl rfl)) (pgs_cons (pg_name (i := 12) sc_law_pair_right.nd rfl (Or.inl rfl)) pgs_nil)))) (fun _ _ _ _ _ => pts_nil) (fun _ _ _ _ _ => (pe_lst (pa_cons (q_make Z.kd (by rfl) (ok_Disk_init Z) (hr.mono (by decide)) takes0 (pa_cons (qv 11) (pa_cons (qv 12) pa_nil))) (pa_cons (q_call Z.g_law_new (ok_law_new Z) (hr.mono (by decide)) takes0 (pa_cons (qv 11) (pa_cons (qv 12) pa_nil))) pa_nil)))))
      (pss_cons (ps_set (i := 4) sc_law_pair_right.nd rfl (Or.inl rfl) (pe_lst pa_nil))
      (pss_cons (ps_for (passes_of rfl) (by rfl) (pi_range1 (by rfl) Z.n_range (pa_cons (pe_op o_add pe_int (q_call Z.g_law_take (ok_law_take Z) (hr.mono (by decide)) takes0 (pa_cons (qv 0) (pa_cons pe_int pa_nil)))) pa_nil)) (pg_name (i := 5) sc_law_pair_right.nd rfl (Or.inl rfl))
      (pss_cons (ps_set (i := 6) sc_law_pair_right.nd rfl (Or.inl rfl) (q_call Z.g_law_take (ok_law_take Z) (hr.mono (by decide)) takes0 (pa_cons (qv 0) (pa_cons pe_int pa_nil))))
      (pss_cons (ps_asg (pe_ix ix_d (qv 3) (qv 6) (fun _ _ => rfl)) (pg_unl (n := 2) (by rfl) (pgs_cons (pg_name (i := 7) sc_law_pair_right.nd rfl (Or.inl rfl)) (pgs_cons (pg_name (i := 8) sc_law_pair_right.nd rfl (Or.inl rfl)) pgs_nil))))
      (pss_cons (ps_if (PW.pt (pw_or (pt_not (pt_val (q_call Z.g_law_deed_right (ok_law_deed_right Z) (hr.mono (by decide)) takes0 (pa_cons (qv 0) (pa_cons (qv 7) (pa_cons (qv 8) (pa_cons (qv 1) pa_nil))))))) (pw_or1 (pt_not (pt_val (q_call Z.g_law_state_right (ok_law_state_right Z) (hr.mono (by decide)) takes0 (pa_cons (qv 7) (pa_cons (qv 8) (pa_cons (qv 1) pa_nil))))))))) (pss_one (ps_ret pe_bl)) pss_nil)
      (pss_cons (ps_set (i := 9) sc_law_pair_right.nd rfl (Or.inl rfl) (pe_ix ix_d (qv 3) (pe_op o_sub pe_int (qv 6)) (fun _ _ => rfl)))
      (pss_cons (ps_if (PW.pt (pw_and (pt_cmpR (o_eq hr.u64) (pe_op o_mod (qv 5) pe_int) pe_int (nomark _)) (pw_and1 (pt_not (pt_val (q_call Z.g_law_state_right (ok_law_state_right Z) (hr.mono (by decide)) takes0 (pa_cons (pe_ix ix_d (qv 9) pe_int (fun _ _ => rfl)) (pa_cons (pe_ix ix_d (qv 9) pe_int (fun _ _ => rfl)) (pa_cons (qv 1) pa_nil))))))))) (pss_one (ps_ret pe_bl)) pss_nil)
      (pss_cons (ps_if (pt_cmpR (o_eq hr.u64) (pe_op o_mod (qv 5) pe_int) pe_int (nomark _)) (pss_cons (ps_set (i := 10) sc_law_pair_right.nd rfl (Or.inl rfl) (q_meth0 Z.m_loose (ok_Disk_loose Z) (hr.mono (by decide)) takes0 (qv 7)))
      (pss_one (ps_expr (q_lm PySem.F.slot_list_append PySem.F.type_list_append m_append (qv 4) (pa_cons (pe_lst (pa_cons (qv 10) (pa_cons (pe_callB (c_reprK K rfl hr.u64 hr.gd) (by rfl) Z.n_repr bt_repr (pa_cons (pe_ix ix_d (qv 8) pe_int (fun _ _ => rfl)) pa_nil)) pa_nil))) pa_nil))))) pss_nil)
      (pss_one (ps_set (i := 1) sc_law_pair_right.nd rfl (Or.inr rfl) (pe_not (qv 1)))))))))))
      (pss_cons (ps_for (passes_of rfl) (by rfl) (pi_seq (qv 3)) (pg_unl (n := 2) (by rfl) (pgs_cons (pg_name (i := 7) sc_law_pair_right.nd rfl (Or.inl rfl)) (pgs_cons (pg_name (i := 8) sc_law_pair_right.nd rfl (Or.inl rfl)) pgs_nil)))
      (pss_one (ps_if (PW.pt (pw_or (pt_not (pt_val (q_call Z.g_law_stopped_right (ok_law_stopped_right Z) (hr.mono (by decide)) takes0 (pa_cons (qv 0) (pa_cons (qv 7) (pa_cons (qv 8) (pa_cons (qv 1) pa_nil))))))) (pw_or1 (pt_not (pt_val (q_call Z.g_law_settle_right (ok_law_settle_right Z) (hr.mono (by decide)) takes0 (pa_cons (qv 7) (pa_cons (qv 8) pa_nil)))))))) (pss_one (ps_ret pe_bl)) pss_nil)))
      (pss_cons (ps_if (pt_not (pt_val (pe_callB (c_all (by rfl)) (by rfl) Z.n_all bt_all (pa_cons (pe_lc (own := [("disk", 7), ("state", 8)]) (by rfl) sc_law_pair_right.nd (pi_seq (qv 3)) (blkOk_by (N := ["box", "by_name", "sizes", "pairs", "held", "turn", "which", "disk", "state", "other", "told", "pages", "width", "text"]) (sc := defScope s_law_pair_right) (by decide +kernel)) (fun _ _ _ _ _ => (pg_unlK (n := 2) K rfl (by rfl) (pgs_cons (pg_name (i := 7) sc_law_pair_right.nd rfl (Or.inl rfl)) (pgs_cons (pg_name (i := 8) sc_law_pair_right.nd rfl (Or.inl rfl)) pgs_nil)))) (fun _ _ _ _ _ => pts_nil) (fun _ _ _ _ _ => (q_call Z.g_law_state_right (ok_law_state_right Z) (hr.mono (by decide)) takes0 (pa_cons (qv 7) (pa_cons (qv 8) (pa_cons (qv 1) pa_nil)))))) pa_nil)))) (pss_one (ps_ret pe_bl)) pss_nil)
      (pss_one (ps_ret (pe_cmpR (o_eq hr.u64) (pe_lc (own := [("told", 10), ("text", 13)]) (by rfl) sc_law_pair_right.nd (pi_seq (qv 4)) (blkOk_by (N := ["box", "by_name", "sizes", "pairs", "held", "turn", "which", "disk", "state", "other", "told", "pages", "width", "text"]) (sc := defScope s_law_pair_right) (by decide +kernel)) (fun _ _ _ _ _ => (pg_unlK (n := 2) K rfl (by rfl) (pgs_cons (pg_name (i := 10) sc_law_pair_right.nd rfl (Or.inl rfl)) (pgs_cons (pg_name (i := 13) sc_law_pair_right.nd rfl (Or.inl rfl)) pgs_nil)))) (fun _ _ _ _ _ => (pts_one (pt_cmpR (o_neK K rfl hr.u64) (pe_callB (c_reprK K rfl hr.u64 hr.gd) (by rfl) Z.n_repr bt_repr (pa_cons (qv 10) pa_nil)) (qv 13) (nomark _)))) (fun _ _ _ _ _ => pe_int)) (pe_lst pa_nil) (nomark _))))))))))), ?_⟩
    have C0 : Chg [b] H H [(b, o)] := .of (.one hb)
    refine ⟨b, o, n, 2, rfl, C0.at 0 rfl, bx, by omega, by decide, by decide, fun v o1 H1 v0 v1 bx1 D1 => ⟨rfl, ?_⟩⟩
    generalize hbn : decide (V.int v = V.int 1) = bn0
    have C1 : Chg [b] H H1 [(b, o1)] := C0.call [0] D1
    refine ⟨b, o1, n + 1, 5, rfl, C1.at 0 rfl, bx1, by omega, by decide, by decide, fun u1 o2 H2 u10 u11 bx2 D2 => ?_⟩
    have C2 : Chg [b] H H2 [(b, o2)] := C1.call [0] D2
    refine ⟨b, o2, n + 1 + 1, 20, rfl, C2.at 0 rfl, bx2, by omega, by decide, by decide, fun u2 o3 H3 u20 u21 bx3 D3 => ⟨leS rfl, fun t1 n1 => ?_⟩⟩
    have C3 := (C2.call [0] D3).add (o := .tup [.int (3 + u1), .int (20 + u2)]) n1
    refine ⟨b, o3, n + 1 + 1 + 1, 38, rfl, C3.at 1 rfl, bx3, by omega, by decide, by decide, fun u3 o4 H4 u30 u31 bx4 D4 => ?_⟩
    have C4 := C3.call [1] D4
    refine ⟨b, o4, n + 1 + 1 + 1 + 1, 381, rfl, C4.at 0 rfl, bx4, by omega, by decide, by decide, fun u4 o5 H5 u40 u41 bx5 D5 => ⟨leS rfl, fun t2 n2 => ⟨leS rfl, fun l nl => ?_⟩⟩⟩
    have C5 := ((C4.call [0] D5).add (o := .tup [.int (3 + u3), .int (20 + u4)]) n2).add (o := .lst [.ref t1, .ref t2]) nl
    have C6 := C5.pick [0, 3, 1, 2]
    generalize upd (upd H5 t2 (.tup [.int (3 + u3), .int (20 + u4)])) l (.lst [.ref t1, .ref t2]) = H6 at C6 ⊢
    have C6 : Chg [b] H H6 [(l, .lst [.ref t1, .ref t2]), (t1, .tup [.int (3 + u1), .int (20 + u2)]), (t2, .tup [.int (3 + u3), .int (20 + u4)]), (b, o5)] := C6
    refine ⟨_, _, C6.at 0 rfl, rfl, fun J wk D hD => ?_⟩
    have items : ∀ (i : Nat) y, ([V.ref t1, .ref t2])[i]? = some y → ∃ t p w, y = .ref t ∧ (t, HO.tup [.int p, .int w]) ∈ [(l, HO.lst [.ref t1, .ref t2]), (t1, .tup [.int (3 + u1), .int (20 + u2)]), (t2, .tup [.int (3 + u3), .int (20 + u4)]), (b, o5)] ∧ 3 ≤ p ∧ p ≤ 40 ∧ 20 ≤ w ∧ w ≤ 400 := fun i y hy => by
      match i, hy with
      | 0, hy => cases hy; exact ⟨t1, 3 + u1, 20 + u2, rfl, by simp, by omega, by omega, by omega, by omega⟩
      | 1, hy => cases hy; exact ⟨t2, 3 + u3, 20 + u4, rfl, by simp, by omega, by omega, by omega, by omega⟩
    refine lc_led wk (S := List Pd) (A := [b]) (H0 := H) (fun z => z.flatMap (cp c) ++ [(l, .lst [.ref t1, .ref t2]), (t1, .tup [.int (3 + u1), .int (20 + u2)]), (t2, .tup [.int (3 + u3), .int (20 + u4)]), (b, o5)])
      (fun i z acc => z.length = i ∧ acc = z.reverse.map (fun X => V.ref X.q) ∧ ∀ X ∈ z, ∀ H, Ok H X.p X.w 0 X.x) [] hD C6 ⟨rfl, rfl, fun _ h => nomatch h⟩ (leS rfl) (fun i z acc q => ?_) (fun i z acc H7 q C => ?_) ?_ ?_
    · rw [q.2.1, List.length_map, List.length_reverse, q.1]; omega
    · exact C.led.hp _ (List.mem_cons_of_mem _ (List.mem_append_right _ List.mem_cons_self))
    · rintro i y H7' H7 z acc Qk Nk hi ⟨hz, ha, hf⟩ C ⟨rfl, hy⟩ k1 k2
      obtain ⟨t, p, w, rfl, ht, p3, p40, w20, w400⟩ := items i y hy
      have ht7 := C.led.hp _ (List.mem_cons_of_mem _ (List.mem_append_right _ ht))
      refine ⟨t, _, rfl, .of ht7, rfl, _, _, rfl, _, _, rfl, rfl, rfl, ?_⟩
      refine fun d dx nx ndx ne => ?_
      have C8 := (C.skip (o := .own d) ndx).add (p := d) (o := .ins (c 8) dx []) (by rw [upd_ne ne.symm]; exact nx)
      have in1 : inR (.int p) 3 40 = true := by simp only [inR, Bool.and_eq_true, decide_eq_true_eq]; omega
      have in2 : inR (.int w) 20 400 = true := by simp only [inR, Bool.and_eq_true, decide_eq_true_eq]; omega
      refine ⟨d, dx, .int p, .int w, _, _, rfl, upd_same, .int p, .int w, fun z => by (rw [in1] at z; cases z), fun _ z => by (rw [in2] at z; cases z), fun p' w' ep ew _ _ _ _ la te wr H9 D9 => ⟨rfl, ?_⟩⟩
      cases ep
      cases ew
      have C9 := Chg.callL (M := [(d, .ins (c 8) dx [])]) C8 D9
      refine ⟨p, w, rfl, p3, p40, fun s tx kp H10 D10 => ⟨leS rfl, fun q hq => ?_⟩⟩
      have C10 := (C9.and D10).add (o := .lst [.ref d, .ref s]) hq
      have C11 := Chg.pickT (L := [(q, .lst [.ref d, .ref s]), (s, _), (tx, _), (kp, _), (wr, _), (te, _), (la, _), (d, _), (D, .lst acc)]) (M := z.flatMap (cp c) ++ [(l, .lst [.ref t1, .ref t2]), (t1, .tup [.int (3 + u1), .int (20 + u2)]), (t2, .tup [.int (3 + u3), .int (20 + u4)]), (b, o5)]) C10 [8, 7, 5, 4, 1, 2, 3, 0]
      refine k1 (⟨d, s, q, p, w, pr0 dx la te wr tx kp p⟩ :: z) (.ref q) _ ⟨by rw [List.length_cons, hz], by rw [ha, List.reverse_cons, List.map_append]; rfl, fun X hX => ?_⟩ (C11.to ?_)
      · rcases List.mem_cons.mp hX with e | e
        · subst e
          exact fun H => ok0 p3 p40 w20 w400
        · exact hf X e
      · rw [List.flatMap_cons, List.append_assoc, emp_eq]; rfl
    · rintro H7 z acc ⟨hz, ha, hf⟩ C7
      obtain ⟨X1, X0, rfl⟩ : ∃ X1 X0, z = [X1, X0] := by
        match z, hz with
        | [X1, X0], _ => exact ⟨X1, X0, rfl⟩
      subst ha
      have k0 := hf X0 (by simp) H7
      have k1 := hf X1 (by simp) H7
      refine ⟨leS rfl, fun hl hhl => ?_⟩
      have C8 := C7.add (o := .lst []) hhl
      have C9 : Chg [b] H _ (frt c b o5 X0 X1 D X0.q X1.q hl [] ++ []) := (C8.pick [19, 9, 10, 11, 12, 13, 14, 15, 2, 3, 4, 5, 6, 7, 8, 1, 0]).to (by rfl)
      generalize hq0 : X0.q = q0 at C9
      generalize hq1 : X1.q = q1 at C9
      refine ⟨b, o5, n + 5, 8, rfl, C9.at 0 rfl, bx5, by omega, by decide, by decide, fun u o10 H10 u0 u1 bx10 D10 => ?_⟩
      have C10 : Chg [b] H H10 (frt c b o10 X0 X1 D q0 q1 hl [] ++ []) := (C9.call [0] D10).to (by rfl)
      refine ⟨_, rfl, by omega, by omega, ?_⟩
      refine for_it walk_range (fun i σ H' => ∃ o' X Y hs G bn v5 v6 v7 v8 v9 v10, σ = [some (.ref b), some (.bl bn), some (.ref l), some (.ref D), some (.ref hl), v5, v6, v7, v8, v9, v10, none, none, none] ∧
          Bx (n + 6 + 62 * i) o' ∧ Ok H' X.p X.w i X.x ∧ Ok H' Y.p Y.w i Y.x ∧ (X.q = q0 ∧ Y.q = q1 ∨ X.q = q1 ∧ Y.q = q0) ∧ Hd hs G ∧ hs.length ≤ i ∧ Chg [b] H H' (frt c b o' X Y D q0 q1 hl hs ++ G))
        ⟨o10, X0, X1, [], [], bn0, none, none, none, none, none, none, rfl, bx10, hf X0 (by simp) H10, hf X1 (by simp) H10, .inl ⟨hq0, hq1⟩, fun y hy => (nomatch hy), Nat.le_refl _, C10⟩ (fun _ _ _ _ _ => ⟨⟩) ?_ ?_
      · rintro i y σ H11' H11 hi ⟨o11, X, Y, hs, G, bn, v5, v6, v7, v8, v9, v10, rfl, bx11, oX, oY, od, hd, hlen, C11⟩ ⟨rfl, rfl⟩
        have hi16 : i < 16 := by omega
        refine ⟨b, o11, n + 6 + 62 * i, 2, rfl, C11.at 0 rfl, bx11, by omega, by decide, by decide, fun v o12 H12 v0 v1 bx12 D12 => ?_⟩
        have C12 : Chg [b] H H12 (frt c b o12 X Y D q0 q1 hl hs ++ G) := C11.callT [0] D12
        obtain ⟨X, Y, oX, oY, od, a1, a2, C12⟩ := arr v v0 v1 (oX.up D12.fix (m := i)) (oY.up D12.fix (m := i)) od C12
        refine ⟨_, C12.at 15 rfl, _, a1, X.q, _, rfl, .of (C12.at 7 rfl), rfl, _, _, rfl, _, _, rfl, rfl, ?_⟩
        refine ⟨b, X.d, X.s, bn, X.p, X.w, n + 6 + 62 * i + 1, i, X.x, o12, rfl, (C12.pick [0, 1, 2, 3, 4, 5, 6]).led, bx12, by omega, oX, by omega, fun o13 x13 H13 bx13 oX13 D13 => ⟨true, rfl, ?_⟩⟩
        have C13 : Chg [b] H H13 (frt c b o13 { X with x := x13 } Y D q0 q1 hl hs ++ G) := C12.callT [0, 1, 2, 3, 4, 5, 6] D13
        refine ⟨X.d, X.s, bn, X.p, X.w, i + 1, x13, rfl, (C13.pick [1, 2, 3, 4, 5, 6]).led, oX13, by omega, fun H14 D14 => ⟨true, rfl, ?_⟩⟩
        have C14 : Chg [b] H H14 (frt c b o13 { X with x := x13 } Y D q0 q1 hl hs ++ G) := C13.and D14
        have oX14 : Ok H14 X.p X.w (i + 1) x13 := oX13.up D14.fix
        have oY14 : Ok H14 Y.p Y.w (i + 1) Y.x := (oY.up D13.fix (m := i)).up D14.fix
        refine ⟨_, C14.at 15 rfl, _, a2, ?_⟩
        refine ⟨by show (0 : Int) < 3; decide, rfl, _, rfl, ?_⟩
        by_cases q3 : ((0 : Int) + (i : Int)) % 3 = 0
        case' pos =>
          refine itP (decide_eq_true (congrArg V.int q3)) ?_
          refine ⟨_, C14.at 14 rfl, _, atI_of 0 rfl rfl, _, C14.at 14 rfl, _, atI_of 1 rfl rfl, Y.d, Y.s, bn, Y.p, Y.w, i + 1, Y.x, rfl, (C14.pick [8, 9, 10, 11, 12, 13]).led, oY14, by omega, fun H15 D15 => ⟨true, rfl, ?_⟩⟩
          have C15 : Chg [b] H H15 (frt c b o13 { X with x := x13 } Y D q0 q1 hl hs ++ G) := C14.and D15
          have oX15 : Ok H15 X.p X.w (i + 1) x13 := oX14.up D15.fix
          have oY15 : Ok H15 Y.p Y.w (i + 1) Y.x := oY14.up D15.fix
        case' neg =>
          refine itN (decide_eq_false (fun e => q3 (V.int.inj e))) ?_
          have C15 := C14
          have oX15 := oX14
          have oY15 := oY14
        all_goals
          refine ⟨by show (0 : Int) < 4; decide, rfl, _, rfl, ?_⟩
          by_cases q4 : ((0 : Int) + (i : Int)) % 4 = 1
          · refine itP (decide_eq_true (congrArg V.int q4)) ?_
            have hWl : x13.W.length ≤ 10000 := by have := oX15.hn; omega
            have fW : ∀ y ∈ x13.W.map (fun w => V.int w.1), ∃ i : Int, y = .int i ∧ i.natAbs < 2 ^ 200 := fun y hy => by
              obtain ⟨z, hz, rfl⟩ := List.mem_map.mp hy
              have := oX15.hw z hz
              have := oX15.p40
              exact ⟨_, rfl, by omega⟩
            have lW : (x13.W.map (fun w => V.int w.1)).length ≤ 8000 := by rw [List.length_map]; have := oX15.hn; omega
            refine ⟨⟨_, _, C15.at 1 rfl, lk_none _ (by simp)⟩, X.d, _, X.p, X.w, _, _, _, _, x13.R, x13.W, rfl, C15.at 1 rfl, C15.at 3 rfl, oX15.hW, hWl, fun t H16 D16 => ?_⟩
            have C16 := C15.and D16
            refine ⟨⟨_, C16.at 17 rfl⟩, _, C16.at 5 rfl, _, atI_of 3 rfl rfl, _, RpZ.ints (C16.at 7 rfl) fW lW, leS rfl, fun e he => ?_⟩
            have C17 := C16.add (o := .lst [.ref t, .str (PyData.list ((x13.W.map fun w => V.int w.1).map flD)).shown]) he
            refine ⟨_, C17.at 18 rfl, by rw [sizeLine_eq]; omega, ?_⟩
            have C18 := C17.set 18 (o' := .lst (hs ++ [V.ref e])) rfl
            have C19 : Chg [b] H _ (frt c b o13 { X with x := x13 } Y D q0 q1 hl (hs ++ [V.ref e]) ++ ([(e, .lst [.ref t, .str (PyData.list ((x13.W.map fun w => V.int w.1).map flD)).shown]), (t, .lst (x13.W.map fun w => V.int w.1))] ++ G)) :=
              (show Chg [b] H _ ([(e, .lst [.ref t, .str (PyData.list ((x13.W.map fun w => V.int w.1).map flD)).shown]), (t, .lst (x13.W.map fun w => V.int w.1))] ++ (frt c b o13 { X with x := x13 } Y D q0 q1 hl (hs ++ [V.ref e]) ++ G)) from C18).perm (by
                rw [← List.append_assoc, ← List.append_assoc]
                exact List.Perm.append_right _ List.perm_append_comm)
            have E19 := ((Chg.of (H := upd (upd H16 e (.lst [.ref t, .str (PyData.list ((x13.W.map fun w => V.int w.1).map flD)).shown])) hl (.lst (hs ++ [V.ref e]))) .nil))
            have fx : ∀ a o, imm o = true → H16 a = some o → (upd (upd H16 e (.lst [.ref t, .str (PyData.list ((x13.W.map fun w => V.int w.1).map flD)).shown])) hl (.lst (hs ++ [V.ref e]))) a = some o := fun a o im ho => by
              have n1 : a ≠ e := ne_of_none ho he
              have n2 : a ≠ hl := fun z => by
                subst z
                rw [C16.at 17 rfl] at ho
                cases ho; cases im
              rw [upd_ne n2, upd_ne n1]; exact ho
            exact ⟨bn, rfl, o13, { X with x := x13 }, Y, _, _, !bn, _, _, _, _, _, _, rfl, bx13.le (by omega), (oX15.up D16.fix (m := i + 1)).up fx, (oY15.up D16.fix (m := i + 1)).up fx, od, hd.more fW lW, by rw [List.length_append]; show hs.length + 1 ≤ i + 1; omega, C19⟩
          · refine itN (decide_eq_false (fun e => q4 (V.int.inj e))) ?_
            exact ⟨bn, rfl, o13, { X with x := x13 }, Y, hs, G, !bn, _, _, _, _, _, _, rfl, bx13.le (by omega), oX15, oY15, od, hd, by omega, C15⟩
      · rintro σ H11 ⟨o11, X, Y, hs, G, bn, v5, v6, v7, v8, v9, v10, rfl, bx11, oX, oY, od, hd, hlen, C11⟩
        have hm : ((9 : Int) + u).toNat ≤ 16 := by omega
        generalize ((9 : Int) + u).toNat = m at bx11 oX oY hlen hm
        refine ⟨_, _, C11.at 15 rfl, rfl, fun J wk2 => ?_⟩
        refine for_it wk2 (fun i σ H' => ∃ o' X Y v7 v8, σ = [some (.ref b), some (.bl bn), some (.ref l), some (.ref D), some (.ref hl), v5, v6, v7, v8, v9, v10, none, none, none] ∧
            Bx (n + 6 + 62 * m + 202 * i) o' ∧ Ok H' X.p X.w (m + 21 * i) X.x ∧ Ok H' Y.p Y.w (m + 21 * i) Y.x ∧ (X.q = q0 ∧ Y.q = q1 ∨ X.q = q1 ∧ Y.q = q0) ∧ Chg [b] H H' (frt c b o' X Y D q0 q1 hl hs ++ G))
          ⟨o11, X, Y, v7, v8, rfl, bx11, oX, oY, od, C11⟩ (fun i σ H' _ q => ?_) ?_ ?_
        · obtain ⟨_, _, _, _, _, _, _, _, _, _, C⟩ := q
          exact C.at 15 rfl
        · rintro i y σ H12' H12 hi ⟨o12, X, Y, v7, v8, rfl, bx12, oX, oY, od, C12⟩ ⟨rfl, hy⟩
          have hi2 : i < 2 := hi
          obtain ⟨X, Y, oX, oY, od, a1, a2, C12⟩ := arr (i : Int) (by omega) (by omega) oX oY od C12
          have hy' : atI [V.ref q0, V.ref q1] (i : Int) = some y := atI_nat hy
          rw [a1] at hy'
          cases hy'
          refine ⟨X.q, _, rfl, .of (C12.at 7 rfl), rfl, _, _, rfl, _, _, rfl, rfl, ?_⟩
          refine ⟨b, X.d, X.s, bn, X.p, X.w, n + 6 + 62 * m + 202 * i, m + 21 * i, X.x, o12, rfl, (C12.pick [0, 1, 2, 3, 4, 5, 6]).led, bx12, by omega, oX, by omega, fun o13 x13 H13 bx13 oX13 D13 => ⟨true, rfl, ?_⟩⟩
          have C13 : Chg [b] H H13 (frt c b o13 { X with x := x13 } Y D q0 q1 hl hs ++ G) := C12.callT [0, 1, 2, 3, 4, 5, 6] D13
          refine ⟨X.d, X.s, X.p, X.w, m + 21 * i + 20, x13, rfl, (C13.pick [1, 2, 3, 4, 5, 6]).led, oX13, fun x14 H14 oX14 D14 => ⟨true, rfl, ?_⟩⟩
          have C14 := C13.callT [1, 2, 3, 4, 5, 6] D14
          have C15 : Chg [b] H H14 (frt c b o13 { X with x := x14 } Y D q0 q1 hl hs ++ G) := (C14.pickT [6, 0, 1, 2, 3, 4, 5, 7, 8, 9, 10, 11, 12, 13, 14, 15, 16]).to (by rfl)
          exact ⟨o13, { X with x := x14 }, Y, _, _, rfl, bx13.le (by omega), oX14.up (fun _ _ _ e => e), (oY.up D13.fix (m := m + 21 * i)).up D14.fix, od, C15⟩
        · rintro σ H12 ⟨o12, X, Y, v7, v8, rfl, bx12, oX, oY, od, C12⟩
          refine ⟨_, _, C12.at 15 rfl, rfl, fun J wk3 Da hDa => ?_⟩
          have E0 : Chg (List.map (fun x => x.fst) ([] : Cells)) H12 H12 [] := .of .nil
          refine lc_fn wk3 (fun _ => V.bl true) hDa E0 (leS rfl) (fun acc H13 C => keepAll' C _ _ (C12.at 15 rfl)) ?_ ?_ (by rintro x H' Q Q' q ⟨a, xs, e1, e2, e3, e4⟩; obtain ⟨v, r, f1, v2, r2, f2, f3, f4⟩ := e4; exact ⟨a, xs, e1, e2, e3, v, r, f1, v2, r2, f2, f3, q _ _ f4⟩)
          · rintro i y H13' H13 acc Qk hi C13 ⟨rfl, hy⟩ q
            have hi2 : i < 2 := hi
            obtain ⟨X, Y, oX, oY, od, a1, a2, C12⟩ := arr (i : Int) (by omega) (by omega) oX oY od C12
            have hy' : atI [V.ref q0, V.ref q1] (i : Int) = some y := atI_nat hy
            rw [a1] at hy'
            cases hy'
            refine ⟨X.q, _, rfl, .of (keepAll' C13 _ _ (C12.at 7 rfl)), rfl, _, _, rfl, _, _, rfl, rfl, rfl, ?_⟩
            refine ⟨X.d, X.s, bn, X.p, X.w, _, X.x, rfl, C13.led2 (C12.pick [1, 2, 3, 4, 5, 6]).led (by simp), oX.up C13.fix (Nat.le_refl _), by show m + 21 * 2 ≤ 8000; omega, fun H14 D14 => q H14 (C13.and D14)⟩
          · intro H13 C13
            refine ⟨[true, true], C13.at 0 rfl, ?_⟩
            refine ⟨true, rfl, itN rfl ?_⟩
            have C14 := C12.and (show Chg [] H12 H13 _ from C13)
            have hps : ∀ p ∈ G, H13 p.1 = some p.2 := fun p hp => C14.led.hp p (List.mem_append_right _ (List.mem_append_right _ hp))
            refine ⟨_, _, C14.at 17 rfl, rfl, fun J wk4 Db hDb => ?_⟩
            have E1 : Chg [] H13 H13 [] := .of .nil
            refine lc_led wk4 (S := Unit) (A := []) (H0 := H13) (fun _ => []) (fun i _ acc => acc = []) () hDb E1 rfl (by rw [sizeLine_eq]; omega) (fun i z acc e => by rw [e]; exact Nat.zero_le _) (fun i z acc H15 _ C => keepAll C _ _ (C14.at 17 rfl)) ?_ ?_
            · rintro i y H15' H15 z acc Qk Nk hi rfl C15 ⟨rfl, hy⟩ k1 k2
              obtain ⟨e, t, xs, rfl, he, ht, fx, lx⟩ := hd y (List.mem_of_getElem? hy)
              have he' := keepAll C15 _ _ (hps _ he)
              have ht' := keepAll C15 _ _ (hps _ ht)
              refine ⟨e, _, rfl, .of he', rfl, _, _, rfl, _, _, rfl, rfl, rfl, ?_⟩
              refine ⟨_, RpZ.ints ht' fx lx, rfl, _, rfl, ?_⟩
              exact itN (by rw [decide_eq_true rfl]; rfl) (k2 () _ rfl C15)
            · rintro H15 z acc rfl C15
              refine ⟨leS rfl, fun l2 hl2 => ?_⟩
              have C16 := C15.add (o := .lst []) hl2
              refine ⟨_, _, .lst (.of (C16.at 1 rfl)) .nil, .lst (.of (C16.at 0 rfl)) .nil, ev_nil.1, ev_nil.1, ?_⟩
              rw [ev_nil.2]
              exact h _ ((C14.and (show Chg [] H13 _ _ from C16)).sub (List.nil_sublist _))
end
end Ks

/-! KsPb: the first part of the law. -/
namespace Ks
open PySem PySem.Spec PyProof.Rows L2 PySem.W
section
variable {P : Program} {w : World} {K : PySem.W.Frag} {mg : Str → Option Value} {base : Heap} {a : Nat → Addr × FuncData} {c : Nat → Addr}
theorem sq_keep {K : PySem.W.Frag} {H H' : Hp} {l : Addr} {xs : List V} {L : Cells} (h : SqL K H l xs) (C : Chg [] H H' L) : SqL K H' l xs := h.imp (fun z => z.imp (keepAll C _ _) fun ⟨o, q⟩ => ⟨o, keepAll C _ _ q⟩) id
def sp_script (K : PySem.W.Frag) : Sp := fun vs H Q _ => ∃ (l : Addr) (ns : List Int), vs = [.ref l] ∧ SqL K H l (ns.map V.int) ∧ ∀ H', Chg [] H H' [] → Q (.bl true) H'
theorem ok_law_first (Z : Wd K mg a c) : FnG false P w K mg base 9 (a 52).1 (a 52).2 ["script"] (sp_script K) := by
  refine fun_okG Z.g_law_first.fn sc_law_first (fun vs H Q E h => ?_) (fun cdv A outer s H vs Q E hr h => ?_)
  · obtain ⟨l, ns, rfl, _⟩ := h; rfl
  · obtain ⟨l, ns, rfl, hl, h⟩ := h
    refine ⟨_, (pss_cons (ps_if (PW.pt (pw_and (pt_cmpR (o_eq hr.u64) (pe_op o_mod (pe_callTy c_int (by rfl) Z.n_int bt_int (pa_cons (pe_callB (c_sum (by rfl)) (by rfl) Z.n_sum bt_sum (pa_cons (pe_slice sl_list (qv 0) po_none (po_some pe_int)) pa_nil)) pa_nil)) pe_int) pe_int (nomark _)) (pw_and1 (pt_not (pt_val (q_call Z.g_law_long_right (ok_law_long_right Z) (hr.mono (by decide)) takes0 (pa_cons (q_call Z.g_law_box (ok_law_box Z) (hr.mono (by decide)) takes0 (pa_cons (q_call Z.g_law_cell (ok_law_cell Z) (hr.mono (by decide)) takes0 (pa_cons (qv 0) (pa_cons pe_int pa_nil))) pa_nil)) pa_nil))))))) (pss_one (ps_ret pe_bl)) pss_nil)
      (pss_cons (ps_for (passes_of rfl) (by rfl) (pi_range1 (by rfl) Z.n_range (pa_cons (pe_callB (c_max (by rfl)) (by rfl) Z.n_max bt_max (pa_cons pe_int (pa_cons (pe_callB (c_min (by rfl)) (by rfl) Z.n_min bt_min (pa_cons pe_int (pa_cons (pe_callB call_len_seq (by rfl) Z.n_len bt_len (pa_cons (qv 0) pa_nil)) pa_nil))) pa_nil))) pa_nil)) (pg_name (i := 1) sc_law_first.nd rfl (Or.inl rfl))
      (pss_cons (ps_set (i := 2) sc_law_first.nd rfl (Or.inl rfl) (q_call Z.g_law_box (ok_law_box Z) (hr.mono (by decide)) takes0 (pa_cons (q_call Z.g_law_cell (ok_law_cell Z) (hr.mono (by decide)) takes0 (pa_cons (qv 0) (pa_cons (qv 1) pa_nil))) pa_nil)))
      (pss_cons (ps_if (PW.pt (pw_and (pt_cmpR (o_eq hr.u64) (qv 1) pe_int (nomark _)) (pw_and1 (pt_not (pt_val (q_call Z.g_law_sizes_right (ok_law_sizes_right Z) (hr.mono (by decide)) takes0 (pa_cons (qv 2) (pa_cons (pe_cmpR (o_eq hr.u64) (q_call Z.g_law_take (ok_law_take Z) (hr.mono (by decide)) takes0 (pa_cons (qv 2) (pa_cons pe_int pa_nil))) pe_int (nomark _)) pa_nil)))))))) (pss_one (ps_ret pe_bl)) pss_nil)
      (pss_one (ps_if (pt_not (pt_val (q_call Z.g_law_pair_right (ok_law_pair_right Z) (hr.mono (by decide)) takes0 (pa_cons (qv 2) pa_nil)))) (pss_one (ps_ret pe_bl)) pss_nil)))))
      (pss_one (ps_ret pe_bl)))), ?_⟩
    have C0 : Chg [] H H [] := .of .nil
    refine ⟨_, rfl, l, _, rfl, hl, fun q hq => ⟨cutL ns none (some 2), by rw [upd_same, cutV_map], (by show (0 : Int) < 8; decide), rfl, _, rfl, ?_⟩⟩
    have C1 : Chg [] H _ [] := C0.skip (o := .lst (cutV (ns.map V.int) none (some 2))) hq
    by_cases q1 : (cutL ns none (some 2)).sum % 8 = 1
    case' pos =>
      refine itP (decide_eq_true (congrArg V.int q1)) ?_
      refine ⟨l, ns, 2, rfl, sq_keep hl C1, fun z H2 D2 => ⟨z, rfl, fun b o H3 bx D3 => ⟨b, 0, o, rfl, D3.at 0 rfl, bx, by decide, fun H4 D4 => ⟨true, rfl, ?_⟩⟩⟩⟩
      have C4 : Chg [] H H4 [] := (((C1.and D2).and D3).call [0] D4).sub (List.nil_sublist _)
    case' neg =>
      refine itN (decide_eq_false (fun e => q1 (V.int.inj e))) ?_
      have C4 := C1
    all_goals
      refine ⟨l, _, rfl, .inl (sq_keep hl C4), _, rfl, ?_⟩
      rw [List.length_map]
      refine ⟨by show -(2 ^ 62) ≤ max (3 : Int) (min 6 (ns.length : Nat)); omega, by show max (3 : Int) (min 6 (ns.length : Nat)) < 2 ^ 62; omega, ?_⟩
      refine for_it walk_range (fun i σ H' => ∃ v1 v2, σ = [some (.ref l), v1, v2] ∧ Chg [] H H' [])
        ⟨none, none, rfl, C4⟩ (fun _ _ _ _ _ => ⟨⟩) ?_ ?_
      · rintro i y σ H5' H5 hi ⟨v1, v2, rfl, C5⟩ ⟨rfl, rfl⟩
        refine ⟨l, ns, i, by simp, sq_keep hl C5, fun z H6 D6 => ⟨z, rfl, fun b o H7 bx D7 => ?_⟩⟩
        have C7 : Chg [] H H7 [(b, o)] := (C5.and D6).and D7
        refine ⟨rfl, _, rfl, ?_⟩
        by_cases q0 : (0 : Int) + (i : Int) = 0
        case' pos =>
          refine itP (decide_eq_true (congrArg V.int q0)) ?_
          refine ⟨b, o, 0, 2, rfl, C7.at 0 rfl, bx, by decide, by decide, by decide, fun v o8 H8 v0 v1 bx8 D8 => ⟨rfl, b, _, 1, o8, rfl, D8.at 0 rfl, bx8, by decide, fun o9 H9 bx9 D9 => ⟨true, rfl, ?_⟩⟩⟩
          have C9 : Chg [] H H9 [(b, o9)] := (C7.call [0] D8).call [0] D9
          have bx9 : Bx 3 o9 := bx9
        case' neg =>
          refine itN (decide_eq_false (fun e => q0 (V.int.inj e))) ?_
          have C9 := C7
          have bx9 : Bx 3 o := bx.le (by decide)
        all_goals
          refine ⟨b, 3, _, rfl, C9.at 0 rfl, bx9, by decide, fun H10 D10 => ⟨true, rfl, ?_⟩⟩
          exact ⟨_, _, rfl, (C9.call [0] D10).sub (List.nil_sublist _)⟩
      · rintro σ H5 ⟨v1, v2, rfl, C5⟩
        exact h H5 C5
end
end Ks

/-! KsQa: the second part: a disk and its own state with writes. -/
namespace Ks
open PySem PySem.Spec PyProof.Rows L2 PySem.W
structure Pq where
  dx : Addr
  la : Addr
  te : Addr
  wr : Addr
  tx : Addr
  kp : Addr
  lf : Option Nat
  L : List Str
  R : List Addr
  S : List Addr
  W : List (Int × Str)
abbrev ceq (c : Nat → Addr) (d s : Addr) (p w : Int) (x : Pq) : Cells :=
  [(d, .ins (c 8) x.dx (dkF p w x.la x.te x.wr (lfV x.lf))), (x.la, .lst (x.L.map V.str)), (x.te, .lst ((beh x.L x.W).map V.str)), (x.wr, .lst (x.R.map V.ref)),
    (s, .lst [.int p, .int w, .ref x.tx, .ref x.kp, lfV x.lf]), (x.tx, .lst (x.L.map V.str)), (x.kp, .lst (x.S.map V.ref))]
structure Oq (H : Hp) (p w : Int) (n : Nat) (x : Pq) : Prop where
  p3 : 3 ≤ p
  p40 : p ≤ 40
  w20 : 20 ≤ w
  w400 : w ≤ 400
  hT : (x.L.length : Int) = p
  hP : ∀ z ∈ x.L, Prn z ∧ z.length ≤ 400
  hW : Wrs H x.R x.W
  hS : Wrs H x.S x.W
  hw : ∀ y ∈ x.W, (0 ≤ y.1 ∧ y.1 < p) ∧ Prn y.2 ∧ y.2.length ≤ 400
  hn : x.W.length ≤ n
theorem Oq.up {H H' : Hp} {p w : Int} {n m : Nat} {x : Pq} (o : Oq H p w n x) (f : ∀ a o, imm o = true → H a = some o → H' a = some o) (h : n ≤ m := by omega) : Oq H' p w m x :=
  ⟨o.p3, o.p40, o.w20, o.w400, o.hT, o.hP, o.hW.up f, o.hS.up f, o.hw, Nat.le_trans o.hn h⟩
theorem beh_ok : ∀ (W : List (Int × Str)) (T : List Str), (∀ z ∈ T, Prn z ∧ z.length ≤ 400) → (∀ y ∈ W, Prn y.2 ∧ y.2.length ≤ 400) → ∀ z ∈ beh T W, Prn z ∧ z.length ≤ 400
  | [], _, h, _ => h
  | y :: W, T, h, g => by
    show ∀ z ∈ beh (T.set y.1.toNat y.2) W, _
    refine beh_ok W _ (fun z hz => ?_) fun q hq => g q (List.mem_cons_of_mem _ hq)
    rcases List.mem_or_eq_of_mem_set hz with e | e
    · exact h z e
    · rw [e]; exact g y List.mem_cons_self
section
variable {P : Program} {w : World} {K : PySem.W.Frag} {mg : Str → Option Value} {base : Heap} {a : Nat → Addr × FuncData} {c : Nat → Addr}
def sp_behind : Sp := fun vs H Q _ => ∃ (t wr : Addr) (T : List Str) (R : List Addr) (W : List (Int × Str)), vs = [.ref t, .ref wr] ∧ H t = some (.lst (T.map V.str)) ∧ H wr = some (.lst (R.map V.ref)) ∧ Wrs H R W ∧ W.length ≤ 4000 ∧ (∀ y ∈ W, 0 ≤ y.1 ∧ y.1 < (T.length : Int)) ∧
  ∀ f H', Chg [] H H' [(f, .lst ((beh T W).map V.str))] → Q (.ref f) H'
theorem ok_law_behind (Z : Wd K mg a c) : FnG false P w K mg base 1 (a 54).1 (a 54).2 ["texts", "writes"] sp_behind := by
  refine fun_okG Z.g_law_behind.fn sc_law_behind (fun vs H Q E h => ?_) (fun cdv A outer s H vs Q E hr h => ?_)
  · obtain ⟨t, wr, T, R, W, rfl, _⟩ := h; rfl
  · obtain ⟨t, wr, T, R, W, rfl, ht, hw, hW, hn, hy, h⟩ := h
    refine ⟨_, (pss_cons (ps_set (i := 2) sc_law_behind.nd rfl (Or.inl rfl) (pe_callTy c_list (by rfl) Z.n_list bt_list (pa_cons (qv 0) pa_nil)))
      (pss_cons (ps_for (passes_of rfl) (by rfl) (pi_seq (qv 1)) (pg_tup (n := 2) (by rfl) (pgs_cons (pg_name (i := 3) sc_law_behind.nd rfl (Or.inl rfl)) (pgs_cons (pg_name (i := 4) sc_law_behind.nd rfl (Or.inl rfl)) pgs_nil)))
      (pss_one (ps_asg (qv 4) (pg_sub (qv 2) (qv 3) set_d))))
      (pss_one (ps_ret (qv 2))))), ?_⟩
    refine ⟨_, ht, fun f hf => ?_⟩
    have C1 := (Chg.of (H := H) .nil).add (o := .lst (T.map V.str)) hf
    have C1 : Chg [] H _ [(f, .lst (T.map V.str))] := C1
    refine ⟨_, _, keepAll C1 _ _ hw, rfl, fun J wk => ?_⟩
    have hR : (R.map V.ref).length = W.length := by rw [List.length_map, hW.length]
    refine for_it wk (fun i σ H' => ∃ v3 v4, σ = [some (.ref t), some (.ref wr), some (.ref f), v3, v4] ∧ Chg [] H H' [(f, .lst ((beh T (W.take i)).map V.str))])
      ⟨none, none, rfl, C1⟩ (fun i σ H' _ q => ?_) ?_ ?_
    · obtain ⟨_, _, _, C⟩ := q
      exact keepAll C _ _ hw
    · rintro i y σ H2' H2 hi ⟨v3, v4, rfl, C⟩ ⟨rfl, hx⟩
      have hi' : i < W.length := by rw [hR] at hi; exact hi
      obtain ⟨r, er, hr'⟩ := hW.get i hi'
      rw [List.getElem?_map, er] at hx
      cases hx
      obtain ⟨y0, y1⟩ := hy W[i] (List.getElem_mem hi')
      have hlen : (beh T (W.take i)).length = T.length := beh_len _ _
      refine ⟨r, _, rfl, .of (keepAll C _ _ hr'), rfl, _, _, rfl, _, _, rfl, rfl, ?_⟩
      refine ⟨_, W[i].1.toNat, C.at 0 rfl, ?_, _, _, rfl, (C.set 0 rfl).to ?_⟩
      · have : W[i].1 = (W[i].1.toNat : Int) := by omega
        rw [this]
        exact ixN_nat (by rw [List.length_map, hlen]; omega)
      · rw [List.take_succ, List.getElem?_eq_getElem hi']
        show _ = [(f, HO.lst ((beh T (W.take i ++ [W[i]])).map V.str))]
        rw [beh_app, List.map_set]; rfl
    · rintro σ H2 ⟨v3, v4, rfl, C⟩
      refine h f H2 (C.to ?_)
      rw [hR, List.take_length]
def sp_cut_of : Sp := fun vs H Q _ => ∃ (s dn tx kp : Addr) (p w : Int) (lf : V) (L : List Str) (S : List Addr) (W : List (Int × Str)) (ns : List Int), vs = [.ref s, .ref dn] ∧ H s = some (.lst [.int p, .int w, .ref tx, .ref kp, lf]) ∧ H tx = some (.lst (L.map V.str)) ∧ H kp = some (.lst (S.map V.ref)) ∧ Wrs H S W ∧
  H dn = some (.lst (ns.map V.int)) ∧ ns.length ≤ 4000 ∧ (∀ n ∈ ns, 0 ≤ n ∧ n < (W.length : Int)) ∧ (∀ y ∈ W, 0 ≤ y.1 ∧ y.1 < (L.length : Int)) ∧
  ∀ s' tx' kp' H', Chg [] H H' [(s', .lst [.int p, .int w, .ref tx', .ref kp', .non]), (tx', .lst ((beh L (atW W ns)).map V.str)), (kp', .lst [])] → Q (.ref s') H'
theorem ok_law_cut_of (Z : Wd K mg a c) : FnG false P w K mg base 2 (a 55).1 (a 55).2 ["state", "done"] sp_cut_of := by
  refine fun_okG Z.g_law_cut_of.fn sc_law_cut_of (fun vs H Q E h => ?_) (fun cdv A outer s H vs Q E hr h => ?_)
  · obtain ⟨s, dn, tx, kp, p, w, lf, L, S, W, ns, rfl, _⟩ := h; rfl
  · obtain ⟨s, dn, tx, kp, p, w, lf, L, S, W, ns, rfl, hs, htx, hkp, hS, hdn, hn, hns, hy, h⟩ := h
    refine ⟨_, (pss_one (ps_ret (pe_lst (pa_cons (pe_ix ix_d (qv 0) pe_int (fun _ _ => rfl)) (pa_cons (pe_ix ix_d (qv 0) pe_int (fun _ _ => rfl)) (pa_cons (q_call Z.g_law_behind (ok_law_behind Z) (hr.mono (by decide)) takes0 (pa_cons (pe_ix ix_d (qv 0) pe_int (fun _ _ => rfl)) (pa_cons (pe_lc (own := [("at", 2)]) (by rfl) sc_law_cut_of.nd (pi_seq (qv 1)) (blkOk_by (N := ["state", "done", "at"]) (sc := defScope s_law_cut_of) (by decide +kernel)) (fun _ _ _ _ _ => (pg_name (i := 2) sc_law_cut_of.nd rfl (Or.inl rfl))) (fun _ _ _ _ _ => pts_nil) (fun _ _ _ _ _ => (pe_ix ix_d (pe_ix ix_d (qv 0) pe_int (fun _ _ => rfl)) (qv 2) (fun _ _ => rfl)))) pa_nil))) (pa_cons (pe_lst pa_nil) (pa_cons pe_non pa_nil)))))))), ?_⟩
    have C0 : Chg (List.map (fun x => x.fst) ([] : Cells)) H H [] := .of .nil
    have hlm : (ns.map V.int).length = ns.length := List.length_map _
    -- the places of the writes at done
    have pl : ∀ i (hi : i < ns.length), ∃ r, S[(ns[i]).toNat]? = some r ∧ H r = some (.tup [.int (W.getD (ns[i]).toNat (0, "")).1, .str (W.getD (ns[i]).toNat (0, "")).2]) := fun i hi => by
      obtain ⟨n0, n1⟩ := hns ns[i] (List.getElem_mem hi)
      obtain ⟨r, e, q⟩ := hS.get (ns[i]).toNat (by omega)
      refine ⟨r, e, ?_⟩
      rw [List.getD_eq_getElem?_getD, List.getElem?_eq_getElem (by omega)]
      exact q
    refine ⟨_, hs, _, atI_of 0 rfl rfl, _, hs, _, atI_of 1 rfl rfl, _, hs, _, atI_of 2 rfl rfl, _, _, hdn, rfl, fun J wk D hD => ?_⟩
    refine lc_fn wk (fun i => V.ref (S.getD (ns.getD i 0).toNat 0)) hD C0 (by rw [hlm, sizeLine_eq]; omega) (fun acc H2 C => keepAll' C _ _ hdn) ?_ ?_
    · rintro i x H1' H1 acc Qk hi C ⟨rfl, hx⟩ q
      have hi' : i < ns.length := by rw [hlm] at hi; exact hi
      rw [List.getElem?_map, List.getElem?_eq_getElem hi'] at hx
      cases hx
      obtain ⟨n0, n1⟩ := hns ns[i] (List.getElem_mem hi')
      obtain ⟨r, er, _⟩ := pl i hi'
      have q := q _ C
      rw [List.getD_eq_getElem?_getD (l := ns), List.getElem?_eq_getElem hi'] at q
      have q : Qk (.ref (S.getD (ns[i]).toNat 0)) H1 := q
      rw [List.getD_eq_getElem?_getD, er] at q
      have en : ns[i] = ((ns[i]).toNat : Int) := by omega
      refine ⟨rfl, _, keepAll' C _ _ hs, _, atI_of 3 rfl rfl, _, keepAll' C _ _ hkp, V.ref r, ?_, q⟩
      rw [en]
      exact atI_nat (by rw [List.getElem?_map, er]; rfl)
    · intro H1 C1
      have C1 : Chg [] H H1 [(D, .lst ((List.range (ns.map V.int).length).map fun i => V.ref (S.getD (ns.getD i 0).toNat 0)))] := C1
      have hW2 : Wrs H1 ((List.range ns.length).map fun i => S.getD (ns.getD i 0).toNat 0) (atW W ns) := by
        have key : ∀ (m : List Int), (∀ n ∈ m, ∃ r, S[n.toNat]? = some r ∧ H r = some (.tup [.int (W.getD n.toNat (0, "")).1, .str (W.getD n.toNat (0, "")).2])) → Wrs H1 (m.map fun n => S.getD n.toNat 0) (atW W m) := fun m => by
          induction m with
          | nil => intro _; exact .nil
          | cons n m ih =>
            intro g
            obtain ⟨r, e, q⟩ := g n List.mem_cons_self
            refine .cons ?_ (ih fun k hk => g k (List.mem_cons_of_mem _ hk))
            show H1 (S.getD n.toNat 0) = _
            rw [List.getD_eq_getElem?_getD (l := S), e]
            exact C1.fix _ _ rfl q
        have e : ((List.range ns.length).map fun i => S.getD (ns.getD i 0).toNat 0) = ns.map fun n => S.getD n.toNat 0 := by
          apply List.ext_getElem?
          intro j
          rw [List.getElem?_map, List.getElem?_map]
          by_cases hj : j < ns.length
          · rw [List.getElem?_range hj, List.getElem?_eq_getElem hj]
            simp [List.getD_eq_getElem?_getD (l := ns), List.getElem?_eq_getElem hj]
          · have e1 : (List.range ns.length)[j]? = none := List.getElem?_eq_none (by rw [List.length_range]; omega)
            have e2 : ns[j]? = none := List.getElem?_eq_none (by omega)
            rw [e1, e2]; rfl
        rw [e]
        refine key ns fun n hm => ?_
        obtain ⟨i, hi, ei⟩ := List.mem_iff_getElem.mp hm
        rw [← ei]
        exact pl i hi
      have hb : ∀ y ∈ atW W ns, 0 ≤ y.1 ∧ y.1 < (L.length : Int) := fun y hm => by
        obtain ⟨n, hn', rfl⟩ := List.mem_map.mp hm
        obtain ⟨n0, n1⟩ := hns n hn'
        rw [List.getD_eq_getElem?_getD, List.getElem?_eq_getElem (by omega)]
        exact hy _ (List.getElem_mem _)
      refine ⟨tx, D, L, _, atW W ns, rfl, keepAll C1 _ _ htx, (C1.at 0 rfl).trans ?_, hW2, by unfold atW; rw [List.length_map]; exact hn, hb, fun f H2 D2 => ?_⟩
      · rw [hlm, List.map_map]; rfl
      · have C2 := C1.and D2
        refine ⟨leS rfl, fun kp' h1 => ⟨leS rfl, fun s' h2 => ?_⟩⟩
        have C3 := (C2.add (o := .lst []) h1).add (o := .lst [.int p, .int w, .ref f, .ref kp', .non]) h2
        exact h s' f kp' _ (C3.pick [0, 2, 1])
theorem pages_eq (W : List (Int × Str)) : ((List.range W.length).map fun i => V.int (W.getD i (0, "")).1) = W.map fun x => V.int x.1 := by
  apply List.ext_getElem?
  intro j
  rw [List.getElem?_map, List.getElem?_map]
  by_cases hj : j < W.length
  · rw [List.getElem?_range hj, List.getElem?_eq_getElem hj]
    simp [List.getD_eq_getElem?_getD, List.getElem?_eq_getElem hj]
  · have e1 : (List.range W.length)[j]? = none := List.getElem?_eq_none (by rw [List.length_range]; omega)
    have e2 : W[j]? = none := List.getElem?_eq_none (by omega)
    rw [e1, e2]; rfl
def sp_right_too (c : Nat → Addr) : Sp := fun vs H Q _ => ∃ (d s : Addr) (p w : Int) (n : Nat) (x : Pq), vs = [.ref d, .ref s] ∧ Led H (ceq c d s p w x) ∧ Oq H p w n x ∧ n ≤ 4000 ∧ ∀ H', Chg [] H H' [] → Q (.bl true) H'
theorem ok_law_state_right_too (Z : Wd K mg a c) : FnG false P w K mg base 5 (a 56).1 (a 56).2 ["disk", "state"] (sp_right_too c) := by
  refine fun_okG Z.g_law_state_right_too.fn sc_law_state_right_too (fun vs H Q E h => ?_) (fun cdv A outer s H vs Q E hr h => ?_)
  · obtain ⟨d, s, p, w, n, x, rfl, _⟩ := h; rfl
  · obtain ⟨d, s, p, w, n, x, rfl, L, o, hn, h⟩ := h
    refine ⟨_, (pss_cons (ps_if (PW.pt (pw_or (pt_not (pt_val (pe_callB (c_isi Z.eb) (by rfl) Z.n_isinstance bt_isinstance (pa_cons (qv 0) (pa_cons (pe_glob (v := .ref (c 8)) (by rfl) Z.mg_Disk rfl) pa_nil))))) (pw_or1 (pt_cmpR (o_ne hr.u64) (pe_callB (c_reprK K rfl hr.u64 hr.gd) (by rfl) Z.n_repr bt_repr (pa_cons (pe_lst (pa_cons (q_fld Z.cl Z.a_pages (qv 0)) (pa_cons (q_fld Z.cl Z.a_width (qv 0)) pa_nil))) pa_nil)) (pe_callB (c_reprK K rfl hr.u64 hr.gd) (by rfl) Z.n_repr bt_repr (pa_cons (pe_slice sl_d (qv 1) po_none (po_some pe_int)) pa_nil)) (nomark _))))) (pss_one (ps_ret pe_bl)) pss_nil)
      (pss_cons (ps_if (pt_cmpR (o_ne hr.u64) (pe_callB (c_reprK K rfl hr.u64 hr.gd) (by rfl) Z.n_repr bt_repr (pa_cons (q_meth0 Z.m_loose (ok_Disk_loose Z) (hr.mono (by decide)) takes0 (qv 0)) pa_nil)) (pe_callB (c_reprK K rfl hr.u64 hr.gd) (by rfl) Z.n_repr bt_repr (pa_cons (pe_lc (own := [("page", 2), ("text", 3)]) (by rfl) sc_law_state_right_too.nd (pi_seq (pe_ix ix_d (qv 1) pe_int (fun _ _ => rfl))) (blkOk_by (N := ["disk", "state", "page", "text"]) (sc := defScope s_law_state_right_too) (by decide +kernel)) (fun _ _ _ _ _ => (pg_tupK (n := 2) K rfl (by rfl) (pgs_cons (pg_name (i := 2) sc_law_state_right_too.nd rfl (Or.inl rfl)) (pgs_cons (pg_name (i := 3) sc_law_state_right_too.nd rfl (Or.inl rfl)) pgs_nil)))) (fun _ _ _ _ _ => pts_nil) (fun _ _ _ _ _ => (qv 2))) pa_nil)) (nomark _)) (pss_one (ps_ret pe_bl)) pss_nil)
      (pss_one (ps_ret (pe_cmpR (o_eq hr.u64) (pe_callB (c_reprK K rfl hr.u64 hr.gd) (by rfl) Z.n_repr bt_repr (pa_cons (pe_lc (own := [("page", 2)]) (by rfl) sc_law_state_right_too.nd (pi_range1 (by rfl) Z.n_range (pa_cons (pe_ix ix_d (qv 1) pe_int (fun _ _ => rfl)) pa_nil)) (blkOk_by (N := ["disk", "state", "page", "text"]) (sc := defScope s_law_state_right_too) (by decide +kernel)) (fun _ _ _ _ _ => (pg_name (i := 2) sc_law_state_right_too.nd rfl (Or.inl rfl))) (fun _ _ _ _ _ => pts_nil) (fun _ _ _ _ _ => (q_meth Z.m_read (ok_Disk_read Z) (hr.mono (by decide)) takes0 (qv 0) (pa_cons (qv 2) pa_nil)))) pa_nil)) (pe_callB (c_reprK K rfl hr.u64 hr.gd) (by rfl) Z.n_repr bt_repr (pa_cons (q_call Z.g_law_behind (ok_law_behind Z) (hr.mono (by decide)) takes0 (pa_cons (pe_ix ix_d (qv 1) pe_int (fun _ _ => rfl)) (pa_cons (pe_ix ix_d (qv 1) pe_int (fun _ _ => rfl)) pa_nil))) pa_nil)) (nomark _)))))), ?_⟩
    have C0 : Chg [] H H [] := .of .nil
    have p3 := o.p3
    have p40 := o.p40
    have hd := L.at 0 rfl
    have hs := L.at 4 rfl
    refine ⟨_, _, _, .own _, ty_disk Z hd, kit_self, _, rfl, _, _, hd, _, lk_pages, _, _, hd, _, lk_width, leS rfl, fun r1 n1 => ?_⟩
    have C1 := C0.add (o := .lst [.int p, .int w]) n1
    have f2 : ∀ y ∈ [V.int p, V.int w], fl y := fun y hy => by
      have := o.w20
      have := o.w400
      rcases List.mem_cons.mp hy with e | e
      · subst e; exact fli (log_small (by omega))
      · exact fl1 (fli (log_small (by omega))) y e
    refine ⟨_, RpZ.lstF (C1.at 0 rfl) f2 (by simp), _, rfl, _, keepAll C1 _ _ hs, fun r2 n2 => ?_⟩
    have C2 := C1.add (o := .lst [.int p, .int w]) n2
    refine ⟨_, RpZ.lstF (C2.at 0 rfl) f2 (by simp), rfl, _, rfl, ?_⟩
    refine itN (by rw [decide_eq_true rfl]; rfl) ?_
    have k2 := keepAll C2
    have hWl : x.W.length ≤ 4000 := Nat.le_trans o.hn hn
    have fW : ∀ y ∈ x.W.map (fun w => V.int w.1), ∃ i : Int, y = .int i ∧ i.natAbs < 2 ^ 200 := fun y hy => by
      obtain ⟨z, hz, rfl⟩ := List.mem_map.mp hy
      have := (o.hw z hz).1
      exact ⟨_, rfl, by omega⟩
    have lW : (x.W.map (fun w => V.int w.1)).length ≤ 8000 := by rw [List.length_map]; omega
    refine ⟨⟨_, _, k2 _ _ hd, lk_none _ (by simp)⟩, d, _, p, w, _, _, _, _, x.R, x.W, rfl, k2 _ _ hd, k2 _ _ (L.at 3 rfl), o.hW.up C2.fix, by omega, fun l H3 D3 => ?_⟩
    have C3 := C2.and D3
    have k3 := keepAll C3
    have hSl : (x.S.map V.ref).length = x.W.length := by rw [List.length_map, o.hS.length]
    refine ⟨_, RpZ.ints (C3.at 0 rfl) fW lW, _, k3 _ _ hs, _, atI_of 3 rfl rfl, _, _, k3 _ _ (L.at 6 rfl), rfl, fun J wk D hD => ?_⟩
    have E3 : Chg (List.map (fun x => x.fst) ([] : Cells)) H3 H3 [] := .of .nil
    refine lc_fn wk (fun i => V.int (x.W.getD i (0, "")).1) hD E3 (by rw [hSl, sizeLine_eq]; omega) (fun acc H4 C => keepAll' C _ _ (k3 _ _ (L.at 6 rfl))) ?_ ?_ (by rintro x H' Q Q' q ⟨a, xs, e1, e2, e3, e4⟩; obtain ⟨v, r, f1, v2, r2, f2, f3, f4⟩ := e4; exact ⟨a, xs, e1, e2, e3, v, r, f1, v2, r2, f2, f3, q _ _ f4⟩)
    · rintro i y H4' H4 acc Qk hi C ⟨rfl, hx⟩ q
      have hi' : i < x.W.length := by rw [hSl] at hi; exact hi
      obtain ⟨r, er, hr'⟩ := o.hS.get i hi'
      rw [List.getElem?_map, er] at hx
      cases hx
      refine ⟨r, _, rfl, .of (keepAll' C _ _ (k3 _ _ hr')), rfl, _, _, rfl, _, _, rfl, rfl, rfl, ?_⟩
      have q := q _ C
      rw [List.getD_eq_getElem?_getD, List.getElem?_eq_getElem hi'] at q
      exact q
    · intro H4 C4
      rw [hSl, pages_eq] at C4
      have C5 := C3.and (show Chg [] H3 H4 _ from C4)
      have k5 := keepAll C5
      refine ⟨_, RpZ.ints (C5.at 0 rfl) fW lW, rfl, _, rfl, ?_⟩
      refine itN (by rw [decide_eq_true rfl]; rfl) ?_
      have ht5 := k5 _ _ (L.at 2 rfl)
      have hd5 := k5 _ _ hd
      have hTl : ((beh x.L x.W).length : Int) = p := by rw [beh_len]; exact o.hT
      refine ⟨_, k5 _ _ hs, _, atI_of 0 rfl rfl, _, rfl, by omega, by omega, fun D2 hD2 => ?_⟩
      have E5 : Chg (List.map (fun x => x.fst) ([] : Cells)) H4 H4 [] := .of .nil
      refine lc_fn walk_range (fun i => V.str ((beh x.L x.W).getD i "")) hD2 E5 (by rw [sizeLine_eq]; omega) (fun _ _ _ => ⟨⟩) ?_ ?_
      · rintro i y H6' H6 acc Qk hi C ⟨rfl, rfl⟩ q
        refine ⟨rfl, ?_⟩
        have hi' : i < (beh x.L x.W).length := by omega
        have e : (beh x.L x.W)[i]? = some ((beh x.L x.W).getD i "") := by rw [List.getD_eq_getElem?_getD, List.getElem?_eq_getElem hi']; rfl
        have kk := keepAll' C
        refine ⟨⟨_, _, kk _ _ hd5, lk_none _ (by simp)⟩, d, _, _, _, p, w, _, _, _, _, beh x.L x.W, rfl, kk _ _ hd5, kk _ _ ht5, hTl, .int _, fun hb => ?_, fun j ej z hz => ?_⟩
        · have : ixB (.int (0 + (i : Int))) p = true := by
            simp only [ixB, Bool.and_eq_true, decide_eq_true_eq]
            omega
          rw [this] at hb; cases hb
        · have ej := V.int.inj ej
          have : j = i := by omega
          subst this
          rw [e] at hz
          cases hz
          exact q _ C
      · intro H6 C6
        have eT : p.toNat = (beh x.L x.W).length := by omega
        rw [eT, range_T] at C6
        have C7 := C5.and (show Chg [] H4 H6 _ from C6)
        have k7 := keepAll C7
        have fT : ∀ y ∈ (beh x.L x.W).map V.str, fl y := fun y hy => by
          obtain ⟨z, hz, rfl⟩ := List.mem_map.mp hy
          have := beh_ok x.W x.L o.hP (fun y hy => (o.hw y hy).2) z hz
          exact ⟨this.1.asc, by omega⟩
        have lT : ((beh x.L x.W).map V.str).length ≤ 40 := by rw [List.length_map]; omega
        refine ⟨_, RpZ.lstF (C7.at 0 rfl) fT lT, _, k7 _ _ hs, _, atI_of 2 rfl rfl, _, k7 _ _ hs, _, atI_of 3 rfl rfl, _, _, x.L, x.S, x.W, rfl, k7 _ _ (L.at 5 rfl), k7 _ _ (L.at 6 rfl), o.hS.up C7.fix, hWl, fun y hy => by rw [o.hT]; exact (o.hw y hy).1, fun f H8 D8 => ?_⟩
        have C8 := C7.and D8
        refine ⟨_, RpZ.lstF (C8.at 0 rfl) fT lT, rfl, ?_⟩
        rw [decide_eq_true rfl]
        exact h _ (C8.sub (List.nil_sublist _))
end
end Ks

/-! KsQb: the second part's deeds. -/
namespace Ks
open PySem PySem.Spec PyProof.Rows L2 PySem.W
section
variable {P : Program} {w : World} {K : PySem.W.Frag} {mg : Str → Option Value} {base : Heap} {a : Nat → Addr × FuncData} {c : Nat → Addr}
def sp_wrote (c : Nat → Addr) : Sp := fun vs H Q _ => ∃ (d s : Addr) (p w : Int) (n i : Nat) (z : Str) (x : Pq), vs = [.ref d, .ref s, .int i, .str z] ∧ Led H (ceq c d s p w x) ∧ Oq H p w n x ∧ n ≤ 3900 ∧ (i : Int) < p ∧ Prn z ∧ (z.length : Int) ≤ w ∧
  ∀ x' H', Oq H' p w (n + 1) x' → (x.lf = none → x'.lf = none ∧ x'.W.length = x.W.length + 1) → Chg ((ceq c d s p w x).map (·.1)) H H' (ceq c d s p w x') → Q (.bl true) H'
theorem ok_law_wrote (Z : Wd K mg a c) : FnG false P w K mg base 5 (a 57).1 (a 57).2 ["disk", "state", "page", "text"] (sp_wrote c) := by
  refine fun_okG Z.g_law_wrote.fn sc_law_wrote (fun vs H Q E h => ?_) (fun cdv A outer s H vs Q E hr h => ?_)
  · obtain ⟨d, s, p, w, n, i, z, x, rfl, _⟩ := h; rfl
  · obtain ⟨d, s, p, w, n, i, z, x, rfl, L0, ok, hn, hi, pz, lz, h⟩ := h
    refine ⟨_, (pss_cons (ps_set (i := 4) sc_law_wrote.nd rfl (Or.inl rfl) (pe_cmpR (o_ne hr.u64) (pe_ix ix_d (qv 1) pe_int (fun _ _ => rfl)) pe_int (nomark _)))
      (pss_cons (ps_if (pt_val (qv 4)) (pss_cons (ps_expr (q_lm PySem.F.slot_list_append PySem.F.type_list_append m_append (pe_ix ix_d (qv 1) pe_int (fun _ _ => rfl)) (pa_cons (pe_tup (pa_cons (qv 2) (pa_cons (qv 3) pa_nil))) pa_nil)))
      (pss_one (ps_asg (pe_ifExp (pt_cmpR o_is (pe_ix ix_d (qv 1) pe_int (fun _ _ => rfl)) pe_non (nomark _)) pe_non (pe_op o_sub (pe_ix ix_d (qv 1) pe_int (fun _ _ => rfl)) pe_int)) (pg_sub (qv 1) pe_int set_d)))) pss_nil)
      (pss_one (q_try sc_law_wrote.nd takes0 (fun _ _ _ tk hp => (pss_one (ps_ret (pe_and (pe_cmpR o_is (q_meth Z.m_write (ok_Disk_write Z) (hr.mono (by decide)) tk (qv 0) (pa_cons (qv 2) (pa_cons (qv 3) pa_nil))) pe_non (nomark _)) (pe_one (qv 4))))))
      (Hds.as (i := 5) rfl rfl (names_own (by rfl) Z.mg_PowerCut) (fun _ _ _ _ => (pss_one (ps_ret (pe_and (pe_callB (c_isiK K mg rfl rfl Z.eb) (by rfl) Z.n_isinstance bt_isinstance (pa_cons (qv 5) (pa_cons (pe_glob (v := .ref (c 0)) (by rfl) Z.mg_EarlierError rfl) pa_nil))) (pe_one (pe_not (qv 4))))))) Hds.nil))))), ?_⟩
    have p3 := ok.p3
    have p40 := ok.p40
    have w20 := ok.w20
    have w400 := ok.w400
    have hWn := ok.hn
    have hSl : x.S.length = x.W.length := ok.hS.length
    have hRl : x.R.length = x.W.length := ok.hW.length
    have C0 := Chg.of L0
    have T7 := Z.e_PowerCut.c
    have hix : ixB (.int (i : Int)) p = true := by simp only [ixB, Bool.and_eq_true, decide_eq_true_eq]; omega
    have hpg : pgV (.str z) w = true := pgT_ok pz lz
    have hbl : ((beh x.L x.W).length : Int) = p := by rw [beh_len]; exact ok.hT
    have up : ∀ lf q1 q2 H', (∀ a o, imm o = true → H a = some o → H' a = some o) → H' q1 = some (.tup [.int i, .str z]) → H' q2 = some (.tup [.int i, .str z]) → Oq H' p w (n + 1) { x with lf := lf, R := x.R ++ [q1], S := x.S ++ [q2], W := x.W ++ [((i : Int), z)] } := fun lf q1 q2 H' f g1 g2 =>
      ⟨p3, p40, w20, w400, ok.hT, ok.hP, Wrs.app (w := ((i : Int), z)) g1 (ok.hW.up f), Wrs.app (w := ((i : Int), z)) g2 (ok.hS.up f), fun y hy => by
        rcases List.mem_append.mp hy with q | q
        · exact ok.hw y q
        · rw [List.mem_singleton] at q
          subst q
          exact ⟨⟨by omega, hi⟩, pz, by show z.length ≤ 400; omega⟩, by rw [List.length_append]; show x.W.length + 1 ≤ n + 1; omega⟩
    obtain ⟨dx, la, te, wr, tx, kp, lf, Ls, R, S, W⟩ := x
    dsimp only at hWn hSl hRl hbl
    refine ⟨_, C0.at 4 rfl, _, atI_of 4 rfl rfl, ?_⟩
    by_cases e0 : lf = some 0
    · subst e0
      refine ⟨rfl, false, rfl, ?_⟩
      refine ⟨⟨_, _, C0.at 0 rfl, lk_none _ (by simp)⟩, d, dx, .int i, .str z, _, _, p, w, la, te, wr, some 0, beh Ls W, R, rfl, (C0.pick [0, 2, 3]).led, hbl, by omega, by omega, .int _, .str _, fun y e => by (cases e; omega),
        fun e => by (rw [hix] at e; cases e), fun _ e => by (rw [hpg] at e; cases e), fun _ _ _ H1 D1 => ⟨true, exm_ref T7.exC T7.hdC T7.tyC Z.ss_PowerCut, itP rfl fun er he => ?_⟩, fun _ _ _ _ _ _ e => absurd rfl e⟩
      have C2 := (C0.and D1).add (o := ExH (.ref (c 7)) none er) he
      refine ⟨_, _, _, .own _, .e (C2.at 0 rfl) (fun d e => nomatch e) T7, kit_up Z.eb T7, _, rfl, itP rfl ⟨false, rfl, ?_⟩⟩
      exact h _ _ (ok.up C2.fix) (fun z => nomatch z) ((C2.pick [1, 2, 3, 4, 5, 6, 7]).to (by rfl))
    · have fin : ∀ (lf' : Option Nat) (q : Addr) (H3 : Hp), (lf' = lf.map (· - 1)) → H3 q = some (.tup [.int i, .str z]) →
          Chg ((ceq c d s p w ⟨dx, la, te, wr, tx, kp, lf, Ls, R, S, W⟩).map (·.1)) H H3 [(d, .ins (c 8) dx (dkF p w la te wr (lfV lf))), (la, .lst (Ls.map V.str)), (te, .lst ((beh Ls W).map V.str)), (wr, .lst (R.map V.ref)), (s, .lst [.int p, .int w, .ref tx, .ref kp, lfV lf']), (tx, .lst (Ls.map V.str)), (kp, .lst (S.map V.ref ++ [.ref q]))] →
          (tAndV (tOp (rIs false) (tMt (c 8) "write" (sp_write c) (wHd K (fun _ _ _ _ => False) { nx := fun _ H' => Q .non H', rt := Q } [(.ref (c 7), tAs 5 fun _ _ _ => tRet (tAndV (tCB (kIsi K) (tCons (tV 5) (tCons (tC (.ref (c 0))) tNil))) (tNotV (tV 4))))]) (tV 0) (tCons (tV 2) (tCons (tV 3) tNil))) (tC .non)) (tV 4))
            ((L2.start ["disk", "state", "page", "text", "let", "e"] [.ref d, .ref s, .int i, .str z]).set 4 (some (.bl true))) H3 Q := fun lf' q H3 e1 hq C3 => by
        refine ⟨⟨_, _, C3.at 0 rfl, lk_none _ (by simp)⟩, d, dx, .int i, .str z, _, _, p, w, la, te, wr, lf, beh Ls W, R, rfl, (C3.pick [0, 2, 3]).led, hbl, by omega, by omega, .int _, .str _, fun y e => by (cases e; omega),
          fun e => by (rw [hix] at e; cases e), fun _ e => by (rw [hpg] at e; cases e), fun _ _ e => absurd e e0, fun j y ej _ ey _ _ r H4 D4 => ⟨rfl, _, rfl, itP rfl ?_⟩⟩
        have ej := V.int.inj ej
        have ej : i = j := by omega
        cases ej
        cases ey
        have C4 := C3.call [0, 2, 3] D4
        have k := up lf' r q H4 C4.fix (C4.at 3 rfl) (D4.fix _ _ rfl hq)
        subst e1
        refine h _ H4 k (fun z => ⟨by show Option.map _ lf = none; rw [show lf = none from z]; rfl, by show (W ++ [_]).length = W.length + 1; rw [List.length_append]; rfl⟩) ((C4.pick [0, 4, 1, 2, 5, 6, 7]).to ?_)
        show _ = [(d, _), (la, _), (te, HO.lst ((beh Ls (W ++ [((i : Int), z)])).map V.str)), (wr, _), (s, _), (tx, _), (kp, HO.lst ((S ++ [q]).map V.ref))]
        rw [beh_app]
        simp only [List.map_append]
        rfl
      cases lf with
      | none =>
        refine ⟨rfl, true, rfl, ?_⟩
        refine ⟨_, C0.at 4 rfl, _, atI_of 3 rfl rfl, ⟨_, C0.at 6 rfl⟩, leS rfl, fun q hq => ?_⟩
        have C1 := C0.add (o := .tup [.int i, .str z]) hq
        refine ⟨_, C1.at 7 rfl, by rw [List.length_map, sizeLine_eq]; show S.length < _; omega, ?_⟩
        have C2 := C1.set 7 (o' := .lst (S.map V.ref ++ [.ref q])) rfl
        refine ⟨_, C2.at 5 rfl, _, atI_of 4 rfl rfl, rfl, _, rfl, itP rfl ⟨_, 4, C2.at 5 rfl, rfl, ?_⟩⟩
        have C3 := C2.set 5 (o' := .lst [.int p, .int w, .ref tx, .ref kp, .non]) rfl
        exact fin none q _ rfl (C3.at 0 rfl) ((C3.pick [1, 2, 3, 4, 5, 6, 7]).to (by rfl))
      | some k =>
        cases k with
        | zero => exact absurd rfl e0
        | succ k =>
          refine ⟨rfl, ?_⟩
          have en : (!decide (V.int ((k + 1 : Nat) : Int) = V.int 0)) = true := by rw [decide_eq_false (fun e => by have := V.int.inj e; omega)]; rfl
          show tSeq _ _ _ ((L2.start ["disk", "state", "page", "text", "let", "e"] [.ref d, .ref s, .int i, .str z]).set 4 (some (.bl (!decide (V.int ((k + 1 : Nat) : Int) = V.int 0))))) H
          rw [en]
          refine ⟨true, rfl, ?_⟩
          refine ⟨_, C0.at 4 rfl, _, atI_of 3 rfl rfl, ⟨_, C0.at 6 rfl⟩, leS rfl, fun q hq => ?_⟩
          have C1 := C0.add (o := .tup [.int i, .str z]) hq
          refine ⟨_, C1.at 7 rfl, by rw [List.length_map, sizeLine_eq]; show S.length < _; omega, ?_⟩
          have C2 := C1.set 7 (o' := .lst (S.map V.ref ++ [.ref q])) rfl
          refine ⟨_, C2.at 5 rfl, _, atI_of 4 rfl rfl, rfl, _, rfl, itN rfl ⟨_, C2.at 5 rfl, _, atI_of 4 rfl rfl, _, 4, C2.at 5 rfl, rfl, ?_⟩⟩
          have C3 := C2.set 5 (o' := .lst [.int p, .int w, .ref tx, .ref kp, .int (((k + 1 : Nat) : Int) - 1)]) rfl
          have ek : ((k + 1 : Nat) : Int) - 1 = (k : Nat) := by omega
          exact fin (some k) q _ rfl (C3.at 0 rfl) ((C3.pick [1, 2, 3, 4, 5, 6, 7]).to (by rw [ek]; rfl))
def sp_settled (c : Nat → Addr) : Sp := fun vs H Q _ => ∃ (d s : Addr) (p w : Int) (n : Nat) (x : Pq), vs = [.ref d, .ref s] ∧ Led H (ceq c d s p w x) ∧ Oq H p w n x ∧ n ≤ 3900 ∧
  ∀ x' H', Oq H' p w n x' → (x.lf = none → x'.lf = none ∧ x'.W = []) → Chg ((ceq c d s p w x).map (·.1)) H H' (ceq c d s p w x') → Q (.bl true) H'
theorem ok_law_settled (Z : Wd K mg a c) : FnG false P w K mg base 5 (a 58).1 (a 58).2 ["disk", "state"] (sp_settled c) := by
  refine fun_okG Z.g_law_settled.fn sc_law_settled (fun vs H Q E h => ?_) (fun cdv A outer s H vs Q E hr h => ?_)
  · obtain ⟨d, s, p, w, n, x, rfl, _⟩ := h; rfl
  · obtain ⟨d, s, p, w, n, x, rfl, L0, ok, hn, h⟩ := h
    refine ⟨_, (pss_cons (ps_set (i := 2) sc_law_settled.nd rfl (Or.inl rfl) (pe_cmpR (o_ne hr.u64) (pe_ix ix_d (qv 1) pe_int (fun _ _ => rfl)) pe_int (nomark _)))
      (pss_cons (ps_if (pt_val (qv 2)) (pss_cons (ps_asg (pe_tup (pa_cons (q_call Z.g_law_behind (ok_law_behind Z) (hr.mono (by decide)) takes0 (pa_cons (pe_ix ix_d (qv 1) pe_int (fun _ _ => rfl)) (pa_cons (pe_ix ix_d (qv 1) pe_int (fun _ _ => rfl)) pa_nil))) (pa_cons (pe_lst pa_nil) pa_nil))) (pg_tup (n := 2) (by rfl) (pgs_cons (pg_sub (qv 1) pe_int set_d) (pgs_cons (pg_sub (qv 1) pe_int set_d) pgs_nil))))
      (pss_one (ps_asg (pe_ifExp (pt_cmpR o_is (pe_ix ix_d (qv 1) pe_int (fun _ _ => rfl)) pe_non (nomark _)) pe_non (pe_op o_sub (pe_ix ix_d (qv 1) pe_int (fun _ _ => rfl)) pe_int)) (pg_sub (qv 1) pe_int set_d)))) pss_nil)
      (pss_one (q_try sc_law_settled.nd takes0 (fun _ _ _ tk hp => (pss_one (ps_ret (pe_and (pe_cmpR o_is (q_meth0 Z.m_settle (ok_Disk_settle Z) (hr.mono (by decide)) tk (qv 0)) pe_non (nomark _)) (pe_one (qv 2))))))
      (Hds.as (i := 3) rfl rfl (names_own (by rfl) Z.mg_PowerCut) (fun _ _ _ _ => (pss_one (ps_ret (pe_and (pe_callB (c_isiK K mg rfl rfl Z.eb) (by rfl) Z.n_isinstance bt_isinstance (pa_cons (qv 3) (pa_cons (pe_glob (v := .ref (c 0)) (by rfl) Z.mg_EarlierError rfl) pa_nil))) (pe_one (pe_not (qv 2))))))) Hds.nil))))), ?_⟩
    have C0 := Chg.of L0
    have T7 := Z.e_PowerCut.c
    have hWn := ok.hn
    obtain ⟨dx, la, te, wr, tx, kp, lf, Ls, R, S, W⟩ := x
    dsimp only at hWn
    have hwp : ∀ y ∈ W, 0 ≤ y.1 ∧ y.1 < (Ls.length : Int) := fun y hy => by have := ok.hT; have := (ok.hw y hy).1; dsimp only at *; omega
    refine ⟨_, C0.at 4 rfl, _, atI_of 4 rfl rfl, ?_⟩
    by_cases e0 : lf = some 0
    · subst e0
      refine ⟨rfl, false, rfl, ?_⟩
      refine ⟨⟨_, _, C0.at 0 rfl, lk_none _ (by simp)⟩, d, dx, p, w, la, te, wr, some 0, beh Ls W, rfl, (C0.pick [0, 2]).led, fun _ => ⟨true, exm_ref T7.exC T7.hdC T7.tyC Z.ss_PowerCut, itP rfl fun er he => ?_⟩, fun e => absurd rfl e⟩
      have C2 := C0.add (o := ExH (.ref (c 7)) none er) he
      refine ⟨_, _, _, .own _, .e (C2.at 0 rfl) (fun d e => nomatch e) T7, kit_up Z.eb T7, _, rfl, itP rfl ⟨false, rfl, ?_⟩⟩
      exact h _ _ (ok.up C2.fix) (fun z => nomatch z) ((C2.pick [1, 2, 3, 4, 5, 6, 7]).to (by rfl))
    · have fin : ∀ (lf' : Option Nat) (tx' kp' : Addr) (H3 : Hp), (lf' = lf.map (· - 1)) →
          Chg ((ceq c d s p w ⟨dx, la, te, wr, tx, kp, lf, Ls, R, S, W⟩).map (·.1)) H H3 [(d, .ins (c 8) dx (dkF p w la te wr (lfV lf))), (la, .lst (Ls.map V.str)), (te, .lst ((beh Ls W).map V.str)), (wr, .lst (R.map V.ref)), (s, .lst [.int p, .int w, .ref tx', .ref kp', lfV lf']), (tx', .lst ((beh Ls W).map V.str)), (kp', .lst [])] →
          (tAndV (tOp (rIs false) (tMt (c 8) "settle" (sp_settle c) (wHd K (fun _ _ _ _ => False) { nx := fun _ H' => Q .non H', rt := Q } [(.ref (c 7), tAs 3 fun _ _ _ => tRet (tAndV (tCB (kIsi K) (tCons (tV 3) (tCons (tC (.ref (c 0))) tNil))) (tNotV (tV 2))))]) (tV 0) tNil) (tC .non)) (tV 2))
            ((L2.start ["disk", "state", "let", "e"] [.ref d, .ref s]).set 2 (some (.bl true))) H3 Q := fun lf' tx' kp' H3 e1 C3 => by
        refine ⟨⟨_, _, C3.at 0 rfl, lk_none _ (by simp)⟩, d, dx, p, w, la, te, wr, lf, beh Ls W, rfl, (C3.pick [0, 2]).led, fun e => absurd e e0, fun _ la' wr' H4 D4 => ⟨rfl, _, rfl, itP rfl ?_⟩⟩
        have C4 := C3.call [0] D4
        subst e1
        refine h ⟨dx, la', te, wr', tx', kp', lf.map (· - 1), beh Ls W, [], [], []⟩ H4 ⟨ok.p3, ok.p40, ok.w20, ok.w400, by show ((beh Ls W).length : Int) = p; rw [beh_len]; exact ok.hT, beh_ok W Ls ok.hP (fun y hy => (ok.hw y hy).2), .nil, .nil, fun y hy => (nomatch hy), Nat.zero_le _⟩ (fun z => ⟨by show Option.map _ lf = none; rw [show lf = none from z]; rfl, rfl⟩) ((C4.pick [0, 1, 4, 2, 6, 7, 8]).to (by rfl))
      have mid : ∃ b, (!decide (lfV lf = V.int 0)) = b ∧ b = true := ⟨_, rfl, by
        cases lf with
        | none => rfl
        | some k =>
          cases k with
          | zero => exact absurd rfl e0
          | succ k => rw [decide_eq_false (fun e => by have := V.int.inj e; omega)]; rfl⟩
      obtain ⟨_, rfl, hb⟩ := mid
      cases lf with
      | none =>
        refine ⟨rfl, true, rfl, ?_⟩
        refine ⟨_, C0.at 4 rfl, _, atI_of 2 rfl rfl, _, C0.at 4 rfl, _, atI_of 3 rfl rfl, tx, kp, Ls, S, W, rfl, C0.at 5 rfl, C0.at 6 rfl, ok.hS, by omega, hwp, fun f H1 D1 => ?_⟩
        have C1 := C0.and D1
        refine ⟨leS rfl, fun kp' hkp => ⟨leS rfl, fun t ht => ?_⟩⟩
        have C2 := (C1.add (o := .lst []) hkp).skip (o := .tup [.ref f, .ref kp']) ht
        refine ⟨t, _, rfl, .of upd_same, rfl, _, _, rfl, _, 2, C2.at 6 rfl, rfl, ?_⟩
        have C3 := C2.set 6 (o' := .lst [.int p, .int w, .ref f, .ref kp, .non]) rfl
        refine ⟨_, _, rfl, _, 3, C3.at 6 rfl, rfl, rfl, ?_⟩
        have C4 := C3.set 6 (o' := .lst [.int p, .int w, .ref f, .ref kp', .non]) rfl
        refine ⟨_, C4.at 6 rfl, _, atI_of 4 rfl rfl, rfl, _, rfl, itP rfl ⟨_, 4, C4.at 6 rfl, rfl, ?_⟩⟩
        have C5 := C4.set 6 (o' := .lst [.int p, .int w, .ref f, .ref kp', .non]) rfl
        exact fin none f kp' _ rfl ((C5.pick [2, 3, 4, 5, 6, 1, 0]).to (by rfl))
      | some k =>
        cases k with
        | zero => exact absurd rfl e0
        | succ k =>
          refine ⟨rfl, ?_⟩
          show tSeq _ _ _ ((L2.start ["disk", "state", "let", "e"] [.ref d, .ref s]).set 2 (some (.bl (!decide (V.int ((k + 1 : Nat) : Int) = V.int 0))))) H
          rw [show (!decide (V.int ((k + 1 : Nat) : Int) = V.int 0)) = true from hb]
          refine ⟨true, rfl, ?_⟩
          refine ⟨_, C0.at 4 rfl, _, atI_of 2 rfl rfl, _, C0.at 4 rfl, _, atI_of 3 rfl rfl, tx, kp, Ls, S, W, rfl, C0.at 5 rfl, C0.at 6 rfl, ok.hS, by omega, hwp, fun f H1 D1 => ?_⟩
          have C1 := C0.and D1
          refine ⟨leS rfl, fun kp' hkp => ⟨leS rfl, fun t ht => ?_⟩⟩
          have C2 := (C1.add (o := .lst []) hkp).skip (o := .tup [.ref f, .ref kp']) ht
          refine ⟨t, _, rfl, .of upd_same, rfl, _, _, rfl, _, 2, C2.at 6 rfl, rfl, ?_⟩
          have C3 := C2.set 6 (o' := .lst [.int p, .int w, .ref f, .ref kp, lfV (some (k + 1))]) rfl
          refine ⟨_, _, rfl, _, 3, C3.at 6 rfl, rfl, rfl, ?_⟩
          have C4 := C3.set 6 (o' := .lst [.int p, .int w, .ref f, .ref kp', lfV (some (k + 1))]) rfl
          refine ⟨_, C4.at 6 rfl, _, atI_of 4 rfl rfl, rfl, _, rfl, itN rfl ⟨_, C4.at 6 rfl, _, atI_of 4 rfl rfl, _, 4, C4.at 6 rfl, rfl, ?_⟩⟩
          have C5 := C4.set 6 (o' := .lst [.int p, .int w, .ref f, .ref kp', .int (((k + 1 : Nat) : Int) - 1)]) rfl
          have ek : ((k + 1 : Nat) : Int) - 1 = (k : Nat) := by omega
          exact fin (some k) f kp' _ rfl ((C5.pick [2, 3, 4, 5, 6, 1, 0]).to (by rw [ek]; rfl))
def sp_stopped (c : Nat → Addr) : Sp := fun vs H Q _ => ∃ (d s : Addr) (p w : Int) (n m : Nat) (x : Pq), vs = [.ref d, .ref s, .int m] ∧ Led H (ceq c d s p w x) ∧ Oq H p w n x ∧
  ∀ H', Oq H' p w n { x with lf := some m } → Chg ((ceq c d s p w x).map (·.1)) H H' (ceq c d s p w { x with lf := some m }) → Q (.bl true) H'
theorem ok_law_stopped (Z : Wd K mg a c) : FnG false P w K mg base 4 (a 59).1 (a 59).2 ["disk", "state", "count"] (sp_stopped c) := by
  refine fun_okG Z.g_law_stopped.fn sc_law_stopped (fun vs H Q E h => ?_) (fun cdv A outer s H vs Q E hr h => ?_)
  · obtain ⟨d, s, p, w, n, m, x, rfl, _⟩ := h; rfl
  · obtain ⟨d, s, p, w, n, m, x, rfl, L0, ok, h⟩ := h
    refine ⟨_, (pss_cons (ps_asg (qv 2) (pg_sub (qv 1) pe_int set_d))
      (pss_one (ps_ret (pe_cmpR o_is (q_meth Z.m_stop (ok_Disk_stop Z) (hr.mono (by decide)) takes0 (qv 0) (pa_cons (qv 2) pa_nil)) pe_non (nomark _))))), ?_⟩
    have C0 := Chg.of L0
    refine ⟨_, 4, C0.at 4 rfl, rfl, ?_⟩
    have C1 := C0.set 4 (o' := .lst [.int p, .int w, .ref x.tx, .ref x.kp, .int m]) rfl
    have hct : ctB (.int (m : Int)) = true := by
      show decide ((0 : Int) ≤ (m : Int)) = true
      exact decide_eq_true (by omega)
    refine ⟨⟨_, _, C1.at 0 rfl, lk_none _ (by simp)⟩, d, _, .int m, _, p, w, _, _, _, _, rfl, C1.at 0 rfl, .int _, fun e => by (rw [hct] at e; cases e), fun _ H2 D2 => ⟨rfl, ?_⟩⟩
    have C2 := C1.call [0] D2
    have k := ok.up C2.fix (m := n)
    exact h H2 ⟨k.p3, k.p40, k.w20, k.w400, k.hT, k.hP, k.hW, k.hS, k.hw, k.hn⟩ (C2.to (by rfl))
end
end Ks

/-! KsQc: cuts; wrong lists. -/
namespace Ks
open PySem PySem.Spec PyProof.Rows L2 PySem.W
/-- a list (or what is none) that cut refuses, with its own cells -/
structure Bd (K : PySem.W.Frag) (H : Hp) (dn : V) (k : Knd) (M : Cells) : Prop where
  led : Led H M
  rp : ∀ H' : Hp, (∀ a o, imm o = true → H a = some o → H' a = some o) → (∀ p ∈ M, H' p.1 = some p.2) → Arg H' dn k ∧ (k ≠ .lst → Rp K H' dn) ∧
    ∀ (l : Addr) (xs : List V), dn = .ref l → H' l = some (.lst xs) → xs.length < 10000 ∧ (∃ i : Nat, M[i]? = some (l, HO.lst xs)) ∧ Rp K (upd H' l (.lst (xs ++ [.int 0]))) dn
section
variable {P : Program} {w : World} {K : PySem.W.Frag} {mg : Str → Option Value} {base : Heap} {a : Nat → Addr × FuncData} {c : Nat → Addr}
def sp_law_cut (K : PySem.W.Frag) (c : Nat → Addr) : Sp := fun vs H Q _ => ∃ (d dx : Addr) (dn : V) (k : Knd) (ys : List V) (bn : Bool) (p w : Int) (la te wr : Addr) (lf : V) (L : List Str) (R : List Addr) (W : List (Int × Str)),
  vs = [.ref d, dn, .bl bn] ∧ H d = some (.ins (c 8) dx (dkF p w la te wr lf)) ∧ H la = some (.lst (L.map V.str)) ∧ H wr = some (.lst (R.map V.ref)) ∧ Wrs H R W ∧ Seqd H dn k ys ∧ (L.length : Int) = p ∧ 3 ≤ p ∧ p ≤ 40 ∧ 20 ≤ w ∧ w ≤ 400 ∧ W.length ≤ 4000 ∧ (∀ x ∈ W, 0 ≤ x.1 ∧ x.1 < p) ∧
  ((¬ ∃ ns, Kept k ys W.length ns) → ∃ M : Cells, Bd K H dn k M ∧ ∀ r H', Chg (M.map (·.1)) H H' [rs r "done" (.bl true)] → Q (.ref r) H') ∧
  ∀ ns, Kept k ys W.length ns → ∀ r e dx' la' te' wr' H', Chg [] H H' [rs r "told" (.ref e), (e, .ins (c 8) dx' (dkF p w la' te' wr' .non)), (la', .lst ((beh L (atW W ns)).map V.str)), (te', .lst ((beh L (atW W ns)).map V.str)), (wr', .lst [])] → Q (.ref r) H'
theorem ok_law_cut (Z : Wd K mg a c) : FnG false P w K mg base 6 (a 60).1 (a 60).2 ["disk", "done", "by_name"] (sp_law_cut K c) := by
  refine fun_okG Z.g_law_cut.fn sc_law_cut (fun vs H Q E h => ?_) (fun cdv A outer s H vs Q E hr h => ?_)
  · obtain ⟨d, dx, dn, k, ys, bn, p, w, la, te, wr, lf, L, R, W, rfl, _⟩ := h; rfl
  · obtain ⟨d, dx, dn, k, ys, bn, p, w, la, te, wr, lf, L, R, W, rfl, hd, hla, hw, hW, sq, hL, p3, p40, w20, w400, hn, hWp, hbad, hgood⟩ := h
    refine ⟨_, (pss_one (q_try sc_law_cut.nd takes0 (fun _ _ _ tk hp => (pss_one (ps_ret (pe_lst (pa_cons pe_str (pa_cons (pe_ifExp (pt_val (qv 2)) (q_methK Z.m_cut (kb_cut Z) (ok_Disk_cut Z) (hr.mono (by decide)) tk (qv 0) (pk_cons (qv 1) pk_nil)) (q_meth Z.m_cut (ok_Disk_cut Z) (hr.mono (by decide)) tk (qv 0) (pa_cons (qv 1) pa_nil))) pa_nil))))))
      (Hds.as (i := 3) rfl rfl (names_own (by rfl) Z.mg_InvalidDone) (fun _ _ _ _ => (pss_cons (ps_if (pt_val (pe_callB (c_isiK K mg rfl rfl Z.eb) (by rfl) Z.n_isinstance bt_isinstance (pa_cons (qv 1) (pa_cons (pe_bltn (v := .ty "list") (by rfl) Z.n_list bt_list rfl) pa_nil)))) (pss_one (ps_expr (q_lm PySem.F.slot_list_append PySem.F.type_list_append m_append (qv 1) (pa_cons pe_int pa_nil)))) pss_nil)
      (pss_one (ps_ret (pe_lst (pa_cons pe_str (pa_cons (pe_and (pe_callB (c_isiK K mg rfl rfl Z.eb) (by rfl) Z.n_isinstance bt_isinstance (pa_cons (qv 3) (pa_cons (pe_glob (v := .ref (c 0)) (by rfl) Z.mg_EarlierError rfl) pa_nil))) (pe_one (pe_cmpR (o_eqK K rfl (hr.any _).u64) (pe_callB (c_reprK K rfl (hr.any _).u64 (hr.any _).gd) (by rfl) Z.n_repr bt_repr (pa_cons (q_givK K rfl (qv 3)) pa_nil)) (pe_callB (c_reprK K rfl (hr.any _).u64 (hr.any _).gd) (by rfl) Z.n_repr bt_repr (pa_cons (qv 1) pa_nil)) (nomark _)))) pa_nil))))))) (Hds.no (names_own (by rfl) Z.mg_EarlierError) (fun _ _ _ _ => (pss_one (ps_ret (pe_lst (pa_cons pe_str pa_nil))))) Hds.nil)))), ?_⟩
    refine ⟨bn, rfl, ?_⟩
    have T6 := Z.e_InvalidDone.c
    cases bn
    case' false => refine ⟨⟨_, _, hd, lk_none _ (by simp)⟩, ?_⟩
    case' true => refine ⟨⟨_, _, hd, lk_none _ (by simp)⟩, rfl, ?_⟩
    all_goals
      refine ⟨d, dx, dn, k, ys, p, w, la, te, wr, lf, L, R, W, rfl, hd, hla, hw, hW, sq, hL, p3, p40, w20, w400, hn, hWp, fun nk dd H1 D1 => ⟨true, exm_ref T6.exC T6.hdC T6.tyC Z.ss_InvalidDone, itP rfl fun er he => ?_⟩, fun ns hk e dx' la' te' wr' H1 D1 => ⟨leS rfl, fun r hr' => ?_⟩⟩
      · obtain ⟨M, bd, h⟩ := hbad nk
        have C2 : Chg (M.map (·.1)) H _ ((er, ExH (.ref (c 6)) (some dd) er) :: (dd, .xd [(("given" : Str), dn)]) :: M) := ((Chg.of bd.led).and D1).add he
        obtain ⟨ar, r1, r2⟩ := bd.rp _ C2.fix fun p hp => C2.led.hp p (List.mem_cons_of_mem _ (List.mem_cons_of_mem _ hp))
        refine ⟨_, _, _, .ty _, ar.ty, kit_list k, _, rfl, ?_⟩
        by_cases kl : k = .lst
        · refine itP (decide_eq_true kl) ?_
          subst kl
          cases ar with
          | @lst l xs el =>
            obtain ⟨n, ⟨i, hi⟩, z, hz⟩ := r2 l xs rfl el
            have C3 := C2.set (i + 2) (o' := .lst (xs ++ [.int 0])) hi
            have he3 : upd _ l (.lst (xs ++ [.int 0])) er = _ := C3.at 0 (by rfl)
            have hd3 : upd _ l (.lst (xs ++ [.int 0])) dd = _ := C3.at 1 (by rfl)
            refine ⟨⟨_, el⟩, _, el, by rw [sizeLine_eq]; omega, ?_⟩
            refine ⟨_, _, _, .own _, .e he3 (fun d e => by cases e; exact ⟨_, hd3⟩) T6, kit_up Z.eb T6, _, rfl, ?_⟩
            refine ⟨_, c 0, dd, _, _, he3, T6, Z.en_InvalidDone, hd3, rfl, z, hz, z, hz, rfl, ?_⟩
            rw [decide_eq_true rfl]
            exact ⟨leS rfl, fun r hr' => h r _ ((C3.sub (List.nil_sublist _)).add hr')⟩
        · refine itN (decide_eq_false kl) ?_
          obtain ⟨z, hz⟩ := r1 kl
          refine ⟨_, _, _, .own _, .e (C2.at 0 rfl) (fun d e => by cases e; exact ⟨_, C2.at 1 rfl⟩) T6, kit_up Z.eb T6, _, rfl, ?_⟩
          refine ⟨_, c 0, dd, _, _, C2.at 0 rfl, T6, Z.en_InvalidDone, C2.at 1 rfl, rfl, z, hz, z, hz, rfl, ?_⟩
          rw [decide_eq_true rfl]
          exact ⟨leS rfl, fun r hr' => h r _ ((C2.sub (List.nil_sublist _)).add hr')⟩
      · exact hgood ns hk r e dx' la' te' wr' _ (D1.add hr')
end
end Ks

/-! KsQd: lists that cut refuses. -/
namespace Ks
open PySem PySem.Spec PyProof.Rows L2 PySem.W
/-- flat and short -/
def sm (x : V) : Prop := fl x ∧ (flD x).shown.length ≤ 1921
theorem smI {i : Int} (h : i.natAbs < 2 ^ 200) : sm (.int i) := ⟨fli (log_small h), by
  have := int_text_len_1921 (i := i) (log_small h)
  simp only [flD, PyData.shown]
  exact this⟩
theorem smF1 {v : V} (h : fl v) (n : (flD v).shown.length ≤ 1921) : ∀ x ∈ [v], sm x := fun x hx => by
  rw [List.mem_singleton] at hx; subst hx; exact ⟨h, n⟩
theorem smI1 (i : Int) (h : i.natAbs < 2 ^ 200) : ∀ x ∈ [V.int i], sm x := fun x hx => by
  rw [List.mem_singleton] at hx; subst hx; exact smI h
theorem smA {xs ys : List V} (h : ∀ x ∈ xs, sm x) (g : ∀ x ∈ ys, sm x) : ∀ x ∈ xs ++ ys, sm x := fun x hx => (List.mem_append.mp hx).elim (h x) (g x)
theorem argI1 {H : Hp} (i : Int) : ∀ y ∈ [V.int i], ∃ k, Arg H y k := fun y hy => by
  rw [List.mem_singleton] at hy; subst hy; exact ⟨_, .int i⟩
theorem argF1 {H : Hp} {k : Knd} (v : V) (a : Arg H v k) : ∀ y ∈ [v], ∃ k, Arg H y k := fun y hy => by
  rw [List.mem_singleton] at hy; subst hy; exact ⟨_, a⟩
theorem argA {H : Hp} {xs ys : List V} (h : ∀ y ∈ xs, ∃ k, Arg H y k) (g : ∀ y ∈ ys, ∃ k, Arg H y k) : ∀ y ∈ xs ++ ys, ∃ k, Arg H y k := fun x hx => (List.mem_append.mp hx).elim (h x) (g x)
theorem Kept.mem {k : Knd} {ys : List V} {m : Int} {ns : List Int} (h : Kept k ys m ns) {y : V} (hy : y ∈ ys) : ixB y m = true := by
  obtain ⟨_, e, b, _⟩ := h
  rw [e] at hy
  obtain ⟨n, hn, rfl⟩ := List.mem_map.mp hy
  simp only [ixB, Bool.and_eq_true, decide_eq_true_eq]
  exact b n hn
theorem nk_mem {k : Knd} {ys : List V} {m : Int} {y : V} (hy : y ∈ ys) (h : ixB y m = false) : ¬ ∃ ns, Kept k ys m ns := fun ⟨ns, q⟩ => by
  have := q.mem hy
  rw [h] at this; cases this
theorem nk_no {k : Knd} {ys : List V} {m : Int} (h1 : k ≠ .lst) (h2 : k ≠ .tup) : ¬ ∃ ns, Kept k ys m ns := fun ⟨ns, q⟩ => q.1.elim h1 h2
theorem nk_dup {k : Knd} {A B : List V} {m : Int} {y : V} (h1 : y ∈ A) (h2 : y ∈ B) : ¬ ∃ ns, Kept k (A ++ B) m ns := fun ⟨ns, _, e, _, pw⟩ => by
  obtain ⟨l1, l2, rfl, e1, e2⟩ := List.map_eq_append_iff.mp e.symm
  subst e1 e2
  obtain ⟨i, hi, ei⟩ := List.mem_map.mp h1
  obtain ⟨j, hj, ej⟩ := List.mem_map.mp h2
  have := (List.pairwise_append.mp pw).2.2 i hi j hj
  have e3 : i = j := V.int.inj (ei.trans ej.symm)
  omega
section
variable {K : PySem.W.Frag} {H : Hp}
theorem sm_dp {xs : List V} (h : ∀ x ∈ xs, sm x) {l : Addr} (e : H l = some (.lst xs)) (n : xs.length ≤ 8000) : Rp K H (.ref l) :=
  .lst (b := 1921) flD e (fun x hx => fl_dp (h x hx).1) (fun x hx => (fl_show (h x hx).1).1) (fun x hx => (h x hx).2) (fun x hx => by have := (fl_show (h x hx).1).2.2; omega) (by omega)
theorem Bd.lst {l : Addr} {xs : List V} (e : H l = some (.lst xs)) (h : ∀ x ∈ xs, sm x) (n : xs.length ≤ 4000) : Bd K H (.ref l) .lst [(l, .lst xs)] where
  led := .one e
  rp := fun H' _ m => by
    have e' := m _ List.mem_cons_self
    refine ⟨.lst e', fun z => absurd rfl z, fun l' ys el hl => ?_⟩
    cases el
    dsimp only at e'
    rw [e'] at hl; cases hl
    exact ⟨by omega, ⟨0, rfl⟩, sm_dp (smA h (smI1 0 (by decide))) upd_same (by rw [List.length_append]; show xs.length + 1 ≤ 8000; omega)⟩
theorem Bd.bg {v : V} {k : Knd} {M : Cells} (b : Bg H v k M) (hk : k ≠ .lst) : Bd K H v k M where
  led := b.led
  rp := fun H' f m => by
    have b' := b.up f m
    refine ⟨b'.arg, fun _ => b'.rp, fun l xs e hl => ?_⟩
    subst e
    cases b' with
    | lst _ _ _ => exact absurd rfl hk
    | tup e _ _ => rw [e] at hl; cases hl
    | dct0 e => rw [e] at hl; cases hl
    | dct1 e _ _ => rw [e] at hl; cases hl
theorem list_show {R : List V} (h : ∀ x ∈ R, sm x) (n : R.length ≤ 1000) : (PyData.list (R.map flD)).showable = true ∧ (PyData.list (R.map flD)).shown.length ≤ 1923002 ∧ (PyData.list (R.map flD)).depth ≤ 1 := by
  refine ⟨?_, ?_, ?_⟩
  · simp only [PyData.showable]
    exact showableAll_of fun d hd => by
      obtain ⟨x, hx, rfl⟩ := List.mem_map.mp hd
      exact (fl_show (h x hx).1).1
  · simp only [PyData.shown, shownAll_map, List.map_map]
    refine Nat.le_trans (listText_le (b := 1921) fun t ht => ?_) (by rw [List.length_map]; omega)
    obtain ⟨x, hx, rfl⟩ := List.mem_map.mp ht
    exact (h x hx).2
  · simp only [PyData.depth]
    have := depthAll_le (n := 0) (ds := R.map flD) fun d hd => by
      obtain ⟨x, hx, rfl⟩ := List.mem_map.mp hd
      have := (fl_show (h x hx).1).2.2
      omega
    omega
theorem Bd.lst1 {l s : Addr} {R : List V} (L : Led H [(l, .lst [.ref s]), (s, .lst R)]) (h : ∀ x ∈ R, sm x) (n : R.length ≤ 1000) : Bd K H (.ref l) .lst [(l, .lst [.ref s]), (s, .lst R)] where
  led := L
  rp := fun H' _ m => by
    have e1 := m _ List.mem_cons_self
    have e2 := m (s, .lst R) (by simp)
    dsimp only at e1 e2
    have ne : s ≠ l := fun z => by
      have := L.nd
      rw [z] at this
      simp at this
    refine ⟨.lst e1, fun z => absurd rfl z, fun l' ys el hl => ?_⟩
    cases el
    rw [e1] at hl; cases hl
    refine ⟨by simp, ⟨0, rfl⟩, ?_⟩
    obtain ⟨s1, s2, s3⟩ := list_show h n
    have e3 : upd H' l (.lst ([V.ref s] ++ [.int 0])) s = some (.lst R) := by rw [upd_ne ne]; exact e2
    refine .lst (b := 1923002) (fun x => if x = .ref s then .list (R.map flD) else flD x) upd_same (fun x hx => ?_) (fun x hx => ?_) (fun x hx => ?_) (fun x hx => ?_) (by simp)
    all_goals
      rcases List.mem_append.mp hx with q | q
      · rw [List.mem_singleton] at q
        subst q
        rw [if_pos rfl]
        first
          | exact .lst (.of e3) (dpAll_of flD fun y hy => fl_dp (h y hy).1)
          | exact s1
          | exact s2
          | omega
      · rw [List.mem_singleton] at q
        subst q
        rw [if_neg (by simp)]
        first
          | exact .int 0
          | rfl
          | decide
theorem Bd.tup1 {l s : Addr} {R : List V} (e : H l = some (.tup [.ref s])) (L : Led H [(s, .lst R)]) (h : ∀ x ∈ R, sm x) (n : R.length ≤ 1000) : Bd K H (.ref l) .tup [(s, .lst R)] where
  led := L
  rp := fun H' f m => by
    have e1 := f _ _ rfl e
    have e2 := m (s, .lst R) (by simp)
    dsimp only at e2
    obtain ⟨s1, s2, s3⟩ := list_show h n
    refine ⟨.tup e1, fun _ => ?_, fun l' ys el hl => ?_⟩
    · refine .tup (b := 1923002) (fun x => .list (R.map flD)) e1 (fun x hx => ?_) (fun x hx => s1) (fun x hx => s2) (fun x hx => by omega) (by simp)
      rw [List.mem_singleton] at hx
      subst hx
      exact .lst (.of e2) (dpAll_of flD fun y hy => fl_dp (h y hy).1)
    · cases el
      rw [e1] at hl; cases hl
end
section
variable {P : Program} {w : World} {K : PySem.W.Frag} {mg : Str → Option Value} {base : Heap} {a : Nat → Addr × FuncData} {c : Nat → Addr}
def sp_bad_done (K : PySem.W.Frag) : Sp := fun vs H Q _ => ∃ way m : Nat, vs = [.int way, .int m] ∧ way < 18 ∧ m ≤ 900 ∧ ∀ dn k ys M H', Bd K H' dn k M → Seqd H' dn k ys → (¬ ∃ ns, Kept k ys m ns) → Chg [] H H' M → Q dn H'
theorem ok_law_bad_done (Z : Wd K mg a c) : FnG false P w K mg base 1 (a 61).1 (a 61).2 ["way", "many"] (sp_bad_done K) := by
  refine fun_okG Z.g_law_bad_done.fn sc_law_bad_done (fun vs H Q E h => ?_) (fun cdv A outer s H vs Q E hr h => ?_)
  · obtain ⟨way, m, rfl, _⟩ := h; rfl
  · obtain ⟨way, m, rfl, hway, hm, h⟩ := h
    refine ⟨_, (pss_cons (ps_set (i := 2) sc_law_bad_done.nd rfl (Or.inl rfl) (pe_listRg (by rfl) (by rfl) Z.n_list (prg_1 (by rfl) Z.n_range (qv 1))))
      (pss_cons (ps_set (i := 3) sc_law_bad_done.nd rfl (Or.inl rfl) (pe_lst (pa_cons (pe_lst (pa_cons (qv 1) pa_nil)) (pa_cons (pe_lst (pa_cons (pe_un o_neg pe_int) pa_nil)) (pa_cons (pe_op o_add (qv 2) (pe_lst (pa_cons (qv 1) pa_nil))) (pa_cons (pe_op o_add (pe_op o_add (qv 2) (pe_slice sl_d (qv 2) (po_some (pe_un o_neg pe_int)) po_none)) (pe_lst (pa_cons (pe_op o_sub (qv 1) pe_int) pa_nil))) (pa_cons (pe_op o_add (pe_lst (pa_cons pe_int pa_nil)) (qv 2)) (pa_cons (pe_op o_add (pe_revL (qv 2)) (pe_lst (pa_cons pe_int pa_nil))) (pa_cons (pe_lst (pa_cons pe_non pa_nil)) (pa_cons (pe_lst (pa_cons pe_str pa_nil)) pa_nil))))))))))
      (pss_one (ps_ret (pe_ix ix_d (pe_op o_add (qv 3) (pe_lst (pa_cons (pe_op o_add (qv 2) (pe_lst (pa_cons pe_bl pa_nil))) (pa_cons (pe_op o_add (pe_lst (pa_cons pe_bl pa_nil)) (pe_slice sl_d (qv 2) (po_some pe_int) po_none)) (pa_cons pe_non (pa_cons pe_int (pa_cons pe_str (pa_cons pe_dnewK (pa_cons (pe_disp (pps_cons pe_str pe_int pps_nil) rfl rfl (by simp) (by decide)) (pa_cons (pe_lst (pa_cons (qv 2) pa_nil)) (pa_cons (pe_tup (pa_cons (qv 2) pa_nil)) (pa_cons (pe_op o_add (pe_lst (pa_cons (pe_un o_neg pe_int) pa_nil)) (qv 2)) pa_nil)))))))))))) (qv 0) (fun _ _ => rfl)))))), ?_⟩
    have C0 : Chg [] H H [] := .of .nil
    refine ⟨m, rfl, ⟨by omega, by omega, by omega, by omega, by omega⟩, fun smA' hsm => ?_⟩
    generalize hR : rgV 0 (m : Int) = R
    have eR : R = (List.range m).map fun i : Nat => V.int (i : Int) := by
      rw [← hR]
      unfold rgV
      rw [show ((m : Int) - 0).toNat = m by omega]
      congr 1
      funext i
      rw [show (0 : Int) + (i : Nat) = (i : Int) by omega]
    have hc0 : R.length = m := by rw [eR, List.length_map, List.length_range]
    have inR' : ∀ x ∈ R, ∃ i : Nat, x = V.int (i : Int) ∧ i < m := fun x hx => by
      rw [eR] at hx
      obtain ⟨i, hi, rfl⟩ := List.mem_map.mp hx
      exact ⟨i, rfl, List.mem_range.mp hi⟩
    have inR2 : ∀ i : Nat, i < m → V.int (i : Int) ∈ R := fun i hi => by
      rw [eR]
      exact List.mem_map.mpr ⟨i, List.mem_range.mpr hi, rfl⟩
    have hc1 : (cutV R (some (-1)) none).length ≤ m := by
      unfold cutV
      rw [List.length_take, List.length_drop]; omega
    have hc2 : (cutV R (some 1) none).length ≤ m := by
      unfold cutV
      rw [List.length_take, List.length_drop]; omega
    have cutR : ∀ lo, ∀ x ∈ cutV R lo none, x ∈ R := fun lo x hx => List.mem_of_mem_drop (List.mem_of_mem_take hx)
    have smR : ∀ x ∈ R, sm x := fun x hx => by
      obtain ⟨i, rfl, hi⟩ := inR' x hx
      exact smI (by omega)
    have smRr : ∀ x ∈ R.reverse, sm x := fun x hx => smR x (List.mem_reverse.mp hx)
    have smC1 : ∀ x ∈ cutV R (some (-1)) none, sm x := fun x hx => smR x (cutR _ x hx)
    have smC2 : ∀ x ∈ cutV R (some 1) none, sm x := fun x hx => smR x (cutR _ x hx)
    have argR : ∀ H : Hp, ∀ y ∈ R, ∃ k, Arg H y k := fun H y hy => by
      obtain ⟨i, rfl, _⟩ := inR' y hy
      exact ⟨_, .int _⟩
    have argRr : ∀ H : Hp, ∀ y ∈ R.reverse, ∃ k, Arg H y k := fun H y hy => argR H y (List.mem_reverse.mp hy)
    have argC1 : ∀ H : Hp, ∀ y ∈ cutV R (some (-1)) none, ∃ k, Arg H y k := fun H y hy => argR H y (cutR _ y hy)
    have argC2 : ∀ H : Hp, ∀ y ∈ cutV R (some 1) none, ∃ k, Arg H y k := fun H y hy => argR H y (cutR _ y hy)
    have nk3 : ¬ ∃ ns, Kept .lst ((R ++ cutV R (some (-1)) none) ++ [.int (m - 1)]) m ns := by
      by_cases m0 : m = 0
      · exact nk_mem (y := .int ((m : Int) - 1)) (by simp) (by simp [ixB]; omega)
      · refine nk_dup (y := .int ((m : Int) - 1)) (List.mem_append_left _ ?_) (by simp)
        have := inR2 (m - 1) (by omega)
        rw [show ((m - 1 : Nat) : Int) = (m : Int) - 1 by omega] at this
        exact this
    have nk4 : ¬ ∃ ns, Kept .lst ([.int 0] ++ R) m ns := by
      by_cases m0 : m = 0
      · exact nk_mem (y := .int 0) (by simp) (by simp [ixB]; omega)
      · exact nk_dup (y := .int 0) (by simp) (inR2 0 (by omega))
    have nk5 : ¬ ∃ ns, Kept .lst (R.reverse ++ [.int 0]) m ns := by
      by_cases m0 : m = 0
      · exact nk_mem (y := .int 0) (by simp) (by simp [ixB]; omega)
      · exact nk_dup (y := .int 0) (List.mem_reverse.mpr (inR2 0 (by omega))) (by simp)
    have C1 := C0.add (o := .lst R) hsm
    refine ⟨leS rfl, fun l1 nl1 => ?_⟩
    have C2 := C1.add (o := .lst [.int m]) nl1
    refine ⟨leS rfl, fun l2 nl2 => ?_⟩
    have C3 := C2.add (o := .lst [.int (-1)]) nl2
    refine ⟨leS rfl, fun t3 nt3 => ?_⟩
    have C4 := C3.add (o := .lst [.int m]) nt3
    refine ⟨_, _, C4.at 3 rfl, C4.at 0 rfl, (by (try simp only [List.length_append, List.length_reverse, List.length_cons, List.length_nil]); rw [sizeLine_eq]; omega), fun l3 nl3 => ?_⟩
    have C5 := C4.add (o := .lst (R ++ [.int m])) nl3
    refine ⟨_, rfl, _, C5.at 4 rfl, fun s4 ns4 => ?_⟩
    have C6 := C5.add (o := .lst (cutV R (some (-1)) none)) ns4
    refine ⟨_, _, C6.at 5 rfl, C6.at 0 rfl, (by (try simp only [List.length_append, List.length_reverse, List.length_cons, List.length_nil]); rw [sizeLine_eq]; omega), fun a4 na4 => ?_⟩
    have C7 := C6.add (o := .lst (R ++ cutV R (some (-1)) none)) na4
    refine ⟨leS rfl, fun t4 nt4 => ?_⟩
    have C8 := C7.add (o := .lst [.int (m - 1)]) nt4
    refine ⟨_, _, C8.at 1 rfl, C8.at 0 rfl, (by (try simp only [List.length_append, List.length_reverse, List.length_cons, List.length_nil]); rw [sizeLine_eq]; omega), fun l4 nl4 => ?_⟩
    have C9 := C8.add (o := .lst ((R ++ cutV R (some (-1)) none) ++ [.int (m - 1)])) nl4
    refine ⟨leS rfl, fun t5 nt5 => ?_⟩
    have C10 := C9.add (o := .lst [.int 0]) nt5
    refine ⟨_, _, C10.at 0 rfl, C10.at 9 rfl, (by (try simp only [List.length_append, List.length_reverse, List.length_cons, List.length_nil]); rw [sizeLine_eq]; omega), fun l5 nl5 => ?_⟩
    have C11 := C10.add (o := .lst ([.int 0] ++ R)) nl5
    refine ⟨_, _, rfl, .of (C11.at 10 rfl), fun r6 nr6 => ?_⟩
    have C12 := C11.add (o := .lst R.reverse) nr6
    refine ⟨leS rfl, fun t6 nt6 => ?_⟩
    have C13 := C12.add (o := .lst [.int 0]) nt6
    refine ⟨_, _, C13.at 1 rfl, C13.at 0 rfl, (by (try simp only [List.length_append, List.length_reverse, List.length_cons, List.length_nil]); rw [sizeLine_eq]; omega), fun l6 nl6 => ?_⟩
    have C14 := C13.add (o := .lst (R.reverse ++ [.int 0])) nl6
    refine ⟨leS rfl, fun l7 nl7 => ?_⟩
    have C15 := C14.add (o := .lst [.non]) nl7
    refine ⟨leS rfl, fun l8 nl8 => ?_⟩
    have C16 := C15.add (o := .lst [.str "0"]) nl8
    refine ⟨leS rfl, fun mn nmn => ?_⟩
    have C17 := C16.add (o := .lst [.ref l1, .ref l2, .ref l3, .ref l4, .ref l5, .ref l6, .ref l7, .ref l8]) nmn
    refine ⟨leS rfl, fun t9 nt9 => ?_⟩
    have C18 := C17.add (o := .lst [.bl true]) nt9
    refine ⟨_, _, C18.at 17 rfl, C18.at 0 rfl, (by (try simp only [List.length_append, List.length_reverse, List.length_cons, List.length_nil]); rw [sizeLine_eq]; omega), fun l9 nl9 => ?_⟩
    have C19 := C18.add (o := .lst (R ++ [.bl true])) nl9
    refine ⟨leS rfl, fun t10 nt10 => ?_⟩
    have C20 := C19.add (o := .lst [.bl false]) nt10
    refine ⟨_, rfl, _, C20.at 19 rfl, fun s10 ns10 => ?_⟩
    have C21 := C20.add (o := .lst (cutV R (some (1)) none)) ns10
    refine ⟨_, _, C21.at 1 rfl, C21.at 0 rfl, (by (try simp only [List.length_append, List.length_reverse, List.length_cons, List.length_nil]); rw [sizeLine_eq]; omega), fun l10 nl10 => ?_⟩
    have C22 := C21.add (o := .lst ([.bl false] ++ cutV R (some 1) none)) nl10
    refine fun d1 nd1 => ?_
    have C23 := C22.add (o := .dK []) nd1
    refine fun d2 nd2 => ?_
    have C24 := C23.add (o := .dK []) nd2
    refine ⟨C24.at 0 rfl, [(Sum.inr "0", .int 0)], rfl, by decide, ?_⟩
    have C25 := C24.set 0 (o' := .dK [(Sum.inr "0", .int 0)]) rfl
    refine ⟨leS rfl, fun l15 nl15 => ?_⟩
    have C26 := C25.add (o := .lst [.ref smA']) nl15
    refine ⟨leS rfl, fun t16 nt16 => ?_⟩
    have C27 := C26.add (o := .tup [.ref smA']) nt16
    refine ⟨leS rfl, fun t17 nt17 => ?_⟩
    have C28 := C27.add (o := .lst [.int (-1)]) nt17
    refine ⟨_, _, C28.at 0 rfl, C28.at 26 rfl, (by (try simp only [List.length_append, List.length_reverse, List.length_cons, List.length_nil]); rw [sizeLine_eq]; omega), fun l17 nl17 => ?_⟩
    have C29 := C28.add (o := .lst ([.int (-1)] ++ R)) nl17
    refine ⟨leS rfl, fun z2 nz2 => ?_⟩
    have C30 := C29.add (o := .lst [.ref l9, .ref l10, .non, .int 0, .str "", .ref d1, .ref d2, .ref l15, .ref t16, .ref l17]) nz2
    refine ⟨_, _, C30.at 12 rfl, C30.at 0 rfl, leS rfl, fun zz nzz => ?_⟩
    have C31 := C30.add (o := .lst ([.ref l1, .ref l2, .ref l3, .ref l4, .ref l5, .ref l6, .ref l7, .ref l8] ++ [.ref l9, .ref l10, .non, .int 0, .str "", .ref d1, .ref d2, .ref l15, .ref t16, .ref l17])) nzz
    refine ⟨_, C31.at 0 rfl, ?_⟩
    match way, hway with
    | 0, _ => exact ⟨_, atI_of 0 rfl rfl, h _ _ _ _ _ (Bd.lst (C31.at 28 rfl) (smI1 _ (by omega)) (by simp)) (.lst (C31.at 28 rfl) (argI1 _) (by simp)) (nk_mem (y := .int m) (by simp) (by simp [ixB])) (C31.pick [28])⟩
    | 1, _ => exact ⟨_, atI_of 1 rfl rfl, h _ _ _ _ _ (Bd.lst (C31.at 27 rfl) (smI1 _ (by omega)) (by simp)) (.lst (C31.at 27 rfl) (argI1 _) (by simp)) (nk_mem (y := .int (-1)) (by simp) (by simp [ixB])) (C31.pick [27])⟩
    | 2, _ => exact ⟨_, atI_of 2 rfl rfl, h _ _ _ _ _ (Bd.lst (C31.at 25 rfl) (smA smR (smI1 _ (by omega))) (by simp only [List.length_append, List.length_reverse, List.length_cons, List.length_nil]; omega)) (.lst (C31.at 25 rfl) (argA (argR _) (argI1 _)) (by simp only [List.length_append, List.length_reverse, List.length_cons, List.length_nil]; omega)) (nk_mem (y := .int m) (by simp) (by simp [ixB])) (C31.pick [25])⟩
    | 3, _ => exact ⟨_, atI_of 3 rfl rfl, h _ _ _ _ _ (Bd.lst (C31.at 21 rfl) (smA (smA smR smC1) (smI1 _ (by omega))) (by simp only [List.length_append, List.length_reverse, List.length_cons, List.length_nil]; omega)) (.lst (C31.at 21 rfl) (argA (argA (argR _) (argC1 _)) (argI1 _)) (by simp only [List.length_append, List.length_reverse, List.length_cons, List.length_nil]; omega)) nk3 (C31.pick [21])⟩
    | 4, _ => exact ⟨_, atI_of 4 rfl rfl, h _ _ _ _ _ (Bd.lst (C31.at 19 rfl) (smA (smI1 _ (by omega)) smR) (by simp only [List.length_append, List.length_reverse, List.length_cons, List.length_nil]; omega)) (.lst (C31.at 19 rfl) (argA (argI1 _) (argR _)) (by simp only [List.length_append, List.length_reverse, List.length_cons, List.length_nil]; omega)) nk4 (C31.pick [19])⟩
    | 5, _ => exact ⟨_, atI_of 5 rfl rfl, h _ _ _ _ _ (Bd.lst (C31.at 16 rfl) (smA smRr (smI1 _ (by omega))) (by simp only [List.length_append, List.length_reverse, List.length_cons, List.length_nil]; omega)) (.lst (C31.at 16 rfl) (argA (argRr _) (argI1 _)) (by simp only [List.length_append, List.length_reverse, List.length_cons, List.length_nil]; omega)) nk5 (C31.pick [16])⟩
    | 6, _ => exact ⟨_, atI_of 6 rfl rfl, h _ _ _ _ _ (Bd.lst (C31.at 15 rfl) (smF1 ⟨⟩ (by decide)) (by simp)) (.lst (C31.at 15 rfl) (argF1 _ .non) (by simp)) (nk_mem (y := .non) (by simp) (by simp [ixB])) (C31.pick [15])⟩
    | 7, _ => exact ⟨_, atI_of 7 rfl rfl, h _ _ _ _ _ (Bd.lst (C31.at 14 rfl) (smF1 (fls (asc_lit (by decide +kernel)) (by decide +kernel)) (by decide +kernel)) (by simp)) (.lst (C31.at 14 rfl) (argF1 _ (.str _)) (by simp)) (nk_mem (y := .str "0") (by simp) (by simp [ixB])) (C31.pick [14])⟩
    | 8, _ => exact ⟨_, atI_of 8 rfl rfl, h _ _ _ _ _ (Bd.lst (C31.at 11 rfl) (smA smR (smF1 (v := .bl true) ⟨⟩ (by decide +kernel))) (by simp only [List.length_append, List.length_reverse, List.length_cons, List.length_nil]; omega)) (.lst (C31.at 11 rfl) (argA (argR _) (argF1 _ (.bl true))) (by simp only [List.length_append, List.length_reverse, List.length_cons, List.length_nil]; omega)) (nk_mem (y := .bl true) (by simp) (by simp [ixB])) (C31.pick [11])⟩
    | 9, _ => exact ⟨_, atI_of 9 rfl rfl, h _ _ _ _ _ (Bd.lst (C31.at 8 rfl) (smA (smF1 (v := .bl false) ⟨⟩ (by decide +kernel)) smC2) (by simp only [List.length_append, List.length_reverse, List.length_cons, List.length_nil]; omega)) (.lst (C31.at 8 rfl) (argA (argF1 _ (.bl false)) (argC2 _)) (by simp only [List.length_append, List.length_reverse, List.length_cons, List.length_nil]; omega)) (nk_mem (y := .bl false) (by simp) (by simp [ixB])) (C31.pick [8])⟩
    | 10, _ => exact ⟨_, atI_of 10 rfl rfl, h _ _ _ _ _ (Bd.bg .non (by decide)) (.no .non (by decide) (by decide)) (nk_no (by decide) (by decide)) (C31.pick [])⟩
    | 11, _ => exact ⟨_, atI_of 11 rfl rfl, h _ _ _ _ _ (Bd.bg (.int 0 (by decide)) (by decide)) (.no (.int 0) (by decide) (by decide)) (nk_no (by decide) (by decide)) (C31.pick [])⟩
    | 12, _ => exact ⟨_, atI_of 12 rfl rfl, h _ _ _ _ _ (Bd.bg (.str "" (asc_lit (by decide +kernel)) (by decide +kernel)) (by decide)) (.no (.str _) (by decide) (by decide)) (nk_no (by decide) (by decide)) (C31.pick [])⟩
    | 13, _ => exact ⟨_, atI_of 13 rfl rfl, h _ _ _ _ _ (Bd.bg (.dct0 (C31.at 7 rfl)) (by decide)) (.no (.dct (C31.at 7 rfl)) (by decide) (by decide)) (nk_no (by decide) (by decide)) (C31.pick [7])⟩
    | 14, _ => exact ⟨_, atI_of 14 rfl rfl, h _ _ _ _ _ (Bd.bg (.dct1 (C31.at 6 rfl) ⟨asc_lit (by decide +kernel), by decide +kernel⟩ (fli (by decide))) (by decide)) (.no (.dct (C31.at 6 rfl)) (by decide) (by decide)) (nk_no (by decide) (by decide)) (C31.pick [6])⟩
    | 15, _ => exact ⟨_, atI_of 15 rfl rfl, h _ _ _ _ _ (Bd.lst1 (C31.pick [5, 29]).led smR (by omega)) (.lst (C31.at 5 rfl) (argF1 _ (.lst (C31.at 29 rfl))) (by simp)) (nk_mem (y := .ref smA') (by simp) (by simp [ixB])) (C31.pick [5, 29])⟩
    | 16, _ => exact ⟨_, atI_of 16 rfl rfl, h _ _ _ _ _ (Bd.tup1 (C31.at 4 rfl) (C31.pick [29]).led smR (by omega)) (.tup (C31.at 4 rfl) (argF1 _ (.lst (C31.at 29 rfl))) (by simp)) (nk_mem (y := .ref smA') (by simp) (by simp [ixB])) (C31.pick [29])⟩
    | 17, _ => exact ⟨_, atI_of 17 rfl rfl, h _ _ _ _ _ (Bd.lst (C31.at 2 rfl) (smA (smI1 _ (by omega)) smR) (by simp only [List.length_append, List.length_reverse, List.length_cons, List.length_nil]; omega)) (.lst (C31.at 2 rfl) (argA (argI1 _) (argR _)) (by simp only [List.length_append, List.length_reverse, List.length_cons, List.length_nil]; omega)) (nk_mem (y := .int (-1)) (by simp) (by simp [ixB])) (C31.pick [2])⟩
    | n + 18, hh => exact absurd hh (by omega)
end
end Ks

/-! KsQe: refusals; drawn lists. -/
namespace Ks
open PySem PySem.Spec PyProof.Rows L2 PySem.W
/-- strictly ascending indices below m -/
def Inc (ns : List Int) (m : Nat) : Prop := (∀ n ∈ ns, 0 ≤ n ∧ n < (m : Int)) ∧ ns.Pairwise (· < ·)
theorem Inc.len : ∀ {m : Nat} {ns : List Int}, Inc ns m → ns.length ≤ m := fun {m ns} h => by
  have key : ∀ (ns : List Int) (lo : Int), (∀ n ∈ ns, lo ≤ n ∧ n < (m : Int)) → ns.Pairwise (· < ·) → (ns.length : Int) ≤ max 0 ((m : Int) - lo) := fun ns => by
    induction ns with
    | nil => intro lo _ _; show (0 : Int) ≤ _; omega
    | cons n r ih =>
      intro lo hb hp
      obtain ⟨h1, h2⟩ := List.pairwise_cons.mp hp
      have hn := hb n List.mem_cons_self
      have := ih (n + 1) (fun k hk => ⟨by have := h1 k hk; omega, (hb k (List.mem_cons_of_mem _ hk)).2⟩) h2
      rw [List.length_cons]
      omega
  have := key ns 0 h.1 h.2
  omega
def Lsts (m : Nat) (xs : List V) (G : Cells) : Prop := ∀ y ∈ xs, ∃ dl ns, y = V.ref dl ∧ (dl, HO.lst (ns.map V.int)) ∈ G ∧ Inc ns m
theorem Lsts.le {m k : Nat} {xs : List V} {G F : Cells} (h : Lsts m xs G) (e : m ≤ k) (s : ∀ p ∈ G, p ∈ F) : Lsts k xs F := fun y hy => by
  obtain ⟨dl, ns, h1, h2, h3, h4⟩ := h y hy
  exact ⟨dl, ns, h1, s _ h2, fun n hn => by have := h3 n hn; omega, h4⟩
theorem Lsts.app {m : Nat} {xs ys : List V} {G : Cells} (h : Lsts m xs G) (g : Lsts m ys G) : Lsts m (xs ++ ys) G := fun y hy => (List.mem_append.mp hy).elim (h y) (g y)
section
variable {P : Program} {w : World} {K : PySem.W.Frag} {mg : Str → Option Value} {base : Heap} {a : Nat → Addr × FuncData} {c : Nat → Addr}
def sp_refused (c : Nat → Addr) : Sp := fun vs H Q _ => ∃ (b : V) (d s : Addr) (bn : Bool) (p w : Int) (n : Nat) (x : Pq), vs = [b, .ref d, .ref s, .bl bn] ∧ Led H (ceq c d s p w x) ∧ Oq H p w n x ∧ n ≤ 900 ∧ ∀ H', Chg [] H H' [] → Q (.bl true) H'
theorem ok_law_refused_right (Z : Wd K mg a c) : FnG false P w K mg base 7 (a 63).1 (a 63).2 ["box", "disk", "state", "by_name"] (sp_refused c) := by
  refine fun_okG Z.g_law_refused_right.fn sc_law_refused_right (fun vs H Q E h => ?_) (fun cdv A outer s H vs Q E hr h => ?_)
  · obtain ⟨b, d, s, bn, p, w, n, x, rfl, _⟩ := h; rfl
  · obtain ⟨b, d, s, bn, p, w, n, x, rfl, L, ok, hn, h⟩ := h
    refine ⟨_, (pss_cons (ps_for (passes_of rfl) (by rfl) (pi_range1 (by rfl) Z.n_range (pa_cons pe_int pa_nil)) (pg_name (i := 4) sc_law_refused_right.nd rfl (Or.inl rfl))
      (pss_one (ps_if (pt_cmpR (o_ne hr.u64) (q_call Z.g_law_cut (ok_law_cut Z) (hr.mono (by decide)) takes0 (pa_cons (qv 1) (pa_cons (q_call Z.g_law_bad_done (ok_law_bad_done Z) (hr.mono (by decide)) takes0 (pa_cons (qv 4) (pa_cons (pe_callB c_len (by rfl) Z.n_len bt_len (pa_cons (pe_ix ix_d (qv 2) pe_int (fun _ _ => rfl)) pa_nil)) pa_nil))) (pa_cons (qv 3) pa_nil)))) (pe_lst (pa_cons pe_str (pa_cons pe_bl pa_nil))) (nomark _)) (pss_one (ps_ret pe_bl)) pss_nil)))
      (pss_one (ps_ret (q_call Z.g_law_state_right_too (ok_law_state_right_too Z) (hr.mono (by decide)) takes0 (pa_cons (qv 1) (pa_cons (qv 2) pa_nil)))))), ?_⟩
    have C0 : Chg [] H H [] := .of .nil
    have hSl : (x.S.map V.ref).length = x.W.length := by rw [List.length_map, ok.hS.length]
    have hWn := ok.hn
    refine ⟨18, rfl, by decide, by decide, ?_⟩
    refine for_it walk_range (fun i σ H' => ∃ v4, σ = [some b, some (.ref d), some (.ref s), some (.bl bn), v4] ∧ Chg [] H H' [])
      ⟨none, rfl, C0⟩ (fun _ _ _ _ _ => ⟨⟩) ?_ ?_
    · rintro i y σ H1' H1 hi ⟨v4, rfl, C1⟩ ⟨rfl, rfl⟩
      have hi18 : i < 18 := by simpa using hi
      have k1 := keepAll C1
      refine ⟨_, k1 _ _ (L.at 4 rfl), _, atI_of 3 rfl rfl, _, k1 _ _ (L.at 6 rfl), i, (x.S.map V.ref).length, by simp, hi18, by omega, fun dn k ys M H2 bd sq nk D2 => ?_⟩
      have C2 : Chg [] H H2 (M ++ []) := C1.and D2
      have k2 := keepAll C2
      rw [hSl] at nk
      refine ⟨d, x.dx, dn, k, ys, bn, p, w, x.la, x.te, x.wr, lfV x.lf, x.L, x.R, x.W, rfl, k2 _ _ (L.at 0 rfl), k2 _ _ (L.at 1 rfl), k2 _ _ (L.at 3 rfl), ok.hW.up C2.fix, sq, ok.hT, ok.p3, ok.p40, ok.w20, ok.w400, by omega, fun y hy => (ok.hw y hy).1,
        fun _ => ⟨M, bd, fun r H3 D3 => ⟨leS rfl, fun l hl => ?_⟩⟩, fun ns hk => absurd ⟨ns, hk⟩ nk⟩
      have C3 := (C2.callL D3).add (o := .lst [.str "done", .bl true]) hl
      refine ⟨_, _, rs_dp (C3.at 1 rfl), rs_dp (C3.at 0 rfl), ev_done.1, ev_done.1, _, rfl, itN (by rw [ev_done.2]; rfl) ?_⟩
      exact ⟨_, rfl, C3.sub (List.nil_sublist _)⟩
    · rintro σ H1 ⟨v4, rfl, C1⟩
      have k1 := keepAll C1
      refine ⟨d, s, p, w, n, x, rfl, C1.led2 L (by simp), ok.up C1.fix, by omega, fun H2 D2 => h H2 (C1.and D2)⟩
abbrev sci_law_lists : Scope := { kind := ScopeKind.function, names := [(PySem.Str.ofString ".0", NameKind.local), (PySem.Str.ofString "k", NameKind.local), (PySem.Str.ofString "range", NameKind.globalImplicit), (PySem.Str.ofString "box", NameKind.cell), (PySem.Str.ofString "many", NameKind.cell)], isGenerator := false, isCoroutine := false, more := [] }
def sp_lists : Sp := fun vs H Q _ => ∃ (b : Addr) (o : HO) (n m : Nat), vs = [.ref b, .int m] ∧ H b = some o ∧ Bx n o ∧ n ≤ 900000000 ∧ m ≤ 900 ∧
  ∀ l xs G o' H', Bx (n + 5 * m) o' → Lsts m xs G → xs ≠ [] → xs.length ≤ 16 → Chg [b] H H' ((b, o') :: (l, .lst xs) :: G) → Q (.ref l) H'
theorem ok_law_lists (Z : Wd K mg a c) : FnG false P w K mg base 2 (a 62).1 (a 62).2 ["box", "many"] sp_lists := by
  refine fun_okG Z.g_law_lists.fn sc_law_lists (fun vs H Q E h => ?_) (fun cdv A outer s H vs Q E hr h => ?_)
  · obtain ⟨b, o, n, m, rfl, _⟩ := h; rfl
  · obtain ⟨b, o, n, m, rfl, hb, bx, hn, hm, h⟩ := h
    refine ⟨_, (pss_cons (ps_if (pt_cmpR o_gt (qv 1) pe_int (nomark _)) (pss_cons (ps_setLc (i := 2) (own := [("k", 5)]) (by rfl) sc_law_lists.nd rfl rfl (sw_true rfl rfl rfl (by decide +kernel)) (pi_range1 (by rfl) Z.n_range (pa_cons pe_int pa_nil)) (blkOk_by (N := ["box", "many", "some", "found", "at", "k", "done"]) (sc := defScope s_law_lists) (by decide +kernel)) (fun _ _ _ _ _ => (pg_name (i := 5) sc_law_lists.nd rfl (Or.inl rfl))) (fun _ _ _ _ _ => pts_nil) (fun _ _ _ _ _ => (pe_lc (own := [("at", 4)]) (by rfl) sc_law_lists.nd (pi_range1 (by rfl) Z.n_range (pa_cons (qv 1) pa_nil)) (blkOk_by (N := ["box", "many", "some", "found", "at", "k", "done"]) (sc := sci_law_lists) (by decide +kernel)) (fun _ _ _ _ _ => (pg_name (i := 4) sc_law_lists.nd rfl (Or.inl rfl))) (fun _ _ _ _ _ => (pts_one (pt_cmpR (o_eqK K rfl hr.u64) (q_call Z.g_law_take (ok_law_take Z) (hr.mono (by decide)) takes0 (pa_cons (qv 0) (pa_cons pe_int pa_nil))) pe_int (nomark _)))) (fun _ _ _ _ _ => (qv 4)))))
      (pss_one (ps_ret (pe_op o_add (pe_lst (pa_cons (pe_lst pa_nil) (pa_cons (pe_listRg (by rfl) (by rfl) Z.n_list (prg_1 (by rfl) Z.n_range (qv 1))) (pa_cons (pe_lst (pa_cons (pe_op o_sub (qv 1) pe_int) pa_nil)) pa_nil)))) (qv 2))))) pss_nil)
      (pss_cons (ps_set (i := 3) sc_law_lists.nd rfl (Or.inl rfl) (pe_lst (pa_cons (pe_lst pa_nil) pa_nil)))
      (pss_cons (ps_for (passes_of rfl) (by rfl) (pi_range1 (by rfl) Z.n_range (pa_cons (qv 1) pa_nil)) (pg_name (i := 4) sc_law_lists.nd rfl (Or.inr rfl))
      (pss_one (ps_set (i := 3) sc_law_lists.nd rfl (Or.inl rfl) (pe_op o_add (qv 3) (pe_lc (own := [("done", 6)]) (by rfl) sc_law_lists.nd (pi_seq (qv 3)) (blkOk_by (N := ["box", "many", "some", "found", "at", "k", "done"]) (sc := defScope s_law_lists) (by decide +kernel)) (fun _ _ _ _ _ => (pg_name (i := 6) sc_law_lists.nd rfl (Or.inl rfl))) (fun _ _ _ _ _ => pts_nil) (fun _ _ _ _ _ => (pe_op o_add (qv 6) (pe_lst (pa_cons (qv 4) pa_nil)))))))))
      (pss_one (ps_ret (qv 3)))))), ?_⟩
    have C0 : Chg [b] H H [(b, o)] := .of (.one hb)
    refine ⟨_, rfl, ?_⟩
    by_cases m4 : (4 : Int) < (m : Int)
    · refine itP (decide_eq_true m4) ?_
      refine ⟨5, rfl, by decide, by decide, fun D hD => ?_⟩
      refine lc_led walk_range (S := HO × Cells) (A := [b]) (H0 := H) (fun z => (b, z.1) :: z.2) (fun i z acc => Bx (n + m * i) z.1 ∧ Lsts m acc z.2 ∧ acc.length = i) (o, []) hD C0 ⟨bx, fun y hy => (nomatch hy), rfl⟩ (leS rfl) (fun i z acc q => by rw [q.2.2]; omega) (fun _ _ _ _ _ _ => ⟨⟩) ?_ ?_
      · rintro i y H1' H1 ⟨oz, G⟩ acc Qk Nk hi ⟨hbz, hl, ha⟩ C ⟨rfl, rfl⟩ k1 k2
        dsimp only at hbz hl C k1 k2
        have hi5 : i < 5 := by simpa using hi
        have hmi : m * i ≤ 900 * 4 := Nat.mul_le_mul hm (by omega)
        refine ⟨rfl, m, rfl, by omega, by omega, fun D2 hD2 => ?_⟩
        refine lc_led walk_range (S := HO × List Int) (A := [b]) (H0 := H) (fun z => (b, z.1) :: (D, .lst acc) :: G) (fun j z acc2 => Bx (n + m * i + j) z.1 ∧ acc2 = z.2.map V.int ∧ Inc z.2 j) (oz, []) hD2 (C.perm (List.Perm.swap ..)) ⟨hbz, rfl, fun k hk => (nomatch hk), .nil⟩ (by rw [sizeLine_eq]; omega) (fun j z acc2 q => by rw [q.2.1, List.length_map]; exact q.2.2.len) (fun _ _ _ _ _ _ => ⟨⟩) ?_ ?_
        · rintro j y2 H2' H2 ⟨oy, ns⟩ acc2 Qk2 Nk2 hj ⟨hby, ea, hinc⟩ C2 ⟨rfl, rfl⟩ j1 j2
          dsimp only at hby ea hinc C2 j1 j2
          have hjm : j < m := by omega
          refine ⟨rfl, b, oy, n + m * i + j, 2, rfl, C2.at 1 rfl, hby, by omega, by decide, by decide, fun v o3 H3 v0 v1 bx3 D3 => ⟨rfl, _, rfl, ?_⟩⟩
          have C3 : Chg [b] H H3 ([(D2, .lst acc2), (b, o3), (D, .lst acc)] ++ G) := ((Chg.callT (L := [(D2, .lst acc2), (b, oy), (D, .lst acc)]) (M := G) C2 [1] D3).pickT [1, 0, 2]).to (by rfl)
          by_cases q0 : v = 0
          · refine itP (decide_eq_true (congrArg V.int q0)) ?_
            refine j1 (o3, ns ++ [(j : Int)]) _ H3 ⟨bx3, by rw [ea, List.map_append]; show _ ++ [V.int (0 + (j : Int))] = _ ++ [V.int (j : Int)]; rw [show (0 : Int) + (j : Nat) = (j : Int) by omega], ?_, ?_⟩ C3
            · intro k hk
              rcases List.mem_append.mp hk with q | q
              · have := hinc.1 k q; omega
              · rw [List.mem_singleton] at q; omega
            · refine List.pairwise_append.mpr ⟨hinc.2, by simp, fun x hx y hy => ?_⟩
              rw [List.mem_singleton] at hy
              have := hinc.1 x hx
              omega
          · refine itN (decide_eq_false (fun e => q0 (V.int.inj e))) ?_
            exact j2 (o3, ns) H3 ⟨bx3, ea, fun k hk => by have := hinc.1 k hk; omega, hinc.2⟩ C3
        · rintro H2 ⟨oy, ns⟩ acc2 ⟨hby, ea, hinc⟩ C2
          dsimp only at hby ea hinc C2
          have em : (m : Int).toNat = m := by omega
          rw [em] at hby hinc
          subst ea
          refine k1 (oy, (D2, .lst (ns.map V.int)) :: G) (.ref D2) H2 ⟨hby.le (by rw [Nat.mul_add]; omega), ?_, by rw [List.length_append, ha]; rfl⟩ ((Chg.pickT (L := [(D2, .lst (ns.map V.int)), (b, oy), (D, .lst acc)]) (M := G) C2 [2, 1, 0]).to (by rfl))
          refine Lsts.app (hl.le (Nat.le_refl _) fun p hp => List.mem_cons_of_mem _ hp) fun y hy => ?_
          rw [List.mem_singleton] at hy
          exact ⟨D2, ns, hy, List.mem_cons_self, hinc⟩
      · rintro H1 ⟨o1, G⟩ acc ⟨hbz, hl, ha⟩ C1
        dsimp only at hbz hl C1
        have e5 : (5 : Int).toNat = 5 := rfl
        rw [e5] at hbz ha
        refine ⟨leS rfl, fun l1 n1 => ⟨m, rfl, ⟨by omega, by omega, by omega, by omega, by omega⟩, fun l2 n2 => ⟨leS rfl, fun l3 n3 => ⟨leS rfl, fun l4 n4 => ?_⟩⟩⟩⟩
        have eR : rgV 0 (m : Int) = ((List.range m).map fun i : Nat => (i : Int)).map V.int := by
          unfold rgV
          rw [show ((m : Int) - 0).toNat = m by omega, List.map_map]
          congr 1
          funext i
          show V.int ((0 : Int) + (i : Nat)) = V.int (i : Int)
          rw [show (0 : Int) + (i : Nat) = (i : Int) by omega]
        have C2 := (((C1.add (o := .lst []) n1).add (o := .lst (rgV 0 (m : Int))) n2).add (o := .lst [.int (m - 1)]) n3).add (o := .lst [.ref l1, .ref l2, .ref l3]) n4
        refine ⟨_, _, C2.at 0 rfl, C2.at 4 rfl, by rw [ha]; exact leS rfl, fun l5 n5 => ?_⟩
        have C3 := C2.add (o := .lst ([.ref l1, .ref l2, .ref l3] ++ acc)) n5
        have C4 := Chg.pickT (L := [(l5, .lst ([.ref l1, .ref l2, .ref l3] ++ acc)), (l4, _), (l3, .lst [.int (m - 1)]), (l2, .lst (rgV 0 (m : Int))), (l1, .lst []), (D, _), (b, o1)]) (M := G) C3 [6, 0, 4, 3, 2]
        refine h l5 ([V.ref l1, .ref l2, .ref l3] ++ acc) ([(l1, .lst []), (l2, .lst (rgV 0 (m : Int))), (l3, .lst [.int (m - 1)])] ++ G) o1 _ (hbz.le (by omega)) (Lsts.app ?_ (hl.le (Nat.le_refl _) fun p hp => List.mem_append_right _ hp)) (by simp) (by rw [List.length_append, ha]; show 3 + 5 ≤ 16; decide) (C4.to (by rfl))
        intro y hy
        simp only [List.mem_cons, List.not_mem_nil, or_false] at hy
        rcases hy with rfl | rfl | rfl
        · exact ⟨l1, [], rfl, by simp, fun n hn => (nomatch hn), .nil⟩
        · refine ⟨l2, (List.range m).map fun i : Nat => (i : Int), rfl, by rw [← eR]; simp, fun k hk => ?_, ?_⟩
          · obtain ⟨i, hi, rfl⟩ := List.mem_map.mp hk
            have := List.mem_range.mp hi
            omega
          · rw [List.pairwise_map]
            exact List.pairwise_lt_range.imp fun h => by omega
        · exact ⟨l3, [(m : Int) - 1], rfl, by simp, fun k hk => by rw [List.mem_singleton] at hk; omega, by simp⟩
    · refine itN (decide_eq_false m4) ?_
      refine ⟨leS rfl, fun l0 n0 => ⟨leS rfl, fun f nf => ?_⟩⟩
      have C1 := (C0.add (o := .lst []) n0).add (o := .lst [.ref l0]) nf
      refine ⟨m, rfl, by omega, by omega, ?_⟩
      refine for_it walk_range (fun i σ H' => ∃ f xs G v4, σ = [some (.ref b), some (.int m), none, some (.ref f), v4, none, none] ∧ Lsts i xs G ∧ xs.length = 2 ^ i ∧ Chg [b] H H' ((b, o) :: (f, .lst xs) :: G))
        ⟨f, [.ref l0], [(l0, .lst [])], none, rfl, fun y hy => ⟨l0, [], by simpa using hy, by simp, fun n hn => (nomatch hn), .nil⟩, rfl, (C1.pick [2, 0, 1]).to (by rfl)⟩ (fun _ _ _ _ _ => ⟨⟩) ?_ ?_
      · rintro i y σ H2' H2 hi ⟨f, xs, G, v4, rfl, hl, hx, C2⟩ ⟨rfl, rfl⟩
        have hi4 : i < 4 := by omega
        have hx8 : xs.length ≤ 8 := by
          rw [hx]
          exact Nat.pow_le_pow_right (by decide) (show i ≤ 3 by omega)
        refine ⟨_, xs, C2.at 1 rfl, rfl, fun J wk D hD => ?_⟩
        refine lc_led wk (S := Cells) (A := [b]) (H0 := H) (fun z => (b, o) :: (f, .lst xs) :: (z ++ G)) (fun j z acc => acc.length = j ∧ Lsts (i + 1) acc z) [] hD C2 ⟨rfl, fun y hy => (nomatch hy)⟩ (by rw [sizeLine_eq]; omega) (fun j z acc q => by rw [q.1]; omega) (fun j z acc H3 q C => C.at 2 rfl) ?_ ?_
        · rintro j y H3' H3 z acc Qk Nk hj ⟨ha, hz⟩ C3 ⟨rfl, hy⟩ k1 k2
          obtain ⟨dl, ns, rfl, hm', hinc⟩ := hl y (List.mem_of_getElem? hy)
          have hdl := C3.led.hp _ (List.mem_cons_of_mem _ (List.mem_cons_of_mem _ (List.mem_cons_of_mem _ (List.mem_append_right z hm'))))
          refine ⟨rfl, leS rfl, fun t ht => ?_⟩
          have C4 := C3.add (o := .lst [.int (0 + (i : Int))]) ht
          refine ⟨_, _, C4.led.hp _ (List.mem_cons_of_mem _ (List.mem_cons_of_mem _ (List.mem_cons_of_mem _ (List.mem_cons_of_mem _ (List.mem_append_right z hm'))))), C4.at 0 rfl, by rw [List.length_map, sizeLine_eq]; have := hinc.len; show ns.length + 1 ≤ _; omega, fun e he => ?_⟩
          have C5 := C4.add (o := .lst (ns.map V.int ++ [.int (0 + (i : Int))])) he
          have ee : ns.map V.int ++ [V.int (0 + (i : Int))] = (ns ++ [(i : Int)]).map V.int := by
            rw [List.map_append]
            show _ = _ ++ [V.int (i : Int)]
            rw [show (0 : Int) + (i : Nat) = (i : Int) by omega]
          rw [ee] at C5
          refine k1 ((e, .lst ((ns ++ [(i : Int)]).map V.int)) :: z) (.ref e) _ ⟨by rw [List.length_append, ha]; rfl, Lsts.app (hz.le (Nat.le_refl _) fun p hp => List.mem_cons_of_mem _ hp) fun y hy => ?_⟩ ?_
          · rw [List.mem_singleton] at hy
            refine ⟨e, ns ++ [(i : Int)], hy, List.mem_cons_self, fun k hk => ?_, ?_⟩
            · rcases List.mem_append.mp hk with q | q
              · have := hinc.1 k q; omega
              · rw [List.mem_singleton] at q; omega
            · refine List.pairwise_append.mpr ⟨hinc.2, by simp, fun x hx y hy => ?_⟩
              rw [List.mem_singleton] at hy
              have := hinc.1 x hx
              omega
          · rw [← ee] at C5 ⊢
            exact (Chg.pickT (L := [(e, _), (t, _), (D, .lst acc), (b, o), (f, .lst xs)]) (M := z ++ G) C5 [2, 3, 4, 0]).to (by rfl)
        · rintro H3 z acc ⟨ha, hz⟩ C3
          refine ⟨_, _, C3.at 2 rfl, C3.at 0 rfl, by rw [ha, sizeLine_eq]; omega, fun f2 nf2 => ?_⟩
          have C4 := C3.add (o := .lst (xs ++ acc)) nf2
          refine ⟨f2, xs ++ acc, z ++ G, _, rfl, Lsts.app (hl.le (by omega) fun p hp => List.mem_append_right _ hp) (hz.le (Nat.le_refl _) fun p hp => List.mem_append_left _ hp), by rw [List.length_append, ha, hx, Nat.pow_succ]; omega, ?_⟩
          exact (Chg.pickT (L := [(f2, _), (D, .lst acc), (b, o), (f, .lst xs)]) (M := z ++ G) C4 [2, 0]).to (by rfl)
      · rintro σ H2 ⟨f, xs, G, v4, rfl, hl, hx, C2⟩
        have em : (m : Int).toNat = m := by omega
        rw [em] at hl hx
        have hx16 : xs.length ≤ 16 := by
          rw [hx]
          exact Nat.pow_le_pow_right (by decide) (show m ≤ 4 by omega)
        exact h f xs G o H2 (bx.le (by omega)) hl (fun e => by have := Nat.two_pow_pos m; rw [← hx, e] at this; exact absurd this (by simp)) hx16 C2
end
end Ks

/-! KsQf: one cut, judged. -/
namespace Ks
open PySem PySem.Spec PyProof.Rows L2 PySem.W
section
variable {P : Program} {w : World} {K : PySem.W.Frag} {mg : Str → Option Value} {base : Heap} {a : Nat → Addr × FuncData} {c : Nat → Addr}
def sp_one (c : Nat → Addr) : Sp := fun vs H Q _ => ∃ (b d s dl : Addr) (bn : Bool) (p w : Int) (n m : Nat) (x : Pq) (o : HO) (ns : List Int), vs = [.ref b, .ref d, .ref s, .ref dl, .bl bn] ∧ Led H ((b, o) :: (ceq c d s p w x ++ [(dl, .lst (ns.map V.int))])) ∧ Bx n o ∧ n ≤ 800000000 ∧ Oq H p w m x ∧ m ≤ 3900 ∧ Inc ns x.W.length ∧
  ∀ r d' s' y o' H', Bx (n + 30) o' → Oq H' p w 2 y → Chg [b] H H' ((b, o') :: (r, .lst [.ref d', .ref s']) :: ceq c d' s' p w y) → Q (.ref r) H'
theorem ok_law_one_right (Z : Wd K mg a c) : FnG false P w K mg base 7 (a 64).1 (a 64).2 ["box", "disk", "state", "done", "by_name"] (sp_one c) := by
  refine fun_okG Z.g_law_one_right.fn sc_law_one_right (fun vs H Q E h => ?_) (fun cdv A outer s H vs Q E hr h => ?_)
  · obtain ⟨b, d, s, dl, bn, p, w, n, m, x, o, ns, rfl, _⟩ := h; rfl
  · obtain ⟨b, d, s, dl, bn, p, w, n, m, x, o, ns, rfl, L, bx, hn, ok, hm, hinc, h⟩ := h
    refine ⟨_, (pss_cons (ps_set (i := 5) sc_law_one_right.nd rfl (Or.inl rfl) (pe_callTy c_list (by rfl) Z.n_list bt_list (pa_cons (qv 3) pa_nil)))
      (pss_cons (ps_set (i := 6) sc_law_one_right.nd rfl (Or.inl rfl) (q_call Z.g_law_cut (ok_law_cut Z) (hr.mono (by decide)) takes0 (pa_cons (qv 1) (pa_cons (pe_ifExp (pt_cmpR (o_eq hr.u64) (q_call Z.g_law_take (ok_law_take Z) (hr.mono (by decide)) takes0 (pa_cons (qv 0) (pa_cons pe_int pa_nil))) pe_int (nomark _)) (pe_callTy c_tuple (by rfl) Z.n_tuple bt_tuple (pa_cons (qv 5) pa_nil)) (qv 5)) (pa_cons (qv 4) pa_nil)))))
      (pss_cons (ps_if (pt_cmpR (o_ne hr.u64) (pe_ix ix_d (qv 6) pe_int (fun _ _ => rfl)) pe_str (nomark _)) (pss_one (ps_ret (pe_lst pa_nil))) pss_nil)
      (pss_cons (ps_expr (q_lm0 PySem.F.slot_list_reverse PySem.F.type_list_reverse m_reverse (qv 5)))
      (pss_cons (ps_expr (q_lm PySem.F.slot_list_append PySem.F.type_list_append m_append (qv 5) (pa_cons pe_int pa_nil)))
      (pss_cons (ps_par (i := 7) (j := 8) (by rfl) sc_law_one_right.nd rfl rfl (by decide) rfl rfl (pa_cons (pe_ix ix_d (qv 6) pe_int (fun _ _ => rfl)) (pa_cons (q_call Z.g_law_cut_of (ok_law_cut_of Z) (hr.mono (by decide)) takes0 (pa_cons (qv 2) (pa_cons (qv 3) pa_nil))) pa_nil)) rfl)
      (pss_cons (ps_if (PW.pt (pw_or (pt_not (pt_val (q_call Z.g_law_state_right_too (ok_law_state_right_too Z) (hr.mono (by decide)) takes0 (pa_cons (qv 7) (pa_cons (qv 8) pa_nil))))) (pw_or1 (pt_not (pt_val (q_call Z.g_law_state_right_too (ok_law_state_right_too Z) (hr.mono (by decide)) takes0 (pa_cons (qv 1) (pa_cons (qv 2) pa_nil)))))))) (pss_one (ps_ret (pe_lst pa_nil))) pss_nil)
      (pss_cons (ps_for (passes_of rfl) (by rfl) (pi_range1 (by rfl) Z.n_range (pa_cons (pe_op o_add pe_int (q_call Z.g_law_take (ok_law_take Z) (hr.mono (by decide)) takes0 (pa_cons (qv 0) (pa_cons pe_int pa_nil)))) pa_nil)) (pg_name (i := 9) sc_law_one_right.nd rfl (Or.inl rfl))
      (pss_one (ps_if (PW.pt (pw_or (pt_not (pt_val (q_call Z.g_law_wrote (ok_law_wrote Z) (hr.mono (by decide)) takes0 (pa_cons (qv 7) (pa_cons (qv 8) (pa_cons (q_call Z.g_law_take (ok_law_take Z) (hr.mono (by decide)) takes0 (pa_cons (qv 0) (pa_cons (pe_ix ix_d (qv 8) pe_int (fun _ _ => rfl)) pa_nil))) (pa_cons (q_call Z.g_law_text_too (ok_law_text_too Z) (hr.mono (by decide)) takes0 (pa_cons (qv 0) pa_nil)) pa_nil))))))) (pw_or1 (pt_not (pt_val (q_call Z.g_law_state_right_too (ok_law_state_right_too Z) (hr.mono (by decide)) takes0 (pa_cons (qv 1) (pa_cons (qv 2) pa_nil)))))))) (pss_one (ps_ret (pe_lst pa_nil))) pss_nil)))
      (pss_cons (ps_if (pt_not (pt_val (q_call Z.g_law_state_right_too (ok_law_state_right_too Z) (hr.mono (by decide)) takes0 (pa_cons (qv 7) (pa_cons (qv 8) pa_nil))))) (pss_one (ps_ret (pe_lst pa_nil))) pss_nil)
      (pss_one (ps_ret (pe_lst (pa_cons (qv 7) (pa_cons (qv 8) pa_nil)))))))))))))), ?_⟩
    have p3 := ok.p3
    have p40 := ok.p40
    have w20 := ok.w20
    have w400 := ok.w400
    have hWn := ok.hn
    have hlen := hinc.len
    have C0 : Chg [b] H H [(b, o)] := .of (.one (L.at 0 rfl))
    have ne : ∀ i q, i ≠ 0 → ((b, o) :: (ceq c d s p w x ++ [(dl, .lst (ns.map V.int))]))[i]? = some q → q.1 ∉ [b] := fun i q hi hq e => by
      rw [List.mem_singleton] at e
      exact hi (nd_at L.nd (a := q.1) (b := b) (o := q.2) (u := o) hq rfl e)
    have keep : ∀ {M : Cells} {H' : Hp} (i : Nat) (q : Addr × HO), Chg [b] H H' M → i ≠ 0 → ((b, o) :: (ceq c d s p w x ++ [(dl, .lst (ns.map V.int))]))[i]? = some q → H' q.1 = some q.2 := fun {M H'} i q C hi hq => C.keep _ _ (ne i q hi hq) (L.at i hq)
    have ledX : ∀ {M : Cells} {H' : Hp}, Chg [b] H H' M → Led H' (ceq c d s p w x) := fun {M H'} C => C.led2 (show Led H (ceq c d s p w x) from L.pick [1, 2, 3, 4, 5, 6, 7]) fun q hq => by
      obtain ⟨i, hi, e⟩ := List.mem_iff_getElem.mp hq
      refine ne (i + 1) q (by omega) ?_
      rw [List.getElem?_cons_succ, List.getElem?_append_left hi, ← e]
      exact List.getElem?_eq_getElem hi
    have kept : Kept .lst (ns.map V.int) x.W.length ns := ⟨.inl rfl, rfl, hinc.1, hinc.2⟩
    have kept2 : Kept .tup (ns.map V.int) x.W.length ns := ⟨.inr rfl, rfl, hinc.1, hinc.2⟩
    have args : ∀ H : Hp, ∀ y ∈ ns.map V.int, ∃ k, Arg H y k := fun H y hy => by
      obtain ⟨i, _, rfl⟩ := List.mem_map.mp hy
      exact ⟨_, .int i⟩
    have lns : (ns.map V.int).length ≤ 4000 := by rw [List.length_map]; omega
    refine ⟨_, L.at 8 rfl, fun pl npl => ?_⟩
    have C1 := C0.add (o := .lst (ns.map V.int)) npl
    refine ⟨b, o, n, 3, rfl, C1.at 1 rfl, bx, by omega, by decide, by decide, fun v o2 H2 v0 v1 bx2 D2 => ⟨rfl, _, rfl, ?_⟩⟩
    have C2 : Chg [b] H H2 [(b, o2), (pl, .lst (ns.map V.int))] := C1.call [1] D2
    by_cases q0 : v = 0
    case' pos =>
      refine itP (decide_eq_true (congrArg V.int q0)) ?_
      refine ⟨_, C2.at 1 rfl, fun t nt => ?_⟩
      have C3 := (C2.add (o := .tup (ns.map V.int)) nt).pick [1, 2]
      have sq : Seqd (upd H2 t (.tup (ns.map V.int))) (.ref t) .tup (ns.map V.int) := .tup upd_same (args _) lns
      have kp := kept2
    case' neg =>
      refine itN (decide_eq_false (fun e => q0 (V.int.inj e))) ?_
      have C3 := C2
      have sq : Seqd H2 (.ref pl) .lst (ns.map V.int) := .lst (C2.at 1 rfl) (args _) lns
      have kp := kept
    all_goals
      refine ⟨d, x.dx, _, _, _, bn, p, w, x.la, x.te, x.wr, lfV x.lf, x.L, x.R, x.W, rfl, keep 1 _ C3 (by decide) rfl, keep 2 _ C3 (by decide) rfl, keep 4 _ C3 (by decide) rfl, ok.hW.up C3.fix, sq, ok.hT, p3, p40, w20, w400, by omega, fun y hy => (ok.hw y hy).1, fun nk => absurd ⟨ns, kp⟩ nk, fun ns' hk r e dx' la' te' wr' H4 D4 => ?_⟩
      have ens : ns' = ns := by
        have := hk.2.1
        exact ((List.map_inj_right (fun a b z => V.int.inj z)).mp this).symm
      subst ens
      have C4 : Chg [b] H H4 [rs r "told" (.ref e), (e, .ins (c 8) dx' (dkF p w la' te' wr' .non)), (la', .lst ((beh x.L (atW x.W ns')).map V.str)), (te', .lst ((beh x.L (atW x.W ns')).map V.str)), (wr', .lst []), (b, o2), (pl, .lst (ns'.map V.int))] := C3.and D4
      refine ⟨_, C4.at 0 rfl, _, atI_of 0 rfl rfl, rfl, _, rfl, itN (by rw [decide_eq_true rfl]; rfl) ?_⟩
      refine ⟨⟨_, C4.at 6 rfl⟩, _, C4.at 6 rfl, ?_⟩
      have C5 := C4.set 6 (o' := .lst (ns'.map V.int).reverse) rfl
      refine ⟨⟨_, C5.at 6 rfl⟩, _, C5.at 6 rfl, by rw [List.length_reverse, sizeLine_eq]; omega, ?_⟩
      have C6 := C5.set 6 (o' := .lst ((ns'.map V.int).reverse ++ [.int 7])) rfl
      have hb : ∀ y ∈ atW x.W ns', ((0 ≤ y.1 ∧ y.1 < p) ∧ Prn y.2 ∧ y.2.length ≤ 400) := fun y hy => by
        obtain ⟨k, hk', rfl⟩ := List.mem_map.mp hy
        have := hinc.1 k hk'
        rw [List.getD_eq_getElem?_getD, List.getElem?_eq_getElem (by omega)]
        exact ok.hw _ (List.getElem_mem _)
      refine ⟨_, C6.at 0 rfl, _, atI_of 1 rfl rfl, s, dl, x.tx, x.kp, p, w, lfV x.lf, x.L, x.S, x.W, ns', rfl, keep 5 _ C6 (by decide) rfl, keep 6 _ C6 (by decide) rfl, keep 7 _ C6 (by decide) rfl, ok.hS.up C6.fix, keep 8 _ C6 (by decide) rfl, by omega, hinc.1, fun y hy => by rw [ok.hT]; exact (ok.hw y hy).1, fun s' tx' kp' H7 D7 => ⟨_, _, rfl, ?_⟩⟩
      have okY : ∀ H', Oq H' p w 0 ⟨dx', la', te', wr', tx', kp', none, beh x.L (atW x.W ns'), [], [], []⟩ := fun H' =>
        ⟨p3, p40, w20, w400, by show ((beh x.L (atW x.W ns')).length : Int) = p; rw [beh_len]; exact ok.hT, beh_ok _ _ ok.hP fun y hy => (hb y hy).2, .nil, .nil, fun y hy => (nomatch hy), Nat.zero_le _⟩
      have C7 : Chg [b] H H7 ((b, o2) :: ceq c e s' p w ⟨dx', la', te', wr', tx', kp', none, beh x.L (atW x.W ns'), [], [], []⟩) := ((C6.and D7).pick [8, 4, 5, 6, 7, 0, 1, 2]).to (by rfl)
      refine ⟨e, s', p, w, 0, _, rfl, C7.pick [1, 2, 3, 4, 5, 6, 7] |>.led, okY _, by decide, fun H8 D8 => ⟨true, rfl, ?_⟩⟩
      have C8 := C7.and D8
      refine ⟨d, s, p, w, m, x, rfl, ledX C8, ok.up C8.fix, by omega, fun H9 D9 => ⟨true, rfl, ?_⟩⟩
      have C9 : Chg [b] H H9 ((b, o2) :: ceq c e s' p w ⟨dx', la', te', wr', tx', kp', none, beh x.L (atW x.W ns'), [], [], []⟩) := C8.and D9
      refine ⟨b, o2, n + 1, 2, rfl, C9.at 0 rfl, bx2, by omega, by decide, by decide, fun u o10 H10 u0 u1 bx10 D10 => ?_⟩
      have C10 : Chg [b] H H10 ((b, o10) :: ceq c e s' p w ⟨dx', la', te', wr', tx', kp', none, beh x.L (atW x.W ns'), [], [], []⟩) := C9.call [0] D10
      refine ⟨_, rfl, by omega, by omega, ?_⟩
      refine for_it walk_range (fun i σ H' => ∃ y o' v9, σ = [some (.ref b), some (.ref d), some (.ref s), some (.ref dl), some (.bl bn), some (.ref pl), some (.ref r), some (.ref e), some (.ref s'), v9] ∧ Bx (n + 2 + 10 * i) o' ∧ Oq H' p w i y ∧ Chg [b] H H' ((b, o') :: ceq c e s' p w y))
        ⟨_, o10, none, rfl, bx10, okY _, C10⟩ (fun _ _ _ _ _ => ⟨⟩) ?_ ?_
      · rintro i z σ H11' H11 hi ⟨y, o11, v9, rfl, bx11, okY, C11⟩ ⟨rfl, rfl⟩
        have hi2 : i < 2 := by omega
        refine ⟨_, C11.at 5 rfl, _, atI_of 0 rfl rfl, b, o11, n + 2 + 10 * i, p, rfl, C11.at 0 rfl, bx11, by omega, by omega, by omega, fun pg o12 H12 g0 g1 bx12 D12 => ?_⟩
        have C12 : Chg [b] H H12 ((b, o12) :: ceq c e s' p w y) := C11.call [0] D12
        refine ⟨b, o12, n + 2 + 10 * i + 1, rfl, C12.at 0 rfl, bx12, by omega, fun tx o13 H13 lt pt bx13 D13 => ?_⟩
        have C13 : Chg [b] H H13 ((b, o13) :: ceq c e s' p w y) := C12.call [0] D13
        obtain ⟨pg, rfl⟩ : ∃ j : Nat, pg = j := ⟨pg.toNat, by omega⟩
        refine ⟨e, s', p, w, i, pg, tx, y, rfl, (C13.pick [1, 2, 3, 4, 5, 6, 7]).led, (okY.up D12.fix (m := i)).up D13.fix (m := i), by omega, g1, pt, by omega, fun y' H14 okY' _ D14 => ⟨true, rfl, ?_⟩⟩
        have C14 : Chg [b] H H14 ((b, o13) :: ceq c e s' p w y') := ((C13.call [1, 2, 3, 4, 5, 6, 7] D14).pick [7, 0, 1, 2, 3, 4, 5, 6]).to (by rfl)
        refine ⟨d, s, p, w, m, x, rfl, ledX C14, ok.up C14.fix, by omega, fun H15 D15 => ⟨true, rfl, ?_⟩⟩
        exact ⟨y', o13, _, rfl, bx13.le (by omega), okY'.up D15.fix, C14.and D15⟩
      · rintro σ H11 ⟨y, o11, v9, rfl, bx11, okY, C11⟩
        have hc : ((1 : Int) + u).toNat ≤ 2 := by omega
        refine ⟨e, s', p, w, _, y, rfl, (C11.pick [1, 2, 3, 4, 5, 6, 7]).led, okY, by omega, fun H12 D12 => ⟨true, rfl, ?_⟩⟩
        have C12 : Chg [b] H H12 ((b, o11) :: ceq c e s' p w y) := C11.and D12
        refine ⟨leS rfl, fun rr hrr => ?_⟩
        have C13 := C12.add (o := .lst [.ref e, .ref s']) hrr
        refine h rr e s' y o11 _ (bx11.le (by omega)) ((okY.up D12.fix (m := 2)).up ?_) ((C13.pick [1, 0, 2, 3, 4, 5, 6, 7, 8]).to (by rfl))
        exact ((Chg.of (H := H12) .nil).add (o := .lst [.ref e, .ref s']) hrr).fix
end
end Ks

/-! KsQg: lists of other lengths; a disk grown. -/
namespace Ks
open PySem PySem.Spec PyProof.Rows L2 PySem.W
/-- == of two lists of other lengths -/
def rEqN (K : PySem.W.Frag) : R2 := fun x y H Q => ∃ p q xs ys, x = .ref p ∧ y = .ref q ∧ SqL K H p xs ∧ SqL K H q ys ∧ (xs.length != ys.length) = true ∧ Q (.bl false) H
theorem op_eqN {X : Cx} (hu : X.A.units + 64 < cLine) : OpR X (compareOp .Eq) (rEqN X.K) := by
  intro pins s σ H x y v u Q I rx ry h
  obtain ⟨p, q, xs, ys, rfl, rfl, h1, h2, hn, h⟩ := h
  cases rx
  cases ry
  obtain ⟨i1, r1, l1, z1⟩ := I.list h1
  obtain ⟨i2, r2, l2, z2⟩ := I.list h2
  refine SeqAt.eq_list_lengthsAt l1.isList l2.isList ?_ (by omega) ⟨.bl false, H, I, rfl, h⟩
  show (i1.length != i2.length) = true
  rw [← r1.length, ← r2.length]
  exact hn
section
variable {P : Program} {w : World} {K : PySem.W.Frag} {mg : Str → Option Value} {base : Heap} {a : Nat → Addr × FuncData} {c : Nat → Addr}
def sp_grown (c : Nat → Addr) : Sp := fun vs H Q _ => ∃ (b d s : Addr) (p w : Int) (n m : Nat) (x : Pq) (o : HO), vs = [.ref b, .ref d, .ref s] ∧ Led H ((b, o) :: ceq c d s p w x) ∧ Bx n o ∧ n ≤ 800000000 ∧ Oq H p w m x ∧ m ≤ 3000 ∧
  ∀ o' x' H', Bx (n + 150) o' → Oq H' p w (m + 10) x' → Chg (b :: (ceq c d s p w x).map (·.1)) H H' ((b, o') :: ceq c d s p w x') → Q (.bl true) H'
theorem ok_law_grown (Z : Wd K mg a c) : FnG false P w K mg base 6 (a 65).1 (a 65).2 ["box", "disk", "state"] (sp_grown c) := by
  refine fun_okG Z.g_law_grown.fn sc_law_grown (fun vs H Q E h => ?_) (fun cdv A outer s H vs Q E hr h => ?_)
  · obtain ⟨b, d, s, p, w, n, m, x, o, rfl, _⟩ := h; rfl
  · obtain ⟨b, d, s, p, w, n, m, x, o, rfl, L, bx, hn, ok, hm, h⟩ := h
    refine ⟨_, (pss_cons (ps_setLc (i := 3) (own := [("k", 5)]) (by rfl) sc_law_grown.nd rfl rfl (sw_true rfl rfl rfl (by decide +kernel)) (pi_range1 (by rfl) Z.n_range (pa_cons pe_int pa_nil)) (blkOk_by (N := ["box", "disk", "state", "pages", "turn", "k"]) (sc := defScope s_law_grown) (by decide +kernel)) (fun _ _ _ _ _ => (pg_name (i := 5) sc_law_grown.nd rfl (Or.inl rfl))) (fun _ _ _ _ _ => pts_nil) (fun _ _ _ _ _ => (q_call Z.g_law_take (ok_law_take Z) (hr.mono (by decide)) takes0 (pa_cons (qv 0) (pa_cons (pe_ix ix_d (qv 2) pe_int (fun _ _ => rfl)) pa_nil)))))
      (pss_cons (ps_if (PW.pt (pw_and (pt_cmpR (o_eq hr.u64) (q_call Z.g_law_take (ok_law_take Z) (hr.mono (by decide)) takes0 (pa_cons (qv 0) (pa_cons pe_int pa_nil))) pe_int (nomark _)) (pw_and1 (pt_not (pt_val (q_call Z.g_law_stopped (ok_law_stopped Z) (hr.mono (by decide)) takes0 (pa_cons (qv 1) (pa_cons (qv 2) (pa_cons (pe_op o_add pe_int (q_call Z.g_law_take (ok_law_take Z) (hr.mono (by decide)) takes0 (pa_cons (qv 0) (pa_cons pe_int pa_nil)))) pa_nil))))))))) (pss_one (ps_ret pe_bl)) pss_nil)
      (pss_cons (ps_for (passes_of rfl) (by rfl) (pi_range1 (by rfl) Z.n_range (pa_cons (pe_op o_add pe_int (q_call Z.g_law_take (ok_law_take Z) (hr.mono (by decide)) takes0 (pa_cons (qv 0) (pa_cons pe_int pa_nil)))) pa_nil)) (pg_name (i := 4) sc_law_grown.nd rfl (Or.inl rfl))
      (pss_cons (ps_if (PW.pt (pw_and (pt_cmpR (o_eq hr.u64) (q_call Z.g_law_take (ok_law_take Z) (hr.mono (by decide)) takes0 (pa_cons (qv 0) (pa_cons pe_int pa_nil))) pe_int (nomark _)) (pw_and1 (pt_not (pt_val (q_call Z.g_law_settled (ok_law_settled Z) (hr.mono (by decide)) takes0 (pa_cons (qv 1) (pa_cons (qv 2) pa_nil)))))))) (pss_one (ps_ret pe_bl)) pss_nil)
      (pss_one (ps_if (pt_not (pt_val (q_call Z.g_law_wrote (ok_law_wrote Z) (hr.mono (by decide)) takes0 (pa_cons (qv 1) (pa_cons (qv 2) (pa_cons (pe_ix ix_d (qv 3) (q_call Z.g_law_take (ok_law_take Z) (hr.mono (by decide)) takes0 (pa_cons (qv 0) (pa_cons pe_int pa_nil))) (fun _ _ => rfl)) (pa_cons (q_call Z.g_law_text_too (ok_law_text_too Z) (hr.mono (by decide)) takes0 (pa_cons (qv 0) pa_nil)) pa_nil))))))) (pss_one (ps_ret pe_bl)) pss_nil))))
      (pss_one (ps_ret (q_call Z.g_law_state_right_too (ok_law_state_right_too Z) (hr.mono (by decide)) takes0 (pa_cons (qv 1) (pa_cons (qv 2) pa_nil)))))))), ?_⟩
    have p3 := ok.p3
    have p40 := ok.p40
    have w20 := ok.w20
    have w400 := ok.w400
    have C0 : Chg (b :: (ceq c d s p w x).map (·.1)) H H ((b, o) :: ceq c d s p w x) := .of L
    refine ⟨3, rfl, by decide, by decide, fun D hD => ?_⟩
    refine lc_led walk_range (S := HO) (A := b :: (ceq c d s p w x).map (·.1)) (H0 := H) (fun z => (b, z) :: ceq c d s p w x) (fun i z acc => Bx (n + i) z ∧ acc.length = i ∧ ∀ y ∈ acc, ∃ j : Nat, y = .int j ∧ (j : Int) < p) o hD C0 ⟨bx, rfl, fun y hy => (nomatch hy)⟩ (leS rfl) (fun i z acc q => by rw [q.2.1]; omega) (fun _ _ _ _ _ _ => ⟨⟩) ?_ ?_
    · rintro i y H1' H1 oz acc Qk Nk hi ⟨hbz, ha, hl⟩ C ⟨rfl, rfl⟩ k1 k2
      have hi3 : i < 3 := by simpa using hi
      refine ⟨rfl, _, C.at 6 rfl, _, atI_of 0 rfl rfl, b, oz, n + i, p, rfl, C.at 1 rfl, hbz, by omega, by omega, by omega, fun v o2 H2 v0 v1 bx2 D2 => ?_⟩
      exact k1 o2 (.int v) H2 ⟨bx2, by rw [List.length_append, ha]; rfl, fun y hy => by
        rcases List.mem_append.mp hy with q | q
        · exact hl y q
        · rw [List.mem_singleton] at q
          exact ⟨v.toNat, by rw [q, show v = (v.toNat : Int) by omega]; rfl, by omega⟩⟩ (((C.call [1] D2).pick [1, 0, 2, 3, 4, 5, 6, 7, 8]).to (by rfl))
    · rintro H1 o1 acc ⟨bx1, ha, hl⟩ C1
      have ha : acc.length = 3 := ha
      have bx1 : Bx (n + 3) o1 := bx1
      have C1 : Chg (b :: (ceq c d s p w x).map (·.1)) H H1 ((b, o1) :: ceq c d s p w x ++ [(D, .lst acc)]) := (C1.pick [1, 2, 3, 4, 5, 6, 7, 8, 0]).to (by rfl)
      refine ⟨b, o1, n + 3, 3, rfl, C1.at 0 rfl, bx1, by omega, by decide, by decide, fun v o2 H2 v0 v1 bx2 D2 => ⟨rfl, _, rfl, ?_⟩⟩
      have C2 : Chg (b :: (ceq c d s p w x).map (·.1)) H H2 ((b, o2) :: ceq c d s p w x ++ [(D, .lst acc)]) := (C1.call [0] D2).to (by rfl)
      have ok2 := ok.up C2.fix (m := m)
      by_cases q0 : v = 0
      case' pos =>
        refine itP (decide_eq_true (congrArg V.int q0)) ?_
        refine ⟨b, o2, n + 4, 6, rfl, C2.at 0 rfl, bx2, by omega, by decide, by decide, fun u o3 H3 u0 u1 bx3 D3 => ?_⟩
        have C3 : Chg (b :: (ceq c d s p w x).map (·.1)) H H3 ((b, o3) :: ceq c d s p w x ++ [(D, .lst acc)]) := (C2.call [0] D3).to (by rfl)
        refine ⟨d, s, p, w, m, (1 + u).toNat, x, by rw [show (((1 + u).toNat : Nat) : Int) = 1 + u by omega], (C3.pick [1, 2, 3, 4, 5, 6, 7]).led, ok.up C3.fix, fun H4 ok4 D4 => ⟨true, rfl, ?_⟩⟩
        have X5 : ∃ o' x', Bx (n + 5) o' ∧ Oq H4 p w m x' ∧ Chg (b :: (ceq c d s p w x).map (·.1)) H H4 ((b, o') :: ceq c d s p w x' ++ [(D, .lst acc)]) := ⟨o3, _, bx3, ok4, ((C3.call [1, 2, 3, 4, 5, 6, 7] D4).pick [7, 0, 1, 2, 3, 4, 5, 6, 8]).to (by rfl)⟩
      case' neg =>
        refine itN (decide_eq_false (fun e => q0 (V.int.inj e))) ?_
        have X5 : ∃ o' x', Bx (n + 5) o' ∧ Oq H2 p w m x' ∧ Chg (b :: (ceq c d s p w x).map (·.1)) H H2 ((b, o') :: ceq c d s p w x' ++ [(D, .lst acc)]) := ⟨o2, x, bx2.le (by omega), ok2, C2⟩
      all_goals
        obtain ⟨o5, x5, bx5, ok5, C5⟩ := X5
        refine ⟨b, o5, n + 5, 9, rfl, C5.at 0 rfl, bx5, by omega, by decide, by decide, fun u o6 H6 u0 u1 bx6 D6 => ⟨_, rfl, by omega, by omega, ?_⟩⟩
        have C6 : Chg (b :: (ceq c d s p w x).map (·.1)) H H6 ((b, o6) :: ceq c d s p w x5 ++ [(D, .lst acc)]) := (C5.call [0] D6).to (by rfl)
        refine for_it walk_range (fun i σ H' => ∃ y o' v4, σ = [some (.ref b), some (.ref d), some (.ref s), some (.ref D), v4, none] ∧ Bx (n + 6 + 15 * i) o' ∧ Oq H' p w (m + i) y ∧ Chg (b :: (ceq c d s p w x).map (·.1)) H H' ((b, o') :: ceq c d s p w y ++ [(D, .lst acc)]))
          ⟨x5, o6, none, rfl, bx6, ok5.up D6.fix, C6⟩ (fun _ _ _ _ _ => ⟨⟩) ?_ ?_
        · rintro i z σ H7' H7 hi ⟨y, o7, v4, rfl, bx7, ok7, C7⟩ ⟨rfl, rfl⟩
          have hi9 : i < 9 := by omega
          refine ⟨b, o7, n + 6 + 15 * i, 9, rfl, C7.at 0 rfl, bx7, by omega, by decide, by decide, fun g o8 H8 g0 g1 bx8 D8 => ⟨rfl, _, rfl, ?_⟩⟩
          have C8 : Chg (b :: (ceq c d s p w x).map (·.1)) H H8 ((b, o8) :: ceq c d s p w y ++ [(D, .lst acc)]) := (C7.call [0] D8).to (by rfl)
          have ok8 := ok7.up D8.fix (m := m + i)
          by_cases q1 : g = 0
          case' pos =>
            refine itP (decide_eq_true (congrArg V.int q1)) ?_
            refine ⟨d, s, p, w, m + i, y, rfl, (C8.pick [1, 2, 3, 4, 5, 6, 7]).led, ok8, by omega, fun y' H9 ok9 _ D9 => ⟨true, rfl, ?_⟩⟩
            have X9 : ∃ y', Oq H9 p w (m + i) y' ∧ Chg (b :: (ceq c d s p w x).map (·.1)) H H9 ((b, o8) :: ceq c d s p w y' ++ [(D, .lst acc)]) := ⟨y', ok9, ((C8.call [1, 2, 3, 4, 5, 6, 7] D9).pick [7, 0, 1, 2, 3, 4, 5, 6, 8]).to (by rfl)⟩
          case' neg =>
            refine itN (decide_eq_false (fun e => q1 (V.int.inj e))) ?_
            have X9 : ∃ y', Oq H8 p w (m + i) y' ∧ Chg (b :: (ceq c d s p w x).map (·.1)) H H8 ((b, o8) :: ceq c d s p w y' ++ [(D, .lst acc)]) := ⟨y, ok8, C8⟩
          all_goals
            obtain ⟨y9, ok9, C9⟩ := X9
            refine ⟨b, o8, n + 6 + 15 * i + 1, 3, rfl, C9.at 0 rfl, bx8, by omega, by decide, by decide, fun k o10 H10 k0 k1 bx10 D10 => ?_⟩
            have C10 : Chg (b :: (ceq c d s p w x).map (·.1)) H H10 ((b, o10) :: ceq c d s p w y9 ++ [(D, .lst acc)]) := (C9.call [0] D10).to (by rfl)
            obtain ⟨k, rfl⟩ : ∃ j : Nat, k = j := ⟨k.toNat, by omega⟩
            have hk : k < acc.length := by omega
            obtain ⟨j, ej, hj⟩ := hl acc[k] (List.getElem_mem hk)
            refine ⟨_, C10.at 8 rfl, .int j, atI_nat (by rw [List.getElem?_eq_getElem hk, ej]), ?_⟩
            refine ⟨b, o10, n + 6 + 15 * i + 2, rfl, C10.at 0 rfl, bx10, by omega, fun tx o11 H11 lt pt bx11 D11 => ?_⟩
            have C11 : Chg (b :: (ceq c d s p w x).map (·.1)) H H11 ((b, o11) :: ceq c d s p w y9 ++ [(D, .lst acc)]) := (C10.call [0] D11).to (by rfl)
            refine ⟨d, s, p, w, m + i, j, tx, y9, rfl, (C11.pick [1, 2, 3, 4, 5, 6, 7]).led, (ok9.up D10.fix (m := m + i)).up D11.fix (m := m + i), by omega, hj, pt, by omega, fun y' H12 ok12 _ D12 => ⟨true, rfl, ?_⟩⟩
            exact ⟨y', o11, _, rfl, bx11.le (by omega), ok12, ((C11.call [1, 2, 3, 4, 5, 6, 7] D12).pick [7, 0, 1, 2, 3, 4, 5, 6, 8]).to (by rfl)⟩
        · rintro σ H7 ⟨y, o7, v4, rfl, bx7, ok7, C7⟩
          have hc : ((1 : Int) + u).toNat ≤ 9 := by omega
          refine ⟨d, s, p, w, _, y, rfl, (C7.pick [1, 2, 3, 4, 5, 6, 7]).led, ok7, by omega, fun H8 D8 => ?_⟩
          have C8 : Chg (b :: (ceq c d s p w x).map (·.1)) H H8 ((b, o7) :: ceq c d s p w y ++ [(D, .lst acc)]) := C7.and D8
          exact h o7 y H8 (bx7.le (by omega)) (ok7.up D8.fix) ((C8.pick [0, 1, 2, 3, 4, 5, 6, 7]).to (by rfl))
end
end Ks

/-! KsQh: chains of cuts. -/
namespace Ks
open PySem PySem.Spec PyProof.Rows L2 PySem.W
structure Pt where
  d : Addr
  s : Addr
  x : Pq
abbrev ct (c : Nat → Addr) (p w : Int) (X : Pt) : Cells := ceq c X.d X.s p w X.x
def pool (c : Nat → Addr) (p w : Int) (Xs : List Pt) : Cells := Xs.flatMap (ct c p w)
abbrev ky (X : Pt) : Addr × Addr := (X.d, X.s)
/-- every one is a list of a disk and its state -/
def Hnd (os : List V) (ds : List (Addr × Addr)) (G : Cells) : Prop := ∀ y ∈ os, ∃ q e, y = V.ref q ∧ e ∈ ds ∧ (q, HO.lst [.ref e.1, .ref e.2]) ∈ G
theorem Hnd.le {os : List V} {ds es : List (Addr × Addr)} {G F : Cells} (h : Hnd os ds G) (f : ∀ e ∈ ds, e ∈ es) (g : ∀ p ∈ G, p ∈ F) : Hnd os es F := fun y hy => by
  obtain ⟨q, e, h1, h2, h3⟩ := h y hy
  exact ⟨q, e, h1, f e h2, g _ h3⟩
theorem Hnd.app {os fs : List V} {ds : List (Addr × Addr)} {G : Cells} (h : Hnd os ds G) (g : Hnd fs ds G) : Hnd (os ++ fs) ds G := fun y hy => (List.mem_append.mp hy).elim (h y) (g y)
theorem Hnd.one {q : Addr} {e : Addr × Addr} {ds : List (Addr × Addr)} {G : Cells} (h : e ∈ ds) (g : (q, HO.lst [.ref e.1, .ref e.2]) ∈ G) : Hnd [.ref q] ds G := fun y hy => by
  rw [List.mem_singleton] at hy
  exact ⟨q, e, hy, h, g⟩
theorem Hnd.cut {os : List V} {ds : List (Addr × Addr)} {G : Cells} (h : Hnd os ds G) (lo hi : Option Int) : Hnd (cutV os lo hi) ds G := fun y hy => h y (List.mem_of_mem_drop (List.mem_of_mem_take hy))
theorem perm_sw {α : Type} (h U V F S T G : List α) : (((h ++ V) ++ F) ++ ((U ++ (S ++ T)) ++ G)).Perm (((h ++ U) ++ F) ++ ((S ++ (V ++ T)) ++ G)) := by
  classical exact List.perm_iff_count.mpr fun a => by simp only [List.count_append]; omega
theorem perm_gr {α : Type} (L Y P G : List α) (r : α) : (L ++ ((Y ++ P) ++ (r :: G))).Perm (((L ++ Y) ++ [r]) ++ (P ++ G)) := by
  classical exact List.perm_iff_count.mpr fun a => by simp only [List.count_append, List.count_cons, List.count_nil]; omega
theorem perm_ls {α : Type} (h l : α) (GL R P G : List α) : ((h :: (R ++ [l])) ++ (P ++ (GL ++ G))).Perm (((h :: l :: GL) ++ R) ++ (P ++ G)) := by
  classical exact List.perm_iff_count.mpr fun a => by simp only [List.count_append, List.count_cons, List.count_nil]; omega
theorem pool_app {c : Nat → Addr} {p w : Int} {S T : List Pt} : pool c p w (S ++ T) = pool c p w S ++ pool c p w T := List.flatMap_append
theorem pool_cons {c : Nat → Addr} {p w : Int} {X : Pt} {T : List Pt} : pool c p w (X :: T) = ct c p w X ++ pool c p w T := List.flatMap_cons
section
variable {c : Nat → Addr} {b : Addr} {A : List Addr} {H0 H : Hp} {o : HO} {p w : Int} {X Y : Pt} {Xs : List Pt} {F G L : Cells} {r : Addr × HO}
/-- another pair ahead -/
theorem sw (hY : Y ∈ X :: Xs) (C : Chg A H0 H (((b, o) :: ct c p w X ++ F) ++ (pool c p w Xs ++ G))) :
    ∃ Xs', (∀ Z, Z ∈ Y :: Xs' ↔ Z ∈ X :: Xs) ∧ Chg A H0 H (((b, o) :: ct c p w Y ++ F) ++ (pool c p w Xs' ++ G)) := by
  rcases List.mem_cons.mp hY with rfl | hY
  · exact ⟨Xs, fun _ => Iff.rfl, C⟩
  · obtain ⟨S, T, rfl⟩ := List.append_of_mem hY
    refine ⟨X :: (S ++ T), fun Z => by simp only [List.mem_cons, List.mem_append]; constructor <;> (rintro (h | h | h | h) <;> simp [h]), C.perm ?_⟩
    rw [pool_cons, pool_app, pool_app, pool_cons]
    exact perm_sw [(b, o)] (ct c p w X) (ct c p w Y) F (pool c p w S) (pool c p w T) G
theorem grow (C : Chg A H0 H (((L ++ ct c p w Y) ++ [r]) ++ (pool c p w Xs ++ G))) : Chg A H0 H (L ++ (pool c p w (Y :: Xs) ++ (r :: G))) := C.perm (by
  rw [pool_cons]
  exact perm_gr L (ct c p w Y) (pool c p w Xs) G r)
theorem led_at (T : Led H (((b, o) :: ct c p w X ++ F) ++ (pool c p w Xs ++ G))) {Z : Pt} (hZ : Z ∈ X :: Xs) : Led H (ct c p w Z) := by
  rcases List.mem_cons.mp hZ with rfl | hZ
  · refine T.sub (List.Sublist.trans ?_ (List.sublist_append_left _ _))
    exact List.Sublist.trans (List.sublist_append_left _ F) (List.sublist_cons_self _ _)
  · obtain ⟨S, T', rfl⟩ := List.append_of_mem hZ
    refine T.sub (List.Sublist.trans ?_ (List.sublist_append_right _ _))
    rw [pool_app, pool_cons]
    exact List.Sublist.trans (List.Sublist.trans (List.sublist_append_left _ _) (List.sublist_append_right _ _)) (List.sublist_append_left _ _)
theorem led_dl {M : Cells} (T : Led H (((b, o) :: ct c p w X ++ F) ++ M)) {q : Addr × HO} (hm : q ∈ M) : Led H ((b, o) :: (ct c p w X ++ [q])) := T.sub (by
  have := List.Sublist.append (List.Sublist.cons₂ (b, o) (List.Sublist.append (List.Sublist.refl (ct c p w X)) (List.nil_sublist F))) (List.singleton_sublist.mpr hm)
  exact this)
end
section
variable {P : Program} {w : World} {K : PySem.W.Frag} {mg : Str → Option Value} {base : Heap} {a : Nat → Addr × FuncData} {c : Nat → Addr}
/-- all of one's pairs are well -/
def Al (H : Hp) (p w : Int) (n : Nat) (Xs : List Pt) : Prop := ∀ Z ∈ Xs, Oq H p w n Z.x
theorem Al.up {H H' : Hp} {p w : Int} {n m : Nat} {Xs : List Pt} (o : Al H p w n Xs) (f : ∀ a o, imm o = true → H a = some o → H' a = some o) (h : n ≤ m := by omega) : Al H' p w m Xs := fun Z hZ => (o Z hZ).up f h
theorem fx_add {H : Hp} {q : Addr} {o : HO} (h : H q = none) : ∀ a o', imm o' = true → H a = some o' → upd H q o a = some o' := ((Chg.of (H := H) .nil).add (o := o) h).fix
theorem fx_set {H : Hp} {q : Addr} {o o' : HO} (h : H q = some o) (ni : imm o = false := by rfl) : ∀ a o2, imm o2 = true → H a = some o2 → upd H q o' a = some o2 := ((Chg.of (Led.one h)).set 0 (o' := o') rfl ni).fix
theorem Al.cons {H : Hp} {p w : Int} {n : Nat} {X : Pt} {Xs : List Pt} (h : Oq H p w n X.x) (o : Al H p w n Xs) : Al H p w n (X :: Xs) := fun Z hZ => (List.mem_cons.mp hZ).elim (fun e => e ▸ h) (o Z)
theorem Al.tl {H : Hp} {p w : Int} {n : Nat} {X : Pt} {Xs : List Pt} (o : Al H p w n (X :: Xs)) : Al H p w n Xs := fun Z hZ => o Z (List.mem_cons_of_mem _ hZ)
theorem rgV_map (m : Nat) : rgV 0 (m : Int) = ((List.range m).map fun i : Nat => (i : Int)).map V.int := by
  unfold rgV
  rw [show ((m : Int) - 0).toNat = m by omega, List.map_map]
  congr 1
  funext i
  show V.int ((0 : Int) + (i : Nat)) = V.int (i : Int)
  rw [show (0 : Int) + (i : Nat) = (i : Int) by omega]
theorem inc_range (m : Nat) : Inc ((List.range m).map fun i : Nat => (i : Int)) m := by
  refine ⟨fun k hk => ?_, ?_⟩
  · obtain ⟨i, hi, rfl⟩ := List.mem_map.mp hk
    have := List.mem_range.mp hi
    omega
  · rw [List.pairwise_map]
    exact List.pairwise_lt_range.imp fun h => by omega
theorem perm_hd {α : Type} (L P G : List α) (r : α) : (L ++ (P ++ (r :: G))).Perm ((L ++ [r]) ++ (P ++ G)) := by
  classical exact List.perm_iff_count.mpr fun a => by simp only [List.count_append, List.count_cons, List.count_nil]; omega
theorem beh_nil' {T : List Str} : beh T [] = T := rfl
theorem prn_last : Prn "last" := prn_all.mp (by decide +kernel)
theorem prn_nd : Prn "not done" := prn_all.mp (by decide +kernel)
theorem len_last : (("last" : Str).length : Int) = 4 := by decide +kernel
theorem len_nd : (("not done" : Str).length : Int) = 8 := by decide +kernel
def sp_chain : Sp := fun vs H Q _ => ∃ (b : Addr) (n : Nat) (o : HO), vs = [.ref b] ∧ H b = some o ∧ Bx n o ∧ n ≤ 1000 ∧ ∀ H', Chg [b] H H' [] → Q (.bl true) H'
theorem ok_law_chain_right (Z : Wd K mg a c) : FnG false P w K mg base 8 (a 66).1 (a 66).2 ["box"] sp_chain := by
  refine fun_okG Z.g_law_chain_right.fn sc_law_chain_right (fun vs H Q E h => ?_) (fun cdv A outer s H vs Q E hr h => ?_)
  · obtain ⟨b, n, o, rfl, _⟩ := h; rfl
  · obtain ⟨b, n, o, rfl, hb, bx, hn, h⟩ := h
    refine ⟨_, (pss_cons (ps_par (i := 1) (j := 2) (by rfl) sc_law_chain_right.nd rfl rfl (by decide) rfl rfl (pa_cons (pe_cmpR (o_eq hr.u64) (q_call Z.g_law_take (ok_law_take Z) (hr.mono (by decide)) takes0 (pa_cons (qv 0) (pa_cons pe_int pa_nil))) pe_int (nomark _)) (pa_cons (pe_op o_add pe_int (q_call Z.g_law_take (ok_law_take Z) (hr.mono (by decide)) takes0 (pa_cons (qv 0) (pa_cons (pe_ix ix_d (pe_lst (pa_cons pe_int (pa_cons pe_int pa_nil))) (q_call Z.g_law_take (ok_law_take Z) (hr.mono (by decide)) takes0 (pa_cons (qv 0) (pa_cons pe_int pa_nil))) (fun _ _ => rfl)) pa_nil)))) pa_nil)) rfl)
      (pss_cons (ps_par3 (i := 3) (j := 4) (l := 5) (by rfl) sc_law_chain_right.nd rfl rfl rfl (by decide) (by decide) (by decide) rfl rfl rfl (pa_cons (q_make Z.kd (by rfl) (ok_Disk_init Z) (hr.mono (by decide)) takes0 (pa_cons (qv 2) (pa_cons (pe_op o_add pe_int (qv 2)) pa_nil))) (pa_cons (q_call Z.g_law_new (ok_law_new Z) (hr.mono (by decide)) takes0 (pa_cons (qv 2) (pa_cons (pe_op o_add pe_int (qv 2)) pa_nil))) (pa_cons (pe_lst pa_nil) pa_nil))) rfl)
      (pss_cons (ps_for (passes_of rfl) (by rfl) (pi_range1 (by rfl) Z.n_range (pa_cons (pe_op o_add pe_int (q_call Z.g_law_take (ok_law_take Z) (hr.mono (by decide)) takes0 (pa_cons (qv 0) (pa_cons pe_int pa_nil)))) pa_nil)) (pg_name (i := 6) sc_law_chain_right.nd rfl (Or.inl rfl))
      (pss_cons (ps_if (pt_not (pt_val (q_call Z.g_law_grown (ok_law_grown Z) (hr.mono (by decide)) takes0 (pa_cons (qv 0) (pa_cons (qv 3) (pa_cons (qv 4) pa_nil)))))) (pss_one (ps_ret pe_bl)) pss_nil)
      (pss_cons (ps_if (PW.pt (pw_and (pt_cmpR (o_eq hr.u64) (pe_op o_mod (qv 6) pe_int) pe_int (nomark _)) (pw_and1 (pt_not (pt_val (q_call Z.g_law_refused_right (ok_law_refused_right Z) (hr.mono (by decide)) takes0 (pa_cons (qv 0) (pa_cons (qv 3) (pa_cons (qv 4) (pa_cons (qv 1) pa_nil)))))))))) (pss_one (ps_ret pe_bl)) pss_nil)
      (pss_cons (ps_set (i := 7) sc_law_chain_right.nd rfl (Or.inl rfl) (pe_lst pa_nil))
      (pss_cons (ps_for (passes_of rfl) (by rfl) (pi_seq (q_call Z.g_law_lists (ok_law_lists Z) (hr.mono (by decide)) takes0 (pa_cons (qv 0) (pa_cons (pe_callB c_len (by rfl) Z.n_len bt_len (pa_cons (pe_ix ix_d (qv 4) pe_int (fun _ _ => rfl)) pa_nil)) pa_nil)))) (pg_name (i := 8) sc_law_chain_right.nd rfl (Or.inl rfl))
      (pss_cons (ps_set (i := 9) sc_law_chain_right.nd rfl (Or.inl rfl) (q_call Z.g_law_one_right (ok_law_one_right Z) (hr.mono (by decide)) takes0 (pa_cons (qv 0) (pa_cons (qv 3) (pa_cons (qv 4) (pa_cons (qv 8) (pa_cons (qv 1) pa_nil)))))))
      (pss_cons (ps_if (pt_cmpR (op_eqN hr.u64) (qv 9) (pe_lst pa_nil) (nomark _)) (pss_one (ps_ret pe_bl)) pss_nil)
      (pss_cons (ps_expr (q_lm PySem.F.slot_list_append PySem.F.type_list_append m_append (qv 7) (pa_cons (qv 9) pa_nil)))
      (pss_one (ps_set (i := 1) sc_law_chain_right.nd rfl (Or.inl rfl) (pe_not (qv 1))))))))
      (pss_cons (ps_if (PW.pt (pw_or (pt_not (pt_val (q_call Z.g_law_stopped (ok_law_stopped Z) (hr.mono (by decide)) takes0 (pa_cons (qv 3) (pa_cons (qv 4) (pa_cons pe_int pa_nil)))))) (pw_or1 (pt_cmpR (op_eqN hr.u64) (q_call Z.g_law_one_right (ok_law_one_right Z) (hr.mono (by decide)) takes0 (pa_cons (qv 0) (pa_cons (qv 3) (pa_cons (qv 4) (pa_cons (pe_lst pa_nil) (pa_cons (qv 1) pa_nil)))))) (pe_lst pa_nil) (nomark _))))) (pss_one (ps_ret pe_bl)) pss_nil)
      (pss_cons (ps_if (PW.pt (pw_or (pt_not (pt_val (q_call Z.g_law_wrote (ok_law_wrote Z) (hr.mono (by decide)) takes0 (pa_cons (qv 3) (pa_cons (qv 4) (pa_cons pe_int (pa_cons pe_str pa_nil))))))) (pw_or1 (pt_not (pt_val (q_call Z.g_law_wrote (ok_law_wrote Z) (hr.mono (by decide)) takes0 (pa_cons (qv 3) (pa_cons (qv 4) (pa_cons pe_int (pa_cons pe_str pa_nil)))))))))) (pss_one (ps_ret pe_bl)) pss_nil)
      (pss_cons (ps_if (pt_cmpR (op_eqN hr.u64) (q_call Z.g_law_one_right (ok_law_one_right Z) (hr.mono (by decide)) takes0 (pa_cons (qv 0) (pa_cons (qv 3) (pa_cons (qv 4) (pa_cons (pe_listRg (by rfl) (by rfl) Z.n_list (prg_1 (by rfl) Z.n_range (pe_callB c_len (by rfl) Z.n_len bt_len (pa_cons (pe_ix ix_d (qv 4) pe_int (fun _ _ => rfl)) pa_nil)))) (pa_cons (qv 1) pa_nil)))))) (pe_lst pa_nil) (nomark _)) (pss_one (ps_ret pe_bl)) pss_nil)
      (pss_cons (ps_set (i := 5) sc_law_chain_right.nd rfl (Or.inl rfl) (pe_op o_add (pe_slice sl_d (qv 5) (po_some (pe_un o_neg pe_int)) po_none) (pe_lst (pa_cons (pe_lst (pa_cons (qv 3) (pa_cons (qv 4) pa_nil))) (pa_cons (pe_ix ix_d (qv 7) pe_int (fun _ _ => rfl)) pa_nil)))))
      (pss_cons (ps_asg (pe_ix ix_d (qv 7) (q_call Z.g_law_take (ok_law_take Z) (hr.mono (by decide)) takes0 (pa_cons (qv 0) (pa_cons (pe_callB c_len (by rfl) Z.n_len bt_len (pa_cons (qv 7) pa_nil)) pa_nil))) (fun _ _ => rfl)) (pg_unl (n := 2) (by rfl) (pgs_cons (pg_name (i := 3) sc_law_chain_right.nd rfl (Or.inl rfl)) (pgs_cons (pg_name (i := 4) sc_law_chain_right.nd rfl (Or.inl rfl)) pgs_nil))))
      (pss_one (ps_if (pt_not (pt_val (pe_callB (c_all (by rfl)) (by rfl) Z.n_all bt_all (pa_cons (pe_lc (own := [("one", 9)]) (by rfl) sc_law_chain_right.nd (pi_seq (pe_op o_add (qv 7) (qv 5))) (blkOk_by (N := ["box", "by_name", "pages", "disk", "state", "others", "turn", "found", "done", "one"]) (sc := defScope s_law_chain_right) (by decide +kernel)) (fun _ _ _ _ _ => (pg_name (i := 9) sc_law_chain_right.nd rfl (Or.inl rfl))) (fun _ _ _ _ _ => pts_nil) (fun _ _ _ _ _ => (q_call Z.g_law_state_right_too (ok_law_state_right_too Z) (hr.mono (by decide)) takes0 (pa_cons (pe_ix ix_d (qv 9) pe_int (fun _ _ => rfl)) (pa_cons (pe_ix ix_d (qv 9) pe_int (fun _ _ => rfl)) pa_nil))))) pa_nil)))) (pss_one (ps_ret pe_bl)) pss_nil))))))))))))
      (pss_cons (ps_if (PW.pt (pw_or (pt_not (pt_val (q_call Z.g_law_settled (ok_law_settled Z) (hr.mono (by decide)) takes0 (pa_cons (qv 3) (pa_cons (qv 4) pa_nil))))) (pw_or1 (pt_cmpR (op_eqN hr.u64) (q_call Z.g_law_one_right (ok_law_one_right Z) (hr.mono (by decide)) takes0 (pa_cons (qv 0) (pa_cons (qv 3) (pa_cons (qv 4) (pa_cons (pe_lst pa_nil) (pa_cons (qv 1) pa_nil)))))) (pe_lst pa_nil) (nomark _))))) (pss_one (ps_ret pe_bl)) pss_nil)
      (pss_one (ps_ret (pe_callB (c_all (by rfl)) (by rfl) Z.n_all bt_all (pa_cons (pe_lc (own := [("one", 9)]) (by rfl) sc_law_chain_right.nd (pi_seq (qv 5)) (blkOk_by (N := ["box", "by_name", "pages", "disk", "state", "others", "turn", "found", "done", "one"]) (sc := defScope s_law_chain_right) (by decide +kernel)) (fun _ _ _ _ _ => (pg_name (i := 9) sc_law_chain_right.nd rfl (Or.inl rfl))) (fun _ _ _ _ _ => pts_nil) (fun _ _ _ _ _ => (q_call Z.g_law_state_right_too (ok_law_state_right_too Z) (hr.mono (by decide)) takes0 (pa_cons (pe_ix ix_d (qv 9) pe_int (fun _ _ => rfl)) (pa_cons (pe_ix ix_d (qv 9) pe_int (fun _ _ => rfl)) pa_nil))))) pa_nil)))))))), ?_⟩
    have C0 : Chg [b] H H [(b, o)] := .of (.one hb)
    refine ⟨b, o, n, 2, rfl, C0.at 0 rfl, bx, by omega, by decide, by decide, fun v o1 H1 v0 v1 bx1 D1 => ⟨rfl, ?_⟩⟩
    generalize hbn : decide (V.int v = V.int 1) = bn0
    have C1 : Chg [b] H H1 [(b, o1)] := C0.call [0] D1
    refine ⟨leS rfl, fun l0 nl0 => ?_⟩
    have C2 := C1.add (o := .lst [.int 3, .int 38]) nl0
    refine ⟨b, o1, n + 1, 2, rfl, C2.at 1 rfl, bx1, by omega, by decide, by decide, fun u o3 H3 u0 u1 bx3 D3 => ?_⟩
    have C3 := C2.call [1] D3
    obtain ⟨k, ek, k3, k38⟩ : ∃ k : Int, atI [V.int 3, .int 38] u = some (.int k) ∧ 3 ≤ k ∧ k ≤ 38 := by
      by_cases e : u = 0
      · exact ⟨3, by subst e; rfl, by decide, by decide⟩
      · exact ⟨38, by rw [show u = 1 by omega]; rfl, by decide, by decide⟩
    refine ⟨_, C3.at 1 rfl, _, ek, b, o3, n + 2, k, rfl, C3.at 0 rfl, bx3, by omega, by omega, by omega, fun u2 o4 H4 u20 u21 bx4 D4 => ⟨_, _, rfl, ?_⟩⟩
    have C4 : Chg [b] H H4 [(b, o4)] := (C3.call [0] D4).pick [0]
    generalize hp : 3 + u2 = p
    have p3 : 3 ≤ p := by omega
    have p40 : p ≤ 40 := by omega
    obtain ⟨wd, hw⟩ : ∃ wd, 20 + p = wd := ⟨_, rfl⟩
    have w20 : 20 ≤ wd := by omega
    have w400 : wd ≤ 400 := by omega
    clear hp hbn
    refine fun d dx nx ndx ne => ?_
    have C5 := (C4.skip (o := .own d) ndx).add (p := d) (o := .ins (c 8) dx []) (by rw [upd_ne ne.symm]; exact nx)
    have in1 : inR (.int p) 3 40 = true := by simp only [inR, Bool.and_eq_true, decide_eq_true_eq]; omega
    have in2 : inR (.int wd) 20 400 = true := by simp only [inR, Bool.and_eq_true, decide_eq_true_eq]; omega
    refine ⟨d, dx, .int p, .int wd, _, _, by subst hw; rfl, upd_same, .int p, .int wd, fun z => by (rw [in1] at z; cases z), fun _ z => by (rw [in2] at z; cases z), fun p' w' ep ew _ _ _ _ la te wr H9 D9 => ⟨rfl, ?_⟩⟩
    cases ep
    cases ew
    have C9 := Chg.callL (M := [(d, .ins (c 8) dx [])]) C5 D9
    refine ⟨p, wd, by subst hw; rfl, p3, p40, fun s tx kp H10 D10 => ⟨leS rfl, fun oth hoth => ?_⟩⟩
    have C10 := (C9.and D10).add (o := .lst []) hoth
    refine ⟨_, _, _, rfl, ?_⟩
    refine ⟨b, o4, n + 3, 3, rfl, C10.at 8 rfl, bx4, by omega, by decide, by decide, fun u o11 H11 u0 u1 bx11 D11 => ?_⟩
    have C11 := C10.call [8] D11
    rw [emp_eq] at C11
    have C11 : Chg [b] H H11 (((b, o11) :: ct c p wd ⟨d, s, dx, la, te, wr, tx, kp, none, emp p, [], [], []⟩ ++ [(oth, .lst [])]) ++ (pool c p wd [] ++ [])) := (C11.pick [0, 8, 7, 6, 5, 2, 3, 4, 1]).to (by rfl)
    have ok0 : Oq H11 p wd 0 ⟨dx, la, te, wr, tx, kp, none, emp p, [], [], []⟩ := ⟨p3, p40, w20, w400, by show ((emp p).length : Int) = p; unfold emp; rw [List.length_replicate]; omega, fun z hz => by
      rw [List.eq_of_mem_replicate hz]
      exact ⟨fun c hc => (nomatch hc), Nat.zero_le _⟩, .nil, .nil, fun y hy => (nomatch hy), Nat.zero_le _⟩
    refine ⟨_, rfl, by omega, by omega, ?_⟩
    refine for_it walk_range (fun i σ H' => ∃ bn o' X Xs os oth G v6 v7 v8 v9, σ = [some (.ref b), some (.bl bn), some (.int p), some (.ref X.d), some (.ref X.s), some (.ref oth), v6, v7, v8, v9] ∧ Bx (n + 4 + 1000 * i) o' ∧ Al H' p wd (14 * i) (X :: Xs) ∧ Hnd os ((X.d, X.s) :: Xs.map ky) G ∧ os.length ≤ 2 * i ∧ Chg [b] H H' (((b, o') :: ct c p wd X ++ [(oth, .lst os)]) ++ (pool c p wd Xs ++ G)))
      ⟨bn0, o11, _, [], [], oth, [], none, none, none, none, rfl, bx11, .cons ok0 fun Z hZ => (nomatch hZ), fun y hy => (nomatch hy), by decide, C11⟩ (fun _ _ _ _ _ => ⟨⟩) ?_ ?_
    · rintro i y σ H2' H2 hi ⟨bn, o2, ⟨d, s, x⟩, Xs, os, oth, G, v6, v7, v8, v9, rfl, bx2, al, ho, lo, C2⟩ ⟨rfl, rfl⟩
      have hi5 : i < 5 := by omega
      dsimp only at ho
      refine ⟨b, d, s, p, wd, n + 4 + 1000 * i, 14 * i, x, o2, rfl, (C2.pick [0, 1, 2, 3, 4, 5, 6, 7]).led, bx2, by omega, al _ List.mem_cons_self, by omega, fun o3 x3 H3 bx3 ok3 D3 => ⟨true, rfl, ?_⟩⟩
      have C3 : Chg [b] H H3 (((b, o3) :: ct c p wd ⟨d, s, x3⟩ ++ [(oth, .lst os)]) ++ (pool c p wd Xs ++ G)) := (C2.callT [0, 1, 2, 3, 4, 5, 6, 7] D3).to (by rfl)
      have al3 : Al H3 p wd (14 * i + 10) (⟨d, s, x3⟩ :: Xs) := .cons ok3 (al.tl.up D3.fix)
      refine ⟨by show (0 : Int) < 2; decide, rfl, _, rfl, ?_⟩
      by_cases q2 : ((0 : Int) + (i : Int)) % 2 = 0
      case' pos =>
        refine itP (decide_eq_true (congrArg V.int q2)) ?_
        refine ⟨.ref b, d, s, bn, p, wd, _, x3, rfl, (C3.pick [1, 2, 3, 4, 5, 6, 7]).led, ok3, by omega, fun H4 D4 => ⟨true, rfl, ?_⟩⟩
        have C4 : Chg [b] H H4 (((b, o3) :: ct c p wd ⟨d, s, x3⟩ ++ [(oth, .lst os)]) ++ (pool c p wd Xs ++ G)) := C3.and D4
        have al4 : Al H4 p wd (14 * i + 10) (⟨d, s, x3⟩ :: Xs) := al3.up D4.fix
      case' neg =>
        refine itN (decide_eq_false (fun e => q2 (V.int.inj e))) ?_
        have C4 := C3
        have al4 := al3
      all_goals
        refine ⟨leS rfl, fun fnd hfnd => ?_⟩
        have al5 := al4.up (fx_add (o := .lst []) hfnd) (m := 14 * i + 10)
        have C5 := C4.add (o := .lst []) hfnd
        have C5 : Chg [b] H _ (((b, o3) :: ct c p wd ⟨d, s, x3⟩ ++ [(fnd, .lst []), (oth, .lst os)]) ++ (pool c p wd Xs ++ G)) := Chg.pickT (L := (fnd, .lst []) :: (b, o3) :: ct c p wd ⟨d, s, x3⟩ ++ [(oth, .lst os)]) (M := pool c p wd Xs ++ G) C5 [1, 2, 3, 4, 5, 6, 7, 8, 0, 9]
        have hSl : (x3.S.map V.ref).length = x3.W.length := by rw [List.length_map, ok3.hS.length]
        have hWl := ok3.hn
        refine ⟨_, C5.at 5 rfl, _, atI_of 3 rfl rfl, _, C5.at 7 rfl, b, o3, n + 4 + 1000 * i + 150, (x3.S.map V.ref).length, rfl, C5.at 0 rfl, bx3, by omega, by omega, fun l xs GL o6 H6 bx6 hl hx lx D6 => ?_⟩
        have bx6 : Bx (n + 4 + 1000 * i + 450) o6 := bx6.le (by omega)
        rw [hSl] at hl
        have al6 := al5.up D6.fix (m := 14 * i + 10)
        have C6a : Chg [b] H H6 (((b, o6) :: (l, .lst xs) :: GL ++ (ct c p wd ⟨d, s, x3⟩ ++ [(fnd, .lst []), (oth, .lst os)])) ++ (pool c p wd Xs ++ G)) := C5.callT [0] D6
        have C6 : Chg [b] H H6 (((b, o6) :: ct c p wd ⟨d, s, x3⟩ ++ [(fnd, .lst []), (oth, .lst os), (l, .lst xs)]) ++ (pool c p wd Xs ++ (GL ++ G))) := (C6a.perm (perm_ls _ _ _ _ _ _)).to (by rfl)
        refine ⟨_, _, C6.at 10 rfl, rfl, fun J wk => ?_⟩
        refine for_it wk (fun j σ H' => ∃ bn o' fs Xs G v6 v8 v9, σ = [some (.ref b), some (.bl bn), some (.int p), some (.ref d), some (.ref s), some (.ref oth), v6, some (.ref fnd), v8, v9] ∧ Bx (n + 4 + 1000 * i + 450 + 30 * j) o' ∧ Al H' p wd (14 * i + 10) (⟨d, s, x3⟩ :: Xs) ∧ Hnd os ((d, s) :: Xs.map ky) G ∧ Hnd fs ((d, s) :: Xs.map ky) G ∧ fs.length = j ∧ Lsts x3.W.length xs G ∧ Chg [b] H H' (((b, o') :: ct c p wd ⟨d, s, x3⟩ ++ [(fnd, .lst fs), (oth, .lst os), (l, .lst xs)]) ++ (pool c p wd Xs ++ G)))
          ⟨bn, o6, [], Xs, GL ++ G, _, v8, v9, rfl, bx6, al6, ho.le (fun _ e => e) (fun q hq => List.mem_append_right _ hq), fun y hy => (nomatch hy), rfl, hl.le (Nat.le_refl _) (fun q hq => List.mem_append_left _ hq), C6⟩ (fun j σ H' _ q => by obtain ⟨_, _, _, _, _, _, _, _, _, _, _, _, _, _, _, C⟩ := q; exact C.at 10 rfl) ?_ ?_
        · rintro j y σ H7' H7 hj ⟨bn, o7, fs, Xs, G, v6, v8, v9, rfl, bx7, al7, ho7, hf7, lf7, hl7, C7⟩ ⟨rfl, hy⟩
          obtain ⟨dl, ns, rfl, hm, hinc⟩ := hl7 y (List.mem_of_getElem? hy)
          have hj16 : j < 16 := by omega
          refine ⟨b, d, s, dl, bn, p, wd, n + 4 + 1000 * i + 450 + 30 * j, 14 * i + 10, x3, o7, ns, rfl, led_dl (X := ⟨d, s, x3⟩) (F := [(fnd, .lst fs), (oth, .lst os), (l, .lst xs)]) C7.led (List.mem_append_right _ hm), bx7, by omega, al7 _ List.mem_cons_self, by omega, hinc, fun r d' s' y' o8 H8 bx8 ok8 D8 => ?_⟩
          have C8a : Chg [b] H H8 (((b, o8) :: (r, .lst [.ref d', .ref s']) :: ceq c d' s' p wd y' ++ (ct c p wd ⟨d, s, x3⟩ ++ [(fnd, .lst fs), (oth, .lst os), (l, .lst xs)])) ++ (pool c p wd Xs ++ G)) := C7.callT [0] D8
          have C8 : Chg [b] H H8 (((b, o8) :: ct c p wd ⟨d, s, x3⟩ ++ [(fnd, .lst fs), (oth, .lst os), (l, .lst xs)]) ++ (pool c p wd (⟨d', s', y'⟩ :: Xs) ++ ((r, .lst [.ref d', .ref s']) :: G))) :=
            grow (L := (b, o8) :: ct c p wd ⟨d, s, x3⟩ ++ [(fnd, .lst fs), (oth, .lst os), (l, .lst xs)]) (Y := ⟨d', s', y'⟩) (C8a.pickT [0, 9, 10, 11, 12, 13, 14, 15, 16, 17, 18, 2, 3, 4, 5, 6, 7, 8, 1])
          have hr8 := D8.at 1 rfl
          refine ⟨leS rfl, fun e he => ⟨r, e, [.ref d', .ref s'], [], rfl, rfl, .of (by rw [upd_ne (ne_of_none hr8 he)]; exact hr8), .of upd_same, rfl, _, rfl, itN rfl ?_⟩⟩
          have C9 : Chg [b] H _ (((e, .lst []) :: (b, o8) :: ct c p wd ⟨d, s, x3⟩ ++ [(fnd, .lst fs), (oth, .lst os), (l, .lst xs)]) ++ (pool c p wd (⟨d', s', y'⟩ :: Xs) ++ ((r, .lst [.ref d', .ref s']) :: G))) := C8.add (o := .lst []) he
          refine ⟨⟨_, C9.at 9 rfl⟩, _, C9.at 9 rfl, by rw [lf7, sizeLine_eq]; omega, ?_⟩
          have C10 := C9.set 9 (o' := .lst (fs ++ [.ref r])) rfl
          have C10 : Chg [b] H _ (((e, .lst []) :: (b, o8) :: ct c p wd ⟨d, s, x3⟩ ++ [(fnd, .lst (fs ++ [.ref r])), (oth, .lst os), (l, .lst xs)]) ++ (pool c p wd (⟨d', s', y'⟩ :: Xs) ++ ((r, .lst [.ref d', .ref s']) :: G))) := C10
          have al10 := ((Al.cons (X := ⟨d', s', y'⟩) (ok8.up (fun _ _ _ z => z) (m := 14 * i + 10)) (al7.tl.up D8.fix (m := 14 * i + 10))).up (fx_add (o := .lst []) he) (m := 14 * i + 10)).up (fx_set (o' := .lst (fs ++ [.ref r])) (C9.at 9 rfl)) (m := 14 * i + 10)
          have ok10 := (((al7 _ List.mem_cons_self).up D8.fix (m := 14 * i + 10)).up (fx_add (o := .lst []) he) (m := 14 * i + 10)).up (fx_set (o' := .lst (fs ++ [.ref r])) (C9.at 9 rfl)) (m := 14 * i + 10)
          have wid : ∀ {zs : List V}, Hnd zs ((d, s) :: Xs.map ky) G → Hnd zs ((d, s) :: List.map ky (⟨d', s', y'⟩ :: Xs)) ((r, .lst [.ref d', .ref s']) :: G) := fun {zs} z => z.le (fun e he => (List.mem_cons.mp he).elim (fun q => q ▸ List.mem_cons_self) fun q => List.mem_cons_of_mem _ (List.mem_cons_of_mem _ q)) fun q hq => List.mem_cons_of_mem _ hq
          have C11 : Chg [b] H _ (((b, o8) :: ct c p wd ⟨d, s, x3⟩ ++ [(fnd, .lst (fs ++ [.ref r])), (oth, .lst os), (l, .lst xs)]) ++ (pool c p wd (⟨d', s', y'⟩ :: Xs) ++ ((r, .lst [.ref d', .ref s']) :: G))) := C10.pickT [1, 2, 3, 4, 5, 6, 7, 8, 9, 10, 11]
          exact ⟨bn, rfl, !bn, o8, fs ++ [.ref r], ⟨d', s', y'⟩ :: Xs, (r, .lst [.ref d', .ref s']) :: G, _, _, _, rfl, bx8.le (by omega), .cons ok10 al10, wid ho7, (wid hf7).app (.one (e := (d', s')) (List.mem_cons_of_mem _ List.mem_cons_self) List.mem_cons_self), by rw [List.length_append, lf7]; rfl, hl7.le (Nat.le_refl _) (fun q hq => List.mem_cons_of_mem _ hq), C11⟩
        · rintro σ H7 ⟨bn, o7, fs, Xs, G, v6, v8, v9, rfl, bx7, al7, ho7, hf7, lf7, hl7, C7⟩
          have bx7 : Bx (n + 4 + 1000 * i + 930) o7 := bx7.le (by omega)
          refine ⟨d, s, p, wd, 14 * i + 10, 1, x3, rfl, (C7.pick [1, 2, 3, 4, 5, 6, 7]).led, al7 _ List.mem_cons_self, fun H8 ok8 D8 => ⟨true, rfl, ?_⟩⟩
          have C8a := C7.callT [1, 2, 3, 4, 5, 6, 7] D8
          generalize ({ x3 with lf := some 1 } : Pq) = x8 at ok8 C8a
          have C8 : Chg [b] H H8 (((b, o7) :: ct c p wd ⟨d, s, x8⟩ ++ [(fnd, .lst fs), (oth, .lst os)]) ++ (pool c p wd Xs ++ G)) := C8a.pickT [7, 0, 1, 2, 3, 4, 5, 6, 8, 9]
          have al8 := al7.tl.up D8.fix (m := 14 * i + 10)
          refine ⟨leS rfl, fun e he => ?_⟩
          have C9 : Chg [b] H _ (((e, .lst []) :: (b, o7) :: ct c p wd ⟨d, s, x8⟩ ++ [(fnd, .lst fs), (oth, .lst os)]) ++ (pool c p wd Xs ++ G)) := C8.add (o := .lst []) he
          have ok9 := ok8.up (fx_add (o := .lst []) he) (m := 14 * i + 10)
          have al9 := al8.up (fx_add (o := .lst []) he) (m := 14 * i + 10)
          refine ⟨b, d, s, e, bn, p, wd, n + 4 + 1000 * i + 930, 14 * i + 10, x8, o7, [], rfl, (C9.pick [1, 2, 3, 4, 5, 6, 7, 8, 0]).led, bx7, by omega, ok9, by omega, ⟨fun _ z => (nomatch z), .nil⟩, fun r d' s' y' o10 H10 bx10 _ D10 => ⟨leS rfl, fun e2 he2 => ⟨r, e2, [.ref d', .ref s'], [], rfl, rfl, .of (by rw [upd_ne (ne_of_none (D10.at 1 rfl) he2)]; exact D10.at 1 rfl), .of upd_same, rfl, _, rfl, itN rfl ?_⟩⟩⟩
          have C10 : Chg [b] H H10 (((b, o10) :: ct c p wd ⟨d, s, x8⟩ ++ [(fnd, .lst fs), (oth, .lst os)]) ++ (pool c p wd Xs ++ G)) := (C9.callT [1] D10).pickT [0, 10, 11, 12, 13, 14, 15, 16, 17, 18]
          have C11 := C10.skip (o := .lst []) he2
          have ok11 := (ok9.up D10.fix (m := 14 * i + 10)).up (fx_add (o := .lst []) he2) (m := 14 * i + 10)
          have al11 := (al9.up D10.fix (m := 14 * i + 10)).up (fx_add (o := .lst []) he2) (m := 14 * i + 10)
          refine ⟨d, s, p, wd, 14 * i + 10, 0, "last", x8, rfl, (C11.pick [1, 2, 3, 4, 5, 6, 7]).led, ok11, by omega, by omega, prn_last, by rw [len_last]; omega, fun x12 H12 ok12 _ D12 => ⟨true, rfl, ?_⟩⟩
          have C12 : Chg [b] H H12 (((b, o10) :: ct c p wd ⟨d, s, x12⟩ ++ [(fnd, .lst fs), (oth, .lst os)]) ++ (pool c p wd Xs ++ G)) := (C11.callT [1, 2, 3, 4, 5, 6, 7] D12).pickT [7, 0, 1, 2, 3, 4, 5, 6, 8, 9]
          have al12 := al11.up D12.fix (m := 14 * i + 10)
          refine ⟨d, s, p, wd, 14 * i + 10 + 1, 1, "not done", x12, rfl, (C12.pick [1, 2, 3, 4, 5, 6, 7]).led, ok12, by omega, by omega, prn_nd, by rw [len_nd]; omega, fun x13 H13 ok13 _ D13 => ⟨true, rfl, ?_⟩⟩
          have C13 : Chg [b] H H13 (((b, o10) :: ct c p wd ⟨d, s, x13⟩ ++ [(fnd, .lst fs), (oth, .lst os)]) ++ (pool c p wd Xs ++ G)) := (C12.callT [1, 2, 3, 4, 5, 6, 7] D13).pickT [7, 0, 1, 2, 3, 4, 5, 6, 8, 9]
          have al13 := al12.up D13.fix (m := 14 * i + 10)
          have hS13 : (x13.S.map V.ref).length = x13.W.length := by rw [List.length_map, ok13.hS.length]
          have hW13 := ok13.hn
          refine ⟨_, C13.at 5 rfl, _, atI_of 3 rfl rfl, _, (show H13 x13.kp = some (.lst (x13.S.map V.ref)) from C13.at 7 rfl), _, rfl, ⟨by omega, by omega, by omega, by omega, by omega⟩, fun e3 he3 => ?_⟩
          rw [hS13, rgV_map]
          have C14 : Chg [b] H _ (((e3, .lst (((List.range x13.W.length).map fun i : Nat => (i : Int)).map V.int)) :: (b, o10) :: ct c p wd ⟨d, s, x13⟩ ++ [(fnd, .lst fs), (oth, .lst os)]) ++ (pool c p wd Xs ++ G)) := C13.add (o := .lst (((List.range x13.W.length).map fun i : Nat => (i : Int)).map V.int)) he3
          have ok14 := ok13.up (fx_add (o := .lst (((List.range x13.W.length).map fun i : Nat => (i : Int)).map V.int)) he3) (m := 14 * i + 12)
          have al14 := al13.up (fx_add (o := .lst (((List.range x13.W.length).map fun i : Nat => (i : Int)).map V.int)) he3) (m := 14 * i + 12)
          refine ⟨b, d, s, e3, bn, p, wd, n + 4 + 1000 * i + 960, 14 * i + 12, x13, o10, _, rfl, (C14.pick [1, 2, 3, 4, 5, 6, 7, 8, 0]).led, bx10.le (by omega), by omega, ok14, by omega, inc_range _, fun r d' s' y' o15 H15 bx15 _ D15 => ⟨leS rfl, fun e4 he4 => ⟨r, e4, [.ref d', .ref s'], [], rfl, rfl, .of (by rw [upd_ne (ne_of_none (D15.at 1 rfl) he4)]; exact D15.at 1 rfl), .of upd_same, rfl, _, rfl, itN rfl ?_⟩⟩⟩
          have C15 : Chg [b] H H15 (((b, o15) :: ct c p wd ⟨d, s, x13⟩ ++ [(fnd, .lst fs), (oth, .lst os)]) ++ (pool c p wd Xs ++ G)) := (C14.callT [1] D15).pickT [0, 10, 11, 12, 13, 14, 15, 16, 17, 18]
          have C16 := C15.skip (o := .lst []) he4
          have ok16 := (ok14.up D15.fix (m := 14 * i + 12)).up (fx_add (o := .lst []) he4) (m := 14 * i + 12)
          have al16 := (al14.up D15.fix (m := 14 * i + 12)).up (fx_add (o := .lst []) he4) (m := 14 * i + 12)
          obtain ⟨f0, fr, rfl⟩ : ∃ f0 fr, fs = f0 :: fr := by
            cases fs with
            | nil => exact absurd (List.length_eq_zero_iff.mp lf7.symm) hx
            | cons f0 fr => exact ⟨f0, fr, rfl⟩
          refine ⟨-4, rfl, _, C16.at 9 rfl, fun q1 hq1 => ?_⟩
          have C17 : Chg [b] H _ (((q1, .lst (cutV os (some (-4)) none)) :: (b, o15) :: ct c p wd ⟨d, s, x13⟩ ++ [(fnd, .lst (f0 :: fr)), (oth, .lst os)]) ++ (pool c p wd Xs ++ G)) := C16.add (o := .lst (cutV os (some (-4)) none)) hq1
          refine ⟨leS rfl, fun h1 hh1 => ?_⟩
          have C18 := C17.add (o := .lst [.ref d, .ref s]) hh1
          refine ⟨_, C18.at 10 rfl, _, atI_of 0 rfl rfl, leS rfl, fun q2 hq2 => ?_⟩
          have C19 := C18.add (o := .lst [.ref h1, f0]) hq2
          have hcut : (cutV os (some (-4)) none).length ≤ 2 * i := Nat.le_trans (cutV_length _ _ _) lo
          have hfl : (f0 :: fr).length ≤ 16 := by rw [lf7]; exact lx
          refine ⟨_, _, C19.at 2 rfl, C19.at 0 rfl, by rw [sizeLine_eq]; show (cutV os (some (-4)) none).length + 2 ≤ _; omega, fun q3 hq3 => ?_⟩
          have C20 := C19.add (o := .lst (cutV os (some (-4)) none ++ [.ref h1, f0])) hq3
          have C20 : Chg [b] H _ (((q3, .lst (cutV os (some (-4)) none ++ [.ref h1, f0])) :: (q2, .lst [.ref h1, f0]) :: (h1, .lst [.ref d, .ref s]) :: (q1, .lst (cutV os (some (-4)) none)) :: (b, o15) :: ct c p wd ⟨d, s, x13⟩ ++ [(fnd, .lst (f0 :: fr)), (oth, .lst os)]) ++ (pool c p wd Xs ++ G)) := C20
          have C21 : Chg [b] H _ (((b, o15) :: ct c p wd ⟨d, s, x13⟩ ++ [(fnd, .lst (f0 :: fr)), (q3, .lst (cutV os (some (-4)) none ++ [.ref h1, f0]))]) ++ (pool c p wd Xs ++ ((h1, .lst [.ref d, .ref s]) :: G))) :=
            Chg.perm (L := ((b, o15) :: ct c p wd ⟨d, s, x13⟩ ++ [(fnd, .lst (f0 :: fr)), (q3, .lst (cutV os (some (-4)) none ++ [.ref h1, f0])), (h1, .lst [.ref d, .ref s])]) ++ (pool c p wd Xs ++ G)) (C20.pickT [4, 5, 6, 7, 8, 9, 10, 11, 12, 0, 2]) (perm_hd ((b, o15) :: ct c p wd ⟨d, s, x13⟩ ++ [(fnd, .lst (f0 :: fr)), (q3, .lst (cutV os (some (-4)) none ++ [.ref h1, f0]))]) (pool c p wd Xs) G (h1, .lst [.ref d, .ref s]))
          have ok21 := (((ok16.up (fx_add (o := .lst (cutV os (some (-4)) none)) hq1) (m := 14 * i + 12)).up (fx_add (o := .lst [.ref d, .ref s]) hh1) (m := 14 * i + 12)).up (fx_add (o := .lst [.ref h1, f0]) hq2) (m := 14 * i + 12)).up (fx_add (o := .lst (cutV os (some (-4)) none ++ [.ref h1, f0])) hq3) (m := 14 * i + 12)
          have al21 := (((al16.up (fx_add (o := .lst (cutV os (some (-4)) none)) hq1) (m := 14 * i + 12)).up (fx_add (o := .lst [.ref d, .ref s]) hh1) (m := 14 * i + 12)).up (fx_add (o := .lst [.ref h1, f0]) hq2) (m := 14 * i + 12)).up (fx_add (o := .lst (cutV os (some (-4)) none ++ [.ref h1, f0])) hq3) (m := 14 * i + 12)
          have wid : ∀ {zs : List V}, Hnd zs ((d, s) :: Xs.map ky) G → Hnd zs ((d, s) :: Xs.map ky) ((h1, .lst [.ref d, .ref s]) :: G) := fun {zs} z => z.le (fun _ e => e) fun q hq => List.mem_cons_of_mem _ hq
          have hf21 := wid hf7
          have ho21 : Hnd (cutV os (some (-4)) none ++ [.ref h1, f0]) ((d, s) :: Xs.map ky) ((h1, .lst [.ref d, .ref s]) :: G) := ((wid ho7).cut _ _).app fun y hy => by
            rcases List.mem_cons.mp hy with rfl | hy
            · exact ⟨h1, (d, s), rfl, List.mem_cons_self, List.mem_cons_self⟩
            · exact hf21 y (by rw [List.mem_singleton] at hy; rw [hy]; exact List.mem_cons_self)
          refine ⟨_, C21.at 8 rfl, b, o15, n + 4 + 1000 * i + 990, _, rfl, C21.at 0 rfl, bx15, by omega, by show (0 : Int) < ((f0 :: fr).length : Int); rw [List.length_cons]; omega, by omega, fun v o22 H22 v0 v1 bx22 D22 => ?_⟩
          have C22 : Chg [b] H H22 (((b, o22) :: ct c p wd ⟨d, s, x13⟩ ++ [(fnd, .lst (f0 :: fr)), (q3, .lst (cutV os (some (-4)) none ++ [.ref h1, f0]))]) ++ (pool c p wd Xs ++ ((h1, .lst [.ref d, .ref s]) :: G))) := C21.callT [0] D22
          have ok22 := ok21.up D22.fix (m := 14 * i + 12)
          have al22 : Al H22 p wd (14 * i + 12) (⟨d, s, x13⟩ :: Xs) := .cons ok22 (al21.up D22.fix)
          obtain ⟨v, rfl⟩ : ∃ j : Nat, v = j := ⟨v.toNat, by omega⟩
          have hv : v < (f0 :: fr).length := by omega
          have kys : ∀ e ∈ (d, s) :: Xs.map ky, ∃ Z ∈ (⟨d, s, x13⟩ : Pt) :: Xs, ky Z = e := fun e he => by
            rcases List.mem_cons.mp he with rfl | he
            · exact ⟨_, List.mem_cons_self, rfl⟩
            · obtain ⟨Z, hZ, rfl⟩ := List.mem_map.mp he
              exact ⟨Z, List.mem_cons_of_mem _ hZ, rfl⟩
          obtain ⟨q, e, ev, he, hq⟩ := hf21 (f0 :: fr)[v] (List.getElem_mem hv)
          obtain ⟨Z0, hZ0, rfl⟩ := kys e he
          have hq22 : H22 q = some (.lst [.ref Z0.d, .ref Z0.s]) := C22.led.hp _ (List.mem_append_right _ (List.mem_append_right _ hq))
          refine ⟨_, C22.at 8 rfl, .ref q, atI_nat (by rw [List.getElem?_eq_getElem hv, ev]), q, _, rfl, .of hq22, rfl, _, _, rfl, _, _, rfl, rfl, ?_⟩
          have hl2 : (cutV os (some (-4)) none ++ [V.ref h1, f0]).length ≤ 2 * i + 2 := by rw [List.length_append]; show (cutV os (some (-4)) none).length + 2 ≤ _; omega
          refine ⟨_, _, C22.at 8 rfl, C22.at 9 rfl, by rw [sizeLine_eq]; omega, fun q4 hq4 => ?_⟩
          have hq5 : upd H22 q4 (.lst ((f0 :: fr) ++ (cutV os (some (-4)) none ++ [.ref h1, f0]))) q4 = some (.lst ((f0 :: fr) ++ (cutV os (some (-4)) none ++ [.ref h1, f0]))) := upd_same
          have C23 := C22.skip (o := .lst ((f0 :: fr) ++ (cutV os (some (-4)) none ++ [.ref h1, f0]))) hq4
          have al23 := al22.up (fx_add (o := .lst ((f0 :: fr) ++ (cutV os (some (-4)) none ++ [.ref h1, f0]))) hq4) (m := 14 * i + 12)
          generalize upd H22 q4 (.lst ((f0 :: fr) ++ (cutV os (some (-4)) none ++ [.ref h1, f0]))) = H23 at C23 hq5 al23 ⊢
          have hAll := hf21.app ho21
          have hal : ((f0 :: fr) ++ (cutV os (some (-4)) none ++ [V.ref h1, f0])).length ≤ 40 := by rw [List.length_append]; omega
          generalize (f0 :: fr) ++ (cutV os (some (-4)) none ++ [V.ref h1, f0]) = ws at hq5 hAll hal
          refine ⟨_, _, hq5, rfl, fun J wk3 Da hDa => ?_⟩
          have E0 : Chg (List.map (fun x => x.fst) ([] : Cells)) H23 H23 [] := .of .nil
          refine lc_fn wk3 (fun _ => V.bl true) hDa E0 (by rw [sizeLine_eq]; omega) (fun acc H24 C => keepAll' C _ _ hq5) ?_ ?_
          · rintro j y H24' H24 acc Qk hj C24 ⟨rfl, hy⟩ q'
            obtain ⟨r, e, rfl, he, hre⟩ := hAll y (List.mem_of_getElem? hy)
            obtain ⟨Zp, hZ, rfl⟩ := kys e he
            have hre' : H24 r = some (.lst [.ref Zp.d, .ref Zp.s]) := keepAll' C24 _ _ (C23.led.hp _ (List.mem_append_right _ (List.mem_append_right _ hre)))
            refine ⟨rfl, _, hre', _, atI_of 0 rfl rfl, _, hre', _, atI_of 1 rfl rfl, Zp.d, Zp.s, p, wd, 14 * i + 12, Zp.x, rfl, C24.led2 (led_at C23.led hZ) (fun q _ z => nomatch z), (al23 Zp hZ).up C24.fix, by omega, fun H25 D25 => q' H25 (C24.and D25)⟩
          · intro H24 C24
            refine ⟨(List.range ws.length).map fun _ => true, by rw [List.map_map]; exact C24.at 0 rfl, ?_⟩
            refine ⟨true, by congr 1; simp, itN rfl ?_⟩
            obtain ⟨Xs2, hiff, C25⟩ := sw hZ0 C23
            have C26 := C25.and (show Chg [] H23 H24 _ from C24)
            have C26 : Chg [b] H H24 (((Da, .lst ((List.range ws.length).map fun _ => V.bl true)) :: (b, o22) :: ct c p wd Z0 ++ [(fnd, .lst (f0 :: fr)), (q3, .lst (cutV os (some (-4)) none ++ [.ref h1, f0]))]) ++ (pool c p wd Xs2 ++ ((h1, .lst [.ref d, .ref s]) :: G))) := C26
            have al26 := al23.up C24.fix (m := 14 * (i + 1))
            have C27 : Chg [b] H H24 (((b, o22) :: ct c p wd Z0 ++ [(q3, .lst (cutV os (some (-4)) none ++ [.ref h1, f0]))]) ++ (pool c p wd Xs2 ++ ((h1, .lst [.ref d, .ref s]) :: G))) := C26.pickT [1, 2, 3, 4, 5, 6, 7, 8, 10]
            refine ⟨bn, o22, Z0, Xs2, _, q3, _, _, _, _, _, rfl, bx22.le (by omega), fun Z hZ => al26 Z ((hiff Z).mp hZ), ho21.le (fun e he => ?_) (fun _ e => e), by rw [Nat.mul_add]; exact hl2, C27⟩
            obtain ⟨Z, hZ, rfl⟩ := kys e he
            rcases List.mem_cons.mp ((hiff Z).mpr hZ) with e | e
            · rw [e]; exact List.mem_cons_self
            · exact List.mem_cons_of_mem _ (List.mem_map.mpr ⟨Z, e, rfl⟩)
    · rintro σ H2 ⟨bn, o2, ⟨d, s, x⟩, Xs, os, oth, G, v6, v7, v8, v9, rfl, bx2, al, ho, lo, C2⟩
      have hmx : ((2 : Int) + u).toNat ≤ 4 := by omega
      generalize ((2 : Int) + u).toNat = mx at bx2 al lo hmx
      dsimp only at ho
      refine ⟨d, s, p, wd, 14 * mx, x, rfl, (C2.pick [1, 2, 3, 4, 5, 6, 7]).led, al _ List.mem_cons_self, by omega, fun x3 H3 ok3 _ D3 => ⟨true, rfl, ?_⟩⟩
      have C3 : Chg [b] H H3 (((b, o2) :: ct c p wd ⟨d, s, x3⟩ ++ [(oth, .lst os)]) ++ (pool c p wd Xs ++ G)) := (C2.callT [1, 2, 3, 4, 5, 6, 7] D3).pickT [7, 0, 1, 2, 3, 4, 5, 6, 8]
      have al3 := al.tl.up D3.fix (m := 14 * mx)
      refine ⟨leS rfl, fun e he => ?_⟩
      have C4 : Chg [b] H _ (((e, .lst []) :: (b, o2) :: ct c p wd ⟨d, s, x3⟩ ++ [(oth, .lst os)]) ++ (pool c p wd Xs ++ G)) := C3.add (o := .lst []) he
      have ok4 := ok3.up (fx_add (o := .lst []) he) (m := 14 * mx)
      have al4 := al3.up (fx_add (o := .lst []) he) (m := 14 * mx)
      refine ⟨b, d, s, e, bn, p, wd, n + 4 + 1000 * mx, 14 * mx, x3, o2, [], rfl, (C4.pick [1, 2, 3, 4, 5, 6, 7, 8, 0]).led, bx2, by omega, ok4, by omega, ⟨fun _ z => (nomatch z), .nil⟩, fun r d' s' y' o5 H5 bx5 _ D5 => ⟨leS rfl, fun e2 he2 => ⟨r, e2, [.ref d', .ref s'], [], rfl, rfl, .of (by rw [upd_ne (ne_of_none (D5.at 1 rfl) he2)]; exact D5.at 1 rfl), .of upd_same, rfl, _, rfl, itN rfl ?_⟩⟩⟩
      have C5 : Chg [b] H H5 (((b, o5) :: ct c p wd ⟨d, s, x3⟩ ++ [(oth, .lst os)]) ++ (pool c p wd Xs ++ G)) := (C4.callT [1] D5).pickT [0, 10, 11, 12, 13, 14, 15, 16, 17]
      have C6 := C5.skip (o := .lst []) he2
      have al6 : Al (upd H5 e2 (.lst [])) p wd (14 * mx) (⟨d, s, x3⟩ :: Xs) := .cons ((ok4.up D5.fix (m := 14 * mx)).up (fx_add (o := .lst []) he2) (m := 14 * mx)) ((al4.up D5.fix (m := 14 * mx)).up (fx_add (o := .lst []) he2) (m := 14 * mx))
      have kys : ∀ e ∈ (d, s) :: Xs.map ky, ∃ Z ∈ (⟨d, s, x3⟩ : Pt) :: Xs, ky Z = e := fun e he => by
        rcases List.mem_cons.mp he with rfl | he
        · exact ⟨_, List.mem_cons_self, rfl⟩
        · obtain ⟨Z, hZ, rfl⟩ := List.mem_map.mp he
          exact ⟨Z, List.mem_cons_of_mem _ hZ, rfl⟩
      generalize upd H5 e2 (.lst []) = H6 at C6 al6 ⊢
      have ho6 := C6.at 8 rfl
      refine ⟨_, _, ho6, rfl, fun J wk3 Da hDa => ?_⟩
      have E0 : Chg (List.map (fun x => x.fst) ([] : Cells)) H6 H6 [] := .of .nil
      refine lc_fn wk3 (fun _ => V.bl true) hDa E0 (by rw [sizeLine_eq]; omega) (fun acc H24 C => keepAll' C _ _ ho6) ?_ ?_
      · rintro j y H24' H24 acc Qk hj C24 ⟨rfl, hy⟩ q'
        obtain ⟨r, e, rfl, he, hre⟩ := ho y (List.mem_of_getElem? hy)
        obtain ⟨Zp, hZ, rfl⟩ := kys e he
        have hre' : H24 r = some (.lst [.ref Zp.d, .ref Zp.s]) := keepAll' C24 _ _ (C6.led.hp _ (List.mem_append_right _ (List.mem_append_right _ hre)))
        refine ⟨rfl, _, hre', _, atI_of 0 rfl rfl, _, hre', _, atI_of 1 rfl rfl, Zp.d, Zp.s, p, wd, 14 * mx, Zp.x, rfl, C24.led2 (led_at C6.led hZ) (fun q _ z => nomatch z), (al6 Zp hZ).up C24.fix, by omega, fun H25 D25 => q' H25 (C24.and D25)⟩
      · intro H24 C24
        refine ⟨(List.range os.length).map fun _ => true, by rw [List.map_map]; exact C24.at 0 rfl, ?_⟩
        rw [show ((List.range os.length).map fun _ => true).all id = true by simp]
        exact h H24 ((C6.and (show Chg [] H6 H24 _ from C24)).sub (List.nil_sublist _))
end
end Ks

/-! KsQi: many writes. -/
namespace Ks
open PySem PySem.Spec PyProof.Rows L2 PySem.W
theorem prn_turn : ((List.range 450).all fun i => ((toString ((0 : Int) + (i : Int)) : Str).cps.toList.all okc && Nat.ble (toString ((0 : Int) + (i : Int)) : Str).length 300)) = true := by decide +kernel
theorem prn_til : ((Txt.mul "~" 400).cps.toList.all okc && Nat.ble (Txt.mul "~" 400).length 400) = true := by decide +kernel
theorem prn_a : Prn "a" := prn_all.mp (by decide +kernel)
theorem turn_ok {i : Nat} (h : i < 450) : Prn (toString ((0 : Int) + (i : Int)) : Str) ∧ (toString ((0 : Int) + (i : Int)) : Str).length ≤ 300 := by
  have := List.all_eq_true.mp prn_turn i (List.mem_range.mpr h)
  rw [Bool.and_eq_true] at this
  exact ⟨prn_all.mp this.1, Nat.le_of_ble_eq_true this.2⟩
def cnt (i : Nat) : Nat := if i < 50 then i else i - 50
section
variable {P : Program} {w : World} {K : PySem.W.Frag} {mg : Str → Option Value} {base : Heap} {a : Nat → Addr × FuncData} {c : Nat → Addr}
def sp_great : Sp := fun vs H Q _ => ∃ (b : Addr) (n : Nat) (o : HO), vs = [.ref b] ∧ H b = some o ∧ Bx n o ∧ n ≤ 1000 ∧ ∀ H', Chg [b] H H' [] → Q (.bl true) H'
theorem ok_law_great_right (Z : Wd K mg a c) : FnG false P w K mg base 8 (a 67).1 (a 67).2 ["box"] sp_great := by
  refine fun_okG Z.g_law_great_right.fn sc_law_great_right (fun vs H Q E h => ?_) (fun cdv A outer s H vs Q E hr h => ?_)
  · obtain ⟨b, n, o, rfl, _⟩ := h; rfl
  · obtain ⟨b, n, o, rfl, hb, bx, hn, h⟩ := h
    refine ⟨_, (pss_cons (ps_par (i := 1) (j := 2) (by rfl) sc_law_great_right.nd rfl rfl (by decide) rfl rfl (pa_cons (q_make Z.kd (by rfl) (ok_Disk_init Z) (hr.mono (by decide)) takes0 (pa_cons pe_int (pa_cons pe_int pa_nil))) (pa_cons (q_call Z.g_law_new (ok_law_new Z) (hr.mono (by decide)) takes0 (pa_cons pe_int (pa_cons pe_int pa_nil))) pa_nil)) rfl)
      (pss_cons (ps_for (passes_of rfl) (by rfl) (pi_range1 (by rfl) Z.n_range (pa_cons pe_int pa_nil)) (pg_name (i := 3) sc_law_great_right.nd rfl (Or.inl rfl))
      (pss_cons (ps_set (i := 4) sc_law_great_right.nd rfl (Or.inl rfl) (pe_ix ix_d (pe_lst (pa_cons pe_str (pa_cons (pe_op o_mul pe_str pe_int) (pa_cons (pe_callTy c_str (by rfl) Z.n_str bt_str (pa_cons (qv 3) pa_nil)) (pa_cons (pe_op o_add pe_str (pe_callTy c_str (by rfl) Z.n_str bt_str (pa_cons (qv 3) pa_nil))) pa_nil))))) (q_call Z.g_law_take (ok_law_take Z) (hr.mono (by decide)) takes0 (pa_cons (qv 0) (pa_cons pe_int pa_nil))) (fun _ _ => rfl)))
      (pss_one (ps_if (PW.pt (pw_or (pt_not (pt_val (q_call Z.g_law_wrote (ok_law_wrote Z) (hr.mono (by decide)) takes0 (pa_cons (qv 1) (pa_cons (qv 2) (pa_cons (q_call Z.g_law_take (ok_law_take Z) (hr.mono (by decide)) takes0 (pa_cons (qv 0) (pa_cons pe_int pa_nil))) (pa_cons (qv 4) pa_nil))))))) (pw_or1 (PW.pt (pw_and (pt_cmpR (o_eq hr.u64) (qv 3) pe_int (nomark _)) (pw_and1 (pt_not (pt_val (q_call Z.g_law_settled (ok_law_settled Z) (hr.mono (by decide)) takes0 (pa_cons (qv 1) (pa_cons (qv 2) pa_nil))))))))))) (pss_one (ps_ret pe_bl)) pss_nil))))
      (pss_cons (ps_set (i := 5) sc_law_great_right.nd rfl (Or.inr rfl) (pe_lc (own := [("at", 7)]) (by rfl) sc_law_great_right.nd (pi_range1 (by rfl) Z.n_range (pa_cons pe_int pa_nil)) (blkOk_by (N := ["box", "disk", "state", "turn", "text", "half", "done", "at"]) (sc := defScope s_law_great_right) (by decide +kernel)) (fun _ _ _ _ _ => (pg_name (i := 7) sc_law_great_right.nd rfl (Or.inl rfl))) (fun _ _ _ _ _ => (pts_one (pt_cmpR (o_eqK K rfl hr.u64) (q_call Z.g_law_take (ok_law_take Z) (hr.mono (by decide)) takes0 (pa_cons (qv 0) (pa_cons pe_int pa_nil))) pe_int (nomark _)))) (fun _ _ _ _ _ => (qv 7))))
      (pss_cons (ps_for (passes_of rfl) (by rfl) (pi_seq (pe_lst (pa_cons (qv 5) (pa_cons (pe_listRg (by rfl) (by rfl) Z.n_list (prg_1 (by rfl) Z.n_range pe_int)) (pa_cons (pe_lst (pa_cons pe_int pa_nil)) (pa_cons (pe_lc (own := [("at", 7)]) (by rfl) sc_law_great_right.nd (pi_range1 (by rfl) Z.n_range (pa_cons pe_int pa_nil)) (blkOk_by (N := ["box", "disk", "state", "turn", "text", "half", "done", "at"]) (sc := defScope s_law_great_right) (by decide +kernel)) (fun _ _ _ _ _ => (pg_name (i := 7) sc_law_great_right.nd rfl (Or.inl rfl))) (fun _ _ _ _ _ => (pts_one (pt_cmpR (op_notInK K rfl) (qv 7) (qv 5) (by rfl)))) (fun _ _ _ _ _ => (qv 7))) pa_nil)))))) (pg_name (i := 6) sc_law_great_right.nd rfl (Or.inl rfl))
      (pss_one (ps_if (pt_cmpR (op_eqN hr.u64) (q_call Z.g_law_one_right (ok_law_one_right Z) (hr.mono (by decide)) takes0 (pa_cons (qv 0) (pa_cons (qv 1) (pa_cons (qv 2) (pa_cons (qv 6) (pa_cons (pe_cmpR o_lt (pe_callB c_len (by rfl) Z.n_len bt_len (pa_cons (qv 6) pa_nil)) pe_int (nomark _)) pa_nil)))))) (pe_lst pa_nil) (nomark _)) (pss_one (ps_ret pe_bl)) pss_nil)))
      (pss_one (ps_ret (pe_and (pe_cmpR (o_eq hr.u64) (q_call Z.g_law_cut (ok_law_cut Z) (hr.mono (by decide)) takes0 (pa_cons (qv 1) (pa_cons (pe_op o_add (pe_slice sl_d (qv 5) po_none (po_some pe_int)) (pe_lst (pa_cons pe_int pa_nil))) (pa_cons pe_bl pa_nil)))) (pe_lst (pa_cons pe_str (pa_cons pe_bl pa_nil))) (nomark _)) (pe_one (q_call Z.g_law_state_right_too (ok_law_state_right_too Z) (hr.mono (by decide)) takes0 (pa_cons (qv 1) (pa_cons (qv 2) pa_nil))))))))))), ?_⟩
    have C0 : Chg [b] H H [(b, o)] := .of (.one hb)
    refine fun d dx nx ndx ne => ?_
    have C5 := (C0.skip (o := .own d) ndx).add (p := d) (o := .ins (c 8) dx []) (by rw [upd_ne ne.symm]; exact nx)
    refine ⟨d, dx, .int 40, .int 400, _, _, rfl, upd_same, .int 40, .int 400, fun z => by (cases z), fun _ z => by (cases z), fun p' w' ep ew _ _ _ _ la te wr H9 D9 => ⟨rfl, ?_⟩⟩
    cases ep
    cases ew
    have C9 := Chg.callL (M := [(d, .ins (c 8) dx [])]) C5 D9
    refine ⟨40, 400, rfl, by decide, by decide, fun s tx kp H10 D10 => ⟨_, _, rfl, ?_⟩⟩
    have C10 := C9.and D10
    rw [emp_eq] at C10
    have C11 : Chg [b] H H10 ((b, o) :: ct c 40 400 ⟨d, s, dx, la, te, wr, tx, kp, none, emp 40, [], [], []⟩) := (C10.pick [7, 6, 5, 4, 3, 0, 1, 2]).to (by rfl)
    have ok0 : Oq H10 40 400 0 ⟨dx, la, te, wr, tx, kp, none, emp 40, [], [], []⟩ := ⟨by decide, by decide, by decide, by decide, by show ((emp 40).length : Int) = 40; decide +kernel, fun z hz => by
      rw [List.eq_of_mem_replicate hz]
      exact ⟨fun c hc => (nomatch hc), Nat.zero_le _⟩, .nil, .nil, fun y hy => (nomatch hy), Nat.zero_le _⟩
    refine ⟨450, rfl, by decide, by decide, ?_⟩
    refine for_it walk_range (fun i σ H' => ∃ o' x v3 v4, σ = [some (.ref b), some (.ref d), some (.ref s), v3, v4, none, none, none] ∧ Bx (n + 2 * i) o' ∧ Oq H' 40 400 i x ∧ x.lf = none ∧ x.W.length = cnt i ∧ Chg [b] H H' ((b, o') :: ct c 40 400 ⟨d, s, x⟩))
      ⟨o, _, none, none, rfl, bx, ok0, rfl, rfl, C11⟩ (fun _ _ _ _ _ => ⟨⟩) ?_ ?_
    · rintro i y σ H2' H2 hi ⟨o2, x, v3, v4, rfl, bx2, ok2, lf2, lw2, C2⟩ ⟨rfl, rfl⟩
      have hi450 : i < 450 := by simpa using hi
      obtain ⟨tp, tl⟩ := turn_ok hi450
      have til := Bool.and_eq_true .. ▸ prn_til
      refine ⟨mulOk_of 1 400 (by decide) (by decide) (by decide) (by decide) (by decide), log_small (by omega), log_small (by omega), ?_⟩
      have la1 : ("a" : Str).length = 1 := by decide +kernel
      refine ⟨by rw [la1, sizeLine_eq]; omega, leS rfl, fun l hl => ?_⟩
      have C3 := C2.add (o := .lst [.str "", .str (Txt.mul "~" 400), .str (toString ((0 : Int) + (i : Int))), .str ("a" ++ toString ((0 : Int) + (i : Int)))]) hl
      refine ⟨b, o2, n + 2 * i, 4, rfl, C3.at 1 rfl, bx2, by omega, by decide, by decide, fun u o4 H4 u0 u1 bx4 D4 => ?_⟩
      have C4 := C3.call [1] D4
      obtain ⟨tx, et, pt, lt⟩ : ∃ tx, atI [V.str "", .str (Txt.mul "~" 400), .str (toString ((0 : Int) + (i : Int))), .str ("a" ++ toString ((0 : Int) + (i : Int)))] u = some (.str tx) ∧ Prn tx ∧ tx.length ≤ 400 := by
        have : u = 0 ∨ u = 1 ∨ u = 2 ∨ u = 3 := by omega
        rcases this with rfl | rfl | rfl | rfl
        · exact ⟨_, rfl, fun c hc => (nomatch hc), Nat.zero_le _⟩
        · exact ⟨_, rfl, prn_all.mp til.1, Nat.le_of_ble_eq_true til.2⟩
        · exact ⟨_, rfl, tp, by omega⟩
        · exact ⟨_, rfl, prn_a.app tp, by rw [len_app, la1]; omega⟩
      refine ⟨_, C4.at 1 rfl, _, et, ?_⟩
      have C5 : Chg [b] H H4 ((b, o4) :: ct c 40 400 ⟨d, s, x⟩) := (C4.pick [0, 2, 3, 4, 5, 6, 7, 8]).to (by rfl)
      refine ⟨b, o4, n + 2 * i + 1, 40, rfl, C5.at 0 rfl, bx4, by omega, by decide, by decide, fun pg o6 H6 g0 g1 bx6 D6 => ?_⟩
      have C6 : Chg [b] H H6 ((b, o6) :: ct c 40 400 ⟨d, s, x⟩) := C5.call [0] D6
      obtain ⟨pg, rfl⟩ : ∃ j : Nat, pg = j := ⟨pg.toNat, by omega⟩
      have ok6 : Oq H6 40 400 i x := ((ok2.up (fx_add hl) (m := i)).up D4.fix (m := i)).up D6.fix (m := i)
      refine ⟨d, s, 40, 400, i, pg, tx, x, rfl, (C6.pick [1, 2, 3, 4, 5, 6, 7]).led, ok6, by omega, g1, pt, by omega, fun x7 H7 ok7 e7 D7 => ⟨true, rfl, ?_⟩⟩
      have C7 : Chg [b] H H7 ((b, o6) :: ct c 40 400 ⟨d, s, x7⟩) := ((C6.call [1, 2, 3, 4, 5, 6, 7] D7).pick [7, 0, 1, 2, 3, 4, 5, 6]).to (by rfl)
      obtain ⟨lf7, lw7⟩ := e7 lf2
      refine ⟨rfl, _, rfl, ?_⟩
      by_cases q : (0 : Int) + (i : Int) = 49
      · refine itP (decide_eq_true (congrArg V.int q)) ?_
        refine ⟨d, s, 40, 400, i + 1, x7, rfl, (C7.pick [1, 2, 3, 4, 5, 6, 7]).led, ok7, by omega, fun x8 H8 ok8 e8 D8 => ⟨true, rfl, ?_⟩⟩
        have C8 : Chg [b] H H8 ((b, o6) :: ct c 40 400 ⟨d, s, x8⟩) := ((C7.call [1, 2, 3, 4, 5, 6, 7] D8).pick [7, 0, 1, 2, 3, 4, 5, 6]).to (by rfl)
        obtain ⟨lf8, lw8⟩ := e8 lf7
        exact ⟨o6, x8, _, _, rfl, bx6.le (by omega), ok8, lf8, by rw [lw8, show i = 49 by omega]; rfl, C8⟩
      · refine itN (decide_eq_false (fun e => q (V.int.inj e))) ?_
        exact ⟨o6, x7, _, _, rfl, bx6.le (by omega), ok7, lf7, by rw [lw7, lw2]; unfold cnt; split <;> split <;> omega, C7⟩
    · rintro σ H2 ⟨o2, x, v3, v4, rfl, bx2, ok2, lf2, lw2, C2⟩
      have e450 : (450 : Int).toNat = 450 := rfl
      rw [e450] at bx2 ok2 lw2
      have lw : x.W.length = 400 := lw2
      have C2 : Chg [b] H H2 ((b, o2) :: ct c 40 400 ⟨d, s, x⟩) := C2
      obtain ⟨A2, hA2⟩ : ∃ A2, A2 = ((b, o2) :: ct c 40 400 ⟨d, s, x⟩).map (·.1) := ⟨_, rfl⟩
      have E2 : Chg A2 H2 H2 ((b, o2) :: ct c 40 400 ⟨d, s, x⟩) := hA2 ▸ .of C2.led
      refine ⟨400, rfl, by decide, by decide, fun D hD => ?_⟩
      refine lc_led walk_range (S := HO × List Int) (A := A2) (H0 := H2) (fun z => (b, z.1) :: ct c 40 400 ⟨d, s, x⟩) (fun j z acc => Bx (n + 900 + j) z.1 ∧ acc = z.2.map V.int ∧ Inc z.2 j) (o2, []) hD E2 ⟨bx2, rfl, fun k hk => (nomatch hk), .nil⟩ (by rw [sizeLine_eq]; decide) (fun j z acc q => by rw [q.2.1, List.length_map]; exact q.2.2.len) (fun _ _ _ _ _ _ => ⟨⟩) ?_ ?_
      · rintro j y2 H3' H3 ⟨oy, ns⟩ acc Qk Nk hj ⟨hby, ea, hinc⟩ C3 ⟨rfl, rfl⟩ j1 j2
        dsimp only at hby ea hinc C3 j1 j2
        have hjm : j < 400 := by simpa using hj
        refine ⟨rfl, b, oy, n + 900 + j, 2, rfl, C3.at 1 rfl, hby, by omega, by decide, by decide, fun v o4 H4 v0 v1 bx4 D4 => ⟨rfl, _, rfl, ?_⟩⟩
        have C4 : Chg A2 H2 H4 ((D, .lst acc) :: (b, o4) :: ct c 40 400 ⟨d, s, x⟩) := ((C3.call [1] D4).pick [1, 0, 2, 3, 4, 5, 6, 7, 8]).to (by rfl)
        by_cases q0 : v = 0
        · refine itP (decide_eq_true (congrArg V.int q0)) ?_
          refine j1 (o4, ns ++ [(j : Int)]) _ H4 ⟨bx4, by rw [ea, List.map_append]; show _ ++ [V.int (0 + (j : Int))] = _ ++ [V.int (j : Int)]; rw [show (0 : Int) + (j : Nat) = (j : Int) by omega], ?_, ?_⟩ C4
          · intro k hk
            rcases List.mem_append.mp hk with q | q
            · have := hinc.1 k q; omega
            · rw [List.mem_singleton] at q; omega
          · refine List.pairwise_append.mpr ⟨hinc.2, by simp, fun x hx y hy => ?_⟩
            rw [List.mem_singleton] at hy
            have := hinc.1 x hx
            omega
        · refine itN (decide_eq_false (fun e => q0 (V.int.inj e))) ?_
          exact j2 (o4, ns) H4 ⟨bx4, ea, fun k hk => by have := hinc.1 k hk; omega, hinc.2⟩ C4
      · rintro H3 ⟨o3, hs⟩ acc ⟨bx3, ea, hinc⟩ C3
        have e400 : (400 : Int).toNat = 400 := rfl
        dsimp only at bx3 ea hinc C3
        rw [e400] at bx3 hinc
        subst ea
        have hsl := hinc.len
        refine ⟨400, rfl, ⟨by decide, by decide, by decide, by decide, by decide⟩, fun l2 n2 => ⟨leS rfl, fun l3 n3 => ?_⟩⟩
        have eR := rgV_map 400
        have eR : rgV 0 400 = _ := eR
        rw [eR] at *
        have C4 := (C3.add (o := .lst (((List.range 400).map fun i : Nat => (i : Int)).map V.int)) n2).add (o := .lst [.int 399]) n3
        refine ⟨400, rfl, by decide, by decide, fun D2 hD2 => ?_⟩
        refine lc_led walk_range (S := List Int) (A := A2) (H0 := H2) (fun _ => (l3, .lst [.int 399]) :: (l2, .lst (((List.range 400).map fun i : Nat => (i : Int)).map V.int)) :: (D, .lst (hs.map V.int)) :: (b, o3) :: ct c 40 400 ⟨d, s, x⟩) (fun j z acc => acc = z.map V.int ∧ Inc z j) [] hD2 C4 ⟨rfl, fun k hk => (nomatch hk), .nil⟩ (by rw [sizeLine_eq]; decide) (fun j z acc q => by rw [q.1, List.length_map]; exact q.2.len) (fun _ _ _ _ _ _ => ⟨⟩) ?_ ?_
        · rintro j y2 H5' H5 ns acc Qk Nk hj ⟨ea, hinc⟩ C5 ⟨rfl, rfl⟩ j1 j2
          have hjm : j < 400 := by simpa using hj
          refine ⟨rfl, D, hs.map V.int, rfl, .inl (.of (C5.at 3 rfl)), rfl, List.all_eq_true.mpr (fun y hy => by obtain ⟨k, _, rfl⟩ := List.mem_map.mp hy; rfl), _, rfl, ?_⟩
          cases hb : inV (V.int (0 + (j : Int))) (hs.map V.int)
          · refine itP rfl ?_
            refine j1 (ns ++ [(j : Int)]) _ H5 ⟨by rw [ea, List.map_append]; show _ ++ [V.int (0 + (j : Int))] = _ ++ [V.int (j : Int)]; rw [show (0 : Int) + (j : Nat) = (j : Int) by omega], ?_, ?_⟩ C5
            · intro k hk
              rcases List.mem_append.mp hk with q | q
              · have := hinc.1 k q; omega
              · rw [List.mem_singleton] at q; omega
            · refine List.pairwise_append.mpr ⟨hinc.2, by simp, fun x hx y hy => ?_⟩
              rw [List.mem_singleton] at hy
              have := hinc.1 x hx
              omega
          · refine itN rfl ?_
            exact j2 ns H5 ⟨ea, fun k hk => by have := hinc.1 k hk; omega, hinc.2⟩ C5
        · rintro H5 ms acc ⟨ea, hinc2⟩ C5
          rw [e400] at hinc2
          subst ea
          refine ⟨leS rfl, fun q hq => ?_⟩
          have C6 := C5.add (o := .lst [.ref D, .ref l2, .ref l3, .ref D2]) hq
          have f7 := C6.fix
          have C6 : Chg [b] H _ _ := Chg.callL (L := []) (C2.to (List.append_nil _).symm) (hA2 ▸ C6)
          have C7 : Chg [b] H _ ((((b, o3) :: ct c 40 400 ⟨d, s, x⟩) ++ [(q, .lst [.ref D, .ref l2, .ref l3, .ref D2])]) ++ [(D, .lst (hs.map V.int)), (l2, .lst (((List.range 400).map fun i : Nat => (i : Int)).map V.int)), (l3, .lst [.int 399]), (D2, .lst (ms.map V.int))]) := (C6.pick [5, 6, 7, 8, 9, 10, 11, 12, 0, 4, 3, 2, 1]).to (by rfl)
          have fin : ∀ H', (∀ a o, imm o = true → H2 a = some o → H' a = some o) → Oq H' 40 400 450 x := fun H' f => ok2.up f
          have ok7 := fin _ f7
          generalize upd H5 q (.lst [.ref D, .ref l2, .ref l3, .ref D2]) = H7 at C7 ok7 ⊢
          have hL : Lsts 400 [.ref D, .ref l2, .ref l3, .ref D2] [(D, .lst (hs.map V.int)), (l2, .lst (((List.range 400).map fun i : Nat => (i : Int)).map V.int)), (l3, .lst [.int 399]), (D2, .lst (ms.map V.int))] := fun y hy => by
            simp only [List.mem_cons, List.not_mem_nil, or_false] at hy
            rcases hy with rfl | rfl | rfl | rfl
            · exact ⟨D, hs, rfl, by simp, hinc⟩
            · exact ⟨l2, _, rfl, by simp, inc_range 400⟩
            · exact ⟨l3, [399], rfl, by simp, fun k hk => by rw [List.mem_singleton] at hk; omega, by simp⟩
            · exact ⟨D2, ms, rfl, by simp, hinc2⟩
          refine ⟨_, _, C7.at 8 rfl, rfl, fun J wk => ?_⟩
          refine for_it wk (fun j σ H' => ∃ o' v3 v4 v6, σ = [some (.ref b), some (.ref d), some (.ref s), v3, v4, some (.ref D), v6, none] ∧ Bx (n + 1300 + 30 * j) o' ∧ Oq H' 40 400 450 x ∧ Chg [b] H H' ((((b, o') :: ct c 40 400 ⟨d, s, x⟩) ++ [(q, .lst [.ref D, .ref l2, .ref l3, .ref D2])]) ++ [(D, .lst (hs.map V.int)), (l2, .lst (((List.range 400).map fun i : Nat => (i : Int)).map V.int)), (l3, .lst [.int 399]), (D2, .lst (ms.map V.int))]))
            ⟨o3, _, _, none, rfl, bx3, ok7, C7⟩ (fun j σ H' _ z => by obtain ⟨_, _, _, _, _, _, _, C⟩ := z; exact C.at 8 rfl) ?_ ?_
          · rintro j y σ H8' H8 hj ⟨o8, v3, v4, v6, rfl, bx8, ok8, C8⟩ ⟨rfl, hy⟩
            have hj4 : j < 4 := hj
            obtain ⟨dl, ns, rfl, hm, hi⟩ := hL y (List.mem_of_getElem? hy)
            have hdl : H8 dl = some (.lst (ns.map V.int)) := C8.led.hp _ (List.mem_append_right _ hm)
            refine ⟨_, hdl, b, d, s, dl, _, 40, 400, n + 1300 + 30 * j, 450, x, o8, ns, rfl, led_dl (X := ⟨d, s, x⟩) (F := [(q, .lst [.ref D, .ref l2, .ref l3, .ref D2])]) C8.led hm, bx8, by omega, ok8, by decide, by rw [lw]; exact hi, fun r d' s' y' o9 H9 bx9 _ D9 => ⟨leS rfl, fun e2 he2 => ⟨r, e2, [.ref d', .ref s'], [], rfl, rfl, .of (by rw [upd_ne (ne_of_none (D9.at 1 rfl) he2)]; exact D9.at 1 rfl), .of upd_same, rfl, _, rfl, itN rfl ?_⟩⟩⟩
            have C9 : Chg [b] H H9 ((((b, o9) :: ct c 40 400 ⟨d, s, x⟩) ++ [(q, .lst [.ref D, .ref l2, .ref l3, .ref D2])]) ++ [(D, .lst (hs.map V.int)), (l2, .lst (((List.range 400).map fun i : Nat => (i : Int)).map V.int)), (l3, .lst [.int 399]), (D2, .lst (ms.map V.int))]) := (C8.callT [0] D9).pickT [0, 9, 10, 11, 12, 13, 14, 15, 16]
            exact ⟨o9, _, _, _, rfl, bx9.le (by omega), (ok8.up D9.fix (m := 450)).up (fx_add he2) (m := 450), C9.skip he2⟩
          · rintro σ H8 ⟨o8, v3, v4, v6, rfl, bx8, ok8, C8⟩
            refine ⟨399, rfl, _, C8.at 9 rfl, fun q1 hq1 => ⟨leS rfl, fun q2 hq2 => ?_⟩⟩
            have C9 := (C8.add (o := .lst (cutV (hs.map V.int) none (some 399))) hq1).add (o := .lst [.int 400]) hq2
            have hcl : (cutV (hs.map V.int) none (some 399)).length ≤ 400 := Nat.le_trans (cutV_length _ _ _) (by rw [List.length_map]; exact hsl)
            have hl3 : (cutV (hs.map V.int) none (some 399) ++ [V.int 400]).length ≤ 401 := by rw [List.length_append]; show _ + 1 ≤ _; omega
            refine ⟨_, _, C9.at 1 rfl, C9.at 0 rfl, by rw [sizeLine_eq]; show _ + 1 ≤ _; omega, fun q3 hq3 => ?_⟩
            have C10 := C9.add (o := .lst (cutV (hs.map V.int) none (some 399) ++ [.int 400])) hq3
            have ok10 := ((ok8.up (fx_add (o := .lst (cutV (hs.map V.int) none (some 399))) hq1) (m := 450)).up (fx_add (o := .lst [.int 400]) hq2) (m := 450)).up (fx_add (o := .lst (cutV (hs.map V.int) none (some 399) ++ [.int 400])) hq3) (m := 450)
            have inz : ∀ y ∈ cutV (hs.map V.int) none (some 399) ++ [V.int 400], ∃ i : Int, y = .int i ∧ i.natAbs < 2 ^ 200 := fun y hy => by
              rcases List.mem_append.mp hy with z | z
              · obtain ⟨k, hk, rfl⟩ := List.mem_map.mp (List.mem_of_mem_drop (List.mem_of_mem_take z))
                have := hinc.1 k hk
                exact ⟨k, rfl, by omega⟩
              · rw [List.mem_singleton] at z
                exact ⟨400, z, by decide⟩
            have h400 : V.int 400 ∈ cutV (hs.map V.int) none (some 399) ++ [V.int 400] := by simp
            generalize cutV (hs.map V.int) none (some 399) ++ [V.int 400] = ys at C10 hl3 ok10 inz h400 ⊢
            have hq10 := C10.at 0 rfl
            refine ⟨d, x.dx, .ref q3, .lst, ys, true, 40, 400, x.la, x.te, x.wr, lfV x.lf, x.L, x.R, x.W, rfl, C10.at 4 rfl, C10.at 5 rfl, C10.at 7 rfl, ok10.hW, .lst hq10 (fun y hy => by obtain ⟨i, rfl, _⟩ := inz y hy; exact ⟨_, .int i⟩) (by omega), ok10.hT, by decide, by decide, by decide, by decide, by omega, fun y hy => (ok10.hw y hy).1,
              fun _ => ⟨_, Bd.lst hq10 (fun y hy => by obtain ⟨i, rfl, hi⟩ := inz y hy; exact smI hi) (by omega), fun r H11 D11 => ⟨leS rfl, fun l hl => ?_⟩⟩, fun ns hk => ?_⟩
            · have C11 := (C10.call [0] D11).add (o := .lst [.str "done", .bl true]) hl
              refine ⟨_, _, rs_dp (C11.at 1 rfl), rs_dp (C11.at 0 rfl), ev_done.1, ev_done.1, ?_⟩
              rw [ev_done.2]
              have ok11 := (ok10.up D11.fix (m := 450)).up (fx_add (o := .lst [.str "done", .bl true]) hl) (m := 450)
              refine ⟨true, rfl, itP rfl ?_⟩
              refine ⟨d, s, 40, 400, 450, x, rfl, (C11.pick [5, 6, 7, 8, 9, 10, 11]).led, ok11, by decide, fun H12 D12 => ?_⟩
              exact h H12 ((C11.and D12).sub (List.nil_sublist _))
            · exfalso
              have e := hk.2.1
              rw [e] at h400
              obtain ⟨k, hk', ek⟩ := List.mem_map.mp h400
              have := (hk.2.2.1 k hk').2
              have := V.int.inj ek
              omega
end
end Ks

/-! KsQj: the second part; the law. -/
namespace Ks
open PySem PySem.Spec PyProof.Rows L2 PySem.W
section
variable {P : Program} {w : World} {K : PySem.W.Frag} {mg : Str → Option Value} {base : Heap} {a : Nat → Addr × FuncData} {c : Nat → Addr}
theorem ok_law_second (Z : Wd K mg a c) : FnG false P w K mg base 9 (a 68).1 (a 68).2 ["script"] (sp_script K) := by
  refine fun_okG Z.g_law_second.fn sc_law_second (fun vs H Q E h => ?_) (fun cdv A outer s H vs Q E hr h => ?_)
  · obtain ⟨l, ns, rfl, _⟩ := h; rfl
  · obtain ⟨l, ns, rfl, hl, h⟩ := h
    refine ⟨_, (pss_cons (ps_if (PW.pt (pw_and (pt_cmpR (o_eq hr.u64) (pe_op o_mod (pe_callTy c_int (by rfl) Z.n_int bt_int (pa_cons (pe_callB (c_sum (by rfl)) (by rfl) Z.n_sum bt_sum (pa_cons (pe_slice sl_list (qv 0) po_none (po_some pe_int)) pa_nil)) pa_nil)) pe_int) pe_int (nomark _)) (pw_and1 (pt_not (pt_val (q_call Z.g_law_great_right (ok_law_great_right Z) (hr.mono (by decide)) takes0 (pa_cons (q_call Z.g_law_box (ok_law_box Z) (hr.mono (by decide)) takes0 (pa_cons (q_call Z.g_law_cell (ok_law_cell Z) (hr.mono (by decide)) takes0 (pa_cons (qv 0) (pa_cons pe_int pa_nil))) pa_nil)) pa_nil))))))) (pss_one (ps_ret pe_bl)) pss_nil)
      (pss_cons (ps_for (passes_of rfl) (by rfl) (pi_range1 (by rfl) Z.n_range (pa_cons (pe_callB (c_max (by rfl)) (by rfl) Z.n_max bt_max (pa_cons pe_int (pa_cons (pe_callB (c_min (by rfl)) (by rfl) Z.n_min bt_min (pa_cons pe_int (pa_cons (pe_callB call_len_seq (by rfl) Z.n_len bt_len (pa_cons (qv 0) pa_nil)) pa_nil))) pa_nil))) pa_nil)) (pg_name (i := 1) sc_law_second.nd rfl (Or.inl rfl))
      (pss_one (ps_if (pt_not (pt_val (q_call Z.g_law_chain_right (ok_law_chain_right Z) (hr.mono (by decide)) takes0 (pa_cons (q_call Z.g_law_box (ok_law_box Z) (hr.mono (by decide)) takes0 (pa_cons (q_call Z.g_law_cell (ok_law_cell Z) (hr.mono (by decide)) takes0 (pa_cons (qv 0) (pa_cons (qv 1) pa_nil))) pa_nil)) pa_nil)))) (pss_one (ps_ret pe_bl)) pss_nil)))
      (pss_one (ps_ret pe_bl)))), ?_⟩
    have C0 : Chg [] H H [] := .of .nil
    refine ⟨_, rfl, l, _, rfl, hl, fun q hq => ⟨cutL ns none (some 2), by rw [upd_same, cutV_map], (by show (0 : Int) < 8; decide), rfl, _, rfl, ?_⟩⟩
    have C1 : Chg [] H _ [] := C0.skip (o := .lst (cutV (ns.map V.int) none (some 2))) hq
    by_cases q1 : (cutL ns none (some 2)).sum % 8 = 1
    case' pos =>
      refine itP (decide_eq_true (congrArg V.int q1)) ?_
      refine ⟨l, ns, 2, rfl, sq_keep hl C1, fun z H2 D2 => ⟨z, rfl, fun b o H3 bx D3 => ⟨b, 0, o, rfl, D3.at 0 rfl, bx, by decide, fun H4 D4 => ⟨true, rfl, ?_⟩⟩⟩⟩
      have C4 : Chg [] H H4 [] := (((C1.and D2).and D3).call [0] D4).sub (List.nil_sublist _)
    case' neg =>
      refine itN (decide_eq_false (fun e => q1 (V.int.inj e))) ?_
      have C4 := C1
    all_goals
      refine ⟨l, _, rfl, .inl (sq_keep hl C4), _, rfl, ?_⟩
      rw [List.length_map]
      refine ⟨by show -(2 ^ 62) ≤ max (3 : Int) (min 6 (ns.length : Nat)); omega, by show max (3 : Int) (min 6 (ns.length : Nat)) < 2 ^ 62; omega, ?_⟩
      refine for_it walk_range (fun i σ H' => ∃ v1, σ = [some (.ref l), v1] ∧ Chg [] H H' [])
        ⟨none, rfl, C4⟩ (fun _ _ _ _ _ => ⟨⟩) ?_ ?_
      · rintro i y σ H5' H5 hi ⟨v1, rfl, C5⟩ ⟨rfl, rfl⟩
        refine ⟨l, ns, i, by simp, sq_keep hl C5, fun z H6 D6 => ⟨z, rfl, fun b o H7 bx D7 => ?_⟩⟩
        have C7 : Chg [] H H7 [(b, o)] := (C5.and D6).and D7
        refine ⟨b, 0, o, rfl, C7.at 0 rfl, bx, by decide, fun H10 D10 => ⟨true, rfl, ?_⟩⟩
        exact ⟨_, rfl, (C7.call [0] D10).sub (List.nil_sublist _)⟩
      · rintro σ H5 ⟨v1, rfl, C5⟩
        exact h H5 C5
theorem ok_law (Z : Wd K mg a c) : FnG false P w K mg base 10 (a 69).1 (a 69).2 ["script"] (sp_script K) := by
  refine fun_okG Z.g_law.fn sc_law (fun vs H Q E h => ?_) (fun cdv A outer s H vs Q E hr h => ?_)
  · obtain ⟨l, ns, rfl, _⟩ := h; rfl
  · obtain ⟨l, ns, rfl, hl, h⟩ := h
    refine ⟨_, (pss_one (ps_ret (pe_and (q_call Z.g_law_first (ok_law_first Z) (hr.mono (by decide)) takes0 (pa_cons (qv 0) pa_nil)) (pe_one (q_call Z.g_law_second (ok_law_second Z) (hr.mono (by decide)) takes0 (pa_cons (qv 0) pa_nil)))))), ?_⟩
    refine ⟨l, ns, rfl, hl, fun H1 C1 => ⟨true, rfl, itP rfl ?_⟩⟩
    exact ⟨l, ns, rfl, sq_keep hl C1, fun H2 C2 => h H2 (C1.and C2)⟩
end
end Ks

/-! KsEnd0: from the law's promise (guards known) to the row. -/
namespace Ks
open PySem PySem.Spec PyProof.Rows L2
section
variable {P : Program} {w : World} {K : PySem.W.Frag} {mg mb : Str → Option Value} {k : Nat} {fa l : Addr} {fd : FuncData} {sp : Sp} {t : Shared} {us : List Value} {ns : List Int}
/-- the heap's part of a run from an abstract heap H that tells at most of the script -/
theorem law_from (KX : K.In t.heap) (h1 : t.heap.Ns mainGlobals mg) (h2 : t.heap.Ns builtinsNs mb) (h3 : ∀ x : Str, x ≠ "__name__" → mb x = bootBuiltins x) (h4 : t.heap.NoLimit) (h5 : t.gens = #[])
    (hl : t.heap.get? l = some { cls := .type "list", data := .seq us.toArray }) (hr : Rm false k callerA)
    (F : FnG false P w K mg (hidT t.heap H) k fa fd ["script"] sp) (hb : ∀ (s : Shared) (u : Value), BindsTo s fd ⟨[u], []⟩ [("script", u)])
    (q : sp [.ref l] H (fun v _ => v = .bl true) fun _ _ _ => False) (hok : HOk P w H t.heap) (only : ∀ y, H y ≠ none → y = l) (fz : ∀ y, H y = none ∨ ∃ o xs, H y = some (.frz o (.lst xs))) (hK : H l ≠ none → K.lookup l = none) :
    codeAny (model P w) callerA (.call (.ref fa) ⟨[.ref l], []⟩) (fun r t' => r = .ok (.ret (.bool true)) ∧ OldK t.heap t'.heap ∧ t'.os = t.os ∧ AllBare t'.gens) t := by
  have down : ∀ {y : Addr} {z : Obj}, t.heap.get? y = some z → H y = none → (hidT t.heap H).get? y = some z := fun g n => hidT_get g n
  have nodict : ∀ {y : Addr} {z : Obj} {es : Array DictEntry} {ep : Nat}, t.heap.get? y = some z → z.data = .dict es ep → H y = none := fun {y z es ep} g d => by
    by_cases n : H y = none
    · exact n
    · obtain rfl := only y n
      rw [hl] at g
      cases g
      exact absurd (show Data.seq us.toArray _ = Data.dict es ep from d) (fun z => by cases z)
  have spaces : ∀ {y : Addr} {m : Str → Option Value}, t.heap.Ns y m → (hidT t.heap H).Ns y m := fun ⟨z, es, ep, g, d, r⟩ => ⟨z, es, ep, down g (nodict g d), d, r⟩
  have inK : K.In (hidT t.heap H) := fun y z g => by
    refine down (KX y z g) ?_
    by_cases n : H y = none
    · exact n
    · obtain rfl := only y n
      rw [hK n] at g
      cases g
  have env : Env0 P w K mg (hidT t.heap H) callerA [] t H := by
    refine ⟨rfl, ⟨inK, spaces h1, ⟨mb, spaces h2, h3⟩, ?_⟩, fun y z g => of_hidT g, Nat.le_of_eq (hidT_size _ _), trivial, fun y hy => (nomatch hy), hok, .of_eq h5⟩
    obtain ⟨mc, g1, g2⟩ := h4
    exact ⟨mc, spaces g1, g2⟩
  refine codeAny_mono (F.run callerA [] t H ⟨[.ref l], []⟩ [.ref l] [.ref l] _ _ hr env (hb t (.ref l)) (.cons rfl .nil) q) fun r t' g => ?_
  match r, g with
  | .error e, g =>
    obtain ⟨_, _, _, _, _, _, _, _, _, _, _, _, z⟩ := g
    exact z.elim
  | .ok .next, g => exact g.elim
  | .ok .brk, g => exact g.elim
  | .ok .cont, g => exact g.elim
  | .ok (.ret u), g =>
    obtain ⟨v, H2, os, bare, un, hok2, rv, ev⟩ := g
    obtain rfl : v = .bl true := ev
    obtain rfl : u = Value.bool true := rv
    refine ⟨rfl, OldK.of_keep fun y z gy => ?_, os, bare⟩
    rcases fz y with n | ⟨ob, xs, n⟩
    · exact un.keep y z gy n (fun m => absurd (show y ∈ ([] : List Addr) from m) (by simp)) (by simp)
    · have a1 := (hok y _ n).1
      have a2 := (hok2 y _ (un.frzs y ob _ n)).1
      rw [gy] at a1
      cases a1
      exact a2
theorem law_goes (KX : K.In t.heap) (h1 : t.heap.Ns mainGlobals mg) (h2 : t.heap.Ns builtinsNs mb) (h3 : ∀ x : Str, x ≠ "__name__" → mb x = bootBuiltins x) (h4 : t.heap.NoLimit) (h5 : t.gens = #[])
    (hl : t.heap.get? l = some { cls := .type "list", data := .seq us.toArray }) (hi : IntsAre us ns) (hn : ns.length ≤ sizeLine) (hr : Rm false k callerA)
    (F : ∀ base : Heap, FnG false P w K mg base k fa fd ["script"] sp) (hb : ∀ (s : Shared) (u : Value), BindsTo s fd ⟨[u], []⟩ [("script", u)])
    (q : ∀ H : Hp, SqL K H l (ns.map V.int) → sp [.ref l] H (fun v _ => v = .bl true) fun _ _ _ => False) :
    codeAny (model P w) callerA (.call (.ref fa) ⟨[.ref l], []⟩) (fun r t' => r = .ok (.ret (.bool true)) ∧ OldK t.heap t'.heap ∧ t'.os = t.os ∧ AllBare t'.gens) t := by
  have rv := vals_ints hi
  cases hk : K.lookup l with
  | some ob =>
    have e := KX l ob hk
    rw [hl] at e
    cases e
    exact law_from (H := fun _ => none) KX h1 h2 h3 h4 h5 hl hr (F _) hb (q _ (.inr ⟨_, us.toArray, _, hk, rfl, rfl, rfl, by rw [List.size_toArray, hi.length]; exact hn, by simpa using rv⟩)) (fun y z g => absurd (show (none : Option HO) = some z from g) (by simp)) (fun y n => absurd rfl n) (fun y => .inl rfl) fun n => absurd rfl n
  | none =>
    let ob : Obj := { cls := .type "list", data := .seq us.toArray }
    have at_l : (fun y => if y = l then some (HO.frz ob (.lst (ns.map V.int))) else none) l = some (HO.frz ob (.lst (ns.map V.int))) := if_pos rfl
    have off : ∀ y, y ≠ l → (fun y => if y = l then some (HO.frz ob (.lst (ns.map V.int))) else none) y = none := fun y n => if_neg n
    refine law_from (H := fun y => if y = l then some (HO.frz ob (.lst (ns.map V.int))) else none) KX h1 h2 h3 h4 h5 hl hr (F _) hb (q _ (.inl (.inr ⟨ob, at_l⟩))) (fun y z g => ?_) (fun y n => ?_) (fun y => ?_) fun _ => hk
    · by_cases e : y = l
      · subst e
        rw [at_l] at g
        cases g
        exact ⟨hl, by rw [List.length_map]; exact hn, us, _, rv, hl⟩
      · rw [off y e] at g
        cases g
    · by_cases e : y = l
      · exact e
      · exact absurd (off y e) n
    · by_cases e : y = l
      · subst e; exact .inr ⟨_, _, at_l⟩
      · exact .inl (off y e)
end
theorem walkG {l : PySem.W.OpenLaw} {n k : Nat} {q : Program} {loose : List Str} {XP : (Str → Option Value) → Heap → Prop} {YP : World → Heap → Prop} {d : DefRec} {K : Params → PySem.W.Frag}
    (hn : l.most = some n) (hn2 : n ≤ sizeLine) (hdf : d.params.defaults = []) (hr : Rm false k callerA) (hY : ∀ (w : World) (h : Heap), YP w h → (K w.params).In h)
    (F : ∀ (w : World) (mg : Str → Option Value) (fa : Addr) (h : Heap), (K w.params).In h → h.Ns mainGlobals mg → mg d.name = some (.ref fa) →
      ∃ fd : FuncData, (∀ (s : Shared) (u : Value), BindsTo s fd ⟨[u], []⟩ [("script", u)]) ∧ ∀ base : Heap, FnG false l.prog w (K w.params) mg base k fa fd ["script"] (sp_script (K w.params))) :
    PySem.W.WalkO q loose XP YP l.row.toRowW d [] (fun f vs => PySem.call f vs) := by
  refine Att.attach_callB hn hdf fun w _ t mg mb fa _ _ _ _ a us ns G Y _ _ _ hm ho hi hlen _ hg => ?_
  have KX := hY w _ Y
  obtain ⟨fd, hb, hF⟩ := F w mg fa _ KX G.T.g hm
  exact law_goes KX G.T.g G.T.b G.T.builtins G.T.nolimit hg ho hi (Nat.le_trans hlen hn2) hr hF hb fun H hS => ⟨a, ns, rfl, hS, fun _ _ => rfl⟩
theorem rm_caller : Rm false 10 callerA := ⟨fun _ => rfl, by decide, by decide, rfl⟩
end Ks

/-! KsEnd1: what the top has written, from its facts. -/
namespace Ks
open PySem PySem.Spec PyProof.Rows L2 PySem.W
theorem all_mk {K : Frag} {h : Heap} {mg : Str → Option Value} {fa : Addr} (X : K.In h) (G : h.Ns mainGlobals mg) (hfa : mg "law" = some (.ref fa))
    {t_LEAST_PAGES : Tok}
    {t_MOST_PAGES : Tok}
    {t_LEAST_WIDTH : Tok}
    {t_MOST_WIDTH : Tok}
    {C0 : Addr}
    {C1 : Addr}
    {C2 : Addr}
    {C3 : Addr}
    {C4 : Addr}
    {C5 : Addr}
    {C6 : Addr}
    {C7 : Addr}
    {C8 : Addr}
    {nm1 q_1 : Str} {N1 : Addr} {bs1 : List Value} {sn1 : List Str} {sb1 : List Value} {ab1 : Bool} {co1 : Option Bool} {dd1 : Option Addr} {r0_1 r1_1 r2_1 r3_1 r5_1 : Option Value}
    {f0 : Addr} {u0 v0 w0 x0 y0 z0 : Value} {p0 q0 : Option Addr} {s0 : Array (Option Value)}
    {nm2 q_2 : Str} {N2 : Addr} {bs2 : List Value} {sn2 : List Str} {sb2 : List Value} {ab2 : Bool} {co2 : Option Bool} {dd2 : Option Addr} {r0_2 r1_2 r2_2 r3_2 r5_2 : Option Value}
    {f1 : Addr} {u1 v1 w1 x1 y1 z1 : Value} {p1 q1 : Option Addr} {s1 : Array (Option Value)}
    {nm3 q_3 : Str} {N3 : Addr} {bs3 : List Value} {sn3 : List Str} {sb3 : List Value} {ab3 : Bool} {co3 : Option Bool} {dd3 : Option Addr} {r0_3 r1_3 r2_3 r3_3 r5_3 : Option Value}
    {f2 : Addr} {u2 v2 w2 x2 y2 z2 : Value} {p2 q2 : Option Addr} {s2 : Array (Option Value)}
    {nm4 q_4 : Str} {N4 : Addr} {bs4 : List Value} {sn4 : List Str} {sb4 : List Value} {ab4 : Bool} {co4 : Option Bool} {dd4 : Option Addr} {r0_4 r1_4 r2_4 r3_4 r5_4 : Option Value}
    {f3 : Addr} {u3 v3 w3 x3 y3 z3 : Value} {p3 q3 : Option Addr} {s3 : Array (Option Value)}
    {nm5 q_5 : Str} {N5 : Addr} {bs5 : List Value} {sn5 : List Str} {sb5 : List Value} {ab5 : Bool} {co5 : Option Bool} {dd5 : Option Addr} {r0_5 r1_5 r2_5 r3_5 r5_5 : Option Value}
    {f4 : Addr} {u4 v4 w4 x4 y4 z4 : Value} {p4 q4 : Option Addr} {s4 : Array (Option Value)}
    {nm6 q_6 : Str} {N6 : Addr} {bs6 : List Value} {sn6 : List Str} {sb6 : List Value} {ab6 : Bool} {co6 : Option Bool} {dd6 : Option Addr} {r0_6 r1_6 r2_6 r3_6 r5_6 : Option Value}
    {f5 : Addr} {u5 v5 w5 x5 y5 z5 : Value} {p5 q5 : Option Addr} {s5 : Array (Option Value)}
    {nm7 q_7 : Str} {N7 : Addr} {bs7 : List Value} {sn7 : List Str} {sb7 : List Value} {ab7 : Bool} {co7 : Option Bool} {dd7 : Option Addr} {r0_7 r1_7 r2_7 r3_7 r5_7 : Option Value}
    {f6 : Addr} {u6 v6 w6 x6 y6 z6 : Value} {p6 q6 : Option Addr} {s6 : Array (Option Value)}
    {f16 : Addr} {u16 v16 w16 x16 y16 z16 : Value} {p16 q16 : Option Addr} {s16 : Array (Option Value)}
    {f17 : Addr} {u17 v17 w17 x17 y17 z17 : Value} {p17 q17 : Option Addr} {s17 : Array (Option Value)}
    {f18 : Addr} {u18 v18 w18 x18 y18 z18 : Value} {p18 q18 : Option Addr} {s18 : Array (Option Value)}
    {f19 : Addr} {u19 v19 w19 x19 y19 z19 : Value} {p19 q19 : Option Addr} {s19 : Array (Option Value)}
    {f20 : Addr} {u20 v20 w20 x20 y20 z20 : Value} {p20 q20 : Option Addr} {s20 : Array (Option Value)}
    {f21 : Addr} {u21 v21 w21 x21 y21 z21 : Value} {p21 q21 : Option Addr} {s21 : Array (Option Value)}
    {f22 : Addr} {u22 v22 w22 x22 y22 z22 : Value} {p22 q22 : Option Addr} {s22 : Array (Option Value)}
    {f23 : Addr} {u23 v23 w23 x23 y23 z23 : Value} {p23 q23 : Option Addr} {s23 : Array (Option Value)}
    {f24 : Addr} {u24 v24 w24 x24 y24 z24 : Value} {p24 q24 : Option Addr} {s24 : Array (Option Value)}
    {f7 : Addr} {u7 v7 w7 x7 y7 z7 : Value} {p7 q7 : Option Addr} {s7 : Array (Option Value)}
    {f8 : Addr} {u8 v8 w8 x8 y8 z8 : Value} {p8 q8 : Option Addr} {s8 : Array (Option Value)}
    {f9 : Addr} {u9 v9 w9 x9 y9 z9 : Value} {p9 q9 : Option Addr} {s9 : Array (Option Value)}
    {f10 : Addr} {u10 v10 w10 x10 y10 z10 : Value} {p10 q10 : Option Addr} {s10 : Array (Option Value)}
    {f11 : Addr} {u11 v11 w11 x11 y11 z11 : Value} {p11 q11 : Option Addr} {s11 : Array (Option Value)}
    {f12 : Addr} {u12 v12 w12 x12 y12 z12 : Value} {p12 q12 : Option Addr} {s12 : Array (Option Value)}
    {f13 : Addr} {u13 v13 w13 x13 y13 z13 : Value} {p13 q13 : Option Addr} {s13 : Array (Option Value)}
    {f14 : Addr} {u14 v14 w14 x14 y14 z14 : Value} {p14 q14 : Option Addr} {s14 : Array (Option Value)}
    {f15 : Addr} {u15 v15 w15 x15 y15 z15 : Value} {p15 q15 : Option Addr} {s15 : Array (Option Value)}
    {f25 : Addr} {u25 v25 w25 x25 y25 z25 : Value} {p25 q25 : Option Addr} {s25 : Array (Option Value)}
    {f26 : Addr} {u26 v26 w26 x26 y26 z26 : Value} {p26 q26 : Option Addr} {s26 : Array (Option Value)}
    {f27 : Addr} {u27 v27 w27 x27 y27 z27 : Value} {p27 q27 : Option Addr} {s27 : Array (Option Value)}
    {f28 : Addr} {u28 v28 w28 x28 y28 z28 : Value} {p28 q28 : Option Addr} {s28 : Array (Option Value)}
    {f29 : Addr} {u29 v29 w29 x29 y29 z29 : Value} {p29 q29 : Option Addr} {s29 : Array (Option Value)}
    {f30 : Addr} {u30 v30 w30 x30 y30 z30 : Value} {p30 q30 : Option Addr} {s30 : Array (Option Value)}
    {f31 : Addr} {u31 v31 w31 x31 y31 z31 : Value} {p31 q31 : Option Addr} {s31 : Array (Option Value)}
    {f32 : Addr} {u32 v32 w32 x32 y32 z32 : Value} {p32 q32 : Option Addr} {s32 : Array (Option Value)}
    {f33 : Addr} {u33 v33 w33 x33 y33 z33 : Value} {p33 q33 : Option Addr} {s33 : Array (Option Value)}
    {f34 : Addr} {u34 v34 w34 x34 y34 z34 : Value} {p34 q34 : Option Addr} {s34 : Array (Option Value)}
    {f35 : Addr} {u35 v35 w35 x35 y35 z35 : Value} {p35 q35 : Option Addr} {s35 : Array (Option Value)}
    {f36 : Addr} {u36 v36 w36 x36 y36 z36 : Value} {p36 q36 : Option Addr} {s36 : Array (Option Value)}
    {f37 : Addr} {u37 v37 w37 x37 y37 z37 : Value} {p37 q37 : Option Addr} {s37 : Array (Option Value)}
    {f38 : Addr} {u38 v38 w38 x38 y38 z38 : Value} {p38 q38 : Option Addr} {s38 : Array (Option Value)}
    {f39 : Addr} {u39 v39 w39 x39 y39 z39 : Value} {p39 q39 : Option Addr} {s39 : Array (Option Value)}
    {f40 : Addr} {u40 v40 w40 x40 y40 z40 : Value} {p40 q40 : Option Addr} {s40 : Array (Option Value)}
    {f41 : Addr} {u41 v41 w41 x41 y41 z41 : Value} {p41 q41 : Option Addr} {s41 : Array (Option Value)}
    {f42 : Addr} {u42 v42 w42 x42 y42 z42 : Value} {p42 q42 : Option Addr} {s42 : Array (Option Value)}
    {f43 : Addr} {u43 v43 w43 x43 y43 z43 : Value} {p43 q43 : Option Addr} {s43 : Array (Option Value)}
    {f44 : Addr} {u44 v44 w44 x44 y44 z44 : Value} {p44 q44 : Option Addr} {s44 : Array (Option Value)}
    {f45 : Addr} {u45 v45 w45 x45 y45 z45 : Value} {p45 q45 : Option Addr} {s45 : Array (Option Value)}
    {f46 : Addr} {u46 v46 w46 x46 y46 z46 : Value} {p46 q46 : Option Addr} {s46 : Array (Option Value)}
    {f47 : Addr} {u47 v47 w47 x47 y47 z47 : Value} {p47 q47 : Option Addr} {s47 : Array (Option Value)}
    {f48 : Addr} {u48 v48 w48 x48 y48 z48 : Value} {p48 q48 : Option Addr} {s48 : Array (Option Value)}
    {f49 : Addr} {u49 v49 w49 x49 y49 z49 : Value} {p49 q49 : Option Addr} {s49 : Array (Option Value)}
    {f50 : Addr} {u50 v50 w50 x50 y50 z50 : Value} {p50 q50 : Option Addr} {s50 : Array (Option Value)}
    {f51 : Addr} {u51 v51 w51 x51 y51 z51 : Value} {p51 q51 : Option Addr} {s51 : Array (Option Value)}
    {f52 : Addr} {u52 v52 w52 x52 y52 z52 : Value} {p52 q52 : Option Addr} {s52 : Array (Option Value)}
    {f53 : Addr} {u53 v53 w53 x53 y53 z53 : Value} {p53 q53 : Option Addr} {s53 : Array (Option Value)}
    {f54 : Addr} {u54 v54 w54 x54 y54 z54 : Value} {p54 q54 : Option Addr} {s54 : Array (Option Value)}
    {f55 : Addr} {u55 v55 w55 x55 y55 z55 : Value} {p55 q55 : Option Addr} {s55 : Array (Option Value)}
    {f56 : Addr} {u56 v56 w56 x56 y56 z56 : Value} {p56 q56 : Option Addr} {s56 : Array (Option Value)}
    {f57 : Addr} {u57 v57 w57 x57 y57 z57 : Value} {p57 q57 : Option Addr} {s57 : Array (Option Value)}
    {f58 : Addr} {u58 v58 w58 x58 y58 z58 : Value} {p58 q58 : Option Addr} {s58 : Array (Option Value)}
    {f59 : Addr} {u59 v59 w59 x59 y59 z59 : Value} {p59 q59 : Option Addr} {s59 : Array (Option Value)}
    {f60 : Addr} {u60 v60 w60 x60 y60 z60 : Value} {p60 q60 : Option Addr} {s60 : Array (Option Value)}
    {f61 : Addr} {u61 v61 w61 x61 y61 z61 : Value} {p61 q61 : Option Addr} {s61 : Array (Option Value)}
    {f62 : Addr} {u62 v62 w62 x62 y62 z62 : Value} {p62 q62 : Option Addr} {s62 : Array (Option Value)}
    {f63 : Addr} {u63 v63 w63 x63 y63 z63 : Value} {p63 q63 : Option Addr} {s63 : Array (Option Value)}
    {f64 : Addr} {u64 v64 w64 x64 y64 z64 : Value} {p64 q64 : Option Addr} {s64 : Array (Option Value)}
    {f65 : Addr} {u65 v65 w65 x65 y65 z65 : Value} {p65 q65 : Option Addr} {s65 : Array (Option Value)}
    {f66 : Addr} {u66 v66 w66 x66 y66 z66 : Value} {p66 q66 : Option Addr} {s66 : Array (Option Value)}
    {f67 : Addr} {u67 v67 w67 x67 y67 z67 : Value} {p67 q67 : Option Addr} {s67 : Array (Option Value)}
    {f68 : Addr} {u68 v68 w68 x68 y68 z68 : Value} {p68 q68 : Option Addr} {s68 : Array (Option Value)}
    {f69 : Addr} {u69 v69 w69 x69 y69 z69 : Value} {p69 q69 : Option Addr} {s69 : Array (Option Value)}
    (n_len : nsIn K mainGlobals "len" = some none)
    (n_abs : nsIn K mainGlobals "abs" = some none)
    (n_all : nsIn K mainGlobals "all" = some none)
    (n_sum : nsIn K mainGlobals "sum" = some none)
    (n_max : nsIn K mainGlobals "max" = some none)
    (n_min : nsIn K mainGlobals "min" = some none)
    (n_repr : nsIn K mainGlobals "repr" = some none)
    (n_isinstance : nsIn K mainGlobals "isinstance" = some none)
    (n_int : nsIn K mainGlobals "int" = some none)
    (n_str : nsIn K mainGlobals "str" = some none)
    (n_list : nsIn K mainGlobals "list" = some none)
    (n_tuple : nsIn K mainGlobals "tuple" = some none)
    (n_range : nsIn K mainGlobals "range" = some none)
    (n_set : nsIn K mainGlobals "set" = some none)
    (n_bool : nsIn K mainGlobals "bool" = some none)
    (k_LEAST_PAGES : nsIn K mainGlobals "LEAST_PAGES" = some (some (.int 3 t_LEAST_PAGES)))
    (k_MOST_PAGES : nsIn K mainGlobals "MOST_PAGES" = some (some (.int 40 t_MOST_PAGES)))
    (k_LEAST_WIDTH : nsIn K mainGlobals "LEAST_WIDTH" = some (some (.int 20 t_LEAST_WIDTH)))
    (k_MOST_WIDTH : nsIn K mainGlobals "MOST_WIDTH" = some (some (.int 400 t_MOST_WIDTH)))
    (aC0 : nsIn K mainGlobals "EarlierError" = some (some (.ref C0)))
    (aC1 : nsIn K mainGlobals "InvalidText" = some (some (.ref C1)))
    (aC2 : nsIn K mainGlobals "InvalidWidth" = some (some (.ref C2)))
    (aC3 : nsIn K mainGlobals "InvalidPages" = some (some (.ref C3)))
    (aC4 : nsIn K mainGlobals "InvalidPage" = some (some (.ref C4)))
    (aC5 : nsIn K mainGlobals "InvalidCount" = some (some (.ref C5)))
    (aC6 : nsIn K mainGlobals "InvalidDone" = some (some (.ref C6)))
    (aC7 : nsIn K mainGlobals "PowerCut" = some (some (.ref C7)))
    (aC8 : nsIn K mainGlobals "Disk" = some (some (.ref C8)))
    (b_rd : readsIn K C0 (.type "type") = true)
    (b_ga : specialIn K (.ref C0) "__getattribute__" = some (some (.builtin "type.__getattribute__")))
    (b_ini : findCls K (.ref C0) (.type "type") "__init__" = some (.val (.builtin "Exception.__init__")))
    (b_ex : subIn K (.ref C0) (.type "BaseException") = some true)
    (b_ty : typeIn K (.ref C0) = some (.type "type"))
    (b_hd : hasDictIn K C0 = true)
    (b_gc : specialIn K (.builtin "object.__class__") "__get__" = some (some (.builtin "getset_descriptor.__get__")))
    (b_tk : takesIn K (.builtin "object.__class__") = some true)
    (e1_cls : K.lookup C1 = some (excClassObj nm1 q_1 C1 N1 bs1 (.ref C0 :: exTail) true sn1 sb1 ab1 co1 dd1 r0_1 r1_1 r2_1 r3_1 r5_1 "Exception.__new__"))
    (e1_sa : findIn K (.ref C1) "__setattr__" = some (some (.builtin "object.__setattr__")))
    (e1_ga : findIn K (.ref C1) "__getattribute__" = some (some (.builtin "BaseException.__getattribute__")))
    (e1_gg : findIn K (.ref C1) "__getattr__" = some none)
    (e1_ex : subIn K (.ref C1) (.type "BaseException") = some true)
    (e1_ty : typeIn K (.ref C1) = some (.type "type"))
    (e1_kc : keepIn K (.ref C1) = true)
    (e1_hd : hasDictIn K C1 = true)
    (e1_ca : findIn K (.ref C1) "__class__" = some (some (.builtin "object.__class__")))
    (e1_mo : mroIn K C1 (.type "object") = some true)
    (e1_up : subIn K (.ref C1) (.ref C0) = some true)
    (e1_in : findIn K (.ref C1) "__init__" = some (some (.ref f0)))
    (e1_ti : typeIn K (.ref f0) = some (.type "function"))
    (l0 : K.lookup f0 = some ⟨u0, p0, .func (fnOf "__init__" "InvalidText.__init__" (defArgs s_InvalidText_init) (defBody s_InvalidText_init) (defScope s_InvalidText_init) .none v0 w0 x0 q0 y0 z0), s0⟩)
    (c0 : codeIn K y0 "InvalidText.__init__" = true)
    (k0 : keepIn K (.ref f0) = true)
    (e1_gv : findIn K (.ref C1) "given" = some none)
    (e1_ss : subIn K (.ref C1) (.ref C1) = some true)
    (e2_cls : K.lookup C2 = some (excClassObj nm2 q_2 C2 N2 bs2 (.ref C0 :: exTail) true sn2 sb2 ab2 co2 dd2 r0_2 r1_2 r2_2 r3_2 r5_2 "Exception.__new__"))
    (e2_sa : findIn K (.ref C2) "__setattr__" = some (some (.builtin "object.__setattr__")))
    (e2_ga : findIn K (.ref C2) "__getattribute__" = some (some (.builtin "BaseException.__getattribute__")))
    (e2_gg : findIn K (.ref C2) "__getattr__" = some none)
    (e2_ex : subIn K (.ref C2) (.type "BaseException") = some true)
    (e2_ty : typeIn K (.ref C2) = some (.type "type"))
    (e2_kc : keepIn K (.ref C2) = true)
    (e2_hd : hasDictIn K C2 = true)
    (e2_ca : findIn K (.ref C2) "__class__" = some (some (.builtin "object.__class__")))
    (e2_mo : mroIn K C2 (.type "object") = some true)
    (e2_up : subIn K (.ref C2) (.ref C0) = some true)
    (e2_in : findIn K (.ref C2) "__init__" = some (some (.ref f1)))
    (e2_ti : typeIn K (.ref f1) = some (.type "function"))
    (l1 : K.lookup f1 = some ⟨u1, p1, .func (fnOf "__init__" "InvalidWidth.__init__" (defArgs s_InvalidWidth_init) (defBody s_InvalidWidth_init) (defScope s_InvalidWidth_init) .none v1 w1 x1 q1 y1 z1), s1⟩)
    (c1 : codeIn K y1 "InvalidWidth.__init__" = true)
    (k1 : keepIn K (.ref f1) = true)
    (e2_gv : findIn K (.ref C2) "given" = some none)
    (e2_ss : subIn K (.ref C2) (.ref C2) = some true)
    (e3_cls : K.lookup C3 = some (excClassObj nm3 q_3 C3 N3 bs3 (.ref C0 :: exTail) true sn3 sb3 ab3 co3 dd3 r0_3 r1_3 r2_3 r3_3 r5_3 "Exception.__new__"))
    (e3_sa : findIn K (.ref C3) "__setattr__" = some (some (.builtin "object.__setattr__")))
    (e3_ga : findIn K (.ref C3) "__getattribute__" = some (some (.builtin "BaseException.__getattribute__")))
    (e3_gg : findIn K (.ref C3) "__getattr__" = some none)
    (e3_ex : subIn K (.ref C3) (.type "BaseException") = some true)
    (e3_ty : typeIn K (.ref C3) = some (.type "type"))
    (e3_kc : keepIn K (.ref C3) = true)
    (e3_hd : hasDictIn K C3 = true)
    (e3_ca : findIn K (.ref C3) "__class__" = some (some (.builtin "object.__class__")))
    (e3_mo : mroIn K C3 (.type "object") = some true)
    (e3_up : subIn K (.ref C3) (.ref C0) = some true)
    (e3_in : findIn K (.ref C3) "__init__" = some (some (.ref f2)))
    (e3_ti : typeIn K (.ref f2) = some (.type "function"))
    (l2 : K.lookup f2 = some ⟨u2, p2, .func (fnOf "__init__" "InvalidPages.__init__" (defArgs s_InvalidPages_init) (defBody s_InvalidPages_init) (defScope s_InvalidPages_init) .none v2 w2 x2 q2 y2 z2), s2⟩)
    (c2 : codeIn K y2 "InvalidPages.__init__" = true)
    (k2 : keepIn K (.ref f2) = true)
    (e3_gv : findIn K (.ref C3) "given" = some none)
    (e3_ss : subIn K (.ref C3) (.ref C3) = some true)
    (e4_cls : K.lookup C4 = some (excClassObj nm4 q_4 C4 N4 bs4 (.ref C0 :: exTail) true sn4 sb4 ab4 co4 dd4 r0_4 r1_4 r2_4 r3_4 r5_4 "Exception.__new__"))
    (e4_sa : findIn K (.ref C4) "__setattr__" = some (some (.builtin "object.__setattr__")))
    (e4_ga : findIn K (.ref C4) "__getattribute__" = some (some (.builtin "BaseException.__getattribute__")))
    (e4_gg : findIn K (.ref C4) "__getattr__" = some none)
    (e4_ex : subIn K (.ref C4) (.type "BaseException") = some true)
    (e4_ty : typeIn K (.ref C4) = some (.type "type"))
    (e4_kc : keepIn K (.ref C4) = true)
    (e4_hd : hasDictIn K C4 = true)
    (e4_ca : findIn K (.ref C4) "__class__" = some (some (.builtin "object.__class__")))
    (e4_mo : mroIn K C4 (.type "object") = some true)
    (e4_up : subIn K (.ref C4) (.ref C0) = some true)
    (e4_in : findIn K (.ref C4) "__init__" = some (some (.ref f3)))
    (e4_ti : typeIn K (.ref f3) = some (.type "function"))
    (l3 : K.lookup f3 = some ⟨u3, p3, .func (fnOf "__init__" "InvalidPage.__init__" (defArgs s_InvalidPage_init) (defBody s_InvalidPage_init) (defScope s_InvalidPage_init) .none v3 w3 x3 q3 y3 z3), s3⟩)
    (c3 : codeIn K y3 "InvalidPage.__init__" = true)
    (k3 : keepIn K (.ref f3) = true)
    (e4_gv : findIn K (.ref C4) "given" = some none)
    (e4_ss : subIn K (.ref C4) (.ref C4) = some true)
    (e5_cls : K.lookup C5 = some (excClassObj nm5 q_5 C5 N5 bs5 (.ref C0 :: exTail) true sn5 sb5 ab5 co5 dd5 r0_5 r1_5 r2_5 r3_5 r5_5 "Exception.__new__"))
    (e5_sa : findIn K (.ref C5) "__setattr__" = some (some (.builtin "object.__setattr__")))
    (e5_ga : findIn K (.ref C5) "__getattribute__" = some (some (.builtin "BaseException.__getattribute__")))
    (e5_gg : findIn K (.ref C5) "__getattr__" = some none)
    (e5_ex : subIn K (.ref C5) (.type "BaseException") = some true)
    (e5_ty : typeIn K (.ref C5) = some (.type "type"))
    (e5_kc : keepIn K (.ref C5) = true)
    (e5_hd : hasDictIn K C5 = true)
    (e5_ca : findIn K (.ref C5) "__class__" = some (some (.builtin "object.__class__")))
    (e5_mo : mroIn K C5 (.type "object") = some true)
    (e5_up : subIn K (.ref C5) (.ref C0) = some true)
    (e5_in : findIn K (.ref C5) "__init__" = some (some (.ref f4)))
    (e5_ti : typeIn K (.ref f4) = some (.type "function"))
    (l4 : K.lookup f4 = some ⟨u4, p4, .func (fnOf "__init__" "InvalidCount.__init__" (defArgs s_InvalidCount_init) (defBody s_InvalidCount_init) (defScope s_InvalidCount_init) .none v4 w4 x4 q4 y4 z4), s4⟩)
    (c4 : codeIn K y4 "InvalidCount.__init__" = true)
    (k4 : keepIn K (.ref f4) = true)
    (e5_gv : findIn K (.ref C5) "given" = some none)
    (e5_ss : subIn K (.ref C5) (.ref C5) = some true)
    (e6_cls : K.lookup C6 = some (excClassObj nm6 q_6 C6 N6 bs6 (.ref C0 :: exTail) true sn6 sb6 ab6 co6 dd6 r0_6 r1_6 r2_6 r3_6 r5_6 "Exception.__new__"))
    (e6_sa : findIn K (.ref C6) "__setattr__" = some (some (.builtin "object.__setattr__")))
    (e6_ga : findIn K (.ref C6) "__getattribute__" = some (some (.builtin "BaseException.__getattribute__")))
    (e6_gg : findIn K (.ref C6) "__getattr__" = some none)
    (e6_ex : subIn K (.ref C6) (.type "BaseException") = some true)
    (e6_ty : typeIn K (.ref C6) = some (.type "type"))
    (e6_kc : keepIn K (.ref C6) = true)
    (e6_hd : hasDictIn K C6 = true)
    (e6_ca : findIn K (.ref C6) "__class__" = some (some (.builtin "object.__class__")))
    (e6_mo : mroIn K C6 (.type "object") = some true)
    (e6_up : subIn K (.ref C6) (.ref C0) = some true)
    (e6_in : findIn K (.ref C6) "__init__" = some (some (.ref f5)))
    (e6_ti : typeIn K (.ref f5) = some (.type "function"))
    (l5 : K.lookup f5 = some ⟨u5, p5, .func (fnOf "__init__" "InvalidDone.__init__" (defArgs s_InvalidDone_init) (defBody s_InvalidDone_init) (defScope s_InvalidDone_init) .none v5 w5 x5 q5 y5 z5), s5⟩)
    (c5 : codeIn K y5 "InvalidDone.__init__" = true)
    (k5 : keepIn K (.ref f5) = true)
    (e6_gv : findIn K (.ref C6) "given" = some none)
    (e6_ss : subIn K (.ref C6) (.ref C6) = some true)
    (e7_cls : K.lookup C7 = some (excClassObj nm7 q_7 C7 N7 bs7 (.ref C0 :: exTail) true sn7 sb7 ab7 co7 dd7 r0_7 r1_7 r2_7 r3_7 r5_7 "Exception.__new__"))
    (e7_sa : findIn K (.ref C7) "__setattr__" = some (some (.builtin "object.__setattr__")))
    (e7_ga : findIn K (.ref C7) "__getattribute__" = some (some (.builtin "BaseException.__getattribute__")))
    (e7_gg : findIn K (.ref C7) "__getattr__" = some none)
    (e7_ex : subIn K (.ref C7) (.type "BaseException") = some true)
    (e7_ty : typeIn K (.ref C7) = some (.type "type"))
    (e7_kc : keepIn K (.ref C7) = true)
    (e7_hd : hasDictIn K C7 = true)
    (e7_ca : findIn K (.ref C7) "__class__" = some (some (.builtin "object.__class__")))
    (e7_mo : mroIn K C7 (.type "object") = some true)
    (e7_up : subIn K (.ref C7) (.ref C0) = some true)
    (e7_in : findIn K (.ref C7) "__init__" = some (some (.ref f6)))
    (e7_ti : typeIn K (.ref f6) = some (.type "function"))
    (l6 : K.lookup f6 = some ⟨u6, p6, .func (fnOf "__init__" "PowerCut.__init__" (defArgs s_PowerCut_init) (defBody s_PowerCut_init) (defScope s_PowerCut_init) .none v6 w6 x6 q6 y6 z6), s6⟩)
    (c6 : codeIn K y6 "PowerCut.__init__" = true)
    (k6 : keepIn K (.ref f6) = true)
    (e7_gv : findIn K (.ref C7) "given" = some none)
    (e7_ss : subIn K (.ref C7) (.ref C7) = some true)
    (sf_InvalidWidth_InvalidPages : subIn K (.ref C2) (.ref C3) = some false)
    (sf_InvalidText_InvalidPage : subIn K (.ref C1) (.ref C4) = some false)
    (sf_PowerCut_InvalidPage : subIn K (.ref C7) (.ref C4) = some false)
    (sf_PowerCut_InvalidText : subIn K (.ref C7) (.ref C1) = some false)
    (d_pg : plainGet K C8 Str.empty = true)
    (d_hd : hasDictIn K C8 = true)
    (d_po : plainOver K C8 = true)
    (d_sa : findIn K (.ref C8) "__setattr__" = some (some (.builtin "object.__setattr__")))
    (d_pages : findIn K (.ref C8) "pages" = some none)
    (d_width : findIn K (.ref C8) "width" = some none)
    (d_lasting : findIn K (.ref C8) "lasting" = some none)
    (d_texts : findIn K (.ref C8) "texts" = some none)
    (d_writes : findIn K (.ref C8) "writes" = some none)
    (d_left : findIn K (.ref C8) "left" = some none)
    (d_ca : findIn K (.ref C8) "__class__" = some (some (.builtin "object.__class__")))
    (d_mo : mroIn K C8 (.type "object") = some true)
    (d_mk : makesIn K C8 = true)
    (d_kc : keepIn K (.ref C8) = true)
    (m16 : findIn K (.ref C8) "__init__" = some (some (.ref f16)))
    (i16 : isFn K (.ref f16) = true)
    (l16 : K.lookup f16 = some ⟨u16, p16, .func (fnOf "__init__" "Disk.__init__" (defArgs s_Disk_init) (defBody s_Disk_init) (defScope s_Disk_init) .none v16 w16 x16 q16 y16 z16), s16⟩)
    (c16 : codeIn K y16 "Disk.__init__" = true)
    (k16 : keepIn K (.ref f16) = true)
    (m17 : findIn K (.ref C8) "check_page" = some (some (.ref f17)))
    (i17 : isFn K (.ref f17) = true)
    (l17 : K.lookup f17 = some ⟨u17, p17, .func (fnOf "check_page" "Disk.check_page" (defArgs s_Disk_check_page) (defBody s_Disk_check_page) (defScope s_Disk_check_page) .none v17 w17 x17 q17 y17 z17), s17⟩)
    (c17 : codeIn K y17 "Disk.check_page" = true)
    (k17 : keepIn K (.ref f17) = true)
    (m18 : findIn K (.ref C8) "spend" = some (some (.ref f18)))
    (i18 : isFn K (.ref f18) = true)
    (l18 : K.lookup f18 = some ⟨u18, p18, .func (fnOf "spend" "Disk.spend" (defArgs s_Disk_spend) (defBody s_Disk_spend) (defScope s_Disk_spend) .none v18 w18 x18 q18 y18 z18), s18⟩)
    (c18 : codeIn K y18 "Disk.spend" = true)
    (k18 : keepIn K (.ref f18) = true)
    (m19 : findIn K (.ref C8) "read" = some (some (.ref f19)))
    (i19 : isFn K (.ref f19) = true)
    (l19 : K.lookup f19 = some ⟨u19, p19, .func (fnOf "read" "Disk.read" (defArgs s_Disk_read) (defBody s_Disk_read) (defScope s_Disk_read) .none v19 w19 x19 q19 y19 z19), s19⟩)
    (c19 : codeIn K y19 "Disk.read" = true)
    (k19 : keepIn K (.ref f19) = true)
    (m20 : findIn K (.ref C8) "write" = some (some (.ref f20)))
    (i20 : isFn K (.ref f20) = true)
    (l20 : K.lookup f20 = some ⟨u20, p20, .func (fnOf "write" "Disk.write" (defArgs s_Disk_write) (defBody s_Disk_write) (defScope s_Disk_write) .none v20 w20 x20 q20 y20 z20), s20⟩)
    (c20 : codeIn K y20 "Disk.write" = true)
    (k20 : keepIn K (.ref f20) = true)
    (m21 : findIn K (.ref C8) "settle" = some (some (.ref f21)))
    (i21 : isFn K (.ref f21) = true)
    (l21 : K.lookup f21 = some ⟨u21, p21, .func (fnOf "settle" "Disk.settle" (defArgs s_Disk_settle) (defBody s_Disk_settle) (defScope s_Disk_settle) .none v21 w21 x21 q21 y21 z21), s21⟩)
    (c21 : codeIn K y21 "Disk.settle" = true)
    (k21 : keepIn K (.ref f21) = true)
    (m22 : findIn K (.ref C8) "loose" = some (some (.ref f22)))
    (i22 : isFn K (.ref f22) = true)
    (l22 : K.lookup f22 = some ⟨u22, p22, .func (fnOf "loose" "Disk.loose" (defArgs s_Disk_loose) (defBody s_Disk_loose) (defScope s_Disk_loose) .none v22 w22 x22 q22 y22 z22), s22⟩)
    (c22 : codeIn K y22 "Disk.loose" = true)
    (k22 : keepIn K (.ref f22) = true)
    (m23 : findIn K (.ref C8) "stop" = some (some (.ref f23)))
    (i23 : isFn K (.ref f23) = true)
    (l23 : K.lookup f23 = some ⟨u23, p23, .func (fnOf "stop" "Disk.stop" (defArgs s_Disk_stop) (defBody s_Disk_stop) (defScope s_Disk_stop) .none v23 w23 x23 q23 y23 z23), s23⟩)
    (c23 : codeIn K y23 "Disk.stop" = true)
    (k23 : keepIn K (.ref f23) = true)
    (m24 : findIn K (.ref C8) "cut" = some (some (.ref f24)))
    (i24 : isFn K (.ref f24) = true)
    (l24 : K.lookup f24 = some ⟨u24, p24, .func (fnOf "cut" "Disk.cut" (defArgs s_Disk_cut) (defBody s_Disk_cut) (defScope s_Disk_cut) .none v24 w24 x24 q24 y24 z24), s24⟩)
    (c24 : codeIn K y24 "Disk.cut" = true)
    (k24 : keepIn K (.ref f24) = true)
    (a7 : nsIn K mainGlobals "is_whole" = some (some (.ref f7)))
    (l7 : K.lookup f7 = some ⟨u7, p7, .func (fnOf "is_whole" "is_whole" (defArgs s_is_whole) (defBody s_is_whole) (defScope s_is_whole) .none v7 w7 x7 q7 y7 z7), s7⟩)
    (c7 : codeIn K y7 "is_whole" = true)
    (k7 : keepIn K (.ref f7) = true)
    (a8 : nsIn K mainGlobals "is_from_to" = some (some (.ref f8)))
    (l8 : K.lookup f8 = some ⟨u8, p8, .func (fnOf "is_from_to" "is_from_to" (defArgs s_is_from_to) (defBody s_is_from_to) (defScope s_is_from_to) .none v8 w8 x8 q8 y8 z8), s8⟩)
    (c8 : codeIn K y8 "is_from_to" = true)
    (k8 : keepIn K (.ref f8) = true)
    (a9 : nsIn K mainGlobals "is_index" = some (some (.ref f9)))
    (l9 : K.lookup f9 = some ⟨u9, p9, .func (fnOf "is_index" "is_index" (defArgs s_is_index) (defBody s_is_index) (defScope s_is_index) .none v9 w9 x9 q9 y9 z9), s9⟩)
    (c9 : codeIn K y9 "is_index" = true)
    (k9 : keepIn K (.ref f9) = true)
    (a10 : nsIn K mainGlobals "is_listed" = some (some (.ref f10)))
    (l10 : K.lookup f10 = some ⟨u10, p10, .func (fnOf "is_listed" "is_listed" (defArgs s_is_listed) (defBody s_is_listed) (defScope s_is_listed) .none v10 w10 x10 q10 y10 z10), s10⟩)
    (c10 : codeIn K y10 "is_listed" = true)
    (k10 : keepIn K (.ref f10) = true)
    (a11 : nsIn K mainGlobals "are_unlike" = some (some (.ref f11)))
    (l11 : K.lookup f11 = some ⟨u11, p11, .func (fnOf "are_unlike" "are_unlike" (defArgs s_are_unlike) (defBody s_are_unlike) (defScope s_are_unlike) .none v11 w11 x11 q11 y11 z11), s11⟩)
    (c11 : codeIn K y11 "are_unlike" = true)
    (k11 : keepIn K (.ref f11) = true)
    (a12 : nsIn K mainGlobals "ascend" = some (some (.ref f12)))
    (l12 : K.lookup f12 = some ⟨u12, p12, .func (fnOf "ascend" "ascend" (defArgs s_ascend) (defBody s_ascend) (defScope s_ascend) .none v12 w12 x12 q12 y12 z12), s12⟩)
    (c12 : codeIn K y12 "ascend" = true)
    (k12 : keepIn K (.ref f12) = true)
    (a13 : nsIn K mainGlobals "are_indices" = some (some (.ref f13)))
    (l13 : K.lookup f13 = some ⟨u13, p13, .func (fnOf "are_indices" "are_indices" (defArgs s_are_indices) (defBody s_are_indices) (defScope s_are_indices) .none v13 w13 x13 q13 y13 z13), s13⟩)
    (c13 : codeIn K y13 "are_indices" = true)
    (k13 : keepIn K (.ref f13) = true)
    (a14 : nsIn K mainGlobals "are_kept" = some (some (.ref f14)))
    (l14 : K.lookup f14 = some ⟨u14, p14, .func (fnOf "are_kept" "are_kept" (defArgs s_are_kept) (defBody s_are_kept) (defScope s_are_kept) .none v14 w14 x14 q14 y14 z14), s14⟩)
    (c14 : codeIn K y14 "are_kept" = true)
    (k14 : keepIn K (.ref f14) = true)
    (a15 : nsIn K mainGlobals "is_page_text" = some (some (.ref f15)))
    (l15 : K.lookup f15 = some ⟨u15, p15, .func (fnOf "is_page_text" "is_page_text" (defArgs s_is_page_text) (defBody s_is_page_text) (defScope s_is_page_text) .none v15 w15 x15 q15 y15 z15), s15⟩)
    (c15 : codeIn K y15 "is_page_text" = true)
    (k15 : keepIn K (.ref f15) = true)
    (a25 : nsIn K mainGlobals "_law_cell" = some (some (.ref f25)))
    (l25 : K.lookup f25 = some ⟨u25, p25, .func (fnOf "_law_cell" "_law_cell" (defArgs s_law_cell) (defBody s_law_cell) (defScope s_law_cell) .none v25 w25 x25 q25 y25 z25), s25⟩)
    (c25 : codeIn K y25 "_law_cell" = true)
    (k25 : keepIn K (.ref f25) = true)
    (a26 : nsIn K mainGlobals "_law_box" = some (some (.ref f26)))
    (l26 : K.lookup f26 = some ⟨u26, p26, .func (fnOf "_law_box" "_law_box" (defArgs s_law_box) (defBody s_law_box) (defScope s_law_box) .none v26 w26 x26 q26 y26 z26), s26⟩)
    (c26 : codeIn K y26 "_law_box" = true)
    (k26 : keepIn K (.ref f26) = true)
    (a27 : nsIn K mainGlobals "_law_take" = some (some (.ref f27)))
    (l27 : K.lookup f27 = some ⟨u27, p27, .func (fnOf "_law_take" "_law_take" (defArgs s_law_take) (defBody s_law_take) (defScope s_law_take) .none v27 w27 x27 q27 y27 z27), s27⟩)
    (c27 : codeIn K y27 "_law_take" = true)
    (k27 : keepIn K (.ref f27) = true)
    (a28 : nsIn K mainGlobals "_law_text" = some (some (.ref f28)))
    (l28 : K.lookup f28 = some ⟨u28, p28, .func (fnOf "_law_text" "_law_text" (defArgs s_law_text) (defBody s_law_text) (defScope s_law_text) .none v28 w28 x28 q28 y28 z28), s28⟩)
    (c28 : codeIn K y28 "_law_text" = true)
    (k28 : keepIn K (.ref f28) = true)
    (a29 : nsIn K mainGlobals "_law_good_text" = some (some (.ref f29)))
    (l29 : K.lookup f29 = some ⟨u29, p29, .func (fnOf "_law_good_text" "_law_good_text" (defArgs s_law_good_text) (defBody s_law_good_text) (defScope s_law_good_text) .none v29 w29 x29 q29 y29 z29), s29⟩)
    (c29 : codeIn K y29 "_law_good_text" = true)
    (k29 : keepIn K (.ref f29) = true)
    (a30 : nsIn K mainGlobals "_law_bad_text" = some (some (.ref f30)))
    (l30 : K.lookup f30 = some ⟨u30, p30, .func (fnOf "_law_bad_text" "_law_bad_text" (defArgs s_law_bad_text) (defBody s_law_bad_text) (defScope s_law_bad_text) .none v30 w30 x30 q30 y30 z30), s30⟩)
    (c30 : codeIn K y30 "_law_bad_text" = true)
    (k30 : keepIn K (.ref f30) = true)
    (a31 : nsIn K mainGlobals "_law_bad_page" = some (some (.ref f31)))
    (l31 : K.lookup f31 = some ⟨u31, p31, .func (fnOf "_law_bad_page" "_law_bad_page" (defArgs s_law_bad_page) (defBody s_law_bad_page) (defScope s_law_bad_page) .none v31 w31 x31 q31 y31 z31), s31⟩)
    (c31 : codeIn K y31 "_law_bad_page" = true)
    (k31 : keepIn K (.ref f31) = true)
    (a32 : nsIn K mainGlobals "_law_bad_count" = some (some (.ref f32)))
    (l32 : K.lookup f32 = some ⟨u32, p32, .func (fnOf "_law_bad_count" "_law_bad_count" (defArgs s_law_bad_count) (defBody s_law_bad_count) (defScope s_law_bad_count) .none v32 w32 x32 q32 y32 z32), s32⟩)
    (c32 : codeIn K y32 "_law_bad_count" = true)
    (k32 : keepIn K (.ref f32) = true)
    (a33 : nsIn K mainGlobals "_law_bad_size" = some (some (.ref f33)))
    (l33 : K.lookup f33 = some ⟨u33, p33, .func (fnOf "_law_bad_size" "_law_bad_size" (defArgs s_law_bad_size) (defBody s_law_bad_size) (defScope s_law_bad_size) .none v33 w33 x33 q33 y33 z33), s33⟩)
    (c33 : codeIn K y33 "_law_bad_size" = true)
    (k33 : keepIn K (.ref f33) = true)
    (a34 : nsIn K mainGlobals "_law_same" = some (some (.ref f34)))
    (l34 : K.lookup f34 = some ⟨u34, p34, .func (fnOf "_law_same" "_law_same" (defArgs s_law_same) (defBody s_law_same) (defScope s_law_same) .none v34 w34 x34 q34 y34 z34), s34⟩)
    (c34 : codeIn K y34 "_law_same" = true)
    (k34 : keepIn K (.ref f34) = true)
    (a35 : nsIn K mainGlobals "_law_made" = some (some (.ref f35)))
    (l35 : K.lookup f35 = some ⟨u35, p35, .func (fnOf "_law_made" "_law_made" (defArgs s_law_made) (defBody s_law_made) (defScope s_law_made) .none v35 w35 x35 q35 y35 z35), s35⟩)
    (c35 : codeIn K y35 "_law_made" = true)
    (k35 : keepIn K (.ref f35) = true)
    (a36 : nsIn K mainGlobals "_law_write" = some (some (.ref f36)))
    (l36 : K.lookup f36 = some ⟨u36, p36, .func (fnOf "_law_write" "_law_write" (defArgs s_law_write) (defBody s_law_write) (defScope s_law_write) .none v36 w36 x36 q36 y36 z36), s36⟩)
    (c36 : codeIn K y36 "_law_write" = true)
    (k36 : keepIn K (.ref f36) = true)
    (a37 : nsIn K mainGlobals "_law_settle" = some (some (.ref f37)))
    (l37 : K.lookup f37 = some ⟨u37, p37, .func (fnOf "_law_settle" "_law_settle" (defArgs s_law_settle) (defBody s_law_settle) (defScope s_law_settle) .none v37 w37 x37 q37 y37 z37), s37⟩)
    (c37 : codeIn K y37 "_law_settle" = true)
    (k37 : keepIn K (.ref f37) = true)
    (a38 : nsIn K mainGlobals "_law_read" = some (some (.ref f38)))
    (l38 : K.lookup f38 = some ⟨u38, p38, .func (fnOf "_law_read" "_law_read" (defArgs s_law_read) (defBody s_law_read) (defScope s_law_read) .none v38 w38 x38 q38 y38 z38), s38⟩)
    (c38 : codeIn K y38 "_law_read" = true)
    (k38 : keepIn K (.ref f38) = true)
    (a39 : nsIn K mainGlobals "_law_stop" = some (some (.ref f39)))
    (l39 : K.lookup f39 = some ⟨u39, p39, .func (fnOf "_law_stop" "_law_stop" (defArgs s_law_stop) (defBody s_law_stop) (defScope s_law_stop) .none v39 w39 x39 q39 y39 z39), s39⟩)
    (c39 : codeIn K y39 "_law_stop" = true)
    (k39 : keepIn K (.ref f39) = true)
    (a40 : nsIn K mainGlobals "_law_new" = some (some (.ref f40)))
    (l40 : K.lookup f40 = some ⟨u40, p40, .func (fnOf "_law_new" "_law_new" (defArgs s_law_new) (defBody s_law_new) (defScope s_law_new) .none v40 w40 x40 q40 y40 z40), s40⟩)
    (c40 : codeIn K y40 "_law_new" = true)
    (k40 : keepIn K (.ref f40) = true)
    (a41 : nsIn K mainGlobals "_law_let" = some (some (.ref f41)))
    (l41 : K.lookup f41 = some ⟨u41, p41, .func (fnOf "_law_let" "_law_let" (defArgs s_law_let) (defBody s_law_let) (defScope s_law_let) .none v41 w41 x41 q41 y41 z41), s41⟩)
    (c41 : codeIn K y41 "_law_let" = true)
    (k41 : keepIn K (.ref f41) = true)
    (a42 : nsIn K mainGlobals "_law_state_right" = some (some (.ref f42)))
    (l42 : K.lookup f42 = some ⟨u42, p42, .func (fnOf "_law_state_right" "_law_state_right" (defArgs s_law_state_right) (defBody s_law_state_right) (defScope s_law_state_right) .none v42 w42 x42 q42 y42 z42), s42⟩)
    (c42 : codeIn K y42 "_law_state_right" = true)
    (k42 : keepIn K (.ref f42) = true)
    (a43 : nsIn K mainGlobals "_law_write_right" = some (some (.ref f43)))
    (l43 : K.lookup f43 = some ⟨u43, p43, .func (fnOf "_law_write_right" "_law_write_right" (defArgs s_law_write_right) (defBody s_law_write_right) (defScope s_law_write_right) .none v43 w43 x43 q43 y43 z43), s43⟩)
    (c43 : codeIn K y43 "_law_write_right" = true)
    (k43 : keepIn K (.ref f43) = true)
    (a44 : nsIn K mainGlobals "_law_settle_right" = some (some (.ref f44)))
    (l44 : K.lookup f44 = some ⟨u44, p44, .func (fnOf "_law_settle_right" "_law_settle_right" (defArgs s_law_settle_right) (defBody s_law_settle_right) (defScope s_law_settle_right) .none v44 w44 x44 q44 y44 z44), s44⟩)
    (c44 : codeIn K y44 "_law_settle_right" = true)
    (k44 : keepIn K (.ref f44) = true)
    (a45 : nsIn K mainGlobals "_law_stop_right" = some (some (.ref f45)))
    (l45 : K.lookup f45 = some ⟨u45, p45, .func (fnOf "_law_stop_right" "_law_stop_right" (defArgs s_law_stop_right) (defBody s_law_stop_right) (defScope s_law_stop_right) .none v45 w45 x45 q45 y45 z45), s45⟩)
    (c45 : codeIn K y45 "_law_stop_right" = true)
    (k45 : keepIn K (.ref f45) = true)
    (a46 : nsIn K mainGlobals "_law_loose_right" = some (some (.ref f46)))
    (l46 : K.lookup f46 = some ⟨u46, p46, .func (fnOf "_law_loose_right" "_law_loose_right" (defArgs s_law_loose_right) (defBody s_law_loose_right) (defScope s_law_loose_right) .none v46 w46 x46 q46 y46 z46), s46⟩)
    (c46 : codeIn K y46 "_law_loose_right" = true)
    (k46 : keepIn K (.ref f46) = true)
    (a47 : nsIn K mainGlobals "_law_deed_right" = some (some (.ref f47)))
    (l47 : K.lookup f47 = some ⟨u47, p47, .func (fnOf "_law_deed_right" "_law_deed_right" (defArgs s_law_deed_right) (defBody s_law_deed_right) (defScope s_law_deed_right) .none v47 w47 x47 q47 y47 z47), s47⟩)
    (c47 : codeIn K y47 "_law_deed_right" = true)
    (k47 : keepIn K (.ref f47) = true)
    (a48 : nsIn K mainGlobals "_law_stopped_right" = some (some (.ref f48)))
    (l48 : K.lookup f48 = some ⟨u48, p48, .func (fnOf "_law_stopped_right" "_law_stopped_right" (defArgs s_law_stopped_right) (defBody s_law_stopped_right) (defScope s_law_stopped_right) .none v48 w48 x48 q48 y48 z48), s48⟩)
    (c48 : codeIn K y48 "_law_stopped_right" = true)
    (k48 : keepIn K (.ref f48) = true)
    (a49 : nsIn K mainGlobals "_law_sizes_right" = some (some (.ref f49)))
    (l49 : K.lookup f49 = some ⟨u49, p49, .func (fnOf "_law_sizes_right" "_law_sizes_right" (defArgs s_law_sizes_right) (defBody s_law_sizes_right) (defScope s_law_sizes_right) .none v49 w49 x49 q49 y49 z49), s49⟩)
    (c49 : codeIn K y49 "_law_sizes_right" = true)
    (k49 : keepIn K (.ref f49) = true)
    (a50 : nsIn K mainGlobals "_law_pair_right" = some (some (.ref f50)))
    (l50 : K.lookup f50 = some ⟨u50, p50, .func (fnOf "_law_pair_right" "_law_pair_right" (defArgs s_law_pair_right) (defBody s_law_pair_right) (defScope s_law_pair_right) .none v50 w50 x50 q50 y50 z50), s50⟩)
    (c50 : codeIn K y50 "_law_pair_right" = true)
    (k50 : keepIn K (.ref f50) = true)
    (a51 : nsIn K mainGlobals "_law_long_right" = some (some (.ref f51)))
    (l51 : K.lookup f51 = some ⟨u51, p51, .func (fnOf "_law_long_right" "_law_long_right" (defArgs s_law_long_right) (defBody s_law_long_right) (defScope s_law_long_right) .none v51 w51 x51 q51 y51 z51), s51⟩)
    (c51 : codeIn K y51 "_law_long_right" = true)
    (k51 : keepIn K (.ref f51) = true)
    (a52 : nsIn K mainGlobals "_law_first" = some (some (.ref f52)))
    (l52 : K.lookup f52 = some ⟨u52, p52, .func (fnOf "_law_first" "_law_first" (defArgs s_law_first) (defBody s_law_first) (defScope s_law_first) .none v52 w52 x52 q52 y52 z52), s52⟩)
    (c52 : codeIn K y52 "_law_first" = true)
    (k52 : keepIn K (.ref f52) = true)
    (a53 : nsIn K mainGlobals "_law_text_too" = some (some (.ref f53)))
    (l53 : K.lookup f53 = some ⟨u53, p53, .func (fnOf "_law_text_too" "_law_text_too" (defArgs s_law_text_too) (defBody s_law_text_too) (defScope s_law_text_too) .none v53 w53 x53 q53 y53 z53), s53⟩)
    (c53 : codeIn K y53 "_law_text_too" = true)
    (k53 : keepIn K (.ref f53) = true)
    (a54 : nsIn K mainGlobals "_law_behind" = some (some (.ref f54)))
    (l54 : K.lookup f54 = some ⟨u54, p54, .func (fnOf "_law_behind" "_law_behind" (defArgs s_law_behind) (defBody s_law_behind) (defScope s_law_behind) .none v54 w54 x54 q54 y54 z54), s54⟩)
    (c54 : codeIn K y54 "_law_behind" = true)
    (k54 : keepIn K (.ref f54) = true)
    (a55 : nsIn K mainGlobals "_law_cut_of" = some (some (.ref f55)))
    (l55 : K.lookup f55 = some ⟨u55, p55, .func (fnOf "_law_cut_of" "_law_cut_of" (defArgs s_law_cut_of) (defBody s_law_cut_of) (defScope s_law_cut_of) .none v55 w55 x55 q55 y55 z55), s55⟩)
    (c55 : codeIn K y55 "_law_cut_of" = true)
    (k55 : keepIn K (.ref f55) = true)
    (a56 : nsIn K mainGlobals "_law_state_right_too" = some (some (.ref f56)))
    (l56 : K.lookup f56 = some ⟨u56, p56, .func (fnOf "_law_state_right_too" "_law_state_right_too" (defArgs s_law_state_right_too) (defBody s_law_state_right_too) (defScope s_law_state_right_too) .none v56 w56 x56 q56 y56 z56), s56⟩)
    (c56 : codeIn K y56 "_law_state_right_too" = true)
    (k56 : keepIn K (.ref f56) = true)
    (a57 : nsIn K mainGlobals "_law_wrote" = some (some (.ref f57)))
    (l57 : K.lookup f57 = some ⟨u57, p57, .func (fnOf "_law_wrote" "_law_wrote" (defArgs s_law_wrote) (defBody s_law_wrote) (defScope s_law_wrote) .none v57 w57 x57 q57 y57 z57), s57⟩)
    (c57 : codeIn K y57 "_law_wrote" = true)
    (k57 : keepIn K (.ref f57) = true)
    (a58 : nsIn K mainGlobals "_law_settled" = some (some (.ref f58)))
    (l58 : K.lookup f58 = some ⟨u58, p58, .func (fnOf "_law_settled" "_law_settled" (defArgs s_law_settled) (defBody s_law_settled) (defScope s_law_settled) .none v58 w58 x58 q58 y58 z58), s58⟩)
    (c58 : codeIn K y58 "_law_settled" = true)
    (k58 : keepIn K (.ref f58) = true)
    (a59 : nsIn K mainGlobals "_law_stopped" = some (some (.ref f59)))
    (l59 : K.lookup f59 = some ⟨u59, p59, .func (fnOf "_law_stopped" "_law_stopped" (defArgs s_law_stopped) (defBody s_law_stopped) (defScope s_law_stopped) .none v59 w59 x59 q59 y59 z59), s59⟩)
    (c59 : codeIn K y59 "_law_stopped" = true)
    (k59 : keepIn K (.ref f59) = true)
    (a60 : nsIn K mainGlobals "_law_cut" = some (some (.ref f60)))
    (l60 : K.lookup f60 = some ⟨u60, p60, .func (fnOf "_law_cut" "_law_cut" (defArgs s_law_cut) (defBody s_law_cut) (defScope s_law_cut) .none v60 w60 x60 q60 y60 z60), s60⟩)
    (c60 : codeIn K y60 "_law_cut" = true)
    (k60 : keepIn K (.ref f60) = true)
    (a61 : nsIn K mainGlobals "_law_bad_done" = some (some (.ref f61)))
    (l61 : K.lookup f61 = some ⟨u61, p61, .func (fnOf "_law_bad_done" "_law_bad_done" (defArgs s_law_bad_done) (defBody s_law_bad_done) (defScope s_law_bad_done) .none v61 w61 x61 q61 y61 z61), s61⟩)
    (c61 : codeIn K y61 "_law_bad_done" = true)
    (k61 : keepIn K (.ref f61) = true)
    (a62 : nsIn K mainGlobals "_law_lists" = some (some (.ref f62)))
    (l62 : K.lookup f62 = some ⟨u62, p62, .func (fnOf "_law_lists" "_law_lists" (defArgs s_law_lists) (defBody s_law_lists) (defScope s_law_lists) .none v62 w62 x62 q62 y62 z62), s62⟩)
    (c62 : codeIn K y62 "_law_lists" = true)
    (k62 : keepIn K (.ref f62) = true)
    (a63 : nsIn K mainGlobals "_law_refused_right" = some (some (.ref f63)))
    (l63 : K.lookup f63 = some ⟨u63, p63, .func (fnOf "_law_refused_right" "_law_refused_right" (defArgs s_law_refused_right) (defBody s_law_refused_right) (defScope s_law_refused_right) .none v63 w63 x63 q63 y63 z63), s63⟩)
    (c63 : codeIn K y63 "_law_refused_right" = true)
    (k63 : keepIn K (.ref f63) = true)
    (a64 : nsIn K mainGlobals "_law_one_right" = some (some (.ref f64)))
    (l64 : K.lookup f64 = some ⟨u64, p64, .func (fnOf "_law_one_right" "_law_one_right" (defArgs s_law_one_right) (defBody s_law_one_right) (defScope s_law_one_right) .none v64 w64 x64 q64 y64 z64), s64⟩)
    (c64 : codeIn K y64 "_law_one_right" = true)
    (k64 : keepIn K (.ref f64) = true)
    (a65 : nsIn K mainGlobals "_law_grown" = some (some (.ref f65)))
    (l65 : K.lookup f65 = some ⟨u65, p65, .func (fnOf "_law_grown" "_law_grown" (defArgs s_law_grown) (defBody s_law_grown) (defScope s_law_grown) .none v65 w65 x65 q65 y65 z65), s65⟩)
    (c65 : codeIn K y65 "_law_grown" = true)
    (k65 : keepIn K (.ref f65) = true)
    (a66 : nsIn K mainGlobals "_law_chain_right" = some (some (.ref f66)))
    (l66 : K.lookup f66 = some ⟨u66, p66, .func (fnOf "_law_chain_right" "_law_chain_right" (defArgs s_law_chain_right) (defBody s_law_chain_right) (defScope s_law_chain_right) .none v66 w66 x66 q66 y66 z66), s66⟩)
    (c66 : codeIn K y66 "_law_chain_right" = true)
    (k66 : keepIn K (.ref f66) = true)
    (a67 : nsIn K mainGlobals "_law_great_right" = some (some (.ref f67)))
    (l67 : K.lookup f67 = some ⟨u67, p67, .func (fnOf "_law_great_right" "_law_great_right" (defArgs s_law_great_right) (defBody s_law_great_right) (defScope s_law_great_right) .none v67 w67 x67 q67 y67 z67), s67⟩)
    (c67 : codeIn K y67 "_law_great_right" = true)
    (k67 : keepIn K (.ref f67) = true)
    (a68 : nsIn K mainGlobals "_law_second" = some (some (.ref f68)))
    (l68 : K.lookup f68 = some ⟨u68, p68, .func (fnOf "_law_second" "_law_second" (defArgs s_law_second) (defBody s_law_second) (defScope s_law_second) .none v68 w68 x68 q68 y68 z68), s68⟩)
    (c68 : codeIn K y68 "_law_second" = true)
    (k68 : keepIn K (.ref f68) = true)
    (a69 : nsIn K mainGlobals "law" = some (some (.ref f69)))
    (l69 : K.lookup f69 = some ⟨u69, p69, .func (fnOf "law" "law" (defArgs s_law) (defBody s_law) (defScope s_law) .none v69 w69 x69 q69 y69 z69), s69⟩)
    (c69 : codeIn K y69 "law" = true)
    (k69 : keepIn K (.ref f69) = true)
    : ∃ (fd : FuncData) (a : Nat → Addr × FuncData) (c : Nat → Addr), Wd K mg a c ∧ a 69 = (fa, fd) ∧ ∀ (s : Shared) (u : Value), BindsTo s fd ⟨[u], []⟩ [("script", u)] := by
  have e := hfa.symm.trans (mg_of X G a69)
  cases e
  refine ⟨fnOf "law" "law" (defArgs s_law) (defBody s_law) (defScope s_law) .none v69 w69 x69 q69 y69 z69, fun n => ([(f0, fnOf "__init__" "InvalidText.__init__" (defArgs s_InvalidText_init) (defBody s_InvalidText_init) (defScope s_InvalidText_init) .none v0 w0 x0 q0 y0 z0), (f1, fnOf "__init__" "InvalidWidth.__init__" (defArgs s_InvalidWidth_init) (defBody s_InvalidWidth_init) (defScope s_InvalidWidth_init) .none v1 w1 x1 q1 y1 z1), (f2, fnOf "__init__" "InvalidPages.__init__" (defArgs s_InvalidPages_init) (defBody s_InvalidPages_init) (defScope s_InvalidPages_init) .none v2 w2 x2 q2 y2 z2), (f3, fnOf "__init__" "InvalidPage.__init__" (defArgs s_InvalidPage_init) (defBody s_InvalidPage_init) (defScope s_InvalidPage_init) .none v3 w3 x3 q3 y3 z3), (f4, fnOf "__init__" "InvalidCount.__init__" (defArgs s_InvalidCount_init) (defBody s_InvalidCount_init) (defScope s_InvalidCount_init) .none v4 w4 x4 q4 y4 z4), (f5, fnOf "__init__" "InvalidDone.__init__" (defArgs s_InvalidDone_init) (defBody s_InvalidDone_init) (defScope s_InvalidDone_init) .none v5 w5 x5 q5 y5 z5), (f6, fnOf "__init__" "PowerCut.__init__" (defArgs s_PowerCut_init) (defBody s_PowerCut_init) (defScope s_PowerCut_init) .none v6 w6 x6 q6 y6 z6), (f7, fnOf "is_whole" "is_whole" (defArgs s_is_whole) (defBody s_is_whole) (defScope s_is_whole) .none v7 w7 x7 q7 y7 z7), (f8, fnOf "is_from_to" "is_from_to" (defArgs s_is_from_to) (defBody s_is_from_to) (defScope s_is_from_to) .none v8 w8 x8 q8 y8 z8), (f9, fnOf "is_index" "is_index" (defArgs s_is_index) (defBody s_is_index) (defScope s_is_index) .none v9 w9 x9 q9 y9 z9), (f10, fnOf "is_listed" "is_listed" (defArgs s_is_listed) (defBody s_is_listed) (defScope s_is_listed) .none v10 w10 x10 q10 y10 z10), (f11, fnOf "are_unlike" "are_unlike" (defArgs s_are_unlike) (defBody s_are_unlike) (defScope s_are_unlike) .none v11 w11 x11 q11 y11 z11), (f12, fnOf "ascend" "ascend" (defArgs s_ascend) (defBody s_ascend) (defScope s_ascend) .none v12 w12 x12 q12 y12 z12), (f13, fnOf "are_indices" "are_indices" (defArgs s_are_indices) (defBody s_are_indices) (defScope s_are_indices) .none v13 w13 x13 q13 y13 z13), (f14, fnOf "are_kept" "are_kept" (defArgs s_are_kept) (defBody s_are_kept) (defScope s_are_kept) .none v14 w14 x14 q14 y14 z14), (f15, fnOf "is_page_text" "is_page_text" (defArgs s_is_page_text) (defBody s_is_page_text) (defScope s_is_page_text) .none v15 w15 x15 q15 y15 z15), (f16, fnOf "__init__" "Disk.__init__" (defArgs s_Disk_init) (defBody s_Disk_init) (defScope s_Disk_init) .none v16 w16 x16 q16 y16 z16), (f17, fnOf "check_page" "Disk.check_page" (defArgs s_Disk_check_page) (defBody s_Disk_check_page) (defScope s_Disk_check_page) .none v17 w17 x17 q17 y17 z17), (f18, fnOf "spend" "Disk.spend" (defArgs s_Disk_spend) (defBody s_Disk_spend) (defScope s_Disk_spend) .none v18 w18 x18 q18 y18 z18), (f19, fnOf "read" "Disk.read" (defArgs s_Disk_read) (defBody s_Disk_read) (defScope s_Disk_read) .none v19 w19 x19 q19 y19 z19), (f20, fnOf "write" "Disk.write" (defArgs s_Disk_write) (defBody s_Disk_write) (defScope s_Disk_write) .none v20 w20 x20 q20 y20 z20), (f21, fnOf "settle" "Disk.settle" (defArgs s_Disk_settle) (defBody s_Disk_settle) (defScope s_Disk_settle) .none v21 w21 x21 q21 y21 z21), (f22, fnOf "loose" "Disk.loose" (defArgs s_Disk_loose) (defBody s_Disk_loose) (defScope s_Disk_loose) .none v22 w22 x22 q22 y22 z22), (f23, fnOf "stop" "Disk.stop" (defArgs s_Disk_stop) (defBody s_Disk_stop) (defScope s_Disk_stop) .none v23 w23 x23 q23 y23 z23), (f24, fnOf "cut" "Disk.cut" (defArgs s_Disk_cut) (defBody s_Disk_cut) (defScope s_Disk_cut) .none v24 w24 x24 q24 y24 z24), (f25, fnOf "_law_cell" "_law_cell" (defArgs s_law_cell) (defBody s_law_cell) (defScope s_law_cell) .none v25 w25 x25 q25 y25 z25), (f26, fnOf "_law_box" "_law_box" (defArgs s_law_box) (defBody s_law_box) (defScope s_law_box) .none v26 w26 x26 q26 y26 z26), (f27, fnOf "_law_take" "_law_take" (defArgs s_law_take) (defBody s_law_take) (defScope s_law_take) .none v27 w27 x27 q27 y27 z27), (f28, fnOf "_law_text" "_law_text" (defArgs s_law_text) (defBody s_law_text) (defScope s_law_text) .none v28 w28 x28 q28 y28 z28), (f29, fnOf "_law_good_text" "_law_good_text" (defArgs s_law_good_text) (defBody s_law_good_text) (defScope s_law_good_text) .none v29 w29 x29 q29 y29 z29), (f30, fnOf "_law_bad_text" "_law_bad_text" (defArgs s_law_bad_text) (defBody s_law_bad_text) (defScope s_law_bad_text) .none v30 w30 x30 q30 y30 z30), (f31, fnOf "_law_bad_page" "_law_bad_page" (defArgs s_law_bad_page) (defBody s_law_bad_page) (defScope s_law_bad_page) .none v31 w31 x31 q31 y31 z31), (f32, fnOf "_law_bad_count" "_law_bad_count" (defArgs s_law_bad_count) (defBody s_law_bad_count) (defScope s_law_bad_count) .none v32 w32 x32 q32 y32 z32), (f33, fnOf "_law_bad_size" "_law_bad_size" (defArgs s_law_bad_size) (defBody s_law_bad_size) (defScope s_law_bad_size) .none v33 w33 x33 q33 y33 z33), (f34, fnOf "_law_same" "_law_same" (defArgs s_law_same) (defBody s_law_same) (defScope s_law_same) .none v34 w34 x34 q34 y34 z34), (f35, fnOf "_law_made" "_law_made" (defArgs s_law_made) (defBody s_law_made) (defScope s_law_made) .none v35 w35 x35 q35 y35 z35), (f36, fnOf "_law_write" "_law_write" (defArgs s_law_write) (defBody s_law_write) (defScope s_law_write) .none v36 w36 x36 q36 y36 z36), (f37, fnOf "_law_settle" "_law_settle" (defArgs s_law_settle) (defBody s_law_settle) (defScope s_law_settle) .none v37 w37 x37 q37 y37 z37), (f38, fnOf "_law_read" "_law_read" (defArgs s_law_read) (defBody s_law_read) (defScope s_law_read) .none v38 w38 x38 q38 y38 z38), (f39, fnOf "_law_stop" "_law_stop" (defArgs s_law_stop) (defBody s_law_stop) (defScope s_law_stop) .none v39 w39 x39 q39 y39 z39), (f40, fnOf "_law_new" "_law_new" (defArgs s_law_new) (defBody s_law_new) (defScope s_law_new) .none v40 w40 x40 q40 y40 z40), (f41, fnOf "_law_let" "_law_let" (defArgs s_law_let) (defBody s_law_let) (defScope s_law_let) .none v41 w41 x41 q41 y41 z41), (f42, fnOf "_law_state_right" "_law_state_right" (defArgs s_law_state_right) (defBody s_law_state_right) (defScope s_law_state_right) .none v42 w42 x42 q42 y42 z42), (f43, fnOf "_law_write_right" "_law_write_right" (defArgs s_law_write_right) (defBody s_law_write_right) (defScope s_law_write_right) .none v43 w43 x43 q43 y43 z43), (f44, fnOf "_law_settle_right" "_law_settle_right" (defArgs s_law_settle_right) (defBody s_law_settle_right) (defScope s_law_settle_right) .none v44 w44 x44 q44 y44 z44), (f45, fnOf "_law_stop_right" "_law_stop_right" (defArgs s_law_stop_right) (defBody s_law_stop_right) (defScope s_law_stop_right) .none v45 w45 x45 q45 y45 z45), (f46, fnOf "_law_loose_right" "_law_loose_right" (defArgs s_law_loose_right) (defBody s_law_loose_right) (defScope s_law_loose_right) .none v46 w46 x46 q46 y46 z46), (f47, fnOf "_law_deed_right" "_law_deed_right" (defArgs s_law_deed_right) (defBody s_law_deed_right) (defScope s_law_deed_right) .none v47 w47 x47 q47 y47 z47), (f48, fnOf "_law_stopped_right" "_law_stopped_right" (defArgs s_law_stopped_right) (defBody s_law_stopped_right) (defScope s_law_stopped_right) .none v48 w48 x48 q48 y48 z48), (f49, fnOf "_law_sizes_right" "_law_sizes_right" (defArgs s_law_sizes_right) (defBody s_law_sizes_right) (defScope s_law_sizes_right) .none v49 w49 x49 q49 y49 z49), (f50, fnOf "_law_pair_right" "_law_pair_right" (defArgs s_law_pair_right) (defBody s_law_pair_right) (defScope s_law_pair_right) .none v50 w50 x50 q50 y50 z50), (f51, fnOf "_law_long_right" "_law_long_right" (defArgs s_law_long_right) (defBody s_law_long_right) (defScope s_law_long_right) .none v51 w51 x51 q51 y51 z51), (f52, fnOf "_law_first" "_law_first" (defArgs s_law_first) (defBody s_law_first) (defScope s_law_first) .none v52 w52 x52 q52 y52 z52), (f53, fnOf "_law_text_too" "_law_text_too" (defArgs s_law_text_too) (defBody s_law_text_too) (defScope s_law_text_too) .none v53 w53 x53 q53 y53 z53), (f54, fnOf "_law_behind" "_law_behind" (defArgs s_law_behind) (defBody s_law_behind) (defScope s_law_behind) .none v54 w54 x54 q54 y54 z54), (f55, fnOf "_law_cut_of" "_law_cut_of" (defArgs s_law_cut_of) (defBody s_law_cut_of) (defScope s_law_cut_of) .none v55 w55 x55 q55 y55 z55), (f56, fnOf "_law_state_right_too" "_law_state_right_too" (defArgs s_law_state_right_too) (defBody s_law_state_right_too) (defScope s_law_state_right_too) .none v56 w56 x56 q56 y56 z56), (f57, fnOf "_law_wrote" "_law_wrote" (defArgs s_law_wrote) (defBody s_law_wrote) (defScope s_law_wrote) .none v57 w57 x57 q57 y57 z57), (f58, fnOf "_law_settled" "_law_settled" (defArgs s_law_settled) (defBody s_law_settled) (defScope s_law_settled) .none v58 w58 x58 q58 y58 z58), (f59, fnOf "_law_stopped" "_law_stopped" (defArgs s_law_stopped) (defBody s_law_stopped) (defScope s_law_stopped) .none v59 w59 x59 q59 y59 z59), (f60, fnOf "_law_cut" "_law_cut" (defArgs s_law_cut) (defBody s_law_cut) (defScope s_law_cut) .none v60 w60 x60 q60 y60 z60), (f61, fnOf "_law_bad_done" "_law_bad_done" (defArgs s_law_bad_done) (defBody s_law_bad_done) (defScope s_law_bad_done) .none v61 w61 x61 q61 y61 z61), (f62, fnOf "_law_lists" "_law_lists" (defArgs s_law_lists) (defBody s_law_lists) (defScope s_law_lists) .none v62 w62 x62 q62 y62 z62), (f63, fnOf "_law_refused_right" "_law_refused_right" (defArgs s_law_refused_right) (defBody s_law_refused_right) (defScope s_law_refused_right) .none v63 w63 x63 q63 y63 z63), (f64, fnOf "_law_one_right" "_law_one_right" (defArgs s_law_one_right) (defBody s_law_one_right) (defScope s_law_one_right) .none v64 w64 x64 q64 y64 z64), (f65, fnOf "_law_grown" "_law_grown" (defArgs s_law_grown) (defBody s_law_grown) (defScope s_law_grown) .none v65 w65 x65 q65 y65 z65), (f66, fnOf "_law_chain_right" "_law_chain_right" (defArgs s_law_chain_right) (defBody s_law_chain_right) (defScope s_law_chain_right) .none v66 w66 x66 q66 y66 z66), (f67, fnOf "_law_great_right" "_law_great_right" (defArgs s_law_great_right) (defBody s_law_great_right) (defScope s_law_great_right) .none v67 w67 x67 q67 y67 z67), (f68, fnOf "_law_second" "_law_second" (defArgs s_law_second) (defBody s_law_second) (defScope s_law_second) .none v68 w68 x68 q68 y68 z68), (fa, fnOf "law" "law" (defArgs s_law) (defBody s_law) (defScope s_law) .none v69 w69 x69 q69 y69 z69)] : List (Addr × FuncData)).getD n (0, fnOf "law" "law" (defArgs s_law) (defBody s_law) (defScope s_law) .none v69 w69 x69 q69 y69 z69), fun n => ([C0, C1, C2, C3, C4, C5, C6, C7, C8] : List Addr).getD n 0, ?_, rfl, fun s u => .of_eq rfl⟩
  exact {
    n_len := mg_none_of X G n_len,
    n_abs := mg_none_of X G n_abs,
    n_all := mg_none_of X G n_all,
    n_sum := mg_none_of X G n_sum,
    n_max := mg_none_of X G n_max,
    n_min := mg_none_of X G n_min,
    n_repr := mg_none_of X G n_repr,
    n_isinstance := mg_none_of X G n_isinstance,
    n_int := mg_none_of X G n_int,
    n_str := mg_none_of X G n_str,
    n_list := mg_none_of X G n_list,
    n_tuple := mg_none_of X G n_tuple,
    n_range := mg_none_of X G n_range,
    n_set := mg_none_of X G n_set,
    n_bool := mg_none_of X G n_bool,
    k_LEAST_PAGES := ⟨_, mg_of X G k_LEAST_PAGES, t_LEAST_PAGES, rfl⟩,
    k_MOST_PAGES := ⟨_, mg_of X G k_MOST_PAGES, t_MOST_PAGES, rfl⟩,
    k_LEAST_WIDTH := ⟨_, mg_of X G k_LEAST_WIDTH, t_LEAST_WIDTH, rfl⟩,
    k_MOST_WIDTH := ⟨_, mg_of X G k_MOST_WIDTH, t_MOST_WIDTH, rfl⟩,
    eb := ⟨mg_of X G aC0, b_rd, b_ga, b_ini, b_ex, b_ty, b_hd, b_gc, b_tk⟩,
    mg_EarlierError := mg_of X G aC0,
    mg_InvalidText := mg_of X G aC1,
    mg_InvalidWidth := mg_of X G aC2,
    mg_InvalidPages := mg_of X G aC3,
    mg_InvalidPage := mg_of X G aC4,
    mg_InvalidCount := mg_of X G aC5,
    mg_InvalidDone := mg_of X G aC6,
    mg_PowerCut := mg_of X G aC7,
    mg_Disk := mg_of X G aC8,
    cl := ⟨d_pg, d_hd, d_po, d_sa⟩,
    a_pages := d_pages,
    a_width := d_width,
    a_lasting := d_lasting,
    a_texts := d_texts,
    a_writes := d_writes,
    a_left := d_left,
    ss_InvalidText := e1_ss,
    ss_InvalidWidth := e2_ss,
    ss_InvalidPages := e3_ss,
    ss_InvalidPage := e4_ss,
    ss_InvalidCount := e5_ss,
    ss_InvalidDone := e6_ss,
    ss_PowerCut := e7_ss,
    sf_InvalidWidth_InvalidPages := sf_InvalidWidth_InvalidPages,
    sf_InvalidText_InvalidPage := sf_InvalidText_InvalidPage,
    sf_PowerCut_InvalidPage := sf_PowerCut_InvalidPage,
    sf_PowerCut_InvalidText := sf_PowerCut_InvalidText,
    dcC := d_ca,
    dmo := d_mo,
    e_InvalidText := ⟨mg_of X G aC1, ⟨⟨_, _, _, _, _, _, _, _, _, _, _, _, _, _, e1_cls⟩, e1_sa, e1_ga, e1_gg, e1_ex, e1_ty, e1_kc, e1_hd, e1_ca, e1_mo, e1_up⟩, e1_in, e1_ti, (fun_mk (st := s_InvalidText_init) l0 c0 k0), ((fun_mk (st := s_InvalidText_init) l0 c0 k0).binds (ps := ["self", "given"]) fun _ _ _ _ _ _ us hl => match us, hl with | [_, _], _ => rfl)⟩,
    en_InvalidText := e1_gv,
    e_InvalidWidth := ⟨mg_of X G aC2, ⟨⟨_, _, _, _, _, _, _, _, _, _, _, _, _, _, e2_cls⟩, e2_sa, e2_ga, e2_gg, e2_ex, e2_ty, e2_kc, e2_hd, e2_ca, e2_mo, e2_up⟩, e2_in, e2_ti, (fun_mk (st := s_InvalidWidth_init) l1 c1 k1), ((fun_mk (st := s_InvalidWidth_init) l1 c1 k1).binds (ps := ["self", "given"]) fun _ _ _ _ _ _ us hl => match us, hl with | [_, _], _ => rfl)⟩,
    en_InvalidWidth := e2_gv,
    e_InvalidPages := ⟨mg_of X G aC3, ⟨⟨_, _, _, _, _, _, _, _, _, _, _, _, _, _, e3_cls⟩, e3_sa, e3_ga, e3_gg, e3_ex, e3_ty, e3_kc, e3_hd, e3_ca, e3_mo, e3_up⟩, e3_in, e3_ti, (fun_mk (st := s_InvalidPages_init) l2 c2 k2), ((fun_mk (st := s_InvalidPages_init) l2 c2 k2).binds (ps := ["self", "given"]) fun _ _ _ _ _ _ us hl => match us, hl with | [_, _], _ => rfl)⟩,
    en_InvalidPages := e3_gv,
    e_InvalidPage := ⟨mg_of X G aC4, ⟨⟨_, _, _, _, _, _, _, _, _, _, _, _, _, _, e4_cls⟩, e4_sa, e4_ga, e4_gg, e4_ex, e4_ty, e4_kc, e4_hd, e4_ca, e4_mo, e4_up⟩, e4_in, e4_ti, (fun_mk (st := s_InvalidPage_init) l3 c3 k3), ((fun_mk (st := s_InvalidPage_init) l3 c3 k3).binds (ps := ["self", "given"]) fun _ _ _ _ _ _ us hl => match us, hl with | [_, _], _ => rfl)⟩,
    en_InvalidPage := e4_gv,
    e_InvalidCount := ⟨mg_of X G aC5, ⟨⟨_, _, _, _, _, _, _, _, _, _, _, _, _, _, e5_cls⟩, e5_sa, e5_ga, e5_gg, e5_ex, e5_ty, e5_kc, e5_hd, e5_ca, e5_mo, e5_up⟩, e5_in, e5_ti, (fun_mk (st := s_InvalidCount_init) l4 c4 k4), ((fun_mk (st := s_InvalidCount_init) l4 c4 k4).binds (ps := ["self", "given"]) fun _ _ _ _ _ _ us hl => match us, hl with | [_, _], _ => rfl)⟩,
    en_InvalidCount := e5_gv,
    e_InvalidDone := ⟨mg_of X G aC6, ⟨⟨_, _, _, _, _, _, _, _, _, _, _, _, _, _, e6_cls⟩, e6_sa, e6_ga, e6_gg, e6_ex, e6_ty, e6_kc, e6_hd, e6_ca, e6_mo, e6_up⟩, e6_in, e6_ti, (fun_mk (st := s_InvalidDone_init) l5 c5 k5), ((fun_mk (st := s_InvalidDone_init) l5 c5 k5).binds (ps := ["self", "given"]) fun _ _ _ _ _ _ us hl => match us, hl with | [_, _], _ => rfl)⟩,
    en_InvalidDone := e6_gv,
    e_PowerCut := ⟨mg_of X G aC7, ⟨⟨_, _, _, _, _, _, _, _, _, _, _, _, _, _, e7_cls⟩, e7_sa, e7_ga, e7_gg, e7_ex, e7_ty, e7_kc, e7_hd, e7_ca, e7_mo, e7_up⟩, e7_in, e7_ti, (fun_mk (st := s_PowerCut_init) l6 c6 k6), ((fun_mk (st := s_PowerCut_init) l6 c6 k6).binds (ps := ["self"]) fun _ _ _ _ _ _ us hl => match us, hl with | [_], _ => rfl)⟩,
    en_PowerCut := e7_gv,
    g_is_whole := ⟨mg_of X G a7, (fun_mk (st := s_is_whole) l7 c7 k7), ((fun_mk (st := s_is_whole) l7 c7 k7).binds (ps := ["value"]) fun _ _ _ _ _ _ us hl => match us, hl with | [_], _ => rfl)⟩,
    g_is_from_to := ⟨mg_of X G a8, (fun_mk (st := s_is_from_to) l8 c8 k8), ((fun_mk (st := s_is_from_to) l8 c8 k8).binds (ps := ["value", "low", "high"]) fun _ _ _ _ _ _ us hl => match us, hl with | [_, _, _], _ => rfl)⟩,
    g_is_index := ⟨mg_of X G a9, (fun_mk (st := s_is_index) l9 c9 k9), ((fun_mk (st := s_is_index) l9 c9 k9).binds (ps := ["value", "many"]) fun _ _ _ _ _ _ us hl => match us, hl with | [_, _], _ => rfl)⟩,
    g_is_listed := ⟨mg_of X G a10, (fun_mk (st := s_is_listed) l10 c10 k10), ((fun_mk (st := s_is_listed) l10 c10 k10).binds (ps := ["value"]) fun _ _ _ _ _ _ us hl => match us, hl with | [_], _ => rfl)⟩,
    g_are_unlike := ⟨mg_of X G a11, (fun_mk (st := s_are_unlike) l11 c11 k11), ((fun_mk (st := s_are_unlike) l11 c11 k11).binds (ps := ["items"]) fun _ _ _ _ _ _ us hl => match us, hl with | [_], _ => rfl)⟩,
    g_ascend := ⟨mg_of X G a12, (fun_mk (st := s_ascend) l12 c12 k12), ((fun_mk (st := s_ascend) l12 c12 k12).binds (ps := ["items"]) fun _ _ _ _ _ _ us hl => match us, hl with | [_], _ => rfl)⟩,
    g_are_indices := ⟨mg_of X G a13, (fun_mk (st := s_are_indices) l13 c13 k13), ((fun_mk (st := s_are_indices) l13 c13 k13).binds (ps := ["value", "many"]) fun _ _ _ _ _ _ us hl => match us, hl with | [_, _], _ => rfl)⟩,
    g_are_kept := ⟨mg_of X G a14, (fun_mk (st := s_are_kept) l14 c14 k14), ((fun_mk (st := s_are_kept) l14 c14 k14).binds (ps := ["value", "many"]) fun _ _ _ _ _ _ us hl => match us, hl with | [_, _], _ => rfl)⟩,
    g_is_page_text := ⟨mg_of X G a15, (fun_mk (st := s_is_page_text) l15 c15 k15), ((fun_mk (st := s_is_page_text) l15 c15 k15).binds (ps := ["value", "width"]) fun _ _ _ _ _ _ us hl => match us, hl with | [_, _], _ => rfl)⟩,
    kd := ⟨mg_of X G aC8, ⟨d_pg, d_hd, d_po, d_sa⟩, ⟨d_mk, m16, i16, d_kc⟩, (fun_mk (st := s_Disk_init) l16 c16 k16), ((fun_mk (st := s_Disk_init) l16 c16 k16).binds (ps := ["self", "pages", "width"]) fun _ _ _ _ _ _ us hl => match us, hl with | [_, _, _], _ => rfl)⟩,
    m_check_page := ⟨⟨d_pg, d_hd, d_po, d_sa⟩, ⟨m17, i17, k17⟩, (fun_mk (st := s_Disk_check_page) l17 c17 k17), ((fun_mk (st := s_Disk_check_page) l17 c17 k17).binds (ps := ["self", "page"]) fun _ _ _ _ _ _ us hl => match us, hl with | [_, _], _ => rfl)⟩,
    m_spend := ⟨⟨d_pg, d_hd, d_po, d_sa⟩, ⟨m18, i18, k18⟩, (fun_mk (st := s_Disk_spend) l18 c18 k18), ((fun_mk (st := s_Disk_spend) l18 c18 k18).binds (ps := ["self"]) fun _ _ _ _ _ _ us hl => match us, hl with | [_], _ => rfl)⟩,
    m_read := ⟨⟨d_pg, d_hd, d_po, d_sa⟩, ⟨m19, i19, k19⟩, (fun_mk (st := s_Disk_read) l19 c19 k19), ((fun_mk (st := s_Disk_read) l19 c19 k19).binds (ps := ["self", "page"]) fun _ _ _ _ _ _ us hl => match us, hl with | [_, _], _ => rfl)⟩,
    m_write := ⟨⟨d_pg, d_hd, d_po, d_sa⟩, ⟨m20, i20, k20⟩, (fun_mk (st := s_Disk_write) l20 c20 k20), ((fun_mk (st := s_Disk_write) l20 c20 k20).binds (ps := ["self", "page", "text"]) fun _ _ _ _ _ _ us hl => match us, hl with | [_, _, _], _ => rfl)⟩,
    m_settle := ⟨⟨d_pg, d_hd, d_po, d_sa⟩, ⟨m21, i21, k21⟩, (fun_mk (st := s_Disk_settle) l21 c21 k21), ((fun_mk (st := s_Disk_settle) l21 c21 k21).binds (ps := ["self"]) fun _ _ _ _ _ _ us hl => match us, hl with | [_], _ => rfl)⟩,
    m_loose := ⟨⟨d_pg, d_hd, d_po, d_sa⟩, ⟨m22, i22, k22⟩, (fun_mk (st := s_Disk_loose) l22 c22 k22), ((fun_mk (st := s_Disk_loose) l22 c22 k22).binds (ps := ["self"]) fun _ _ _ _ _ _ us hl => match us, hl with | [_], _ => rfl)⟩,
    m_stop := ⟨⟨d_pg, d_hd, d_po, d_sa⟩, ⟨m23, i23, k23⟩, (fun_mk (st := s_Disk_stop) l23 c23 k23), ((fun_mk (st := s_Disk_stop) l23 c23 k23).binds (ps := ["self", "count"]) fun _ _ _ _ _ _ us hl => match us, hl with | [_, _], _ => rfl)⟩,
    m_cut := ⟨⟨d_pg, d_hd, d_po, d_sa⟩, ⟨m24, i24, k24⟩, (fun_mk (st := s_Disk_cut) l24 c24 k24), ((fun_mk (st := s_Disk_cut) l24 c24 k24).binds (ps := ["self", "done"]) fun _ _ _ _ _ _ us hl => match us, hl with | [_, _], _ => rfl)⟩,
    g_law_cell := ⟨mg_of X G a25, (fun_mk (st := s_law_cell) l25 c25 k25), ((fun_mk (st := s_law_cell) l25 c25 k25).binds (ps := ["script", "k"]) fun _ _ _ _ _ _ us hl => match us, hl with | [_, _], _ => rfl)⟩,
    g_law_box := ⟨mg_of X G a26, (fun_mk (st := s_law_box) l26 c26 k26), ((fun_mk (st := s_law_box) l26 c26 k26).binds (ps := ["great"]) fun _ _ _ _ _ _ us hl => match us, hl with | [_], _ => rfl)⟩,
    g_law_take := ⟨mg_of X G a27, (fun_mk (st := s_law_take) l27 c27 k27), ((fun_mk (st := s_law_take) l27 c27 k27).binds (ps := ["box", "many"]) fun _ _ _ _ _ _ us hl => match us, hl with | [_, _], _ => rfl)⟩,
    g_law_text := ⟨mg_of X G a28, (fun_mk (st := s_law_text) l28 c28 k28), ((fun_mk (st := s_law_text) l28 c28 k28).binds (ps := ["box", "many"]) fun _ _ _ _ _ _ us hl => match us, hl with | [_, _], _ => rfl)⟩,
    g_law_good_text := ⟨mg_of X G a29, (fun_mk (st := s_law_good_text) l29 c29 k29), ((fun_mk (st := s_law_good_text) l29 c29 k29).binds (ps := ["box", "width"]) fun _ _ _ _ _ _ us hl => match us, hl with | [_, _], _ => rfl)⟩,
    g_law_bad_text := ⟨mg_of X G a30, (fun_mk (st := s_law_bad_text) l30 c30 k30), ((fun_mk (st := s_law_bad_text) l30 c30 k30).binds (ps := ["way", "stem", "width"]) fun _ _ _ _ _ _ us hl => match us, hl with | [_, _, _], _ => rfl)⟩,
    g_law_bad_page := ⟨mg_of X G a31, (fun_mk (st := s_law_bad_page) l31 c31 k31), ((fun_mk (st := s_law_bad_page) l31 c31 k31).binds (ps := ["way", "pages"]) fun _ _ _ _ _ _ us hl => match us, hl with | [_, _], _ => rfl)⟩,
    g_law_bad_count := ⟨mg_of X G a32, (fun_mk (st := s_law_bad_count) l32 c32 k32), ((fun_mk (st := s_law_bad_count) l32 c32 k32).binds (ps := ["way"]) fun _ _ _ _ _ _ us hl => match us, hl with | [_], _ => rfl)⟩,
    g_law_bad_size := ⟨mg_of X G a33, (fun_mk (st := s_law_bad_size) l33 c33 k33), ((fun_mk (st := s_law_bad_size) l33 c33 k33).binds (ps := ["way", "low", "high"]) fun _ _ _ _ _ _ us hl => match us, hl with | [_, _, _], _ => rfl)⟩,
    g_law_same := ⟨mg_of X G a34, (fun_mk (st := s_law_same) l34 c34 k34), ((fun_mk (st := s_law_same) l34 c34 k34).binds (ps := ["e", "value"]) fun _ _ _ _ _ _ us hl => match us, hl with | [_, _], _ => rfl)⟩,
    g_law_made := ⟨mg_of X G a35, (fun_mk (st := s_law_made) l35 c35 k35), ((fun_mk (st := s_law_made) l35 c35 k35).binds (ps := ["pages", "width", "by_name"]) fun _ _ _ _ _ _ us hl => match us, hl with | [_, _, _], _ => rfl)⟩,
    g_law_write := ⟨mg_of X G a36, (fun_mk (st := s_law_write) l36 c36 k36), ((fun_mk (st := s_law_write) l36 c36 k36).binds (ps := ["disk", "page", "text", "by_name"]) fun _ _ _ _ _ _ us hl => match us, hl with | [_, _, _, _], _ => rfl)⟩,
    g_law_settle := ⟨mg_of X G a37, (fun_mk (st := s_law_settle) l37 c37 k37), ((fun_mk (st := s_law_settle) l37 c37 k37).binds (ps := ["disk"]) fun _ _ _ _ _ _ us hl => match us, hl with | [_], _ => rfl)⟩,
    g_law_read := ⟨mg_of X G a38, (fun_mk (st := s_law_read) l38 c38 k38), ((fun_mk (st := s_law_read) l38 c38 k38).binds (ps := ["disk", "page", "by_name"]) fun _ _ _ _ _ _ us hl => match us, hl with | [_, _, _], _ => rfl)⟩,
    g_law_stop := ⟨mg_of X G a39, (fun_mk (st := s_law_stop) l39 c39 k39), ((fun_mk (st := s_law_stop) l39 c39 k39).binds (ps := ["disk", "count", "by_name"]) fun _ _ _ _ _ _ us hl => match us, hl with | [_, _, _], _ => rfl)⟩,
    g_law_new := ⟨mg_of X G a40, (fun_mk (st := s_law_new) l40 c40 k40), ((fun_mk (st := s_law_new) l40 c40 k40).binds (ps := ["pages", "width"]) fun _ _ _ _ _ _ us hl => match us, hl with | [_, _], _ => rfl)⟩,
    g_law_let := ⟨mg_of X G a41, (fun_mk (st := s_law_let) l41 c41 k41), ((fun_mk (st := s_law_let) l41 c41 k41).binds (ps := ["state"]) fun _ _ _ _ _ _ us hl => match us, hl with | [_], _ => rfl)⟩,
    g_law_state_right := ⟨mg_of X G a42, (fun_mk (st := s_law_state_right) l42 c42 k42), ((fun_mk (st := s_law_state_right) l42 c42 k42).binds (ps := ["disk", "state", "by_name"]) fun _ _ _ _ _ _ us hl => match us, hl with | [_, _, _], _ => rfl)⟩,
    g_law_write_right := ⟨mg_of X G a43, (fun_mk (st := s_law_write_right) l43 c43 k43), ((fun_mk (st := s_law_write_right) l43 c43 k43).binds (ps := ["box", "disk", "state", "by_name"]) fun _ _ _ _ _ _ us hl => match us, hl with | [_, _, _, _], _ => rfl)⟩,
    g_law_settle_right := ⟨mg_of X G a44, (fun_mk (st := s_law_settle_right) l44 c44 k44), ((fun_mk (st := s_law_settle_right) l44 c44 k44).binds (ps := ["disk", "state"]) fun _ _ _ _ _ _ us hl => match us, hl with | [_, _], _ => rfl)⟩,
    g_law_stop_right := ⟨mg_of X G a45, (fun_mk (st := s_law_stop_right) l45 c45 k45), ((fun_mk (st := s_law_stop_right) l45 c45 k45).binds (ps := ["disk", "state", "count", "by_name"]) fun _ _ _ _ _ _ us hl => match us, hl with | [_, _, _, _], _ => rfl)⟩,
    g_law_loose_right := ⟨mg_of X G a46, (fun_mk (st := s_law_loose_right) l46 c46 k46), ((fun_mk (st := s_law_loose_right) l46 c46 k46).binds (ps := ["box", "disk", "state"]) fun _ _ _ _ _ _ us hl => match us, hl with | [_, _, _], _ => rfl)⟩,
    g_law_deed_right := ⟨mg_of X G a47, (fun_mk (st := s_law_deed_right) l47 c47 k47), ((fun_mk (st := s_law_deed_right) l47 c47 k47).binds (ps := ["box", "disk", "state", "by_name"]) fun _ _ _ _ _ _ us hl => match us, hl with | [_, _, _, _], _ => rfl)⟩,
    g_law_stopped_right := ⟨mg_of X G a48, (fun_mk (st := s_law_stopped_right) l48 c48 k48), ((fun_mk (st := s_law_stopped_right) l48 c48 k48).binds (ps := ["box", "disk", "state", "by_name"]) fun _ _ _ _ _ _ us hl => match us, hl with | [_, _, _, _], _ => rfl)⟩,
    g_law_sizes_right := ⟨mg_of X G a49, (fun_mk (st := s_law_sizes_right) l49 c49 k49), ((fun_mk (st := s_law_sizes_right) l49 c49 k49).binds (ps := ["box", "by_name"]) fun _ _ _ _ _ _ us hl => match us, hl with | [_, _], _ => rfl)⟩,
    g_law_pair_right := ⟨mg_of X G a50, (fun_mk (st := s_law_pair_right) l50 c50 k50), ((fun_mk (st := s_law_pair_right) l50 c50 k50).binds (ps := ["box"]) fun _ _ _ _ _ _ us hl => match us, hl with | [_], _ => rfl)⟩,
    g_law_long_right := ⟨mg_of X G a51, (fun_mk (st := s_law_long_right) l51 c51 k51), ((fun_mk (st := s_law_long_right) l51 c51 k51).binds (ps := ["box"]) fun _ _ _ _ _ _ us hl => match us, hl with | [_], _ => rfl)⟩,
    g_law_first := ⟨mg_of X G a52, (fun_mk (st := s_law_first) l52 c52 k52), ((fun_mk (st := s_law_first) l52 c52 k52).binds (ps := ["script"]) fun _ _ _ _ _ _ us hl => match us, hl with | [_], _ => rfl)⟩,
    g_law_text_too := ⟨mg_of X G a53, (fun_mk (st := s_law_text_too) l53 c53 k53), ((fun_mk (st := s_law_text_too) l53 c53 k53).binds (ps := ["box"]) fun _ _ _ _ _ _ us hl => match us, hl with | [_], _ => rfl)⟩,
    g_law_behind := ⟨mg_of X G a54, (fun_mk (st := s_law_behind) l54 c54 k54), ((fun_mk (st := s_law_behind) l54 c54 k54).binds (ps := ["texts", "writes"]) fun _ _ _ _ _ _ us hl => match us, hl with | [_, _], _ => rfl)⟩,
    g_law_cut_of := ⟨mg_of X G a55, (fun_mk (st := s_law_cut_of) l55 c55 k55), ((fun_mk (st := s_law_cut_of) l55 c55 k55).binds (ps := ["state", "done"]) fun _ _ _ _ _ _ us hl => match us, hl with | [_, _], _ => rfl)⟩,
    g_law_state_right_too := ⟨mg_of X G a56, (fun_mk (st := s_law_state_right_too) l56 c56 k56), ((fun_mk (st := s_law_state_right_too) l56 c56 k56).binds (ps := ["disk", "state"]) fun _ _ _ _ _ _ us hl => match us, hl with | [_, _], _ => rfl)⟩,
    g_law_wrote := ⟨mg_of X G a57, (fun_mk (st := s_law_wrote) l57 c57 k57), ((fun_mk (st := s_law_wrote) l57 c57 k57).binds (ps := ["disk", "state", "page", "text"]) fun _ _ _ _ _ _ us hl => match us, hl with | [_, _, _, _], _ => rfl)⟩,
    g_law_settled := ⟨mg_of X G a58, (fun_mk (st := s_law_settled) l58 c58 k58), ((fun_mk (st := s_law_settled) l58 c58 k58).binds (ps := ["disk", "state"]) fun _ _ _ _ _ _ us hl => match us, hl with | [_, _], _ => rfl)⟩,
    g_law_stopped := ⟨mg_of X G a59, (fun_mk (st := s_law_stopped) l59 c59 k59), ((fun_mk (st := s_law_stopped) l59 c59 k59).binds (ps := ["disk", "state", "count"]) fun _ _ _ _ _ _ us hl => match us, hl with | [_, _, _], _ => rfl)⟩,
    g_law_cut := ⟨mg_of X G a60, (fun_mk (st := s_law_cut) l60 c60 k60), ((fun_mk (st := s_law_cut) l60 c60 k60).binds (ps := ["disk", "done", "by_name"]) fun _ _ _ _ _ _ us hl => match us, hl with | [_, _, _], _ => rfl)⟩,
    g_law_bad_done := ⟨mg_of X G a61, (fun_mk (st := s_law_bad_done) l61 c61 k61), ((fun_mk (st := s_law_bad_done) l61 c61 k61).binds (ps := ["way", "many"]) fun _ _ _ _ _ _ us hl => match us, hl with | [_, _], _ => rfl)⟩,
    g_law_lists := ⟨mg_of X G a62, (fun_mk (st := s_law_lists) l62 c62 k62), ((fun_mk (st := s_law_lists) l62 c62 k62).binds (ps := ["box", "many"]) fun _ _ _ _ _ _ us hl => match us, hl with | [_, _], _ => rfl)⟩,
    g_law_refused_right := ⟨mg_of X G a63, (fun_mk (st := s_law_refused_right) l63 c63 k63), ((fun_mk (st := s_law_refused_right) l63 c63 k63).binds (ps := ["box", "disk", "state", "by_name"]) fun _ _ _ _ _ _ us hl => match us, hl with | [_, _, _, _], _ => rfl)⟩,
    g_law_one_right := ⟨mg_of X G a64, (fun_mk (st := s_law_one_right) l64 c64 k64), ((fun_mk (st := s_law_one_right) l64 c64 k64).binds (ps := ["box", "disk", "state", "done", "by_name"]) fun _ _ _ _ _ _ us hl => match us, hl with | [_, _, _, _, _], _ => rfl)⟩,
    g_law_grown := ⟨mg_of X G a65, (fun_mk (st := s_law_grown) l65 c65 k65), ((fun_mk (st := s_law_grown) l65 c65 k65).binds (ps := ["box", "disk", "state"]) fun _ _ _ _ _ _ us hl => match us, hl with | [_, _, _], _ => rfl)⟩,
    g_law_chain_right := ⟨mg_of X G a66, (fun_mk (st := s_law_chain_right) l66 c66 k66), ((fun_mk (st := s_law_chain_right) l66 c66 k66).binds (ps := ["box"]) fun _ _ _ _ _ _ us hl => match us, hl with | [_], _ => rfl)⟩,
    g_law_great_right := ⟨mg_of X G a67, (fun_mk (st := s_law_great_right) l67 c67 k67), ((fun_mk (st := s_law_great_right) l67 c67 k67).binds (ps := ["box"]) fun _ _ _ _ _ _ us hl => match us, hl with | [_], _ => rfl)⟩,
    g_law_second := ⟨mg_of X G a68, (fun_mk (st := s_law_second) l68 c68 k68), ((fun_mk (st := s_law_second) l68 c68 k68).binds (ps := ["script"]) fun _ _ _ _ _ _ us hl => match us, hl with | [_], _ => rfl)⟩,
    g_law := ⟨mg_of X G a69, (fun_mk (st := s_law) l69 c69 k69), ((fun_mk (st := s_law) l69 c69 k69).binds (ps := ["script"]) fun _ _ _ _ _ _ us hl => match us, hl with | [_], _ => rfl)⟩ }
end Ks

/-! KsEnd2: the end. -/
namespace Ks
open PySem PySem.Spec PyProof.Rows L2 PySem.W
section
variable {P : Program} {w : World} {K : PySem.W.Frag} {mg : Str → Option Value} {fa : Addr}
theorem law_end (e : ∃ (fd : FuncData) (a : Nat → Addr × FuncData) (c : Nat → Addr), Wd K mg a c ∧ a 69 = (fa, fd) ∧ ∀ (s : Shared) (u : Value), BindsTo s fd ⟨[u], []⟩ [("script", u)]) :
    ∃ fd : FuncData, (∀ (s : Shared) (u : Value), BindsTo s fd ⟨[u], []⟩ [("script", u)]) ∧ ∀ base : Heap, FnG false P w K mg base 10 fa fd ["script"] (sp_script K) := by
  obtain ⟨fd, a, c, Z, e, hb⟩ := e
  refine ⟨fd, hb, fun base => ?_⟩
  have k := ok_law (P := P) (w := w) (base := base) Z
  rw [e] at k
  exact k
end
end Ks
open PySem PySem.W PyProof.Rows
set_option maxRecDepth 100000 in
set_option maxHeartbeats 0 in
theorem PySem.Challenge.cw_keepstream_k64_disks_and_cuts_holds : PySem.Challenge.rw_keepstream_k64_disks_and_cuts.Holds := by
  w_on; o_law; k_head; (case hw => w_witness2)
  k_fill
  refine Ks.walkG (l := PySem.Challenge.rw_keepstream_k64_disks_and_cuts) (n := 63) (k := 10) rfl (by decide) rfl Ks.rm_caller (fun w h Y => PySem.W.kIn_of Y) ?F
  case F =>
    intro w mg fa h KX G hmg
    refine' Ks.law_end (Ks.all_mk KX G hmg ?n_len ?n_abs ?n_all ?n_sum ?n_max ?n_min ?n_repr ?n_isinstance ?n_int ?n_str ?n_list ?n_tuple ?n_range ?n_set ?n_bool ?k_LEAST_PAGES ?k_MOST_PAGES ?k_LEAST_WIDTH ?k_MOST_WIDTH ?aC0 ?aC1 ?aC2 ?aC3 ?aC4 ?aC5 ?aC6 ?aC7 ?aC8 ?b_rd ?b_ga ?b_ini ?b_ex ?b_ty ?b_hd ?b_gc ?b_tk ?e1_cls ?e1_sa ?e1_ga ?e1_gg ?e1_ex ?e1_ty ?e1_kc ?e1_hd ?e1_ca ?e1_mo ?e1_up ?e1_in ?e1_ti ?l0 ?c0 ?k0 ?e1_gv ?e1_ss ?e2_cls ?e2_sa ?e2_ga ?e2_gg ?e2_ex ?e2_ty ?e2_kc ?e2_hd ?e2_ca ?e2_mo ?e2_up ?e2_in ?e2_ti ?l1 ?c1 ?k1 ?e2_gv ?e2_ss ?e3_cls ?e3_sa ?e3_ga ?e3_gg ?e3_ex ?e3_ty ?e3_kc ?e3_hd ?e3_ca ?e3_mo ?e3_up ?e3_in ?e3_ti ?l2 ?c2 ?k2 ?e3_gv ?e3_ss ?e4_cls ?e4_sa ?e4_ga ?e4_gg ?e4_ex ?e4_ty ?e4_kc ?e4_hd ?e4_ca ?e4_mo ?e4_up ?e4_in ?e4_ti ?l3 ?c3 ?k3 ?e4_gv ?e4_ss ?e5_cls ?e5_sa ?e5_ga ?e5_gg ?e5_ex ?e5_ty ?e5_kc ?e5_hd ?e5_ca ?e5_mo ?e5_up ?e5_in ?e5_ti ?l4 ?c4 ?k4 ?e5_gv ?e5_ss ?e6_cls ?e6_sa ?e6_ga ?e6_gg ?e6_ex ?e6_ty ?e6_kc ?e6_hd ?e6_ca ?e6_mo ?e6_up ?e6_in ?e6_ti ?l5 ?c5 ?k5 ?e6_gv ?e6_ss ?e7_cls ?e7_sa ?e7_ga ?e7_gg ?e7_ex ?e7_ty ?e7_kc ?e7_hd ?e7_ca ?e7_mo ?e7_up ?e7_in ?e7_ti ?l6 ?c6 ?k6 ?e7_gv ?e7_ss ?sf_InvalidWidth_InvalidPages ?sf_InvalidText_InvalidPage ?sf_PowerCut_InvalidPage ?sf_PowerCut_InvalidText ?d_pg ?d_hd ?d_po ?d_sa ?d_pages ?d_width ?d_lasting ?d_texts ?d_writes ?d_left ?d_ca ?d_mo ?d_mk ?d_kc ?m16 ?i16 ?l16 ?c16 ?k16 ?m17 ?i17 ?l17 ?c17 ?k17 ?m18 ?i18 ?l18 ?c18 ?k18 ?m19 ?i19 ?l19 ?c19 ?k19 ?m20 ?i20 ?l20 ?c20 ?k20 ?m21 ?i21 ?l21 ?c21 ?k21 ?m22 ?i22 ?l22 ?c22 ?k22 ?m23 ?i23 ?l23 ?c23 ?k23 ?m24 ?i24 ?l24 ?c24 ?k24 ?a7 ?l7 ?c7 ?k7 ?a8 ?l8 ?c8 ?k8 ?a9 ?l9 ?c9 ?k9 ?a10 ?l10 ?c10 ?k10 ?a11 ?l11 ?c11 ?k11 ?a12 ?l12 ?c12 ?k12 ?a13 ?l13 ?c13 ?k13 ?a14 ?l14 ?c14 ?k14 ?a15 ?l15 ?c15 ?k15 ?a25 ?l25 ?c25 ?k25 ?a26 ?l26 ?c26 ?k26 ?a27 ?l27 ?c27 ?k27 ?a28 ?l28 ?c28 ?k28 ?a29 ?l29 ?c29 ?k29 ?a30 ?l30 ?c30 ?k30 ?a31 ?l31 ?c31 ?k31 ?a32 ?l32 ?c32 ?k32 ?a33 ?l33 ?c33 ?k33 ?a34 ?l34 ?c34 ?k34 ?a35 ?l35 ?c35 ?k35 ?a36 ?l36 ?c36 ?k36 ?a37 ?l37 ?c37 ?k37 ?a38 ?l38 ?c38 ?k38 ?a39 ?l39 ?c39 ?k39 ?a40 ?l40 ?c40 ?k40 ?a41 ?l41 ?c41 ?k41 ?a42 ?l42 ?c42 ?k42 ?a43 ?l43 ?c43 ?k43 ?a44 ?l44 ?c44 ?k44 ?a45 ?l45 ?c45 ?k45 ?a46 ?l46 ?c46 ?k46 ?a47 ?l47 ?c47 ?k47 ?a48 ?l48 ?c48 ?k48 ?a49 ?l49 ?c49 ?k49 ?a50 ?l50 ?c50 ?k50 ?a51 ?l51 ?c51 ?k51 ?a52 ?l52 ?c52 ?k52 ?a53 ?l53 ?c53 ?k53 ?a54 ?l54 ?c54 ?k54 ?a55 ?l55 ?c55 ?k55 ?a56 ?l56 ?c56 ?k56 ?a57 ?l57 ?c57 ?k57 ?a58 ?l58 ?c58 ?k58 ?a59 ?l59 ?c59 ?k59 ?a60 ?l60 ?c60 ?k60 ?a61 ?l61 ?c61 ?k61 ?a62 ?l62 ?c62 ?k62 ?a63 ?l63 ?c63 ?k63 ?a64 ?l64 ?c64 ?k64 ?a65 ?l65 ?c65 ?k65 ?a66 ?l66 ?c66 ?k66 ?a67 ?l67 ?c67 ?k67 ?a68 ?l68 ?c68 ?k68 ?a69 ?l69 ?c69 ?k69)
    (case n_len => k_is)
    (case n_abs => k_is)
    (case n_all => k_is)
    (case n_sum => k_is)
    (case n_max => k_is)
    (case n_min => k_is)
    (case n_repr => k_is)
    (case n_isinstance => k_is)
    (case n_int => k_is)
    (case n_str => k_is)
    (case n_list => k_is)
    (case n_tuple => k_is)
    (case n_range => k_is)
    (case n_set => k_is)
    (case n_bool => k_is)
    (case k_LEAST_PAGES => k_is)
    (case k_MOST_PAGES => k_is)
    (case k_LEAST_WIDTH => k_is)
    (case k_MOST_WIDTH => k_is)
    (case aC0 => k_is)
    (case aC1 => k_is)
    (case aC2 => k_is)
    (case aC3 => k_is)
    (case aC4 => k_is)
    (case aC5 => k_is)
    (case aC6 => k_is)
    (case aC7 => k_is)
    (case aC8 => k_is)
    (case b_rd => k_is)
    (case b_ga => k_is)
    (case b_ini => k_is)
    (case b_ex => k_is)
    (case b_ty => k_is)
    (case b_hd => k_is)
    (case b_gc => k_is)
    (case b_tk => k_is)
    (case e1_cls => k_is)
    (case e1_sa => k_is)
    (case e1_ga => k_is)
    (case e1_gg => k_is)
    (case e1_ex => k_is)
    (case e1_ty => k_is)
    (case e1_kc => k_is)
    (case e1_hd => k_is)
    (case e1_ca => k_is)
    (case e1_mo => k_is)
    (case e1_up => k_is)
    (case e1_in => k_is)
    (case e1_ti => k_is)
    (case l0 => k_is)
    (case c0 => k_is)
    (case k0 => k_is)
    (case e1_gv => k_is)
    (case e1_ss => first | rfl | k_is)
    (case e2_cls => k_is)
    (case e2_sa => k_is)
    (case e2_ga => k_is)
    (case e2_gg => k_is)
    (case e2_ex => k_is)
    (case e2_ty => k_is)
    (case e2_kc => k_is)
    (case e2_hd => k_is)
    (case e2_ca => k_is)
    (case e2_mo => k_is)
    (case e2_up => k_is)
    (case e2_in => k_is)
    (case e2_ti => k_is)
    (case l1 => k_is)
    (case c1 => k_is)
    (case k1 => k_is)
    (case e2_gv => k_is)
    (case e2_ss => first | rfl | k_is)
    (case e3_cls => k_is)
    (case e3_sa => k_is)
    (case e3_ga => k_is)
    (case e3_gg => k_is)
    (case e3_ex => k_is)
    (case e3_ty => k_is)
    (case e3_kc => k_is)
    (case e3_hd => k_is)
    (case e3_ca => k_is)
    (case e3_mo => k_is)
    (case e3_up => k_is)
    (case e3_in => k_is)
    (case e3_ti => k_is)
    (case l2 => k_is)
    (case c2 => k_is)
    (case k2 => k_is)
    (case e3_gv => k_is)
    (case e3_ss => first | rfl | k_is)
    (case e4_cls => k_is)
    (case e4_sa => k_is)
    (case e4_ga => k_is)
    (case e4_gg => k_is)
    (case e4_ex => k_is)
    (case e4_ty => k_is)
    (case e4_kc => k_is)
    (case e4_hd => k_is)
    (case e4_ca => k_is)
    (case e4_mo => k_is)
    (case e4_up => k_is)
    (case e4_in => k_is)
    (case e4_ti => k_is)
    (case l3 => k_is)
    (case c3 => k_is)
    (case k3 => k_is)
    (case e4_gv => k_is)
    (case e4_ss => first | rfl | k_is)
    (case e5_cls => k_is)
    (case e5_sa => k_is)
    (case e5_ga => k_is)
    (case e5_gg => k_is)
    (case e5_ex => k_is)
    (case e5_ty => k_is)
    (case e5_kc => k_is)
    (case e5_hd => k_is)
    (case e5_ca => k_is)
    (case e5_mo => k_is)
    (case e5_up => k_is)
    (case e5_in => k_is)
    (case e5_ti => k_is)
    (case l4 => k_is)
    (case c4 => k_is)
    (case k4 => k_is)
    (case e5_gv => k_is)
    (case e5_ss => first | rfl | k_is)
    (case e6_cls => k_is)
    (case e6_sa => k_is)
    (case e6_ga => k_is)
    (case e6_gg => k_is)
    (case e6_ex => k_is)
    (case e6_ty => k_is)
    (case e6_kc => k_is)
    (case e6_hd => k_is)
    (case e6_ca => k_is)
    (case e6_mo => k_is)
    (case e6_up => k_is)
    (case e6_in => k_is)
    (case e6_ti => k_is)
    (case l5 => k_is)
    (case c5 => k_is)
    (case k5 => k_is)
    (case e6_gv => k_is)
    (case e6_ss => first | rfl | k_is)
    (case e7_cls => k_is)
    (case e7_sa => k_is)
    (case e7_ga => k_is)
    (case e7_gg => k_is)
    (case e7_ex => k_is)
    (case e7_ty => k_is)
    (case e7_kc => k_is)
    (case e7_hd => k_is)
    (case e7_ca => k_is)
    (case e7_mo => k_is)
    (case e7_up => k_is)
    (case e7_in => k_is)
    (case e7_ti => k_is)
    (case l6 => k_is)
    (case c6 => k_is)
    (case k6 => k_is)
    (case e7_gv => k_is)
    (case e7_ss => first | rfl | k_is)
    (case sf_InvalidWidth_InvalidPages => k_is)
    (case sf_InvalidText_InvalidPage => k_is)
    (case sf_PowerCut_InvalidPage => k_is)
    (case sf_PowerCut_InvalidText => k_is)
    (case d_pg => k_is)
    (case d_hd => k_is)
    (case d_po => k_is)
    (case d_sa => k_is)
    (case d_pages => k_is)
    (case d_width => k_is)
    (case d_lasting => k_is)
    (case d_texts => k_is)
    (case d_writes => k_is)
    (case d_left => k_is)
    (case d_ca => k_is)
    (case d_mo => k_is)
    (case d_mk => k_is)
    (case d_kc => k_is)
    (case m16 => k_is)
    (case i16 => k_is)
    (case l16 => k_is)
    (case c16 => k_is)
    (case k16 => k_is)
    (case m17 => k_is)
    (case i17 => k_is)
    (case l17 => k_is)
    (case c17 => k_is)
    (case k17 => k_is)
    (case m18 => k_is)
    (case i18 => k_is)
    (case l18 => k_is)
    (case c18 => k_is)
    (case k18 => k_is)
    (case m19 => k_is)
    (case i19 => k_is)
    (case l19 => k_is)
    (case c19 => k_is)
    (case k19 => k_is)
    (case m20 => k_is)
    (case i20 => k_is)
    (case l20 => k_is)
    (case c20 => k_is)
    (case k20 => k_is)
    (case m21 => k_is)
    (case i21 => k_is)
    (case l21 => k_is)
    (case c21 => k_is)
    (case k21 => k_is)
    (case m22 => k_is)
    (case i22 => k_is)
    (case l22 => k_is)
    (case c22 => k_is)
    (case k22 => k_is)
    (case m23 => k_is)
    (case i23 => k_is)
    (case l23 => k_is)
    (case c23 => k_is)
    (case k23 => k_is)
    (case m24 => k_is)
    (case i24 => k_is)
    (case l24 => k_is)
    (case c24 => k_is)
    (case k24 => k_is)
    (case a7 => k_is)
    (case l7 => k_is)
    (case c7 => k_is)
    (case k7 => k_is)
    (case a8 => k_is)
    (case l8 => k_is)
    (case c8 => k_is)
    (case k8 => k_is)
    (case a9 => k_is)
    (case l9 => k_is)
    (case c9 => k_is)
    (case k9 => k_is)
    (case a10 => k_is)
    (case l10 => k_is)
    (case c10 => k_is)
    (case k10 => k_is)
    (case a11 => k_is)
    (case l11 => k_is)
    (case c11 => k_is)
    (case k11 => k_is)
    (case a12 => k_is)
    (case l12 => k_is)
    (case c12 => k_is)
    (case k12 => k_is)
    (case a13 => k_is)
    (case l13 => k_is)
    (case c13 => k_is)
    (case k13 => k_is)
    (case a14 => k_is)
    (case l14 => k_is)
    (case c14 => k_is)
    (case k14 => k_is)
    (case a15 => k_is)
    (case l15 => k_is)
    (case c15 => k_is)
    (case k15 => k_is)
    (case a25 => k_is)
    (case l25 => k_is)
    (case c25 => k_is)
    (case k25 => k_is)
    (case a26 => k_is)
    (case l26 => k_is)
    (case c26 => k_is)
    (case k26 => k_is)
    (case a27 => k_is)
    (case l27 => k_is)
    (case c27 => k_is)
    (case k27 => k_is)
    (case a28 => k_is)
    (case l28 => k_is)
    (case c28 => k_is)
    (case k28 => k_is)
    (case a29 => k_is)
    (case l29 => k_is)
    (case c29 => k_is)
    (case k29 => k_is)
    (case a30 => k_is)
    (case l30 => k_is)
    (case c30 => k_is)
    (case k30 => k_is)
    (case a31 => k_is)
    (case l31 => k_is)
    (case c31 => k_is)
    (case k31 => k_is)
    (case a32 => k_is)
    (case l32 => k_is)
    (case c32 => k_is)
    (case k32 => k_is)
    (case a33 => k_is)
    (case l33 => k_is)
    (case c33 => k_is)
    (case k33 => k_is)
    (case a34 => k_is)
    (case l34 => k_is)
    (case c34 => k_is)
    (case k34 => k_is)
    (case a35 => k_is)
    (case l35 => k_is)
    (case c35 => k_is)
    (case k35 => k_is)
    (case a36 => k_is)
    (case l36 => k_is)
    (case c36 => k_is)
    (case k36 => k_is)
    (case a37 => k_is)
    (case l37 => k_is)
    (case c37 => k_is)
    (case k37 => k_is)
    (case a38 => k_is)
    (case l38 => k_is)
    (case c38 => k_is)
    (case k38 => k_is)
    (case a39 => k_is)
    (case l39 => k_is)
    (case c39 => k_is)
    (case k39 => k_is)
    (case a40 => k_is)
    (case l40 => k_is)
    (case c40 => k_is)
    (case k40 => k_is)
    (case a41 => k_is)
    (case l41 => k_is)
    (case c41 => k_is)
    (case k41 => k_is)
    (case a42 => k_is)
    (case l42 => k_is)
    (case c42 => k_is)
    (case k42 => k_is)
    (case a43 => k_is)
    (case l43 => k_is)
    (case c43 => k_is)
    (case k43 => k_is)
    (case a44 => k_is)
    (case l44 => k_is)
    (case c44 => k_is)
    (case k44 => k_is)
    (case a45 => k_is)
    (case l45 => k_is)
    (case c45 => k_is)
    (case k45 => k_is)
    (case a46 => k_is)
    (case l46 => k_is)
    (case c46 => k_is)
    (case k46 => k_is)
    (case a47 => k_is)
    (case l47 => k_is)
    (case c47 => k_is)
    (case k47 => k_is)
    (case a48 => k_is)
    (case l48 => k_is)
    (case c48 => k_is)
    (case k48 => k_is)
    (case a49 => k_is)
    (case l49 => k_is)
    (case c49 => k_is)
    (case k49 => k_is)
    (case a50 => k_is)
    (case l50 => k_is)
    (case c50 => k_is)
    (case k50 => k_is)
    (case a51 => k_is)
    (case l51 => k_is)
    (case c51 => k_is)
    (case k51 => k_is)
    (case a52 => k_is)
    (case l52 => k_is)
    (case c52 => k_is)
    (case k52 => k_is)
    (case a53 => k_is)
    (case l53 => k_is)
    (case c53 => k_is)
    (case k53 => k_is)
    (case a54 => k_is)
    (case l54 => k_is)
    (case c54 => k_is)
    (case k54 => k_is)
    (case a55 => k_is)
    (case l55 => k_is)
    (case c55 => k_is)
    (case k55 => k_is)
    (case a56 => k_is)
    (case l56 => k_is)
    (case c56 => k_is)
    (case k56 => k_is)
    (case a57 => k_is)
    (case l57 => k_is)
    (case c57 => k_is)
    (case k57 => k_is)
    (case a58 => k_is)
    (case l58 => k_is)
    (case c58 => k_is)
    (case k58 => k_is)
    (case a59 => k_is)
    (case l59 => k_is)
    (case c59 => k_is)
    (case k59 => k_is)
    (case a60 => k_is)
    (case l60 => k_is)
    (case c60 => k_is)
    (case k60 => k_is)
    (case a61 => k_is)
    (case l61 => k_is)
    (case c61 => k_is)
    (case k61 => k_is)
    (case a62 => k_is)
    (case l62 => k_is)
    (case c62 => k_is)
    (case k62 => k_is)
    (case a63 => k_is)
    (case l63 => k_is)
    (case c63 => k_is)
    (case k63 => k_is)
    (case a64 => k_is)
    (case l64 => k_is)
    (case c64 => k_is)
    (case k64 => k_is)
    (case a65 => k_is)
    (case l65 => k_is)
    (case c65 => k_is)
    (case k65 => k_is)
    (case a66 => k_is)
    (case l66 => k_is)
    (case c66 => k_is)
    (case k66 => k_is)
    (case a67 => k_is)
    (case l67 => k_is)
    (case c67 => k_is)
    (case k67 => k_is)
    (case a68 => k_is)
    (case l68 => k_is)
    (case c68 => k_is)
    (case k68 => k_is)
    (case a69 => k_is)
    (case l69 => k_is)
    (case c69 => k_is)
    (case k69 => k_is)

