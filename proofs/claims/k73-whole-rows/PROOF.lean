import PyProof.Rows.All
import Wide.All
import OpenK.AllK
import Wide.FinOn
import HandS.ForMost
import HandS.Walk
import HandS.Zip
import HandS.Conv
import HandS.IsInst
import HandS.Wide
import HandS.Gcd
import HandS.Flow
import KE.KMathG
import PySem.Challenge.RW_caskyears_k73_whole_rows_one_behind_the
import HandS.Lambda
import HandS.EndTab
import KE.SortKeyHeap
import KE.KNestM
set_option Elab.async false
set_option linter.all false
set_option maxRecDepth 100000
set_option maxHeartbeats 4000000
/-! A calculus over the readings: what a value is as plain data, which lists are one's own. -/
namespace Cal
open PySem L2
abbrev D := PyData
abbrev Own := List Addr

/-! ### a value represents data; the addresses in G have no part in it -/
mutual
inductive Rp (G : Own) (H : Hp) : V → D → Prop
  | non : Rp G H .non .none
  | bl (b : Bool) : Rp G H (.bl b) (.bool b)
  | int (i : Int) : Rp G H (.int i) (.int i)
  | str (x : Str) : Rp G H (.str x) (.str x)
  | lst {a : Addr} {xs : List V} {ds : List D} : a ∉ G → Rd H a (.lst xs) → Rps G H xs ds → Rp G H (.ref a) (.list ds)
  | tup {a : Addr} {xs : List V} {ds : List D} : a ∉ G → Rd H a (.tup xs) → Rps G H xs ds → Rp G H (.ref a) (.tuple ds)
inductive Rps (G : Own) (H : Hp) : List V → List D → Prop
  | nil : Rps G H [] []
  | cons {v : V} {vs : List V} {d : D} {ds : List D} : Rp G H v d → Rps G H vs ds → Rps G H (v :: vs) (d :: ds)
end

theorem rd_keep {H H' : Hp} {a : Addr} {u : HO} (k : ∀ o, H a = some o → H' a = some o) (h : Rd H a u) : Rd H' a u := by
  rcases h with h | ⟨o, h⟩
  · exact .inl (k _ h)
  · exact .inr ⟨o, k _ h⟩
theorem rd_some {H : Hp} {a : Addr} {u : HO} (h : Rd H a u) : H a ≠ none := by
  rcases h with h | ⟨o, h⟩ <;> (rw [h]; intro e; cases e)

mutual
theorem Rp.mono {G G' : Own} {H H' : Hp} (hk : ∀ a o, a ∉ G → H a = some o → H' a = some o) (hg : ∀ a, a ∈ G' → H a ≠ none → a ∈ G) : ∀ (d : D) (v : V), Rp G H v d → Rp G' H' v d
  | .none, _, h => by cases h; exact .non
  | .bool b, _, h => by cases h; exact .bl b
  | .int i, _, h => by cases h; exact .int i
  | .str x, _, h => by cases h; exact .str x
  | .list ds, _, h => by
    cases h with
    | lst h1 h2 h3 => exact .lst (fun z => h1 (hg _ z (rd_some h2))) (rd_keep (fun o => hk _ o h1) h2) (Rps.mono hk hg ds _ h3)
  | .tuple ds, _, h => by
    cases h with
    | tup h1 h2 h3 => exact .tup (fun z => h1 (hg _ z (rd_some h2))) (rd_keep (fun o => hk _ o h1) h2) (Rps.mono hk hg ds _ h3)
  | .dict _, _, h => by cases h
theorem Rps.mono {G G' : Own} {H H' : Hp} (hk : ∀ a o, a ∉ G → H a = some o → H' a = some o) (hg : ∀ a, a ∈ G' → H a ≠ none → a ∈ G) : ∀ (ds : List D) (vs : List V), Rps G H vs ds → Rps G' H' vs ds
  | [], _, h => by cases h; exact .nil
  | d :: ds, _, h => by
    cases h with
    | cons h1 h2 => exact .cons (Rp.mono hk hg d _ h1) (Rps.mono hk hg ds _ h2)
end
section
variable {G G' : Own} {H H' : Hp} {v : V} {d : D} {vs : List V} {ds : List D}
theorem Rp.same (h : Rp G H v d) (e : Same H H') : Rp G H' v d := Rp.mono (fun a o _ q => e a o q) (fun _ z _ => z) d v h
theorem Rps.same (h : Rps G H vs ds) (e : Same H H') : Rps G H' vs ds := Rps.mono (fun a o _ q => e a o q) (fun _ z _ => z) ds vs h
theorem Rp.wid {p : Addr} (h : Rp G H v d) (n : H p = none) : Rp (p :: G) H v d :=
  Rp.mono (fun _ _ _ q => q) (fun a z q => (List.mem_cons.mp z).elim (fun e => absurd (e ▸ n) q) id) d v h
theorem Rps.wid {p : Addr} (h : Rps G H vs ds) (n : H p = none) : Rps (p :: G) H vs ds :=
  Rps.mono (fun _ _ _ q => q) (fun a z q => (List.mem_cons.mp z).elim (fun e => absurd (e ▸ n) q) id) ds vs h
theorem Rp.sub (h : Rp G H v d) (s : ∀ a ∈ G', a ∈ G) : Rp G' H v d := Rp.mono (fun _ _ _ q => q) (fun a z _ => s a z) d v h
theorem Rps.sub (h : Rps G H vs ds) (s : ∀ a ∈ G', a ∈ G) : Rps G' H vs ds := Rps.mono (fun _ _ _ q => q) (fun a z _ => s a z) ds vs h
theorem Rps.len (h : Rps G H vs ds) : vs.length = ds.length := by
  induction ds generalizing vs with
  | nil => cases h; rfl
  | cons d ds ih =>
    cases h with
    | cons h1 h2 => simp [ih h2]
theorem Rps.get {i : Nat} (h : Rps G H vs ds) (e : ds[i]? = some d) : ∃ v, vs[i]? = some v ∧ Rp G H v d := by
  induction ds generalizing vs i with
  | nil => simp at e
  | cons d' ds ih =>
    cases h with
    | cons h1 h2 =>
      cases i with
      | zero =>
        have e1 : d' = d := by simpa using e
        subst e1
        exact ⟨_, rfl, h1⟩
      | succ i =>
        obtain ⟨v, q1, q2⟩ := ih h2 (by simpa using e)
        exact ⟨v, by simpa using q1, q2⟩
theorem Rps.getV {i : Nat} (h : Rps G H vs ds) (e : vs[i]? = some v) : ∃ d, ds[i]? = some d ∧ Rp G H v d := by
  have hl := h.len
  have hi : i < ds.length := by
    have := (List.getElem?_eq_some_iff.mp e).1
    omega
  obtain ⟨v', q1, q2⟩ := h.get (List.getElem?_eq_getElem hi)
  rw [e] at q1
  cases q1
  exact ⟨_, List.getElem?_eq_getElem hi, q2⟩
theorem Rps.append {vs' : List V} {ds' : List D} (h : Rps G H vs ds) (h' : Rps G H vs' ds') : Rps G H (vs ++ vs') (ds ++ ds') := by
  induction ds generalizing vs with
  | nil => cases h; exact h'
  | cons d ds ih =>
    cases h with
    | cons h1 h2 => exact .cons h1 (ih h2)
theorem Rps.take (h : Rps G H vs ds) (n : Nat) : Rps G H (vs.take n) (ds.take n) := by
  induction ds generalizing vs n with
  | nil => cases h; simp; exact .nil
  | cons d ds ih =>
    cases h with
    | cons h1 h2 =>
      cases n with
      | zero => exact .nil
      | succ n => exact .cons h1 (ih h2 n)
theorem Rps.drop (h : Rps G H vs ds) (n : Nat) : Rps G H (vs.drop n) (ds.drop n) := by
  induction ds generalizing vs n with
  | nil => cases h; simp; exact .nil
  | cons d ds ih =>
    cases h with
    | cons h1 h2 =>
      cases n with
      | zero => exact .cons h1 h2
      | succ n => exact ih h2 n
theorem Rps.set {i : Nat} (h : Rps G H vs ds) (hv : Rp G H v d) : Rps G H (vs.set i v) (ds.set i d) := by
  induction ds generalizing vs i with
  | nil => cases h; exact .nil
  | cons d' ds ih =>
    cases h with
    | cons h1 h2 =>
      cases i with
      | zero => exact .cons hv h2
      | succ i => exact .cons h1 (ih h2)
theorem Rps.atI {i : Int} (h : Rps G H vs ds) (e : L2.atI ds i = some d) : ∃ v, L2.atI vs i = some v ∧ Rp G H v d := by
  unfold L2.atI at e ⊢
  rw [h.len]
  cases q : ixN ds.length i with
  | none => rw [q] at e; cases e
  | some j =>
    rw [q] at e
    exact h.get (show ds[j]? = some d from e)
/-- ints, bools -/
theorem Rps.ints {ns : List Int} (h : Rps G H vs (ns.map PyData.int)) : vs = ns.map V.int := by
  induction ns generalizing vs with
  | nil => cases h; rfl
  | cons n ns ih =>
    cases h with
    | cons h1 h2 =>
      cases h1
      rw [ih h2]; rfl
theorem Rps.bools {ns : List Bool} (h : Rps G H vs (ns.map PyData.bool)) : vs = ns.map V.bl := by
  induction ns generalizing vs with
  | nil => cases h; rfl
  | cons n ns ih =>
    cases h with
    | cons h1 h2 =>
      cases h1
      rw [ih h2]; rfl
theorem Rps.ofInts (ns : List Int) : Rps G H (ns.map V.int) (ns.map PyData.int) := by
  induction ns with
  | nil => exact .nil
  | cons n ns ih => exact .cons (.int n) ih
theorem Rps.flat {ys : List V} (n : Nat) (h : Rps G H ys ds) : Rps G H (List.replicate n ys).flatten (List.replicate n ds).flatten := by
  induction n with
  | zero => exact .nil
  | succ n ih =>
    rw [List.replicate_succ, List.replicate_succ, List.flatten_cons, List.flatten_cons]
    exact h.append ih
end
/-! the plain representation that == asks -/
mutual
theorem Rp.dp {K : PySem.W.Frag} {G : Own} {H : Hp} : ∀ (d : D) (v : V), Rp G H v d → Dp K H v d
  | .none, _, h => by cases h; exact .non
  | .bool b, _, h => by cases h; exact .bl b
  | .int i, _, h => by cases h; exact .int i
  | .str x, _, h => by cases h; exact .str x
  | .list ds, _, h => by
    cases h with
    | lst h1 h2 h3 => exact .lst (.inl h2) (Rps.dp ds _ h3)
  | .tuple ds, _, h => by
    cases h with
    | tup h1 h2 h3 => exact .tup (.inl h2) (Rps.dp ds _ h3)
  | .dict _, _, h => by cases h
theorem Rps.dp {K : PySem.W.Frag} {G : Own} {H : Hp} : ∀ (ds : List D) (vs : List V), Rps G H vs ds → DpAll K H vs ds
  | [], _, h => by cases h; exact .nil
  | d :: ds, _, h => by
    cases h with
    | cons h1 h2 => exact .cons (Rp.dp d _ h1) (Rps.dp ds _ h2)
end

/-! ### slots -/
inductive Sl where
  /-- data -/
  | d (x : D)
  /-- a list of one's own, with its items -/
  | o (ds : List D)
abbrev Rho := List (Option Sl)
def SlotR (G : Own) (H : Hp) : Sl → V → Prop
  | .d x, v => Rp G H v x
  | .o ds, v => ∃ p xs, v = .ref p ∧ p ∈ G ∧ H p = some (.lst xs) ∧ Rps G H xs ds
def In (G : Own) (H : Hp) : Prop := ∀ a ∈ G, H a ≠ none
theorem In.same {G : Own} {H H' : Hp} (h : In G H) (e : Same H H') : In G H' := fun a ha z => by
  cases q : H a with
  | none => exact h a ha q
  | some o => rw [e a o q] at z; cases z
structure EnvR (G : Own) (σ : St) (H : Hp) (ρ : Rho) : Prop where
  len : σ.length = ρ.length
  at_ : ∀ (i : Nat) (s : Sl), ρ[i]? = some (some s) → ∃ v, σ[i]? = some (some v) ∧ SlotR G H s v
theorem SlotR.same {G : Own} {H H' : Hp} {s : Sl} {v : V} (h : SlotR G H s v) (e : Same H H') : SlotR G H' s v := by
  cases s with
  | d x => exact Rp.same h e
  | o ds =>
    obtain ⟨p, xs, rfl, h1, h2, h3⟩ := h
    exact ⟨p, xs, rfl, h1, e _ _ h2, h3.same e⟩
theorem EnvR.same {G : Own} {σ : St} {H H' : Hp} {ρ : Rho} (h : EnvR G σ H ρ) (e : Same H H') : EnvR G σ H' ρ :=
  ⟨h.len, fun i s q => by
    obtain ⟨v, q1, q2⟩ := h.at_ i s q
    exact ⟨v, q1, q2.same e⟩⟩
theorem get_set {α : Type} {l : List (Option α)} {i j : Nat} {x y : α} (h : (l.set i (some x))[j]? = some (some y)) : (j = i ∧ x = y ∧ i < l.length) ∨ (j ≠ i ∧ l[j]? = some (some y)) := by
  by_cases e : j = i
  · subst e
    by_cases hl : j < l.length
    · rw [List.getElem?_set_self hl] at h
      cases h
      exact .inl ⟨rfl, rfl, hl⟩
    · rw [List.getElem?_eq_none (by simpa using hl)] at h
      cases h
  · rw [List.getElem?_set_ne (Ne.symm e)] at h
    exact .inr ⟨e, h⟩
theorem EnvR.set {G : Own} {σ : St} {H : Hp} {ρ : Rho} {i : Nat} {v : V} {s : Sl} (h : EnvR G σ H ρ) (hv : SlotR G H s v) : EnvR G (σ.set i (some v)) H (ρ.set i (some s)) :=
  ⟨by simp [h.len], fun j t q => by
    rcases get_set q with ⟨rfl, rfl, hl⟩ | ⟨ne, q⟩
    · exact ⟨v, by rw [List.getElem?_set_self (by rw [h.len]; exact hl)], hv⟩
    · obtain ⟨u, q1, q2⟩ := h.at_ j t q
      exact ⟨u, by rw [List.getElem?_set_ne (Ne.symm ne)]; exact q1, q2⟩⟩
/-- own lists may change, one more may come -/
theorem SlotR.wid {G : Own} {H : Hp} {p : Addr} {s : Sl} {v : V} (h : SlotR G H s v) (n : H p = none) : SlotR (p :: G) H s v := by
  cases s with
  | d x => exact Rp.wid h n
  | o ds =>
    obtain ⟨q, xs, rfl, h1, h2, h3⟩ := h
    exact ⟨q, xs, rfl, List.mem_cons_of_mem _ h1, h2, h3.wid n⟩
theorem EnvR.wid {G : Own} {σ : St} {H : Hp} {ρ : Rho} {p : Addr} (h : EnvR G σ H ρ) (n : H p = none) : EnvR (p :: G) σ H ρ :=
  ⟨h.len, fun i s q => by
    obtain ⟨v, q1, q2⟩ := h.at_ i s q
    exact ⟨v, q1, q2.wid n⟩⟩
def wipeR (ρ : Rho) : List Nat → Rho
  | [] => ρ
  | v :: vs => (wipeR ρ vs).set v none
theorem EnvR.wipe {G : Own} {σ : St} {H : Hp} {ρ : Rho} (h : EnvR G σ H ρ) : ∀ vs : List Nat, EnvR G (L2.wipe σ vs) H (wipeR ρ vs)
  | [] => h
  | v :: vs => by
    have ih := EnvR.wipe h vs
    refine ⟨?_, fun i s q => ?_⟩
    · show ((L2.wipe σ vs).set v none).length = ((wipeR ρ vs).set v none).length
      simp [ih.len]
    · have q : ((wipeR ρ vs).set v none)[i]? = some (some s) := q
      have ne : i ≠ v := by
        rintro rfl
        by_cases hl : i < (wipeR ρ vs).length
        · rw [List.getElem?_set_self hl] at q; cases q
        · rw [List.getElem?_eq_none (by simpa using hl)] at q; cases q
      rw [List.getElem?_set_ne (Ne.symm ne)] at q
      obtain ⟨u, q1, q2⟩ := ih.at_ i s q
      refine ⟨u, ?_, q2⟩
      show ((L2.wipe σ vs).set v none)[i]? = _
      rw [List.getElem?_set_ne (Ne.symm ne)]
      exact q1
theorem wipe_set {σ : St} {i : Nat} {x : Option V} : ∀ {vs : List Nat}, i ∈ vs → L2.wipe (σ.set i x) vs = L2.wipe σ vs
  | v :: vs, h => by
    unfold L2.wipe
    by_cases hi : i ∈ vs
    · rw [wipe_set hi]
    · have e : v = i := by
        rcases List.mem_cons.mp h with e | e
        · exact e.symm
        · exact absurd e hi
      subst e
      have key : ∀ ws : List Nat, v ∉ ws → L2.wipe (σ.set v x) ws = (L2.wipe σ ws).set v x := by
        intro ws
        induction ws with
        | nil => intro _; rfl
        | cons w ws ih =>
          intro hw
          unfold L2.wipe
          rw [ih (fun z => hw (List.mem_cons_of_mem _ z)), List.set_comm]
          intro z; exact hw (z ▸ List.mem_cons_self)
      rw [key vs hi, List.set_set]
theorem wipe_idem {σ : St} : ∀ {vs ws : List Nat}, (∀ i ∈ vs, i ∈ ws) → L2.wipe (L2.wipe σ vs) ws = L2.wipe σ ws
  | [], _, _ => rfl
  | v :: vs, ws, h => by
    show L2.wipe ((L2.wipe σ vs).set v none) ws = _
    rw [wipe_set (h v List.mem_cons_self), wipe_idem fun i hi => h i (List.mem_cons_of_mem _ hi)]

/-! ### what an expression gives -/
def E (te : TE) (ρ : Rho) (d : D) : Prop := ∀ G σ H, In G H → EnvR G σ H ρ → ∀ Q : VK, (∀ v H2, Same H H2 → Rp G H2 v d → Q v H2) → te σ H Q
/-- a new list -/
def EO (te : TE) (ρ : Rho) (ds : List D) : Prop := ∀ G σ H, In G H → EnvR G σ H ρ → ∀ Q : VK, (∀ p xs H2, Same H H2 → H p = none → H2 p = some (.lst xs) → Rps (p :: G) H2 xs ds → Q (.ref p) H2) → te σ H Q
def EA (ta : TA) (ρ : Rho) (ds : List D) : Prop := ∀ G σ H, In G H → EnvR G σ H ρ → ∀ Q : List V → Hp → Prop, (∀ vs H2, Same H H2 → Rps G H2 vs ds → Q vs H2) → ta σ H Q
def T (tt : TT) (ρ : Rho) (b : Bool) : Prop := ∀ G σ H, In G H → EnvR G σ H ρ → ∀ Q : Bool → Hp → Prop, (∀ H2, Same H H2 → Q b H2) → tt σ H Q
def EP (to : TO) (ρ : Rho) (o : Option Int) : Prop := ∀ G σ H, In G H → EnvR G σ H ρ → ∀ Q : Option Int → Hp → Prop, (∀ H2, Same H H2 → Q o H2) → to σ H Q
section
variable {K : PySem.W.Frag} {ρ : Rho} {ta tb tc te : TE} {i j : Int} {d e : D} {ds es : List D} {tr : TA} {tt tu : TT} {a b : Bool}
theorem E_of_EO (h : EO te ρ ds) : E te ρ (.list ds) := fun G σ H g r Q q => h G σ H g r Q fun p xs H2 s n h1 h2 =>
  q _ _ s (.lst (fun z => g p z n) (.inl h1) (h2.sub fun a ha => List.mem_cons_of_mem _ ha))
theorem E_var {k : Nat} (h : ρ[k]? = some (some (.d d))) : E (tVar k) ρ d := fun G σ H _ r Q q => by
  obtain ⟨v, h1, h2⟩ := r.at_ k _ h
  exact ⟨v, h1, q v H (Same.refl H) h2⟩
theorem E_int : E (tC (.int i)) ρ (.int i) := fun _ _ H _ _ Q q => q _ H (Same.refl H) (.int i)
theorem E_bl {b : Bool} : E (tC (.bl b)) ρ (.bool b) := fun _ _ H _ _ Q q => q _ H (Same.refl H) (.bl b)
theorem E_non : E (tC .non) ρ .none := fun _ _ H _ _ Q q => q _ H (Same.refl H) .non
theorem E_is (h : E te ρ d) (q : d = e) : E te ρ e := q ▸ h
theorem EO_is (h : EO te ρ ds) (q : ds = es) : EO te ρ es := q ▸ h
theorem T_is (h : T tt ρ a) (q : a = b) : T tt ρ b := q ▸ h
/-- two operands -/
theorem E_op {r : R2} (ha : E ta ρ d) (hb : E tb ρ e) {f : D} (hr : ∀ (G : Own) (H : Hp) (x y : V) (Q : VK), In G H → Rp G H x d → Rp G H y e → (∀ v H2, Same H H2 → Rp G H2 v f → Q v H2) → r x y H Q) : E (tOp r ta tb) ρ f := fun G σ H g en Q q =>
  ha G σ H g en _ fun x H1 s1 r1 => hb G σ H1 (g.same s1) (en.same s1) _ fun y H2 s2 r2 => hr G H2 x y Q ((g.same s1).same s2) (r1.same s2) r2 fun v H3 s3 r3 => q v H3 ((s1.trans s2).trans s3) r3
theorem E_un {r : V → Hp → VK → Prop} (ha : E ta ρ d) {f : D} (hr : ∀ (G : Own) (H : Hp) (x : V) (Q : VK), In G H → Rp G H x d → (∀ v H2, Same H H2 → Rp G H2 v f → Q v H2) → r x H Q) : E (tUn r ta) ρ f := fun G σ H g en Q q =>
  ha G σ H g en _ fun x H1 s1 r1 => hr G H1 x Q (g.same s1) r1 fun v H3 s3 r3 => q v H3 (s1.trans s3) r3
theorem E_i0 {g : Int → Int → V} {f : D} (ha : E ta ρ (.int i)) (hb : E tb ρ (.int j)) (hf : ∀ G H, Rp G H (g i j) f) : E (tOp (rI0 g) ta tb) ρ f :=
  E_op ha hb fun G H x y Q _ r1 r2 q => by
    cases r1; cases r2
    exact ⟨i, j, rfl, rfl, q _ H (Same.refl H) (hf G H)⟩
theorem E_iC {C : Int → Int → Prop} {g : Int → Int → V} {f : D} (ha : E ta ρ (.int i)) (hb : E tb ρ (.int j)) (hc : C i j) (hf : ∀ G H, Rp G H (g i j) f) : E (tOp (rI C g) ta tb) ρ f :=
  E_op ha hb fun G H x y Q _ r1 r2 q => by
    cases r1; cases r2
    exact ⟨i, j, rfl, rfl, hc, q _ H (Same.refl H) (hf G H)⟩
theorem E_add (ha : E ta ρ (.int i)) (hb : E tb ρ (.int j)) : E (tOp (rI0 fun i j => .int (i + j)) ta tb) ρ (.int (i + j)) := E_i0 ha hb fun _ _ => .int _
theorem E_sub (ha : E ta ρ (.int i)) (hb : E tb ρ (.int j)) : E (tOp (rI0 fun i j => .int (i - j)) ta tb) ρ (.int (i - j)) := E_i0 ha hb fun _ _ => .int _
theorem E_mul (ha : E ta ρ (.int i)) (hb : E tb ρ (.int j)) (hc : CMulW i j) : E (tOp (rI CMulW fun i j => .int (i * j)) ta tb) ρ (.int (i * j)) := E_iC ha hb hc fun _ _ => .int _
theorem E_fdiv (ha : E ta ρ (.int i)) (hb : E tb ρ (.int j)) (hc : CDivW i j) : E (tOp (rI CDivW fun i j => .int (i / j)) ta tb) ρ (.int (i / j)) := E_iC ha hb hc fun _ _ => .int _
theorem E_mod (ha : E ta ρ (.int i)) (hb : E tb ρ (.int j)) (hc : 0 < j) : E (tOp (rI (fun _ j => 0 < j) fun i j => .int (i % j)) ta tb) ρ (.int (i % j)) := E_iC ha hb hc fun _ _ => .int _
theorem E_lt (ha : E ta ρ (.int i)) (hb : E tb ρ (.int j)) : E (tOp (rI0 fun i j => .bl (decide (i < j))) ta tb) ρ (.bool (decide (i < j))) := E_i0 ha hb fun _ _ => .bl _
theorem E_le (ha : E ta ρ (.int i)) (hb : E tb ρ (.int j)) : E (tOp (rI0 fun i j => .bl (decide (i ≤ j))) ta tb) ρ (.bool (decide (i ≤ j))) := E_i0 ha hb fun _ _ => .bl _
theorem E_gt (ha : E ta ρ (.int i)) (hb : E tb ρ (.int j)) : E (tOp (rI0 fun i j => .bl (decide (j < i))) ta tb) ρ (.bool (decide (j < i))) := E_i0 ha hb fun _ _ => .bl _
theorem E_ge (ha : E ta ρ (.int i)) (hb : E tb ρ (.int j)) : E (tOp (rI0 fun i j => .bl (decide (j ≤ i))) ta tb) ρ (.bool (decide (j ≤ i))) := E_i0 ha hb fun _ _ => .bl _
theorem E_eqI (ha : E ta ρ (.int i)) (hb : E tb ρ (.int j)) : E (tOp rEq ta tb) ρ (.bool (decide (i = j))) :=
  E_op ha hb fun G H x y Q _ r1 r2 q => by
    cases r1; cases r2
    refine ⟨rfl, ?_⟩
    have e : decide (V.int i = V.int j) = decide (i = j) := by rw [dec_int]; exact Bool.beq_eq_decide_eq i j
    rw [e]
    exact q _ H (Same.refl H) (.bl _)
theorem E_neI (ha : E ta ρ (.int i)) (hb : E tb ρ (.int j)) : E (tOp rNe ta tb) ρ (.bool (!decide (i = j))) :=
  E_op ha hb fun G H x y Q _ r1 r2 q => by
    cases r1; cases r2
    refine ⟨rfl, ?_⟩
    have e : decide (V.int i = V.int j) = decide (i = j) := by rw [dec_int]; exact Bool.beq_eq_decide_eq i j
    rw [e]
    exact q _ H (Same.refl H) (.bl _)
theorem E_eqB (ha : E ta ρ (.bool a)) (hb : E tb ρ (.bool b)) : E (tOp rEq ta tb) ρ (.bool (a == b)) :=
  E_op ha hb fun G H x y Q _ r1 r2 q => by
    cases r1; cases r2
    refine ⟨rfl, ?_⟩
    rw [dec_bl]
    exact q _ H (Same.refl H) (.bl _)
theorem E_neB (ha : E ta ρ (.bool a)) (hb : E tb ρ (.bool b)) : E (tOp rNe ta tb) ρ (.bool (!(a == b))) :=
  E_op ha hb fun G H x y Q _ r1 r2 q => by
    cases r1; cases r2
    refine ⟨rfl, ?_⟩
    rw [dec_bl]
    exact q _ H (Same.refl H) (.bl _)
theorem E_eqD (ha : E ta ρ d) (hb : E tb ρ e) (h1 : SeqAt.shaped d = true) (h2 : SeqAt.shaped e = true) : E (tOp (rEqD K) ta tb) ρ (.bool (PyData.eqv d e)) :=
  E_op ha hb fun G H x y Q _ r1 r2 q => ⟨d, e, Rp.dp d x r1, Rp.dp e y r2, h1, h2, q _ H (Same.refl H) (.bl _)⟩
theorem E_neD (ha : E ta ρ d) (hb : E tb ρ e) (h1 : SeqAt.shaped d = true) (h2 : SeqAt.shaped e = true) : E (tOp (rNeD K) ta tb) ρ (.bool (!PyData.eqv d e)) :=
  E_op ha hb fun G H x y Q _ r1 r2 q => ⟨d, e, Rp.dp d x r1, Rp.dp e y r2, h1, h2, q _ H (Same.refl H) (.bl _)⟩
theorem E_isN (ha : E ta ρ d) (hd : d ≠ .none) : E (tOp (fun x y H Q => y = .non ∧ Q (.bl (decide (x = .non))) H) ta (tC .non)) ρ (.bool false) :=
  E_op ha E_non fun G H x y Q _ r1 r2 q => by
    cases r2
    refine ⟨rfl, ?_⟩
    have e : decide (x = V.non) = false := decide_eq_false (by rintro rfl; cases r1; exact hd rfl)
    rw [e]
    exact q _ H (Same.refl H) (.bl _)
theorem E_ixL (ha : E ta ρ (.list ds)) (hb : E tb ρ (.int i)) (h : atI ds i = some d) : E (tOp (rIx K) ta tb) ρ d :=
  E_op ha hb fun G H x y Q _ r1 r2 q => by
    cases r2
    cases r1 with
    | lst h1 h2 h3 =>
      obtain ⟨v, e1, e2⟩ := h3.atI h
      exact .inl ⟨_, _, i, v, rfl, rfl, .inl h2, e1, q v H (Same.refl H) e2⟩
theorem E_ixT (ha : E ta ρ (.tuple ds)) (hb : E tb ρ (.int i)) (h : atI ds i = some d) : E (tOp (rIx K) ta tb) ρ d :=
  E_op ha hb fun G H x y Q _ r1 r2 q => by
    cases r2
    cases r1 with
    | tup h1 h2 h3 =>
      obtain ⟨v, e1, e2⟩ := h3.atI h
      exact .inr (.inl ⟨_, _, i, v, rfl, rfl, .inl h2, e1, q v H (Same.refl H) e2⟩)
/-- an item of one's own list -/
theorem E_ixO {k : Nat} (hk : ρ[k]? = some (some (.o ds))) (hb : E tb ρ (.int i)) (h : atI ds i = some d) : E (tOp (rIx K) (tVar k) tb) ρ d := fun G σ H g en Q q => by
  obtain ⟨v, h1, p, xs, rfl, hp, hx, hr⟩ := en.at_ k _ hk
  refine ⟨_, h1, hb G σ H g en _ fun y H2 s2 r2 => ?_⟩
  cases r2
  obtain ⟨v, e1, e2⟩ := hr.atI h
  exact .inl ⟨p, xs, i, v, rfl, rfl, .inl (.inl (s2 _ _ hx)), e1, q v H2 s2 (e2.same s2)⟩
theorem EA_nil : EA tNil ρ [] := fun _ _ H _ _ Q q => q [] H (Same.refl H) .nil
theorem EA_cons (ha : E ta ρ d) (hr : EA tr ρ ds) : EA (tCons ta tr) ρ (d :: ds) := fun G σ H g en Q q =>
  ha G σ H g en _ fun x H1 s1 r1 => hr G σ H1 (g.same s1) (en.same s1) _ fun xs H2 s2 r2 => q _ H2 (s1.trans s2) (.cons (r1.same s2) r2)
theorem sz {n : Nat} (h : n ≤ 100000) : n ≤ sizeLine := Nat.le_trans h (by decide)
theorem sz1 {n : Nat} (h : n < 100000) : n < sizeLine := Nat.lt_of_lt_of_le h (by decide)
theorem same_new {H : Hp} {p : Addr} {o : HO} (h : H p = none) : Same H (upd H p o) := fun b x e => by
  rw [upd_ne (ne_of_none e h)]
  exact e
theorem E_tup (h : EA tr ρ ds) (hl : ds.length ≤ 100000) : E (tTup tr) ρ (.tuple ds) := fun G σ H g en Q q =>
  h G σ H g en _ fun vs H1 s1 r1 => ⟨by rw [r1.len]; exact sz hl, fun p hp => q _ _ (s1.trans (same_new hp)) (.tup (fun z => (g.same s1) p z hp) (.inl upd_same) (r1.same (same_new hp)))⟩
theorem free {H H' : Hp} (e : Same H H') {l : Addr} (h : H' l = none) : H l = none := e.free h
theorem EO_lst (h : EA tr ρ ds) (hl : ds.length ≤ 100000) : EO (tLst tr) ρ ds := fun G σ H g en Q q =>
  h G σ H g en _ fun vs H1 s1 r1 => ⟨by rw [r1.len]; exact sz hl, fun p hp => q p vs _ (s1.trans (same_new hp)) (free s1 hp) upd_same ((r1.wid hp).same (same_new hp))⟩
/-- a def's promise: from data to data -/
def SpR (R : List D → D → Prop) : Sp := fun vs H Q _ => ∃ (F : Own) (ds : List D) (d : D), In F H ∧ Rps F H vs ds ∧ R ds d ∧ ∀ v H', Same H H' → Rp F H' v d → Q v H'
theorem E_call {R : List D → D → Prop} {X : XK} (h : EA tr ρ ds) (hR : R ds d) : E (tCall (SpR R) [] X tr) ρ d := fun G σ H g en Q q =>
  h G σ H g en _ fun vs H1 s1 r1 => ⟨G, ds, d, g.same s1, by rw [List.append_nil]; exact r1, hR, fun v H2 s2 r2 => q v H2 (s1.trans s2) r2⟩
/-- a built-in's call -/
theorem E_cb {r : List V → Hp → VK → Prop} (h : EA tr ρ ds) (hr : ∀ (G : Own) (H : Hp) (vs : List V) (Q : VK), In G H → Rps G H vs ds → (∀ v H2, Same H H2 → Rp G H2 v d → Q v H2) → r vs H Q) : E (tCB r tr) ρ d := fun G σ H g en Q q =>
  h G σ H g en _ fun vs H1 s1 r1 => hr G H1 vs Q (g.same s1) r1 fun v H2 s2 r2 => q v H2 (s1.trans s2) r2
abbrev rLenS (K : PySem.W.Frag) : List V → Hp → VK → Prop := fun xs H Q => ∃ p ys, xs = [.ref p] ∧ (SqL K H p ys ∨ SqT K H p ys) ∧ Q (.int ys.length) H
theorem E_lenL (h : E ta ρ (.list ds)) : E (tCB (rLenS K) (tCons ta tNil)) ρ (.int (ds.length : Int)) := E_cb (EA_cons h EA_nil) fun G H vs Q _ r q => by
  cases r with
  | cons r1 r2 =>
    cases r2
    cases r1 with
    | lst h1 h2 h3 => exact ⟨_, _, rfl, .inl (.inl h2), by rw [h3.len]; exact q _ H (Same.refl H) (.int _)⟩
theorem E_lenT (h : E ta ρ (.tuple ds)) : E (tCB (rLenS K) (tCons ta tNil)) ρ (.int (ds.length : Int)) := E_cb (EA_cons h EA_nil) fun G H vs Q _ r q => by
  cases r with
  | cons r1 r2 =>
    cases r2
    cases r1 with
    | tup h1 h2 h3 => exact ⟨_, _, rfl, .inr (.inl h2), by rw [h3.len]; exact q _ H (Same.refl H) (.int _)⟩
abbrev rAbs : List V → Hp → VK → Prop := fun xs H Q => ∃ i, xs = [.int i] ∧ Q (.int (if i < 0 then -i else i)) H
theorem E_abs (h : E ta ρ (.int i)) : E (tCB rAbs (tCons ta tNil)) ρ (.int (if i < 0 then -i else i)) := E_cb (EA_cons h EA_nil) fun G H vs Q _ r q => by
  cases r with
  | cons r1 r2 =>
    cases r2; cases r1
    exact ⟨i, rfl, q _ H (Same.refl H) (.int _)⟩
abbrev rMax2 : List V → Hp → VK → Prop := fun xs H Q => ∃ i j, xs = [.int i, .int j] ∧ Q (.int (if j > i then j else i)) H
theorem E_max2 (h : E ta ρ (.int i)) (h' : E tb ρ (.int j)) : E (tCB rMax2 (tCons ta (tCons tb tNil))) ρ (.int (if j > i then j else i)) := E_cb (EA_cons h (EA_cons h' EA_nil)) fun G H vs Q _ r q => by
  cases r with
  | cons r1 r2 =>
    cases r2 with
    | cons r2 r3 =>
      cases r3; cases r1; cases r2
      exact ⟨i, j, rfl, q _ H (Same.refl H) (.int _)⟩
abbrev rInt1 : List V → Hp → VK → Prop := fun xs H Q => (∃ i, xs = [.int i] ∧ Q (.int i) H) ∨ ∃ k, xs = [.bl k] ∧ Q (.int (if k then 1 else 0)) H
theorem E_intI (h : E ta ρ (.int i)) : E (tCB rInt1 (tCons ta tNil)) ρ (.int i) := E_cb (EA_cons h EA_nil) fun G H vs Q _ r q => by
  cases r with
  | cons r1 r2 =>
    cases r2; cases r1
    exact .inl ⟨i, rfl, q _ H (Same.refl H) (.int _)⟩
theorem E_intB (h : E ta ρ (.bool b)) : E (tCB rInt1 (tCons ta tNil)) ρ (.int (if b then 1 else 0)) := E_cb (EA_cons h EA_nil) fun G H vs Q _ r q => by
  cases r with
  | cons r1 r2 =>
    cases r2; cases r1
    exact .inr ⟨b, rfl, q _ H (Same.refl H) (.int _)⟩
theorem E_gcd (h : E ta ρ (.int i)) (h' : E tb ρ (.int j)) : E (tCB rGcd (tCons ta (tCons tb tNil))) ρ (.int ((Nat.gcd i.natAbs j.natAbs : Nat) : Int)) := E_cb (EA_cons h (EA_cons h' EA_nil)) fun G H vs Q _ r q => by
  cases r with
  | cons r1 r2 =>
    cases r2 with
    | cons r2 r3 =>
      cases r3; cases r1; cases r2
      exact ⟨i, j, rfl, q _ H (Same.refl H) (.int _)⟩
/-- sum of a list of ints, all of a list of bools -/
theorem E_sum {ns : List Int} (h : E ta ρ (.list (ns.map PyData.int))) : E (tCB (rSum K) (tCons ta tNil)) ρ (.int ns.sum) := E_cb (EA_cons h EA_nil) fun G H vs Q _ r q => by
  cases r with
  | cons r1 r2 =>
    cases r2
    cases r1 with
    | lst h1 h2 h3 =>
      have e := h3.ints
      subst e
      exact ⟨_, ns, rfl, .inl h2, q _ H (Same.refl H) (.int _)⟩
theorem E_all {bs : List Bool} (h : E ta ρ (.list (bs.map PyData.bool))) : E (tCB (rAll K) (tCons ta tNil)) ρ (.bool (bs.all id)) := E_cb (EA_cons h EA_nil) fun G H vs Q _ r q => by
  cases r with
  | cons r1 r2 =>
    cases r2
    cases r1 with
    | lst h1 h2 h3 =>
      have e := h3.bools
      subst e
      exact ⟨_, bs, rfl, .inl h2, q _ H (Same.refl H) (.bl _)⟩
/-- list(x), tuple(x) -/
abbrev rListOf (K : PySem.W.Frag) : List V → Hp → VK → Prop := fun xs H Q => ∃ p ys, xs = [.ref p] ∧ (SqL K H p ys ∨ SqT K H p ys) ∧ ∀ l, H l = none → Q (.ref l) (upd H l (.lst ys))
theorem EO_cb {r : List V → Hp → VK → Prop} (h : EA tr ρ ds) (hr : ∀ (G : Own) (H : Hp) (vs : List V) (Q : VK), In G H → Rps G H vs ds → (∀ p xs H2, Same H H2 → H p = none → H2 p = some (.lst xs) → Rps (p :: G) H2 xs es → Q (.ref p) H2) → r vs H Q) : EO (tCB r tr) ρ es := fun G σ H g en Q q =>
  h G σ H g en _ fun vs H1 s1 r1 => hr G H1 vs Q (g.same s1) r1 fun p xs H2 s2 n h1 r2 => q p xs H2 (s1.trans s2) (free s1 n) h1 r2
theorem EO_listL (h : E ta ρ (.list ds)) : EO (tCB (rListOf K) (tCons ta tNil)) ρ ds := EO_cb (EA_cons h EA_nil) fun G H vs Q _ r q => by
  cases r with
  | cons r1 r2 =>
    cases r2
    cases r1 with
    | lst h1 h2 h3 => exact ⟨_, _, rfl, .inl (.inl h2), fun l hl => q l _ _ (same_new hl) hl upd_same ((h3.wid hl).same (same_new hl))⟩
theorem EO_listT (h : E ta ρ (.tuple ds)) : EO (tCB (rListOf K) (tCons ta tNil)) ρ ds := EO_cb (EA_cons h EA_nil) fun G H vs Q _ r q => by
  cases r with
  | cons r1 r2 =>
    cases r2
    cases r1 with
    | tup h1 h2 h3 => exact ⟨_, _, rfl, .inr (.inl h2), fun l hl => q l _ _ (same_new hl) hl upd_same ((h3.wid hl).same (same_new hl))⟩
theorem E_tupleL (h : E ta ρ (.list ds)) : E (tThen ta (kTup K)) ρ (.tuple ds) := fun G σ H g en Q q => h G σ H g en _ fun x H1 s1 r1 => by
  cases r1 with
  | lst h1 h2 h3 => exact .inl ⟨_, _, rfl, .inl h2, fun l hl => q _ _ (s1.trans (same_new hl)) (.tup (fun z => (g.same s1) l z hl) (.inl upd_same) (h3.same (same_new hl)))⟩
/-- isinstance -/
theorem tyx_of {G : Own} {H : Hp} {x : V} (n : String) : (d : D) → Rp G H x d → (match d with | .none => n = "NoneType" | .bool _ => n = "bool" | .int _ => n = "int" | .str _ => n = "str" | .list _ => n = "list" | .tuple _ => n = "tuple" | .dict _ => False) → TyX K H x (.type n)
  | .none, h, e => by cases h; subst e; exact .base .non
  | .bool b, h, e => by cases h; subst e; exact .base (.bl b)
  | .int i, h, e => by cases h; subst e; exact .base (.int i)
  | .str i, h, e => by cases h; subst e; exact .base (.str i)
  | .list _, h, e => by
    cases h with
    | lst h1 h2 h3 =>
      subst e
      rcases h2 with h2 | ⟨o, h2⟩
      · exact .base (.lst h2)
      · exact .base (.frz h2)
  | .tuple _, h, e => by
    cases h with
    | tup h1 h2 h3 =>
      subst e
      rcases h2 with h2 | ⟨o, h2⟩
      · exact .base (.tup h2)
      · exact .fTuple h2
  | .dict _, h, _ => by cases h
def tyN : D → String
  | .none => "NoneType" | .bool _ => "bool" | .int _ => "int" | .str _ => "str" | .list _ => "list" | .tuple _ => "tuple" | .dict _ => "dict"
theorem E_isi {n : String} (h : E ta ρ d) (hb : kitB (tyN d) n = some b) (hd : ∀ kvs, d ≠ .dict kvs) : E (tCB (rIsi K) (tCons ta (tCons (tC (.ty n)) tNil))) ρ (.bool b) := fun G σ H g en Q q =>
  h G σ H g en _ fun x H1 s1 r1 => ⟨x, .ty n, .type (tyN d), .type n, b, rfl, .ty n, tyx_of (tyN d) d r1 (by cases d <;> first | rfl | exact absurd rfl (hd _)), kit_ty hb, q _ H1 s1 (.bl b)⟩
end
end Cal
set_option Elab.async false
set_option linter.all false
set_option maxRecDepth 100000
set_option maxHeartbeats 4000000
namespace Cal
open PySem L2
section
variable {K : PySem.W.Frag} {ρ ρ' : Rho} {ta tb tc te : TE} {i j : Int} {d e : D} {ds es : List D} {tr : TA} {tt tu : TT} {a b : Bool}
/-! ### slices, +, * -/
def cutD {α : Type} (xs : List α) (lo hi : Option Int) : List α := (xs.drop (HT.sIx xs.length 0 lo)).take (HT.sIx xs.length xs.length hi - HT.sIx xs.length 0 lo)
theorem EP_none : EP tNoPart ρ none := fun _ _ H _ _ Q q => q H (Same.refl H)
theorem EP_some (h : E te ρ (.int i)) : EP (tPart te) ρ (some i) := fun G σ H g en Q q => h G σ H g en _ fun x H1 s1 r1 => by
  cases r1
  exact ⟨i, rfl, q H1 s1⟩
theorem Rps.cut {G : Own} {H : Hp} {vs : List V} {lo hi : Option Int} (h : Rps G H vs ds) : Rps G H (cutV vs lo hi) (cutD ds lo hi) := by
  unfold cutV cutD
  rw [h.len]
  exact (h.drop _).take _
theorem EO_slL {tl th : TO} {lo hi : Option Int} (h : E te ρ (.list ds)) (h1 : EP tl ρ lo) (h2 : EP th ρ hi) : EO (tSl (rSlL K) te tl th) ρ (cutD ds lo hi) := fun G σ H g en Q q =>
  h G σ H g en _ fun x H1 s1 r1 => h1 G σ H1 (g.same s1) (en.same s1) _ fun H2 s2 => h2 G σ H2 ((g.same s1).same s2) ((en.same s1).same s2) _ fun H3 s3 => by
    cases (r1.same s2).same s3 with
    | lst q1 q2 q3 => exact ⟨_, _, rfl, .inl q2, fun p hp => q p _ _ (((s1.trans s2).trans s3).trans (same_new hp)) (free ((s1.trans s2).trans s3) hp) upd_same ((q3.cut.wid hp).same (same_new hp))⟩
theorem E_slT {tl th : TO} {lo hi : Option Int} (h : E te ρ (.tuple ds)) (h1 : EP tl ρ lo) (h2 : EP th ρ hi) (hn : ¬ (HT.sIx ds.length 0 lo = 0 ∧ HT.sIx ds.length ds.length hi = ds.length)) : E (tSl (rSlT K) te tl th) ρ (.tuple (cutD ds lo hi)) := fun G σ H g en Q q =>
  h G σ H g en _ fun x H1 s1 r1 => h1 G σ H1 (g.same s1) (en.same s1) _ fun H2 s2 => h2 G σ H2 ((g.same s1).same s2) ((en.same s1).same s2) _ fun H3 s3 => by
    have g3 := ((g.same s1).same s2).same s3
    cases (r1.same s2).same s3 with
    | tup q1 q2 q3 => exact ⟨_, _, rfl, .inl q2, by rw [q3.len]; exact hn, fun p hp => q _ _ (((s1.trans s2).trans s3).trans (same_new hp)) (.tup (fun z => g3 p z hp) (.inl upd_same) (q3.cut.same (same_new hp)))⟩
theorem cut_take {α : Type} (xs : List α) (n : Nat) : cutD xs none (some (n : Int)) = xs.take n := by
  unfold cutD
  rw [HT.sIx_none, HT.sIx_nat, List.drop_zero, Nat.sub_zero]
  by_cases h : n ≤ xs.length
  · rw [Nat.min_eq_left h]
  · rw [Nat.min_eq_right (by omega), List.take_length, List.take_of_length_le (by omega)]
theorem cut_drop {α : Type} (xs : List α) (n : Nat) : cutD xs (some (n : Int)) none = xs.drop n := by
  unfold cutD
  rw [HT.sIx_none, HT.sIx_nat]
  by_cases h : n ≤ xs.length
  · rw [Nat.min_eq_left h, List.take_of_length_le (by rw [List.length_drop]; omega)]
  · rw [Nat.min_eq_right (by omega), List.drop_length, List.drop_of_length_le (by omega)]; simp
theorem EO_cat (ha : EO ta ρ ds) (hb : EO tb ρ es) (hl : ds.length + es.length ≤ 100000) : EO (tOp rCat ta tb) ρ (ds ++ es) := fun G σ H g en Q q =>
  ha G σ H g en _ fun p xs H1 s1 n1 h1 r1 => hb G σ H1 (g.same s1) (en.same s1) _ fun p2 ys H2 s2 n2 h2 r2 =>
    ⟨p, p2, xs, ys, rfl, rfl, s2 _ _ h1, h2, by rw [r1.len, r2.len]; exact sz hl, fun l hl => by
      have c1 : Rps G H2 xs ds := (r1.sub fun a ha => List.mem_cons_of_mem _ ha).same s2
      have c2 : Rps G H2 ys es := r2.sub fun a ha => List.mem_cons_of_mem _ ha
      exact q l _ _ ((s1.trans s2).trans (same_new hl)) (free (s1.trans s2) hl) upd_same (((c1.append c2).wid hl).same (same_new hl))⟩
theorem E_catT (ha : E ta ρ (.tuple ds)) (hb : E tb ρ (.tuple es)) (h1 : ds ≠ []) (h2 : es ≠ []) (hl : ds.length + es.length ≤ 100000) : E (tOp (rCatT K) ta tb) ρ (.tuple (ds ++ es)) :=
  E_op ha hb fun G H x y Q g r1 r2 q => by
    cases r1 with
    | tup a1 a2 a3 =>
      cases r2 with
      | tup b1 b2 b3 =>
        refine ⟨_, _, _, _, rfl, rfl, .inl a2, .inl b2, ?_, by rw [a3.len, b3.len]; exact sz hl, ?_, fun _ p hp => q _ _ (same_new hp) (.tup (fun z => g p z hp) (.inl upd_same) ((a3.append b3).same (same_new hp)))⟩
        · rintro rfl
          have := a3.len
          cases ds with
          | nil => exact h1 rfl
          | cons _ _ => cases this
        · rintro rfl
          have := b3.len
          cases es with
          | nil => exact absurd rfl h2
          | cons _ _ => cases this
theorem EO_rep {n : Nat} (ha : EO ta ρ ds) (hb : E tb ρ (.int (n : Int))) (hl : ds.length * n ≤ 100000) (hn : n ≤ 100000) : EO (tOp rRep ta tb) ρ (List.replicate n ds).flatten := fun G σ H g en Q q =>
  ha G σ H g en _ fun p xs H1 s1 n1 h1 r1 => hb G σ H1 (g.same s1) (en.same s1) _ fun y H2 s2 r2 => by
    cases r2
    refine ⟨p, (n : Int), xs, rfl, rfl, s2 _ _ h1, by omega, by omega, by rw [r1.len]; exact sz hl, fun l hl => ?_⟩
    have c1 : Rps G H2 xs ds := (r1.sub fun a ha => List.mem_cons_of_mem _ ha).same s2
    exact q l _ _ ((s1.trans s2).trans (same_new hl)) (free (s1.trans s2) hl) upd_same (((c1.flat n).wid hl).same (same_new hl))
theorem rep_one {α : Type} (n : Nat) (x : α) : (List.replicate n [x]).flatten = List.replicate n x := by
  induction n with
  | zero => rfl
  | succ n ih => rw [List.replicate_succ, List.flatten_cons, ih]; rfl

/-! ### and, or, not, chains, tests -/
theorem E_and (ha : E ta ρ (.bool a)) (hb : a = true → E tb ρ (.bool b)) : E (tAndV ta tb) ρ (.bool (a && b)) := fun G σ H g en Q q =>
  ha G σ H g en _ fun x H1 s1 r1 => by
    cases r1
    refine ⟨a, rfl, ?_⟩
    cases a with
    | true => exact hb rfl G σ H1 (g.same s1) (en.same s1) Q fun v H2 s2 r2 => q v H2 (s1.trans s2) r2
    | false => exact q _ H1 s1 (.bl _)
theorem E_or (ha : E ta ρ (.bool a)) (hb : a = false → E tb ρ (.bool b)) : E (tOrV ta tb) ρ (.bool (a || b)) := fun G σ H g en Q q =>
  ha G σ H g en _ fun x H1 s1 r1 => by
    cases r1
    refine ⟨a, rfl, ?_⟩
    cases a with
    | false => exact hb rfl G σ H1 (g.same s1) (en.same s1) Q fun v H2 s2 r2 => q v H2 (s1.trans s2) r2
    | true => exact q _ H1 s1 (.bl _)
theorem E_not (ha : E ta ρ (.bool a)) : E (tNotV ta) ρ (.bool (!a)) := fun G σ H g en Q q =>
  ha G σ H g en _ fun x H1 s1 r1 => by
    cases r1
    exact ⟨a, rfl, q _ H1 s1 (.bl _)⟩
theorem T_test (h : E te ρ (.bool b)) : T (tTest te) ρ b := fun G σ H g en Q q => h G σ H g en _ fun x H1 s1 r1 => by
  cases r1
  exact ⟨b, rfl, q H1 s1⟩
theorem T_B (h : E te ρ (.bool b)) : T (tB te) ρ b := fun G σ H g en Q q => h G σ H g en _ fun x H1 s1 r1 => by
  cases r1
  exact ⟨b, rfl, q H1 s1⟩
theorem T_yes : T tYes ρ true := fun _ _ H _ _ Q q => q H (Same.refl H)
theorem T_not (h : T tt ρ a) : T (tNot tt) ρ (!a) := fun G σ H g en Q q => h G σ H g en _ fun H1 s1 => q H1 s1
theorem T_and (h : T tt ρ a) (h2 : a = true → T tu ρ b) : T (tAnd tt tu) ρ (a && b) := fun G σ H g en Q q => h G σ H g en _ fun H1 s1 => by
  cases a with
  | true => exact h2 rfl G σ H1 (g.same s1) (en.same s1) Q fun H2 s2 => q H2 (s1.trans s2)
  | false => exact q H1 s1
theorem T_or (h : T tt ρ a) (h2 : a = false → T tu ρ b) : T (tOr tt tu) ρ (a || b) := fun G σ H g en Q q => h G σ H g en _ fun H1 s1 => by
  cases a with
  | false => exact h2 rfl G σ H1 (g.same s1) (en.same s1) Q fun H2 s2 => q H2 (s1.trans s2)
  | true => exact q H1 s1
/-- lo <= x <= hi -/
theorem E_chainLe {x lo hi : Int} (h1 : E ta ρ (.int lo)) (h2 : E tb ρ (.int x)) (h3 : E tc ρ (.int hi)) : E (tChain (rI0 fun i j => .bl (decide (i ≤ j))) (rI0 fun i j => .bl (decide (i ≤ j))) ta tb tc) ρ (.bool (decide (lo ≤ x) && decide (x ≤ hi))) := fun G σ H g en Q q =>
  h1 G σ H g en _ fun v1 H1 s1 r1 => h2 G σ H1 (g.same s1) (en.same s1) _ fun v2 H2 s2 r2 => by
    cases r1; cases r2
    refine ⟨lo, x, rfl, rfl, decide (lo ≤ x), rfl, ?_⟩
    by_cases h : lo ≤ x
    · rw [decide_eq_true h]
      refine iteT (h3 G σ H2 ((g.same s1).same s2) ((en.same s1).same s2) _ fun v3 H3 s3 r3 => ?_)
      cases r3
      refine ⟨x, hi, rfl, rfl, q _ H3 ((s1.trans s2).trans s3) ?_⟩
      rw [decide_eq_true h, Bool.true_and]
      exact .bl _
    · rw [decide_eq_false h]
      refine iteF (q _ H2 (s1.trans s2) ?_)
      rw [decide_eq_false h, Bool.false_and]
      exact .bl _

/-! ### what is walked -/
/-- all that H1 had stands, but for one's own lists -/
def Stands (G : Own) (H1 H : Hp) : Prop := ∀ a o, a ∉ G → H1 a = some o → H a = some o
structure WalkD (G : Own) (J : It) (H1 : Hp) (ds : List D) : Prop where
  goes : ∀ (i : Nat) H, i < ds.length → Stands G H1 H → J.go i H
  stops : ∀ H, Stands G H1 H → J.stop ds.length H
  yields : ∀ (G' : Own) (i : Nat) (H : Hp) (x : V) (H' : Hp) (d : D), ds[i]? = some d → Stands G H1 H → In G' H → (∀ a ∈ G', a ∈ G ∨ H1 a = none) → J.yld i H x H' → Same H H' ∧ Rp G' H' x d
def W (wi : TI) (ρ : Rho) (ds : List D) : Prop := ∀ G σ H, In G H → EnvR G σ H ρ → ∀ R : It → Hp → Prop, (∀ J H1, Same H H1 → WalkD G J H1 ds → R J H1) → wi σ H R
theorem W_is (h : W wi ρ ds) (q : ds = es) : W wi ρ es := q ▸ h
theorem rp_stand {G G' : Own} {H1 H : Hp} {v : V} (h : Rp G H1 v d) (s : Stands G H1 H) (hg : ∀ a ∈ G', a ∈ G ∨ H1 a = none) : Rp G' H v d :=
  Rp.mono s (fun a z q => (hg a z).elim id fun e => absurd e q) d v h
theorem W_list (h : E te ρ (.list ds)) : W (iList K te) ρ ds := fun G σ H g en R q => h G σ H g en _ fun x H1 s1 r1 => by
  cases r1 with
  | lst h1 h2 h3 =>
    rename_i a xs
    refine ⟨a, rfl, ⟨xs, .inl h2⟩, q _ H1 s1 ⟨fun i H' hi st => ?_, fun H' st => ?_, fun G' i H' v H'' d' hd st g' hg y => ?_⟩⟩
    · exact ⟨xs, xs[i]'(by rw [h3.len]; exact hi), .inl (rd_keep (fun o => st _ o h1) h2), by simp [h3.len, hi]⟩
    · exact ⟨xs, .inl (rd_keep (fun o => st _ o h1) h2), by rw [h3.len]; exact Nat.le_refl _⟩
    · obtain ⟨rfl, y⟩ := y
      have e := y xs (.inl (rd_keep (fun o => st _ o h1) h2))
      obtain ⟨v', e1, e2⟩ := h3.get hd
      rw [e] at e1; cases e1
      exact ⟨Same.refl _, rp_stand e2 st hg⟩
theorem W_tup (h : E te ρ (.tuple ds)) : W (iTup K te) ρ ds := fun G σ H g en R q => h G σ H g en _ fun x H1 s1 r1 => by
  cases r1 with
  | tup h1 h2 h3 =>
    rename_i a xs
    refine ⟨a, rfl, ⟨xs, .inl h2⟩, q _ H1 s1 ⟨fun i H' hi st => ?_, fun H' st => ?_, fun G' i H' v H'' d' hd st g' hg y => ?_⟩⟩
    · exact ⟨xs, xs[i]'(by rw [h3.len]; exact hi), .inl (rd_keep (fun o => st _ o h1) h2), by simp [h3.len, hi]⟩
    · exact ⟨xs, .inl (rd_keep (fun o => st _ o h1) h2), by rw [h3.len]; exact Nat.le_refl _⟩
    · obtain ⟨rfl, y⟩ := y
      have e := y xs (.inl (rd_keep (fun o => st _ o h1) h2))
      obtain ⟨v', e1, e2⟩ := h3.get hd
      rw [e] at e1; cases e1
      exact ⟨Same.refl _, rp_stand e2 st hg⟩
def intD (n : Nat) : D := .int (n : Int)
theorem W_range {n : Nat} (h : E te ρ (.int (n : Int))) (hn : n ≤ 100000) : W (iRng1 (tCons te tNil)) ρ ((List.range n).map intD) := fun G σ H g en R q => h G σ H g en _ fun x H1 s1 r1 => by
  cases r1
  refine ⟨(n : Int), rfl, by omega, by omega, ?_⟩
  rw [Int.toNat_natCast]
  refine q _ H1 s1 ⟨fun i H' hi st => ?_, fun H' st => ?_, fun G' i H' v H'' d' hd st g' hg y => ?_⟩
  · show i < n
    simpa using hi
  · show n ≤ _
    simp
  · obtain ⟨rfl, y⟩ := y
    refine ⟨Same.refl _, ?_⟩
    subst y
    have hi : i < n := by
      have := (List.getElem?_eq_some_iff.mp hd).1
      simpa using this
    rw [List.getElem?_map, List.getElem?_range hi] at hd
    cases hd
    rw [Int.zero_add]
    exact .int _
def pairD (x y : D) : D := .tuple [x, y]
theorem W_zip {xs ys : List D} (h1 : E ta ρ (.list xs)) (h2 : E tb ρ (.list ys)) (hl : xs.length = ys.length) : W (iZip K (tCons ta (tCons tb tNil))) ρ (List.zipWith pairD xs ys) := fun G σ H g en R q =>
  h1 G σ H g en _ fun v1 H1 s1 r1 => h2 G σ H1 (g.same s1) (en.same s1) _ fun v2 H2 s2 r2 => by
    cases r1.same s2 with
    | lst a1 a2 a3 =>
      cases r2 with
      | lst b1 b2 b3 =>
        rename_i p us p2 ws
        have hn : (List.zipWith pairD xs ys).length = min us.length ws.length := by rw [List.length_zipWith, a3.len, b3.len]
        have w := walk_zip (K := K) (a := p) (b := p2) hn
        have gg : ∀ H', Stands G H2 H' → SqL K H' p us ∧ SqL K H' p2 ws := fun H' st => ⟨.inl (rd_keep (fun o => st _ o a1) a2), .inl (rd_keep (fun o => st _ o b1) b2)⟩
        refine ⟨p, p2, us, ws, rfl, .inl a2, .inl b2, q _ H2 (s1.trans s2) ⟨fun i H' hi st => w.goes i H' hi (gg H' st), fun H' st => w.stops H' (gg H' st), fun G' i H' v H'' d' hd st g' hg y => ?_⟩⟩
        have hi : i < (List.zipWith pairD xs ys).length := (List.getElem?_eq_some_iff.mp hd).1
        obtain ⟨T, x, z, rfl, nT, rfl, e1, e2⟩ := w.yields i H' v H'' hi (gg H' st) y
        obtain ⟨dx, f1, f2⟩ := a3.getV e1
        obtain ⟨dz, f3, f4⟩ := b3.getV e2
        have ed : d' = pairD dx dz := by
          rw [List.getElem?_zipWith, f1, f3] at hd
          exact (Option.some.inj hd).symm
        subst ed
        exact ⟨same_new nT, .tup (fun z => g' T z nT) (.inl upd_same) (.cons ((rp_stand f2 st hg).same (same_new nT)) (.cons ((rp_stand f4 st hg).same (same_new nT)) .nil))⟩

/-! ### targets -/
def Tg (g : TG) (vs : List Nat) (d : D) (ρ ρ' : Rho) : Prop := ∀ (G : Own) (σ : St) (H : Hp) (x : V) (Q : St → Hp → Prop), In G H → EnvR G σ H ρ → Rp G H x d → (∀ σ2, (∀ ws, (∀ i ∈ vs, i ∈ ws) → L2.wipe σ2 ws = L2.wipe σ ws) → (∀ (k : Nat), k ∉ vs → σ2[k]? = σ[k]?) → EnvR G σ2 H ρ' → Q σ2 H) → g x σ H Q
theorem Tg_name {k : Nat} : Tg (gName k) [k] d ρ (ρ.set k (some (.d d))) := fun G σ H x Q g en r q => q _ (fun ws hw => wipe_set (hw k (by simp))) (fun j hj => List.getElem?_set_ne (fun z => hj (by simp [z]))) (en.set r)
theorem Tg_pair {k l : Nat} : Tg (gTup K 2 (gCons (gName k) (gCons (gName l) gNil))) [k, l] (pairD d e) ρ ((ρ.set k (some (.d d))).set l (some (.d e))) := fun G σ H x Q g en r q => by
  cases r with
  | tup h1 h2 h3 =>
    cases h3 with
    | cons r1 h4 =>
      cases h4 with
      | cons r2 h5 =>
        cases h5
        refine ⟨_, _, rfl, .inl h2, rfl, _, _, rfl, _, _, rfl, rfl, q _ (fun ws hw => ?_) (fun j hj => ?_) ((en.set (s := .d d) r1).set (s := .d e) r2)⟩
        · rw [wipe_set (hw l (by simp)), wipe_set (hw k (by simp))]
        · simp only [List.mem_cons, List.mem_nil_iff, or_false, not_or] at hj
          rw [List.getElem?_set_ne (Ne.symm hj.2), List.getElem?_set_ne (Ne.symm hj.1)]

/-! ### comprehensions -/
theorem EO_lcP {wi : TI} {g : TG} {vs : List Nat} {vt : List Nat} {α : Type} {xs : List α} {emb f : α → D} {p : α → Bool} {ρm : α → Rho} (hw : W wi ρ (xs.map emb)) (hs : ∀ i ∈ vt, i ∈ vs) (hg : ∀ x, x ∈ xs → Tg g vt (emb x) (wipeR ρ vs) (ρm x)) (ht : ∀ x, x ∈ xs → T tt (ρm x) (p x))
    (he : ∀ x, x ∈ xs → p x = true → E te (ρm x) (f x)) (hl : xs.length ≤ 50000) : EO (tLc wi g tt te vs) ρ ((xs.filter p).map f) := fun G σ H g0 en Q q =>
  hw G σ H g0 en _ fun J H1 s1 w Dl hD => by
    have g1 := g0.same s1
    have en1 := (en.same s1).wipe vs
    -- P: the list so far stands at Dl, all else stands
    refine ⟨fun i m H' => m = xs.length - i ∧ i ≤ xs.length ∧ Same H1 H' ∧ ∃ acc, H' Dl = some (.lst acc) ∧ Rps (Dl :: G) H' acc (((xs.take i).filter p).map f), ⟨xs.length, by simp, Nat.zero_le _, same_new hD, [], upd_same, .nil⟩, ?_⟩
    rintro i m H' ⟨rfl, hi, sH, acc, hacc, racc⟩
    have st : Stands G H1 H' := fun a o _ e => sH a o e
    by_cases hlt : i < xs.length
    · refine .inr ⟨w.goes i H' (by rw [List.length_map]; exact hlt) st, fun H'' => Same H1 H'' ∧ ∃ acc, H'' Dl = some (.lst acc) ∧ Rps (Dl :: G) H'' acc (((xs.take (i + 1)).filter p).map f), fun H'' h'' => ⟨xs.length - (i + 1), by omega, rfl, hlt, h''⟩, fun x H2 y => ?_⟩
      have hx : xs[i] ∈ xs := List.getElem_mem hlt
      have gD : In (Dl :: G) H' := fun a ha => (List.mem_cons.mp ha).elim (fun e => by rw [e, hacc]; intro z; cases z) fun h => (g1.same sH) a h
      have hgD : ∀ a ∈ Dl :: G, a ∈ G ∨ H1 a = none := fun a ha => (List.mem_cons.mp ha).elim (fun e => .inr (e ▸ hD)) .inl
      obtain ⟨s2, rx⟩ := w.yields (Dl :: G) i H' x H2 (emb xs[i]) (by simp [hlt]) st gD hgD y
      have enD : EnvR (Dl :: G) (L2.wipe σ vs) H2 (wipeR ρ vs) := ((en1.wid hD).same sH).same s2
      refine hg _ hx (Dl :: G) _ H2 x _ (gD.same s2) enD rx fun σ2 hws _ en2 => ⟨?_, ?_⟩
      · rw [hws vs hs, wipe_idem fun i hi => hi]
      · refine ht _ hx (Dl :: G) σ2 H2 (gD.same s2) en2 _ fun H3 s3 => ?_
        have etake : xs.take (i + 1) = xs.take i ++ [xs[i]] := by rw [List.take_add_one, List.getElem?_eq_getElem hlt]; rfl
        cases hp : p xs[i] with
        | true =>
          show te σ2 H3 _
          refine he _ hx hp (Dl :: G) σ2 H3 ((gD.same s2).same s3) (en2.same s3) _ fun v H4 s4 r4 => ?_
          have s24 : Same H' H4 := (s2.trans s3).trans s4
          refine ⟨acc, s24 _ _ hacc, ?_, ?_, _, upd_same, ?_⟩
          · rw [racc.len]
            refine Nat.lt_of_le_of_lt ?_ (sz1 (n := 50000) (by decide))
            rw [List.length_map]
            refine Nat.le_trans (List.length_filter_le _ _) ?_
            rw [List.length_take]; omega
          · intro b o e
            rw [upd_ne (ne_of_none e hD)]
            exact s24 b o (sH b o e)
          · rw [etake, List.filter_append, List.map_append, List.filter_cons, if_pos hp, List.filter_nil, List.map_cons, List.map_nil]
            have k : ∀ a o, a ∉ (Dl :: G) → H4 a = some o → upd H4 Dl (.lst (acc ++ [v])) a = some o := fun a o ha e => by
              have hne : a ≠ Dl := fun z => ha (by rw [z]; exact List.mem_cons_self)
              rw [upd_ne hne]; exact e
            exact Rps.mono k (fun _ z _ => z) _ _ ((racc.same s24).append (.cons r4 .nil))
        | false =>
          show _ ∧ _
          have s23 : Same H' H3 := s2.trans s3
          refine ⟨sH.trans s23, acc, s23 _ _ hacc, ?_⟩
          rw [etake, List.filter_append, List.map_append, List.filter_cons, if_neg (by rw [hp]; decide), List.filter_nil, List.map_nil, List.append_nil]
          exact racc.same s23
    · have e : i = xs.length := by omega
      subst e
      rw [List.take_length] at racc
      refine .inl ⟨?_, q Dl acc H' (s1.trans sH) (free s1 hD) hacc racc⟩
      have := w.stops H' st
      rw [List.length_map] at this
      exact this
/-- without a test -/
theorem EO_lc {wi : TI} {g : TG} {vs : List Nat} {vt : List Nat} {α : Type} {xs : List α} {emb f : α → D} {ρm : α → Rho} (hw : W wi ρ (xs.map emb)) (hs : ∀ i ∈ vt, i ∈ vs) (hg : ∀ x, x ∈ xs → Tg g vt (emb x) (wipeR ρ vs) (ρm x))
    (he : ∀ x, x ∈ xs → E te (ρm x) (f x)) (hl : xs.length ≤ 50000) : EO (tLc wi g tYes te vs) ρ (xs.map f) := by
  have h := EO_lcP (tt := tYes) (p := fun _ => true) hw hs hg (fun _ _ => T_yes) (fun x hx _ => he x hx) hl
  rw [List.filter_eq_self.mpr (fun _ _ => rfl)] at h
  exact h
end
end Cal
set_option Elab.async false
set_option linter.all false
set_option maxRecDepth 100000
set_option maxHeartbeats 4000000
namespace Cal
open PySem L2
/-! ### states of a body -/
/-- from the heap H0 on: the slots are ρ; one's own lists are new since H0 and stand apart -/
structure Sta (F : Own) (H0 : Hp) (ρ : Rho) (G : Own) (σ : St) (H : Hp) : Prop where
  sub : ∀ a ∈ F, a ∈ G
  inn : In G H
  env : EnvR G σ H ρ
  ext : Same H0 H
  inF : In F H0
  new : ∀ a ∈ G, a ∈ F ∨ H0 a = none
  own : ∀ (i : Nat) ds p, ρ[i]? = some (some (.o ds)) → σ[i]? = some (some (.ref p)) → p ∉ F
  apart : ∀ (i j : Nat) ds es p, ρ[i]? = some (some (.o ds)) → ρ[j]? = some (some (.o es)) → σ[i]? = some (some (.ref p)) → σ[j]? = some (some (.ref p)) → i = j
def S1 (F : Own) (H0 : Hp) (ρ : Rho) (σ : St) (H : Hp) : Prop := ∃ G, Sta F H0 ρ G σ H
/-- a statement that goes on -/
def N (t : TS) (ρ ρ' : Rho) : Prop := ∀ (F : Own) (H0 : Hp) (σ : St) (H : Hp) (D : Ends), S1 F H0 ρ σ H → (∀ σ' H', S1 F H0 ρ' σ' H' → D.nx σ' H') → t D σ H
/-- a statement that returns -/
def Rt (t : TS) (ρ : Rho) (d : D) : Prop := ∀ (F : Own) (H0 : Hp) (σ : St) (H : Hp) (D : Ends), S1 F H0 ρ σ H → (∀ v H', Same H0 H' → Rp F H' v d → D.rt v H') → t D σ H
section
variable {K : PySem.W.Frag} {ρ ρ' ρ1 ρ2 : Rho} {ta tb tc te : TE} {t u t1 t2 : TS} {i j : Int} {d e : D} {ds es : List D} {tr : TA} {tt tu : TT} {a b : Bool}
theorem Sta.same {F : Own} {H0 : Hp} {G : Own} {σ : St} {H H' : Hp} (s : Sta F H0 ρ G σ H) (e : Same H H') : Sta F H0 ρ G σ H' :=
  ⟨s.sub, s.inn.same e, s.env.same e, s.ext.trans e, s.inF, s.new, s.own, s.apart⟩
theorem N_is (h : N t ρ ρ1) (q : ρ1 = ρ2) : N t ρ ρ2 := q ▸ h
theorem Rt_is (h : Rt t ρ d) (q : d = e) : Rt t ρ e := q ▸ h
theorem N_seq (h : N t ρ ρ1) (h2 : N u ρ1 ρ2) : N (tSeq t u) ρ ρ2 := fun F H0 σ H D s q => h F H0 σ H _ s fun σ' H' s' => h2 F H0 σ' H' D s' q
theorem Rt_seq (h : N t ρ ρ1) (h2 : Rt u ρ1 d) : Rt (tSeq t u) ρ d := fun F H0 σ H D s q => h F H0 σ H _ s fun σ' H' s' => h2 F H0 σ' H' D s' q
theorem Rt_first (h : Rt t ρ d) : Rt (tSeq t u) ρ d := fun F H0 σ H D s q => h F H0 σ H _ s q
theorem N_next : N tNext ρ ρ := fun _ _ σ H _ s q => q σ H s
theorem N_if_t (h : T tt ρ true) (h2 : N t ρ ρ') : N (tIfS tt t u) ρ ρ' := fun F H0 σ H D ⟨G, s⟩ q => h G σ H s.inn s.env _ fun H1 e1 => iteT (h2 F H0 σ H1 D ⟨G, s.same e1⟩ q)
theorem N_if_f (h : T tt ρ false) (h2 : N u ρ ρ') : N (tIfS tt t u) ρ ρ' := fun F H0 σ H D ⟨G, s⟩ q => h G σ H s.inn s.env _ fun H1 e1 => iteF (h2 F H0 σ H1 D ⟨G, s.same e1⟩ q)
theorem Rt_if_t (h : T tt ρ true) (h2 : Rt t ρ d) : Rt (tIfS tt t u) ρ d := fun F H0 σ H D ⟨G, s⟩ q => h G σ H s.inn s.env _ fun H1 e1 => iteT (h2 F H0 σ H1 D ⟨G, s.same e1⟩ q)
theorem Rt_if_f (h : T tt ρ false) (h2 : Rt u ρ d) : Rt (tIfS tt t u) ρ d := fun F H0 σ H D ⟨G, s⟩ q => h G σ H s.inn s.env _ fun H1 e1 => iteF (h2 F H0 σ H1 D ⟨G, s.same e1⟩ q)

/-! ### assignments -/
theorem Sta.setD {F : Own} {H0 : Hp} {G : Own} {σ σ' : St} {H : Hp} (s : Sta F H0 ρ G σ H) (ne : EnvR G σ' H ρ') (hk : ∀ (k : Nat) ds, ρ'[k]? = some (some (.o ds)) → ρ[k]? = some (some (.o ds)) ∧ σ'[k]? = σ[k]?) : Sta F H0 ρ' G σ' H :=
  ⟨s.sub, s.inn, ne, s.ext, s.inF, s.new, fun k ds p h1 h2 => by
    obtain ⟨a1, a2⟩ := hk k ds h1
    exact s.own k ds p a1 (a2 ▸ h2), fun k l ds es p h1 h2 h3 h4 => by
    obtain ⟨a1, a2⟩ := hk k ds h1
    obtain ⟨b1, b2⟩ := hk l es h2
    exact s.apart k l ds es p a1 b1 (a2 ▸ h3) (b2 ▸ h4)⟩
theorem set_own {ρ : Rho} {k l : Nat} {x : D} {ds : List D} (h : (ρ.set k (some (.d x)))[l]? = some (some (.o ds))) : l ≠ k ∧ ρ[l]? = some (some (.o ds)) := by
  rcases get_set h with ⟨_, z, _⟩ | ⟨h1, h2⟩
  · cases z
  · exact ⟨h1, h2⟩
theorem N_asg {k : Nat} (h : E te ρ d) : N (tAsg te (gName k)) ρ (ρ.set k (some (.d d))) := fun F H0 σ H D ⟨G, s⟩ q =>
  h G σ H s.inn s.env _ fun v H1 e1 r1 => q _ _ ⟨G, (s.same e1).setD ((s.env.same e1).set (s := .d d) r1) fun l ds hl => by
    obtain ⟨h1, h2⟩ := set_own hl
    exact ⟨h2, List.getElem?_set_ne (Ne.symm h1)⟩⟩
/-- to a list of one's own -/
theorem N_asgO {k : Nat} (h : EO te ρ ds) : N (tAsg te (gName k)) ρ (ρ.set k (some (.o ds))) := fun F H0 σ H D ⟨G, s⟩ q =>
  h G σ H s.inn s.env _ fun p xs H1 e1 n1 h1 r1 => by
    have s' := s.same e1
    have np : ∀ a ∈ G, a ≠ p := fun a ha z => s.inn a ha (z ▸ n1)
    have inG : In (p :: G) H1 := fun a ha => (List.mem_cons.mp ha).elim (fun e => by rw [e, h1]; intro z; cases z) fun h => s'.inn a h
    have env1 : EnvR (p :: G) σ H1 ρ := (s.env.wid n1).same e1
    have pF : p ∉ F := fun z => np p (s.sub p z) rfl
    have frozen : ∀ (l : Nat) (es : List PyData), ρ[l]? = some (some (.o es)) → σ[l]? ≠ some (some (.ref p)) := fun l es hl z => by
      obtain ⟨v, w1, p', xs', e', hp', _⟩ := s.env.at_ l _ hl
      rw [z] at w1
      cases w1
      cases e'
      exact np _ hp' rfl
    refine q _ _ ⟨p :: G, fun a ha => List.mem_cons_of_mem _ (s.sub a ha), inG, env1.set (s := .o ds) ⟨p, xs, rfl, List.mem_cons_self, h1, r1⟩, s'.ext, s.inF, fun a ha => ?_, fun l es p' h2 h3 => ?_, fun l m es fs p' h2 h3 h4 h5 => ?_⟩
    · rcases List.mem_cons.mp ha with rfl | ha
      · exact .inr (s.ext.free n1)
      · exact s.new a ha
    · rcases get_set h3 with ⟨rfl, z, _⟩ | ⟨ne, h3⟩
      · cases z; exact pF
      · rcases get_set h2 with ⟨z, _, _⟩ | ⟨_, h2⟩
        · exact absurd z ne
        · exact s.own l es p' h2 h3
    · rcases get_set h2 with ⟨rfl, z2, l2⟩ | ⟨ne2, h2'⟩
      · rcases get_set h3 with ⟨rfl, _, _⟩ | ⟨ne3, h3'⟩
        · rfl
        · exfalso
          rw [List.getElem?_set_ne (Ne.symm ne3)] at h5
          rw [List.getElem?_set_self (by rw [s.env.len]; exact l2)] at h4
          cases h4
          exact frozen m fs h3' h5
      · rcases get_set h3 with ⟨rfl, z3, l3⟩ | ⟨ne3, h3'⟩
        · exfalso
          rw [List.getElem?_set_ne (Ne.symm ne2)] at h4
          rw [List.getElem?_set_self (by rw [s.env.len]; exact l3)] at h5
          cases h5
          exact frozen l es h2' h4
        · rw [List.getElem?_set_ne (Ne.symm ne2)] at h4
          rw [List.getElem?_set_ne (Ne.symm ne3)] at h5
          exact s.apart l m es fs p' h2' h3' h4 h5
/-- a, b = a pair -/
theorem N_asg2 {k l : Nat} (h : E te ρ (pairD d e)) : N (tAsg te (gTup K 2 (gCons (gName k) (gCons (gName l) gNil)))) ρ ((ρ.set k (some (.d d))).set l (some (.d e))) := fun F H0 σ H D ⟨G, s⟩ q =>
  h G σ H s.inn s.env _ fun v H1 e1 r1 => Tg_pair (K := K) G σ H1 v _ (s.inn.same e1) (s.env.same e1) r1 fun σ2 _ hk en2 => q _ _ ⟨G, (s.same e1).setD en2 fun m ds hm => by
    obtain ⟨h1, h2⟩ := set_own hm
    obtain ⟨h3, h4⟩ := set_own h2
    exact ⟨h4, hk m (by simp [h1, h3])⟩⟩
theorem N_drop (h : E te ρ d) : N (tDrop te) ρ ρ := fun F H0 σ H D ⟨G, s⟩ q => h G σ H s.inn s.env _ fun v H1 e1 _ => q _ _ ⟨G, s.same e1⟩
/-- xs.append(e), xs one's own -/
theorem N_app {k : Nat} (hk : ρ[k]? = some (some (.o ds))) (h : E te ρ d) (hl : ds.length < 100000) : N (tDrop (tBM K "list" rAppend (tVar k) (tCons te tNil))) ρ (ρ.set k (some (.o (ds ++ [d])))) := fun F H0 σ H D ⟨G, s⟩ q => by
  obtain ⟨v, hv, p, xs, rfl, hp, hx, hr⟩ := s.env.at_ k _ hk
  refine ⟨_, hv, .inl ⟨rfl, xs, .inl (.inl hx)⟩, h G σ H s.inn s.env _ fun y H1 e1 r1 => ⟨p, xs, y, rfl, rfl, e1 _ _ hx, by rw [hr.len]; exact sz1 hl, ?_⟩⟩
  have s' := s.same e1
  have kp : ∀ a o, a ∉ G → H1 a = some o → upd H1 p (.lst (xs ++ [y])) a = some o := fun a o ha e => by
    have hne : a ≠ p := fun z => ha (z ▸ hp)
    rw [upd_ne hne]; exact e
  have pF : p ∉ F := s.own k ds p hk hv
  have pn : H0 p = none := (s.new p hp).elim (fun z => absurd z pF) id
  have kk : k < σ.length := (List.getElem?_eq_some_iff.mp hv).1
  have inG : In G (upd H1 p (.lst (xs ++ [y]))) := fun a ha => by
    by_cases z : a = p
    · rw [z, upd_same]; intro w; cases w
    · rw [upd_ne z]; exact s'.inn a ha
  refine q _ _ ⟨G, s.sub, inG, ⟨by rw [s.env.len]; simp, fun l sl hl => ?_⟩, fun a o e => ?_, s.inF, s.new, fun l es p' h2 h3 => ?_, fun l m es fs p' h2 h3 h4 h5 => ?_⟩
  · rcases get_set hl with ⟨rfl, z, _⟩ | ⟨ne, hl⟩
    · cases z
      exact ⟨_, hv, p, xs ++ [y], rfl, hp, upd_same, Rps.mono kp (fun _ z _ => z) _ _ ((hr.same e1).append (.cons r1 .nil))⟩
    · obtain ⟨w, w1, w2⟩ := s'.env.at_ l sl hl
      refine ⟨w, w1, ?_⟩
      cases sl with
      | d x => exact Rp.mono kp (fun _ z _ => z) _ _ w2
      | o es =>
        obtain ⟨p', xs', rfl, hp', hx', hr'⟩ := w2
        have hne : p' ≠ p := fun z => ne (s.apart l k es ds p hl hk (z ▸ w1) hv)
        exact ⟨p', xs', rfl, hp', by rw [upd_ne hne]; exact hx', Rps.mono kp (fun _ z _ => z) _ _ hr'⟩
  · have hne : a ≠ p := fun z => by rw [z, pn] at e; cases e
    rw [upd_ne hne]; exact s'.ext a o e
  · rcases get_set h2 with ⟨rfl, _, _⟩ | ⟨_, h2⟩
    · exact s.own l ds p' hk h3
    · exact s.own l es p' h2 h3
  · have c : ∀ (n : Nat) gs, (ρ.set k (some (.o (ds ++ [d]))))[n]? = some (some (.o gs)) → ∃ gs', ρ[n]? = some (some (.o gs')) := fun n gs h => by
      rcases get_set h with ⟨rfl, _, _⟩ | ⟨_, h⟩
      · exact ⟨ds, hk⟩
      · exact ⟨gs, h⟩
    obtain ⟨_, c1⟩ := c l es h2
    obtain ⟨_, c2⟩ := c m fs h3
    exact s.apart l m _ _ p' c1 c2 h4 h5
/-- own lists are data from here on -/
def forget (ρ : Rho) : Rho := ρ.map fun x => x.map fun s => match s with | .d x => .d x | .o ds => .d (.list ds)
theorem Sta.forget {F : Own} {H0 : Hp} {G : Own} {σ : St} {H : Hp} (s : Sta F H0 ρ G σ H) : Sta F H0 (forget ρ) F σ H := by
  have nown : ∀ (i : Nat) ds, ¬ (Cal.forget ρ)[i]? = some (some (.o ds)) := fun i ds h => by
    unfold Cal.forget at h
    rw [List.getElem?_map] at h
    cases q : ρ[i]? with
    | none => rw [q] at h; cases h
    | some x =>
      rw [q] at h
      cases x with
      | none => cases h
      | some sl => cases sl <;> cases h
  refine ⟨fun _ h => h, s.inF.same s.ext, ⟨by rw [s.env.len]; simp [Cal.forget], fun i sl h => ?_⟩, s.ext, s.inF, fun a h => .inl h, fun i ds p h _ => absurd h (nown i ds), fun i j ds es p h _ _ _ => absurd h (nown i ds)⟩
  unfold Cal.forget at h
  rw [List.getElem?_map] at h
  cases q : ρ[i]? with
  | none => rw [q] at h; cases h
  | some x =>
    rw [q] at h
    cases x with
    | none => cases h
    | some sl' =>
      obtain ⟨v, w1, w2⟩ := s.env.at_ i sl' q
      refine ⟨v, w1, ?_⟩
      cases sl' with
      | d x =>
        cases h
        exact Rp.sub w2 s.sub
      | o ds =>
        cases h
        obtain ⟨p, xs, rfl, hp, hx, hr⟩ := w2
        exact .lst (s.own i ds p q w1) (.inl hx) (hr.sub s.sub)
theorem N_forget (h : N t (forget ρ) ρ') : N t ρ ρ' := fun F H0 σ H D ⟨G, s⟩ q => h F H0 σ H D ⟨F, s.forget⟩ q
theorem Rt_forget (h : Rt t (forget ρ) d) : Rt t ρ d := fun F H0 σ H D ⟨G, s⟩ q => h F H0 σ H D ⟨F, s.forget⟩ q
theorem Rt_ret (h : E te (forget ρ) d) : Rt (tRet te) ρ d := fun F H0 σ H D ⟨G, s⟩ q => h F σ H s.forget.inn s.forget.env _ fun v H1 e1 r1 => q v H1 (s.ext.trans e1) r1

/-! ### loops -/
theorem N_for {wi : TI} {g : TG} {vt : List Nat} {tb : TS} {n : Nat} {f : Nat → D} (ρs ρm : Nat → Rho) (hw : W wi ρ ((List.range n).map f)) (h0 : ρs 0 = ρ) (hg : ∀ i, i < n → Tg g vt (f i) (ρs i) (ρm i))
    (ho : ∀ i, i < n → ∀ (k : Nat) ds, (ρm i)[k]? = some (some (.o ds)) → (ρs i)[k]? = some (some (.o ds)) ∧ k ∉ vt) (hb : ∀ i, i < n → N tb (ρm i) (ρs (i + 1))) : N (tFor wi g tb) ρ (ρs n) := fun F H0 σ H D ⟨G, s⟩ q => by
  subst h0
  refine hw G σ H s.inn s.env _ fun J H1 e1 w => ?_
  have s' := s.same e1
  -- the heap without one's own lists
  let B : Hp := fun a => if a ∈ G ∧ a ∉ F then none else H1 a
  have hB : ∀ a, a ∉ G → B a = H1 a := fun a ha => if_neg fun z => ha z.1
  have hBF : ∀ a, a ∈ F → B a = H1 a := fun a ha => if_neg fun z => z.2 ha
  have hBn : ∀ a, a ∈ G → a ∉ F → B a = none := fun a h1 h2 => if_pos ⟨h1, h2⟩
  have B1 : Same B H1 := fun a o e => by
    by_cases z : a ∈ G ∧ a ∉ F
    · have : B a = none := if_pos z
      rw [this] at e; cases e
    · have : B a = H1 a := if_neg z
      rw [← this]; exact e
  have H0B : Same H0 B := fun a o e => by
    by_cases z : a ∈ G ∧ a ∉ F
    · rcases s.new a z.1 with h | h
      · exact absurd h z.2
      · rw [h] at e; cases e
    · have : B a = H1 a := if_neg z
      rw [this]; exact s'.ext a o e
  have sB : Sta F B (ρs 0) G σ H1 := ⟨s.sub, s'.inn, s'.env, B1, s.inF.same H0B, fun a ha => by
    by_cases z : a ∈ F
    · exact .inl z
    · exact .inr (hBn a ha z), s.own, s.apart⟩
  have stB : ∀ H', Same B H' → Stands G H1 H' := fun H' e a o ha h => e a o ((hB a ha).trans h)
  have back : ∀ {ρ'' : Rho} {G' : Own} {σ' : St} {H' : Hp}, Sta F B ρ'' G' σ' H' → Sta F H0 ρ'' G' σ' H' := fun {ρ'' G' σ' H'} z =>
    ⟨z.sub, z.inn, z.env, H0B.trans z.ext, s.inF, fun a ha => (z.new a ha).imp id fun h => H0B.free h, z.own, z.apart⟩
  refine ⟨fun i m σ' H' => m = n - i ∧ i ≤ n ∧ S1 F B (ρs i) σ' H', ⟨n, by simp, Nat.zero_le _, G, sB⟩, ?_⟩
  rintro i m σ' H' ⟨rfl, hi, G', z⟩
  have st := stB H' z.ext
  by_cases hlt : i < n
  · refine .inr ⟨w.goes i H' (by simpa using hlt) st, S1 F B (ρs (i + 1)), fun σ'' H'' h => ⟨n - (i + 1), by omega, rfl, hlt, h⟩, fun x H2 y => ?_⟩
    have hgG : ∀ a ∈ G', a ∈ G ∨ H1 a = none := fun a ha => by
      rcases z.new a ha with h | h
      · exact .inl (s.sub a h)
      · by_cases hG : a ∈ G
        · exact .inl hG
        · rw [hB a hG] at h; exact .inr h
    obtain ⟨s2, rx⟩ := w.yields G' i H' x H2 (f i) (by rw [List.getElem?_map, List.getElem?_range hlt]; rfl) st z.inn hgG y
    have z2 := z.same s2
    refine hg i hlt G' σ' H2 x _ z2.inn z2.env rx fun σ2 _ hk en2 => ?_
    exact hb i hlt F B σ2 H2 _ ⟨G', z2.setD en2 fun k ds hk2 => ⟨(ho i hlt k ds hk2).1, hk k (ho i hlt k ds hk2).2⟩⟩ fun σ3 H3 h3 => h3
  · have e : i = n := by omega
    subst e
    refine .inl ⟨?_, q σ' H' ⟨G', back z⟩⟩
    have := w.stops H' st
    simpa using this
/-- a while whose tests are known -/
theorem N_while {n : Nat} (ρs : Nat → Rho) (h0 : ρs 0 = ρ) (ht : ∀ i, i < n → T tt (ρs i) true) (hb : ∀ i, i < n → N t (ρs i) (ρs (i + 1))) (hn : T tt (ρs n) false) : N (tWhile tt t) ρ (ρs n) := fun F H0 σ H D s q => by
  subst h0
  refine ⟨fun m σ' H' => ∃ i, m = n - i ∧ i ≤ n ∧ S1 F H0 (ρs i) σ' H', ⟨n, 0, by simp, Nat.zero_le _, s⟩, ?_⟩
  rintro m σ' H' ⟨i, rfl, hi, G, z⟩
  by_cases hlt : i < n
  · refine ht i hlt G σ' H' z.inn z.env _ fun H1 e1 => iteT ⟨S1 F H0 (ρs (i + 1)), fun σ2 H2 h2 => ⟨n - (i + 1), by omega, i + 1, rfl, hlt, h2⟩, hb i hlt F H0 σ' H1 _ ⟨G, z.same e1⟩ fun σ2 H2 h2 => h2⟩
  · have e : i = n := by omega
    subst e
    exact hn G σ' H' z.inn z.env _ fun H1 e1 => iteF (q σ' H1 ⟨G, z.same e1⟩)

/-! ### a def -/
def arg (ds : List D) (n : Nat) : Rho := ds.map (fun d => some (.d d)) ++ List.replicate n none
theorem S1_start {F : Own} {H : Hp} {N : List Str} {vs : List V} (hF : In F H) (h : Rps F H vs ds) : S1 F H (arg ds (N.length - ds.length)) (L2.start N vs) H := by
  have nown : ∀ (n i : Nat) es, ¬ (arg ds n)[i]? = some (some (.o es)) := fun n i es q => by
    unfold arg at q
    by_cases hi : i < (ds.map fun d => some (Sl.d d)).length
    · rw [List.getElem?_append_left hi, List.getElem?_map] at q
      cases e : ds[i]? with
      | none => rw [e] at q; cases q
      | some x => rw [e] at q; cases q
    · rw [List.getElem?_append_right (by omega), List.getElem?_replicate] at q
      split at q <;> cases q
  refine ⟨F, fun _ h => h, hF, ⟨by unfold L2.start arg; simp [h.len], fun i s q => ?_⟩, Same.refl H, hF, fun a h => .inl h, fun i es p q _ => absurd q (nown _ i es), fun i j es fs p q _ _ _ => absurd q (nown _ i es)⟩
  unfold arg at q
  unfold L2.start
  by_cases hi : i < ds.length
  · rw [List.getElem?_append_left (by simpa using hi), List.getElem?_map, List.getElem?_eq_getElem hi] at q
    cases q
    obtain ⟨v, e1, e2⟩ := h.get (List.getElem?_eq_getElem hi)
    refine ⟨v, ?_, e2⟩
    have hv : i < vs.length := by rw [h.len]; exact hi
    rw [List.getElem?_append_left (by simpa using hv), List.getElem?_map, e1]
    rfl
  · rw [List.getElem?_append_right (by simpa using hi), List.getElem?_replicate] at q
    split at q <;> cases q
/-- the body returns -/
theorem def_ret {N : List Str} {F : Own} {H : Hp} {vs : List V} {Q : VK} {nx : St → Hp → Prop} (hF : In F H) (h : Rps F H vs ds) (q : ∀ v H', Same H H' → Rp F H' v d → Q v H')
    (hb : Rt t (arg ds (N.length - ds.length)) d) {bk ct : St → Hp → Prop} : t { nx := nx, rt := Q, bk := bk, ct := ct } (L2.start N vs) H := hb F H _ H _ (S1_start hF h) q
/-- the body goes through to its end: None -/
theorem def_non {N : List Str} {F : Own} {H : Hp} {vs : List V} {Q : VK} {ρ' : Rho} {rt : VK} (hF : In F H) (h : Rps F H vs ds) (q : ∀ v H', Same H H' → Rp F H' v .none → Q v H')
    (hb : Cal.N t (arg ds (N.length - ds.length)) ρ') {bk ct : St → Hp → Prop} : t { nx := fun _ H' => Q .non H', rt := rt, bk := bk, ct := ct } (L2.start N vs) H := hb F H _ H _ (S1_start hF h) fun σ' H' ⟨G, z⟩ => q _ H' z.ext .non
end
end Cal
set_option Elab.async false
set_option linter.all false
set_option maxHeartbeats 4000000
/-! The mathematics: rows of casks over the years, in rationals. -/
namespace M
/-- the sum of h j over j below n -/
def sumTo (h : Nat → Rat) : Nat → Rat
  | 0 => 0
  | n + 1 => sumTo h n + h n
theorem sumTo_congr {f g : Nat → Rat} : ∀ {n : Nat}, (∀ i, i < n → f i = g i) → sumTo f n = sumTo g n
  | 0, _ => rfl
  | n + 1, h => by
    show sumTo f n + f n = sumTo g n + g n
    rw [sumTo_congr fun i hi => h i (Nat.lt_succ_of_lt hi), h n (Nat.lt_succ_self n)]
theorem sumTo_add (f g : Nat → Rat) : ∀ n : Nat, sumTo (fun i => f i + g i) n = sumTo f n + sumTo g n
  | 0 => by show (0 : Rat) = 0 + 0; grind
  | n + 1 => by
    show sumTo (fun i => f i + g i) n + (f n + g n) = (sumTo f n + f n) + (sumTo g n + g n)
    rw [sumTo_add f g n]; grind
theorem sumTo_mul (c : Rat) (f : Nat → Rat) : ∀ n : Nat, sumTo (fun i => c * f i) n = c * sumTo f n
  | 0 => by show (0 : Rat) = c * 0; grind
  | n + 1 => by
    show sumTo (fun i => c * f i) n + c * f n = c * (sumTo f n + f n)
    rw [sumTo_mul c f n]; grind
theorem sumTo_zero {f : Nat → Rat} : ∀ {n : Nat}, (∀ i, i < n → f i = 0) → sumTo f n = 0
  | 0, _ => rfl
  | n + 1, h => by
    show sumTo f n + f n = 0
    rw [sumTo_zero fun i hi => h i (Nat.lt_succ_of_lt hi), h n (Nat.lt_succ_self n)]; grind
theorem sumTo_nonneg {f : Nat → Rat} : ∀ {n : Nat}, (∀ i, i < n → 0 ≤ f i) → 0 ≤ sumTo f n
  | 0, _ => Rat.le_refl
  | n + 1, h => Rat.add_nonneg (sumTo_nonneg fun i hi => h i (Nat.lt_succ_of_lt hi)) (h n (Nat.lt_succ_self n))

/-- products over all ages -/
def conv (f g : Nat → Rat) (t : Nat) : Rat := sumTo (fun j => f j * g (t - j)) (t + 1)
/-- what is in a stage that gives the share p on, f coming in -/
def cont (p : Rat) (f : Nat → Rat) : Nat → Rat
  | 0 => f 0
  | t + 1 => (1 - p) * cont p f t + f (t + 1)
def out (p : Rat) (f : Nat → Rat) : Nat → Rat
  | 0 => 0
  | t + 1 => p * cont p f t
def flow : List Rat → (Nat → Rat) → Nat → Rat
  | [], f => f
  | p :: r, f => flow r (out p f)
def conts : List Rat → (Nat → Rat) → List (Nat → Rat)
  | [], _ => []
  | p :: r, f => cont p f :: conts r (out p f)
def delta : Nat → Rat
  | 0 => 1
  | _ + 1 => 0
theorem conv_zero (f g : Nat → Rat) : conv f g 0 = f 0 * g 0 := by
  show (0 : Rat) + f 0 * g 0 = _
  grind
theorem conv_succ (f g : Nat → Rat) (t : Nat) : conv f g (t + 1) = sumTo (fun j => f j * g (t - j + 1)) (t + 1) + f (t + 1) * g 0 := by
  show sumTo (fun j => f j * g (t + 1 - j)) (t + 1) + f (t + 1) * g (t + 1 - (t + 1)) = _
  rw [Nat.sub_self, sumTo_congr (g := fun j => f j * g (t - j + 1)) fun i hi => by rw [show t + 1 - i = t - i + 1 by omega]]
theorem cont_conv (p : Rat) (f g : Nat → Rat) : ∀ t, cont p (conv f g) t = conv f (cont p g) t
  | 0 => by rw [conv_zero]; show conv f g 0 = _; rw [conv_zero]; rfl
  | t + 1 => by
    show (1 - p) * cont p (conv f g) t + conv f g (t + 1) = _
    rw [cont_conv p f g t, conv_succ, conv_succ]
    have e : sumTo (fun j => f j * cont p g (t - j + 1)) (t + 1) = (1 - p) * conv f (cont p g) t + sumTo (fun j => f j * g (t - j + 1)) (t + 1) := by
      unfold conv
      rw [← sumTo_mul, ← sumTo_add]
      refine sumTo_congr fun i _ => ?_
      show f i * ((1 - p) * cont p g (t - i) + g (t - i + 1)) = _
      grind
    rw [e]
    show _ = _ + f (t + 1) * g 0
    grind
theorem out_conv (p : Rat) (f g : Nat → Rat) : ∀ t, out p (conv f g) t = conv f (out p g) t
  | 0 => by rw [conv_zero]; show (0 : Rat) = f 0 * 0; grind
  | t + 1 => by
    show p * cont p (conv f g) t = _
    rw [cont_conv, conv_succ]
    have e : sumTo (fun j => f j * out p g (t - j + 1)) (t + 1) = p * conv f (cont p g) t := by
      unfold conv
      rw [← sumTo_mul]
      refine sumTo_congr fun i _ => ?_
      show f i * (p * cont p g (t - i)) = _
      grind
    rw [e]
    show _ = _ + f (t + 1) * 0
    grind
theorem flow_conv (f : Nat → Rat) : ∀ (r : List Rat) (g : Nat → Rat), flow r (conv f g) = conv f (flow r g)
  | [], _ => rfl
  | p :: r, g => by
    show flow r (out p (conv f g)) = conv f (flow r (out p g))
    rw [funext (out_conv p f g)]
    exact flow_conv f r (out p g)
theorem conts_conv (f : Nat → Rat) : ∀ (r : List Rat) (g : Nat → Rat), conts r (conv f g) = (conts r g).map (conv f)
  | [], _ => rfl
  | p :: r, g => by
    show cont p (conv f g) :: conts r (out p (conv f g)) = conv f (cont p g) :: (conts r (out p g)).map (conv f)
    rw [funext (cont_conv p f g), funext (out_conv p f g), conts_conv f r (out p g)]
theorem conv_delta (f : Nat → Rat) : conv f delta = f := by
  funext t
  cases t with
  | zero => rw [conv_zero]; show f 0 * 1 = _; grind
  | succ t =>
    rw [conv_succ, sumTo_zero fun i _ => by show f i * 0 = 0; grind]
    show 0 + f (t + 1) * 1 = _
    grind
theorem flow_append (f : Nat → Rat) : ∀ (a b : List Rat), flow (a ++ b) f = flow b (flow a f)
  | [], _ => rfl
  | p :: r, b => flow_append (out p f) r b
theorem conts_append (f : Nat → Rat) : ∀ (a b : List Rat), conts (a ++ b) f = conts a f ++ conts b (flow a f)
  | [], _ => rfl
  | p :: r, b => by
    show cont p f :: conts (r ++ b) (out p f) = cont p f :: (conts r (out p f) ++ conts b (flow r (out p f)))
    rw [conts_append (out p f) r b]
theorem conts_length (f : Nat → Rat) : ∀ (a : List Rat), (conts a f).length = a.length
  | [] => rfl
  | p :: r => by show (conts r (out p f)).length + 1 = r.length + 1; rw [conts_length]
/-- what the tap gives of each age -/
def tap (r : List Rat) : Nat → Rat := flow r delta
/-- what is in the k-th stage, of each age -/
def stg (r : List Rat) (k : Nat) : Nat → Rat := (conts r delta).getD k fun _ => 0
theorem tap_append (a b : List Rat) : tap (a ++ b) = conv (tap a) (tap b) := by
  unfold tap
  rw [flow_append, ← flow_conv, conv_delta]
theorem conts_both (a b : List Rat) : conts (a ++ b) delta = conts a delta ++ (conts b delta).map (conv (tap a)) := by
  rw [conts_append, ← conts_conv, conv_delta]; rfl
theorem stg_first (a b : List Rat) {k : Nat} (h : k < a.length) : stg (a ++ b) k = stg a k := by
  unfold stg
  rw [conts_both, List.getD_eq_getElem?_getD, List.getD_eq_getElem?_getD, List.getElem?_append_left (by rw [conts_length]; exact h)]
theorem stg_later (a b : List Rat) {k : Nat} (h : k < b.length) : stg (a ++ b) (a.length + k) = conv (tap a) (stg b k) := by
  unfold stg
  have hb : k < (conts b delta).length := by rw [conts_length]; exact h
  rw [conts_both, List.getD_eq_getElem?_getD, List.getD_eq_getElem?_getD, List.getElem?_append_right (by rw [conts_length]; omega), conts_length, Nat.add_sub_cancel_left, List.getElem?_map, List.getElem?_eq_getElem hb]
  rfl
theorem tap_zero {r : List Rat} (h : r ≠ []) : tap r 0 = 0 := by
  have key : ∀ (r : List Rat) (f : Nat → Rat), f 0 = 0 → flow r f 0 = 0 := by
    intro r
    induction r with
    | nil => intro f h; exact h
    | cons p r ih => intro f _; exact ih (out p f) rfl
  cases r with
  | nil => exact absurd rfl h
  | cons p r => exact key r (out p delta) rfl
theorem conts_zero : ∀ (r : List Rat) (f : Nat → Rat), f 0 = 0 → ∀ c ∈ conts r f, c 0 = 0
  | [], _, _, _, hc => by cases hc
  | p :: r, f, h, c, hc => by
    rcases List.mem_cons.mp hc with rfl | hc
    · exact h
    · exact conts_zero r (out p f) rfl c hc
/-- the tap gives of the last stage -/
theorem flow_last (f : Nat → Rat) (t : Nat) : ∀ (r : List Rat) (p : Rat), flow (r ++ [p]) f (t + 1) = p * ((conts (r ++ [p]) f).getLastD fun _ => 0) t
  | [], p => rfl
  | q :: r, p => by
    have h := flow_last (out q f) t r p
    show flow (r ++ [p]) (out q f) (t + 1) = p * ((cont q f :: conts (r ++ [p]) (out q f)).getLastD fun _ => 0) t
    rw [h, List.getLastD_cons]
    cases e : conts (r ++ [p]) (out q f) with
    | nil =>
      have := conts_length (out q f) (r ++ [p])
      rw [e] at this
      simp at this
    | cons c cs => rw [List.getLastD_cons, List.getLastD_cons]

/-! ### what is left -/
/-- the sum over a list of functions at an age -/
def sumAt (l : List (Nat → Rat)) (t : Nat) : Rat := (l.map fun c => c t).sum
/-- the share of the wine that is not drawn before its year t + 1 -/
def rem (r : List Rat) (t : Nat) : Rat := sumAt (conts r delta) t
def older (r : List Rat) : Nat → Rat
  | 0 => 1
  | t + 1 => rem r t
theorem sum_append (a b : List Rat) : (a ++ b).sum = a.sum + b.sum := by
  induction a with
  | nil => show b.sum = 0 + b.sum; grind
  | cons x a ih =>
    show x + (a ++ b).sum = x + a.sum + b.sum
    rw [ih]; grind
theorem sumAt_conv (f : Nat → Rat) (t : Nat) : ∀ l : List (Nat → Rat), sumAt (l.map (conv f)) t = conv f (sumAt l) t
  | [] => by
    show (0 : Rat) = conv f (fun _ => 0) t
    unfold conv
    rw [sumTo_zero fun i _ => by grind]
  | c :: l => by
    show conv f c t + sumAt (l.map (conv f)) t = conv f (fun t => c t + sumAt l t) t
    rw [sumAt_conv f t l]
    unfold conv
    rw [← sumTo_add]
    exact sumTo_congr fun i _ => by grind
theorem rem_append (a b : List Rat) (t : Nat) : rem (a ++ b) t = rem a t + conv (tap a) (rem b) t := by
  unfold rem
  rw [conts_both]
  show ((conts a delta ++ (conts b delta).map (conv (tap a))).map fun c => c t).sum = _
  rw [List.map_append, sum_append]
  show sumAt (conts a delta) t + sumAt ((conts b delta).map (conv (tap a))) t = _
  rw [sumAt_conv]
/-- the law's own sum -/
theorem older_append (a b : List Rat) : ∀ t, older (a ++ b) t = older a t + sumTo (fun j => tap a j * older b (t - j)) t
  | 0 => by show (1 : Rat) = 1 + 0; grind
  | t + 1 => by
    show rem (a ++ b) t = rem a t + _
    rw [rem_append]
    unfold conv
    rw [sumTo_congr (n := t + 1) (f := fun j => tap a j * older b (t + 1 - j)) (g := fun j => tap a j * rem b (t - j)) fun i hi => by rw [show t + 1 - i = t - i + 1 by omega]; rfl]

/-! ### nothing below nought -/
def Shares (r : List Rat) : Prop := ∀ p ∈ r, 0 < p ∧ p ≤ 1
theorem cont_nonneg {p : Rat} (h0 : 0 ≤ p) (h1 : p ≤ 1) {f : Nat → Rat} (hf : ∀ t, 0 ≤ f t) : ∀ t, 0 ≤ cont p f t
  | 0 => hf 0
  | t + 1 => Rat.add_nonneg (Rat.mul_nonneg (by grind) (cont_nonneg h0 h1 hf t)) (hf (t + 1))
theorem out_nonneg {p : Rat} (h0 : 0 ≤ p) (h1 : p ≤ 1) {f : Nat → Rat} (hf : ∀ t, 0 ≤ f t) : ∀ t, 0 ≤ out p f t
  | 0 => Rat.le_refl
  | t + 1 => Rat.mul_nonneg h0 (cont_nonneg h0 h1 hf t)
theorem flow_nonneg : ∀ {r : List Rat}, Shares r → ∀ {f : Nat → Rat}, (∀ t, 0 ≤ f t) → ∀ t, 0 ≤ flow r f t
  | [], _, _, hf, t => hf t
  | p :: r, h, f, hf, t => flow_nonneg (r := r) (fun q hq => h q (List.mem_cons_of_mem _ hq)) (out_nonneg (Rat.le_of_lt (h p List.mem_cons_self).1) (h p List.mem_cons_self).2 hf) t
theorem conts_nonneg : ∀ {r : List Rat}, Shares r → ∀ {f : Nat → Rat}, (∀ t, 0 ≤ f t) → ∀ c ∈ conts r f, ∀ t, 0 ≤ c t
  | [], _, _, _, _, hc => by cases hc
  | p :: r, h, f, hf, c, hc => by
    have h0 := Rat.le_of_lt (h p List.mem_cons_self).1
    have h1 := (h p List.mem_cons_self).2
    rcases List.mem_cons.mp hc with rfl | hc
    · exact cont_nonneg h0 h1 hf
    · exact conts_nonneg (r := r) (fun q hq => h q (List.mem_cons_of_mem _ hq)) (out_nonneg h0 h1 hf) c hc
theorem delta_nonneg : ∀ t, 0 ≤ delta t
  | 0 => by decide
  | _ + 1 => Rat.le_refl
theorem tap_nonneg {r : List Rat} (h : Shares r) (t : Nat) : 0 ≤ tap r t := flow_nonneg h delta_nonneg t
theorem stg_nonneg {r : List Rat} (h : Shares r) (k t : Nat) : 0 ≤ stg r k t := by
  unfold stg
  by_cases hk : k < (conts r delta).length
  · rw [List.getD_eq_getElem?_getD, List.getElem?_eq_getElem hk]
    exact conts_nonneg h delta_nonneg _ (List.getElem_mem hk) t
  · rw [List.getD_eq_getElem?_getD, List.getElem?_eq_none (by omega)]
    exact Rat.le_refl
theorem Shares.append {a b : List Rat} (h : Shares a) (h' : Shares b) : Shares (a ++ b) := fun p hp => (List.mem_append.mp hp).elim (h p) (h' p)

/-! ### the integers over one number -/
/-- what one year makes of the stages, in integers over L -/
def stepL (L : Int) : List Int → List Int → Int → List Int
  | a :: as, x :: xs, c => ((L - a) * x + c) :: stepL L as xs (a * x)
  | _, _, _ => []
theorem stepL_ok {L : Int} {t : Nat} : ∀ {r : List Rat} {as : List Int} (f : Nat → Rat) {xs : List Int} {c : Int}, as.map (fun a : Int => (a : Rat)) = r.map (fun p => p * (L : Rat)) → xs.map (fun x : Int => (x : Rat)) = (conts r f).map (fun g => g t * (L : Rat) ^ t) →
    (c : Rat) = f (t + 1) * (L : Rat) ^ (t + 1) → (stepL L as xs c).map (fun x : Int => (x : Rat)) = (conts r f).map (fun g => g (t + 1) * (L : Rat) ^ (t + 1))
  | [], as, f, xs, c, h1, h2, h3 => by
    cases as with
    | nil => rfl
    | cons a as => cases h1
  | p :: r, as, f, xs, c, h1, h2, h3 => by
    cases as with
    | nil => cases h1
    | cons a as =>
      cases xs with
      | nil => cases h2
      | cons x xs =>
        rw [List.map_cons, List.map_cons] at h1
        have e1 : (a : Rat) = p * (L : Rat) := (List.cons.inj h1).1
        have e2 := (List.cons.inj h1).2
        have h2' : (x : Rat) :: xs.map (fun x : Int => (x : Rat)) = (cont p f t * (L : Rat) ^ t) :: (conts r (out p f)).map (fun g => g t * (L : Rat) ^ t) := h2
        have e3 := (List.cons.inj h2').1
        have e4 := (List.cons.inj h2').2
        have ih := stepL_ok (L := L) (t := t) (out p f) (c := a * x) e2 e4 (by
          rw [Rat.intCast_mul, e1, e3, Rat.pow_succ]
          show _ = p * cont p f t * _
          grind)
        show ((((L - a) * x + c : Int)) : Rat) :: (stepL L as xs (a * x)).map (fun x : Int => (x : Rat)) = (((1 - p) * cont p f t + f (t + 1)) * (L : Rat) ^ (t + 1)) :: (conts r (out p f)).map (fun g => g (t + 1) * (L : Rat) ^ (t + 1))
        rw [ih]
        congr 1
        rw [Rat.intCast_add, Rat.intCast_mul, Rat.intCast_sub, e1, e3, h3, Rat.pow_succ]
        grind
end M
set_option Elab.async false
set_option linter.all false
set_option maxRecDepth 100000
set_option maxHeartbeats 4000000
namespace Cal
open PySem PySem.Spec PyProof.Rows L2
/-! ### further rules -/
section
variable {X : Cx}
def CPowW (i j : Int) : Prop := 0 ≤ j ∧ j ≤ 100 ∧ i.natAbs < 2 ^ 1000
theorem op_powW : OpR X (binaryOp .Pow) (rI CPowW fun i j => .int (i ^ j.toNat)) := opI fun i j _ _ _ _ _ hc q => by
  refine pow_int hc.1 ?_ q
  have h1 : i.natAbs.log2 < 1000 := PySem.Flt.log2_lt_of (by decide) hc.2.2
  have h2 : Builtin.Int.intBits i ≤ i.natAbs.log2 + 1 := by
    unfold Builtin.Int.intBits
    split <;> omega
  have h3 : (Builtin.Int.intBits i : Int) ≤ 1000 := by omega
  have h4 : (Builtin.Int.intBits i : Int) * j ≤ 1000 * 100 := by
    refine Int.le_trans (Int.mul_le_mul_of_nonneg_right h3 hc.1) (Int.mul_le_mul_of_nonneg_left hc.2.1 (by omega))
  refine Int.le_trans h4 (by decide)
def rLcm : List V → Hp → VK → Prop := fun vs H Q => ∃ a b : Int, vs = [.int a, .int b] ∧ a.natAbs < 2 ^ 64 ∧ b.natAbs < 2 ^ 64 ∧ Q (.int ((Nat.lcm a.natAbs b.natAbs : Nat) : Int)) H
theorem cr_lcm : CallR X (.builtin "math.lcm") rLcm := by
  intro pins s σ H vs us Q I r h
  obtain ⟨a, b, rfl, ha, hb, q⟩ := h
  obtain ⟨t, u, rfl⟩ := Vals.int2 r
  have e1 : (Nat.lcm 1 a.natAbs).lcm b.natAbs = Nat.lcm a.natAbs b.natAbs := by rw [Nat.lcm_one_left]
  refine PySem.W.mg_lcm ha hb ?_ ?_
  · rw [e1, Int.natAbs_natCast]
    have h1 : Nat.lcm a.natAbs b.natAbs ≤ a.natAbs * b.natAbs := by
      by_cases z : a.natAbs * b.natAbs = 0
      · unfold Nat.lcm; rw [z]; simp
      · exact Nat.le_of_dvd (Nat.pos_of_ne_zero z) (Nat.lcm_dvd_mul _ _)
    have h2 : Nat.lcm a.natAbs b.natAbs < 2 ^ 128 := Nat.lt_of_le_of_lt h1 (by
      rw [show (2 : Nat) ^ 128 = 2 ^ 64 * 2 ^ 64 by decide]
      exact Nat.mul_lt_mul'' ha hb)
    have h3 := PySem.Flt.log2_lt_of (by decide) h2
    exact Nat.lt_trans h3 (by decide)
  · rw [e1]
    exact ⟨.int _, H, I.tok _, ⟨_, rfl⟩, q⟩
theorem pi_zipK {K : PySem.W.Frag} (hK : X.K = K) {e e2 : Expr} {ta : TA} {p pos tpos : Pos} {elts : List Expr} {kk : Nat} (hg : Gl X "zip") (hm : X.mg "zip" = none) (ha : PA X [e, e2] ta) (hs : starEach [e, e2] X.env = (false, eval e X.env) :: starEach [e2] X.env := by rfl) (hpl : (backTo pos (starEach [e2] X.env)).any (·.1) = false := by rfl) :
    PI X (.Tuple elts kk tpos) (.Call (.Name "zip" p) [e, e2] [] pos) (iZip K ta) := by
  subst hK
  exact pi_zip hg hm ha hs hpl
/-- a def that is called by its name -/
structure Callee (P : Program) (w : World) (K : PySem.W.Frag) (mg : Str → Option Value) (base : Heap) (k : Nat) (x : Str) (ps : List Str) (sp : Sp) : Prop where
  ex : ∃ (f : Addr) (fd : FuncData), FnOk P w K mg base CX0 k f fd ps sp ∧ mg x = some (.ref f) ∧ PySem.W.keepIn K (.ref f) = true ∧ Binds K fd ps []
theorem pe_callC {k j : Nat} {x : Str} {ps : List Str} {sp : Sp} {p pos : Pos} {e : Expr} {es : List Expr} {t : TA} (c : Callee X.prog X.w X.K X.mg X.base k x ps sp) (hr : Room j X.A) (hk : k ≤ j) (hg : Gl X x) (ha : PA X (e :: es) t)
    (hdb : (x == ("__debug__" : Str)) = false := by decide) (he : starEach (e :: es) X.env = (false, eval e X.env) :: starEach es X.env := by rfl) (hpl : (backTo pos (starEach es X.env)).any (·.1) = false := by rfl) :
    PE X (.Call (.Name x p) (e :: es) [] pos) (tCall sp [] E0 t) := by
  obtain ⟨f, fd, F, hm, hkp, hb⟩ := c.ex
  exact pe_call F (hr.mono hk) hg hm hkp hb .nil pass0 ha hdb he hpl
end
/-- the module's names that are the built-in ones -/
structure Bl (mg : Str → Option Value) : Prop where
  len : mg "len" = none
  range : mg "range" = none
  zip : mg "zip" = none
  isinstance : mg "isinstance" = none
  tuple : mg "tuple" = none
  list : mg "list" = none
  int : mg "int" = none
  bool : mg "bool" = none
  str : mg "str" = none
  sorted : mg "sorted" = none
  sum : mg "sum" = none
  all : mg "all" = none
  abs : mg "abs" = none
  max : mg "max" = none
  gcd : mg "gcd" = some (.builtin "math.gcd")
  lcm : mg "lcm" = some (.builtin "math.lcm")
section
variable {K : PySem.W.Frag} {ρ : Rho} {ta tb : TE} {i j : Int} {tr : TA}
theorem E_lcm (h : E ta ρ (.int i)) (h' : E tb ρ (.int j)) (hi : i.natAbs < 2 ^ 64) (hj : j.natAbs < 2 ^ 64) : E (tCB rLcm (tCons ta (tCons tb tNil))) ρ (.int ((Nat.lcm i.natAbs j.natAbs : Nat) : Int)) := E_cb (EA_cons h (EA_cons h' EA_nil)) fun G H vs Q _ r q => by
  cases r with
  | cons r1 r2 =>
    cases r2 with
    | cons r2 r3 =>
      cases r3; cases r1; cases r2
      exact ⟨i, j, rfl, hi, hj, q _ H (Same.refl H) (.int _)⟩
theorem E_pow (ha : E ta ρ (.int i)) (hb : E tb ρ (.int j)) (hc : CPowW i j) : E (tOp (rI CPowW fun i j => .int (i ^ j.toNat)) ta tb) ρ (.int (i ^ j.toNat)) := E_iC ha hb hc fun _ _ => .int _
theorem E_neg (ha : E ta ρ (.int i)) : E (tUn (rU fun i => .int (-i)) ta) ρ (.int (-i)) := E_un ha fun G H x Q _ r q => by
  cases r
  exact ⟨i, rfl, q _ H (Same.refl H) (.int _)⟩
/-- a, b = x, y -/
theorem N_par {k l : Nat} {d e : D} (ha : E ta ρ d) (hb : E tb ρ e) : N (tPar k l (tCons ta (tCons tb tNil))) ρ ((ρ.set k (some (.d d))).set l (some (.d e))) := fun F H0 σ H D ⟨G, s⟩ q =>
  ha G σ H s.inn s.env _ fun v H1 e1 r1 => hb G σ H1 (s.inn.same e1) (s.env.same e1) _ fun w H2 e2 r2 => ⟨v, w, rfl, q _ _ ⟨G, (s.same (e1.trans e2)).setD (((s.env.same (e1.trans e2)).set (s := .d d) (r1.same e2)).set (s := .d e) r2) fun m ds hm => by
    obtain ⟨h1, h2⟩ := set_own hm
    obtain ⟨h3, h4⟩ := set_own h2
    exact ⟨h4, by rw [List.getElem?_set_ne (Ne.symm h1), List.getElem?_set_ne (Ne.symm h3)]⟩⟩⟩
end
/-! ### fractions as data -/
def fr (q : Rat) : D := .tuple [.int q.num, .int q.den]
/-- above over below -/
def qd (a b : Int) : Rat := Rat.divInt a b
theorem qd_num {a b : Int} (hb : 0 < b) : (qd a b).num = a / ((Nat.gcd a.natAbs b.natAbs : Nat) : Int) := by
  unfold qd
  rw [Rat.num_divInt, Int.sign_eq_one_of_pos hb, Int.one_mul]
  show a / ((Nat.gcd b.natAbs a.natAbs : Nat) : Int) = _
  rw [Nat.gcd_comm]
theorem qd_den {a b : Int} (hb : 0 < b) : ((qd a b).den : Int) = b / ((Nat.gcd a.natAbs b.natAbs : Nat) : Int) := by
  unfold qd
  rw [Rat.den_divInt, if_neg (by omega)]
  show ((b.natAbs / Nat.gcd b.natAbs a.natAbs : Nat) : Int) = _
  rw [Nat.gcd_comm, Int.natCast_ediv, Int.natAbs_of_nonneg (by omega)]
theorem qd_eq (a b : Int) : qd a b = (a : Rat) / (b : Rat) := Rat.divInt_eq_div a b
/-! ### the text -/
def topS (i : Nat) : Stmt := PySem.Challenge.pw_caskyears_k73_whole_rows_one_behind_the.main.body.getD i (.Pass ⟨0, 0, 0, 0⟩)
def lcSc : Expr → Scope
  | .ListComp _ _ sc _ => sc
  | _ => { kind := .function, names := [], isGenerator := false, isCoroutine := false }
def retE : Stmt → Expr
  | .Return (some e) _ => e
  | _ => .Constant .none 0 ⟨0, 0, 0, 0⟩
end Cal
set_option Elab.async false
set_option linter.all false
set_option maxRecDepth 100000
set_option maxHeartbeats 4000000
namespace Cal
open PySem PySem.Spec PyProof.Rows L2
/-! ### slots forgotten -/
inductive Wk : Rho → Rho → Prop
  | nil : Wk [] []
  | same {x y : Option Sl} {a b : Rho} : x = y → Wk a b → Wk (x :: a) (y :: b)
  | drop {x : Option Sl} {a b : Rho} : Wk a b → Wk (x :: a) (none :: b)
theorem Wk.refl : ∀ ρ : Rho, Wk ρ ρ
  | [] => .nil
  | _ :: r => .same rfl (Wk.refl r)
theorem Wk.len {a b : Rho} (h : Wk a b) : a.length = b.length := by
  induction h with
  | nil => rfl
  | same _ _ ih => simp [ih]
  | drop _ ih => simp [ih]
theorem Wk.at_ {a b : Rho} (h : Wk a b) : ∀ (i : Nat) (s : Sl), b[i]? = some (some s) → a[i]? = some (some s) := by
  induction h with
  | nil => intro i s q; exact q
  | same e _ ih =>
    intro i s q
    cases i with
    | zero => rw [e]; exact q
    | succ i => exact ih i s q
  | drop _ ih =>
    intro i s q
    cases i with
    | zero => cases q
    | succ i => exact ih i s q
theorem N_wk {t : TS} {ρ ρ1 ρ2 : Rho} (h : N t ρ ρ1) (k : Wk ρ1 ρ2) : N t ρ ρ2 := fun F H0 σ H D s q => h F H0 σ H D s fun σ' H' ⟨G, z⟩ =>
  q σ' H' ⟨G, z.sub, z.inn, ⟨z.env.len.trans k.len, fun i s e => z.env.at_ i s (k.at_ i s e)⟩, z.ext, z.inF, z.new, fun i ds p e1 e2 => z.own i ds p (k.at_ i _ e1) e2, fun i j ds es p e1 e2 => z.apart i j ds es p (k.at_ i _ e1) (k.at_ j _ e2)⟩
theorem N_wk0 {t : TS} {ρ ρ1 ρ2 : Rho} (k : Wk ρ ρ1) (h : N t ρ1 ρ2) : N t ρ ρ2 := fun F H0 σ H D ⟨G, z⟩ q => h F H0 σ H D
  ⟨G, z.sub, z.inn, ⟨z.env.len.trans k.len, fun i s e => z.env.at_ i s (k.at_ i s e)⟩, z.ext, z.inF, z.new, fun i ds p e1 e2 => z.own i ds p (k.at_ i _ e1) e2, fun i j ds es p e1 e2 => z.apart i j ds es p (k.at_ i _ e1) (k.at_ j _ e2)⟩ q
theorem Rt_wk0 {t : TS} {ρ ρ1 : Rho} {d : D} (k : Wk ρ ρ1) (h : Rt t ρ1 d) : Rt t ρ d := fun F H0 σ H D ⟨G, z⟩ q => h F H0 σ H D
  ⟨G, z.sub, z.inn, ⟨z.env.len.trans k.len, fun i s e => z.env.at_ i s (k.at_ i s e)⟩, z.ext, z.inF, z.new, fun i ds p e1 e2 => z.own i ds p (k.at_ i _ e1) e2, fun i j ds es p e1 e2 => z.apart i j ds es p (k.at_ i _ e1) (k.at_ j _ e2)⟩ q
theorem def_non' {ds : List D} {t : TS} {N : List Str} {F : Own} {H : Hp} {vs : List V} {Q : VK} {rt : VK} (hF : Cal.In F H) (h : Rps F H vs ds) (q : ∀ v H', Same H H' → Rp F H' v PyData.none → Q v H')
    (hb : ∃ ρ', Cal.N t (arg ds (N.length - ds.length)) ρ') {bk ct : L2.St → Hp → Prop} : t { nx := fun _ H' => Q .non H', rt := rt, bk := bk, ct := ct } (L2.start N vs) H := by
  obtain ⟨ρ', hb⟩ := hb
  exact def_non hF h q hb
/-! ### small facts -/
theorem l0 : ([] : List D).length ≤ 100000 := by simp
theorem l1 {a : D} : [a].length ≤ 100000 := by simp
theorem l2 {a b : D} : [a, b].length ≤ 100000 := by simp
theorem l3 {a b c : D} : [a, b, c].length ≤ 100000 := by simp
theorem l4 {a b c d : D} : [a, b, c, d].length ≤ 100000 := by simp
theorem map_range {α β : Type} (f : α → β) (x : α) : ∀ xs : List α, xs.map f = (List.range xs.length).map fun i => f (xs.getD i x)
  | [] => rfl
  | a :: xs => by
    rw [List.length_cons, List.range_succ_eq_map, List.map_cons, List.map_cons, List.map_map, map_range f x xs]
    rfl
theorem kit_tt : kitB "tuple" "tuple" = some true := by decide +kernel
theorem kit_tl : kitB "tuple" "list" = some false := by decide +kernel
theorem kit_lt : kitB "list" "tuple" = some false := by decide +kernel
theorem kit_ll : kitB "list" "list" = some true := by decide +kernel
theorem kit_it : kitB "int" "tuple" = some false := by decide +kernel
theorem kit_il : kitB "int" "list" = some false := by decide +kernel
theorem kit_ii : kitB "int" "int" = some true := by decide +kernel
theorem kit_ib : kitB "int" "bool" = some false := by decide +kernel
theorem kit_is : kitB "int" "str" = some false := by decide +kernel
theorem kit_bt : kitB "bool" "tuple" = some false := by decide +kernel
theorem kit_bl : kitB "bool" "list" = some false := by decide +kernel
theorem kit_bb : kitB "bool" "bool" = some true := by decide +kernel
section
variable {K : PySem.W.Frag} {ρ : Rho} {ta : TE} {i : Int} {d : D} {ds : List D} {b : Bool} {n : String}
theorem E_isiT (h : E ta ρ (.tuple ds)) (hb : kitB "tuple" n = some b) : E (tCB (rIsi K) (tCons ta (tCons (tC (.ty n)) tNil))) ρ (.bool b) := E_isi h hb fun _ z => by cases z
theorem E_isiL (h : E ta ρ (.list ds)) (hb : kitB "list" n = some b) : E (tCB (rIsi K) (tCons ta (tCons (tC (.ty n)) tNil))) ρ (.bool b) := E_isi h hb fun _ z => by cases z
theorem E_isiI (h : E ta ρ (.int i)) (hb : kitB "int" n = some b) : E (tCB (rIsi K) (tCons ta (tCons (tC (.ty n)) tNil))) ρ (.bool b) := E_isi h hb fun _ z => by cases z
theorem E_isiB {c : Bool} (h : E ta ρ (.bool c)) (hb : kitB "bool" n = some b) : E (tCB (rIsi K) (tCons ta (tCons (tC (.ty n)) tNil))) ρ (.bool b) := E_isi h hb fun _ z => by cases z
end
/-! ### a list that is filled turn by turn; forms with a list of any items -/
/-- for x in xs, xs told by its items -/
theorem N_forL {wi : TI} {g : TG} {vt : List Nat} {tb : TS} {ρ : Rho} {α : Type} {xs : List α} {emb : α → D} (x0 : α) (ρs ρm : Nat → Rho) (hw : W wi ρ (xs.map emb)) (h0 : ρs 0 = ρ) (hg : ∀ i, i < xs.length → Tg g vt (emb (xs.getD i x0)) (ρs i) (ρm i))
    (ho : ∀ i, i < xs.length → ∀ (k : Nat) ds, (ρm i)[k]? = some (some (.o ds)) → (ρs i)[k]? = some (some (.o ds)) ∧ k ∉ vt) (hb : ∀ i, i < xs.length → N tb (ρm i) (ρs (i + 1))) : N (tFor wi g tb) ρ (ρs xs.length) :=
  N_for ρs ρm (W_is hw (map_range emb x0 xs)) h0 hg ho hb
/-- no list of one's own here -/
def noOwn (ρ : Rho) : Bool := ρ.all fun x => match x with | some (.o _) => false | _ => true
theorem noOwn_at {ρ : Rho} (h : noOwn ρ = true) {k : Nat} {ds : List D} : ¬ ρ[k]? = some (some (.o ds)) := fun e => by
  have := List.all_eq_true.mp h _ (List.mem_of_getElem? e)
  cases this
theorem own_set {ρ : Rho} {k : Nat} {d : D} {l : Nat} {ds : List D} (h : (ρ.set k (some (.d d)))[l]? = some (some (.o ds))) : ρ[l]? = some (some (.o ds)) ∧ l ∉ [k] := by
  obtain ⟨h1, h2⟩ := set_own h
  exact ⟨h2, by simpa using h1⟩
theorem own_set2 {ρ : Rho} {k m : Nat} {d e : D} {l : Nat} {ds : List D} (h : ((ρ.set k (some (.d d))).set m (some (.d e)))[l]? = some (some (.o ds))) : ρ[l]? = some (some (.o ds)) ∧ l ∉ [k, m] := by
  obtain ⟨h1, h2⟩ := set_own h
  obtain ⟨h3, h4⟩ := set_own h2
  exact ⟨h4, by simp [h1, h3]⟩
/-- the forms one uses: one name as the target, a pair of names -/
theorem N_for1 {wi : TI} {j : Nat} {tb : TS} {ρ : Rho} {α : Type} {xs : List α} {emb : α → D} (x0 : α) (ρs : Nat → Rho) (hw : W wi ρ (xs.map emb)) (h0 : ρs 0 = ρ)
    (hb : ∀ i, i < xs.length → N tb ((ρs i).set j (some (.d (emb (xs.getD i x0))))) (ρs (i + 1))) : N (tFor wi (gName j) tb) ρ (ρs xs.length) :=
  N_forL x0 ρs _ hw h0 (fun _ _ => Tg_name) (fun _ _ _ _ h => own_set h) hb
theorem N_for2 {K : PySem.W.Frag} {wi : TI} {j k : Nat} {tb : TS} {ρ : Rho} {α : Type} {xs : List α} {e1 e2 : α → D} (x0 : α) (ρs : Nat → Rho) (hw : W wi ρ (xs.map fun x => pairD (e1 x) (e2 x))) (h0 : ρs 0 = ρ)
    (hb : ∀ i, i < xs.length → N tb (((ρs i).set j (some (.d (e1 (xs.getD i x0))))).set k (some (.d (e2 (xs.getD i x0))))) (ρs (i + 1))) : N (tFor wi (gTup K 2 (gCons (gName j) (gCons (gName k) gNil))) tb) ρ (ρs xs.length) :=
  N_forL (emb := fun x => pairD (e1 x) (e2 x)) x0 ρs _ hw h0 (fun _ _ => Tg_pair) (fun _ _ _ _ h => own_set2 h) hb
theorem N_forR {j n : Nat} {te : TE} {tb : TS} {ρ : Rho} (ρs : Nat → Rho) (he : E te ρ (.int (n : Int))) (hn : n ≤ 100000) (h0 : ρs 0 = ρ)
    (hb : ∀ i, i < n → N tb ((ρs i).set j (some (.d (.int (i : Int))))) (ρs (i + 1))) : N (tFor (iRng1 (tCons te tNil)) (gName j) tb) ρ (ρs n) :=
  N_for (f := intD) ρs _ (W_range he hn) h0 (fun _ _ => Tg_name) (fun _ _ _ _ h => own_set h) hb
/-- comprehensions in short -/
theorem EO_lc1 {wi : TI} {te : TE} {ρ : Rho} {j : Nat} {α : Type} {xs : List α} {emb f : α → D} (hw : W wi ρ (xs.map emb)) (he : ∀ x, x ∈ xs → E te ((wipeR ρ [j]).set j (some (.d (emb x)))) (f x)) (hl : xs.length ≤ 50000) : EO (tLc wi (gName j) tYes te [j]) ρ (xs.map f) :=
  EO_lc (vt := [j]) hw (fun _ h => h) (fun _ _ => Tg_name) he hl
theorem EO_lc2 {K : PySem.W.Frag} {wi : TI} {te : TE} {ρ : Rho} {j k : Nat} {α : Type} {xs : List α} {e1 e2 f : α → D} (hw : W wi ρ (xs.map fun x => pairD (e1 x) (e2 x))) (he : ∀ x, x ∈ xs → E te (((wipeR ρ [j, k]).set j (some (.d (e1 x)))).set k (some (.d (e2 x)))) (f x)) (hl : xs.length ≤ 50000) :
    EO (tLc wi (gTup K 2 (gCons (gName j) (gCons (gName k) gNil))) tYes te [j, k]) ρ (xs.map f) :=
  EO_lc (vt := [j, k]) (emb := fun x => pairD (e1 x) (e2 x)) hw (fun _ h => h) (fun _ _ => Tg_pair) he hl
theorem EO_lcR {te ta : TE} {ρ : Rho} {j n : Nat} {f : Nat → D} (hn : E ta ρ (.int (n : Int))) (hl : n ≤ 50000) (he : ∀ i, i < n → E te ((wipeR ρ [j]).set j (some (.d (.int (i : Int))))) (f i)) : EO (tLc (iRng1 (tCons ta tNil)) (gName j) tYes te [j]) ρ ((List.range n).map f) :=
  EO_lc1 (emb := intD) (W_range hn (by omega)) (fun i hi => he i (List.mem_range.mp hi)) (by simpa using hl)
theorem EO_lcRP {te ta : TE} {tt : TT} {ρ : Rho} {j n : Nat} {f : Nat → D} {p : Nat → Bool} (hn : E ta ρ (.int (n : Int))) (hl : n ≤ 50000) (ht : ∀ i, i < n → T tt ((wipeR ρ [j]).set j (some (.d (.int (i : Int))))) (p i)) (he : ∀ i, i < n → p i = true → E te ((wipeR ρ [j]).set j (some (.d (.int (i : Int))))) (f i)) :
    EO (tLc (iRng1 (tCons ta tNil)) (gName j) tt te [j]) ρ (((List.range n).filter p).map f) :=
  EO_lcP (vt := [j]) (emb := intD) (W_range hn (by omega)) (fun _ h => h) (fun _ _ => Tg_name) (fun i hi => ht i (List.mem_range.mp hi)) (fun i hi hp => he i (List.mem_range.mp hi) hp) (by simpa using hl)
end Cal
set_option Elab.async false
set_option linter.all false
set_option maxRecDepth 100000
set_option maxHeartbeats 4000000
namespace Cal
open PySem PySem.Spec PyProof.Rows L2
abbrev s_is_integer : Stmt := topS 8
abbrev N_is_integer : List Str := ["value"]
theorem sc_is_integer : FnScope N_is_integer ["value"] (defScope s_is_integer) := ⟨rfl, rfl, rfl, by decide +kernel, rfl, by decide +kernel, by decide +kernel⟩
def R_is_integer : List D → D → Prop := fun ds d => ∃ i : Int, ds = [.int i] ∧ d = .bool true
theorem ok_is_integer {P : Program} {w : World} {K : PySem.W.Frag} {mg : Str → Option Value} {base : Heap} (T : Bl mg) {f : Addr} {fd : FuncData} (F : Fun K "is_integer" "is_integer" s_is_integer f fd) : FnOk P w K mg base CX0 1 f fd ["value"] (SpR R_is_integer) := by
  refine F.ok sc_is_integer (fun vs H Q E h => ?_) (fun cdv A outer s H vs Q E hr h => ?_)
  · obtain ⟨_, _, _, _, r, ⟨i, rfl, rfl⟩, _⟩ := h
    exact r.len
  · obtain ⟨F0, ds, d, hF, hrep, ⟨i, rfl, rfl⟩, fin⟩ := h
    refine ⟨_, (pss_one (ps_ret (pe_and (pe_callB (r := rIsi K) call_isi (by rfl) T.isinstance (by decide +kernel) (pa_cons (pv 0) (pa_cons (pe_bltn (v := .ty "int") (by rfl) T.int (by decide +kernel) rfl) pa_nil))) (pe_one (pe_not (pe_callB (r := rIsi K) call_isi (by rfl) T.isinstance (by decide +kernel) (pa_cons (pv 0) (pa_cons (pe_bltn (v := .ty "bool") (by rfl) T.bool (by decide +kernel) rfl) pa_nil)))))))), def_ret hF hrep fin ?_⟩
    exact Rt_ret (E_is (E_and (E_isiI (E_var rfl) kit_ii) (fun _ => E_not (E_isiI (E_var rfl) kit_ib))) rfl)

abbrev s_is_fraction : Stmt := topS 10
abbrev N_is_fraction : List Str := ["value"]
theorem sc_is_fraction : FnScope N_is_fraction ["value"] (defScope s_is_fraction) := ⟨rfl, rfl, rfl, by decide +kernel, rfl, by decide +kernel, by decide +kernel⟩
def R_is_fraction : List D → D → Prop := fun ds d => ∃ q : Rat, ds = [fr q] ∧ d = .bool true
theorem ok_is_fraction {P : Program} {w : World} {K : PySem.W.Frag} {mg : Str → Option Value} {base : Heap} (T : Bl mg) (c_is_integer : Callee P w K mg base 1 "is_integer" ["value"] (SpR R_is_integer)) {f : Addr} {fd : FuncData} (F : Fun K "is_fraction" "is_fraction" s_is_fraction f fd) : FnOk P w K mg base CX0 2 f fd ["value"] (SpR R_is_fraction) := by
  refine F.ok sc_is_fraction (fun vs H Q E h => ?_) (fun cdv A outer s H vs Q E hr h => ?_)
  · obtain ⟨_, _, _, _, r, ⟨q, rfl, rfl⟩, _⟩ := h
    exact r.len
  · obtain ⟨F0, ds, d, hF, hrep, ⟨q, rfl, rfl⟩, fin⟩ := h
    refine ⟨_, (pss_cons (ps_if (PW.pt (pw_or (pt_not (pt_val (pe_callB (r := rIsi K) call_isi (by rfl) T.isinstance (by decide +kernel) (pa_cons (pv 0) (pa_cons (pe_bltn (v := .ty "tuple") (by rfl) T.tuple (by decide +kernel) rfl) pa_nil))))) (pw_or1 (pt_cmpR op_ne (pe_callB (r := rLenS K) call_len_seq (by rfl) T.len (by decide +kernel) (pa_cons (pv 0) pa_nil)) pe_int (nomark _))))) (pss_one (ps_ret pe_bl)) pss_nil) (pss_cons (ps_if (PW.pt (pw_or (pt_not (pt_val (pe_callC c_is_integer hr (by decide) (by rfl) (pa_cons (pe_ix (r := rIx K) ix_seq (pv 0) pe_int (fun _ _ => rfl)) pa_nil)))) (pw_or1 (pt_not (pt_val (pe_callC c_is_integer hr (by decide) (by rfl) (pa_cons (pe_ix (r := rIx K) ix_seq (pv 0) pe_int (fun _ _ => rfl)) pa_nil))))))) (pss_one (ps_ret pe_bl)) pss_nil) (pss_one (ps_ret (pe_and (pe_cmpR op_ge (pe_ix (r := rIx K) ix_seq (pv 0) pe_int (fun _ _ => rfl)) pe_int (nomark _)) (pe_one (pe_cmpR op_eq (pe_callBfun cr_gcd (by rfl) T.gcd (pa_cons (pe_ix (r := rIx K) ix_seq (pv 0) pe_int (fun _ _ => rfl)) (pa_cons (pe_ix (r := rIx K) ix_seq (pv 0) pe_int (fun _ _ => rfl)) pa_nil))) pe_int (nomark _)))))))), def_ret hF hrep fin ?_⟩
    refine Rt_seq (N_if_f (T_is (T_or (T_not (T_B (E_isiT (E_var rfl) kit_tt))) (fun _ => T_test (E_neI (E_lenT (E_var rfl)) E_int))) rfl) N_next)
      (Rt_seq (N_if_f (T_is (T_or (T_not (T_B (E_call (EA_cons (E_ixT (E_var rfl) E_int rfl) EA_nil) ⟨_, rfl, rfl⟩))) (fun _ => T_not (T_B (E_call (EA_cons (E_ixT (E_var rfl) E_int rfl) EA_nil) ⟨_, rfl, rfl⟩)))) rfl) N_next)
      (Rt_ret (E_is (E_and (E_ge (E_ixT (E_var rfl) E_int rfl) E_int) (fun _ => E_eqI (E_gcd (E_ixT (E_var rfl) E_int rfl) (E_ixT (E_var rfl) E_int rfl)) E_int)) ?_)))
    have h1 : (1 : Int) ≤ ((q.den : Nat) : Int) := by have := q.den_pos; omega
    have h2 : (((Nat.gcd q.num.natAbs ((q.den : Nat) : Int).natAbs : Nat) : Int)) = 1 := by
      rw [Int.natAbs_natCast]
      have := q.reduced
      unfold Nat.Coprime at this
      rw [this]; rfl
    rw [decide_eq_true h1, decide_eq_true h2]
    rfl

abbrev s_is_share : Stmt := topS 11
abbrev N_is_share : List Str := ["value"]
theorem sc_is_share : FnScope N_is_share ["value"] (defScope s_is_share) := ⟨rfl, rfl, rfl, by decide +kernel, rfl, by decide +kernel, by decide +kernel⟩
def R_is_share : List D → D → Prop := fun ds d => ∃ q : Rat, ds = [fr q] ∧ 0 ≤ q ∧ q ≤ 1 ∧ d = .bool true
theorem ok_is_share {P : Program} {w : World} {K : PySem.W.Frag} {mg : Str → Option Value} {base : Heap} (T : Bl mg) (c_is_fraction : Callee P w K mg base 2 "is_fraction" ["value"] (SpR R_is_fraction)) {f : Addr} {fd : FuncData} (F : Fun K "is_share" "is_share" s_is_share f fd) : FnOk P w K mg base CX0 3 f fd ["value"] (SpR R_is_share) := by
  refine F.ok sc_is_share (fun vs H Q E h => ?_) (fun cdv A outer s H vs Q E hr h => ?_)
  · obtain ⟨_, _, _, _, r, ⟨q, rfl, h0, h1, rfl⟩, _⟩ := h
    exact r.len
  · obtain ⟨F0, ds, d, hF, hrep, ⟨q, rfl, h0, h1, rfl⟩, fin⟩ := h
    refine ⟨_, (pss_one (ps_ret (pe_and (pe_callC c_is_fraction hr (by decide) (by rfl) (pa_cons (pv 0) pa_nil)) (pe_one (pe_chain op_le op_le pe_int (pe_ix (r := rIx K) ix_seq (pv 0) pe_int (fun _ _ => rfl)) (pe_ix (r := rIx K) ix_seq (pv 0) pe_int (fun _ _ => rfl))))))), def_ret hF hrep fin ?_⟩
    refine Rt_ret (E_is (E_and (E_call (EA_cons (E_var rfl) EA_nil) ⟨q, rfl, rfl⟩) (fun _ => E_chainLe E_int (E_ixT (E_var rfl) E_int rfl) (E_ixT (E_var rfl) E_int rfl))) ?_)
    have e0 : (0 : Int) ≤ q.num := Rat.num_nonneg.mpr h0
    have e1 : q.num ≤ ((q.den : Nat) : Int) := by
      have := (Rat.le_iff q 1).mp h1
      simpa using this
    rw [decide_eq_true e0, decide_eq_true e1]
    rfl

abbrev s_need_fraction : Stmt := topS 12
abbrev N_need_fraction : List Str := ["value"]
theorem sc_need_fraction : FnScope N_need_fraction ["value"] (defScope s_need_fraction) := ⟨rfl, rfl, rfl, by decide +kernel, rfl, by decide +kernel, by decide +kernel⟩
def R_need_fraction : List D → D → Prop := fun ds d => ∃ q : Rat, ds = [fr q] ∧ d = .none
theorem ok_need_fraction {P : Program} {w : World} {K : PySem.W.Frag} {mg : Str → Option Value} {base : Heap} (T : Bl mg) (c_is_fraction : Callee P w K mg base 2 "is_fraction" ["value"] (SpR R_is_fraction)) {f : Addr} {fd : FuncData} (F : Fun K "need_fraction" "need_fraction" s_need_fraction f fd) : FnOk P w K mg base CX0 3 f fd ["value"] (SpR R_need_fraction) := by
  refine F.ok sc_need_fraction (fun vs H Q E h => ?_) (fun cdv A outer s H vs Q E hr h => ?_)
  · obtain ⟨_, _, _, _, r, ⟨q, rfl, rfl⟩, _⟩ := h
    exact r.len
  · obtain ⟨F0, ds, d, hF, hrep, ⟨q, rfl, rfl⟩, fin⟩ := h
    refine ⟨_, (pss_one (ps_if (pt_not (pt_val (pe_callC c_is_fraction hr (by decide) (by rfl) (pa_cons (pv 0) pa_nil)))) (pss_one ps_never) pss_nil)), def_non' hF hrep fin ?_⟩
    exact ⟨_, N_if_f (T_is (T_not (T_B (E_call (EA_cons (E_var rfl) EA_nil) ⟨q, rfl, rfl⟩))) rfl) N_next⟩

abbrev s_fraction : Stmt := topS 13
abbrev N_fraction : List Str := ["above", "below", "divisor"]
theorem sc_fraction : FnScope N_fraction ["above", "below"] (defScope s_fraction) := ⟨rfl, rfl, rfl, by decide +kernel, rfl, by decide +kernel, by decide +kernel⟩
def R_fraction : List D → D → Prop := fun ds d => ∃ a b : Int, ds = [.int a, .int b] ∧ 0 < b ∧ b.natAbs < 2 ^ 8000 ∧ d = fr (qd a b)
theorem gcd_ok {a b : Int} (hb : 0 < b) (hb2 : b.natAbs < 2 ^ 8000) : CDivW a ((Nat.gcd a.natAbs b.natAbs : Nat) : Int) ∧ CDivW b ((Nat.gcd a.natAbs b.natAbs : Nat) : Int) := by
  have hg : 0 < Nat.gcd a.natAbs b.natAbs := Nat.gcd_pos_of_pos_right _ (by omega)
  have h1 : (((Nat.gcd a.natAbs b.natAbs : Nat) : Int)).natAbs < 2 ^ 8000 := by
    rw [Int.natAbs_natCast]
    exact Nat.lt_of_le_of_lt (Nat.le_of_dvd (by omega) (Nat.gcd_dvd_right _ _)) hb2
  exact ⟨wide_div (by omega) h1 (by decide) (by decide), wide_div (by omega) h1 (by decide) (by decide)⟩
theorem ok_fraction {P : Program} {w : World} {K : PySem.W.Frag} {mg : Str → Option Value} {base : Heap} (T : Bl mg) {f : Addr} {fd : FuncData} (F : Fun K "fraction" "fraction" s_fraction f fd) : FnOk P w K mg base CX0 1 f fd ["above", "below"] (SpR R_fraction) := by
  refine F.ok sc_fraction (fun vs H Q E h => ?_) (fun cdv A outer s H vs Q E hr h => ?_)
  · obtain ⟨_, _, _, _, r, ⟨a, b, rfl, hb, hb2, rfl⟩, _⟩ := h
    exact r.len
  · obtain ⟨F0, ds, d, hF, hrep, ⟨a, b, rfl, hb, hb2, rfl⟩, fin⟩ := h
    refine ⟨_, (pss_cons (ps_if (pt_cmpR op_eq (pv 1) pe_int (nomark _)) (pss_one ps_never) pss_nil) (pss_cons (ps_set (i := 2) sc_fraction.nd rfl (.inl rfl) (pe_callBfun cr_gcd (by rfl) T.gcd (pa_cons (pv 0) (pa_cons (pv 1) pa_nil)))) (pss_cons (ps_if (pt_cmpR op_lt (pv 1) pe_int (nomark _)) (pss_one (ps_set (i := 2) sc_fraction.nd rfl (.inl rfl) (pe_un un_neg (pv 2)))) pss_nil) (pss_one (ps_ret (pe_tup (pa_cons (pe_op op_fdivW (pv 0) (pv 2)) (pa_cons (pe_op op_fdivW (pv 1) (pv 2)) pa_nil)))))))), def_ret hF hrep fin ?_⟩
    have hd := gcd_ok (a := a) hb hb2
    refine Rt_seq (N_if_f (T_is (T_test (E_eqI (E_var rfl) E_int)) ?_) N_next) (Rt_seq (N_asg (E_gcd (E_var rfl) (E_var rfl))) (Rt_seq (N_if_f (T_is (T_test (E_lt (E_var rfl) E_int)) ?_) N_next) (Rt_ret (E_is (E_tup (EA_cons (E_fdiv (E_var rfl) (E_var rfl) hd.1) (EA_cons (E_fdiv (E_var rfl) (E_var rfl) hd.2) EA_nil)) l2) ?_))))
    · exact decide_eq_false (by omega)
    · exact decide_eq_false (by omega)
    · unfold fr
      rw [qd_num hb, qd_den hb]

abbrev s_need_from_zero : Stmt := topS 16
abbrev N_need_from_zero : List Str := ["number"]
theorem sc_need_from_zero : FnScope N_need_from_zero ["number"] (defScope s_need_from_zero) := ⟨rfl, rfl, rfl, by decide +kernel, rfl, by decide +kernel, by decide +kernel⟩
def R_need_from_zero : List D → D → Prop := fun ds d => ∃ n : Nat, ds = [intD n] ∧ d = .none
theorem ok_need_from_zero {P : Program} {w : World} {K : PySem.W.Frag} {mg : Str → Option Value} {base : Heap} (T : Bl mg) {f : Addr} {fd : FuncData} (F : Fun K "need_from_zero" "need_from_zero" s_need_from_zero f fd) : FnOk P w K mg base CX0 1 f fd ["number"] (SpR R_need_from_zero) := by
  refine F.ok sc_need_from_zero (fun vs H Q E h => ?_) (fun cdv A outer s H vs Q E hr h => ?_)
  · obtain ⟨_, _, _, _, r, ⟨n, rfl, rfl⟩, _⟩ := h
    exact r.len
  · obtain ⟨F0, ds, d, hF, hrep, ⟨n, rfl, rfl⟩, fin⟩ := h
    refine ⟨_, (pss_one (ps_if (pt_cmpR op_lt (pv 0) pe_int (nomark _)) (pss_one ps_never) pss_nil)), def_non' hF hrep fin ?_⟩
    exact ⟨_, N_if_f (T_is (T_test (E_lt (E_var rfl) E_int)) (decide_eq_false (by omega))) N_next⟩

end Cal
set_option Elab.async false
set_option linter.all false
set_option maxRecDepth 100000
set_option maxHeartbeats 4000000
namespace Cal
open PySem PySem.Spec PyProof.Rows L2

/-! ### data of rows -/
def intsD (ns : List Int) : D := .list (ns.map PyData.int)
def rowD (r : List Rat) : D := .tuple (r.map fr)
def matD (m : List (List Int)) : D := .list (m.map intsD)
def yearD (ns : List Int) (u : Int) : D := pairD (intsD ns) (.int u)
structure Row (r : List Rat) : Prop where
  l1 : 1 ≤ r.length
  l6 : r.length ≤ 6
  sh : M.Shares r
  den : ∀ p ∈ r, p.den ≤ 1000
/-- the least number that all can be over -/
def lcmD (r : List Rat) : Nat := r.foldl (fun b p => Nat.lcm b p.den) 1
theorem lcmD_snoc (r : List Rat) (p : Rat) : lcmD (r ++ [p]) = Nat.lcm (lcmD r) p.den := by
  unfold lcmD
  rw [List.foldl_append]; rfl
theorem lcmD_take {r : List Rat} {i : Nat} (h : i < r.length) : lcmD (r.take (i + 1)) = Nat.lcm (lcmD (r.take i)) (r.getD i 0).den := by
  rw [List.take_add_one, List.getElem?_eq_getElem h, List.getD_eq_getElem?_getD, List.getElem?_eq_getElem h]
  exact lcmD_snoc _ _
theorem lcm_le {a b : Nat} (ha : 0 < a) (hb : 0 < b) : Nat.lcm a b ≤ a * b := Nat.le_of_dvd (Nat.mul_pos ha hb) (Nat.lcm_dvd_mul a b)
theorem lcmD_bound : ∀ (n : Nat) (r : List Rat), r.length = n → (∀ p ∈ r, p.den ≤ 1000) → 0 < lcmD r ∧ lcmD r ≤ 1000 ^ n
  | 0, r, h, _ => by
    have : r = [] := List.length_eq_zero_iff.mp h
    subst this
    decide
  | n + 1, r, h, hd => by
    have hr : r ≠ [] := by rintro rfl; cases h
    have e := List.dropLast_concat_getLast hr
    have ih := lcmD_bound n r.dropLast (by rw [List.length_dropLast, h]; rfl) fun p hp => hd p ((List.dropLast_sublist r).subset hp)
    rw [← e, lcmD_snoc]
    have h1 := (r.getLast hr).den_pos
    have h2 := hd _ (List.getLast_mem hr)
    refine ⟨Nat.lcm_pos ih.1 h1, Nat.le_trans (lcm_le ih.1 h1) ?_⟩
    rw [Nat.pow_succ]
    exact Nat.mul_le_mul ih.2 h2
theorem lcmD_dvd : ∀ (r : List Rat) (b : Nat), (b ∣ r.foldl (fun b p => Nat.lcm b p.den) b) ∧ ∀ p ∈ r, p.den ∣ r.foldl (fun b p => Nat.lcm b p.den) b
  | [], b => ⟨Nat.dvd_refl b, fun _ h => by cases h⟩
  | q :: r, b => by
    obtain ⟨h1, h2⟩ := lcmD_dvd r (Nat.lcm b q.den)
    refine ⟨Nat.dvd_trans (Nat.dvd_lcm_left _ _) h1, fun p hp => ?_⟩
    rcases List.mem_cons.mp hp with rfl | hp
    · exact Nat.dvd_trans (Nat.dvd_lcm_right _ _) h1
    · exact h2 p hp
theorem Row.take_bound {r : List Rat} (h : Row r) (i : Nat) : 0 < lcmD (r.take i) ∧ lcmD (r.take i) ≤ 1000 ^ 6 := by
  have b := lcmD_bound _ (r.take i) rfl fun p hp => h.den p (List.mem_of_mem_take hp)
  refine ⟨b.1, Nat.le_trans b.2 (Nat.pow_le_pow_right (by decide) ?_)⟩
  rw [List.length_take]
  have := h.l6
  omega
theorem Row.bound {r : List Rat} (h : Row r) : 0 < lcmD r ∧ lcmD r ≤ 1000 ^ 6 := by
  have := h.take_bound r.length
  rw [List.take_length] at this
  exact this
theorem Row.dvd {r : List Rat} (h : Row r) {p : Rat} (hp : p ∈ r) : p.den ∣ lcmD r := (lcmD_dvd r 1).2 p hp
/-- the shares over that number -/
def intsOf (r : List Rat) : List Int := r.map fun p => p.num * ((lcmD r : Int) / (p.den : Int))

abbrev s_common_below : Stmt := topS 17
abbrev N_common_below : List Str := ["parts", "below", "part"]
theorem sc_common_below : FnScope N_common_below ["parts"] (defScope s_common_below) := ⟨rfl, rfl, rfl, by decide +kernel, rfl, by decide +kernel, by decide +kernel⟩
def R_common_below : List D → D → Prop := fun ds d => ∃ r : List Rat, Row r ∧ ds = [rowD r] ∧ d = intD (lcmD r)
theorem ok_common_below {P : Program} {w : World} {K : PySem.W.Frag} {mg : Str → Option Value} {base : Heap} (T : Bl mg) {f : Addr} {fd : FuncData} (F : Fun K "common_below" "common_below" s_common_below f fd) : FnOk P w K mg base CX0 1 f fd ["parts"] (SpR R_common_below) := by
  refine F.ok sc_common_below (fun vs H Q E h => ?_) (fun cdv A outer s H vs Q E hr h => ?_)
  · obtain ⟨_, _, _, _, r, ⟨r, hr0, rfl, rfl⟩, _⟩ := h
    exact r.len
  · obtain ⟨F0, ds, d, hF, hrep, ⟨r, hr0, rfl, rfl⟩, fin⟩ := h
    refine ⟨_, (pss_cons (ps_set (i := 1) sc_common_below.nd rfl (.inl rfl) pe_int) (pss_cons (ps_for PassesOwn.never rfl (pi_tup (pv 0)) (pg_name (i := 2) sc_common_below.nd rfl (.inl rfl)) (pss_one (ps_set (i := 1) sc_common_below.nd rfl (.inl rfl) (pe_callBfun cr_lcm (by rfl) T.lcm (pa_cons (pv 1) (pa_cons (pe_ix (r := rIx K) ix_seq (pv 2) pe_int (fun _ _ => rfl)) pa_nil)))))) (pss_one (ps_ret (pv 1))))), def_ret hF hrep fin ?_⟩
    have h64 : ∀ i, (lcmD (r.take i) : Int).natAbs < 2 ^ 64 := fun i => by
      rw [Int.natAbs_natCast]
      exact Nat.lt_of_le_of_lt (hr0.take_bound i).2 (by decide)
    refine Rt_seq (N_asg E_int) (Rt_seq (N_for1 (xs := r) (emb := fr) 0 (fun i => [some (.d (rowD r)), some (.d (intD (lcmD (r.take i)))), none]) (W_tup (E_var rfl)) rfl (fun i hi => N_wk (N_asg (E_lcm (E_var rfl) (E_ixT (E_var rfl) E_int rfl) ?_ ?_)) (.same rfl (.same ?_ (.drop .nil))))) (Rt_ret (E_is (E_var rfl) ?_)))
    · exact h64 i
    · rw [Int.natAbs_natCast]
      have h1 : r.getD i 0 ∈ r := by
        rw [List.getD_eq_getElem?_getD, List.getElem?_eq_getElem hi]
        exact List.getElem_mem hi
      have := hr0.den _ h1
      omega
    · rw [lcmD_take hi]
      show some (Sl.d (PyData.int _)) = some (Sl.d (PyData.int _))
      rw [Int.natAbs_natCast, Int.natAbs_natCast]
    · rw [List.take_length]

abbrev s_over_below : Stmt := topS 18
abbrev N_over_below : List Str := ["parts", "below", "part"]
theorem sc_over_below : FnScope N_over_below ["parts", "below"] (defScope s_over_below) := ⟨rfl, rfl, rfl, by decide +kernel, rfl, by decide +kernel, by decide +kernel⟩
def R_over_below : List D → D → Prop := fun ds d => ∃ r : List Rat, Row r ∧ ds = [rowD r, intD (lcmD r)] ∧ d = intsD (intsOf r)
theorem ok_over_below {P : Program} {w : World} {K : PySem.W.Frag} {mg : Str → Option Value} {base : Heap} (T : Bl mg) {f : Addr} {fd : FuncData} (F : Fun K "over_below" "over_below" s_over_below f fd) : FnOk P w K mg base CX0 1 f fd ["parts", "below"] (SpR R_over_below) := by
  refine F.ok sc_over_below (fun vs H Q E h => ?_) (fun cdv A outer s H vs Q E hr h => ?_)
  · obtain ⟨_, _, _, _, r, ⟨r, hr0, rfl, rfl⟩, _⟩ := h
    exact r.len
  · obtain ⟨F0, ds, d, hF, hrep, ⟨r, hr0, rfl, rfl⟩, fin⟩ := h
    refine ⟨_, (pss_one (ps_ret (pe_lc (own := [("part", 2)]) (g := gName 2) (by rfl) sc_over_below.nd (pi_tup (pv 0)) (blkOk_by (own := [("part", 2)]) (N := N_over_below) (sc := defScope s_over_below) (by decide +kernel)) (fun _ _ _ _ _ => (pg_name (i := 2) sc_over_below.nd rfl (.inl rfl))) (fun _ _ _ _ _ => pts_nil) (fun _ _ _ _ _ => (pe_op op_mulW (pe_ix (r := rIx K) ix_seq (pv 2) pe_int (fun _ _ => rfl)) (pe_op op_fdivW (pv 1) (pe_ix (r := rIx K) ix_seq (pv 2) pe_int (fun _ _ => rfl)))))))), def_ret hF hrep fin ?_⟩
    have hL : (lcmD r : Int).natAbs < 2 ^ 64 := by
      rw [Int.natAbs_natCast]
      exact Nat.lt_of_le_of_lt hr0.bound.2 (by decide)
    refine Rt_ret (E_is (E_of_EO (EO_lc1 (xs := r) (emb := fr) (f := fun p => .int (p.num * ((lcmD r : Int) / (p.den : Int)))) (W_tup (E_var rfl)) (fun p hp => E_mul (E_ixT (E_var rfl) E_int rfl) (E_fdiv (E_var rfl) (E_ixT (E_var rfl) E_int rfl) ?_) ?_) ?_)) ?_)
    · have h1 := p.den_pos
      have h2 := hr0.den p hp
      exact wide_div (b := 64) (by omega) (by rw [Int.natAbs_natCast]; omega) (by decide) (by decide)
    · have h1 := p.den_pos
      have h2 := hr0.den p hp
      have h3 := (hr0.sh p hp)
      have h4 : p.num.natAbs < 2 ^ 64 := by
        have e0 : (0 : Int) ≤ p.num := Rat.num_nonneg.mpr (Rat.le_of_lt h3.1)
        have e1 : p.num ≤ ((p.den : Nat) : Int) := by simpa using (Rat.le_iff p 1).mp h3.2
        omega
      refine wide_mul (a := 64) (b := 64) h4 ?_ (by decide) (by decide) (by decide)
      rw [show ((lcmD r : Nat) : Int) / ((p.den : Nat) : Int) = ((lcmD r / p.den : Nat) : Int) from rfl, Int.natAbs_natCast]
      exact Nat.lt_of_le_of_lt (Nat.div_le_self _ _) (Nat.lt_of_le_of_lt hr0.bound.2 (by decide))
    · have := hr0.l6; omega
    · unfold intsD intsOf
      rw [List.map_map]; rfl

abbrev s_as_fractions : Stmt := topS 19
abbrev N_as_fractions : List Str := ["numbers", "below", "number"]
theorem sc_as_fractions : FnScope N_as_fractions ["numbers", "below"] (defScope s_as_fractions) := ⟨rfl, rfl, rfl, by decide +kernel, rfl, by decide +kernel, by decide +kernel⟩
def R_as_fractions : List D → D → Prop := fun ds d => ∃ (ns : List Int) (b : Int), ds = [intsD ns, .int b] ∧ 0 < b ∧ b.natAbs < 2 ^ 8000 ∧ ns.length ≤ 100 ∧ d = .list (ns.map fun n => fr (qd n b))
theorem ok_as_fractions {P : Program} {w : World} {K : PySem.W.Frag} {mg : Str → Option Value} {base : Heap} (T : Bl mg) (c_fraction : Callee P w K mg base 1 "fraction" ["above", "below"] (SpR R_fraction)) {f : Addr} {fd : FuncData} (F : Fun K "as_fractions" "as_fractions" s_as_fractions f fd) : FnOk P w K mg base CX0 2 f fd ["numbers", "below"] (SpR R_as_fractions) := by
  refine F.ok sc_as_fractions (fun vs H Q E h => ?_) (fun cdv A outer s H vs Q E hr h => ?_)
  · obtain ⟨_, _, _, _, r, ⟨ns, b, rfl, hb, hb2, hl, rfl⟩, _⟩ := h
    exact r.len
  · obtain ⟨F0, ds, d, hF, hrep, ⟨ns, b, rfl, hb, hb2, hl, rfl⟩, fin⟩ := h
    refine ⟨_, (pss_one (ps_ret (pe_lc (own := [("number", 2)]) (g := gName 2) (by rfl) sc_as_fractions.nd (pi_list (pv 0)) (blkOk_by (own := [("number", 2)]) (N := N_as_fractions) (sc := defScope s_as_fractions) (by decide +kernel)) (fun _ _ _ _ _ => (pg_name (i := 2) sc_as_fractions.nd rfl (.inl rfl))) (fun _ _ _ _ _ => pts_nil) (fun _ _ _ _ _ => (pe_callC c_fraction hr (by decide) (by rfl) (pa_cons (pv 2) (pa_cons (pv 1) pa_nil))))))), def_ret hF hrep fin ?_⟩
    exact Rt_ret (E_of_EO (EO_lc1 (xs := ns) (emb := PyData.int) (f := fun n => fr (qd n b)) (W_list (E_var rfl)) (fun n hn => E_call (EA_cons (E_var rfl) (EA_cons (E_var rfl) EA_nil)) ⟨n, b, rfl, hb, hb2, rfl⟩) (by omega)))


def mulM (m : List (List Int)) (ns : List Int) : List Int := m.map fun r => (List.zipWith (· * ·) r ns).sum

abbrev s_stepped : Stmt := topS 20
abbrev N_stepped : List Str := ["rows", "numbers", "row", "one", "other"]
theorem sc_stepped : FnScope N_stepped ["rows", "numbers"] (defScope s_stepped) := ⟨rfl, rfl, rfl, by decide +kernel, rfl, by decide +kernel, by decide +kernel⟩
def R_stepped : List D → D → Prop := fun ds d => ∃ (m : List (List Int)) (ns : List Int), ds = [matD m, intsD ns] ∧ (∀ r ∈ m, r.length = ns.length) ∧ m.length ≤ 100 ∧ ns.length ≤ 100 ∧ (∀ r ∈ m, ∀ x ∈ r, x.natAbs < 2 ^ 5000) ∧ (∀ x ∈ ns, x.natAbs < 2 ^ 5000) ∧ d = intsD (mulM m ns)
theorem ok_stepped {P : Program} {w : World} {K : PySem.W.Frag} {mg : Str → Option Value} {base : Heap} (T : Bl mg) {f : Addr} {fd : FuncData} (F : Fun K "stepped" "stepped" s_stepped f fd) : FnOk P w K mg base CX0 1 f fd ["rows", "numbers"] (SpR R_stepped) := by
  refine F.ok sc_stepped (fun vs H Q E h => ?_) (fun cdv A outer s H vs Q E hr h => ?_)
  · obtain ⟨_, _, _, _, r, ⟨m, ns, rfl, h1, h2, h3, h4, h5, rfl⟩, _⟩ := h
    exact r.len
  · obtain ⟨F0, ds, d, hF, hrep, ⟨m, ns, rfl, h1, h2, h3, h4, h5, rfl⟩, fin⟩ := h
    refine ⟨_, (pss_one (ps_ret (pe_lc (own := [("row", 2)]) (g := gName 2) (by rfl) sc_stepped.nd (pi_list (pv 0)) (blkOk_by (own := [("row", 2)]) (N := N_stepped) (sc := defScope s_stepped) (by decide +kernel)) (fun _ _ _ _ _ => (pg_name (i := 2) sc_stepped.nd rfl (.inl rfl))) (fun _ _ _ _ _ => pts_nil) (fun _ _ _ _ _ => (pe_callB (r := rSum K) (cr_sum rfl) (by rfl) T.sum (by decide +kernel) (pa_cons (pe_lc (own := [("one", 3), ("other", 4)]) (g := gTup K 2 (gCons (gName 3) (gCons (gName 4) gNil))) (by rfl) sc_stepped.nd (pi_zipK (K := K) rfl (by rfl) T.zip (pa_cons (pv 2) (pa_cons (pv 1) pa_nil))) (blkOk_by (own := [("one", 3), ("other", 4)]) (N := N_stepped) (sc := relS (lcSc (retE ((defBody s_stepped).getD 0 (.Pass ⟨0, 0, 0, 0⟩)))) (defScope s_stepped)) (by decide +kernel)) (fun _ _ _ _ _ => (pg_tup rfl (pgs_cons (pg_name (i := 3) sc_stepped.nd rfl (.inl rfl)) (pgs_cons (pg_name (i := 4) sc_stepped.nd rfl (.inl rfl)) pgs_nil)))) (fun _ _ _ _ _ => pts_nil) (fun _ _ _ _ _ => (pe_op op_mulW (pv 3) (pv 4)))) pa_nil)))))), def_ret hF hrep fin ?_⟩
    refine Rt_ret (E_is (E_of_EO (EO_lc1 (xs := m) (emb := intsD) (f := fun r => .int (List.zipWith (· * ·) r ns).sum) (W_list (E_var rfl)) (fun r hr1 => E_sum (E_is (E_of_EO (EO_lc2 (xs := List.zip r ns) (e1 := fun x => .int x.1) (e2 := fun x => .int x.2) (f := fun x => .int (x.1 * x.2)) (W_is (W_zip (E_var rfl) (E_var rfl) ?_) ?_) (fun x hx => E_mul (E_var rfl) (E_var rfl) ?_) ?_)) ?_)) ?_)) ?_)
    · rw [List.length_map, List.length_map]; exact h1 r hr1
    · rw [List.zipWith_map, List.zip, List.map_zipWith]
    · obtain ⟨a1, a2⟩ := List.of_mem_zip (a := x.1) (b := x.2) hx
      exact wide_mul (h4 r hr1 _ a1) (h5 _ a2) (by decide) (by decide) (by decide)
    · rw [List.length_zip]; omega
    · rw [List.zip, List.map_zipWith, List.map_zipWith]
    · omega
    · unfold intsD mulM
      rw [List.map_map]; rfl


/-- the numbers of each year -/
def numsM (m : List (List Int)) (ns : List Int) : Nat → List Int
  | 0 => ns
  | t + 1 => mulM m (numsM m ns t)
theorem numsM_length {m : List (List Int)} {ns : List Int} (h : m.length = ns.length) : ∀ t, (numsM m ns t).length = ns.length
  | 0 => rfl
  | t + 1 => by
    show (mulM m (numsM m ns t)).length = _
    unfold mulM
    rw [List.length_map]; exact h
theorem natAbs_sum_le {B : Nat} : ∀ l : List Int, (∀ x ∈ l, x.natAbs ≤ B) → l.sum.natAbs ≤ l.length * B
  | [], _ => by simp
  | x :: l, h => by
    have ih := natAbs_sum_le l fun y hy => h y (List.mem_cons_of_mem _ hy)
    have hx := h x List.mem_cons_self
    rw [List.sum_cons, List.length_cons, Nat.succ_mul]
    have := Int.natAbs_add_le x l.sum
    omega
theorem mem_zipW {f : Int → Int → Int} {y : Int} : ∀ {r s : List Int}, y ∈ List.zipWith f r s → ∃ a, a ∈ r ∧ ∃ b, b ∈ s ∧ y = f a b
  | [], _, h => by simp at h
  | _ :: _, [], h => by simp at h
  | a :: r, b :: s, h => by
    rw [List.zipWith_cons_cons] at h
    rcases List.mem_cons.mp h with h | h
    · exact ⟨a, List.mem_cons_self, b, List.mem_cons_self, h⟩
    · obtain ⟨x, h1, z, h2, h3⟩ := mem_zipW h
      exact ⟨x, List.mem_cons_of_mem _ h1, z, List.mem_cons_of_mem _ h2, h3⟩
theorem numsM_bound {m : List (List Int)} {ns : List Int} (hl : ns.length ≤ 6) (hm : ∀ r ∈ m, ∀ x ∈ r, x.natAbs < 2 ^ 60) (hn : ∀ x ∈ ns, x.natAbs ≤ 1) (he : m.length = ns.length) : ∀ t, ∀ x ∈ numsM m ns t, x.natAbs ≤ 2 ^ (63 * t)
  | 0 => fun x hx => hn x hx
  | t + 1 => fun x hx => by
    have ih := numsM_bound hl hm hn he t
    obtain ⟨r, hr, rfl⟩ := List.mem_map.mp (show x ∈ m.map fun r => (List.zipWith (· * ·) r (numsM m ns t)).sum from hx)
    have h1 : ∀ y ∈ List.zipWith (· * ·) r (numsM m ns t), y.natAbs ≤ 2 ^ 60 * 2 ^ (63 * t) := fun y hy => by
      obtain ⟨a, a1, b, a2, rfl⟩ := mem_zipW hy
      rw [Int.natAbs_mul]
      exact Nat.mul_le_mul (Nat.le_of_lt (hm r hr _ a1)) (ih _ a2)
    refine Nat.le_trans (natAbs_sum_le _ h1) ?_
    have h2 : (List.zipWith (· * ·) r (numsM m ns t)).length ≤ 2 ^ 3 := by
      rw [List.length_zipWith, numsM_length he]
      omega
    refine Nat.le_trans (Nat.mul_le_mul_right _ h2) ?_
    rw [← Nat.pow_add, ← Nat.pow_add]
    exact Nat.pow_le_pow_right (by decide) (by omega)
theorem atI_range {f : Nat → D} {n : Nat} : atI ((List.range (n + 1)).map f) (-1) = some (f n) := by
  rw [List.range_succ, List.map_append]
  exact atI_last _ _
theorem atI_map {f : Nat → D} {n i : Nat} (h : i < n) : atI ((List.range n).map f) (i : Int) = some (f i) := atI_nat (by rw [List.getElem?_map, List.getElem?_range h]; rfl)

abbrev s_over_years : Stmt := topS 21
abbrev N_over_years : List Str := ["rows", "below", "start", "start_below", "years", "made", "year", "numbers", "under"]
theorem sc_over_years : FnScope N_over_years ["rows", "below", "start", "start_below", "years"] (defScope s_over_years) := ⟨rfl, rfl, rfl, by decide +kernel, rfl, by decide +kernel, by decide +kernel⟩
def R_over_years : List D → D → Prop := fun ds d => ∃ (m : List (List Int)) (b : Int) (ns : List Int) (y : Nat), ds = [matD m, .int b, intsD ns, .int 1, intD y] ∧ (∀ r ∈ m, r.length = ns.length) ∧ m.length = ns.length ∧ ns.length ≤ 6 ∧ (∀ r ∈ m, ∀ x ∈ r, x.natAbs < 2 ^ 60) ∧
  (∀ x ∈ ns, x.natAbs ≤ 1) ∧ b.natAbs < 2 ^ 60 ∧ y ≤ 20 ∧ d = .list ((List.range (y + 1)).map fun t => yearD (numsM m ns t) (b ^ t))
theorem ok_over_years {P : Program} {w : World} {K : PySem.W.Frag} {mg : Str → Option Value} {base : Heap} (T : Bl mg) (c_stepped : Callee P w K mg base 1 "stepped" ["rows", "numbers"] (SpR R_stepped)) {f : Addr} {fd : FuncData} (F : Fun K "over_years" "over_years" s_over_years f fd) : FnOk P w K mg base CX0 2 f fd ["rows", "below", "start", "start_below", "years"] (SpR R_over_years) := by
  refine F.ok sc_over_years (fun vs H Q E h => ?_) (fun cdv A outer s H vs Q E hr h => ?_)
  · obtain ⟨_, _, _, _, r, ⟨m, b, ns, y, rfl, h1, h2, h3, h4, h5, h6, h7, rfl⟩, _⟩ := h
    exact r.len
  · obtain ⟨F0, ds, d, hF, hrep, ⟨m, b, ns, y, rfl, h1, h2, h3, h4, h5, h6, h7, rfl⟩, fin⟩ := h
    refine ⟨_, (pss_cons (ps_set (i := 5) sc_over_years.nd rfl (.inl rfl) (pe_lst (pa_cons (pe_tup (pa_cons (pe_callTy (r := rListOf K) call_list_of (by rfl) T.list (by decide +kernel) (pa_cons (pv 2) pa_nil)) (pa_cons (pv 3) pa_nil))) pa_nil))) (pss_cons (ps_for PassesOwn.never rfl (pi_range1 rfl T.range (pa_cons (pv 4) pa_nil)) (pg_name (i := 6) sc_over_years.nd rfl (.inl rfl)) (pss_cons (ps_asg (pe_ix (r := rIx K) ix_seq (pv 5) (pe_un un_neg pe_int) (fun _ _ => rfl)) (pg_tup rfl (pgs_cons (pg_name (i := 7) sc_over_years.nd rfl (.inl rfl)) (pgs_cons (pg_name (i := 8) sc_over_years.nd rfl (.inl rfl)) pgs_nil)))) (pss_one (ps_expr (pe_bm PySem.F.plainAttrs_list PySem.F.slot_list_append PySem.F.type_list_append mt_append (pv 5) (pa_cons (pe_tup (pa_cons (pe_callC c_stepped hr (by decide) (by rfl) (pa_cons (pv 0) (pa_cons (pv 7) pa_nil))) (pa_cons (pe_op op_mulW (pv 8) (pv 1)) pa_nil))) pa_nil)))))) (pss_one (ps_ret (pv 5))))), def_ret hF hrep fin ?_⟩
    have hbt : ∀ t, (b ^ t).natAbs ≤ 2 ^ (60 * t) := fun t => by
      rw [Int.natAbs_pow, Nat.pow_mul]
      exact Nat.pow_le_pow_left (Nat.le_of_lt h6) t
    have e0 : (List.range (0 + 1)).map (fun t => yearD (numsM m ns t) (b ^ t)) = [yearD ns 1] := by
      show [yearD ns (b ^ 0)] = _
      rw [Int.pow_zero]
    refine Rt_seq (N_asgO (EO_lst (EA_cons (E_tup (EA_cons (E_of_EO (EO_listL (E_var rfl))) (EA_cons (E_var rfl) EA_nil)) l2) EA_nil) l1))
      (Rt_seq (N_forR (n := y) (fun i => [some (.d (matD m)), some (.d (.int b)), some (.d (intsD ns)), some (.d (.int 1)), some (.d (intD y)), some (.o ((List.range (i + 1)).map fun t => yearD (numsM m ns t) (b ^ t))), none, none, none]) (E_var rfl) (by omega) (congrArg (fun l : List D => [some (Sl.d (matD m)), some (Sl.d (.int b)), some (Sl.d (intsD ns)), some (Sl.d (.int 1)), some (Sl.d (intD y)), some (Sl.o l), none, none, none]) e0)
        (fun i hi => N_seq (N_asg2 (K := K) (d := intsD (numsM m ns i)) (e := .int (b ^ i)) (E_ixO (k := 5) rfl (E_neg E_int) atI_range))
          (N_wk (N_app rfl (E_tup (EA_cons (E_call (EA_cons (E_var rfl) (EA_cons (E_var rfl) EA_nil)) ⟨m, numsM m ns i, rfl, ?_, ?_, ?_, ?_, ?_, rfl⟩) (EA_cons (E_mul (E_var rfl) (E_var rfl) ?_) EA_nil)) l2) ?_) (.same rfl (.same rfl (.same rfl (.same rfl (.same rfl (.same ?_ (.drop (.drop (.drop .nil))))))))))))
      (Rt_ret (E_var rfl)))
    · rw [numsM_length h2]; exact h1
    · omega
    · rw [numsM_length h2]; omega
    · exact fun r hr x hx => Nat.lt_of_lt_of_le (h4 r hr x hx) (Nat.pow_le_pow_right (by decide) (by decide))
    · exact fun x hx => Nat.lt_of_le_of_lt (numsM_bound h3 h4 h5 h2 i x hx) (Nat.pow_lt_pow_right (by decide) (by omega))
    · exact wide_mul (a := 60 * 20 + 1) (b := 60) (Nat.lt_of_le_of_lt (hbt i) (Nat.pow_lt_pow_right (by decide) (by omega))) h6 (by decide) (by decide) (by decide)
    · rw [List.length_map, List.length_range]; omega
    · rw [List.range_succ (n := i + 1), List.map_append, List.map_cons, List.map_nil, Int.pow_succ]; rfl


/-- the wine of each year of what c is, at the end of the year y -/
def yearsD (c : Nat → Rat) (y : Nat) : D := .list (((List.range (y + 1)).filter fun b => decide (0 < c (y - b))).map fun b => pairD (intD b) (fr (c (y - b))))
theorem qd_pos {a b : Int} (hb : 0 < b) : 0 < qd a b ↔ 0 < a := by
  rw [Rat.lt_iff]
  have e : (0 : Rat).num * ((qd a b).den : Int) < (qd a b).num * ((0 : Rat).den : Int) ↔ 0 < (qd a b).num := by simp
  rw [e, qd_num hb]
  have hg : 0 < Nat.gcd a.natAbs b.natAbs := Nat.gcd_pos_of_pos_right _ (by omega)
  have hd : ((Nat.gcd a.natAbs b.natAbs : Nat) : Int) ∣ a := Int.ofNat_dvd_left.mpr (Nat.gcd_dvd_left _ _)
  obtain ⟨k, hk⟩ := hd
  have hg' : (0 : Int) < ((Nat.gcd a.natAbs b.natAbs : Nat) : Int) := by omega
  constructor
  · intro h
    have := Int.ediv_mul_cancel (Int.ofNat_dvd_left.mpr (Nat.gcd_dvd_left a.natAbs b.natAbs))
    rw [← this]
    exact Int.mul_pos h hg'
  · intro h
    exact Int.ediv_pos_of_pos_of_dvd h (by omega) (Int.ofNat_dvd_left.mpr (Nat.gcd_dvd_left _ _))

abbrev s_by_years : Stmt := topS 22
abbrev N_by_years : List Str := ["series", "cask", "year", "found", "born", "numbers", "under"]
theorem sc_by_years : FnScope N_by_years ["series", "cask", "year"] (defScope s_by_years) := ⟨rfl, rfl, rfl, by decide +kernel, rfl, by decide +kernel, by decide +kernel⟩
def R_by_years : List D → D → Prop := fun ds d => ∃ (xs : Nat → List Int) (u : Nat → Int) (n k y : Nat), ds = [.list ((List.range n).map fun t => yearD (xs t) (u t)), intD k, intD y] ∧ y < n ∧ y ≤ 1000 ∧ (∀ t, t ≤ y → k < (xs t).length) ∧ (∀ t, t ≤ y → 0 < u t ∧ (u t).natAbs < 2 ^ 8000) ∧
  d = yearsD (fun t => qd ((xs t).getD k 0) (u t)) y
theorem ok_by_years {P : Program} {w : World} {K : PySem.W.Frag} {mg : Str → Option Value} {base : Heap} (T : Bl mg) (c_fraction : Callee P w K mg base 1 "fraction" ["above", "below"] (SpR R_fraction)) {f : Addr} {fd : FuncData} (F : Fun K "by_years" "by_years" s_by_years f fd) : FnOk P w K mg base CX0 2 f fd ["series", "cask", "year"] (SpR R_by_years) := by
  refine F.ok sc_by_years (fun vs H Q E h => ?_) (fun cdv A outer s H vs Q E hr h => ?_)
  · obtain ⟨_, _, _, _, r, ⟨xs, u, n, k, y, rfl, h1, hy, h2, h3, rfl⟩, _⟩ := h
    exact r.len
  · obtain ⟨F0, ds, d, hF, hrep, ⟨xs, u, n, k, y, rfl, h1, hy, h2, h3, rfl⟩, fin⟩ := h
    refine ⟨_, (pss_cons (ps_set (i := 3) sc_by_years.nd rfl (.inl rfl) (pe_lst pa_nil)) (pss_cons (ps_for PassesOwn.never rfl (pi_range1 rfl T.range (pa_cons (pe_op op_add (pv 2) pe_int) pa_nil)) (pg_name (i := 4) sc_by_years.nd rfl (.inl rfl)) (pss_cons (ps_asg (pe_ix (r := rIx K) ix_seq (pv 0) (pe_op op_sub (pv 2) (pv 4)) (fun _ _ => rfl)) (pg_tup rfl (pgs_cons (pg_name (i := 5) sc_by_years.nd rfl (.inl rfl)) (pgs_cons (pg_name (i := 6) sc_by_years.nd rfl (.inl rfl)) pgs_nil)))) (pss_one (ps_if (pt_cmpR op_gt (pe_ix (r := rIx K) ix_seq (pv 5) (pv 1) (fun _ _ => rfl)) pe_int (nomark _)) (pss_one (ps_expr (pe_bm PySem.F.plainAttrs_list PySem.F.slot_list_append PySem.F.type_list_append mt_append (pv 3) (pa_cons (pe_tup (pa_cons (pv 4) (pa_cons (pe_callC c_fraction hr (by decide) (by rfl) (pa_cons (pe_ix (r := rIx K) ix_seq (pv 5) (pv 1) (fun _ _ => rfl)) (pa_cons (pv 6) pa_nil))) pa_nil))) pa_nil)))) pss_nil)))) (pss_one (ps_ret (pv 3))))), def_ret hF hrep fin ?_⟩
    have hat : ∀ t, t ≤ y → atI ((xs t).map PyData.int) (k : Int) = some (.int ((xs t).getD k 0)) := fun t ht => by
      refine atI_nat ?_
      rw [List.getElem?_map, List.getD_eq_getElem?_getD, List.getElem?_eq_getElem (h2 t ht)]; rfl
    refine Rt_seq (N_asgO (EO_lst EA_nil l0))
      (Rt_seq (N_forR (n := y + 1) (fun i => [some (.d (.list ((List.range n).map fun t => yearD (xs t) (u t)))), some (.d (intD k)), some (.d (intD y)), some (.o (((List.range i).filter fun b => decide (0 < qd ((xs (y - b)).getD k 0) (u (y - b)))).map fun b => pairD (intD b) (fr (qd ((xs (y - b)).getD k 0) (u (y - b)))))), none, none, none]) (E_is (E_add (E_var rfl) E_int) rfl) (by omega) rfl
        (fun i hi => N_seq (N_asg2 (K := K) (d := intsD (xs (y - i))) (e := .int (u (y - i))) (E_ixL (E_var rfl) (E_sub (E_var rfl) (E_var rfl)) ?_)) ?_))
      (Rt_ret (E_var rfl)))
    · have e : ((y : Int) - (i : Int)) = ((y - i : Nat) : Int) := by omega
      show atI _ ((y : Int) - (i : Int)) = _
      rw [e]
      exact atI_map (f := fun t => yearD (xs t) (u t)) (by omega)
    · have hu := h3 (y - i) (by omega)
      by_cases hp : 0 < qd ((xs (y - i)).getD k 0) (u (y - i))
      · refine N_if_t (T_is (T_test (E_gt (E_ixL (E_var rfl) (E_var rfl) (hat (y - i) (by omega))) E_int)) (decide_eq_true ((qd_pos hu.1).mp hp))) (N_wk (N_app rfl (E_tup (EA_cons (E_var rfl) (EA_cons (E_call (EA_cons (E_ixL (E_var rfl) (E_var rfl) (hat (y - i) (by omega))) (EA_cons (E_var rfl) EA_nil)) ⟨_, _, rfl, hu.1, hu.2, rfl⟩) EA_nil)) l2) ?_) (.same rfl (.same rfl (.same rfl (.same ?_ (.drop (.drop (.drop .nil))))))))
        · rw [List.length_map]
          refine Nat.lt_of_le_of_lt (List.length_filter_le _ _) ?_
          rw [List.length_range]; omega
        · rw [List.range_succ, List.filter_append, List.map_append, List.filter_cons, if_pos (decide_eq_true hp)]; rfl
      · refine N_if_f (T_is (T_test (E_gt (E_ixL (E_var rfl) (E_var rfl) (hat (y - i) (by omega))) E_int)) (decide_eq_false fun z => hp ((qd_pos hu.1).mpr z))) (N_wk N_next (.same rfl (.same rfl (.same rfl (.same ?_ (.drop (.drop (.drop .nil))))))))
        rw [List.range_succ, List.filter_append, List.map_append, List.filter_cons, if_neg (by rw [decide_eq_false hp]; decide)]
        simp

end Cal
set_option Elab.async false
set_option linter.all false
set_option maxRecDepth 100000
set_option maxHeartbeats 4000000
namespace Cal
open PySem PySem.Spec PyProof.Rows L2

/-! ### sums of fractions -/
theorem qd_add {p q : Rat} : qd (p.num * (q.den : Int) + q.num * (p.den : Int)) ((p.den : Int) * (q.den : Int)) = p + q := by
  have hp := p.den_pos
  have hq := q.den_pos
  have e := Rat.divInt_add_divInt p.num q.num (d₁ := (p.den : Int)) (d₂ := (q.den : Int)) (by omega) (by omega)
  rw [Rat.num_divInt_den, Rat.num_divInt_den] at e
  exact e.symm
theorem qd_mul {p q : Rat} : qd (p.num * q.num) ((p.den : Int) * (q.den : Int)) = p * q := by
  have e := Rat.divInt_mul_divInt p.num q.num (d₁ := (p.den : Int)) (d₂ := (q.den : Int))
  rw [Rat.num_divInt_den, Rat.num_divInt_den] at e
  exact e.symm
/-- how great the integers of a fraction are -/
structure Sz (n d : Nat) (q : Rat) : Prop where
  num : q.num.natAbs < 2 ^ n
  den : q.den < 2 ^ d
theorem Sz.mono {n d n' d' : Nat} {q : Rat} (h : Sz n d q) (h1 : n ≤ n') (h2 : d ≤ d') : Sz n' d' q :=
  ⟨Nat.lt_of_lt_of_le h.num (Nat.pow_le_pow_right (by decide) h1), Nat.lt_of_lt_of_le h.den (Nat.pow_le_pow_right (by decide) h2)⟩
theorem qd_sz {a b : Int} {n d : Nat} (hb : 0 < b) (h1 : a.natAbs < 2 ^ n) (h2 : b.natAbs < 2 ^ d) : Sz n d (qd a b) := by
  have hg : 0 < Nat.gcd a.natAbs b.natAbs := Nat.gcd_pos_of_pos_right _ (by omega)
  constructor
  · rw [qd_num hb, Int.natAbs_ediv_of_dvd (Int.ofNat_dvd_left.mpr (Nat.gcd_dvd_left _ _)), Int.natAbs_natCast]
    exact Nat.lt_of_le_of_lt (Nat.div_le_self _ _) h1
  · have e := qd_den (a := a) hb
    have e2 : (qd a b).den = b.natAbs / Nat.gcd a.natAbs b.natAbs := by
      have h3 : b = ((b.natAbs : Nat) : Int) := by omega
      rw [h3] at e
      rw [Int.natAbs_natCast] at e
      have h4 : (((qd (a) ((b.natAbs : Nat) : Int)).den : Nat) : Int) = ((b.natAbs / Nat.gcd a.natAbs b.natAbs : Nat) : Int) := e
      rw [← h3] at h4
      exact Int.ofNat.inj h4
    rw [e2]
    exact Nat.lt_of_le_of_lt (Nat.div_le_self _ _) h2
theorem pow_add_lt {x y a b : Nat} (hx : x < 2 ^ a) (hy : y < 2 ^ b) : x * y < 2 ^ (a + b) := by
  rw [Nat.pow_add]
  exact Nat.mul_lt_mul'' hx hy
theorem Sz.plus {n d n' d' : Nat} {p q : Rat} (h : Sz n d p) (h' : Sz n' d' q) : Sz (n + d' + (n' + d)) (d + d') (p + q) := by
  rw [← qd_add]
  have hp := p.den_pos
  have hq := q.den_pos
  refine qd_sz (Int.mul_pos (by omega) (by omega)) ?_ ?_
  · have h1 : (p.num * (q.den : Int)).natAbs < 2 ^ (n + d') := by
      rw [Int.natAbs_mul, Int.natAbs_natCast]; exact pow_add_lt h.num h'.den
    have h2 : (q.num * (p.den : Int)).natAbs < 2 ^ (n' + d) := by
      rw [Int.natAbs_mul, Int.natAbs_natCast]; exact pow_add_lt h'.num h.den
    have h3 := Int.natAbs_add_le (p.num * (q.den : Int)) (q.num * (p.den : Int))
    generalize (p.num * (q.den : Int)).natAbs = x at *
    generalize (q.num * (p.den : Int)).natAbs = y at *
    have e : 2 ^ (n + d' + (n' + d)) = 2 ^ (n + d') * 2 ^ (n' + d) := Nat.pow_add _ _ _
    rw [e]
    generalize 2 ^ (n + d') = A at *
    generalize 2 ^ (n' + d) = C at *
    have h4 : (x + 1) * (y + 1) ≤ A * C := Nat.mul_le_mul h1 h2
    have h5 : (x + 1) * (y + 1) = x * y + x + y + 1 := by rw [Nat.add_mul, Nat.mul_add]; omega
    omega
  · rw [Int.natAbs_mul, Int.natAbs_natCast, Int.natAbs_natCast]; exact pow_add_lt h.den h'.den
theorem Sz.times {n d n' d' : Nat} {p q : Rat} (h : Sz n d p) (h' : Sz n' d' q) : Sz (n + n') (d + d') (p * q) := by
  rw [← qd_mul]
  have hp := p.den_pos
  have hq := q.den_pos
  refine qd_sz (Int.mul_pos (by omega) (by omega)) ?_ ?_
  · rw [Int.natAbs_mul]; exact pow_add_lt h.num h'.num
  · rw [Int.natAbs_mul, Int.natAbs_natCast, Int.natAbs_natCast]; exact pow_add_lt h.den h'.den
theorem Sz.mulOk {n d n' d' : Nat} {p q : Rat} (h : Sz n d p) (h' : Sz n' d' q) (hs : n + n' + d + d' ≤ 900000) (h0 : 0 < n ∧ 0 < n' ∧ 0 < d ∧ 0 < d') :
    CMulW p.num q.num ∧ CMulW p.num (q.den : Int) ∧ CMulW (p.den : Int) (q.den : Int) ∧ CMulW q.num (p.den : Int) := by
  have a1 : ((p.den : Int)).natAbs < 2 ^ d := by rw [Int.natAbs_natCast]; exact h.den
  have a2 : ((q.den : Int)).natAbs < 2 ^ d' := by rw [Int.natAbs_natCast]; exact h'.den
  exact ⟨wide_mul h.num h'.num (by omega) (by omega) (by omega), wide_mul h.num a2 (by omega) (by omega) (by omega), wide_mul a1 a2 (by omega) (by omega) (by omega), wide_mul h'.num a1 (by omega) (by omega) (by omega)⟩
theorem sum_take_succ {qs : List Rat} {i : Nat} (h : i < qs.length) : (qs.take (i + 1)).sum = (qs.take i).sum + qs.getD i 0 := by
  rw [List.take_add_one, List.getElem?_eq_getElem h, M.sum_append, List.getD_eq_getElem?_getD, List.getElem?_eq_getElem h]
  show _ + (qs[i] + 0) = _ + qs[i]
  grind
theorem sum_sz {qs : List Rat} (h : ∀ q ∈ qs, Sz 64 64 q) : ∀ i, i ≤ qs.length → Sz (4200 * i + 1) (64 * i + 1) (qs.take i).sum ∨ 64 < i
  | 0, _ => .inl (by rw [List.take_zero]; exact ⟨by decide, by decide⟩)
  | i + 1, hi => by
    by_cases h64 : 64 < i + 1
    · exact .inr h64
    · rcases sum_sz h i (by omega) with ih | ih
      · rw [sum_take_succ (by omega)]
        have hq : qs.getD i 0 ∈ qs := by
          rw [List.getD_eq_getElem?_getD, List.getElem?_eq_getElem (by omega)]
          exact List.getElem_mem _
        exact .inl ((ih.plus (h _ hq)).mono (by omega) (by omega))
      · omega

abbrev s_sum_of : Stmt := topS 14
abbrev N_sum_of : List Str := ["fractions", "part", "total"]
theorem sc_sum_of : FnScope N_sum_of ["fractions"] (defScope s_sum_of) := ⟨rfl, rfl, rfl, by decide +kernel, rfl, by decide +kernel, by decide +kernel⟩
def R_sum_of : List D → D → Prop := fun ds d => ∃ qs : List Rat, ds = [.list (qs.map fr)] ∧ qs.length ≤ 10 ∧ (∀ q ∈ qs, Sz 64 64 q) ∧ d = fr qs.sum
theorem ok_sum_of {P : Program} {w : World} {K : PySem.W.Frag} {mg : Str → Option Value} {base : Heap} (T : Bl mg) (c_fraction : Callee P w K mg base 1 "fraction" ["above", "below"] (SpR R_fraction)) (c_need_fraction : Callee P w K mg base 3 "need_fraction" ["value"] (SpR R_need_fraction)) {f : Addr} {fd : FuncData} (F : Fun K "sum_of" "sum_of" s_sum_of f fd) : FnOk P w K mg base CX0 4 f fd ["fractions"] (SpR R_sum_of) := by
  refine F.ok sc_sum_of (fun vs H Q E h => ?_) (fun cdv A outer s H vs Q E hr h => ?_)
  · obtain ⟨_, _, _, _, r, ⟨qs, rfl, hl, hz, rfl⟩, _⟩ := h
    exact r.len
  · obtain ⟨F0, ds, d, hF, hrep, ⟨qs, rfl, hl, hz, rfl⟩, fin⟩ := h
    refine ⟨_, (pss_cons (ps_for PassesOwn.never rfl (pi_list (pv 0)) (pg_name (i := 1) sc_sum_of.nd rfl (.inl rfl)) (pss_one (ps_expr (pe_callC c_need_fraction hr (by decide) (by rfl) (pa_cons (pv 1) pa_nil))))) (pss_cons (ps_set (i := 2) sc_sum_of.nd rfl (.inl rfl) (pe_tup (pa_cons pe_int (pa_cons pe_int pa_nil)))) (pss_cons (ps_for PassesOwn.never rfl (pi_list (pv 0)) (pg_name (i := 1) sc_sum_of.nd rfl (.inl rfl)) (pss_one (ps_set (i := 2) sc_sum_of.nd rfl (.inl rfl) (pe_callC c_fraction hr (by decide) (by rfl) (pa_cons (pe_op op_add (pe_op op_mulW (pe_ix (r := rIx K) ix_seq (pv 2) pe_int (fun _ _ => rfl)) (pe_ix (r := rIx K) ix_seq (pv 1) pe_int (fun _ _ => rfl))) (pe_op op_mulW (pe_ix (r := rIx K) ix_seq (pv 1) pe_int (fun _ _ => rfl)) (pe_ix (r := rIx K) ix_seq (pv 2) pe_int (fun _ _ => rfl)))) (pa_cons (pe_op op_mulW (pe_ix (r := rIx K) ix_seq (pv 2) pe_int (fun _ _ => rfl)) (pe_ix (r := rIx K) ix_seq (pv 1) pe_int (fun _ _ => rfl))) pa_nil)))))) (pss_one (ps_ret (pv 2)))))), def_ret hF hrep fin ?_⟩
    have hsz : ∀ i, i < qs.length → Sz 42001 701 (qs.take i).sum ∧ Sz 64 64 (qs.getD i 0) := fun i hi => by
      refine ⟨?_, hz _ ?_⟩
      · rcases sum_sz hz i (by omega) with h | h
        · exact h.mono (by omega) (by omega)
        · omega
      · rw [List.getD_eq_getElem?_getD, List.getElem?_eq_getElem hi]
        exact List.getElem_mem _
    refine Rt_seq (N_for1 (xs := qs) (emb := fr) 0 (fun i => [some (.d (.list (qs.map fr))), none, none]) (W_list (E_var rfl)) rfl (fun i hi => N_wk (N_drop (E_call (EA_cons (E_var rfl) EA_nil) ⟨_, rfl, rfl⟩)) (.same rfl (.drop (.same rfl .nil)))))
      (Rt_seq (N_asg (E_tup (EA_cons E_int (EA_cons E_int EA_nil)) l2))
      (Rt_seq (N_for1 (xs := qs) (emb := fr) 0 (fun i => [some (.d (.list (qs.map fr))), none, some (.d (fr (qs.take i).sum))]) (W_list (E_var rfl)) ?_ (fun i hi => N_wk (N_asg (E_call (EA_cons (E_add (E_mul (E_ixT (E_var rfl) E_int rfl) (E_ixT (E_var rfl) E_int rfl) ?_) (E_mul (E_ixT (E_var rfl) E_int rfl) (E_ixT (E_var rfl) E_int rfl) ?_)) (EA_cons (E_mul (E_ixT (E_var rfl) E_int rfl) (E_ixT (E_var rfl) E_int rfl) ?_) EA_nil)) ⟨_, _, rfl, ?_, ?_, rfl⟩)) (.same rfl (.drop (.same ?_ .nil)))))
      (Rt_ret (E_is (E_var rfl) ?_))))
    · rfl
    · exact ((hsz i hi).1.mulOk (hsz i hi).2 (by decide) (by decide)).2.1
    · exact ((hsz i hi).1.mulOk (hsz i hi).2 (by decide) (by decide)).2.2.2
    · exact ((hsz i hi).1.mulOk (hsz i hi).2 (by decide) (by decide)).2.2.1
    · have h1 := ((qs.take i).sum).den_pos
      have h2 := (qs.getD i 0).den_pos
      exact Int.mul_pos (by omega) (by omega)
    · rw [Int.natAbs_mul, Int.natAbs_natCast, Int.natAbs_natCast]
      exact Nat.lt_of_lt_of_le (pow_add_lt (hsz i hi).1.den (hsz i hi).2.den) (Nat.pow_le_pow_right (by decide) (by decide))
    · rw [qd_add, sum_take_succ hi]
    · rw [List.take_length]

abbrev s_is_row : Stmt := topS 24
abbrev N_is_row : List Str := ["value", "share"]
theorem sc_is_row : FnScope N_is_row ["value"] (defScope s_is_row) := ⟨rfl, rfl, rfl, by decide +kernel, rfl, by decide +kernel, by decide +kernel⟩
def R_is_row : List D → D → Prop := fun ds d => ∃ r : List Rat, Row r ∧ ds = [rowD r] ∧ d = .bool true
theorem ok_is_row {P : Program} {w : World} {K : PySem.W.Frag} {mg : Str → Option Value} {base : Heap} (T : Bl mg) (c_is_share : Callee P w K mg base 3 "is_share" ["value"] (SpR R_is_share)) {f : Addr} {fd : FuncData} (F : Fun K "is_row" "is_row" s_is_row f fd) : FnOk P w K mg base CX0 4 f fd ["value"] (SpR R_is_row) := by
  refine F.ok sc_is_row (fun vs H Q E h => ?_) (fun cdv A outer s H vs Q E hr h => ?_)
  · obtain ⟨_, _, _, _, r, ⟨r, hr0, rfl, rfl⟩, _⟩ := h
    exact r.len
  · obtain ⟨F0, ds, d, hF, hrep, ⟨r, hr0, rfl, rfl⟩, fin⟩ := h
    refine ⟨_, (pss_cons (ps_if (PW.pt (pw_or (pt_not (pt_val (pe_callB (r := rIsi K) call_isi (by rfl) T.isinstance (by decide +kernel) (pa_cons (pv 0) (pa_cons (pe_bltn (v := .ty "tuple") (by rfl) T.tuple (by decide +kernel) rfl) pa_nil))))) (pw_or1 (pt_not (pt_chain op_le op_le pe_int (pe_callB (r := rLenS K) call_len_seq (by rfl) T.len (by decide +kernel) (pa_cons (pv 0) pa_nil)) pe_int))))) (pss_one (ps_ret pe_bl)) pss_nil) (pss_one (ps_ret (pe_callB (r := rAll K) (cr_all rfl) (by rfl) T.all (by decide +kernel) (pa_cons (pe_lc (own := [("share", 1)]) (g := gName 1) (by rfl) sc_is_row.nd (pi_tup (pv 0)) (blkOk_by (own := [("share", 1)]) (N := N_is_row) (sc := defScope s_is_row) (by decide +kernel)) (fun _ _ _ _ _ => (pg_name (i := 1) sc_is_row.nd rfl (.inl rfl))) (fun _ _ _ _ _ => pts_nil) (fun _ _ _ _ _ => (pe_and (pe_callC c_is_share hr (by decide) (by rfl) (pa_cons (pv 1) pa_nil)) (pe_one (pe_cmpR op_gt (pe_ix (r := rIx K) ix_seq (pv 1) pe_int (fun _ _ => rfl)) pe_int (nomark _)))))) pa_nil))))), def_ret hF hrep fin ?_⟩
    have e1 : decide ((1 : Int) ≤ ((r.map fr).length : Int)) = true := decide_eq_true (by rw [List.length_map]; have := hr0.l1; omega)
    have e2 : decide (((r.map fr).length : Int) ≤ 6) = true := decide_eq_true (by rw [List.length_map]; have := hr0.l6; omega)
    refine Rt_seq (N_if_f (T_is (T_or (T_not (T_B (E_isiT (E_var rfl) kit_tt))) (fun _ => T_not (T_test (E_chainLe E_int (E_lenT (E_var rfl)) E_int)))) ?_) N_next)
      (Rt_ret (E_is (E_all (bs := r.map fun _ => true) (E_is (E_of_EO (EO_lc1 (xs := r) (emb := fr) (f := fun _ => .bool true) (W_tup (E_var rfl)) (fun p hp => E_is (E_and (E_call (EA_cons (E_var rfl) EA_nil) ⟨p, rfl, Rat.le_of_lt (hr0.sh p hp).1, (hr0.sh p hp).2, rfl⟩) (fun _ => E_gt (E_ixT (E_var rfl) E_int rfl) E_int)) ?_) ?_)) ?_)) ?_))
    · rw [e1, e2]; rfl
    · have h1 : (0 : Int) < p.num := by
        have := (Rat.lt_iff 0 p).mp (hr0.sh p hp).1
        simpa using this
      rw [decide_eq_true h1]; rfl
    · have := hr0.l6; omega
    · rw [List.map_map]; rfl
    · congr 1
      rw [List.all_eq_true]
      intro x hx
      obtain ⟨_, _, rfl⟩ := List.mem_map.mp hx
      rfl

abbrev s_need_row : Stmt := topS 25
abbrev N_need_row : List Str := ["row"]
theorem sc_need_row : FnScope N_need_row ["row"] (defScope s_need_row) := ⟨rfl, rfl, rfl, by decide +kernel, rfl, by decide +kernel, by decide +kernel⟩
def R_need_row : List D → D → Prop := fun ds d => ∃ r : List Rat, Row r ∧ ds = [rowD r] ∧ d = .none
theorem ok_need_row {P : Program} {w : World} {K : PySem.W.Frag} {mg : Str → Option Value} {base : Heap} (T : Bl mg) (c_is_row : Callee P w K mg base 4 "is_row" ["value"] (SpR R_is_row)) {f : Addr} {fd : FuncData} (F : Fun K "need_row" "need_row" s_need_row f fd) : FnOk P w K mg base CX0 5 f fd ["row"] (SpR R_need_row) := by
  refine F.ok sc_need_row (fun vs H Q E h => ?_) (fun cdv A outer s H vs Q E hr h => ?_)
  · obtain ⟨_, _, _, _, r, ⟨r, hr0, rfl, rfl⟩, _⟩ := h
    exact r.len
  · obtain ⟨F0, ds, d, hF, hrep, ⟨r, hr0, rfl, rfl⟩, fin⟩ := h
    refine ⟨_, (pss_one (ps_if (pt_not (pt_val (pe_callC c_is_row hr (by decide) (by rfl) (pa_cons (pv 0) pa_nil)))) (pss_one ps_never) pss_nil)), def_non' hF hrep fin ?_⟩
    exact ⟨_, N_if_f (T_is (T_not (T_B (E_call (EA_cons (E_var rfl) EA_nil) ⟨r, hr0, rfl, rfl⟩))) rfl) N_next⟩

abbrev s_limits : Stmt := topS 33
abbrev N_limits : List Str := ["row", "above", "below"]
theorem sc_limits : FnScope N_limits ["row"] (defScope s_limits) := ⟨rfl, rfl, rfl, by decide +kernel, rfl, by decide +kernel, by decide +kernel⟩
def R_limits : List D → D → Prop := fun ds d => ∃ r : List Rat, Row r ∧ ds = [rowD r] ∧ d = .tuple ((r.map fun p => p⁻¹).map fr)
theorem inv_fr {p : Rat} (h : 0 < p) : fr p⁻¹ = .tuple [.int (p.den : Int), .int p.num] := by
  have h1 : (0 : Int) < p.num := by
    have := (Rat.lt_iff 0 p).mp h
    simpa using this
  unfold fr
  rw [Rat.num_inv, Rat.den_inv, if_neg (by omega), Int.sign_eq_one_of_pos h1, Int.one_mul]
  rw [Int.natAbs_of_nonneg (by omega)]
theorem ok_limits {P : Program} {w : World} {K : PySem.W.Frag} {mg : Str → Option Value} {base : Heap} (T : Bl mg) (c_need_row : Callee P w K mg base 5 "need_row" ["row"] (SpR R_need_row)) {f : Addr} {fd : FuncData} (F : Fun K "limits" "limits" s_limits f fd) : FnOk P w K mg base CX0 6 f fd ["row"] (SpR R_limits) := by
  refine F.ok sc_limits (fun vs H Q E h => ?_) (fun cdv A outer s H vs Q E hr h => ?_)
  · obtain ⟨_, _, _, _, r, ⟨r, hr0, rfl, rfl⟩, _⟩ := h
    exact r.len
  · obtain ⟨F0, ds, d, hF, hrep, ⟨r, hr0, rfl, rfl⟩, fin⟩ := h
    refine ⟨_, (pss_cons (ps_expr (pe_callC c_need_row hr (by decide) (by rfl) (pa_cons (pv 0) pa_nil))) (pss_one (ps_ret (pe_tupleOf (by rfl) T.tuple (pe_lc (own := [("above", 1), ("below", 2)]) (g := gTup K 2 (gCons (gName 1) (gCons (gName 2) gNil))) (by rfl) sc_limits.nd (pi_tup (pv 0)) (blkOk_by (own := [("above", 1), ("below", 2)]) (N := N_limits) (sc := defScope s_limits) (by decide +kernel)) (fun _ _ _ _ _ => (pg_tup rfl (pgs_cons (pg_name (i := 1) sc_limits.nd rfl (.inl rfl)) (pgs_cons (pg_name (i := 2) sc_limits.nd rfl (.inl rfl)) pgs_nil)))) (fun _ _ _ _ _ => pts_nil) (fun _ _ _ _ _ => (pe_tup (pa_cons (pv 2) (pa_cons (pv 1) pa_nil))))))))), def_ret hF hrep fin ?_⟩
    refine Rt_seq (N_drop (E_call (EA_cons (E_var rfl) EA_nil) ⟨r, hr0, rfl, rfl⟩)) (Rt_ret (E_is (E_tupleL (E_of_EO (EO_lc2 (xs := r) (e1 := fun p => .int p.num) (e2 := fun p => .int (p.den : Int)) (f := fun p => fr p⁻¹) (W_tup (E_var rfl)) (fun p hp => E_is (E_tup (EA_cons (E_var rfl) (EA_cons (E_var rfl) EA_nil)) l2) (inv_fr (hr0.sh p hp).1).symm) ?_))) ?_))
    · have := hr0.l6; omega
    · rw [List.map_map]; rfl


theorem share_sz {r : List Rat} (h : Row r) {p : Rat} (hp : p ∈ r) : 0 < p.num ∧ p.num ≤ (p.den : Int) ∧ p.den ≤ 1000 := by
  have h1 : (0 : Int) < p.num := by
    have := (Rat.lt_iff 0 p).mp (h.sh p hp).1
    simpa using this
  have e1 : p.num ≤ ((p.den : Nat) : Int) := by simpa using (Rat.le_iff p 1).mp (h.sh p hp).2
  exact ⟨h1, e1, h.den p hp⟩
def meanQ (r : List Rat) : Rat := (r.map fun p => p⁻¹).sum
def spQ (p : Rat) : Rat := qd (((p.den : Int) - p.num) * (p.den : Int)) (p.num * p.num)
def spreadQ (r : List Rat) : Rat := (r.map spQ).sum
theorem meanQ_append (a b : List Rat) : meanQ (a ++ b) = meanQ a + meanQ b := by unfold meanQ; rw [List.map_append, M.sum_append]
theorem spreadQ_append (a b : List Rat) : spreadQ (a ++ b) = spreadQ a + spreadQ b := by unfold spreadQ; rw [List.map_append, M.sum_append]

abbrev s_mean_age : Stmt := topS 35
abbrev N_mean_age : List Str := ["row"]
theorem sc_mean_age : FnScope N_mean_age ["row"] (defScope s_mean_age) := ⟨rfl, rfl, rfl, by decide +kernel, rfl, by decide +kernel, by decide +kernel⟩
def R_mean_age : List D → D → Prop := fun ds d => ∃ r : List Rat, Row r ∧ ds = [rowD r] ∧ d = fr (meanQ r)
theorem ok_mean_age {P : Program} {w : World} {K : PySem.W.Frag} {mg : Str → Option Value} {base : Heap} (T : Bl mg) (c_limits : Callee P w K mg base 6 "limits" ["row"] (SpR R_limits)) (c_sum_of : Callee P w K mg base 4 "sum_of" ["fractions"] (SpR R_sum_of)) {f : Addr} {fd : FuncData} (F : Fun K "mean_age" "mean_age" s_mean_age f fd) : FnOk P w K mg base CX0 7 f fd ["row"] (SpR R_mean_age) := by
  refine F.ok sc_mean_age (fun vs H Q E h => ?_) (fun cdv A outer s H vs Q E hr h => ?_)
  · obtain ⟨_, _, _, _, r, ⟨r, hr0, rfl, rfl⟩, _⟩ := h
    exact r.len
  · obtain ⟨F0, ds, d, hF, hrep, ⟨r, hr0, rfl, rfl⟩, fin⟩ := h
    refine ⟨_, (pss_one (ps_ret (pe_callC c_sum_of hr (by decide) (by rfl) (pa_cons (pe_callTy (r := rListOf K) call_list_of (by rfl) T.list (by decide +kernel) (pa_cons (pe_callC c_limits hr (by decide) (by rfl) (pa_cons (pv 0) pa_nil)) pa_nil)) pa_nil)))), def_ret hF hrep fin ?_⟩
    refine Rt_ret (E_call (EA_cons (E_of_EO (EO_listT (E_call (EA_cons (E_var rfl) EA_nil) ⟨r, hr0, rfl, rfl⟩))) EA_nil) ⟨_, rfl, ?_, ?_, rfl⟩)
    · rw [List.length_map]; have := hr0.l6; omega
    · intro q hq
      obtain ⟨p, hp, rfl⟩ := List.mem_map.mp hq
      have := share_sz hr0 hp
      constructor
      · rw [Rat.num_inv, Int.sign_eq_one_of_pos this.1]; omega
      · rw [Rat.den_inv, if_neg (by omega)]; omega

abbrev s_spread : Stmt := topS 36
abbrev N_spread : List Str := ["row", "above", "below"]
theorem sc_spread : FnScope N_spread ["row"] (defScope s_spread) := ⟨rfl, rfl, rfl, by decide +kernel, rfl, by decide +kernel, by decide +kernel⟩
def R_spread : List D → D → Prop := fun ds d => ∃ r : List Rat, Row r ∧ ds = [rowD r] ∧ d = fr (spreadQ r)
theorem sp_small {r : List Rat} (h : Row r) {p : Rat} (hp : p ∈ r) : (0 : Int) < p.num * p.num ∧ (p.num * p.num).natAbs < 2 ^ 64 ∧ ((((p.den : Int) - p.num) * (p.den : Int))).natAbs < 2 ^ 64 ∧ ((p.den : Int) - p.num).natAbs < 2 ^ 64 := by
  have hs := share_sz h hp
  refine ⟨Int.mul_pos hs.1 hs.1, ?_, ?_, by omega⟩
  · rw [Int.natAbs_mul]
    exact Nat.lt_of_le_of_lt (Nat.mul_le_mul (show p.num.natAbs ≤ 1000 by omega) (show p.num.natAbs ≤ 1000 by omega)) (by decide)
  · rw [Int.natAbs_mul]
    exact Nat.lt_of_le_of_lt (Nat.mul_le_mul (show ((p.den : Int) - p.num).natAbs ≤ 1000 by omega) (show ((p.den : Int)).natAbs ≤ 1000 by omega)) (by decide)
theorem ok_spread {P : Program} {w : World} {K : PySem.W.Frag} {mg : Str → Option Value} {base : Heap} (T : Bl mg) (c_fraction : Callee P w K mg base 1 "fraction" ["above", "below"] (SpR R_fraction)) (c_need_row : Callee P w K mg base 5 "need_row" ["row"] (SpR R_need_row)) (c_sum_of : Callee P w K mg base 4 "sum_of" ["fractions"] (SpR R_sum_of)) {f : Addr} {fd : FuncData} (F : Fun K "spread" "spread" s_spread f fd) : FnOk P w K mg base CX0 6 f fd ["row"] (SpR R_spread) := by
  refine F.ok sc_spread (fun vs H Q E h => ?_) (fun cdv A outer s H vs Q E hr h => ?_)
  · obtain ⟨_, _, _, _, r, ⟨r, hr0, rfl, rfl⟩, _⟩ := h
    exact r.len
  · obtain ⟨F0, ds, d, hF, hrep, ⟨r, hr0, rfl, rfl⟩, fin⟩ := h
    refine ⟨_, (pss_cons (ps_expr (pe_callC c_need_row hr (by decide) (by rfl) (pa_cons (pv 0) pa_nil))) (pss_one (ps_ret (pe_callC c_sum_of hr (by decide) (by rfl) (pa_cons (pe_lc (own := [("above", 1), ("below", 2)]) (g := gTup K 2 (gCons (gName 1) (gCons (gName 2) gNil))) (by rfl) sc_spread.nd (pi_tup (pv 0)) (blkOk_by (own := [("above", 1), ("below", 2)]) (N := N_spread) (sc := defScope s_spread) (by decide +kernel)) (fun _ _ _ _ _ => (pg_tup rfl (pgs_cons (pg_name (i := 1) sc_spread.nd rfl (.inl rfl)) (pgs_cons (pg_name (i := 2) sc_spread.nd rfl (.inl rfl)) pgs_nil)))) (fun _ _ _ _ _ => pts_nil) (fun _ _ _ _ _ => (pe_callC c_fraction hr (by decide) (by rfl) (pa_cons (pe_op op_mulW (pe_op op_sub (pv 2) (pv 1)) (pv 2)) (pa_cons (pe_op op_mulW (pv 1) (pv 1)) pa_nil))))) pa_nil))))), def_ret hF hrep fin ?_⟩
    refine Rt_seq (N_drop (E_call (EA_cons (E_var rfl) EA_nil) ⟨r, hr0, rfl, rfl⟩)) (Rt_ret (E_call (EA_cons (E_of_EO (EO_lc2 (xs := r) (e1 := fun p => .int p.num) (e2 := fun p => .int (p.den : Int)) (f := fun p => fr (spQ p)) (W_tup (E_var rfl)) (fun p hp => E_call (EA_cons (E_mul (E_sub (E_var rfl) (E_var rfl)) (E_var rfl) ?_) (EA_cons (E_mul (E_var rfl) (E_var rfl) ?_) EA_nil)) ⟨_, _, rfl, ?_, ?_, rfl⟩) ?_)) EA_nil) ⟨r.map spQ, ?_, ?_, ?_, rfl⟩))
    · have := share_sz hr0 hp
      exact wide_mul (a := 64) (b := 64) (sp_small hr0 hp).2.2.2 (by omega) (by decide) (by decide) (by decide)
    · have := share_sz hr0 hp
      exact wide_mul (a := 64) (b := 64) (by omega) (by omega) (by decide) (by decide) (by decide)
    · exact (sp_small hr0 hp).1
    · exact Nat.lt_of_lt_of_le (sp_small hr0 hp).2.1 (Nat.pow_le_pow_right (by decide) (by decide))
    · have := hr0.l6; omega
    · rw [List.map_map]; rfl
    · rw [List.length_map]; have := hr0.l6; omega
    · intro q hq
      obtain ⟨p, hp, rfl⟩ := List.mem_map.mp hq
      exact qd_sz (sp_small hr0 hp).1 (sp_small hr0 hp).2.2.1 (sp_small hr0 hp).2.1

end Cal
set_option Elab.async false
set_option linter.all false
set_option maxRecDepth 100000
set_option maxHeartbeats 4000000
namespace Cal
open PySem PySem.Spec PyProof.Rows L2
/-! ### a list of lists of one's own: the table of a year of a row -/
/-- since H: at p a list of the lists qs, which hold m -/
structure Rows (H H' : Hp) (p : Addr) (qs : List Addr) (m : List (List Int)) : Prop where
  ext : Same H H'
  pn : H p = none
  qn : ∀ q ∈ qs, H q = none
  pq : p ∉ qs
  nd : qs.Nodup
  len : qs.length = m.length
  at_ : H' p = some (.lst (qs.map V.ref))
  it : ∀ (j : Nat) q r, qs[j]? = some q → m[j]? = some r → H' q = some (.lst (r.map V.int))
theorem Rows.same {H H' H2 : Hp} {p : Addr} {qs : List Addr} {m : List (List Int)} (h : Rows H H' p qs m) (e : Same H' H2) : Rows H H2 p qs m :=
  ⟨h.ext.trans e, h.pn, h.qn, h.pq, h.nd, h.len, e _ _ h.at_, fun j q r a b => e _ _ (h.it j q r a b)⟩
/-- one more list -/
theorem Rows.push {H H' H2 : Hp} {p q : Addr} {qs : List Addr} {m : List (List Int)} {r : List Int} (h : Rows H H' p qs m) (e : Same H' H2) (n : H' q = none) (hq : H2 q = some (.lst (r.map V.int))) :
    Rows H (upd H2 p (.lst (qs.map V.ref ++ [V.ref q]))) p (qs ++ [q]) (m ++ [r]) := by
  have npq : p ≠ q := fun z => by have := h.at_; rw [z, n] at this; cases this
  have old : ∀ (j : Nat) x, qs[j]? = some x → x ≠ q ∧ x ≠ p := fun j x hx => by
    have hm := List.mem_of_getElem? hx
    refine ⟨fun z => ?_, fun z => h.pq (z ▸ hm)⟩
    have hj : j < m.length := by rw [← h.len]; exact (List.getElem?_eq_some_iff.mp hx).1
    have := h.it j x _ hx (List.getElem?_eq_getElem hj)
    rw [z, n] at this; cases this
  refine ⟨fun b o hb => ?_, h.pn, fun x hx => ?_, fun hx => ?_, ?_, ?_, ?_, fun j x s hx hs => ?_⟩
  · rw [upd_ne (ne_of_none hb h.pn)]
    exact e _ _ (h.ext _ _ hb)
  · rcases List.mem_append.mp hx with hx | hx
    · exact h.qn x hx
    · have : x = q := by simpa using hx
      rw [this]; exact h.ext.free n
  · rcases List.mem_append.mp hx with hx | hx
    · exact h.pq hx
    · exact npq (by simpa using hx)
  · rw [List.nodup_append]
    refine ⟨h.nd, by simp, fun a ha b hb => ?_⟩
    have : b = q := by simpa using hb
    subst this
    obtain ⟨j, hj⟩ := List.getElem?_of_mem ha
    exact (old j a hj).1
  · rw [List.length_append, List.length_append, h.len]; rfl
  · rw [upd_same, List.map_append]; rfl
  · by_cases hj : j < qs.length
    · rw [List.getElem?_append_left hj] at hx
      rw [List.getElem?_append_left (by rw [← h.len]; exact hj)] at hs
      rw [upd_ne (old j x hx).2]
      exact e _ _ (h.it j x s hx hs)
    · have ej : j = qs.length := by
        have := (List.getElem?_eq_some_iff.mp hx).1
        rw [List.length_append] at this
        simp at this; omega
      subst ej
      rw [List.getElem?_concat_length] at hx
      rw [h.len, List.getElem?_concat_length] at hs
      cases hx; cases hs
      rw [upd_ne (Ne.symm npq)]
      exact hq
/-- a place of one of the lists is stored -/
theorem Rows.set {H H' : Hp} {p q : Addr} {qs : List Addr} {m : List (List Int)} {r : List Int} {k j : Nat} {z : Int} (h : Rows H H' p qs m) (hq : qs[k]? = some q) (hr : m[k]? = some r) :
    Rows H (upd H' q (.lst ((r.map V.int).set j (.int z)))) p qs (m.set k (r.set j z)) := by
  have hm := List.mem_of_getElem? hq
  have npq : p ≠ q := fun e => h.pq (e ▸ hm)
  have hk : k < qs.length := (List.getElem?_eq_some_iff.mp hq).1
  refine ⟨fun b o hb => ?_, h.pn, h.qn, h.pq, h.nd, by rw [List.length_set]; exact h.len, by rw [upd_ne npq]; exact h.at_, fun i x s hx hs => ?_⟩
  · rw [upd_ne (ne_of_none hb (h.qn q hm))]
    exact h.ext _ _ hb
  · by_cases hi : i = k
    · subst hi
      rw [hq] at hx
      cases hx
      rw [List.getElem?_set_self (by rw [← h.len]; exact hk)] at hs
      cases hs
      rw [upd_same, List.map_set]
    · rw [List.getElem?_set_ne (Ne.symm hi)] at hs
      have hne : x ≠ q := fun e => by
        subst e
        have hi2 : i < qs.length := (List.getElem?_eq_some_iff.mp hx).1
        have e1 : qs[i] = x := by have := List.getElem?_eq_getElem hi2; rw [hx] at this; exact (Option.some.inj this).symm
        have e2 : qs[k] = x := by have := List.getElem?_eq_getElem hk; rw [hq] at this; exact (Option.some.inj this).symm
        have hp := List.pairwise_iff_getElem.mp h.nd
        rcases Nat.lt_or_gt_of_ne hi with z | z
        · exact hp i k hi2 hk z (e1.trans e2.symm)
        · exact hp k i hk hi2 z (e2.trans e1.symm)
      rw [upd_ne hne]
      exact h.it i x s hx hs
/-- as data -/
theorem Rows.rp {H H' : Hp} {p : Addr} {qs : List Addr} {m : List (List Int)} {G : Own} (h : Rows H H' p qs m) (hG : In G H) : Rp G H' (.ref p) (matD m) := by
  have key : ∀ (qs : List Addr) (m : List (List Int)), qs.length = m.length → (∀ q ∈ qs, H q = none) → (∀ (j : Nat) q r, qs[j]? = some q → m[j]? = some r → H' q = some (.lst (r.map V.int))) → Rps G H' (qs.map V.ref) (m.map intsD) := by
    intro qs
    induction qs with
    | nil =>
      intro m hl _ _
      cases m with
      | nil => exact .nil
      | cons _ _ => cases hl
    | cons q qs ih =>
      intro m hl hn hi
      cases m with
      | nil => cases hl
      | cons r m =>
        exact .cons (.lst (fun z => hG q z (hn q List.mem_cons_self)) (.inl (hi 0 q r rfl rfl)) (Rps.ofInts r)) (ih m (Nat.succ.inj hl) (fun x hx => hn x (List.mem_cons_of_mem _ hx)) fun j x s h1 h2 => hi (j + 1) x s h1 h2)
  exact .lst (fun z => hG p z h.pn) (.inl h.at_) (key qs m h.len h.qn h.it)
/-- the k-th row -/
def rowAt (n : Nat) (L : Int) (as : List Int) (k : Nat) : List Int :=
  if 0 < k then ((List.replicate n 0).set k (L - as.getD k 0)).set (k - 1) (as.getD (k - 1) 0) else (List.replicate n 0).set k (L - as.getD k 0)
def matOf (n : Nat) (L : Int) (as : List Int) : List (List Int) := (List.range n).map (rowAt n L as)
/-- .. behind i turns -/
def matAt (n : Nat) (L : Int) (as : List Int) (i : Nat) : List (List Int) := (List.range n).map fun j => if j < i then rowAt n L as j else List.replicate n 0
theorem matAt_zero (n : Nat) (L : Int) (as : List Int) : matAt n L as 0 = List.replicate n (List.replicate n 0) := by
  unfold matAt
  refine List.ext_getElem (by simp) fun i h1 h2 => ?_
  simp
theorem matAt_full (n : Nat) (L : Int) (as : List Int) : matAt n L as n = matOf n L as := by
  unfold matAt matOf
  refine List.map_congr_left fun j hj => ?_
  rw [if_pos (List.mem_range.mp hj)]
theorem matAt_get {n : Nat} {L : Int} {as : List Int} {i : Nat} (h : i < n) : (matAt n L as i)[i]? = some (List.replicate n 0) := by
  unfold matAt
  rw [List.getElem?_map, List.getElem?_range h]
  simp
theorem matAt_succ {n : Nat} {L : Int} {as : List Int} {i : Nat} (h : i < n) : (matAt n L as i).set i (rowAt n L as i) = matAt n L as (i + 1) := by
  unfold matAt
  refine List.ext_getElem (by simp) fun j h1 h2 => ?_
  rw [List.getElem_set]
  by_cases e : i = j
  · subst e
    simp
  · rw [if_neg e]
    simp only [List.getElem_map, List.getElem_range]
    by_cases hj : j < i
    · rw [if_pos hj, if_pos (by omega)]
    · rw [if_neg hj, if_neg (by omega)]
theorem EnvR.mk' {G : Own} {σ σ' : L2.St} {H H' : Hp} {ρ ρ' : Rho} (h : EnvR G σ H ρ) (e : Same H H') (hl : σ'.length = ρ'.length) (hk : ∀ (i : Nat) s, ρ'[i]? = some (some s) → (ρ[i]? = some (some s) ∧ σ'[i]? = σ[i]?) ∨ ∃ v, σ'[i]? = some (some v) ∧ SlotR G H' s v) : EnvR G σ' H' ρ' :=
  ⟨hl, fun i s q => by
    rcases hk i s q with ⟨h1, h2⟩ | h2
    · obtain ⟨v, a, b⟩ := h.at_ i s h1
      exact ⟨v, h2.trans a, b.same e⟩
    · exact h2⟩
abbrev tRows1 (K : PySem.W.Frag) : TS := tAsg (tLc (iTup K (tVar 0)) (gName 5) tYes (tOp rRep (tLst (tCons (tC (.int 0)) tNil)) (tCB (rLenS K) (tCons (tVar 0) tNil))) [5]) (gName 3)
abbrev tSubI (ta tb : TE) : TE := tOp (rI0 fun i j => .int (i - j)) ta tb
abbrev tRows2 (K : PySem.W.Frag) : TS := tFor (iRng1 (tCons (tCB (rLenS K) (tCons (tVar 0) tNil)) tNil)) (gName 4)
  (tSeq (tAsg (tSubI (tVar 1) (tOp (rIx K) (tVar 2) (tVar 4))) (gSub (tOp (rIx K) (tVar 3) (tVar 4)) (tVar 4) rSetL))
    (tIfS (tTest (tOp (rI0 fun i j => .bl (decide (j < i))) (tVar 4) (tC (.int 0)))) (tAsg (tOp (rIx K) (tVar 2) (tSubI (tVar 4) (tC (.int 1)))) (gSub (tOp (rIx K) (tVar 3) (tVar 4)) (tSubI (tVar 4) (tC (.int 1))) rSetL)) tNext))
theorem N_rows {K : PySem.W.Frag} {r : List Rat} {L : Int} {as : List Int} (hn : r.length ≤ 6) (ha : as.length = r.length) :
    N (tSeq (tRows1 K) (tRows2 K)) [some (.d (rowD r)), some (.d (.int L)), some (.d (intsD as)), none, none, none] [some (.d (rowD r)), some (.d (.int L)), some (.d (intsD as)), some (.d (matD (matOf r.length L as))), none, none] := by
  intro F H0 σ H D ⟨G, s⟩ q
  have hl6 : σ.length = 6 := s.env.len
  obtain ⟨v0, hv0, hr0⟩ := s.env.at_ 0 _ rfl
  have hrow : Rp G H v0 (.tuple (r.map fr)) := hr0
  obtain ⟨a, xs, rfl, hx, hxs⟩ : ∃ a xs, v0 = .ref a ∧ Rd H a (.tup xs) ∧ Rps G H xs (r.map fr) := by
    cases hrow with
    | tup h1 h2 h3 => exact ⟨_, _, rfl, h2, h3⟩
  have hxl : xs.length = r.length := by rw [hxs.len, List.length_map]
  refine ⟨.ref a, hv0, a, rfl, ⟨xs, .inl hx⟩, fun p hp => lc_tup (K := K) (a := a) (xs := xs) (fun i H' => ∃ qs, Rows H H' p qs (List.replicate i (List.replicate r.length 0))) ?_ ?_ ?_ ?_⟩
  · exact ⟨[], ⟨same_new hp, hp, (fun _ h => nomatch h), (fun h => nomatch h), List.Pairwise.nil, rfl, upd_same, fun j q r h => by simp at h⟩⟩
  · rintro i H' _ ⟨qs, R⟩
    exact .inl (rd_keep (fun o => R.ext _ _) hx)
  · rintro i x H' hi ⟨qs, R⟩
    have env2 : EnvR G ((L2.wipe σ [5]).set 5 (some x)) H' [some (.d (rowD r)), none, none, none, none, none] := by
      refine (s.env.wipe [5]).mk' R.ext (by simp [L2.wipe_length, hl6]) fun i s h => ?_
      match i, h with
      | 0, h => exact .inl ⟨h, by rw [List.getElem?_set_ne (by decide)]⟩
      | 1, h => exact absurd h (by simp)
      | 2, h => exact absurd h (by simp)
      | 3, h => exact absurd h (by simp)
      | 4, h => exact absurd h (by simp)
      | 5, h => exact absurd h (by simp)
      | i + 6, h => exact absurd h (by simp)
    show L2.wipe ((L2.wipe σ [5]).set 5 (some x)) [5] = L2.wipe σ [5] ∧ _
    refine ⟨by rw [wipe_set (by simp), wipe_idem fun i h => h], ?_⟩
    show tOp rRep (tLst (tCons (tC (.int 0)) tNil)) (tCB (rLenS K) (tCons (tVar 0) tNil)) _ _ _
    have ee : EO (tOp rRep (tLst (tCons (tC (.int 0)) tNil)) (tCB (rLenS K) (tCons (tVar 0) tNil))) [some (.d (rowD r)), none, none, none, none, none] (List.replicate r.length [PyData.int 0]).flatten :=
      EO_rep (EO_lst (EA_cons E_int EA_nil) l1) (E_is (E_lenT (ds := r.map fr) (E_var rfl)) (by rw [List.length_map])) (by simp; omega) (by omega)
    refine ee G _ H' (s.inn.same R.ext) env2 _ fun p' ys H4 s4 n4 h4 r4 => ⟨qs.map V.ref, s4 _ _ R.at_, ?_, qs ++ [p'], ?_⟩
    · rw [List.length_map, R.len, List.length_replicate]
      have := (List.getElem?_eq_some_iff.mp hi).1
      exact sz1 (by omega)
    · have e1 : (List.replicate r.length [PyData.int 0]).flatten = (List.replicate r.length (0 : Int)).map PyData.int := by rw [rep_one, List.map_replicate]
      rw [e1] at r4
      have e2 := r4.ints
      subst e2
      have e3 : List.replicate (i + 1) (List.replicate r.length (0 : Int)) = List.replicate i (List.replicate r.length 0) ++ [List.replicate r.length 0] := by rw [List.replicate_succ']
      rw [e3]
      exact R.push s4 n4 h4
  · rintro H1 ⟨qs, R⟩
    rw [hxl, ← matAt_zero r.length L as] at R
    -- the loop
    show tRows2 K D (σ.set 3 (some (.ref p))) H1
    have envAt : ∀ {σ' : L2.St} {H' : Hp}, σ'.length = 6 → (∀ j, j ≠ 3 → j ≠ 4 → σ'[j]? = σ[j]?) → Same H H' → ∀ k : Int, EnvR G (σ'.set 4 (some (.int k))) H' [some (.d (rowD r)), some (.d (.int L)), some (.d (intsD as)), none, some (.d (.int k)), none] := fun {σ' H'} h6 hk e k => by
      refine s.env.mk' e (by simp [h6]) fun i sl h => ?_
      match i, h with
      | 0, h => exact .inl ⟨h, by rw [List.getElem?_set_ne (by decide)]; exact hk 0 (by decide) (by decide)⟩
      | 1, h => exact .inl ⟨h, by rw [List.getElem?_set_ne (by decide)]; exact hk 1 (by decide) (by decide)⟩
      | 2, h => exact .inl ⟨h, by rw [List.getElem?_set_ne (by decide)]; exact hk 2 (by decide) (by decide)⟩
      | 4, h =>
        cases h
        exact .inr ⟨.int k, by rw [List.getElem?_set_self (by omega)], .int k⟩
      | 3, h => exact absurd h (by simp)
      | 5, h => exact absurd h (by simp)
      | i + 6, h => exact absurd h (by simp)
    have env1 : EnvR G (σ.set 3 (some (.ref p))) H1 [some (.d (rowD r)), none, none, none, none, none] := by
      refine s.env.mk' R.ext (by simp [hl6]) fun i sl h => ?_
      match i, h with
      | 0, h => exact .inl ⟨h, by rw [List.getElem?_set_ne (by decide)]⟩
      | 1, h => exact absurd h (by simp)
      | 2, h => exact absurd h (by simp)
      | 3, h => exact absurd h (by simp)
      | 4, h => exact absurd h (by simp)
      | 5, h => exact absurd h (by simp)
      | i + 6, h => exact absurd h (by simp)
    have el : E (tCB (rLenS K) (tCons (tVar 0) tNil)) [some (.d (rowD r)), none, none, none, none, none] (.int (r.length : Int)) := E_is (E_lenT (ds := r.map fr) (E_var rfl)) (by rw [List.length_map])
    refine el G _ H1 (s.inn.same R.ext) env1 _ fun v H2 s2 r2 => ?_
    cases r2
    refine ⟨(r.length : Int), rfl, by omega, by omega, ?_⟩
    rw [Int.toNat_natCast]
    refine for_range (lo := 0) (n := r.length) (fun i σ' H' => σ'.length = 6 ∧ (∀ j, j ≠ 3 → j ≠ 4 → σ'[j]? = σ[j]?) ∧ σ'[3]? = some (some (.ref p)) ∧ ∃ qs, Rows H H' p qs (matAt r.length L as i)) ?_ ?_ ?_
    · exact ⟨by simp [hl6], fun j h3 _ => List.getElem?_set_ne (Ne.symm h3), by rw [List.getElem?_set_self (by omega)], qs, R.same s2⟩
    · rintro i σ' H' hi ⟨h6, hk, h3, qs, R⟩
      show tSeq _ _ _ (σ'.set 4 (some (.int ((0 : Int) + (i : Int))))) H'
      rw [Int.zero_add]
      have env := envAt h6 hk R.ext (i : Int)
      have g4 : (σ'.set 4 (some (.int (i : Int))))[4]? = some (some (.int (i : Int))) := by rw [List.getElem?_set_self (by omega)]
      have g3 : (σ'.set 4 (some (.int (i : Int))))[3]? = some (some (.ref p)) := by rw [List.getElem?_set_ne (by decide)]; exact h3
      have hat : ∀ j, j < r.length → atI (as.map PyData.int) (j : Int) = some (.int (as.getD j 0)) := fun j hj => by
        refine atI_nat ?_
        rw [List.getElem?_map, List.getD_eq_getElem?_getD, List.getElem?_eq_getElem (by omega)]; rfl
      have hqlen : qs.length = r.length := by rw [R.len]; simp [matAt]
      have hq : qs[i]? = some (qs[i]'(by omega)) := List.getElem?_eq_getElem (by omega)
      generalize hqq : qs[i]'(by omega) = q1 at hq
      have rest : ∀ {H3 : Hp} {qs : List Addr}, Rows H H3 p qs (matAt r.length L as (i + 1)) → (σ'.set 4 (some (.int (i : Int)))).length = 6 ∧ (∀ j, j ≠ 3 → j ≠ 4 → (σ'.set 4 (some (.int (i : Int))))[j]? = σ[j]?) ∧ (σ'.set 4 (some (.int (i : Int))))[3]? = some (some (.ref p)) ∧ ∃ qs, Rows H H3 p qs (matAt r.length L as (i + 1)) :=
        fun {H3 qs} R3 => ⟨by simp [h6], fun j a b => by rw [List.getElem?_set_ne (Ne.symm b)]; exact hk j a b, g3, qs, R3⟩
      -- rows[k][k] = below - shares[k]
      have e1 : E (tSubI (tVar 1) (tOp (rIx K) (tVar 2) (tVar 4))) [some (.d (rowD r)), some (.d (.int L)), some (.d (intsD as)), none, some (.d (.int (i : Int))), none] (.int (L - as.getD i 0)) := E_sub (E_var rfl) (E_ixL (E_var rfl) (E_var rfl) (hat i hi))
      refine e1 G _ H' (s.inn.same R.ext) env _ fun v H3 s3 r3 => ?_
      cases r3
      have R3 := R.same s3
      have hit := R3.it i q1 _ hq (matAt_get hi)
      refine ⟨.ref p, g3, .int (i : Int), g4, .inl ⟨p, qs.map V.ref, (i : Int), .ref q1, rfl, rfl, .inl (.inl R3.at_), atI_nat (by rw [List.getElem?_map, hq]; rfl), .int (i : Int), g4, q1, _, (i : Int), i, rfl, rfl, hit, ?_, ?_⟩⟩
      · unfold ixN
        rw [if_pos (by omega), if_pos (by simp; omega)]
        simp
      · have R4 := R3.set (j := i) (z := L - as.getD i 0) hq (matAt_get hi)
        have env4 := envAt h6 hk R4.ext (i : Int)
        by_cases h0 : 0 < i
        · have et : T (tTest (tOp (rI0 fun i j => .bl (decide (j < i))) (tVar 4) (tC (.int 0)))) [some (.d (rowD r)), some (.d (.int L)), some (.d (intsD as)), none, some (.d (.int (i : Int))), none] true := T_is (T_test (E_gt (E_var rfl) E_int)) (decide_eq_true (by omega))
          refine et G _ _ (s.inn.same R4.ext) env4 _ fun H5 s5 => iteT ?_
          have R5 := R4.same s5
          have e2 : E (tOp (rIx K) (tVar 2) (tSubI (tVar 4) (tC (.int 1)))) [some (.d (rowD r)), some (.d (.int L)), some (.d (intsD as)), none, some (.d (.int (i : Int))), none] (.int (as.getD (i - 1) 0)) :=
            E_ixL (E_var rfl) (E_sub (E_var rfl) E_int) (by rw [show ((i : Int) - 1) = ((i - 1 : Nat) : Int) by omega]; exact hat (i - 1) (by omega))
          refine e2 G _ H5 (s.inn.same R5.ext) (envAt h6 hk R5.ext (i : Int)) _ fun v H6 s6 r6 => ?_
          cases r6
          have R6 := R5.same s6
          have hm : ((matAt r.length L as i).set i ((List.replicate r.length 0).set i (L - as.getD i 0)))[i]? = some ((List.replicate r.length 0).set i (L - as.getD i 0)) := by
            rw [List.getElem?_set_self (by simp [matAt]; exact hi)]
          have hit6 := R6.it i q1 _ hq hm
          refine ⟨.ref p, g3, .int (i : Int), g4, .inl ⟨p, qs.map V.ref, (i : Int), .ref q1, rfl, rfl, .inl (.inl R6.at_), atI_nat (by rw [List.getElem?_map, hq]; rfl), .int (i : Int), g4, (i : Int), 1, rfl, rfl, q1, _, (i : Int) - 1, i - 1, rfl, rfl, hit6, ?_, ?_⟩⟩
          · unfold ixN
            rw [if_pos (by omega), if_pos (by simp; omega)]
            congr 1
            omega
          · have R7 := R6.set (j := i - 1) (z := as.getD (i - 1) 0) hq hm
            rw [List.set_set] at R7
            have e : ((List.replicate r.length 0).set i (L - as.getD i 0)).set (i - 1) (as.getD (i - 1) 0) = rowAt r.length L as i := by
              unfold rowAt
              rw [if_pos h0]
            rw [e, matAt_succ hi] at R7
            exact rest R7
        · have et : T (tTest (tOp (rI0 fun i j => .bl (decide (j < i))) (tVar 4) (tC (.int 0)))) [some (.d (rowD r)), some (.d (.int L)), some (.d (intsD as)), none, some (.d (.int (i : Int))), none] false := T_is (T_test (E_gt (E_var rfl) E_int)) (decide_eq_false (by omega))
          refine et G _ _ (s.inn.same R4.ext) env4 _ fun H5 s5 => iteF ?_
          have R5 := R4.same s5
          have e : (List.replicate r.length 0).set i (L - as.getD i 0) = rowAt r.length L as i := by
            unfold rowAt
            rw [if_neg h0]
          rw [e, matAt_succ hi] at R5
          exact rest R5
    · rintro σ' H' ⟨h6, hk, h3, qs, R⟩
      rw [matAt_full] at R
      refine q σ' H' ⟨G, s.sub, s.inn.same R.ext, ?_, s.ext.trans R.ext, s.inF, s.new, fun i ds p h _ => ?_, fun i j ds es p h _ _ _ => ?_⟩
      · refine s.env.mk' R.ext (by simp [h6]) fun i sl h => ?_
        match i, h with
        | 0, h => exact .inl ⟨h, hk 0 (by decide) (by decide)⟩
        | 1, h => exact .inl ⟨h, hk 1 (by decide) (by decide)⟩
        | 2, h => exact .inl ⟨h, hk 2 (by decide) (by decide)⟩
        | 3, h =>
          cases h
          exact .inr ⟨_, h3, R.rp s.inn⟩
        | 4, h => exact absurd h (by simp)
        | 5, h => exact absurd h (by simp)
        | i + 6, h => exact absurd h (by simp)
      · exact absurd h (noOwn_at rfl)
      · exact absurd h (noOwn_at rfl)
theorem Rt_seq2 {t1 t2 u : TS} {ρ ρ1 : Rho} {d : D} (h : N (tSeq t1 t2) ρ ρ1) (h2 : Rt u ρ1 d) : Rt (tSeq t1 (tSeq t2 u)) ρ d := fun F H0 σ H D s q => h F H0 σ H { D with nx := u D } s fun σ' H' s' => h2 F H0 σ' H' D s' q
end Cal
set_option Elab.async false
set_option linter.all false
set_option maxRecDepth 100000
set_option maxHeartbeats 4000000
namespace Cal
open PySem PySem.Spec PyProof.Rows L2
/-! ### the integers of a row, and what they are worth -/
def matR (r : List Rat) : List (List Int) := matOf r.length (lcmD r : Int) (intsOf r)
def e1 (n : Nat) : List Int := 1 :: List.replicate (n - 1) 0
def numsR (r : List Rat) (t : Nat) : List Int := numsM (matR r) (e1 r.length) t
def LZ (r : List Rat) : Int := (lcmD r : Int)
theorem e1_length {n : Nat} (h : 1 ≤ n) : (e1 n).length = n := by unfold e1; simp; omega
theorem intsOf_length (r : List Rat) : (intsOf r).length = r.length := by unfold intsOf; rw [List.length_map]
theorem matOf_length (n : Nat) (L : Int) (as : List Int) : (matOf n L as).length = n := by unfold matOf; rw [List.length_map, List.length_range]
theorem rowAt_length (n : Nat) (L : Int) (as : List Int) (k : Nat) : (rowAt n L as k).length = n := by unfold rowAt; split <;> simp
theorem numsR_length {r : List Rat} (h : Row r) (t : Nat) : (numsR r t).length = r.length := by
  unfold numsR
  rw [numsM_length (by rw [e1_length h.l1]; exact matOf_length _ _ _), e1_length h.l1]
/-- a share over the number -/
theorem intsOf_cast {r : List Rat} (h : Row r) : (intsOf r).map (fun a : Int => (a : Rat)) = r.map fun p => p * ((lcmD r : Int) : Rat) := by
  unfold intsOf
  rw [List.map_map]
  refine List.map_congr_left fun p hp => ?_
  obtain ⟨k, hk⟩ := h.dvd hp
  have hd := p.den_pos
  show ((p.num * ((lcmD r : Int) / (p.den : Int)) : Int) : Rat) = p * ((lcmD r : Int) : Rat)
  have e2 : ((lcmD r : Nat) : Int) / (p.den : Int) = (k : Int) := by
    rw [hk, Int.natCast_mul]
    exact Int.mul_ediv_cancel_left _ (by omega)
  rw [e2, hk, Rat.intCast_mul, Int.natCast_mul, Rat.intCast_mul]
  have e3 : (p.num : Rat) = p * ((p.den : Int) : Rat) := by
    have h1 := Rat.num_divInt_den p
    rw [Rat.divInt_eq_div] at h1
    have h2 : (((p.den : Nat) : Int) : Rat) ≠ 0 := by
      intro z
      have := Rat.intCast_eq_zero_iff.mp z
      omega
    have h3 := Rat.div_mul_cancel (a := (p.num : Rat)) h2
    rw [← h3]
    show (p.num : Rat) / (((p.den : Nat) : Int) : Rat) * (((p.den : Nat) : Int) : Rat) = _
    rw [h1]
  rw [e3]
  grind
theorem mulM_stepL (L : Int) : ∀ (as xs : List Int), as.length = xs.length → as.length ≤ 6 → mulM (matOf as.length L as) xs = M.stepL L as xs 0 := by
  intro as xs h h6
  match as, xs, h with
  | [], [], _ => rfl
  | [a1], [x1], _ =>
    simp [mulM, matOf, rowAt, M.stepL, List.range, List.range.loop, List.replicate]
  | [a1, a2], [x1, x2], _ =>
    simp [mulM, matOf, rowAt, M.stepL, List.range, List.range.loop, List.replicate, Int.add_comm]
  | [a1, a2, a3], [x1, x2, x3], _ =>
    simp [mulM, matOf, rowAt, M.stepL, List.range, List.range.loop, List.replicate, Int.add_comm]
  | [a1, a2, a3, a4], [x1, x2, x3, x4], _ =>
    simp [mulM, matOf, rowAt, M.stepL, List.range, List.range.loop, List.replicate, Int.add_comm]
  | [a1, a2, a3, a4, a5], [x1, x2, x3, x4, x5], _ =>
    simp [mulM, matOf, rowAt, M.stepL, List.range, List.range.loop, List.replicate, Int.add_comm]
  | [a1, a2, a3, a4, a5, a6], [x1, x2, x3, x4, x5, x6], _ =>
    simp [mulM, matOf, rowAt, M.stepL, List.range, List.range.loop, List.replicate, Int.add_comm]
  | _ :: _ :: _ :: _ :: _ :: _ :: _ :: _, _, _ => simp at h6
theorem numsR_cast {r : List Rat} (h : Row r) : ∀ t, (numsR r t).map (fun x : Int => (x : Rat)) = (M.conts r M.delta).map fun g => g t * ((lcmD r : Int) : Rat) ^ t
  | 0 => by
    obtain ⟨p, r', rfl⟩ : ∃ p r', r = p :: r' := by
      cases r with
      | nil => have := h.l1; simp at this
      | cons p r' => exact ⟨p, r', rfl⟩
    show (e1 (r'.length + 1)).map (fun x : Int => (x : Rat)) = M.cont p M.delta 0 * _ ^ 0 :: (M.conts r' (M.out p M.delta)).map fun g => g 0 * _ ^ 0
    have e : (M.conts r' (M.out p M.delta)).map (fun g => g 0 * ((lcmD (p :: r') : Int) : Rat) ^ 0) = List.replicate r'.length 0 := by
      rw [← M.conts_length (M.out p M.delta) r', ← List.map_const']
      refine List.map_congr_left fun g hg => ?_
      rw [M.conts_zero r' (M.out p M.delta) rfl g hg, Rat.zero_mul]
    rw [e]
    unfold e1
    rw [List.map_cons, List.map_replicate, Nat.add_sub_cancel]
    show ((1 : Int) : Rat) :: _ = (1 : Rat) * _ ^ 0 :: _
    rw [Rat.pow_zero, Rat.mul_one]
    rfl
  | t + 1 => by
    have ih := numsR_cast h t
    have e : numsR r (t + 1) = M.stepL (lcmD r : Int) (intsOf r) (numsR r t) 0 := by
      show mulM (matR r) (numsM (matR r) (e1 r.length) t) = _
      have e2 := mulM_stepL (lcmD r : Int) (intsOf r) (numsR r t) (by rw [intsOf_length, numsR_length h]) (by rw [intsOf_length]; exact h.l6)
      rw [intsOf_length] at e2
      exact e2
    rw [e]
    exact M.stepL_ok M.delta (intsOf_cast h) ih (by show ((0 : Int) : Rat) = 0 * _; rw [Rat.zero_mul]; rfl)
theorem LZ_pos {r : List Rat} (h : Row r) (t : Nat) : (0 : Int) < (lcmD r : Int) ^ t := Int.pow_pos (by have := h.bound.1; omega)
theorem LZ_bits {r : List Rat} (h : Row r) (t : Nat) : (((lcmD r : Int)) ^ t).natAbs ≤ 2 ^ (60 * t) := by
  rw [Int.natAbs_pow, Nat.pow_mul, Int.natAbs_natCast]
  exact Nat.pow_le_pow_left (Nat.le_trans h.bound.2 (by decide)) t
theorem qd_cast {a b : Int} {x : Rat} (hb : 0 < b) (h : (a : Rat) = x * (b : Rat)) : qd a b = x := by
  rw [qd_eq, h]
  refine Rat.mul_div_cancel fun z => ?_
  have := Rat.intCast_eq_zero_iff.mp z
  omega
theorem getD_map {α β : Type} (f : α → β) (l : List α) (k : Nat) (d : α) (d' : β) (hk : k < l.length) : (l.map f).getD k d' = f (l.getD k d) := by
  rw [List.getD_eq_getElem?_getD, List.getD_eq_getElem?_getD, List.getElem?_map, List.getElem?_eq_getElem hk]; rfl
/-- a stage's amount -/
theorem stg_q {r : List Rat} (h : Row r) {k : Nat} (hk : k < r.length) (t : Nat) : qd ((numsR r t).getD k 0) ((lcmD r : Int) ^ t) = M.stg r k t := by
  refine qd_cast (LZ_pos h t) ?_
  have h1 : k < (numsR r t).length := by rw [numsR_length h]; exact hk
  have h2 : k < (M.conts r M.delta).length := by rw [M.conts_length]; exact hk
  rw [← getD_map (fun x : Int => (x : Rat)) (numsR r t) k 0 0 h1, numsR_cast h t, getD_map (fun g : Nat → Rat => g t * ((lcmD r : Int) : Rat) ^ t) (M.conts r M.delta) k (fun _ => 0) 0 h2, Rat.intCast_pow]
  rfl
theorem getLastD_map {α β : Type} (f : α → β) (l : List α) (d : α) (d' : β) (hl : l ≠ []) : (l.map f).getLastD d' = f (l.getLastD d) := by
  cases l with
  | nil => exact absurd rfl hl
  | cons a l =>
    rw [List.map_cons, List.getLastD_cons, List.getLastD_cons]
    induction l generalizing a with
    | nil => rfl
    | cons b l ih => rw [List.map_cons, List.getLastD_cons, List.getLastD_cons]; exact ih b (by simp)
/-- the tap's amount -/
theorem tap_q {r : List Rat} (h : Row r) (t : Nat) : qd ((numsR r t).getLastD 0 * (r.getLastD 0).num) ((lcmD r : Int) ^ t * ((r.getLastD 0).den : Int)) = M.tap r (t + 1) := by
  have hne : r ≠ [] := by rintro rfl; have := h.l1; simp at this
  have hp := (r.getLastD 0).den_pos
  refine qd_cast (Int.mul_pos (LZ_pos h t) (by omega)) ?_
  have h1 : numsR r t ≠ [] := by
    intro z
    have := numsR_length h t
    rw [z] at this
    have := h.l1
    simp at *; omega
  have h2 : M.conts r M.delta ≠ [] := by
    intro z
    have := M.conts_length M.delta r
    rw [z] at this
    have := h.l1
    simp at *; omega
  have e3 : (((numsR r t).getLastD 0 : Int) : Rat) = ((M.conts r M.delta).getLastD fun _ => 0) t * ((lcmD r : Int) : Rat) ^ t := by
    rw [← getLastD_map (fun x : Int => (x : Rat)) (numsR r t) 0 0 h1, numsR_cast h t, getLastD_map (fun g : Nat → Rat => g t * ((lcmD r : Int) : Rat) ^ t) (M.conts r M.delta) (fun _ => 0) 0 h2]
  have er : r.dropLast ++ [r.getLastD 0] = r := by
    cases r with
    | nil => exact absurd rfl hne
    | cons a l => rw [List.getLastD_cons, ← List.getLast_eq_getLastD, List.dropLast_concat_getLast]; exact hne
  have e4 := M.flow_last M.delta t r.dropLast (r.getLastD 0)
  rw [er] at e4
  unfold M.tap
  rw [e4, Rat.intCast_mul, e3, Rat.intCast_mul, Rat.intCast_pow]
  have e5 : (((r.getLastD 0).num : Int) : Rat) = (r.getLastD 0) * (((r.getLastD 0).den : Int) : Rat) := by
    have h1 := Rat.num_divInt_den (r.getLastD 0)
    rw [Rat.divInt_eq_div] at h1
    have h2 : ((((r.getLastD 0).den : Nat) : Int) : Rat) ≠ 0 := by
      intro z
      have := Rat.intCast_eq_zero_iff.mp z
      omega
    have h3 := Rat.div_mul_cancel (a := ((r.getLastD 0).num : Rat)) h2
    rw [← h3]
    show ((r.getLastD 0).num : Rat) / ((((r.getLastD 0).den : Nat) : Int) : Rat) * ((((r.getLastD 0).den : Nat) : Int) : Rat) = _
    rw [h1]
  rw [e5]
  grind
theorem sum_cast (l : List Int) : ((l.sum : Int) : Rat) = (l.map fun x : Int => (x : Rat)).sum := by
  induction l with
  | nil => rfl
  | cons a l ih => rw [List.sum_cons, List.map_cons, List.sum_cons, Rat.intCast_add, ih]
theorem sum_mul (l : List (Nat → Rat)) (t : Nat) (c : Rat) : (l.map fun g => g t * c).sum = M.sumAt l t * c := by
  unfold M.sumAt
  induction l with
  | nil => show (0 : Rat) = 0 * c; grind
  | cons a l ih =>
    rw [List.map_cons, List.sum_cons, List.map_cons, List.sum_cons, ih]
    grind
theorem rem_q {r : List Rat} (h : Row r) (t : Nat) : qd (numsR r t).sum ((lcmD r : Int) ^ t) = M.rem r t := by
  refine qd_cast (LZ_pos h t) ?_
  rw [sum_cast, numsR_cast h t, sum_mul, Rat.intCast_pow]
  rfl
end Cal
set_option Elab.async false
set_option linter.all false
set_option maxRecDepth 100000
set_option maxHeartbeats 4000000
namespace Cal
open PySem PySem.Spec PyProof.Rows L2

theorem ints_bound {r : List Rat} (h : Row r) {x : Int} (hx : x ∈ intsOf r) : 0 ≤ x ∧ x ≤ (lcmD r : Int) := by
  obtain ⟨p, hp, rfl⟩ := List.mem_map.mp (show x ∈ r.map _ from hx)
  have hs := share_sz h hp
  obtain ⟨k, hk⟩ := h.dvd hp
  have hd := p.den_pos
  have e2 : ((lcmD r : Nat) : Int) / (p.den : Int) = (k : Int) := by
    rw [hk, Int.natCast_mul]
    exact Int.mul_ediv_cancel_left _ (by omega)
  rw [e2]
  refine ⟨Int.mul_nonneg (by omega) (by omega), ?_⟩
  rw [hk, Int.natCast_mul]
  exact Int.mul_le_mul_of_nonneg_right hs.2.1 (by omega)
theorem getD_mem_or {as : List Int} (k : Nat) : as.getD k 0 ∈ as ∨ as.getD k 0 = 0 := by
  rw [List.getD_eq_getElem?_getD]
  by_cases h : k < as.length
  · rw [List.getElem?_eq_getElem h]; exact .inl (List.getElem_mem h)
  · rw [List.getElem?_eq_none (by omega)]; exact .inr rfl
theorem matR_bound {r : List Rat} (h : Row r) : ∀ s ∈ matR r, ∀ x ∈ s, x.natAbs < 2 ^ 60 := by
  intro s hs x hx
  obtain ⟨k, _, rfl⟩ := List.mem_map.mp (show s ∈ (List.range r.length).map _ from hs)
  have hL := h.bound.2
  have hb : ∀ j, 0 ≤ (intsOf r).getD j 0 ∧ (intsOf r).getD j 0 ≤ (lcmD r : Int) := fun j => by
    rcases getD_mem_or (as := intsOf r) j with m | m
    · exact ints_bound h m
    · rw [m]; omega
  have h1 := hb k
  have h2 := hb (k - 1)
  have h3 : (1000 : Nat) ^ 6 < 2 ^ 60 := by decide
  have h0 : ∀ y : Int, y ∈ (List.replicate r.length 0).set k ((lcmD r : Int) - (intsOf r).getD k 0) → y.natAbs < 2 ^ 60 := fun y hy => by
    rcases List.mem_or_eq_of_mem_set hy with m | m
    · rw [List.eq_of_mem_replicate m]; decide
    · rw [m]; omega
  unfold rowAt at hx
  split at hx
  · rcases List.mem_or_eq_of_mem_set hx with m | m
    · exact h0 x m
    · rw [m]; omega
  · exact h0 x hx

abbrev s_row_table : Stmt := topS 26
abbrev N_row_table : List Str := ["row", "below", "shares", "rows", "k", "stage"]
theorem sc_row_table : FnScope N_row_table ["row"] (defScope s_row_table) := ⟨rfl, rfl, rfl, by decide +kernel, rfl, by decide +kernel, by decide +kernel⟩
def R_row_table : List D → D → Prop := fun ds d => ∃ r : List Rat, Row r ∧ ds = [rowD r] ∧ d = pairD (matD (matR r)) (.int (lcmD r : Int))
theorem ok_row_table {P : Program} {w : World} {K : PySem.W.Frag} {mg : Str → Option Value} {base : Heap} (T : Bl mg) (c_common_below : Callee P w K mg base 1 "common_below" ["parts"] (SpR R_common_below)) (c_over_below : Callee P w K mg base 1 "over_below" ["parts", "below"] (SpR R_over_below)) {f : Addr} {fd : FuncData} (F : Fun K "row_table" "row_table" s_row_table f fd) : FnOk P w K mg base CX0 2 f fd ["row"] (SpR R_row_table) := by
  refine F.ok sc_row_table (fun vs H Q E h => ?_) (fun cdv A outer s H vs Q E hr h => ?_)
  · obtain ⟨_, _, _, _, r, ⟨r, hr0, rfl, rfl⟩, _⟩ := h
    exact r.len
  · obtain ⟨F0, ds, d, hF, hrep, ⟨r, hr0, rfl, rfl⟩, fin⟩ := h
    refine ⟨_, (pss_cons (ps_set (i := 1) sc_row_table.nd rfl (.inl rfl) (pe_callC c_common_below hr (by decide) (by rfl) (pa_cons (pv 0) pa_nil))) (pss_cons (ps_set (i := 2) sc_row_table.nd rfl (.inl rfl) (pe_callC c_over_below hr (by decide) (by rfl) (pa_cons (pv 0) (pa_cons (pv 1) pa_nil)))) (pss_cons (ps_setLc (i := 3) (own := [("stage", 5)]) (g := gName 5) (by rfl) sc_row_table.nd rfl rfl (sw_true rfl rfl rfl (by decide +kernel)) (pi_tup (pv 0)) (blkOk_by (own := [("stage", 5)]) (N := N_row_table) (sc := defScope s_row_table) (by decide +kernel)) (fun _ _ _ _ _ => (pg_name (i := 5) sc_row_table.nd rfl (.inl rfl))) (fun _ _ _ _ _ => pts_nil) (fun _ _ _ _ _ => (pe_op op_rep (pe_lst (pa_cons pe_int pa_nil)) (pe_callB (r := rLenS K) call_len_seq (by rfl) T.len (by decide +kernel) (pa_cons (pv 0) pa_nil))))) (pss_cons (ps_for PassesOwn.never rfl (pi_range1 rfl T.range (pa_cons (pe_callB (r := rLenS K) call_len_seq (by rfl) T.len (by decide +kernel) (pa_cons (pv 0) pa_nil)) pa_nil)) (pg_name (i := 4) sc_row_table.nd rfl (.inl rfl)) (pss_cons (ps_asg (pe_op op_sub (pv 1) (pe_ix (r := rIx K) ix_seq (pv 2) (pv 4) (fun _ _ => rfl))) (pg_sub (pe_ix (r := rIx K) ix_seq (pv 3) (pv 4) (fun _ _ => rfl)) (pv 4) set_list)) (pss_one (ps_if (pt_cmpR op_gt (pv 4) pe_int (nomark _)) (pss_one (ps_asg (pe_ix (r := rIx K) ix_seq (pv 2) (pe_op op_sub (pv 4) pe_int) (fun _ _ => rfl)) (pg_sub (pe_ix (r := rIx K) ix_seq (pv 3) (pv 4) (fun _ _ => rfl)) (pe_op op_sub (pv 4) pe_int) set_list))) pss_nil)))) (pss_one (ps_ret (pe_tup (pa_cons (pv 3) (pa_cons (pv 1) pa_nil))))))))), def_ret hF hrep fin ?_⟩
    exact Rt_seq (N_asg (E_call (EA_cons (E_var rfl) EA_nil) ⟨r, hr0, rfl, rfl⟩)) (Rt_seq (N_asg (E_call (EA_cons (E_var rfl) (EA_cons (E_var rfl) EA_nil)) ⟨r, hr0, rfl, rfl⟩))
      (Rt_seq2 (N_rows (r := r) (L := (lcmD r : Int)) (as := intsOf r) hr0.l6 (intsOf_length r)) (Rt_ret (E_tup (EA_cons (E_var rfl) (EA_cons (E_var rfl) EA_nil)) l2))))


def seriesD (r : List Rat) (y : Nat) : D := .list ((List.range (y + 1)).map fun t => yearD (numsR r t) ((lcmD r : Int) ^ t))
theorem start_eq {n : Nat} : [PyData.int 1] ++ (List.replicate (n - 1) [PyData.int 0]).flatten = (e1 n).map PyData.int := by
  rw [rep_one]
  unfold e1
  rw [List.map_cons, List.map_replicate]; rfl
theorem EO_start {K : PySem.W.Frag} {ρ : Rho} {k : Nat} {r : List Rat} (h : Row r) (hk : ρ[k]? = some (some (.d (rowD r)))) :
    EO (tOp rCat (tLst (tCons (tC (.int 1)) tNil)) (tOp rRep (tLst (tCons (tC (.int 0)) tNil)) (tOp (rI0 fun i j => .int (i - j)) (tCB (rLenS K) (tCons (tVar k) tNil)) (tC (.int 1))))) ρ ((e1 r.length).map PyData.int) := by
  have h1 := h.l1
  have h6 := h.l6
  refine EO_is (EO_cat (EO_lst (EA_cons E_int EA_nil) l1) (EO_rep (n := r.length - 1) (EO_lst (EA_cons E_int EA_nil) l1) (E_is (E_sub (E_lenT (E_var hk)) E_int) ?_) ?_ (by omega)) ?_) start_eq
  · rw [List.length_map]
    congr 1
    omega
  · simp; omega
  · rw [rep_one]; simp; omega

abbrev s_row_series : Stmt := topS 27
abbrev N_row_series : List Str := ["row", "years", "rows", "below"]
theorem sc_row_series : FnScope N_row_series ["row", "years"] (defScope s_row_series) := ⟨rfl, rfl, rfl, by decide +kernel, rfl, by decide +kernel, by decide +kernel⟩
def R_row_series : List D → D → Prop := fun ds d => ∃ (r : List Rat) (y : Nat), Row r ∧ y ≤ 20 ∧ ds = [rowD r, intD y] ∧ d = seriesD r y
theorem e1_small (n : Nat) : ∀ x ∈ e1 n, x.natAbs ≤ 1 := fun x hx => by
  rcases List.mem_cons.mp hx with rfl | hx
  · decide
  · rw [List.eq_of_mem_replicate hx]; decide
theorem series_ok {r : List Rat} (hr0 : Row r) {y : Nat} (hy : y ≤ 20) : R_over_years [matD (matR r), .int (lcmD r : Int), intsD (e1 r.length), .int 1, intD y] (seriesD r y) := by
  have hl := e1_length hr0.l1
  refine ⟨matR r, (lcmD r : Int), e1 r.length, y, rfl, ?_, ?_, ?_, matR_bound hr0, e1_small _, ?_, hy, rfl⟩
  · intro s hs
    obtain ⟨k, _, rfl⟩ := List.mem_map.mp (show s ∈ (List.range r.length).map _ from hs)
    rw [rowAt_length, hl]
  · rw [hl]; exact matOf_length _ _ _
  · rw [hl]; exact hr0.l6
  · rw [Int.natAbs_natCast]
    exact Nat.lt_of_le_of_lt hr0.bound.2 (by decide)
theorem ok_row_series {P : Program} {w : World} {K : PySem.W.Frag} {mg : Str → Option Value} {base : Heap} (T : Bl mg) (c_over_years : Callee P w K mg base 2 "over_years" ["rows", "below", "start", "start_below", "years"] (SpR R_over_years)) (c_row_table : Callee P w K mg base 2 "row_table" ["row"] (SpR R_row_table)) {f : Addr} {fd : FuncData} (F : Fun K "row_series" "row_series" s_row_series f fd) : FnOk P w K mg base CX0 3 f fd ["row", "years"] (SpR R_row_series) := by
  refine F.ok sc_row_series (fun vs H Q E h => ?_) (fun cdv A outer s H vs Q E hr h => ?_)
  · obtain ⟨_, _, _, _, r, ⟨r, y, hr0, hy, rfl, rfl⟩, _⟩ := h
    exact r.len
  · obtain ⟨F0, ds, d, hF, hrep, ⟨r, y, hr0, hy, rfl, rfl⟩, fin⟩ := h
    refine ⟨_, (pss_cons (ps_asg (pe_callC c_row_table hr (by decide) (by rfl) (pa_cons (pv 0) pa_nil)) (pg_tup rfl (pgs_cons (pg_name (i := 2) sc_row_series.nd rfl (.inl rfl)) (pgs_cons (pg_name (i := 3) sc_row_series.nd rfl (.inl rfl)) pgs_nil)))) (pss_one (ps_ret (pe_callC c_over_years hr (by decide) (by rfl) (pa_cons (pv 2) (pa_cons (pv 3) (pa_cons (pe_op op_cat (pe_lst (pa_cons pe_int pa_nil)) (pe_op op_rep (pe_lst (pa_cons pe_int pa_nil)) (pe_op op_sub (pe_callB (r := rLenS K) call_len_seq (by rfl) T.len (by decide +kernel) (pa_cons (pv 0) pa_nil)) pe_int))) (pa_cons pe_int (pa_cons (pv 1) pa_nil))))))))), def_ret hF hrep fin ?_⟩
    exact Rt_seq (N_asg2 (K := K) (d := matD (matR r)) (e := .int (lcmD r : Int)) (E_call (EA_cons (E_var rfl) EA_nil) ⟨r, hr0, rfl, rfl⟩))
      (Rt_ret (E_call (EA_cons (E_var rfl) (EA_cons (E_var rfl) (EA_cons (E_of_EO (EO_start hr0 rfl)) (EA_cons E_int (EA_cons (E_var rfl) EA_nil))))) (series_ok hr0 hy)))


theorem atI_lastD {α : Type} {xs : List α} (d : α) (h : xs ≠ []) : atI xs (-1) = some (xs.getLastD d) := by
  have e : xs = xs.dropLast ++ [xs.getLastD d] := by
    cases xs with
    | nil => exact absurd rfl h
    | cons a l => rw [List.getLastD_cons, ← List.getLast_eq_getLastD, List.dropLast_concat_getLast]; exact h
  generalize xs.getLastD d = z at e
  rw [e]
  exact atI_last _ _
theorem row_ne {r : List Rat} (h : Row r) : r ≠ [] := by rintro rfl; have := h.l1; simp at this
theorem nums_ne {r : List Rat} (h : Row r) (t : Nat) : numsR r t ≠ [] := by
  intro z
  have h1 := numsR_length h t
  rw [z] at h1
  have := h.l1
  simp at h1; omega
theorem atI_row {r : List Rat} (h : Row r) : atI (r.map fr) (-1) = some (fr (r.getLastD 0)) := by
  rw [atI_lastD (fr 0) (by simpa using row_ne h), getLastD_map fr r 0 (fr 0) (row_ne h)]
theorem atI_nums {r : List Rat} (h : Row r) (t : Nat) : atI ((numsR r t).map PyData.int) (-1) = some (.int ((numsR r t).getLastD 0)) := by
  rw [atI_lastD (.int 0) (by simpa using nums_ne h t), getLastD_map PyData.int _ 0 (.int 0) (nums_ne h t)]
theorem last_mem {r : List Rat} (h : Row r) : r.getLastD 0 ∈ r := by
  have := row_ne h
  cases r with
  | nil => exact absurd rfl this
  | cons a l => rw [List.getLastD_cons, ← List.getLast_eq_getLastD] <;> first | exact List.getLast_mem _ | exact this
theorem nums_bits {r : List Rat} (h : Row r) (t : Nat) : ∀ x ∈ numsR r t, x.natAbs ≤ 2 ^ (63 * t) :=
  numsM_bound (by rw [e1_length h.l1]; exact h.l6) (matR_bound h) (e1_small _) (by rw [e1_length h.l1]; exact matOf_length _ _ _) t
theorem nums_last_bits {r : List Rat} (h : Row r) {t : Nat} (ht : t ≤ 20) : ((numsR r t).getLastD 0).natAbs < 2 ^ 2000 := by
  have hm : (numsR r t).getLastD 0 ∈ numsR r t := by
    have := nums_ne h t
    revert this
    generalize numsR r t = l
    intro this
    cases l with
    | nil => exact absurd rfl this
    | cons a l => rw [List.getLastD_cons, ← List.getLast_eq_getLastD] <;> first | exact List.getLast_mem _ | exact this
  exact Nat.lt_of_le_of_lt (nums_bits h t _ hm) (Nat.pow_lt_pow_right (by decide) (by omega))
theorem under_bits {r : List Rat} (h : Row r) {t : Nat} (ht : t ≤ 20) : (((lcmD r : Int)) ^ t).natAbs < 2 ^ 2000 := Nat.lt_of_le_of_lt (LZ_bits h t) (Nat.pow_lt_pow_right (by decide) (by omega))
/-- the tap's amount by the program's words -/
theorem E_tapN {ρ : Rho} {tn tu ta tb : TE} {r : List Rat} (h : Row r) {t : Nat} (ht : t ≤ 20) (hn : E tn ρ (.int ((numsR r t).getLastD 0))) (hu : E tu ρ (.int ((lcmD r : Int) ^ t))) (ha : E ta ρ (.int (r.getLastD 0).num)) (hb : E tb ρ (.int ((r.getLastD 0).den : Int))) :
    E (tCall (SpR R_fraction) [] E0 (tCons (tOp (rI CMulW fun i j => .int (i * j)) tn ta) (tCons (tOp (rI CMulW fun i j => .int (i * j)) tu tb) tNil))) ρ (fr (M.tap r (t + 1))) := by
  have hs := share_sz h (last_mem h)
  refine E_is (E_call (EA_cons (E_mul hn ha ?_) (EA_cons (E_mul hu hb ?_) EA_nil)) ⟨_, _, rfl, ?_, ?_, rfl⟩) (by rw [tap_q h])
  · exact wide_mul (a := 2000) (b := 64) (nums_last_bits h ht) (by omega) (by decide) (by decide) (by decide)
  · exact wide_mul (a := 2000) (b := 64) (under_bits h ht) (by omega) (by decide) (by decide) (by decide)
  · exact Int.mul_pos (LZ_pos h t) (by omega)
  · rw [Int.natAbs_mul]
    exact Nat.lt_of_lt_of_le (pow_add_lt (under_bits h ht) (show ((r.getLastD 0).den : Int).natAbs < 2 ^ 64 by omega)) (Nat.pow_le_pow_right (by decide) (by decide))
def tapsD (r : List Rat) (y : Nat) : D := .list ((List.range (y + 1)).map fun t => fr (M.tap r t))
theorem take_range_map {f : Nat → D} {a : Nat} : (((List.range (a + 1)).map f).take a) = (List.range a).map f := by
  rw [List.range_succ, List.map_append, List.take_append_of_le_length (by simp), List.take_of_length_le (by simp)]
theorem drop_range_map {f : Nat → D} {a : Nat} : (((List.range (a + 1)).map f).drop 1) = (List.range a).map fun t => f (t + 1) := by
  rw [List.range_succ_eq_map, List.map_cons, List.drop_succ_cons, List.drop_zero, List.map_map]; rfl
theorem fr_zero : fr 0 = .tuple [.int 0, .int 1] := rfl
theorem fr_one : fr 1 = .tuple [.int 1, .int 1] := rfl

abbrev s_taps_of : Stmt := topS 28
abbrev N_taps_of : List Str := ["row", "age", "above", "below", "taps", "numbers", "under"]
theorem sc_taps_of : FnScope N_taps_of ["row", "age"] (defScope s_taps_of) := ⟨rfl, rfl, rfl, by decide +kernel, rfl, by decide +kernel, by decide +kernel⟩
def R_taps_of : List D → D → Prop := fun ds d => ∃ (r : List Rat) (y : Nat), Row r ∧ y ≤ 20 ∧ ds = [rowD r, intD y] ∧ d = tapsD r y
theorem ok_taps_of {P : Program} {w : World} {K : PySem.W.Frag} {mg : Str → Option Value} {base : Heap} (T : Bl mg) (c_fraction : Callee P w K mg base 1 "fraction" ["above", "below"] (SpR R_fraction)) (c_row_series : Callee P w K mg base 3 "row_series" ["row", "years"] (SpR R_row_series)) {f : Addr} {fd : FuncData} (F : Fun K "taps_of" "taps_of" s_taps_of f fd) : FnOk P w K mg base CX0 4 f fd ["row", "age"] (SpR R_taps_of) := by
  refine F.ok sc_taps_of (fun vs H Q E h => ?_) (fun cdv A outer s H vs Q E hr h => ?_)
  · obtain ⟨_, _, _, _, r, ⟨r, y, hr0, hy, rfl, rfl⟩, _⟩ := h
    exact r.len
  · obtain ⟨F0, ds, d, hF, hrep, ⟨r, y, hr0, hy, rfl, rfl⟩, fin⟩ := h
    refine ⟨_, (pss_cons (ps_asg (pe_ix (r := rIx K) ix_seq (pv 0) (pe_un un_neg pe_int) (fun _ _ => rfl)) (pg_tup rfl (pgs_cons (pg_name (i := 2) sc_taps_of.nd rfl (.inl rfl)) (pgs_cons (pg_name (i := 3) sc_taps_of.nd rfl (.inl rfl)) pgs_nil)))) (pss_cons (ps_set (i := 4) sc_taps_of.nd rfl (.inl rfl) (pe_lst (pa_cons (pe_tup (pa_cons pe_int (pa_cons pe_int pa_nil))) pa_nil))) (pss_cons (ps_for PassesOwn.never rfl (pi_list (pe_slice (r := rSlL K) sl_list (pe_callC c_row_series hr (by decide) (by rfl) (pa_cons (pv 0) (pa_cons (pv 1) pa_nil))) po_none (po_some (pv 1)))) (pg_tup rfl (pgs_cons (pg_name (i := 5) sc_taps_of.nd rfl (.inl rfl)) (pgs_cons (pg_name (i := 6) sc_taps_of.nd rfl (.inl rfl)) pgs_nil))) (pss_one (ps_expr (pe_bm PySem.F.plainAttrs_list PySem.F.slot_list_append PySem.F.type_list_append mt_append (pv 4) (pa_cons (pe_callC c_fraction hr (by decide) (by rfl) (pa_cons (pe_op op_mulW (pe_ix (r := rIx K) ix_seq (pv 5) (pe_un un_neg pe_int) (fun _ _ => rfl)) (pv 2)) (pa_cons (pe_op op_mulW (pv 6) (pv 3)) pa_nil))) pa_nil))))) (pss_one (ps_ret (pv 4)))))), def_ret hF hrep fin ?_⟩
    refine Rt_seq (N_asg2 (K := K) (d := .int (r.getLastD 0).num) (e := .int ((r.getLastD 0).den : Int)) (E_ixT (E_var rfl) (E_neg E_int) (atI_row hr0)))
      (Rt_seq (N_asgO (EO_lst (EA_cons (E_tup (EA_cons E_int (EA_cons E_int EA_nil)) l2) EA_nil) l1))
      (Rt_seq (N_is (N_for2 (K := K) (xs := List.range y) (e1 := fun t => intsD (numsR r t)) (e2 := fun t => .int ((lcmD r : Int) ^ t)) 0
        (fun i => [some (.d (rowD r)), some (.d (intD y)), some (.d (.int (r.getLastD 0).num)), some (.d (.int ((r.getLastD 0).den : Int))), some (.o ((List.range (i + 1)).map fun t => fr (M.tap r t))), none, none])
        (W_is (W_list (E_of_EO (EO_slL (E_call (EA_cons (E_var rfl) (EA_cons (E_var rfl) EA_nil)) ⟨r, y, hr0, hy, rfl, rfl⟩) EP_none (EP_some (E_var rfl))))) ?_) ?_
        (fun i hi => N_wk (N_app rfl (E_tapN hr0 (t := (List.range y).getD i 0) ?_ (E_ixL (E_var rfl) (E_neg E_int) (atI_nums hr0 _)) (E_var rfl) (E_var rfl) (E_var rfl)) ?_) (.same rfl (.same rfl (.same rfl (.same rfl (.same ?_ (.drop (.drop .nil)))))))))
        rfl)
      (Rt_ret (E_is (E_var rfl) ?_))))
    · rw [cut_take, take_range_map]; rfl
    · show [some (Sl.d (rowD r)), some (Sl.d (intD y)), some (Sl.d (.int (r.getLastD 0).num)), some (Sl.d (.int ((r.getLastD 0).den : Int))), some (Sl.o [fr (M.tap r 0)]), none, none] = _
      rw [M.tap_zero (row_ne hr0)]; rfl
    · have : (List.range y).getD i 0 = i := by rw [List.getD_eq_getElem?_getD, List.getElem?_range (by simpa using hi)]; rfl
      rw [this]
      rw [List.length_range] at hi; omega
    · rw [List.length_range] at hi
      rw [List.length_map, List.length_range]; omega
    · have : (List.range y).getD i 0 = i := by rw [List.getD_eq_getElem?_getD, List.getElem?_range (by simpa using hi)]; rfl
      rw [this, List.range_succ (n := i + 1), List.map_append]; rfl
    · rw [List.length_range]; rfl

abbrev s_tap_amount : Stmt := topS 29
abbrev N_tap_amount : List Str := ["row", "age", "numbers", "under"]
theorem sc_tap_amount : FnScope N_tap_amount ["row", "age"] (defScope s_tap_amount) := ⟨rfl, rfl, rfl, by decide +kernel, rfl, by decide +kernel, by decide +kernel⟩
def R_tap_amount : List D → D → Prop := fun ds d => ∃ (r : List Rat) (y : Nat), Row r ∧ y ≤ 20 ∧ ds = [rowD r, intD y] ∧ d = fr (M.tap r y)
theorem ok_tap_amount {P : Program} {w : World} {K : PySem.W.Frag} {mg : Str → Option Value} {base : Heap} (T : Bl mg) (c_fraction : Callee P w K mg base 1 "fraction" ["above", "below"] (SpR R_fraction)) (c_need_from_zero : Callee P w K mg base 1 "need_from_zero" ["number"] (SpR R_need_from_zero)) (c_need_row : Callee P w K mg base 5 "need_row" ["row"] (SpR R_need_row)) (c_row_series : Callee P w K mg base 3 "row_series" ["row", "years"] (SpR R_row_series)) {f : Addr} {fd : FuncData} (F : Fun K "tap_amount" "tap_amount" s_tap_amount f fd) : FnOk P w K mg base CX0 6 f fd ["row", "age"] (SpR R_tap_amount) := by
  refine F.ok sc_tap_amount (fun vs H Q E h => ?_) (fun cdv A outer s H vs Q E hr h => ?_)
  · obtain ⟨_, _, _, _, r, ⟨r, y, hr0, hy, rfl, rfl⟩, _⟩ := h
    exact r.len
  · obtain ⟨F0, ds, d, hF, hrep, ⟨r, y, hr0, hy, rfl, rfl⟩, fin⟩ := h
    refine ⟨_, (pss_cons (ps_expr (pe_callC c_need_row hr (by decide) (by rfl) (pa_cons (pv 0) pa_nil))) (pss_cons (ps_expr (pe_callC c_need_from_zero hr (by decide) (by rfl) (pa_cons (pv 1) pa_nil))) (pss_cons (ps_if (pt_cmpR op_eq (pv 1) pe_int (nomark _)) (pss_one (ps_ret (pe_tup (pa_cons pe_int (pa_cons pe_int pa_nil))))) pss_nil) (pss_cons (ps_asg (pe_ix (r := rIx K) ix_seq (pe_callC c_row_series hr (by decide) (by rfl) (pa_cons (pv 0) (pa_cons (pe_op op_sub (pv 1) pe_int) pa_nil))) (pe_un un_neg pe_int) (fun _ _ => rfl)) (pg_tup rfl (pgs_cons (pg_name (i := 2) sc_tap_amount.nd rfl (.inl rfl)) (pgs_cons (pg_name (i := 3) sc_tap_amount.nd rfl (.inl rfl)) pgs_nil)))) (pss_one (ps_ret (pe_callC c_fraction hr (by decide) (by rfl) (pa_cons (pe_op op_mulW (pe_ix (r := rIx K) ix_seq (pv 2) (pe_un un_neg pe_int) (fun _ _ => rfl)) (pe_ix (r := rIx K) ix_seq (pe_ix (r := rIx K) ix_seq (pv 0) (pe_un un_neg pe_int) (fun _ _ => rfl)) pe_int (fun _ _ => rfl))) (pa_cons (pe_op op_mulW (pv 3) (pe_ix (r := rIx K) ix_seq (pe_ix (r := rIx K) ix_seq (pv 0) (pe_un un_neg pe_int) (fun _ _ => rfl)) pe_int (fun _ _ => rfl))) pa_nil))))))))), def_ret hF hrep fin ?_⟩
    refine Rt_seq (N_drop (E_call (EA_cons (E_var rfl) EA_nil) ⟨r, hr0, rfl, rfl⟩)) (Rt_seq (N_drop (E_call (EA_cons (E_var rfl) EA_nil) ⟨y, rfl, rfl⟩)) ?_)
    cases y with
    | zero =>
      refine Rt_first (Rt_if_t (T_is (T_test (E_eqI (E_var rfl) E_int)) rfl) (Rt_ret (E_is (E_tup (EA_cons E_int (EA_cons E_int EA_nil)) l2) ?_)))
      rw [M.tap_zero (row_ne hr0)]; rfl
    | succ y =>
      refine Rt_seq (N_if_f (T_is (T_test (E_eqI (E_var rfl) E_int)) (decide_eq_false (by omega))) N_next)
        (Rt_seq (N_asg2 (K := K) (d := intsD (numsR r y)) (e := .int ((lcmD r : Int) ^ y)) (E_ixL (E_call (EA_cons (E_var rfl) (EA_cons (E_sub (E_var rfl) E_int) EA_nil)) ⟨r, y, hr0, by omega, ?_, rfl⟩) (E_neg E_int) atI_range))
        (Rt_ret (E_tapN hr0 (by omega) (E_ixL (E_var rfl) (E_neg E_int) (atI_nums hr0 _)) (E_var rfl) (E_ixT (E_ixT (E_var rfl) (E_neg E_int) (atI_row hr0)) E_int rfl) (E_ixT (E_ixT (E_var rfl) (E_neg E_int) (atI_row hr0)) E_int rfl))))
      show [rowD r, PyData.int (((y + 1 : Nat) : Int) - 1)] = _
      rw [show (((y + 1 : Nat) : Int) - 1) = (y : Int) by omega]; rfl

abbrev s_tap : Stmt := topS 30
abbrev N_tap : List Str := ["row", "year", "taps", "born"]
theorem sc_tap : FnScope N_tap ["row", "year"] (defScope s_tap) := ⟨rfl, rfl, rfl, by decide +kernel, rfl, by decide +kernel, by decide +kernel⟩
def R_tap : List D → D → Prop := fun ds d => ∃ (r : List Rat) (y : Nat), Row r ∧ y ≤ 20 ∧ ds = [rowD r, intD y] ∧ d = yearsD (M.tap r) y
theorem num_pos_iff {q : Rat} : 0 < q.num ↔ 0 < q := by
  rw [Rat.lt_iff]; simp
theorem atI_sub {f : Nat → D} {y b : Nat} (h : b < y + 1) : atI ((List.range (y + 1)).map f) ((y : Int) - (b : Int)) = some (f (y - b)) := by
  rw [show ((y : Int) - (b : Int)) = ((y - b : Nat) : Int) by omega]
  exact atI_map (by omega)
theorem ok_tap {P : Program} {w : World} {K : PySem.W.Frag} {mg : Str → Option Value} {base : Heap} (T : Bl mg) (c_need_from_zero : Callee P w K mg base 1 "need_from_zero" ["number"] (SpR R_need_from_zero)) (c_need_row : Callee P w K mg base 5 "need_row" ["row"] (SpR R_need_row)) (c_taps_of : Callee P w K mg base 4 "taps_of" ["row", "age"] (SpR R_taps_of)) {f : Addr} {fd : FuncData} (F : Fun K "tap" "tap" s_tap f fd) : FnOk P w K mg base CX0 6 f fd ["row", "year"] (SpR R_tap) := by
  refine F.ok sc_tap (fun vs H Q E h => ?_) (fun cdv A outer s H vs Q E hr h => ?_)
  · obtain ⟨_, _, _, _, r, ⟨r, y, hr0, hy, rfl, rfl⟩, _⟩ := h
    exact r.len
  · obtain ⟨F0, ds, d, hF, hrep, ⟨r, y, hr0, hy, rfl, rfl⟩, fin⟩ := h
    refine ⟨_, (pss_cons (ps_expr (pe_callC c_need_row hr (by decide) (by rfl) (pa_cons (pv 0) pa_nil))) (pss_cons (ps_expr (pe_callC c_need_from_zero hr (by decide) (by rfl) (pa_cons (pv 1) pa_nil))) (pss_cons (ps_set (i := 2) sc_tap.nd rfl (.inr rfl) (pe_callC c_taps_of hr (by decide) (by rfl) (pa_cons (pv 0) (pa_cons (pv 1) pa_nil)))) (pss_one (ps_ret (pe_lc (own := [("born", 3)]) (g := gName 3) (by rfl) sc_tap.nd (pi_range1 rfl T.range (pa_cons (pe_op op_add (pv 1) pe_int) pa_nil)) (blkOk_by (own := [("born", 3)]) (N := N_tap) (sc := defScope s_tap) (by decide +kernel)) (fun _ _ _ _ _ => (pg_name (i := 3) sc_tap.nd rfl (.inl rfl))) (fun _ _ _ _ _ => (pts_one (pt_cmpR op_gt (pe_ix (r := rIx K) ix_seq (pe_ix (r := rIx K) ix_seq (pv 2) (pe_op op_sub (pv 1) (pv 3)) (fun _ _ => rfl)) pe_int (fun _ _ => rfl)) pe_int (nomark _)))) (fun _ _ _ _ _ => (pe_tup (pa_cons (pv 3) (pa_cons (pe_ix (r := rIx K) ix_seq (pv 2) (pe_op op_sub (pv 1) (pv 3)) (fun _ _ => rfl)) pa_nil)))))))))), def_ret hF hrep fin ?_⟩
    refine Rt_seq (N_drop (E_call (EA_cons (E_var rfl) EA_nil) ⟨r, hr0, rfl, rfl⟩)) (Rt_seq (N_drop (E_call (EA_cons (E_var rfl) EA_nil) ⟨y, rfl, rfl⟩))
      (Rt_seq (N_asg (E_call (EA_cons (E_var rfl) (EA_cons (E_var rfl) EA_nil)) ⟨r, y, hr0, hy, rfl, rfl⟩))
      (Rt_ret (E_of_EO (EO_lcRP (n := y + 1) (p := fun b => decide (0 < M.tap r (y - b))) (f := fun b => pairD (intD b) (fr (M.tap r (y - b)))) (E_is (E_add (E_var rfl) E_int) rfl) (by omega)
        (fun b hb => T_is (T_test (E_gt (E_ixT (E_is (E_ixL (E_var rfl) (E_sub (E_var rfl) (E_var rfl)) (atI_sub hb)) rfl) E_int rfl) E_int)) ?_)
        (fun b hb _ => E_tup (EA_cons (E_var rfl) (EA_cons (E_ixL (E_var rfl) (E_sub (E_var rfl) (E_var rfl)) (atI_sub hb)) EA_nil)) l2))))))
    exact decide_eq_decide.mpr num_pos_iff

abbrev s_stages : Stmt := topS 31
abbrev N_stages : List Str := ["row", "year", "series", "stage"]
theorem sc_stages : FnScope N_stages ["row", "year"] (defScope s_stages) := ⟨rfl, rfl, rfl, by decide +kernel, rfl, by decide +kernel, by decide +kernel⟩
def stagesD (r : List Rat) (y : Nat) : D := .list ((List.range r.length).map fun k => yearsD (M.stg r k) y)
def R_stages : List D → D → Prop := fun ds d => ∃ (r : List Rat) (y : Nat), Row r ∧ y ≤ 20 ∧ ds = [rowD r, intD y] ∧ d = stagesD r y
theorem ok_stages {P : Program} {w : World} {K : PySem.W.Frag} {mg : Str → Option Value} {base : Heap} (T : Bl mg) (c_by_years : Callee P w K mg base 2 "by_years" ["series", "cask", "year"] (SpR R_by_years)) (c_need_from_zero : Callee P w K mg base 1 "need_from_zero" ["number"] (SpR R_need_from_zero)) (c_need_row : Callee P w K mg base 5 "need_row" ["row"] (SpR R_need_row)) (c_row_series : Callee P w K mg base 3 "row_series" ["row", "years"] (SpR R_row_series)) {f : Addr} {fd : FuncData} (F : Fun K "stages" "stages" s_stages f fd) : FnOk P w K mg base CX0 6 f fd ["row", "year"] (SpR R_stages) := by
  refine F.ok sc_stages (fun vs H Q E h => ?_) (fun cdv A outer s H vs Q E hr h => ?_)
  · obtain ⟨_, _, _, _, r, ⟨r, y, hr0, hy, rfl, rfl⟩, _⟩ := h
    exact r.len
  · obtain ⟨F0, ds, d, hF, hrep, ⟨r, y, hr0, hy, rfl, rfl⟩, fin⟩ := h
    refine ⟨_, (pss_cons (ps_expr (pe_callC c_need_row hr (by decide) (by rfl) (pa_cons (pv 0) pa_nil))) (pss_cons (ps_expr (pe_callC c_need_from_zero hr (by decide) (by rfl) (pa_cons (pv 1) pa_nil))) (pss_cons (ps_set (i := 2) sc_stages.nd rfl (.inr rfl) (pe_callC c_row_series hr (by decide) (by rfl) (pa_cons (pv 0) (pa_cons (pv 1) pa_nil)))) (pss_one (ps_ret (pe_lc (own := [("stage", 3)]) (g := gName 3) (by rfl) sc_stages.nd (pi_range1 rfl T.range (pa_cons (pe_callB (r := rLenS K) call_len_seq (by rfl) T.len (by decide +kernel) (pa_cons (pv 0) pa_nil)) pa_nil)) (blkOk_by (own := [("stage", 3)]) (N := N_stages) (sc := defScope s_stages) (by decide +kernel)) (fun _ _ _ _ _ => (pg_name (i := 3) sc_stages.nd rfl (.inl rfl))) (fun _ _ _ _ _ => pts_nil) (fun _ _ _ _ _ => (pe_callC c_by_years hr (by decide) (by rfl) (pa_cons (pv 2) (pa_cons (pv 3) (pa_cons (pv 1) pa_nil))))))))))), def_ret hF hrep fin ?_⟩
    refine Rt_seq (N_drop (E_call (EA_cons (E_var rfl) EA_nil) ⟨r, hr0, rfl, rfl⟩)) (Rt_seq (N_drop (E_call (EA_cons (E_var rfl) EA_nil) ⟨y, rfl, rfl⟩))
      (Rt_seq (N_asg (E_call (EA_cons (E_var rfl) (EA_cons (E_var rfl) EA_nil)) ⟨r, y, hr0, hy, rfl, rfl⟩))
      (Rt_ret (E_of_EO (EO_lcR (n := r.length) (f := fun k => yearsD (M.stg r k) y) (E_is (E_lenT (E_var rfl)) (by rw [List.length_map])) (by have := hr0.l6; omega)
        (fun k hk => E_call (EA_cons (E_var rfl) (EA_cons (E_var rfl) (EA_cons (E_var rfl) EA_nil))) ⟨numsR r, fun t => (lcmD r : Int) ^ t, y + 1, k, y, rfl, by omega, by omega, ?_, ?_, ?_⟩))))))
    · intro t _
      rw [numsR_length hr0]; exact hk
    · intro t ht
      exact ⟨LZ_pos hr0 t, Nat.lt_of_lt_of_le (under_bits hr0 (by omega)) (Nat.pow_le_pow_right (by decide) (by decide))⟩
    · congr 1
      funext t
      exact (stg_q hr0 hk t).symm


def totM (r : List Rat) : Nat → List Int
  | 0 => e1 r.length
  | t + 1 => List.zipWith (fun a b => a * (lcmD r : Int) + b) (totM r t) (numsR r (t + 1))
theorem totM_length {r : List Rat} (h : Row r) : ∀ t, (totM r t).length = r.length
  | 0 => e1_length h.l1
  | t + 1 => by
    show (List.zipWith _ (totM r t) (numsR r (t + 1))).length = _
    rw [List.length_zipWith, totM_length h t, numsR_length h, Nat.min_self]
theorem totM_bits {r : List Rat} (h : Row r) : ∀ t, ∀ x ∈ totM r t, x.natAbs ≤ 2 ^ (64 * t)
  | 0 => fun x hx => e1_small _ x hx
  | t + 1 => fun x hx => by
    obtain ⟨a, ha, b, hb, rfl⟩ := mem_zipW (show x ∈ List.zipWith (fun a b => a * (lcmD r : Int) + b) (totM r t) (numsR r (t + 1)) from hx)
    have h1 := totM_bits h t a ha
    have h2 := nums_bits h (t + 1) b hb
    have h3 := Int.natAbs_add_le (a * (lcmD r : Int)) b
    have h4 : (a * (lcmD r : Int)).natAbs ≤ 2 ^ (64 * t) * 2 ^ 60 := by
      rw [Int.natAbs_mul, Int.natAbs_natCast]
      exact Nat.mul_le_mul h1 (Nat.le_trans h.bound.2 (by decide))
    have h5 : (2 : Nat) ^ (63 * (t + 1)) ≤ 2 ^ (64 * t) * 2 ^ 63 := by
      rw [← Nat.pow_add]
      exact Nat.pow_le_pow_right (by decide) (by omega)
    have h6 : (2 : Nat) ^ (64 * (t + 1)) = 2 ^ (64 * t) * 2 ^ 64 := by rw [← Nat.pow_add]; rfl
    rw [h6]
    generalize 2 ^ (64 * t) = c at *
    omega
theorem getD_zipW {f : Int → Int → Int} : ∀ {xs ys : List Int} {k : Nat}, k < xs.length → k < ys.length → (List.zipWith f xs ys).getD k 0 = f (xs.getD k 0) (ys.getD k 0)
  | x :: xs, y :: ys, 0, _, _ => rfl
  | x :: xs, y :: ys, k + 1, h1, h2 => getD_zipW (xs := xs) (ys := ys) (k := k) (Nat.lt_of_succ_lt_succ h1) (Nat.lt_of_succ_lt_succ h2)
theorem nums_q {r : List Rat} (h : Row r) {k : Nat} (hk : k < r.length) (t : Nat) : (((numsR r t).getD k 0 : Int) : Rat) = M.stg r k t * ((lcmD r : Int) : Rat) ^ t := by
  have h1 : k < (numsR r t).length := by rw [numsR_length h]; exact hk
  have h2 : k < (M.conts r M.delta).length := by rw [M.conts_length]; exact hk
  rw [← getD_map (fun x : Int => (x : Rat)) (numsR r t) k 0 0 h1, numsR_cast h t, getD_map (fun g : Nat → Rat => g t * ((lcmD r : Int) : Rat) ^ t) (M.conts r M.delta) k (fun _ => 0) 0 h2]
  rfl
theorem totM_q {r : List Rat} (h : Row r) {k : Nat} (hk : k < r.length) : ∀ t, (((totM r t).getD k 0 : Int) : Rat) = M.sumTo (M.stg r k) (t + 1) * ((lcmD r : Int) : Rat) ^ t
  | 0 => by
    have e := nums_q h hk 0
    show (((numsR r 0).getD k 0 : Int) : Rat) = (0 + M.stg r k 0) * _
    rw [e]; grind
  | t + 1 => by
    have ih := totM_q h hk t
    have e := nums_q h hk (t + 1)
    show (((List.zipWith (fun a b => a * (lcmD r : Int) + b) (totM r t) (numsR r (t + 1))).getD k 0 : Int) : Rat) = (M.sumTo (M.stg r k) (t + 1) + M.stg r k (t + 1)) * _
    rw [getD_zipW (by rw [totM_length h]; exact hk) (by rw [numsR_length h]; exact hk), Rat.intCast_add, Rat.intCast_mul, ih, e, Rat.pow_succ]
    grind
def totalsD (r : List Rat) (y : Nat) : D := .tuple ((List.range r.length).map fun k => fr (M.sumTo (M.stg r k) (y + 1)))
theorem list_as_range {α : Type} (xs : List α) (x : α) : xs = (List.range xs.length).map fun i => xs.getD i x := by
  have := map_range (fun a => a) x xs
  rw [List.map_id'] at this
  exact this

abbrev s_stage_totals : Stmt := topS 32
abbrev N_stage_totals : List Str := ["row", "year", "rows", "below", "start", "totals", "under", "numbers", "step", "total", "number"]
theorem sc_stage_totals : FnScope N_stage_totals ["row", "year"] (defScope s_stage_totals) := ⟨rfl, rfl, rfl, by decide +kernel, rfl, by decide +kernel, by decide +kernel⟩
def R_stage_totals : List D → D → Prop := fun ds d => ∃ (r : List Rat) (y : Nat), Row r ∧ y ≤ 20 ∧ ds = [rowD r, intD y] ∧ d = totalsD r y
theorem ok_stage_totals {P : Program} {w : World} {K : PySem.W.Frag} {mg : Str → Option Value} {base : Heap} (T : Bl mg) (c_as_fractions : Callee P w K mg base 2 "as_fractions" ["numbers", "below"] (SpR R_as_fractions)) (c_need_from_zero : Callee P w K mg base 1 "need_from_zero" ["number"] (SpR R_need_from_zero)) (c_need_row : Callee P w K mg base 5 "need_row" ["row"] (SpR R_need_row)) (c_over_years : Callee P w K mg base 2 "over_years" ["rows", "below", "start", "start_below", "years"] (SpR R_over_years)) (c_row_table : Callee P w K mg base 2 "row_table" ["row"] (SpR R_row_table)) {f : Addr} {fd : FuncData} (F : Fun K "stage_totals" "stage_totals" s_stage_totals f fd) : FnOk P w K mg base CX0 6 f fd ["row", "year"] (SpR R_stage_totals) := by
  refine F.ok sc_stage_totals (fun vs H Q E h => ?_) (fun cdv A outer s H vs Q E hr h => ?_)
  · obtain ⟨_, _, _, _, r, ⟨r, y, hr0, hy, rfl, rfl⟩, _⟩ := h
    exact r.len
  · obtain ⟨F0, ds, d, hF, hrep, ⟨r, y, hr0, hy, rfl, rfl⟩, fin⟩ := h
    refine ⟨_, (pss_cons (ps_expr (pe_callC c_need_row hr (by decide) (by rfl) (pa_cons (pv 0) pa_nil))) (pss_cons (ps_expr (pe_callC c_need_from_zero hr (by decide) (by rfl) (pa_cons (pv 1) pa_nil))) (pss_cons (ps_asg (pe_callC c_row_table hr (by decide) (by rfl) (pa_cons (pv 0) pa_nil)) (pg_tup rfl (pgs_cons (pg_name (i := 2) sc_stage_totals.nd rfl (.inl rfl)) (pgs_cons (pg_name (i := 3) sc_stage_totals.nd rfl (.inr rfl)) pgs_nil)))) (pss_cons (ps_set (i := 4) sc_stage_totals.nd rfl (.inl rfl) (pe_op op_cat (pe_lst (pa_cons pe_int pa_nil)) (pe_op op_rep (pe_lst (pa_cons pe_int pa_nil)) (pe_op op_sub (pe_callB (r := rLenS K) call_len_seq (by rfl) T.len (by decide +kernel) (pa_cons (pv 0) pa_nil)) pe_int)))) (pss_cons (ps_set (i := 5) sc_stage_totals.nd rfl (.inl rfl) (pe_callTy (r := rListOf K) call_list_of (by rfl) T.list (by decide +kernel) (pa_cons (pv 4) pa_nil))) (pss_cons (ps_set (i := 6) sc_stage_totals.nd rfl (.inl rfl) pe_int) (pss_cons (ps_for PassesOwn.never rfl (pi_list (pe_slice (r := rSlL K) sl_list (pe_callC c_over_years hr (by decide) (by rfl) (pa_cons (pv 2) (pa_cons (pv 3) (pa_cons (pv 4) (pa_cons pe_int (pa_cons (pv 1) pa_nil)))))) (po_some pe_int) po_none)) (pg_tup rfl (pgs_cons (pg_name (i := 7) sc_stage_totals.nd rfl (.inl rfl)) (pgs_cons (pg_name (i := 8) sc_stage_totals.nd rfl (.inl rfl)) pgs_nil))) (pss_cons (ps_setLc (i := 5) (own := [("total", 9), ("number", 10)]) (g := gTup K 2 (gCons (gName 9) (gCons (gName 10) gNil))) (by rfl) sc_stage_totals.nd rfl rfl (sw_true rfl rfl rfl (by decide +kernel)) (pi_zipK (K := K) rfl (by rfl) T.zip (pa_cons (pv 5) (pa_cons (pv 7) pa_nil))) (blkOk_by (own := [("total", 9), ("number", 10)]) (N := N_stage_totals) (sc := defScope s_stage_totals) (by decide +kernel)) (fun _ _ _ _ _ => (pg_tup rfl (pgs_cons (pg_name (i := 9) sc_stage_totals.nd rfl (.inl rfl)) (pgs_cons (pg_name (i := 10) sc_stage_totals.nd rfl (.inl rfl)) pgs_nil)))) (fun _ _ _ _ _ => pts_nil) (fun _ _ _ _ _ => (pe_op op_add (pe_op op_mulW (pv 9) (pv 3)) (pv 10)))) (pss_one (ps_set (i := 6) sc_stage_totals.nd rfl (.inl rfl) (pv 8))))) (pss_one (ps_ret (pe_tupleOf (by rfl) T.tuple (pe_callC c_as_fractions hr (by decide) (by rfl) (pa_cons (pv 5) (pa_cons (pv 6) pa_nil))))))))))))), def_ret hF hrep fin ?_⟩
    have h6 := hr0.l6
    refine Rt_seq (N_drop (E_call (EA_cons (E_var rfl) EA_nil) ⟨r, hr0, rfl, rfl⟩)) (Rt_seq (N_drop (E_call (EA_cons (E_var rfl) EA_nil) ⟨y, rfl, rfl⟩))
      (Rt_seq (N_asg2 (K := K) (d := matD (matR r)) (e := .int (lcmD r : Int)) (E_call (EA_cons (E_var rfl) EA_nil) ⟨r, hr0, rfl, rfl⟩))
      (Rt_seq (N_asg (E_of_EO (EO_start hr0 rfl)))
      (Rt_seq (N_asg (E_of_EO (EO_listL (E_var rfl))))
      (Rt_seq (N_asg E_int)
      (Rt_seq (N_is (N_for2 (K := K) (xs := List.range y) (e1 := fun t => intsD (numsR r (t + 1))) (e2 := fun t => .int ((lcmD r : Int) ^ (t + 1))) 0
        (fun i => [some (.d (rowD r)), some (.d (intD y)), some (.d (matD (matR r))), some (.d (.int (lcmD r : Int))), some (.d (intsD (e1 r.length))), some (.d (intsD (totM r i))), some (.d (.int ((lcmD r : Int) ^ i))), none, none, none, none])
        (W_is (W_list (E_of_EO (EO_slL (E_call (EA_cons (E_var rfl) (EA_cons (E_var rfl) (EA_cons (E_var rfl) (EA_cons E_int (EA_cons (E_var rfl) EA_nil))))) (series_ok hr0 hy)) (EP_some E_int) EP_none))) ?_) ?_
        (fun i hi => N_seq (N_asg (E_of_EO (EO_lc2 (K := K) (xs := List.zip (totM r i) (numsR r (i + 1))) (e1 := fun x => .int x.1) (e2 := fun x => .int x.2) (f := fun x => .int (x.1 * (lcmD r : Int) + x.2)) (W_is (W_zip (E_var rfl) (E_var rfl) ?_) ?_) (fun x hx => E_add (E_mul (E_var rfl) (E_var rfl) ?_) (E_var rfl)) ?_)))
          (N_wk (N_asg (E_var rfl)) (.same rfl (.same rfl (.same rfl (.same rfl (.same rfl (.same ?_ (.same ?_ (.drop (.drop (.drop (.drop .nil))))))))))))))
        rfl)
      (Rt_ret (E_is (E_tupleL (E_call (EA_cons (E_var rfl) (EA_cons (E_var rfl) EA_nil)) ⟨totM r y, (lcmD r : Int) ^ y, ?_, LZ_pos hr0 y, ?_, ?_, rfl⟩)) ?_))))))))
    · rw [show (some (1 : Int)) = some ((1 : Nat) : Int) from rfl, cut_drop, drop_range_map]; rfl
    · show [_, _, _, _, _, _, some (Sl.d (.int ((lcmD r : Int) ^ 0))), _, _, _, _] = _
      rw [Int.pow_zero]; rfl
    all_goals try (have ei : (List.range y).getD i 0 = i := by rw [List.getD_eq_getElem?_getD, List.getElem?_range (by simpa using hi)]; rfl)
    · rw [ei, List.length_map, List.length_map, totM_length hr0, numsR_length hr0]
    · rw [ei, List.zipWith_map, List.zip, List.map_zipWith]
    · obtain ⟨a1, a2⟩ := List.of_mem_zip (a := x.1) (b := x.2) hx
      rw [List.length_range] at hi
      refine wide_mul (a := 2000) (b := 64) (Nat.lt_of_le_of_lt (totM_bits hr0 i _ a1) (Nat.pow_lt_pow_right (by decide) (by omega))) ?_ (by decide) (by decide) (by decide)
      rw [Int.natAbs_natCast]
      exact Nat.lt_of_le_of_lt hr0.bound.2 (by decide)
    · rw [List.length_zip, totM_length hr0]; omega
    · show some (Sl.d _) = some (Sl.d (intsD (List.zipWith _ (totM r i) (numsR r (i + 1)))))
      unfold intsD
      rw [List.zip, List.map_zipWith, List.map_zipWith]
    · rw [ei]
    · rw [List.length_range]
    · exact Nat.lt_of_lt_of_le (under_bits hr0 hy) (Nat.pow_le_pow_right (by decide) (by decide))
    · rw [totM_length hr0]; omega
    · unfold totalsD
      congr 1
      rw [map_range (fun n => fr (qd n ((lcmD r : Int) ^ y))) 0 (totM r y), totM_length hr0]
      refine List.map_congr_left fun k hk => ?_
      have hk := List.mem_range.mp hk
      congr 1
      refine qd_cast (LZ_pos hr0 y) ?_
      rw [totM_q hr0 hk, Rat.intCast_pow]

abbrev s_older : Stmt := topS 37
abbrev N_older : List Str := ["row", "age", "numbers", "under"]
theorem sc_older : FnScope N_older ["row", "age"] (defScope s_older) := ⟨rfl, rfl, rfl, by decide +kernel, rfl, by decide +kernel, by decide +kernel⟩
def R_older : List D → D → Prop := fun ds d => ∃ (r : List Rat) (y : Nat), Row r ∧ y ≤ 20 ∧ ds = [rowD r, intD y] ∧ d = fr (M.older r y)
theorem ok_older {P : Program} {w : World} {K : PySem.W.Frag} {mg : Str → Option Value} {base : Heap} (T : Bl mg) (c_fraction : Callee P w K mg base 1 "fraction" ["above", "below"] (SpR R_fraction)) (c_need_from_zero : Callee P w K mg base 1 "need_from_zero" ["number"] (SpR R_need_from_zero)) (c_need_row : Callee P w K mg base 5 "need_row" ["row"] (SpR R_need_row)) (c_row_series : Callee P w K mg base 3 "row_series" ["row", "years"] (SpR R_row_series)) {f : Addr} {fd : FuncData} (F : Fun K "older" "older" s_older f fd) : FnOk P w K mg base CX0 6 f fd ["row", "age"] (SpR R_older) := by
  refine F.ok sc_older (fun vs H Q E h => ?_) (fun cdv A outer s H vs Q E hr h => ?_)
  · obtain ⟨_, _, _, _, r, ⟨r, y, hr0, hy, rfl, rfl⟩, _⟩ := h
    exact r.len
  · obtain ⟨F0, ds, d, hF, hrep, ⟨r, y, hr0, hy, rfl, rfl⟩, fin⟩ := h
    refine ⟨_, (pss_cons (ps_expr (pe_callC c_need_row hr (by decide) (by rfl) (pa_cons (pv 0) pa_nil))) (pss_cons (ps_expr (pe_callC c_need_from_zero hr (by decide) (by rfl) (pa_cons (pv 1) pa_nil))) (pss_cons (ps_if (pt_cmpR op_eq (pv 1) pe_int (nomark _)) (pss_one (ps_ret (pe_tup (pa_cons pe_int (pa_cons pe_int pa_nil))))) pss_nil) (pss_cons (ps_asg (pe_ix (r := rIx K) ix_seq (pe_callC c_row_series hr (by decide) (by rfl) (pa_cons (pv 0) (pa_cons (pe_op op_sub (pv 1) pe_int) pa_nil))) (pe_un un_neg pe_int) (fun _ _ => rfl)) (pg_tup rfl (pgs_cons (pg_name (i := 2) sc_older.nd rfl (.inl rfl)) (pgs_cons (pg_name (i := 3) sc_older.nd rfl (.inl rfl)) pgs_nil)))) (pss_one (ps_ret (pe_callC c_fraction hr (by decide) (by rfl) (pa_cons (pe_callB (r := rSum K) (cr_sum rfl) (by rfl) T.sum (by decide +kernel) (pa_cons (pv 2) pa_nil)) (pa_cons (pv 3) pa_nil))))))))), def_ret hF hrep fin ?_⟩
    refine Rt_seq (N_drop (E_call (EA_cons (E_var rfl) EA_nil) ⟨r, hr0, rfl, rfl⟩)) (Rt_seq (N_drop (E_call (EA_cons (E_var rfl) EA_nil) ⟨y, rfl, rfl⟩)) ?_)
    cases y with
    | zero => exact Rt_first (Rt_if_t (T_is (T_test (E_eqI (E_var rfl) E_int)) rfl) (Rt_ret (E_tup (EA_cons E_int (EA_cons E_int EA_nil)) l2)))
    | succ y =>
      refine Rt_seq (N_if_f (T_is (T_test (E_eqI (E_var rfl) E_int)) (decide_eq_false (by omega))) N_next)
        (Rt_seq (N_asg2 (K := K) (d := intsD (numsR r y)) (e := .int ((lcmD r : Int) ^ y)) (E_ixL (E_call (EA_cons (E_var rfl) (EA_cons (E_sub (E_var rfl) E_int) EA_nil)) ⟨r, y, hr0, by omega, ?_, rfl⟩) (E_neg E_int) atI_range))
        (Rt_ret (E_is (E_call (EA_cons (E_sum (E_var rfl)) (EA_cons (E_var rfl) EA_nil)) ⟨_, _, rfl, LZ_pos hr0 y, ?_, rfl⟩) ?_)))
      · show [rowD r, PyData.int (((y + 1 : Nat) : Int) - 1)] = _
        rw [show (((y + 1 : Nat) : Int) - 1) = (y : Int) by omega]; rfl
      · exact Nat.lt_of_lt_of_le (under_bits hr0 (by omega)) (Nat.pow_le_pow_right (by decide) (by decide))
      · rw [rem_q hr0]; rfl

end Cal
set_option Elab.async false
set_option linter.all false
set_option maxRecDepth 100000
set_option maxHeartbeats 4000000
namespace Cal
open PySem PySem.Spec PyProof.Rows L2

/-! ### the law's own helpers -/
def euS (p : Int × Int) : Int × Int := (p.2, p.1 % p.2)
def euI (p : Int × Int) : Nat → Int × Int
  | 0 => p
  | i + 1 => euS (euI p i)
theorem euI_shift (p : Int × Int) : ∀ i, euI (euS p) i = euI p (i + 1)
  | 0 => rfl
  | i + 1 => by show euS (euI (euS p) i) = euS (euI p (i + 1)); rw [euI_shift p i]
theorem eu_ends : ∀ (N : Nat) (x y : Int), 0 ≤ x → 0 ≤ y → y.toNat ≤ N → ∃ n, (∀ i, i < n → 0 < (euI (x, y) i).2) ∧ (euI (x, y) n).2 = 0 ∧ (euI (x, y) n).1 = ((Nat.gcd x.natAbs y.natAbs : Nat) : Int)
  | N, x, y, hx, hy, hN => by
    by_cases h0 : y = 0
    · subst h0
      refine ⟨0, fun i hi => absurd hi (Nat.not_lt_zero i), rfl, ?_⟩
      show x = _
      rw [show (0 : Int).natAbs = 0 from rfl, Nat.gcd_zero_right]; omega
    · cases N with
      | zero => omega
      | succ N =>
        have h1 : 0 ≤ x % y := Int.emod_nonneg x h0
        have h2 : x % y < y := Int.emod_lt_of_pos x (by omega)
        obtain ⟨n, a, b, c⟩ := eu_ends N y (x % y) hy h1 (by omega)
        refine ⟨n + 1, fun i hi => ?_, ?_, ?_⟩
        · cases i with
          | zero => show 0 < y; omega
          | succ i =>
            have := a i (by omega)
            rw [← euI_shift]; exact this
        · rw [← euI_shift]; exact b
        · rw [← euI_shift]
          show (euI (y, x % y) n).1 = _
          rw [c]
          congr 1
          have e : (x % y).natAbs = x.natAbs % y.natAbs := by
            have hx' : x = ((x.natAbs : Nat) : Int) := by omega
            have hy' : y = ((y.natAbs : Nat) : Int) := by omega
            rw [hx', hy', ← Int.natCast_emod, Int.natAbs_natCast, Int.natAbs_natCast, Int.natAbs_natCast]
          rw [e, Nat.gcd_comm x.natAbs, Nat.gcd_rec y.natAbs x.natAbs, Nat.gcd_comm]

abbrev s_Llow : Stmt := topS 44
abbrev N_Llow : List Str := ["_law_above", "_law_below", "_law_one", "_law_other"]
theorem sc_Llow : FnScope N_Llow ["_law_above", "_law_below"] (defScope s_Llow) := ⟨rfl, rfl, rfl, by decide +kernel, rfl, by decide +kernel, by decide +kernel⟩
def R_Llow : List D → D → Prop := fun ds d => ∃ a b : Int, ds = [.int a, .int b] ∧ 0 < b ∧ b.natAbs < 2 ^ 8000 ∧ d = fr (qd a b)
theorem ok_Llow {P : Program} {w : World} {K : PySem.W.Frag} {mg : Str → Option Value} {base : Heap} (T : Bl mg) {f : Addr} {fd : FuncData} (F : Fun K "_law_low" "_law_low" s_Llow f fd) : FnOk P w K mg base CX0 1 f fd ["_law_above", "_law_below"] (SpR R_Llow) := by
  refine F.ok sc_Llow (fun vs H Q E h => ?_) (fun cdv A outer s H vs Q E hr h => ?_)
  · obtain ⟨_, _, _, _, r, ⟨a, b, rfl, hb, hb2, rfl⟩, _⟩ := h
    exact r.len
  · obtain ⟨F0, ds, d, hF, hrep, ⟨a, b, rfl, hb, hb2, rfl⟩, fin⟩ := h
    refine ⟨_, (pss_cons (ps_par (i := 2) (j := 3) (by rfl) sc_Llow.nd rfl rfl (by decide) rfl rfl (pa_cons (pe_callB (r := rAbs) call_abs (by rfl) T.abs (by decide +kernel) (pa_cons (pv 0) pa_nil)) (pa_cons (pv 1) pa_nil)) (by rfl)) (pss_cons (ps_while PassesOwn.never (pt_cmpR op_gt (pv 3) pe_int (nomark _)) (pss_one (ps_par (i := 2) (j := 3) (by rfl) sc_Llow.nd rfl rfl (by decide) rfl rfl (pa_cons (pv 3) (pa_cons (pe_op op_mod (pe_callTy (r := rInt1) call_int1 (by rfl) T.int (by decide +kernel) (pa_cons (pv 2) pa_nil)) (pv 3)) pa_nil)) (by rfl)))) (pss_one (ps_ret (pe_tup (pa_cons (pe_op op_fdivW (pv 0) (pv 2)) (pa_cons (pe_op op_fdivW (pv 1) (pv 2)) pa_nil))))))), def_ret hF hrep fin ?_⟩
    have hd := gcd_ok (a := a) hb hb2
    have ha : (0 : Int) ≤ (if a < 0 then -a else a) := by split <;> omega
    have ea : (if a < 0 then -a else a).natAbs = a.natAbs := by split <;> omega
    obtain ⟨n, h1, h2, h3⟩ := eu_ends b.toNat (if a < 0 then -a else a) b ha (by omega) (Nat.le_refl _)
    rw [ea] at h3
    refine Rt_seq (N_par (E_abs (E_var rfl)) (E_var rfl)) (Rt_seq (N_while (n := n) (fun i => [some (.d (.int a)), some (.d (.int b)), some (.d (.int (euI (if a < 0 then -a else a, b) i).1)), some (.d (.int (euI (if a < 0 then -a else a, b) i).2))]) rfl
        (fun i hi => T_is (T_test (E_gt (E_var rfl) E_int)) (decide_eq_true (h1 i hi))) (fun i hi => N_par (E_var rfl) (E_mod (E_intI (E_var rfl)) (E_var rfl) (h1 i hi))) (T_is (T_test (E_gt (E_var rfl) E_int)) ?_))
      (Rt_ret (E_is (E_tup (EA_cons (E_fdiv (E_var rfl) (E_var rfl) ?_) (EA_cons (E_fdiv (E_var rfl) (E_var rfl) ?_) EA_nil)) l2) ?_)))
    · rw [h2]; rfl
    · rw [h3]; exact hd.1
    · rw [h3]; exact hd.2
    · rw [h3]
      unfold fr
      rw [qd_num hb, qd_den hb]

abbrev s_Lsame : Stmt := topS 45
abbrev N_Lsame : List Str := ["_law_told", "_law_due", "_law_k"]
theorem sc_Lsame : FnScope N_Lsame ["_law_told", "_law_due"] (defScope s_Lsame) := ⟨rfl, rfl, rfl, by decide +kernel, rfl, by decide +kernel, by decide +kernel⟩
/-- plain data, n deep at most -/
inductive Pl : Nat → D → Prop
  | int {n : Nat} (i : Int) : Pl (n + 1) (.int i)
  | bool {n : Nat} (b : Bool) : Pl (n + 1) (.bool b)
  | lst {n : Nat} {ds : List D} : (∀ d ∈ ds, Pl n d) → ds.length ≤ 40000 → Pl (n + 1) (.list ds)
  | tup {n : Nat} {ds : List D} : (∀ d ∈ ds, Pl n d) → ds.length ≤ 40000 → Pl (n + 1) (.tuple ds)
def R_Lsame (n : Nat) : List D → D → Prop := fun ds d => ∃ e, ds = [e, e] ∧ Pl n e ∧ d = .bool true
theorem E_none {K : PySem.W.Frag} {ρ : Rho} {ta : TE} (h : EO ta ρ []) : E (tOp (rEqD K) ta (tLst tNil)) ρ (.bool true) :=
  E_is (E_eqD (E_of_EO h) (E_of_EO (EO_lst EA_nil l0)) rfl rfl) rfl
theorem filter_none {n : Nat} {f : Nat → D} : ((List.range n).filter fun _ => false).map f = [] := by rw [List.filter_eq_nil_iff.mpr (by intro a _; decide)]; rfl
theorem ok_Lsame {P : Program} {w : World} {K : PySem.W.Frag} {mg : Str → Option Value} {base : Heap} {n : Nat} (T : Bl mg) (c_Lsame : Callee P w K mg base n "_law_same" ["_law_told", "_law_due"] (SpR (R_Lsame n))) {f : Addr} {fd : FuncData} (F : Fun K "_law_same" "_law_same" s_Lsame f fd) : FnOk P w K mg base CX0 (n + 1) f fd ["_law_told", "_law_due"] (SpR (R_Lsame (n + 1))) := by
  refine F.ok sc_Lsame (fun vs H Q E h => ?_) (fun cdv A outer s H vs Q E hr h => ?_)
  · obtain ⟨_, _, _, _, r, ⟨e, rfl, hp, rfl⟩, _⟩ := h
    exact r.len
  · obtain ⟨F0, ds, d, hF, hrep, ⟨e, rfl, hp, rfl⟩, fin⟩ := h
    refine ⟨_, (pss_cons (ps_if (PW.pt (pw_or (pt_val (pe_callB (r := rIsi K) call_isi (by rfl) T.isinstance (by decide +kernel) (pa_cons (pv 1) (pa_cons (pe_bltn (v := .ty "tuple") (by rfl) T.tuple (by decide +kernel) rfl) pa_nil)))) (pw_or1 (pt_val (pe_callB (r := rIsi K) call_isi (by rfl) T.isinstance (by decide +kernel) (pa_cons (pv 1) (pa_cons (pe_bltn (v := .ty "list") (by rfl) T.list (by decide +kernel) rfl) pa_nil))))))) (pss_cons (ps_if (PW.pt (pw_or (pt_cmpR op_ne (pe_callB (r := rIsi K) call_isi (by rfl) T.isinstance (by decide +kernel) (pa_cons (pv 0) (pa_cons (pe_bltn (v := .ty "tuple") (by rfl) T.tuple (by decide +kernel) rfl) pa_nil))) (pe_callB (r := rIsi K) call_isi (by rfl) T.isinstance (by decide +kernel) (pa_cons (pv 1) (pa_cons (pe_bltn (v := .ty "tuple") (by rfl) T.tuple (by decide +kernel) rfl) pa_nil))) (nomark _)) (pw_or1 (pt_cmpR op_ne (pe_callB (r := rIsi K) call_isi (by rfl) T.isinstance (by decide +kernel) (pa_cons (pv 0) (pa_cons (pe_bltn (v := .ty "list") (by rfl) T.list (by decide +kernel) rfl) pa_nil))) (pe_callB (r := rIsi K) call_isi (by rfl) T.isinstance (by decide +kernel) (pa_cons (pv 1) (pa_cons (pe_bltn (v := .ty "list") (by rfl) T.list (by decide +kernel) rfl) pa_nil))) (nomark _))))) (pss_one (ps_ret pe_bl)) pss_nil) (pss_cons (ps_if (pt_cmpR op_ne (pe_callB (r := rLenS K) call_len_seq (by rfl) T.len (by decide +kernel) (pa_cons (pv 0) pa_nil)) (pe_callB (r := rLenS K) call_len_seq (by rfl) T.len (by decide +kernel) (pa_cons (pv 1) pa_nil)) (nomark _)) (pss_one (ps_ret pe_bl)) pss_nil) (pss_one (ps_ret (pe_cmpR (r := rEqD K) (op_eqD hr.units) (pe_lc (own := [("_law_k", 2)]) (g := gName 2) (by rfl) sc_Lsame.nd (pi_range1 rfl T.range (pa_cons (pe_callB (r := rLenS K) call_len_seq (by rfl) T.len (by decide +kernel) (pa_cons (pv 1) pa_nil)) pa_nil)) (blkOk_by (own := [("_law_k", 2)]) (N := N_Lsame) (sc := defScope s_Lsame) (by decide +kernel)) (fun _ _ _ _ _ => (pg_name (i := 2) sc_Lsame.nd rfl (.inl rfl))) (fun _ _ _ _ _ => (pts_one (pt_not (pt_val (pe_callC c_Lsame hr (Nat.le_refl _) (by rfl) (pa_cons (pe_ix (r := rIx K) ix_seq (pv 0) (pv 2) (fun _ _ => rfl)) (pa_cons (pe_ix (r := rIx K) ix_seq (pv 1) (pv 2) (fun _ _ => rfl)) pa_nil))))))) (fun _ _ _ _ _ => (pv 2))) (pe_lst pa_nil) (nomark _)))))) pss_nil) (pss_cons (ps_if (pt_cmpR op_isN (pv 1) pe_non (nomark _)) (pss_one (ps_ret (pe_cmpR op_isN (pv 0) pe_non (nomark _)))) pss_nil) (pss_cons (ps_if (pt_val (pe_callB (r := rIsi K) call_isi (by rfl) T.isinstance (by decide +kernel) (pa_cons (pv 1) (pa_cons (pe_bltn (v := .ty "bool") (by rfl) T.bool (by decide +kernel) rfl) pa_nil)))) (pss_one (ps_ret (pe_and (pe_callB (r := rIsi K) call_isi (by rfl) T.isinstance (by decide +kernel) (pa_cons (pv 0) (pa_cons (pe_bltn (v := .ty "bool") (by rfl) T.bool (by decide +kernel) rfl) pa_nil))) (pe_one (pe_cmpR op_eq (pv 0) (pv 1) (nomark _)))))) pss_nil) (pss_cons (ps_if (pt_val (pe_callB (r := rIsi K) call_isi (by rfl) T.isinstance (by decide +kernel) (pa_cons (pv 1) (pa_cons (pe_bltn (v := .ty "str") (by rfl) T.str (by decide +kernel) rfl) pa_nil)))) (pss_one (ps_ret (pe_and (pe_callB (r := rIsi K) call_isi (by rfl) T.isinstance (by decide +kernel) (pa_cons (pv 0) (pa_cons (pe_bltn (v := .ty "str") (by rfl) T.str (by decide +kernel) rfl) pa_nil))) (pe_one (pe_cmpR op_eq (pv 0) (pv 1) (nomark _)))))) pss_nil) (pss_one (ps_ret (pe_and (pe_callB (r := rIsi K) call_isi (by rfl) T.isinstance (by decide +kernel) (pa_cons (pv 0) (pa_cons (pe_bltn (v := .ty "int") (by rfl) T.int (by decide +kernel) rfl) pa_nil))) (pe_and (pe_not (pe_callB (r := rIsi K) call_isi (by rfl) T.isinstance (by decide +kernel) (pa_cons (pv 0) (pa_cons (pe_bltn (v := .ty "bool") (by rfl) T.bool (by decide +kernel) rfl) pa_nil)))) (pe_one (pe_cmpR op_eq (pv 0) (pv 1) (nomark _))))))))))), def_ret hF hrep fin ?_⟩
    cases hp with
    | int i =>
      refine Rt_seq (N_if_f (T_is (T_or (T_B (E_isiI (E_var rfl) kit_it)) (fun _ => T_B (E_isiI (E_var rfl) kit_il))) rfl) N_next)
        (Rt_seq (N_if_f (T_is (T_test (E_isN (E_var rfl) (by intro z; cases z))) rfl) N_next)
        (Rt_seq (N_if_f (T_B (E_isiI (E_var rfl) kit_ib)) N_next)
        (Rt_seq (N_if_f (T_B (E_isiI (E_var rfl) kit_is)) N_next)
        (Rt_ret (E_is (E_and (E_isiI (E_var rfl) kit_ii) (fun _ => E_and (E_not (E_isiI (E_var rfl) kit_ib)) (fun _ => E_eqI (E_var rfl) (E_var rfl)))) ?_)))))
      rw [decide_eq_true (rfl : i = i)]; rfl
    | bool b =>
      refine Rt_seq (N_if_f (T_is (T_or (T_B (E_isiB (E_var rfl) kit_bt)) (fun _ => T_B (E_isiB (E_var rfl) kit_bl))) rfl) N_next)
        (Rt_seq (N_if_f (T_is (T_test (E_isN (E_var rfl) (by intro z; cases z))) rfl) N_next)
        (Rt_first (Rt_if_t (T_B (E_isiB (E_var rfl) kit_bb)) (Rt_ret (E_is (E_and (E_isiB (E_var rfl) kit_bb) (fun _ => E_eqB (E_var rfl) (E_var rfl))) ?_)))))
      rw [beq_self_eq_true]; rfl
    | lst h hl =>
      rename_i ds
      refine Rt_first (Rt_if_t (T_is (T_or (T_B (E_isiL (E_var rfl) kit_lt)) (fun _ => T_B (E_isiL (E_var rfl) kit_ll))) rfl)
        (Rt_seq (N_if_f (T_is (T_or (T_test (E_neB (E_isiL (E_var rfl) kit_lt) (E_isiL (E_var rfl) kit_lt))) (fun _ => T_test (E_neB (E_isiL (E_var rfl) kit_ll) (E_isiL (E_var rfl) kit_ll)))) rfl) N_next)
        (Rt_seq (N_if_f (T_is (T_test (E_neI (E_lenL (E_var rfl)) (E_lenL (E_var rfl)))) ?_) N_next)
        (Rt_ret (E_none (EO_is (EO_lcRP (n := ds.length) (p := fun _ => false) (f := fun i => .int (i : Int)) (E_lenL (E_var rfl)) (by omega) (fun i hi => T_is (T_not (T_B (E_call (EA_cons (E_ixL (E_var rfl) (E_var rfl) (atI_nat (List.getElem?_eq_getElem hi))) (EA_cons (E_ixL (E_var rfl) (E_var rfl) (atI_nat (List.getElem?_eq_getElem hi))) EA_nil)) ⟨_, rfl, h _ (List.getElem_mem hi), rfl⟩))) rfl) (fun i hi z => by cases z)) filter_none))))))
      rw [decide_eq_true (rfl : (ds.length : Int) = ds.length)]; rfl
    | tup h hl =>
      rename_i ds
      refine Rt_first (Rt_if_t (T_is (T_or (T_B (E_isiT (E_var rfl) kit_tt)) (fun _ => T_B (E_isiT (E_var rfl) kit_tl))) rfl)
        (Rt_seq (N_if_f (T_is (T_or (T_test (E_neB (E_isiT (E_var rfl) kit_tt) (E_isiT (E_var rfl) kit_tt))) (fun _ => T_test (E_neB (E_isiT (E_var rfl) kit_tl) (E_isiT (E_var rfl) kit_tl)))) rfl) N_next)
        (Rt_seq (N_if_f (T_is (T_test (E_neI (E_lenT (E_var rfl)) (E_lenT (E_var rfl)))) ?_) N_next)
        (Rt_ret (E_none (EO_is (EO_lcRP (n := ds.length) (p := fun _ => false) (f := fun i => .int (i : Int)) (E_lenT (E_var rfl)) (by omega) (fun i hi => T_is (T_not (T_B (E_call (EA_cons (E_ixT (E_var rfl) (E_var rfl) (atI_nat (List.getElem?_eq_getElem hi))) (EA_cons (E_ixT (E_var rfl) (E_var rfl) (atI_nat (List.getElem?_eq_getElem hi))) EA_nil)) ⟨_, rfl, h _ (List.getElem_mem hi), rfl⟩))) rfl) (fun i hi z => by cases z)) filter_none))))))
      rw [decide_eq_true (rfl : (ds.length : Int) = ds.length)]; rfl


theorem same_all {P : Program} {w : World} {K : PySem.W.Frag} {mg : Str → Option Value} {base : Heap} (T : Bl mg) {f : Addr} {fd : FuncData} (F : Fun K "_law_same" "_law_same" s_Lsame f fd) (hm : mg "_law_same" = some (.ref f)) (hb : Binds K fd ["_law_told", "_law_due"] []) :
    ∀ n, Callee P w K mg base n "_law_same" ["_law_told", "_law_due"] (SpR (R_Lsame n))
  | 0 => by
    have no : ∀ vs H Q E, ¬ SpR (R_Lsame 0) vs H Q E := fun vs H Q E h => by
      obtain ⟨_, _, _, _, _, ⟨e, _, hp, _⟩, _⟩ := h
      cases hp
    exact ⟨f, fd, ⟨fun vs H Q E h => absurd h (no vs H Q E), fun _ _ _ H _ _ vs Q E _ _ _ _ h => absurd h (no vs H Q E)⟩, hm, F.kp, hb⟩
  | n + 1 => ⟨f, fd, ok_Lsame T (same_all T F hm hb n) F, hm, F.kp, hb⟩
theorem Pl.mono {n : Nat} : ∀ {d : D}, Pl n d → Pl (n + 1) d := by
  induction n with
  | zero => intro d h; cases h
  | succ n ih =>
    intro d h
    cases h with
    | int i => exact .int i
    | bool b => exact .bool b
    | lst h l => exact .lst (fun d hd => ih (h d hd)) l
    | tup h l => exact .tup (fun d hd => ih (h d hd)) l
theorem Pl.up {n m : Nat} {d : D} (h : Pl n d) (hm : n ≤ m) : Pl m d := by
  induction m with
  | zero => have : n = 0 := by omega
            subst this; exact h
  | succ m ih =>
    by_cases e : n = m + 1
    · subst e; exact h
    · exact (ih (by omega)).mono
theorem pl_fr (q : Rat) : Pl 2 (fr q) := .tup (fun d hd => by
  rcases List.mem_cons.mp hd with rfl | hd
  · exact .int _
  · rcases List.mem_cons.mp hd with rfl | hd
    · exact .int _
    · cases hd) (by simp)
theorem pl_pair {n : Nat} {a b : D} (ha : Pl n a) (hb : Pl n b) : Pl (n + 1) (pairD a b) := .tup (fun d hd => by
  rcases List.mem_cons.mp hd with rfl | hd
  · exact ha
  · rcases List.mem_cons.mp hd with rfl | hd
    · exact hb
    · cases hd) (by simp)
theorem pl_map {n : Nat} {α : Type} {xs : List α} {f : α → D} (h : ∀ x ∈ xs, Pl n (f x)) (hl : xs.length ≤ 40000) : Pl (n + 1) (.list (xs.map f)) ∧ Pl (n + 1) (.tuple (xs.map f)) :=
  ⟨.lst (fun d hd => by obtain ⟨x, hx, rfl⟩ := List.mem_map.mp hd; exact h x hx) (by simpa using hl), .tup (fun d hd => by obtain ⟨x, hx, rfl⟩ := List.mem_map.mp hd; exact h x hx) (by simpa using hl)⟩
theorem pl_years {c : Nat → Rat} {y : Nat} (hy : y ≤ 1000) : Pl 4 (yearsD c y) := (pl_map (n := 3) (fun b _ => pl_pair (n := 2) (.int _) (pl_fr _)) (by
  refine Nat.le_trans (List.length_filter_le _ _) ?_
  rw [List.length_range]; omega)).1

abbrev s_Lplus : Stmt := topS 46
abbrev N_Lplus : List Str := ["_law_one", "_law_other"]
theorem sc_Lplus : FnScope N_Lplus ["_law_one", "_law_other"] (defScope s_Lplus) := ⟨rfl, rfl, rfl, by decide +kernel, rfl, by decide +kernel, by decide +kernel⟩
def R_Lplus : List D → D → Prop := fun ds d => ∃ (p q : Rat) (n k n' k' : Nat), ds = [fr p, fr q] ∧ Sz n k p ∧ Sz n' k' q ∧ n + n' + k + k' ≤ 900000 ∧ (0 < n ∧ 0 < n' ∧ 0 < k ∧ 0 < k') ∧ k + k' ≤ 8000 ∧ d = fr (p + q)
theorem ok_Lplus {P : Program} {w : World} {K : PySem.W.Frag} {mg : Str → Option Value} {base : Heap} (T : Bl mg) (c_Llow : Callee P w K mg base 1 "_law_low" ["_law_above", "_law_below"] (SpR R_Llow)) {f : Addr} {fd : FuncData} (F : Fun K "_law_plus" "_law_plus" s_Lplus f fd) : FnOk P w K mg base CX0 2 f fd ["_law_one", "_law_other"] (SpR R_Lplus) := by
  refine F.ok sc_Lplus (fun vs H Q E h => ?_) (fun cdv A outer s H vs Q E hr h => ?_)
  · obtain ⟨_, _, _, _, r, ⟨p, q, n, k, n', k', rfl, h1, h2, h3, h4, h5, rfl⟩, _⟩ := h
    exact r.len
  · obtain ⟨F0, ds, d, hF, hrep, ⟨p, q, n, k, n', k', rfl, h1, h2, h3, h4, h5, rfl⟩, fin⟩ := h
    refine ⟨_, (pss_one (ps_ret (pe_callC c_Llow hr (by decide) (by rfl) (pa_cons (pe_op op_add (pe_op op_mulW (pe_ix (r := rIx K) ix_seq (pv 0) pe_int (fun _ _ => rfl)) (pe_ix (r := rIx K) ix_seq (pv 1) pe_int (fun _ _ => rfl))) (pe_op op_mulW (pe_ix (r := rIx K) ix_seq (pv 1) pe_int (fun _ _ => rfl)) (pe_ix (r := rIx K) ix_seq (pv 0) pe_int (fun _ _ => rfl)))) (pa_cons (pe_op op_mulW (pe_ix (r := rIx K) ix_seq (pv 0) pe_int (fun _ _ => rfl)) (pe_ix (r := rIx K) ix_seq (pv 1) pe_int (fun _ _ => rfl))) pa_nil))))), def_ret hF hrep fin ?_⟩
    have hp := p.den_pos
    have hq := q.den_pos
    refine Rt_ret (E_is (E_call (EA_cons (E_add (E_mul (E_ixT (E_var rfl) E_int rfl) (E_ixT (E_var rfl) E_int rfl) (h1.mulOk h2 h3 h4).2.1) (E_mul (E_ixT (E_var rfl) E_int rfl) (E_ixT (E_var rfl) E_int rfl) (h1.mulOk h2 h3 h4).2.2.2)) (EA_cons (E_mul (E_ixT (E_var rfl) E_int rfl) (E_ixT (E_var rfl) E_int rfl) (h1.mulOk h2 h3 h4).2.2.1) EA_nil)) ⟨_, _, rfl, ?_, ?_, rfl⟩) ?_)
    · exact Int.mul_pos (by omega) (by omega)
    · rw [Int.natAbs_mul, Int.natAbs_natCast, Int.natAbs_natCast]
      exact Nat.lt_of_lt_of_le (pow_add_lt h1.den h2.den) (Nat.pow_le_pow_right (by decide) h5)
    · rw [qd_add]

abbrev s_Ltimes : Stmt := topS 47
abbrev N_Ltimes : List Str := ["_law_one", "_law_other"]
theorem sc_Ltimes : FnScope N_Ltimes ["_law_one", "_law_other"] (defScope s_Ltimes) := ⟨rfl, rfl, rfl, by decide +kernel, rfl, by decide +kernel, by decide +kernel⟩
def R_Ltimes : List D → D → Prop := fun ds d => ∃ (p q : Rat) (n k n' k' : Nat), ds = [fr p, fr q] ∧ Sz n k p ∧ Sz n' k' q ∧ n + n' + k + k' ≤ 900000 ∧ (0 < n ∧ 0 < n' ∧ 0 < k ∧ 0 < k') ∧ k + k' ≤ 8000 ∧ d = fr (p * q)
theorem ok_Ltimes {P : Program} {w : World} {K : PySem.W.Frag} {mg : Str → Option Value} {base : Heap} (T : Bl mg) (c_Llow : Callee P w K mg base 1 "_law_low" ["_law_above", "_law_below"] (SpR R_Llow)) {f : Addr} {fd : FuncData} (F : Fun K "_law_times" "_law_times" s_Ltimes f fd) : FnOk P w K mg base CX0 2 f fd ["_law_one", "_law_other"] (SpR R_Ltimes) := by
  refine F.ok sc_Ltimes (fun vs H Q E h => ?_) (fun cdv A outer s H vs Q E hr h => ?_)
  · obtain ⟨_, _, _, _, r, ⟨p, q, n, k, n', k', rfl, h1, h2, h3, h4, h5, rfl⟩, _⟩ := h
    exact r.len
  · obtain ⟨F0, ds, d, hF, hrep, ⟨p, q, n, k, n', k', rfl, h1, h2, h3, h4, h5, rfl⟩, fin⟩ := h
    refine ⟨_, (pss_one (ps_ret (pe_callC c_Llow hr (by decide) (by rfl) (pa_cons (pe_op op_mulW (pe_ix (r := rIx K) ix_seq (pv 0) pe_int (fun _ _ => rfl)) (pe_ix (r := rIx K) ix_seq (pv 1) pe_int (fun _ _ => rfl))) (pa_cons (pe_op op_mulW (pe_ix (r := rIx K) ix_seq (pv 0) pe_int (fun _ _ => rfl)) (pe_ix (r := rIx K) ix_seq (pv 1) pe_int (fun _ _ => rfl))) pa_nil))))), def_ret hF hrep fin ?_⟩
    have hp := p.den_pos
    have hq := q.den_pos
    refine Rt_ret (E_is (E_call (EA_cons (E_mul (E_ixT (E_var rfl) E_int rfl) (E_ixT (E_var rfl) E_int rfl) (h1.mulOk h2 h3 h4).1) (EA_cons (E_mul (E_ixT (E_var rfl) E_int rfl) (E_ixT (E_var rfl) E_int rfl) (h1.mulOk h2 h3 h4).2.2.1) EA_nil)) ⟨_, _, rfl, ?_, ?_, rfl⟩) ?_)
    · exact Int.mul_pos (by omega) (by omega)
    · rw [Int.natAbs_mul, Int.natAbs_natCast, Int.natAbs_natCast]
      exact Nat.lt_of_lt_of_le (pow_add_lt h1.den h2.den) (Nat.pow_le_pow_right (by decide) h5)
    · rw [qd_mul]


theorem conv_sz {f g : Nat → Rat} {a : Nat} (hf : ∀ t, t ≤ a → Sz 2100 310 (f t)) (hg : ∀ t, t ≤ a → Sz 2100 310 (g t)) : ∀ i, i ≤ a + 1 → i ≤ 11 → Sz (60000 * i + 1) (620 * i + 1) (M.sumTo (fun j => f j * g (a - j)) i)
  | 0, _, _ => ⟨by show (0 : Rat).num.natAbs < 2 ^ 1; decide, by show (0 : Rat).den < 2 ^ 1; decide⟩
  | i + 1, hi, h11 => by
    have ih := conv_sz hf hg i (by omega) (by omega)
    exact (ih.plus ((hf i (by omega)).times (hg (a - i) (by omega)))).mono (by omega) (by omega)

abbrev s_Lproducts : Stmt := topS 49
abbrev N_Lproducts : List Str := ["_law_ones", "_law_others", "_law_age", "_law_total", "_law_part"]
theorem sc_Lproducts : FnScope N_Lproducts ["_law_ones", "_law_others", "_law_age"] (defScope s_Lproducts) := ⟨rfl, rfl, rfl, by decide +kernel, rfl, by decide +kernel, by decide +kernel⟩
def R_Lproducts : List D → D → Prop := fun ds d => ∃ (f g : Nat → Rat) (n m a : Nat), ds = [.list ((List.range n).map fun t => fr (f t)), .list ((List.range m).map fun t => fr (g t)), intD a] ∧ a < n ∧ a < m ∧ a ≤ 10 ∧ (∀ t, t ≤ a → Sz 2100 310 (f t)) ∧ (∀ t, t ≤ a → Sz 2100 310 (g t)) ∧ d = fr (M.conv f g a)
theorem ok_Lproducts {P : Program} {w : World} {K : PySem.W.Frag} {mg : Str → Option Value} {base : Heap} (T : Bl mg) (c_Lplus : Callee P w K mg base 2 "_law_plus" ["_law_one", "_law_other"] (SpR R_Lplus)) (c_Ltimes : Callee P w K mg base 2 "_law_times" ["_law_one", "_law_other"] (SpR R_Ltimes)) {f : Addr} {fd : FuncData} (F : Fun K "_law_products" "_law_products" s_Lproducts f fd) : FnOk P w K mg base CX0 3 f fd ["_law_ones", "_law_others", "_law_age"] (SpR R_Lproducts) := by
  refine F.ok sc_Lproducts (fun vs H Q E h => ?_) (fun cdv A outer s H vs Q E hr h => ?_)
  · obtain ⟨_, _, _, _, r, ⟨f, g, n, m, a, rfl, h1, h2, h3, h4, h5, rfl⟩, _⟩ := h
    exact r.len
  · obtain ⟨F0, ds, d, hF, hrep, ⟨f, g, n, m, a, rfl, h1, h2, h3, h4, h5, rfl⟩, fin⟩ := h
    refine ⟨_, (pss_cons (ps_set (i := 3) sc_Lproducts.nd rfl (.inl rfl) (pe_tup (pa_cons pe_int (pa_cons pe_int pa_nil)))) (pss_cons (ps_for PassesOwn.never rfl (pi_range1 rfl T.range (pa_cons (pe_op op_add (pv 2) pe_int) pa_nil)) (pg_name (i := 4) sc_Lproducts.nd rfl (.inl rfl)) (pss_one (ps_set (i := 3) sc_Lproducts.nd rfl (.inl rfl) (pe_callC c_Lplus hr (by decide) (by rfl) (pa_cons (pv 3) (pa_cons (pe_callC c_Ltimes hr (by decide) (by rfl) (pa_cons (pe_ix (r := rIx K) ix_seq (pv 0) (pv 4) (fun _ _ => rfl)) (pa_cons (pe_ix (r := rIx K) ix_seq (pv 1) (pe_op op_sub (pv 2) (pv 4)) (fun _ _ => rfl)) pa_nil))) pa_nil)))))) (pss_one (ps_ret (pv 3))))), def_ret hF hrep fin ?_⟩
    refine Rt_seq (N_asg (E_tup (EA_cons E_int (EA_cons E_int EA_nil)) l2))
      (Rt_seq (N_forR (n := a + 1) (fun i => [some (.d (.list ((List.range n).map fun t => fr (f t)))), some (.d (.list ((List.range m).map fun t => fr (g t)))), some (.d (intD a)), some (.d (fr (M.sumTo (fun j => f j * g (a - j)) i))), none]) (E_is (E_add (E_var rfl) E_int) rfl) (by omega) rfl
        (fun i hi => N_wk (N_asg (E_call (EA_cons (E_var rfl) (EA_cons (E_call (EA_cons (E_ixL (E_var rfl) (E_var rfl) (atI_map (f := fun t => fr (f t)) (by omega))) (EA_cons (E_ixL (E_var rfl) (E_sub (E_var rfl) (E_var rfl)) (by rw [show ((a : Int) - (i : Int)) = ((a - i : Nat) : Int) by omega]; exact atI_map (f := fun t => fr (g t)) (by omega))) EA_nil)) ⟨f i, g (a - i), 2100, 310, 2100, 310, rfl, h4 i (by omega), h5 (a - i) (by omega), by decide, by decide, by decide, rfl⟩) EA_nil))
          ⟨_, _, 60000 * i + 1, 620 * i + 1, 4200, 620, rfl, conv_sz h4 h5 i (by omega) (by omega), (h4 i (by omega)).times (h5 (a - i) (by omega)), by omega, by omega, by omega, rfl⟩)) (.same rfl (.same rfl (.same rfl (.same rfl (.drop .nil)))))))
      (Rt_ret (E_var rfl)))


theorem EO_lc2P {K : PySem.W.Frag} {wi : TI} {te : TE} {tt : TT} {ρ : Rho} {j k : Nat} {α : Type} {xs : List α} {e1 e2 f : α → D} {p : α → Bool} (hw : W wi ρ (xs.map fun x => pairD (e1 x) (e2 x))) (ht : ∀ x, x ∈ xs → T tt (((wipeR ρ [j, k]).set j (some (.d (e1 x)))).set k (some (.d (e2 x)))) (p x))
    (he : ∀ x, x ∈ xs → p x = true → E te (((wipeR ρ [j, k]).set j (some (.d (e1 x)))).set k (some (.d (e2 x)))) (f x)) (hl : xs.length ≤ 50000) : EO (tLc wi (gTup K 2 (gCons (gName j) (gCons (gName k) gNil))) tt te [j, k]) ρ ((xs.filter p).map f) :=
  EO_lcP (vt := [j, k]) (emb := fun x => pairD (e1 x) (e2 x)) hw (fun _ h => h) (fun _ _ => Tg_pair) ht he hl
theorem year0 {c : Nat → Rat} {y : Nat} (hc : ∀ t, 0 ≤ c t) : atI (((((List.range (y + 1)).filter fun b => decide (0 < c (y - b))).filter fun b : Nat => decide ((b : Int) = 0)).map fun b => fr (c (y - b))) ++ [fr 0]) 0 = some (fr (c y)) := by
  rw [List.filter_filter]
  have e : ((List.range (y + 1)).filter fun b : Nat => decide ((b : Int) = 0) && decide (0 < c (y - b))) = if 0 < c y then [0] else [] := by
    rw [List.range_succ_eq_map, List.filter_cons]
    have e2 : (((List.range y).map Nat.succ).filter fun b : Nat => decide ((b : Int) = 0) && decide (0 < c (y - b))) = [] := by
      rw [List.filter_eq_nil_iff]
      intro b hb
      obtain ⟨k, _, rfl⟩ := List.mem_map.mp hb
      have : decide (((Nat.succ k : Nat) : Int) = 0) = false := decide_eq_false (by omega)
      rw [this]
      simp
    rw [e2]
    by_cases h : 0 < c y
    · simp [h]
    · simp [h]
  rw [e]
  by_cases h : 0 < c y
  · rw [if_pos h]; rfl
  · rw [if_neg h]
    have : c y = 0 := Rat.le_antisymm (Rat.not_lt.mp h) (hc y)
    rw [this]; rfl

abbrev s_Lof_year : Stmt := topS 50
abbrev N_Lof_year : List Str := ["_law_told", "_law_year", "_law_born", "_law_amount"]
theorem sc_Lof_year : FnScope N_Lof_year ["_law_told", "_law_year"] (defScope s_Lof_year) := ⟨rfl, rfl, rfl, by decide +kernel, rfl, by decide +kernel, by decide +kernel⟩
def R_Lof_year : List D → D → Prop := fun ds d => ∃ (c : Nat → Rat) (y : Nat), ds = [yearsD c y, .int 0] ∧ (∀ t, 0 ≤ c t) ∧ y ≤ 1000 ∧ d = fr (c y)
theorem ok_Lof_year {P : Program} {w : World} {K : PySem.W.Frag} {mg : Str → Option Value} {base : Heap} (T : Bl mg) {f : Addr} {fd : FuncData} (F : Fun K "_law_of_year" "_law_of_year" s_Lof_year f fd) : FnOk P w K mg base CX0 1 f fd ["_law_told", "_law_year"] (SpR R_Lof_year) := by
  refine F.ok sc_Lof_year (fun vs H Q E h => ?_) (fun cdv A outer s H vs Q E hr h => ?_)
  · obtain ⟨_, _, _, _, r, ⟨c, y, rfl, hc, hy, rfl⟩, _⟩ := h
    exact r.len
  · obtain ⟨F0, ds, d, hF, hrep, ⟨c, y, rfl, hc, hy, rfl⟩, fin⟩ := h
    refine ⟨_, (pss_one (ps_ret (pe_ix (r := rIx K) ix_seq (pe_op op_cat (pe_lc (own := [("_law_born", 2), ("_law_amount", 3)]) (g := gTup K 2 (gCons (gName 2) (gCons (gName 3) gNil))) (by rfl) sc_Lof_year.nd (pi_list (pv 0)) (blkOk_by (own := [("_law_born", 2), ("_law_amount", 3)]) (N := N_Lof_year) (sc := defScope s_Lof_year) (by decide +kernel)) (fun _ _ _ _ _ => (pg_tup rfl (pgs_cons (pg_name (i := 2) sc_Lof_year.nd rfl (.inl rfl)) (pgs_cons (pg_name (i := 3) sc_Lof_year.nd rfl (.inl rfl)) pgs_nil)))) (fun _ _ _ _ _ => (pts_one (pt_cmpR op_eq (pv 2) (pv 1) (nomark _)))) (fun _ _ _ _ _ => (pv 3))) (pe_lst (pa_cons (pe_tup (pa_cons pe_int (pa_cons pe_int pa_nil))) pa_nil))) pe_int (fun _ _ => rfl)))), def_ret hF hrep fin ?_⟩
    refine Rt_ret (E_ixL (E_of_EO (EO_cat (EO_lc2P (K := K) (xs := (List.range (y + 1)).filter fun b => decide (0 < c (y - b))) (e1 := intD) (e2 := fun b => fr (c (y - b))) (p := fun b => decide ((b : Int) = 0)) (f := fun b => fr (c (y - b))) (W_list (E_var rfl)) (fun b hb => T_test (E_eqI (E_var rfl) (E_var rfl))) (fun b hb _ => E_var rfl) ?_) (EO_lst (EA_cons (E_tup (EA_cons E_int (EA_cons E_int EA_nil)) l2) EA_nil) l1) ?_)) E_int (year0 hc))
    · refine Nat.le_trans (List.length_filter_le _ _) ?_
      rw [List.length_range]; omega
    · rw [List.length_map]
      have h1 := List.length_filter_le (fun b : Nat => decide ((b : Int) = 0)) ((List.range (y + 1)).filter fun b => decide (0 < c (y - b)))
      have h2 := List.length_filter_le (fun b => decide (0 < c (y - b))) (List.range (y + 1))
      rw [List.length_range] at h2
      simp only [List.length_cons, List.length_nil]
      omega

end Cal
set_option Elab.async false
set_option linter.all false
set_option maxRecDepth 100000
set_option maxHeartbeats 4000000
namespace Cal
open PySem PySem.Spec PyProof.Rows L2

/-! ### how great the integers are in the law -/
theorem Row.small {r : List Rat} (h : Row r) (h3 : r.length ≤ 3) (t : Nat) : (((lcmD r : Int)) ^ t).natAbs < 2 ^ (30 * t + 1) := by
  rw [Int.natAbs_pow, Int.natAbs_natCast]
  have h1 : lcmD r ≤ 2 ^ 30 := by
    refine Nat.le_trans (lcmD_bound _ r rfl h.den).2 (Nat.le_trans (Nat.pow_le_pow_right (by decide) h3) (by decide))
  refine Nat.lt_of_le_of_lt (Nat.pow_le_pow_left h1 t) ?_
  rw [← Nat.pow_mul]
  exact Nat.pow_lt_pow_right (by decide) (by omega)
theorem tap_sz {r : List Rat} (h : Row r) (h3 : r.length ≤ 3) : ∀ t, t ≤ 10 → Sz 2100 310 (M.tap r t)
  | 0, _ => by
    rw [M.tap_zero (row_ne h)]
    exact Sz.mono (n := 1) (d := 1) ⟨by decide, by decide⟩ (by decide) (by decide)
  | t + 1, ht => by
    have hs := share_sz h (last_mem h)
    rw [← tap_q h]
    refine Sz.mono (n := 2000 + 64) (d := 30 * t + 1 + 10) (qd_sz (Int.mul_pos (LZ_pos h t) (by omega)) ?_ ?_) (by decide) (by omega)
    · rw [Int.natAbs_mul]
      exact pow_add_lt (nums_last_bits h (by omega)) (by omega)
    · rw [Int.natAbs_mul]
      exact pow_add_lt (h.small h3 t) (show ((r.getLastD 0).den : Int).natAbs < 2 ^ 10 by omega)
theorem older_sz {r : List Rat} (h : Row r) (h3 : r.length ≤ 3) : ∀ t, t ≤ 10 → Sz 2100 310 (M.older r t)
  | 0, _ => Sz.mono (n := 1) (d := 1) ⟨by show (1 : Rat).num.natAbs < 2 ^ 1; decide, by show (1 : Rat).den < 2 ^ 1; decide⟩ (by decide) (by decide)
  | t + 1, ht => by
    show Sz _ _ (M.rem r t)
    rw [← rem_q h]
    refine Sz.mono (n := 63 * t + 4) (d := 30 * t + 1) (qd_sz (LZ_pos h t) ?_ (h.small h3 t)) (by omega) (by omega)
    refine Nat.lt_of_le_of_lt (natAbs_sum_le _ (nums_bits h t)) ?_
    rw [numsR_length h, Nat.pow_add]
    have h6 := h.l6
    have hp : 0 < 2 ^ (63 * t) := Nat.pow_pos (by decide)
    generalize 2 ^ (63 * t) = c at *
    have : r.length * c ≤ 6 * c := Nat.mul_le_mul_right _ h6
    omega
theorem stg_sz {r : List Rat} (h : Row r) (h3 : r.length ≤ 3) {k : Nat} (hk : k < r.length) {t : Nat} (ht : t ≤ 10) : Sz 2100 310 (M.stg r k t) := by
  rw [← stg_q h hk]
  refine Sz.mono (n := 63 * t + 1) (d := 30 * t + 1) (qd_sz (LZ_pos h t) ?_ (h.small h3 t)) (by omega) (by omega)
  have hm : (numsR r t).getD k 0 ∈ numsR r t := by
    have h1 : k < (numsR r t).length := by rw [numsR_length h]; exact hk
    rw [List.getD_eq_getElem?_getD, List.getElem?_eq_getElem h1]
    exact List.getElem_mem _
  exact Nat.lt_of_le_of_lt (nums_bits h t _ hm) (Nat.pow_lt_pow_right (by decide) (by omega))
theorem oldsum_sz {a b : List Rat} (ha : Row a) (ha3 : a.length ≤ 3) (hb : Row b) (hb3 : b.length ≤ 3) {i : Nat} (hi : i ≤ 10) : ∀ j, j ≤ i → Sz (60000 * j + 2100) (620 * j + 310) (M.older a i + M.sumTo (fun j => M.tap a j * M.older b (i - j)) j)
  | 0, _ => by
    show Sz _ _ (M.older a i + 0)
    rw [Rat.add_zero]
    exact older_sz ha ha3 i hi
  | j + 1, hj => by
    have ih := oldsum_sz ha ha3 hb hb3 hi j (by omega)
    show Sz _ _ (M.older a i + (M.sumTo (fun j => M.tap a j * M.older b (i - j)) j + M.tap a j * M.older b (i - j)))
    rw [← Rat.add_assoc]
    exact (ih.plus ((tap_sz ha ha3 j (by omega)).times (older_sz hb hb3 (i - j) (by omega)))).mono (by omega) (by omega)
/-- two rows one behind the other -/
theorem Row.append {a b : List Rat} (ha : Row a) (ha3 : a.length ≤ 3) (hb : Row b) (hb3 : b.length ≤ 3) : Row (a ++ b) := by
  have := ha.l1
  exact ⟨by rw [List.length_append]; omega, by rw [List.length_append]; omega, ha.sh.append hb.sh, fun p hp => (List.mem_append.mp hp).elim (ha.den p) (hb.den p)⟩
theorem conv_nonneg {f g : Nat → Rat} (hf : ∀ t, 0 ≤ f t) (hg : ∀ t, 0 ≤ g t) (t : Nat) : 0 ≤ M.conv f g t := M.sumTo_nonneg fun i _ => Rat.mul_nonneg (hf i) (hg _)
theorem shaped_fr (q : Rat) : SeqAt.shaped (fr q) = true := by
  unfold SeqAt.shaped fr
  simp [PyData.canLay0, PyData.canLayAll0, PyData.depth, PyData.depthAll]
theorem ne_zero {x : Rat} (h : 0 ≤ x) : (!PyData.eqv (fr x) (fr 0)) = decide (0 < x) := by
  have e : PyData.eqv (fr x) (fr 0) = ((x.num == 0) && ((x.den : Int) == 1)) := by
    show ((x.num == 0) && (((x.den : Int) == 1) && true)) = _
    rw [Bool.and_true]
  rw [e]
  by_cases h0 : x = 0
  · subst h0; rfl
  · have h1 : 0 < x := by
      rcases Rat.le_iff_lt_or_eq.mp h with z | z
      · exact z
      · exact absurd z.symm h0
    have h2 : (x.num == 0) = false := by
      rw [beq_eq_false_iff_ne]
      intro z
      exact h0 (Rat.num_eq_zero.mp z)
    rw [h2, decide_eq_true h1]; rfl
theorem E_notZero {K : PySem.W.Frag} {ρ : Rho} {te : TE} {x : Rat} (h : E te ρ (fr x)) (h0 : 0 ≤ x) : E (tOp (rNeD K) te (tTup (tCons (tC (.int 0)) (tCons (tC (.int 1)) tNil)))) ρ (.bool (decide (0 < x))) :=
  E_is (E_neD h (E_is (E_tup (EA_cons E_int (EA_cons E_int EA_nil)) l2) fr_zero.symm) (shaped_fr x) (shaped_fr 0)) (by rw [ne_zero h0])
/-- _law_same of one and the same -/
theorem T_same {ρ : Rho} {ta tb : TE} {e : D} (ha : E ta ρ e) (hb : E tb ρ e) (hp : Pl 8 e) : T (tNot (tB (tCall (SpR (R_Lsame 8)) [] E0 (tCons ta (tCons tb tNil))))) ρ false :=
  T_is (T_not (T_B (E_call (EA_cons ha (EA_cons hb EA_nil)) ⟨e, rfl, hp, rfl⟩))) rfl

abbrev s_Ltaps_right : Stmt := topS 51
abbrev N_Ltaps_right : List Str := ["_law_one", "_law_other", "_law_both", "_law_most", "_law_ones", "_law_others", "_law_olds", "_law_dues", "_law_told", "_law_age", "_law_due", "_law_part", "_law_born"]
theorem sc_Ltaps_right : FnScope N_Ltaps_right ["_law_one", "_law_other", "_law_both", "_law_most"] (defScope s_Ltaps_right) := ⟨rfl, rfl, rfl, by decide +kernel, rfl, by decide +kernel, by decide +kernel⟩
def R_Ltaps_right : List D → D → Prop := fun ds d => ∃ (a b : List Rat) (m : Nat), Row a ∧ a.length ≤ 3 ∧ Row b ∧ b.length ≤ 3 ∧ m ≤ 10 ∧ ds = [rowD a, rowD b, rowD (a ++ b), intD m] ∧ d = .bool true
def fracs (f : Nat → Rat) (n : Nat) : D := .list ((List.range n).map fun t => fr (f t))
theorem ok_Ltaps_right {P : Program} {w : World} {K : PySem.W.Frag} {mg : Str → Option Value} {base : Heap} (T : Bl mg) (c_Lplus : Callee P w K mg base 2 "_law_plus" ["_law_one", "_law_other"] (SpR R_Lplus)) (c_Lproducts : Callee P w K mg base 3 "_law_products" ["_law_ones", "_law_others", "_law_age"] (SpR R_Lproducts)) (c_Lsame : Callee P w K mg base 8 "_law_same" ["_law_told", "_law_due"] (SpR (R_Lsame 8))) (c_Ltimes : Callee P w K mg base 2 "_law_times" ["_law_one", "_law_other"] (SpR R_Ltimes)) (c_older : Callee P w K mg base 6 "older" ["row", "age"] (SpR R_older)) (c_tap : Callee P w K mg base 6 "tap" ["row", "year"] (SpR R_tap)) (c_tap_amount : Callee P w K mg base 6 "tap_amount" ["row", "age"] (SpR R_tap_amount)) {f : Addr} {fd : FuncData} (F : Fun K "_law_taps_right" "_law_taps_right" s_Ltaps_right f fd) : FnOk P w K mg base CX0 9 f fd ["_law_one", "_law_other", "_law_both", "_law_most"] (SpR R_Ltaps_right) := by
  refine F.ok sc_Ltaps_right (fun vs H Q E h => ?_) (fun cdv A outer s H vs Q E hr h => ?_)
  · obtain ⟨_, _, _, _, r, ⟨a, b, m, ha, ha3, hb, hb3, hm, rfl, rfl⟩, _⟩ := h
    exact r.len
  · obtain ⟨F0, ds, d, hF, hrep, ⟨a, b, m, ha, ha3, hb, hb3, hm, rfl, rfl⟩, fin⟩ := h
    refine ⟨_, (pss_cons (ps_set (i := 4) sc_Ltaps_right.nd rfl (.inr rfl) (pe_lc (own := [("_law_age", 9)]) (g := gName 9) (by rfl) sc_Ltaps_right.nd (pi_range1 rfl T.range (pa_cons (pe_op op_add (pv 3) pe_int) pa_nil)) (blkOk_by (own := [("_law_age", 9)]) (N := N_Ltaps_right) (sc := defScope s_Ltaps_right) (by decide +kernel)) (fun _ _ _ _ _ => (pg_name (i := 9) sc_Ltaps_right.nd rfl (.inl rfl))) (fun _ _ _ _ _ => pts_nil) (fun _ _ _ _ _ => (pe_callC c_tap_amount hr (by decide) (by rfl) (pa_cons (pv 0) (pa_cons (pv 9) pa_nil)))))) (pss_cons (ps_set (i := 5) sc_Ltaps_right.nd rfl (.inr rfl) (pe_lc (own := [("_law_age", 9)]) (g := gName 9) (by rfl) sc_Ltaps_right.nd (pi_range1 rfl T.range (pa_cons (pe_op op_add (pv 3) pe_int) pa_nil)) (blkOk_by (own := [("_law_age", 9)]) (N := N_Ltaps_right) (sc := defScope s_Ltaps_right) (by decide +kernel)) (fun _ _ _ _ _ => (pg_name (i := 9) sc_Ltaps_right.nd rfl (.inl rfl))) (fun _ _ _ _ _ => pts_nil) (fun _ _ _ _ _ => (pe_callC c_tap_amount hr (by decide) (by rfl) (pa_cons (pv 1) (pa_cons (pv 9) pa_nil)))))) (pss_cons (ps_setLc (i := 6) (own := [("_law_age", 9)]) (g := gName 9) (by rfl) sc_Ltaps_right.nd rfl rfl (sw_true rfl rfl rfl (by decide +kernel)) (pi_range1 rfl T.range (pa_cons (pe_op op_add (pv 3) pe_int) pa_nil)) (blkOk_by (own := [("_law_age", 9)]) (N := N_Ltaps_right) (sc := defScope s_Ltaps_right) (by decide +kernel)) (fun _ _ _ _ _ => (pg_name (i := 9) sc_Ltaps_right.nd rfl (.inl rfl))) (fun _ _ _ _ _ => pts_nil) (fun _ _ _ _ _ => (pe_callC c_older hr (by decide) (by rfl) (pa_cons (pv 1) (pa_cons (pv 9) pa_nil))))) (pss_cons (ps_set (i := 7) sc_Ltaps_right.nd rfl (.inr rfl) (pe_lc (own := [("_law_age", 9)]) (g := gName 9) (by rfl) sc_Ltaps_right.nd (pi_range1 rfl T.range (pa_cons (pe_op op_add (pv 3) pe_int) pa_nil)) (blkOk_by (own := [("_law_age", 9)]) (N := N_Ltaps_right) (sc := defScope s_Ltaps_right) (by decide +kernel)) (fun _ _ _ _ _ => (pg_name (i := 9) sc_Ltaps_right.nd rfl (.inl rfl))) (fun _ _ _ _ _ => pts_nil) (fun _ _ _ _ _ => (pe_callC c_Lproducts hr (by decide) (by rfl) (pa_cons (pv 4) (pa_cons (pv 5) (pa_cons (pv 9) pa_nil))))))) (pss_cons (ps_set (i := 8) sc_Ltaps_right.nd rfl (.inl rfl) (pe_callC c_tap hr (by decide) (by rfl) (pa_cons (pv 2) (pa_cons (pv 3) pa_nil)))) (pss_cons (ps_if (pt_not (pt_val (pe_callC c_Lsame hr (by decide) (by rfl) (pa_cons (pv 8) (pa_cons (pe_lc (own := [("_law_born", 12)]) (g := gName 12) (by rfl) sc_Ltaps_right.nd (pi_range1 rfl T.range (pa_cons (pe_op op_add (pv 3) pe_int) pa_nil)) (blkOk_by (own := [("_law_born", 12)]) (N := N_Ltaps_right) (sc := defScope s_Ltaps_right) (by decide +kernel)) (fun _ _ _ _ _ => (pg_name (i := 12) sc_Ltaps_right.nd rfl (.inl rfl))) (fun _ _ _ _ _ => (pts_one (pt_cmpR (r := rNeD K) (op_neD hr.units) (pe_ix (r := rIx K) ix_seq (pv 7) (pe_op op_sub (pv 3) (pv 12)) (fun _ _ => rfl)) (pe_tup (pa_cons pe_int (pa_cons pe_int pa_nil))) (nomark _)))) (fun _ _ _ _ _ => (pe_tup (pa_cons (pv 12) (pa_cons (pe_ix (r := rIx K) ix_seq (pv 7) (pe_op op_sub (pv 3) (pv 12)) (fun _ _ => rfl)) pa_nil))))) pa_nil))))) (pss_one (ps_ret pe_bl)) pss_nil) (pss_cons (ps_for PassesOwn.never rfl (pi_range1 rfl T.range (pa_cons (pe_op op_add (pv 3) pe_int) pa_nil)) (pg_name (i := 9) sc_Ltaps_right.nd rfl (.inl rfl)) (pss_cons (ps_if (pt_not (pt_val (pe_callC c_Lsame hr (by decide) (by rfl) (pa_cons (pe_callC c_tap_amount hr (by decide) (by rfl) (pa_cons (pv 2) (pa_cons (pv 9) pa_nil))) (pa_cons (pe_ix (r := rIx K) ix_seq (pv 7) (pv 9) (fun _ _ => rfl)) pa_nil))))) (pss_one (ps_ret pe_bl)) pss_nil) (pss_cons (ps_set (i := 10) sc_Ltaps_right.nd rfl (.inl rfl) (pe_callC c_older hr (by decide) (by rfl) (pa_cons (pv 0) (pa_cons (pv 9) pa_nil)))) (pss_cons (ps_for PassesOwn.never rfl (pi_range1 rfl T.range (pa_cons (pv 9) pa_nil)) (pg_name (i := 11) sc_Ltaps_right.nd rfl (.inl rfl)) (pss_one (ps_set (i := 10) sc_Ltaps_right.nd rfl (.inl rfl) (pe_callC c_Lplus hr (by decide) (by rfl) (pa_cons (pv 10) (pa_cons (pe_callC c_Ltimes hr (by decide) (by rfl) (pa_cons (pe_ix (r := rIx K) ix_seq (pv 4) (pv 11) (fun _ _ => rfl)) (pa_cons (pe_ix (r := rIx K) ix_seq (pv 6) (pe_op op_sub (pv 9) (pv 11)) (fun _ _ => rfl)) pa_nil))) pa_nil)))))) (pss_one (ps_if (pt_not (pt_val (pe_callC c_Lsame hr (by decide) (by rfl) (pa_cons (pe_callC c_older hr (by decide) (by rfl) (pa_cons (pv 2) (pa_cons (pv 9) pa_nil))) (pa_cons (pv 10) pa_nil))))) (pss_one (ps_ret pe_bl)) pss_nil)))))) (pss_one (ps_ret pe_bl))))))))), def_ret hF hrep fin ?_⟩
    have hab := ha.append ha3 hb hb3
    have en : ∀ {ρ : Rho}, ρ[3]? = some (some (.d (intD m))) → Cal.E (tOp (rI0 fun i j => .int (i + j)) (tVar 3) (tC (.int 1))) ρ (.int ((m + 1 : Nat) : Int)) := fun h => E_is (E_add (E_var h) E_int) rfl
    refine Rt_seq (N_asg (d := fracs (M.tap a) (m + 1)) (E_of_EO (EO_lcR (en rfl) (by omega) (fun t ht => E_call (EA_cons (E_var rfl) (EA_cons (E_var rfl) EA_nil)) ⟨a, t, ha, by omega, rfl, rfl⟩))))
      (Rt_seq (N_asg (d := fracs (M.tap b) (m + 1)) (E_of_EO (EO_lcR (en rfl) (by omega) (fun t ht => E_call (EA_cons (E_var rfl) (EA_cons (E_var rfl) EA_nil)) ⟨b, t, hb, by omega, rfl, rfl⟩))))
      (Rt_seq (N_asg (d := fracs (M.older b) (m + 1)) (E_of_EO (EO_lcR (en rfl) (by omega) (fun t ht => E_call (EA_cons (E_var rfl) (EA_cons (E_var rfl) EA_nil)) ⟨b, t, hb, by omega, rfl, rfl⟩))))
      (Rt_seq (N_asg (d := fracs (M.conv (M.tap a) (M.tap b)) (m + 1)) (E_of_EO (EO_lcR (en rfl) (by omega) (fun t ht => E_call (EA_cons (E_var rfl) (EA_cons (E_var rfl) (EA_cons (E_var rfl) EA_nil))) ⟨M.tap a, M.tap b, m + 1, m + 1, t, rfl, ht, ht, by omega, fun s hs => tap_sz ha ha3 s (by omega), fun s hs => tap_sz hb hb3 s (by omega), rfl⟩))))
      (Rt_seq (N_asg (d := yearsD (M.tap (a ++ b)) m) (E_call (EA_cons (E_var rfl) (EA_cons (E_var rfl) EA_nil)) ⟨a ++ b, m, hab, by omega, rfl, rfl⟩))
      (Rt_seq (N_if_f (T_same (E_var rfl) (E_is (E_of_EO (EO_lcRP (p := fun s => decide (0 < M.conv (M.tap a) (M.tap b) (m - s))) (f := fun s => pairD (intD s) (fr (M.conv (M.tap a) (M.tap b) (m - s)))) (en rfl) (by omega)
          (fun s hs => T_test (E_notZero (E_ixL (E_var rfl) (E_sub (E_var rfl) (E_var rfl)) (atI_sub hs)) (conv_nonneg (M.tap_nonneg ha.sh) (M.tap_nonneg hb.sh) _)))
          (fun s hs _ => E_tup (EA_cons (E_var rfl) (EA_cons (E_ixL (E_var rfl) (E_sub (E_var rfl) (E_var rfl)) (atI_sub hs)) EA_nil)) l2))) ?_) ((pl_years (by omega)).up (by decide))) N_next)
      (Rt_seq (N_forR (n := m + 1) (fun i => [some (.d (rowD a)), some (.d (rowD b)), some (.d (rowD (a ++ b))), some (.d (intD m)), some (.d (fracs (M.tap a) (m + 1))), some (.d (fracs (M.tap b) (m + 1))), some (.d (fracs (M.older b) (m + 1))), some (.d (fracs (M.conv (M.tap a) (M.tap b)) (m + 1))), some (.d (yearsD (M.tap (a ++ b)) m)), none, none, none, none]) (en rfl) (by omega) rfl
        (fun i hi => ?_))
      (Rt_ret E_bl)))))))
    · unfold yearsD
      rw [M.tap_append]
    · refine N_seq (N_if_f (T_same (E_is (E_call (EA_cons (E_var rfl) (EA_cons (E_var rfl) EA_nil)) ⟨a ++ b, i, hab, by omega, rfl, rfl⟩) (by rw [M.tap_append])) (E_ixL (E_var rfl) (E_var rfl) (atI_map (f := fun t => fr (M.conv (M.tap a) (M.tap b) t)) hi)) ((pl_fr _).up (by decide))) N_next)
        (N_seq (N_asg (E_call (EA_cons (E_var rfl) (EA_cons (E_var rfl) EA_nil)) ⟨a, i, ha, by omega, rfl, rfl⟩))
        (N_seq (N_forR (n := i) (fun j => [some (.d (rowD a)), some (.d (rowD b)), some (.d (rowD (a ++ b))), some (.d (intD m)), some (.d (fracs (M.tap a) (m + 1))), some (.d (fracs (M.tap b) (m + 1))), some (.d (fracs (M.older b) (m + 1))), some (.d (fracs (M.conv (M.tap a) (M.tap b)) (m + 1))), some (.d (yearsD (M.tap (a ++ b)) m)), some (.d (intD i)), some (.d (fr (M.older a i + M.sumTo (fun j => M.tap a j * M.older b (i - j)) j))), none, none]) (E_var rfl) (by omega) ?_ (fun j hj => ?_))
          (N_wk (N_if_f (T_same (E_is (E_call (EA_cons (E_var rfl) (EA_cons (E_var rfl) EA_nil)) ⟨a ++ b, i, hab, by omega, rfl, rfl⟩) (by rw [M.older_append])) (E_var rfl) ((pl_fr _).up (by decide))) N_next)
            (.same rfl (.same rfl (.same rfl (.same rfl (.same rfl (.same rfl (.same rfl (.same rfl (.same rfl (.drop (.drop (.drop (.drop .nil))))))))))))))))
      · show [_, _, _, _, _, _, _, _, _, _, some (Sl.d (fr (M.older a i + 0))), _, _] = _
        rw [Rat.add_zero]; rfl
      · refine N_wk (N_asg (E_call (EA_cons (E_var rfl) (EA_cons (E_call (EA_cons (E_ixL (E_var rfl) (E_var rfl) (atI_map (f := fun t => fr (M.tap a t)) (by omega))) (EA_cons (E_ixL (E_var rfl) (E_sub (E_var rfl) (E_var rfl)) (by rw [show ((i : Int) - (j : Int)) = ((i - j : Nat) : Int) by omega]; exact atI_map (f := fun t => fr (M.older b t)) (by omega))) EA_nil)) ⟨M.tap a j, M.older b (i - j), 2100, 310, 2100, 310, rfl, tap_sz ha ha3 j (by omega), older_sz hb hb3 (i - j) (by omega), by decide, by decide, by decide, rfl⟩) EA_nil))
              ⟨_, _, 60000 * j + 2100, 620 * j + 310, 4200, 620, rfl, oldsum_sz ha ha3 hb hb3 (by omega) j (by omega), (tap_sz ha ha3 j (by omega)).times (older_sz hb hb3 (i - j) (by omega)), by omega, by omega, by omega, rfl⟩))
            (.same rfl (.same rfl (.same rfl (.same rfl (.same rfl (.same rfl (.same rfl (.same rfl (.same rfl (.same rfl (.same ?_ (.drop (.drop .nil)))))))))))))
        show some (Sl.d (fr _)) = some (Sl.d (fr (M.older a i + (M.sumTo (fun j => M.tap a j * M.older b (i - j)) j + M.tap a j * M.older b (i - j)))))
        rw [Rat.add_assoc]

abbrev s_Lstages_right : Stmt := topS 52
abbrev N_Lstages_right : List Str := ["_law_one", "_law_other", "_law_both", "_law_year", "_law_lists", "_law_first", "_law_ones", "_law_young", "_law_k", "_law_others", "_law_due", "_law_born", "_law_part", "_law_age"]
theorem sc_Lstages_right : FnScope N_Lstages_right ["_law_one", "_law_other", "_law_both", "_law_year"] (defScope s_Lstages_right) := ⟨rfl, rfl, rfl, by decide +kernel, rfl, by decide +kernel, by decide +kernel⟩
def R_Lstages_right : List D → D → Prop := fun ds d => ∃ (a b : List Rat) (y : Nat), Row a ∧ a.length ≤ 3 ∧ Row b ∧ b.length ≤ 3 ∧ y ≤ 10 ∧ ds = [rowD a, rowD b, rowD (a ++ b), intD y] ∧ d = .bool true
theorem pl_stages {r : List Rat} (h : Row r) {y : Nat} (hy : y ≤ 1000) : Pl 8 (stagesD r y) := (pl_map (n := 4) (fun k _ => pl_years hy) (by have := h.l6; rw [List.length_range]; omega)).1.up (by decide)
theorem pl_totals {r : List Rat} (h : Row r) {y : Nat} : Pl 8 (totalsD r y) := (pl_map (n := 2) (fun k _ => pl_fr _) (by have := h.l6; rw [List.length_range]; omega)).2.up (by decide)
theorem sub_int {y i : Nat} (h : i < y + 1) : PyData.int ((y : Int) - (i : Int)) = intD (y - i) := by
  unfold intD
  congr 1
  omega
theorem take_range {f : Nat → D} {n k : Nat} (h : k ≤ n) : ((List.range n).map f).take k = (List.range k).map f := by
  rw [← List.map_take, List.take_range, Nat.min_eq_left h]
theorem ok_Lstages_right {P : Program} {w : World} {K : PySem.W.Frag} {mg : Str → Option Value} {base : Heap} (T : Bl mg) (c_Lof_year : Callee P w K mg base 1 "_law_of_year" ["_law_told", "_law_year"] (SpR R_Lof_year)) (c_Lproducts : Callee P w K mg base 3 "_law_products" ["_law_ones", "_law_others", "_law_age"] (SpR R_Lproducts)) (c_Lsame : Callee P w K mg base 8 "_law_same" ["_law_told", "_law_due"] (SpR (R_Lsame 8))) (c_stage_totals : Callee P w K mg base 6 "stage_totals" ["row", "year"] (SpR R_stage_totals)) (c_stages : Callee P w K mg base 6 "stages" ["row", "year"] (SpR R_stages)) (c_tap_amount : Callee P w K mg base 6 "tap_amount" ["row", "age"] (SpR R_tap_amount)) {f : Addr} {fd : FuncData} (F : Fun K "_law_stages_right" "_law_stages_right" s_Lstages_right f fd) : FnOk P w K mg base CX0 9 f fd ["_law_one", "_law_other", "_law_both", "_law_year"] (SpR R_Lstages_right) := by
  refine F.ok sc_Lstages_right (fun vs H Q E h => ?_) (fun cdv A outer s H vs Q E hr h => ?_)
  · obtain ⟨_, _, _, _, r, ⟨a, b, y, ha, ha3, hb, hb3, hy, rfl, rfl⟩, _⟩ := h
    exact r.len
  · obtain ⟨F0, ds, d, hF, hrep, ⟨a, b, y, ha, ha3, hb, hb3, hy, rfl, rfl⟩, fin⟩ := h
    refine ⟨_, (pss_cons (ps_set (i := 4) sc_Lstages_right.nd rfl (.inl rfl) (pe_callC c_stages hr (by decide) (by rfl) (pa_cons (pv 2) (pa_cons (pv 3) pa_nil)))) (pss_cons (ps_set (i := 5) sc_Lstages_right.nd rfl (.inl rfl) (pe_callC c_stages hr (by decide) (by rfl) (pa_cons (pv 0) (pa_cons (pv 3) pa_nil)))) (pss_cons (ps_if (PW.pt (pw_or (pt_not (pt_val (pe_callB (r := rIsi K) call_isi (by rfl) T.isinstance (by decide +kernel) (pa_cons (pv 4) (pa_cons (pe_bltn (v := .ty "list") (by rfl) T.list (by decide +kernel) rfl) pa_nil))))) (pw_or (pt_cmpR op_ne (pe_callB (r := rLenS K) call_len_seq (by rfl) T.len (by decide +kernel) (pa_cons (pv 4) pa_nil)) (pe_callB (r := rLenS K) call_len_seq (by rfl) T.len (by decide +kernel) (pa_cons (pv 2) pa_nil)) (nomark _)) (pw_or1 (pt_not (pt_val (pe_callC c_Lsame hr (by decide) (by rfl) (pa_cons (pe_slice (r := rSlL K) sl_list (pv 4) po_none (po_some (pe_callB (r := rLenS K) call_len_seq (by rfl) T.len (by decide +kernel) (pa_cons (pv 0) pa_nil)))) (pa_cons (pv 5) pa_nil))))))))) (pss_one (ps_ret pe_bl)) pss_nil) (pss_cons (ps_if (pt_not (pt_val (pe_callC c_Lsame hr (by decide) (by rfl) (pa_cons (pe_slice (r := rSlT K) sl_tup (pe_callC c_stage_totals hr (by decide) (by rfl) (pa_cons (pv 2) (pa_cons (pv 3) pa_nil))) po_none (po_some (pe_callB (r := rLenS K) call_len_seq (by rfl) T.len (by decide +kernel) (pa_cons (pv 0) pa_nil)))) (pa_cons (pe_callC c_stage_totals hr (by decide) (by rfl) (pa_cons (pv 0) (pa_cons (pv 3) pa_nil))) pa_nil))))) (pss_one (ps_ret pe_bl)) pss_nil) (pss_cons (ps_setLc (i := 6) (own := [("_law_age", 13)]) (g := gName 13) (by rfl) sc_Lstages_right.nd rfl rfl (sw_true rfl rfl rfl (by decide +kernel)) (pi_range1 rfl T.range (pa_cons (pe_op op_add (pv 3) pe_int) pa_nil)) (blkOk_by (own := [("_law_age", 13)]) (N := N_Lstages_right) (sc := defScope s_Lstages_right) (by decide +kernel)) (fun _ _ _ _ _ => (pg_name (i := 13) sc_Lstages_right.nd rfl (.inl rfl))) (fun _ _ _ _ _ => pts_nil) (fun _ _ _ _ _ => (pe_callC c_tap_amount hr (by decide) (by rfl) (pa_cons (pv 0) (pa_cons (pv 13) pa_nil))))) (pss_cons (ps_set (i := 7) sc_Lstages_right.nd rfl (.inr rfl) (pe_lc (own := [("_law_age", 13)]) (g := gName 13) (by rfl) sc_Lstages_right.nd (pi_range1 rfl T.range (pa_cons (pe_op op_add (pv 3) pe_int) pa_nil)) (blkOk_by (own := [("_law_age", 13)]) (N := N_Lstages_right) (sc := defScope s_Lstages_right) (by decide +kernel)) (fun _ _ _ _ _ => (pg_name (i := 13) sc_Lstages_right.nd rfl (.inl rfl))) (fun _ _ _ _ _ => pts_nil) (fun _ _ _ _ _ => (pe_callC c_stages hr (by decide) (by rfl) (pa_cons (pv 1) (pa_cons (pv 13) pa_nil)))))) (pss_cons (ps_for PassesOwn.never rfl (pi_range1 rfl T.range (pa_cons (pe_callB (r := rLenS K) call_len_seq (by rfl) T.len (by decide +kernel) (pa_cons (pv 1) pa_nil)) pa_nil)) (pg_name (i := 8) sc_Lstages_right.nd rfl (.inr rfl)) (pss_cons (ps_setLc (i := 9) (own := [("_law_age", 13)]) (g := gName 13) (by rfl) sc_Lstages_right.nd rfl rfl (sw_true rfl rfl rfl (by decide +kernel)) (pi_range1 rfl T.range (pa_cons (pe_op op_add (pv 3) pe_int) pa_nil)) (blkOk_by (own := [("_law_age", 13)]) (N := N_Lstages_right) (sc := defScope s_Lstages_right) (by decide +kernel)) (fun _ _ _ _ _ => (pg_name (i := 13) sc_Lstages_right.nd rfl (.inl rfl))) (fun _ _ _ _ _ => pts_nil) (fun _ _ _ _ _ => (pe_callC c_Lof_year hr (by decide) (by rfl) (pa_cons (pe_ix (r := rIx K) ix_seq (pe_ix (r := rIx K) ix_seq (pv 7) (pv 13) (fun _ _ => rfl)) (pv 8) (fun _ _ => rfl)) (pa_cons pe_int pa_nil))))) (pss_cons (ps_set (i := 10) sc_Lstages_right.nd rfl (.inl rfl) (pe_lst pa_nil)) (pss_cons (ps_for PassesOwn.never rfl (pi_range1 rfl T.range (pa_cons (pe_op op_add (pv 3) pe_int) pa_nil)) (pg_name (i := 11) sc_Lstages_right.nd rfl (.inl rfl)) (pss_cons (ps_set (i := 12) sc_Lstages_right.nd rfl (.inl rfl) (pe_callC c_Lproducts hr (by decide) (by rfl) (pa_cons (pv 6) (pa_cons (pv 9) (pa_cons (pe_op op_sub (pv 3) (pv 11)) pa_nil))))) (pss_one (ps_if (pt_cmpR (r := rNeD K) (op_neD hr.units) (pv 12) (pe_tup (pa_cons pe_int (pa_cons pe_int pa_nil))) (nomark _)) (pss_one (ps_expr (pe_bm PySem.F.plainAttrs_list PySem.F.slot_list_append PySem.F.type_list_append mt_append (pv 10) (pa_cons (pe_tup (pa_cons (pv 11) (pa_cons (pv 12) pa_nil))) pa_nil)))) pss_nil)))) (pss_one (ps_if (pt_not (pt_val (pe_callC c_Lsame hr (by decide) (by rfl) (pa_cons (pe_ix (r := rIx K) ix_seq (pv 4) (pe_op op_add (pe_callB (r := rLenS K) call_len_seq (by rfl) T.len (by decide +kernel) (pa_cons (pv 0) pa_nil)) (pv 8)) (fun _ _ => rfl)) (pa_cons (pv 10) pa_nil))))) (pss_one (ps_ret pe_bl)) pss_nil)))))) (pss_one (ps_ret pe_bl))))))))), def_ret hF hrep fin ?_⟩
    have hab := ha.append ha3 hb hb3
    have hb1 := hb.l1
    have ha1 := ha.l1
    have lab : (a ++ b).length = a.length + b.length := List.length_append
    have en : ∀ {ρ : Rho}, ρ[3]? = some (some (.d (intD y))) → Cal.E (tOp (rI0 fun i j => .int (i + j)) (tVar 3) (tC (.int 1))) ρ (.int ((y + 1 : Nat) : Int)) := fun h => E_is (E_add (E_var h) E_int) rfl
    have el : ∀ {ρ : Rho}, ρ[0]? = some (some (.d (rowD a))) → Cal.E (tCB (rLenS K) (tCons (tVar 0) tNil)) ρ (.int (a.length : Int)) := fun h => E_is (E_lenT (E_var h)) (by rw [List.length_map])
    have el1 : ∀ {ρ : Rho}, ρ[1]? = some (some (.d (rowD b))) → Cal.E (tCB (rLenS K) (tCons (tVar 1) tNil)) ρ (.int (b.length : Int)) := fun h => E_is (E_lenT (E_var h)) (by rw [List.length_map])
    refine Rt_seq (N_asg (d := stagesD (a ++ b) y) (E_call (EA_cons (E_var rfl) (EA_cons (E_var rfl) EA_nil)) ⟨a ++ b, y, hab, by omega, rfl, rfl⟩))
      (Rt_seq (N_asg (d := stagesD a y) (E_call (EA_cons (E_var rfl) (EA_cons (E_var rfl) EA_nil)) ⟨a, y, ha, by omega, rfl, rfl⟩))
      (Rt_seq (N_if_f (T_is (T_or (T_not (T_B (E_isiL (E_var rfl) kit_ll))) (fun _ => T_or (T_test (E_neI (E_lenL (E_var rfl)) (E_lenT (E_var rfl)))) (fun _ => T_same (E_is (E_of_EO (EO_slL (E_var rfl) EP_none (EP_some (el rfl)))) ?_) (E_var rfl) (pl_stages ha (by omega))))) ?_) N_next)
      (Rt_seq (N_if_f (T_same (E_is (E_slT (E_call (EA_cons (E_var rfl) (EA_cons (E_var rfl) EA_nil)) ⟨a ++ b, y, hab, by omega, rfl, rfl⟩) EP_none (EP_some (el rfl)) ?_) ?_) (E_call (EA_cons (E_var rfl) (EA_cons (E_var rfl) EA_nil)) ⟨a, y, ha, by omega, rfl, rfl⟩) (pl_totals ha)) N_next)
      (Rt_seq (N_asg (d := fracs (M.tap a) (y + 1)) (E_of_EO (EO_lcR (en rfl) (by omega) (fun t ht => E_call (EA_cons (E_var rfl) (EA_cons (E_var rfl) EA_nil)) ⟨a, t, ha, by omega, rfl, rfl⟩))))
      (Rt_seq (N_asg (d := .list ((List.range (y + 1)).map fun t => stagesD b t)) (E_of_EO (EO_lcR (en rfl) (by omega) (fun t ht => E_call (EA_cons (E_var rfl) (EA_cons (E_var rfl) EA_nil)) ⟨b, t, hb, by omega, rfl, rfl⟩))))
      (Rt_seq (N_forR (n := b.length) (fun k => [some (.d (rowD a)), some (.d (rowD b)), some (.d (rowD (a ++ b))), some (.d (intD y)), some (.d (stagesD (a ++ b) y)), some (.d (stagesD a y)), some (.d (fracs (M.tap a) (y + 1))), some (.d (.list ((List.range (y + 1)).map fun t => stagesD b t))), none, none, none, none, none, none]) (el1 rfl) (by omega) rfl
        (fun k hk => ?_))
      (Rt_ret E_bl)))))))
    · rw [cut_take, take_range (by omega)]
      unfold stagesD
      congr 1
      refine List.map_congr_left fun k hk => ?_
      rw [funext fun t => congrFun (M.stg_first a b (List.mem_range.mp hk)) t]
    · rw [List.length_map, List.length_map, List.length_range, decide_eq_true (rfl : ((a ++ b).length : Int) = (a ++ b).length)]; rfl
    · rw [List.length_map, List.length_range, HT.sIx_nat, lab]
      intro z
      have := z.2
      omega
    · rw [cut_take, take_range (by omega)]
      unfold totalsD
      congr 1
      refine List.map_congr_left fun k hk => ?_
      rw [funext fun t => congrFun (M.stg_first a b (List.mem_range.mp hk)) t]
    · refine N_seq (N_asg (d := fracs (M.stg b k) (y + 1)) (E_of_EO (EO_lcR (en rfl) (by omega) (fun t ht => E_call (EA_cons (E_ixL (E_is (E_ixL (E_var rfl) (E_var rfl) (atI_map (f := fun t => stagesD b t) ht)) rfl) (E_var rfl) (atI_map (f := fun k => yearsD (M.stg b k) t) hk)) (EA_cons E_int EA_nil)) ⟨M.stg b k, t, rfl, M.stg_nonneg hb.sh k, by omega, rfl⟩))))
        (N_seq (N_asgO (EO_lst EA_nil l0))
        (N_seq (N_forR (n := y + 1) (fun i => [some (.d (rowD a)), some (.d (rowD b)), some (.d (rowD (a ++ b))), some (.d (intD y)), some (.d (stagesD (a ++ b) y)), some (.d (stagesD a y)), some (.d (fracs (M.tap a) (y + 1))), some (.d (.list ((List.range (y + 1)).map fun t => stagesD b t))), some (.d (intD k)), some (.d (fracs (M.stg b k) (y + 1))), some (.o (((List.range i).filter fun s => decide (0 < M.conv (M.tap a) (M.stg b k) (y - s))).map fun s => pairD (intD s) (fr (M.conv (M.tap a) (M.stg b k) (y - s))))), none, none, none]) (en rfl) (by omega) rfl
            (fun i hi => N_seq (N_asg (d := fr (M.conv (M.tap a) (M.stg b k) (y - i))) (E_call (EA_cons (E_var rfl) (EA_cons (E_var rfl) (EA_cons (E_is (E_sub (E_var rfl) (E_var rfl)) (sub_int hi)) EA_nil))) ⟨M.tap a, M.stg b k, y + 1, y + 1, y - i, rfl, by omega, by omega, by omega, fun s hs => tap_sz ha ha3 s (by omega), fun s hs => stg_sz hb hb3 hk (by omega), rfl⟩)) ?_))
          (N_wk (N_forget (N_if_f (T_same (e := yearsD (M.conv (M.tap a) (M.stg b k)) y) (E_is (d := yearsD (M.stg (a ++ b) (a.length + k)) y) (E_ixL (E_var rfl) (E_add (el rfl) (E_var rfl)) ?_) ?_) (E_var rfl) ((pl_years (by omega)).up (by decide))) N_next))
            (.same rfl (.same rfl (.same rfl (.same rfl (.same rfl (.same rfl (.same rfl (.same rfl (.drop (.drop (.drop (.drop (.drop (.drop .nil)))))))))))))))))
      · have hc := conv_nonneg (M.tap_nonneg ha.sh) (M.stg_nonneg hb.sh k) (y - i)
        by_cases hp : 0 < M.conv (M.tap a) (M.stg b k) (y - i)
        · refine N_if_t (T_is (T_test (E_notZero (E_var rfl) hc)) (decide_eq_true hp)) (N_wk (N_app rfl (E_tup (EA_cons (E_var rfl) (EA_cons (E_var rfl) EA_nil)) l2) ?_) (.same rfl (.same rfl (.same rfl (.same rfl (.same rfl (.same rfl (.same rfl (.same rfl (.same rfl (.same rfl (.same ?_ (.drop (.drop (.drop .nil)))))))))))))))
          · rw [List.length_map]
            refine Nat.lt_of_le_of_lt (List.length_filter_le _ _) ?_
            rw [List.length_range]; omega
          · rw [List.range_succ, List.filter_append, List.map_append, List.filter_cons, if_pos (decide_eq_true hp)]; rfl
        · refine N_if_f (T_is (T_test (E_notZero (E_var rfl) hc)) (decide_eq_false hp)) (N_wk N_next (.same rfl (.same rfl (.same rfl (.same rfl (.same rfl (.same rfl (.same rfl (.same rfl (.same rfl (.same rfl (.same ?_ (.drop (.drop (.drop .nil)))))))))))))))
          rw [List.range_succ, List.filter_append, List.map_append, List.filter_cons, if_neg (by rw [decide_eq_false hp]; decide)]
          simp
      · rw [show ((a.length : Int) + (k : Int)) = ((a.length + k : Nat) : Int) by omega]
        exact atI_map (f := fun k => yearsD (M.stg (a ++ b) k) y) (by omega)
      · show yearsD (M.stg (a ++ b) (a.length + k)) y = _
        rw [M.stg_later a b hk]

end Cal
set_option Elab.async false
set_option linter.all false
set_option maxRecDepth 100000
set_option maxHeartbeats 4000000
/-! sorted(shares, key=lambda share: share[0] * (below // share[1])) -/
namespace Cal
open PySem PySem.Spec PyProof.Rows L2
/-! ### the order of the keys -/
def kq (L : Nat) (q : Rat) : PyData := .int (q.num * ((L : Int) / (q.den : Int)))
def leQ (L : Nat) : Rat → Rat → Bool := PySem.W.dataLe false (kq L)
def sortQ (L : Nat) (fs : List Rat) : List Rat := fs.mergeSort (leQ L)
theorem leQ_total (L : Nat) : PySem.W.TotalLe (leQ L) := by
  unfold leQ PySem.W.dataLe
  exact PySem.W.sortLe_total _ _ _
theorem leQ_iff {L : Nat} {a b : Rat} : leQ L a b = true ↔ a.num * ((L : Int) / (a.den : Int)) ≤ b.num * ((L : Int) / (b.den : Int)) := by
  show (!(PyProof.Rows.lexLt PyProof.Rows.itemOrd [.inl (b.num * ((L : Int) / (b.den : Int)))] [.inl (a.num * ((L : Int) / (a.den : Int)))])) = true ↔ _
  simp [PyProof.Rows.lexLt, PyProof.Rows.itemLt]
theorem kq_inj {L : Nat} {a b : Rat} (hL : 0 < L) (ha : a.den ∣ L) (hb : b.den ∣ L) (h : a.num * ((L : Int) / (a.den : Int)) = b.num * ((L : Int) / (b.den : Int))) : a = b := by
  obtain ⟨m, em⟩ := ha
  obtain ⟨n, en⟩ := hb
  have pa : 0 < a.den := a.den_pos
  have pb : 0 < b.den := b.den_pos
  have e1 : (L : Int) / (a.den : Int) = m := by rw [em, Int.natCast_mul]; exact Int.mul_ediv_cancel_left _ (by omega)
  have e2 : (L : Int) / (b.den : Int) = n := by rw [en, Int.natCast_mul]; exact Int.mul_ediv_cancel_left _ (by omega)
  rw [e1, e2] at h
  rw [Rat.eq_iff_mul_eq_mul]
  have hLi : (L : Int) ≠ 0 := by omega
  have l1 : (L : Int) = (a.den : Int) * m := by rw [em, Int.natCast_mul]
  have l2 : (L : Int) = (b.den : Int) * n := by rw [en, Int.natCast_mul]
  refine Int.eq_of_mul_eq_mul_right hLi ?_
  calc a.num * (b.den : Int) * (L : Int) = a.num * (b.den : Int) * ((a.den : Int) * m) := by rw [← l1]
    _ = (a.num * m) * ((b.den : Int) * (a.den : Int)) := by ac_rfl
    _ = (b.num * n) * ((b.den : Int) * (a.den : Int)) := by rw [h]
    _ = b.num * (a.den : Int) * ((b.den : Int) * n) := by ac_rfl
    _ = b.num * (a.den : Int) * (L : Int) := by rw [← l2]
theorem lcmD_at (r : List Rat) : ∀ p ∈ r, p.den ∣ lcmD r := (lcmD_dvd r 1).2
theorem lcmD_min : ∀ (r : List Rat) (b m : Nat), b ∣ m → (∀ p ∈ r, p.den ∣ m) → r.foldl (fun b p => Nat.lcm b p.den) b ∣ m
  | [], b, m, hb, _ => hb
  | q :: r, b, m, hb, h => lcmD_min r _ m (Nat.lcm_dvd hb (h q List.mem_cons_self)) fun p hp => h p (List.mem_cons_of_mem _ hp)
theorem lcmD_comm (a b : List Rat) : lcmD (a ++ b) = lcmD (b ++ a) := by
  refine Nat.dvd_antisymm (lcmD_min _ 1 _ (Nat.one_dvd _) fun p hp => ?_) (lcmD_min _ 1 _ (Nat.one_dvd _) fun p hp => ?_)
  · exact lcmD_at _ p (by rw [List.mem_append] at hp ⊢; exact hp.symm)
  · exact lcmD_at _ p (by rw [List.mem_append] at hp ⊢; exact hp.symm)
def ascQ (r : List Rat) : List Rat := sortQ (lcmD r) r
/-- the order of the rows has no part in it -/
theorem ascQ_comm {a b : List Rat} (h : Row (a ++ b)) : ascQ (a ++ b) = ascQ (b ++ a) := by
  unfold ascQ
  rw [lcmD_comm b a]
  have hL : 0 < lcmD (a ++ b) := (lcmD_bound _ _ rfl h.den).1
  refine List.Perm.eq_of_pairwise (le := fun x y => leQ (lcmD (a ++ b)) x y = true) (fun x y hx hy h1 h2 => ?_) (PySem.W.sort_pairwise (leQ_total _) _) (PySem.W.sort_pairwise (leQ_total _) _) ?_
  · unfold sortQ at hx hy
    have hx := (List.mergeSort_perm _ _).mem_iff.mp hx
    have hy := (List.mergeSort_perm _ _).mem_iff.mp hy
    exact kq_inj hL (lcmD_at _ x hx) (lcmD_at _ y (by rw [List.mem_append] at hy ⊢; exact hy.symm)) (Int.le_antisymm (leQ_iff.mp h1) (leQ_iff.mp h2))
  · exact (List.mergeSort_perm _ _).trans (List.perm_append_comm.trans (List.mergeSort_perm _ _).symm)

/-! ### the lambda called -/
abbrev kBody (p1 p2 p3 p4 p5 p6 p7 p8 p9 : Pos) (k1 k2 : Nat) : Expr := .BinOp (.Subscript (.Name "share" p1) (.Constant (.int 0) k1 p2) p3) .Mult (.BinOp (.Name "below" p4) .FloorDiv (.Subscript (.Name "share" p5) (.Constant (.int 1) k2 p6) p7) p8) p9
abbrev kScope : Scope := { kind := .function, names := [("share", .local), ("below", .free)], isGenerator := false, isCoroutine := false }
section
variable {P : Program} {w : World} {A : Around} {s : Shared}
theorem key_call {f p c' cb : Addr} {q : Str} {params : Arguments} {pm ctv : Value} {cl : List (Str × Addr)} {a d L : Int} {ta td tL : Tok} {p1 p2 p3 p4 p5 p6 p7 p8 p9 : Pos} {k1 k2 : Nat}
    (hdep : A.depth < recursionLimit) (hlim : s.heap.NoLimit) (hf : s.heap.get? f = some (PySem.W.kla_obj "<lambda>" q params (kBody p1 p2 p3 p4 p5 p6 p7 p8 p9 k1 k2) kScope cl pm c' ctv)) (hcd : s.heap.CodeRec (.ref c') q)
    (hbind : bindArgs (PySem.W.kla_fn "<lambda>" q params (kBody p1 p2 p3 p4 p5 p6 p7 p8 p9 k1 k2) kScope cl pm (.ref c') ctv) ⟨[.ref p], []⟩ = pure [(("share" : Str), Value.ref p)])
    (hcl : cl.lookup ("below" : Str) = some cb) (hp : IsTup s.heap p #[.int a ta, .int d td]) (hc : s.heap.IsCell cb (some (.int L tL))) (hd : CDivW L d) (hm : CMulW a (L / d)) :
    wpAny (model P w) A (call (.ref f) [.ref p]) (PySem.W.KeyPure (.int (a * (L / d))) s) (fun _ _ => False) s := by
  refine wpAny_call (PySem.W.kla_callFunE hdep hf rfl rfl rfl rfl hcd ?_)
  rw [hbind]
  refine wpAny_pure (wpAny_newFunctionEnv (fun y hy => ?_) (fun y hy => ?_) (fun h1 hns hsb => ⟨hlim.fresh _ hsb, ?_⟩) rfl)
  · simp only [List.mem_cons, List.mem_nil_iff, or_false] at hy
    rcases hy with rfl | rfl <;> (intro z; cases z)
  · simp only [List.mem_cons, List.mem_nil_iff, or_false] at hy
    subst hy
    rfl
  have kp : ∀ b o, s.heap.get? b = some o → h1.get? b = some o := fun b o e => hsb.extBut b o (Nat.ne_of_lt (Heap.lt_size e)) (Heap.get?_push_of_some _ e)
  have hp1 : IsTup h1 p #[.int a ta, .int d td] := hp.keeps kp
  have hc1 : h1.IsCell cb (some (.int L tL)) := by
    obtain ⟨o, ho, hd⟩ := hc
    exact ⟨o, kp _ _ ho, hd⟩
  have hd0 : (0 : Int) < d := hd.1
  show codeAny _ _ (.expr (kBody p1 p2 p3 p4 p5 p6 p7 p8 p9 k1 k2) (PySem.W.envX q kScope s.heap.objs.size f (.ref c') cl)) _ _
  refine PySem.W.kla_codeExpr ?_
  have share : ∀ {s2 : Shared} {Q : Value → Shared → Prop} {E : Value → Shared → Prop} {A' : Around} {p0 : Pos}, s2.heap = h1 → Q (.ref p) s2 → wpAny (model P w) A' (eval (.Name "share" p0) (PySem.W.envX q kScope s.heap.objs.size f (.ref c') cl)) Q E s2 := fun {s2 Q E A' p0} e hq =>
    wpAny_Name (wpAny_loadName_local (m := fun x => List.lookup x [(("share" : Str), Value.ref p)].reverse) rfl rfl (by rw [e]; exact hns) (by rfl) hq)
  refine wpAny_BinOp (Subscript_ (share rfl (wpAny_Constant_int ?_)))
  refine subscriptTail_builtinR (x := .int a ta) (IsTup.typeIs (s := { s with heap := h1, toks := _ }) hp1) slot_tuple_getitem.lookup (getItem_tuple (j := 0) hp1 (by decide) (by decide) (by rfl) (by rfl) ⟨rfl, ?_⟩)
  refine wpAny_BinOp (wpAny_Name (wpAny_loadName_free rfl rfl hcl hc1 ?_))
  refine Subscript_ (share rfl (wpAny_Constant_int ?_))
  refine subscriptTail_builtinR (x := .int d td) (IsTup.typeIs (s := { s with heap := h1, toks := _ }) hp1) slot_tuple_getitem.lookup (getItem_tuple (j := 1) hp1 (by decide) (by decide) (by rfl) (by rfl) ⟨rfl, ?_⟩)
  refine floordiv_int (by omega) ?_ (.inl (PyProof.noPylong_of_log2 hd.2))
  rw [Int.fdiv_eq_ediv_of_nonneg L (by omega)]
  refine mul_int ?_ hm.ok
  exact ⟨h1, _, rfl, kp, .int _ _⟩
end
end Cal
set_option Elab.async false
set_option linter.all false
set_option maxRecDepth 100000
set_option maxHeartbeats 4000000
namespace Cal
open PySem PySem.Spec PyProof.Rows L2
/-! ### heaps whose tables grow -/
mutual
theorem Rp.extN {G : Own} {H H' : Hp} (e : LamX.ExtN H H') : ∀ (d : D) (v : V), Rp G H v d → Rp G H' v d
  | .none, _, h => by cases h; exact .non
  | .bool b, _, h => by cases h; exact .bl b
  | .int i, _, h => by cases h; exact .int i
  | .str x, _, h => by cases h; exact .str x
  | .list ds, _, h => by
    cases h with
    | lst h1 h2 h3 => exact .lst h1 (h2.imp (fun q => e _ _ q fun _ z => by cases z) fun ⟨o, q⟩ => ⟨o, e _ _ q fun _ z => by cases z⟩) (Rps.extN e ds _ h3)
  | .tuple ds, _, h => by
    cases h with
    | tup h1 h2 h3 => exact .tup h1 (h2.imp (fun q => e _ _ q fun _ z => by cases z) fun ⟨o, q⟩ => ⟨o, e _ _ q fun _ z => by cases z⟩) (Rps.extN e ds _ h3)
  | .dict _, _, h => by cases h
theorem Rps.extN {G : Own} {H H' : Hp} (e : LamX.ExtN H H') : ∀ (ds : List D) (vs : List V), Rps G H vs ds → Rps G H' vs ds
  | [], _, h => by cases h; exact .nil
  | d :: ds, _, h => by
    cases h with
    | cons h1 h2 => exact .cons (Rp.extN e d _ h1) (Rps.extN e ds _ h2)
end
theorem Rps.zipAt {G : Own} {H : Hp} {α : Type} {f : α → D} : ∀ {xs : List V} {fs : List α}, Rps G H xs (fs.map f) → ∀ b ∈ xs.zip fs, Rp G H b.1 (f b.2)
  | [], [], _, b, hb => by cases hb
  | _ :: _, _ :: _, h, b, hb => by
    cases h with
    | cons h1 h2 =>
      rw [List.zip_cons_cons] at hb
      rcases List.mem_cons.mp hb with rfl | hb
      · exact h1
      · exact Rps.zipAt h2 b hb
  | [], _ :: _, h, _, _ => by cases h
  | _ :: _, [], h, _, _ => by cases h
theorem Rps.ofAll {G : Own} {H : Hp} {α : Type} {f : α → D} : ∀ (bs : List (V × α)), (∀ b ∈ bs, Rp G H b.1 (f b.2)) → Rps G H (bs.map Prod.fst) ((bs.map Prod.snd).map f)
  | [], _ => .nil
  | b :: bs, h => .cons (h b List.mem_cons_self) (Rps.ofAll bs fun c hc => h c (List.mem_cons_of_mem _ hc))
theorem vals_each : ∀ {xs : List V} {us : List Value} {α : Type} {fs : List α}, Vals xs us → xs.length = fs.length → PySem.W.EachIs (fun (u : Value) (b : V × α) => RelV b.1 u) us (xs.zip fs)
  | [], _, _, [], h, _ => by cases h; exact .nil
  | _ :: _, _, _, _ :: _, h, hl => by
    cases h with
    | cons h1 h2 => exact .cons h1 (vals_each h2 (by simpa using hl))
theorem each_vals {α : Type} : ∀ {us : List Value} {bs : List (V × α)}, PySem.W.EachIs (fun (u : Value) (b : V × α) => RelV b.1 u) us bs → Vals (bs.map Prod.fst) us
  | _, _, .nil => .nil
  | _, _, .cons h t => .cons h (each_vals t)
/-! ### sorted of a tuple by a key -/
section
variable {P : Program} {w : World} {A : Around} {s : Shared} {E : Value → Shared → Prop}
theorem sorted_tup {β : Type} {vs : List Value} {bs : List β} {R : Value → β → Prop} {l f : Addr} {Q : Value → Shared → Prop} (k : β → PyData) (hl : IsTup s.heap l vs.toArray) (e : PySem.W.EachIs R vs bs) (hal : PySem.W.AllAlike (bs.map k)) (hk : PySem.W.Sortable (bs.map k)) (hL : bs.length ≤ sizeLine)
    (hu : ∀ x, x ∈ bs → A.units + 2 + (k x).depth < cLine)
    (turn : ∀ (v : Value) (x : β), R v x → x ∈ bs → ∀ (h : Heap) (tk : Nat), (∀ b o, s.heap.get? b = some o → h.get? b = some o) → wpAny (model P w) A.in1.in1 (call (.ref f) [v]) (PySem.W.KeyPure (k x) { s with heap := h, toks := tk }) (fun _ _ => False) { s with heap := h, toks := tk })
    (fin : ∀ h1 : Heap, (∀ b o, s.heap.get? b = some o → h1.get? b = some o) → ∀ (out : List Value) (a : Addr) (c : Nat) (h' : Heap) (tk : Nat), (∀ b o, h1.get? b = some o → h'.get? b = some o) → h1.objs.size ≤ a → h'.get? a = some (seqObj "list" (List.toArray out) c) → PySem.W.EachIs R out (bs.mergeSort (PySem.W.dataLe false k)) → Q (.ref a) { s with heap := h', toks := tk }) :
    wpAny (model P w) A (call (.builtin "sorted") [.ref l] [(Str.ofString "key", .ref f)]) Q E s := by
  obtain ⟨o, ho, hc, n, hd⟩ := hl
  have hz : vs.length ≤ sizeLine := by rw [e.length]; exact hL
  refine call_function_entry_kw kind_sorted plain_sorted entry_sorted (PyProof.Rows.ksk_s1 _ _) ?_
  unfold Builtin.«sorted»
  refine wpAny_bind (m := checkCount "sorted" 1 1 _) (wpAny_pure (wpAny_bind (wpAny_collect_seq l (.inr rfl) ho hc hd (fun h1 k1 => ?_) (by rw [List.size_toArray]; exact hz))))
  refine wpAny_bind (wpAny_newList ?_ (by simpa using hz))
  have hoL : (h1.push (seqObj "list" vs.toArray 0)).get? h1.objs.size = some (seqObj "list" vs.toArray 0) := Heap.get?_push_size _ rfl
  have up : ∀ {g : Heap}, PySem.W.KeepsBut h1.objs.size (h1.push (seqObj "list" vs.toArray 0)) g → ∀ b o, h1.get? b = some o → g.get? b = some o := fun {g} kp b o q => kp b o (Nat.ne_of_lt (Heap.lt_size q)) (Heap.get?_push_of_some _ q)
  refine wpAny_bind (wpAny_holding (wpAny_call_entry_kw slot_list_sort ⟨_, hoL, rfl⟩ entry_list_sort ?_ (PyProof.Rows.ksk_l1 _ _)))
  rw [PyProof.Rows.ksk_t1]
  refine PySem.W.keyH_tree (kz := bs.map k) (s := { s with heap := h1.push (seqObj "list" vs.toArray 0) }) hoL (by rw [List.length_map]; exact e.length.symm) hz hal hk (fun d hd => ?_)
    (PySem.W.keyH_turns (s := { s with heap := h1.push (seqObj "list" vs.toArray 0) }) e fun v x hR hx g tk kp => turn v x hR hx g tk fun b o q => up kp b o (k1 b o q)) fun h' tk out c kp hD ko => ?_
  · obtain ⟨x, hx, rfl⟩ := List.mem_map.mp hd
    exact hu x hx
  · refine ⟨_, rfl, wpAny_pure ⟨_, rfl, ?_⟩⟩
    exact fin h1 k1 out _ c h' tk (up kp) (Nat.le_refl _) hD (PySem.W.keyedOut_each k ko e)
end
end Cal
set_option Elab.async false
set_option linter.all false
set_option maxRecDepth 100000
set_option maxHeartbeats 4000000
namespace Cal
open PySem PySem.Spec PyProof.Rows L2
theorem row_key {r : List Rat} (h : Row r) {q : Rat} (hq : q ∈ r) : CDivW (lcmD r : Int) (q.den : Int) ∧ CMulW q.num ((lcmD r : Int) / (q.den : Int)) := by
  have hd := h.den q hq
  have hp : 0 < q.den := q.den_pos
  have hb := lcmD_bound _ r rfl h.den
  have hz := share_sz h hq
  have hL : lcmD r < 2 ^ 60 := Nat.lt_of_le_of_lt (Nat.le_trans hb.2 (Nat.pow_le_pow_right (by decide) h.l6)) (by decide)
  refine ⟨wide_div (b := 10) (by omega) (by rw [Int.natAbs_natCast]; omega) (by decide) (by decide), wide_mul (a := 10) (b := 60) (by have h1 := hz.1; have h2 := hz.2.1; omega) ?_ (by decide) (by decide) (by decide)⟩
  rw [← Int.natCast_ediv, Int.natAbs_natCast]
  exact Nat.lt_of_le_of_lt (Nat.div_le_self _ _) hL
/-- sorted(the row at slot i, key=the lambda over slot j) -/
def tSort (TT : List (Addr × Str)) (i j : Nat) : TE := fun σ H Q => ∃ (p : Addr) (r : List Rat), σ[i]? = some (some (.ref p)) ∧ σ[j]? = some (some (.int (lcmD r : Int))) ∧ Row r ∧ Rp [] H (.ref p) (rowD r) ∧ LamX.Tabs TT H ∧
  ∀ (H1 : Hp) (a : Addr) (ys : List V), LamX.ExtN H H1 → LamX.Tabs TT H1 → H1 a = none → Rps [] H1 ys ((ascQ r).map fr) → Q (.ref a) (upd H1 a (.lst ys))
theorem pe_sort {X : Cx} {TT : List (Addr × Str)} {c Pt : Addr} {i j k : Nat} {params : Arguments} {p1 p2 p3 p4 p5 p6 p7 p8 p9 p lpos kpos pos px : Pos} {k1 k2 : Nat}
    (hg : Gl X "sorted") (hm : X.mg "sorted" = none) (hi : X.N[i]? = some ("shares" : Str)) (hvi : Vis X.env.scope "shares") (hj : X.N[j]? = some ("below" : Str)) (hvj : X.env.scope.names.lookup ("below" : Str) = some .cell)
    (TB : LamX.TabB X.base X.mg c Pt) (hcode : X.env.code = .ref c) (hmT : (Pt, X.env.qual ++ "<lambda>") ∈ TT) (hu : ∀ q ∈ TT, q.1 = Pt → q.2 = X.env.qual ++ "<lambda>") (hr : Room (k + 1) X.A) (hdef : defaultsOf params X.env = ([], []))
    (hbind : ∀ (q : Str) (cl : List (Str × Addr)) (pm cv ctv : Value) (v : Value), bindArgs (PySem.W.kla_fn "<lambda>" q params (kBody p1 p2 p3 p4 p5 p6 p7 p8 p9 k1 k2) kScope cl pm cv ctv) ⟨[v], []⟩ = pure [(("share" : Str), v)]) :
    PE X (.Call (.Name "sorted" p) [.Name "shares" px] [⟨some "key", .Lambda params (kBody p1 p2 p3 p4 p5 p6 p7 p8 p9 k1 k2) kScope lpos, kpos⟩] pos) (tSort TT i j) := by
  refine ⟨fun pins s σ H Q I h => ?_⟩
  obtain ⟨pa, r, h1, h2, hR, hrow, hT, fin⟩ := h
  refine wpAny_Call_Name_kw (ld_blt (u := .builtin "sorted") I hg hm (by decide +kernel) ?_)
  refine PyProof.Rows.callWith_kw (thn ((pa_cons (pe_var hi hvi) pa_nil).run pos pins s σ H (fun vs H1 => vs = [.ref pa] ∧ H1 = H) I ⟨_, h1, rfl, rfl⟩) fun us s1 ⟨vs, H1, I1, r1, q1⟩ => ?_) (by rfl) (by rfl) (by rfl) (by rfl)
  obtain ⟨rfl, rfl⟩ := q1
  have eu : us = [.ref pa] := by
    cases r1 with
    | cons a b =>
      cases b
      cases a
      rfl
  subst eu
  show wpAny _ _ (evalAll [do let v ← eval (.Lambda params (kBody p1 p2 p3 p4 p5 p6 p7 p8 p9 k1 k2) kScope lpos) X.env; standAt pos; pure v]) _ _ s1
  refine wpAny_evalAll_cons (wpAny_bind (LamX.lam_make2 I1 TB hcode hmT hu hT hdef (fun y hy e => ?_) fun f c' pm ctv H2 s2 I2 eN T2 hf hfn hfr hco => wpAny_bind (wpAny_standAt (wpAny_pure (wpAny_evalAll_nil ?_)))))
  · simp only [List.mem_cons, List.mem_nil_iff, or_false] at hy
    rcases hy with rfl | rfl
    · cases e
    · exact I1.ok.has _ (.inl hvj)
  show wpAny (model X.prog X.w) X.A (call (.builtin "sorted") [.ref pa] [(Str.ofString "key", .ref f)]) (L2.EP X pins σ Q) X.xe s2
  have row2 := Rp.extN eN _ _ hrow
  unfold rowD at row2
  cases row2 with
  | tup g1 g2 g3 =>
  rename_i xs
  obtain ⟨its, rv, tp, hz⟩ := I2.tuple (.inl g2)
  have hlen : xs.length = r.length := by rw [g3.len, List.length_map]
  obtain ⟨m, hn, hl⟩ := I2.loc
  obtain ⟨u, ru, lu⟩ := hl j "below" _ hj h2 (.inr (.inl hvj))
  obtain ⟨tL, rfl⟩ := ru
  obtain ⟨cb, hcb, hcell⟩ : ∃ cb, X.env.cells.lookup ("below" : Str) = some cb ∧ s2.heap.IsCell cb (some (.int (lcmD r : Int) tL)) := by
    rcases lu with ⟨hk, _⟩ | ⟨_, cb, e1, e2⟩
    · have hk' : X.env.scope.names.lookup ("below" : Str) = some .local := hk
      rw [hvj] at hk'
      cases hk'
    · exact ⟨cb, e1, e2⟩
  have hcl : (cloFrom X.env.cells kScope.names []).lookup ("below" : Str) = some cb := by
    have e : cloFrom X.env.cells kScope.names [] = [(("below" : Str), (X.env.cells.lookup ("below" : Str)).getD 0)] := rfl
    rw [e, hcb]
    rfl
  obtain ⟨⟨oc, vs, t, hoc, hdc, hvc⟩, _, _⟩ := I2.hok c' _ hco
  have hmem : ∀ b ∈ xs.zip r, b.2 ∈ r := fun b hb => (List.of_mem_zip (show (b.1, b.2) ∈ xs.zip r from hb)).2
  refine sorted_tup (R := fun (u : Value) (b : V × Rat) => RelV b.1 u) (bs := xs.zip r) (fun b => kq (lcmD r) b.2) tp (vals_each rv hlen) (fun d hd d' hd' => ?_) (.inr fun d hd => ?_) (by rw [List.length_zip]; omega) (fun b hb => ?_) (fun v b hv hb g tk kp => ?_) fun g1 kp1 out a cc g2 tk kp2 hge hget heach => ?_
  · obtain ⟨_, _, rfl⟩ := List.mem_map.mp hd
    obtain ⟨_, _, rfl⟩ := List.mem_map.mp hd'
    rfl
  · obtain ⟨_, _, rfl⟩ := List.mem_map.mp hd
    exact ⟨fun z => (by cases z), fun _ z => (by cases z)⟩
  · have := hr.un
    show X.A.units + 2 + 0 < cLine
    omega
  · have rb := Rps.zipAt g3 b hb
    obtain ⟨x, q⟩ := b
    unfold fr at rb
    cases rb with
    | tup e1 e2 e3 =>
    cases e3 with
    | cons e4 e5 =>
    cases e5 with
    | cons e6 e7 =>
    cases e7; cases e4; cases e6
    obtain ⟨us, ru, tq, _⟩ := I2.tuple (.inl e2)
    cases ru with
    | cons f1 f2 =>
    cases f2 with
    | cons f3 f4 =>
    cases f4
    obtain ⟨t1, rfl⟩ := f1
    obtain ⟨t2, rfl⟩ := f3
    obtain rfl := hv
    obtain ⟨k3, k4⟩ := row_key hR (hmem _ hb)
    refine key_call (A := X.A.in1.in1) (s := { s2 with heap := g, toks := tk }) (cl := cloFrom X.env.cells kScope.names []) (L := (lcmD r : Int)) (tL := tL) hr.depth (I2.nolimit.keeps kp) (kp _ _ hf) ⟨c', oc, vs, t, rfl, kp _ _ hoc, hdc, hvc⟩ (hbind _ _ _ _ _ _) hcl (tq.keeps kp) ?_ k3 k4
    obtain ⟨o, ho, hd⟩ := hcell
    exact ⟨o, kp _ _ ho, hd⟩
  · have J1 : Inv X pins σ H2 { s2 with heap := g1 } := I2.kept (t' := s2.toks) kp1
    have nA : H2 a = none := J1.hok.fresh hge
    have ev := each_vals heach
    have elen : ((xs.zip r).mergeSort (PySem.W.dataLe false fun b => kq (lcmD r) b.2)).length = xs.length := by
      rw [(List.mergeSort_perm _ _).length_eq, List.length_zip]; omega
    refine ⟨.ref a, _, J1.laid (a := a) (o := .lst (((xs.zip r).mergeSort (PySem.W.dataLe false fun b => kq (lcmD r) b.2)).map Prod.fst)) (t' := tk) kp2 hge ⟨?_, out, cc, ev, hget⟩, rfl, fin H2 a _ eN T2 nA ?_⟩
    · rw [List.length_map, elen]; exact hz
    · have e : (((xs.zip r).mergeSort (PySem.W.dataLe false fun b => kq (lcmD r) b.2)).map Prod.snd) = ascQ r := by
        unfold ascQ sortQ
        refine (PySem.W.sort_maps (l := xs.zip r) (r := PySem.W.dataLe false fun b : V × Rat => kq (lcmD r) b.2) (s := leQ (lcmD r)) Prod.snd (fun _ _ _ _ => rfl)).trans ?_
        rw [List.map_snd_zip (by omega)]
      rw [← e]
      exact Rps.ofAll _ fun b hb => Rps.zipAt g3 b ((List.mergeSort_perm _ _).mem_iff.mp hb)
end Cal
set_option Elab.async false
set_option linter.all false
set_option maxRecDepth 100000
set_option maxHeartbeats 4000000
namespace Cal
open PySem PySem.Spec PyProof.Rows L2
/-- a def with its code object -/
structure FunC (K : PySem.W.Frag) (x qual : Str) (st : Stmt) (f : Addr) (fd : FuncData) (c : Addr) : Prop where
  ex : ∃ (oc : Value) (od : Option Addr) (kV doc pm : Value) (an : Option Addr) (ct : Value) (osl : Array (Option Value)),
    fd = PySem.W.fnOf x qual (defArgs st) (defBody st) (defScope st) .none kV doc pm an (.ref c) ct ∧ K.lookup f = some ⟨oc, od, .func fd, osl⟩ ∧ PySem.W.codeIn K (.ref c) qual = true
  kp : PySem.W.keepIn K (.ref f) = true
theorem FunC.toFun {K : PySem.W.Frag} {x qual : Str} {st : Stmt} {f c : Addr} {fd : FuncData} (F : FunC K x qual st f fd c) : Fun K x qual st f fd := by
  obtain ⟨⟨oc, od, kV, doc, pm, an, ct, osl, h1, h2, h3⟩, hk⟩ := F
  exact ⟨⟨oc, od, kV, doc, pm, an, .ref c, ct, osl, h1, h2, h3⟩, hk⟩
theorem FunC.ok {P : Program} {w : World} {K : PySem.W.Frag} {mg : Str → Option Value} {base : Heap} {x qual : Str} {st : Stmt} {f c : Addr} {fd : FuncData} {N ps : List Str} {k : Nat} {sp : Sp} (F : FunC K x qual st f fd c) (S : FnScope N ps (defScope st)) (len : ∀ vs H Q E, sp vs H Q E → vs.length = ps.length)
    (hb : ∀ (A : Around) (outer : List Env) (s : Shared) (H : Hp) (vs : List V) (Q : VK) (E : XK), Room k (A.deeper (envOfC qual (defScope st) s.heap.objs.size f (.ref c))) → sp vs H Q E →
      ∃ t, PSs (cxOf CX0 P w K mg base N qual (defScope st) f (.ref c) A outer s H E).nox (defBody st) t ∧ t { nx := fun _ H' => Q .non H', rt := Q } (L2.start N vs) H) : FnOk P w K mg base CX0 (k + 1) f fd ps sp := by
  obtain ⟨⟨oc, od, kV, doc, pm, an, ct, osl, rfl, lk, hcd⟩, _⟩ := F
  refine fn_of lk hcd S len fun A outer s H vs Q E hr hs => ?_
  obtain ⟨t, a, b⟩ := hb A outer s H vs Q E hr hs
  exact ⟨t, a.nox, b⟩
/-- a def's promise: from data to data, the tables may grow -/
def SpT (TT : List (Addr × Str)) (R : List D → D → Prop) : Sp := fun vs H Q _ => ∃ (ds : List D) (d : D), Rps [] H vs ds ∧ R ds d ∧ LamX.Tabs TT H ∧ ∀ v H', LamX.ExtN H H' → LamX.Tabs TT H' → Rp [] H' v d → Q v H'
abbrev lamT (Pt : Addr) : List (Addr × Str) := [(Pt, "ascending.<locals>.<lambda>")]
theorem In_nil {H : Hp} : In [] H := fun a h => by cases h

abbrev s_ascending : Stmt := topS 39
abbrev N_ascending : List Str := ["shares", "below"]
theorem sc_ascending : FnScope N_ascending ["shares"] (defScope s_ascending) := ⟨rfl, rfl, rfl, by decide +kernel, rfl, by decide +kernel, by decide +kernel⟩
def R_ascending : List D → D → Prop := fun ds d => ∃ r : List Rat, Row r ∧ ds = [rowD r] ∧ d = rowD (ascQ r)
theorem ok_ascending {P : Program} {w : World} {K : PySem.W.Frag} {mg : Str → Option Value} {base : Heap} (T : Bl mg) (c_common_below : Callee P w K mg base 1 "common_below" ["parts"] (SpR R_common_below)) {c Pt : Addr} (TB : LamX.TabB base mg c Pt) {f : Addr} {fd : FuncData} (F : FunC K "ascending" "ascending" s_ascending f fd c) :
    FnOk P w K mg base CX0 3 f fd ["shares"] (SpT (lamT Pt) R_ascending) := by
  refine F.ok sc_ascending (fun vs H Q E h => ?_) (fun A outer s H vs Q E hr h => ?_)
  · obtain ⟨_, _, r, ⟨r', _, rfl, rfl⟩, _⟩ := h
    exact r.len
  · obtain ⟨ds, d, hrep, ⟨r, hR, rfl, rfl⟩, hT, fin⟩ := h
    refine ⟨_, (pss_cons (ps_set (i := 1) sc_ascending.nd rfl (.inr rfl) (pe_callC c_common_below hr (by decide) (by rfl) (pa_cons (pv 0) pa_nil))) (pss_one (ps_ret (pe_tupleOf (by rfl) T.tuple (pe_sort (i := 0) (j := 1) (k := 1) (TT := lamT Pt) (by rfl) T.sorted (by rfl) (.inl rfl) (by rfl) (by rfl) TB (by rfl) (List.mem_singleton.mpr (by rfl)) (fun q hq _ => ?_) hr (by rfl) (fun _ _ _ _ _ _ => by rfl)))))), ?_⟩
    · rw [List.mem_singleton.mp hq]
      rfl
    · have st : S1 [] H (arg [rowD r] 1) (L2.start N_ascending vs) H := S1_start (N := N_ascending) In_nil hrep
      refine N_asg (E_call (EA_cons (E_var rfl) EA_nil) ⟨r, hR, rfl, rfl⟩) [] H _ H _ st fun σ' H' ⟨G, z⟩ => ?_
      obtain ⟨v0, e0, r0⟩ := z.env.at_ 0 (.d (rowD r)) rfl
      obtain ⟨v1, e1, r1⟩ := z.env.at_ 1 (.d (intD (lcmD r))) rfl
      have r0 : Rp G H' v0 (rowD r) := r0
      have r1 : Rp G H' v1 (intD (lcmD r)) := r1
      cases r1
      have r0' : Rp [] H' v0 (rowD r) := r0.sub fun a h => by cases h
      obtain ⟨p, rfl⟩ : ∃ p, v0 = .ref p := by
        unfold rowD at r0
        cases r0
        exact ⟨_, rfl⟩
      refine ⟨p, r, e0, e1, hR, r0', hT.ext z.ext, fun H1 a ys eN T1 nA ry => .inl ⟨a, ys, rfl, .inl (.inl upd_same), fun q hq => ?_⟩⟩
      have s2 : Same H1 (upd (upd H1 a (.lst ys)) q (.tup ys)) := (same_new nA).trans (same_new hq)
      exact fin _ _ (((LamX.ExtN.of z.ext).trans eN).trans (LamX.ExtN.of s2)) (T1.ext s2) (.tup (fun z => by cases z) (.inl upd_same) (ry.same s2))
theorem eqv_row : ∀ r : List Rat, PyData.eqv (rowD r) (rowD r) = true := by
  intro r
  show PyData.eqvAll _ _ = true
  induction r with
  | nil => rfl
  | cons q r ih =>
    show (PyData.eqv (fr q) (fr q) && PyData.eqvAll (r.map fr) (r.map fr)) = true
    rw [ih]
    simp [fr, PyData.eqv, PyData.eqvAll]
theorem shaped_row {r : List Rat} : SeqAt.shaped (rowD r) = true := by
  have h : ∀ r : List Rat, PyData.canLayAll0 (r.map fr) = true ∧ PyData.depthAll (r.map fr) ≤ 3 := by
    intro r
    induction r with
    | nil => exact ⟨by simp [PyData.canLayAll0], by simp [PyData.depthAll]⟩
    | cons q r ih => exact ⟨by simp [fr, PyData.canLay0, PyData.canLayAll0, ih.1], by simp [fr, PyData.depth, PyData.depthAll]; have := ih.2; omega⟩
  have h1 := h r
  unfold SeqAt.shaped rowD
  simp only [PyData.canLay0, PyData.depth, h1.1, Bool.true_and, decide_eq_true_eq]
  have := h1.2
  simp [PyData.depth]
  omega
abbrev s_alike_at_tap : Stmt := topS 40
abbrev N_alike_at_tap : List Str := ["one", "other"]
theorem sc_alike_at_tap : FnScope N_alike_at_tap ["one", "other"] (defScope s_alike_at_tap) := ⟨rfl, rfl, rfl, by decide +kernel, rfl, by decide +kernel, by decide +kernel⟩
def R_alike_at_tap : List D → D → Prop := fun ds d => ∃ a b : List Rat, Row a ∧ Row b ∧ ascQ a = ascQ b ∧ ds = [rowD a, rowD b] ∧ d = .bool true
theorem ok_alike_at_tap {P : Program} {w : World} {K : PySem.W.Frag} {mg : Str → Option Value} {base : Heap} (T : Bl mg) {Pt : Addr} (c_ascending : Callee P w K mg base 3 "ascending" ["shares"] (SpT (lamT Pt) R_ascending)) (c_need_row : Callee P w K mg base 5 "need_row" ["row"] (SpR R_need_row))
    {f : Addr} {fd : FuncData} (F : Fun K "alike_at_tap" "alike_at_tap" s_alike_at_tap f fd) : FnOk P w K mg base CX0 6 f fd ["one", "other"] (SpT (lamT Pt) R_alike_at_tap) := by
  refine F.ok sc_alike_at_tap (fun vs H Q E h => ?_) (fun cdv A outer s H vs Q E hr h => ?_)
  · obtain ⟨_, _, r, ⟨a, b, _, _, _, rfl, rfl⟩, _⟩ := h
    exact r.len
  · obtain ⟨ds, d, hrep, ⟨a, b, ha, hb, hab, rfl, rfl⟩, hT, fin⟩ := h
    refine ⟨_, (pss_cons (ps_expr (pe_callC c_need_row hr (by decide) (by rfl) (pa_cons (pv 0) pa_nil))) (pss_cons (ps_expr (pe_callC c_need_row hr (by decide) (by rfl) (pa_cons (pv 1) pa_nil))) (pss_one (ps_ret (pe_cmpR (r := rEqD K) (op_eqD hr.units) (pe_callC c_ascending hr (by decide) (by rfl) (pa_cons (pv 0) pa_nil)) (pe_callC c_ascending hr (by decide) (by rfl) (pa_cons (pv 1) pa_nil)) (nomark _)))))), ?_⟩
    have st : S1 [] H (arg [rowD a, rowD b] 0) (L2.start N_alike_at_tap vs) H := S1_start (N := N_alike_at_tap) In_nil hrep
    refine N_drop (E_call (EA_cons (E_var rfl) EA_nil) ⟨a, ha, rfl, rfl⟩) [] H _ H _ st fun σ1 H1 st1 => ?_
    refine N_drop (E_call (EA_cons (E_var rfl) EA_nil) ⟨b, hb, rfl, rfl⟩) [] H _ H1 _ st1 fun σ' H' ⟨G, z⟩ => ?_
    obtain ⟨v0, e0, r0⟩ := z.env.at_ 0 (.d (rowD a)) rfl
    obtain ⟨v1, e1, r1⟩ := z.env.at_ 1 (.d (rowD b)) rfl
    have r0' : Rp [] H' v0 (rowD a) := Rp.sub (show Rp G H' v0 (rowD a) from r0) fun a h => by cases h
    have r1' : Rp [] H' v1 (rowD b) := Rp.sub (show Rp G H' v1 (rowD b) from r1) fun a h => by cases h
    refine ⟨v0, e0, [rowD a], _, .cons r0' .nil, ⟨a, ha, rfl, rfl⟩, hT.ext z.ext, fun x H2 n2 T2 q2 => ⟨v1, e1, [rowD b], _, .cons (Rp.extN n2 _ _ r1') .nil, ⟨b, hb, rfl, rfl⟩, T2, fun y H3 n3 T3 q3 => ?_⟩⟩
    have q2' := Rp.extN n3 _ _ q2
    refine ⟨_, _, Rp.dp _ _ q2', Rp.dp _ _ q3, shaped_row, shaped_row, ?_⟩
    rw [hab, eqv_row]
    exact fin _ _ (((LamX.ExtN.of z.ext).trans n2).trans n3) T3 (.bl _)
end Cal
set_option Elab.async false
set_option linter.all false
set_option maxRecDepth 100000
set_option maxHeartbeats 4000000
namespace Cal
open PySem PySem.Spec PyProof.Rows L2

/-! ### the keg: a list of one's own of three ints -/
/-- all but the object at p stays -/
def ExB (p : Addr) (H H' : Hp) : Prop := ∀ b o, b ≠ p → H b = some o → H' b = some o
theorem ExB.of {p : Addr} {H H' : Hp} (e : Same H H') : ExB p H H' := fun b o _ h => e b o h
theorem ExB.trans {p : Addr} {H H1 H2 : Hp} (a : ExB p H H1) (b : ExB p H1 H2) : ExB p H H2 := fun c o n h => b c o n (a c o n h)
theorem Rp.exB {p : Addr} {H H' : Hp} {v : V} {d : D} (h : Rp [p] H v d) (e : ExB p H H') : Rp [p] H' v d := Rp.mono (fun a o ha q => e a o (fun z => ha (by simp [z])) q) (fun _ z _ => z) _ _ h
theorem Rps.exB {p : Addr} {H H' : Hp} {vs : List V} {ds : List D} (h : Rps [p] H vs ds) (e : ExB p H H') : Rps [p] H' vs ds := Rps.mono (fun a o ha q => e a o (fun z => ha (by simp [z])) q) (fun _ z _ => z) _ _ h
structure Keg (H : Hp) (p : Addr) (n : Nat) : Prop where
  ex : ∃ a b c : Int, H p = some (.lst [.int a, .int b, .int c]) ∧ 0 ≤ b ∧ b < 2 ^ 100 ∧ 0 ≤ c ∧ c ≤ n
theorem Keg.same {H H' : Hp} {p : Addr} {n : Nat} (k : Keg H p n) (e : Same H H') : Keg H' p n := by
  obtain ⟨a, b, c, h, r⟩ := k
  exact ⟨a, b, c, e _ _ h, r⟩
theorem Keg.mono {H : Hp} {p : Addr} {n m : Nat} (k : Keg H p n) (h : n ≤ m) : Keg H p m := by
  obtain ⟨a, b, c, h1, h2, h3, h4, h5⟩ := k
  exact ⟨a, b, c, h1, h2, h3, h4, by omega⟩
theorem Keg.inn {H : Hp} {p : Addr} {n : Nat} (k : Keg H p n) : In [p] H := fun a ha => by
  obtain ⟨_, _, _, h, _⟩ := k
  rw [List.mem_singleton.mp ha, h]
  intro z; cases z
def ρK (a b c m : Int) (x y : Option Int) : Rho := [some (.o [.int a, .int b, .int c]), some (.d (.int m)), x.map fun i => .d (.int i), y.map fun i => .d (.int i)]
def σK (p : Addr) (m : Int) (x y : Option Int) : L2.St := [some (.ref p), some (.int m), x.map V.int, y.map V.int]
theorem envK {H : Hp} {p : Addr} {a b c m : Int} {x y : Option Int} (h : H p = some (.lst [.int a, .int b, .int c])) : EnvR [p] (σK p m x y) H (ρK a b c m x y) := by
  refine ⟨rfl, fun i s q => ?_⟩
  match i, q with
  | 0, q => cases q; exact ⟨_, rfl, p, _, rfl, List.mem_singleton.mpr rfl, h, .cons (.int _) (.cons (.int _) (.cons (.int _) .nil))⟩
  | 1, q => cases q; exact ⟨_, rfl, .int _⟩
  | 2, q =>
    cases x with
    | none => cases q
    | some i => cases q; exact ⟨_, rfl, .int _⟩
  | 3, q =>
    cases y with
    | none => cases q
    | some i => cases q; exact ⟨_, rfl, .int _⟩
  | n + 4, q => cases q
theorem inK {H : Hp} {p : Addr} {o : HO} (h : H p = some o) : In [p] H := fun a ha => by
  rw [List.mem_singleton.mp ha, h]
  intro z; cases z
theorem E_mulS {ρ : Rho} {ta tb : TE} {i j : Int} (ha : E ta ρ (.int i)) (hb : E tb ρ (.int j)) (hc : CMul i j) : E (tOp (rI CMul fun i j => .int (i * j)) ta tb) ρ (.int (i * j)) := E_iC ha hb hc fun _ _ => .int _
theorem E_exp {ρ : Rho} {b : Int} {n : Nat} (hb : b.natAbs < 2 ^ 1000) (hn : n ≤ 100) : E (tOp (rI CPowW fun i j => .int (i ^ j.toNat)) (tC (.int b)) (tC (.int (n : Int)))) ρ (.int (b ^ n)) := E_pow E_int E_int ⟨by omega, by omega, hb⟩

abbrev s_Lkeg : Stmt := topS 42
abbrev N_Lkeg : List Str := ["_law_cell", "_law_k"]
theorem sc_Lkeg : FnScope N_Lkeg ["_law_cell", "_law_k"] (defScope s_Lkeg) := ⟨rfl, rfl, rfl, by decide +kernel, rfl, by decide +kernel, by decide +kernel⟩
def SpKeg : Sp := fun vs H Q _ => ∃ (x : Int) (k : Nat), vs = [.int x, .int (k : Int)] ∧ k ≤ 1000 ∧ ∀ p H', Same H H' → H p = none → Keg H' p 0 → Q (.ref p) H'
theorem ok_Lkeg {P : Program} {w : World} {K : PySem.W.Frag} {mg : Str → Option Value} {base : Heap} (T : Bl mg) {f : Addr} {fd : FuncData} (F : Fun K "_law_keg" "_law_keg" s_Lkeg f fd) : FnOk P w K mg base CX0 1 f fd ["_law_cell", "_law_k"] SpKeg := by
  refine F.ok sc_Lkeg (fun vs H Q E h => ?_) (fun cdv A outer s H vs Q E hr h => ?_)
  · obtain ⟨x, k, rfl, _⟩ := h
    rfl
  · obtain ⟨x, k, rfl, hk, fin⟩ := h
    refine ⟨_, (pss_one (ps_ret (pe_lst (pa_cons (pe_callB (r := rMax2) (call_max2 rfl) (by rfl) T.max (by decide +kernel) (pa_cons pe_int (pa_cons (pe_op op_sub (pe_callB (r := rAbs) call_abs (by rfl) T.abs (by decide +kernel) (pa_cons (pv 0) pa_nil)) (pe_op op_powW pe_int pe_int)) pa_nil))) (pa_cons (pe_op op_mod (pe_callTy (r := rInt1) call_int1 (by rfl) T.int (by decide +kernel) (pa_cons (pe_op op_add (pe_op op_mul (pv 0) pe_int) (pe_op op_mulW (pe_op op_add (pv 1) pe_int) pe_int)) pa_nil)) (pe_op op_add (pe_op op_powW pe_int pe_int) pe_int)) (pa_cons pe_int pa_nil)))))), ?_⟩
    have en : EnvR [] (L2.start N_Lkeg [.int x, .int (k : Int)]) H [some (.d (.int x)), some (.d (.int (k : Int)))] := by
      refine ⟨rfl, fun i s q => ?_⟩
      match i, q with
      | 0, q => cases q; exact ⟨_, rfl, .int _⟩
      | 1, q => cases q; exact ⟨_, rfl, .int _⟩
      | n + 2, q => cases q
    have hM : (0 : Int) < 10 ^ 24 + 7 := by decide
    refine EO_lst (EA_cons (E_max2 E_int (E_sub (E_abs (E_var rfl)) (E_exp (n := 18) (by decide) (by decide)))) (EA_cons (E_mod (E_intI (E_add (E_mulS (E_var rfl) E_int (.inr (by decide))) (E_mul (E_add (E_var rfl) E_int) E_int (wide_mul (a := 20) (b := 40) (by omega) (by decide) (by decide) (by decide) (by decide))))) (E_add (E_exp (n := 24) (by decide) (by decide)) E_int) hM) (EA_cons E_int EA_nil))) (by show 3 ≤ 100000; decide) [] _ H In_nil en _ fun p xs H2 s2 n2 h2 r2 => ?_
    cases r2 with
    | cons a1 a2 =>
    cases a2 with
    | cons b1 b2 =>
    cases b2 with
    | cons c1 c2 =>
    cases c2; cases a1; cases b1; cases c1
    refine fin p H2 s2 n2 ⟨_, _, _, h2, Int.emod_nonneg _ (by omega), Int.lt_trans (Int.emod_lt_of_pos _ hM) (by decide), by decide, by decide⟩

abbrev s_Lpull : Stmt := topS 43
abbrev N_Lpull : List Str := ["_law_keg_here", "_law_many", "_law_pulled", "_law_stirred"]
theorem sc_Lpull : FnScope N_Lpull ["_law_keg_here", "_law_many"] (defScope s_Lpull) := ⟨rfl, rfl, rfl, by decide +kernel, rfl, by decide +kernel, by decide +kernel⟩
def SpPull : Sp := fun vs H Q _ => ∃ (p : Addr) (m : Int) (n : Nat), vs = [.ref p, .int m] ∧ Keg H p n ∧ 0 < m ∧ m < 2 ^ 64 ∧ n < 2 ^ 60 ∧ ∀ (r : Int) H', 0 ≤ r → r < m → ExB p H H' → Keg H' p (n + 1) → Q (.int r) H'
theorem ok_Lpull {P : Program} {w : World} {K : PySem.W.Frag} {mg : Str → Option Value} {base : Heap} (T : Bl mg) {f : Addr} {fd : FuncData} (F : Fun K "_law_pull" "_law_pull" s_Lpull f fd) : FnOk P w K mg base CX0 1 f fd ["_law_keg_here", "_law_many"] SpPull := by
  refine F.ok sc_Lpull (fun vs H Q E h => ?_) (fun cdv A outer s H vs Q E hr h => ?_)
  · obtain ⟨p, m, n, rfl, _⟩ := h
    rfl
  · obtain ⟨p, m, n, rfl, ⟨a, b, c, h0, hb0, hb1, hc0, hc1⟩, hm0, hm1, hn, fin⟩ := h
    refine ⟨_, (pss_cons (ps_if (pt_cmpR op_gt (pe_ix (r := rIx K) ix_seq (pv 0) pe_int (fun _ _ => rfl)) pe_int (nomark _)) (pss_cons (ps_set (i := 2) sc_Lpull.nd rfl (.inl rfl) (pe_op op_mod (pe_callTy (r := rInt1) call_int1 (by rfl) T.int (by decide +kernel) (pa_cons (pe_ix (r := rIx K) ix_seq (pv 0) pe_int (fun _ _ => rfl)) pa_nil)) (pv 1))) (pss_cons (ps_asg (pe_op op_fdivW (pe_ix (r := rIx K) ix_seq (pv 0) pe_int (fun _ _ => rfl)) (pv 1)) (pg_sub (pv 0) pe_int set_list)) (pss_one (ps_ret (pv 2))))) pss_nil) (pss_cons (ps_asg (pe_op op_add (pe_ix (r := rIx K) ix_seq (pv 0) pe_int (fun _ _ => rfl)) pe_int) (pg_sub (pv 0) pe_int set_list)) (pss_cons (ps_set (i := 3) sc_Lpull.nd rfl (.inl rfl) (pe_op op_mod (pe_callTy (r := rInt1) call_int1 (by rfl) T.int (by decide +kernel) (pa_cons (pe_op op_powW (pe_op op_add (pe_ix (r := rIx K) ix_seq (pv 0) pe_int (fun _ _ => rfl)) (pe_op op_mulW (pe_ix (r := rIx K) ix_seq (pv 0) pe_int (fun _ _ => rfl)) pe_int)) pe_int) pa_nil)) (pe_op op_add (pe_op op_powW pe_int pe_int) pe_int))) (pss_one (ps_ret (pe_op op_mod (pe_op op_fdivW (pe_op op_mod (pe_callTy (r := rInt1) call_int1 (by rfl) T.int (by decide +kernel) (pa_cons (pe_op op_add (pe_op op_mulW (pv 3) (pv 3)) (pe_op op_fdivW (pv 3) pe_int)) pa_nil)) (pe_op op_add (pe_op op_powW pe_int pe_int) pe_int)) pe_int) (pv 1))))))), ?_⟩
    have dv : ∀ z : Int, CDivW z m := fun z => wide_div (b := 64) hm0 (by omega) (by decide) (by decide)
    by_cases ha : 0 < a
    · refine (T_is (T_B (E_gt (E_ixO rfl E_int rfl) E_int)) (decide_eq_true ha) : Cal.T _ (ρK a b c m none none) true) [p] (σK p m none none) H (inK h0) (envK h0) _ fun H1 s1 => iteT ?_
      have h1 := s1 _ _ h0
      refine (E_mod (E_intI (E_ixO rfl E_int rfl)) (E_var rfl) hm0 : Cal.E _ (ρK a b c m none none) _) [p] (σK p m none none) H1 (inK h1) (envK h1) _ fun v H2 s2 r2 => ?_
      cases r2
      have h2 := s2 _ _ h1
      refine (E_fdiv (E_ixO rfl E_int rfl) (E_var rfl) (dv _) : Cal.E _ (ρK a b c m (some (a % m)) none) _) [p] (σK p m (some (a % m)) none) H2 (inK h2) (envK h2) _ fun v H3 s3 r3 => ?_
      cases r3
      have h3 := s3 _ _ h2
      refine ⟨_, rfl, p, _, 0, 0, rfl, rfl, h3, rfl, _, rfl, ?_⟩
      exact fin _ _ (Int.emod_nonneg _ (by omega)) (Int.emod_lt_of_pos _ hm0) (fun x o nx e => by rw [upd_ne nx]; exact s3 _ _ (s2 _ _ (s1 _ _ e))) ⟨_, _, _, upd_same, hb0, hb1, hc0, by omega⟩
    · refine (T_is (T_B (E_gt (E_ixO rfl E_int rfl) E_int)) (decide_eq_false ha) : Cal.T _ (ρK a b c m none none) false) [p] (σK p m none none) H (inK h0) (envK h0) _ fun H1 s1 => iteF ?_
      have h1 := s1 _ _ h0
      refine (E_add (E_ixO rfl E_int rfl) E_int : Cal.E _ (ρK a b c m none none) _) [p] (σK p m none none) H1 (inK h1) (envK h1) _ fun v H2 s2 r2 => ?_
      cases r2
      have h2 := s2 _ _ h1
      refine ⟨_, rfl, p, _, 2, 2, rfl, rfl, h2, rfl, ?_⟩
      have h3 : upd H2 p (.lst [.int a, .int b, .int (c + 1)]) p = some (.lst [.int a, .int b, .int (c + 1)]) := upd_same
      have hM : (0 : Int) < 10 ^ 28 + 331 := by decide
      have hM2 : (0 : Int) < 10 ^ 25 + 13 := by decide
      refine (E_mod (E_intI (E_pow (E_add (E_ixO rfl E_int rfl) (E_mul (E_ixO rfl E_int rfl) E_int (wide_mul (a := 62) (b := 40) (by omega) (by decide) (by decide) (by decide) (by decide)))) E_int ⟨by decide, by decide, ?_⟩)) (E_add (E_exp (n := 28) (by decide) (by decide)) E_int) hM : Cal.E _ (ρK a b (c + 1) m none none) _) [p] (σK p m none none) _ (inK h3) (envK h3) _ fun v H4 s4 r4 => ?_
      · have : (b + (c + 1) * 179424673).natAbs < 2 ^ 110 := by omega
        exact Nat.lt_of_lt_of_le this (Nat.pow_le_pow_right (by decide) (by decide))
      · cases r4
        have h4 := s4 _ _ h3
        have k0 := Int.emod_nonneg ((b + (c + 1) * 179424673) ^ (3 : Int).toNat) (show (10 ^ 28 + 331 : Int) ≠ 0 by decide)
        have k1 := Int.emod_lt_of_pos ((b + (c + 1) * 179424673) ^ (3 : Int).toNat) hM
        generalize ez : (b + (c + 1) * 179424673) ^ (3 : Int).toNat % (10 ^ 28 + 331) = z at k0 k1 ⊢
        have zb : z.natAbs < 2 ^ 100 := by
          have : (10 ^ 28 + 331 : Int) < 2 ^ 100 := by decide
          omega
        refine (E_mod (E_fdiv (E_mod (E_intI (E_add (E_mul (E_var rfl) (E_var rfl) (wide_mul zb zb (by decide) (by decide) (by decide))) (E_fdiv (E_var rfl) E_int (wide_div (b := 20) (by decide) (by decide) (by decide) (by decide))))) (E_add (E_exp (n := 25) (by decide) (by decide)) E_int) hM2) E_int (wide_div (b := 20) (by decide) (by decide) (by decide) (by decide))) (E_var rfl) hm0 : Cal.E _ (ρK a b (c + 1) m none (some z)) _) [p] (σK p m none (some z)) H4 (inK h4) (envK h4) _ fun v H5 s5 r5 => ?_
        cases r5
        exact fin _ _ (Int.emod_nonneg _ (by omega)) (Int.emod_lt_of_pos _ hm0) (fun x o nx e => s5 _ _ (s4 _ _ (by rw [upd_ne nx]; exact s2 _ _ (s1 _ _ e)))) ⟨_, _, _, s5 _ _ h4, hb0, hb1, by omega, by omega⟩

end Cal
set_option Elab.async false
set_option linter.all false
set_option maxRecDepth 100000
set_option maxHeartbeats 4000000
namespace Cal
open PySem PySem.Spec PyProof.Rows L2

theorem ExB.cons {p : Addr} {H H' : Hp} {G : Own} {vs : List V} {ds : List D} (e : ExB p H H') (hp : p ∈ G) (h : Rps G H vs ds) : Rps G H' vs ds := Rps.mono (fun a o ha q => e a o (fun z => ha (z ▸ hp)) q) (fun _ z _ => z) _ _ h
theorem Keg.at_ {H : Hp} {p : Addr} {n : Nat} (k : Keg H p n) : ∃ o, H p = some o := by
  obtain ⟨_, _, _, h, _⟩ := k
  exact ⟨_, h⟩
theorem pull_at {σ : L2.St} {H : Hp} {p : Addr} {m : Int} {n : Nat} {Q : VK} {tm : TE} (h0 : σ[0]? = some (some (.ref p))) (hm : ∀ Q' : VK, Q' (.int m) H → tm σ H Q') (k : Keg H p n) (h1 : 0 < m) (h2 : m < 2 ^ 64) (h3 : n < 2 ^ 60)
    (fin : ∀ (r : Int) H', 0 ≤ r → r < m → ExB p H H' → Keg H' p (n + 1) → Q (.int r) H') : tCall SpPull [] E0 (tCons (tVar 0) (tCons tm tNil)) σ H Q :=
  ⟨_, h0, hm _ ⟨p, m, n, rfl, k, h1, h2, h3, fin⟩⟩
theorem qd_share {a b : Int} (h1 : 0 < a) (h2 : a ≤ b) (h3 : b ≤ 1000) : 0 < qd a b ∧ qd a b ≤ 1 ∧ (qd a b).den ≤ 1000 := by
  have hb : 0 < b := by omega
  have hg : 0 < Nat.gcd a.natAbs b.natAbs := Nat.gcd_pos_of_pos_right _ (by omega)
  have en := qd_num (a := a) hb
  have ed := qd_den (a := a) hb
  obtain ⟨x, ex⟩ : ((Nat.gcd a.natAbs b.natAbs : Nat) : Int) ∣ a := (by have h := Nat.gcd_dvd_left a.natAbs b.natAbs; exact Int.ofNat_dvd_left.mpr h)
  obtain ⟨y, ey⟩ : ((Nat.gcd a.natAbs b.natAbs : Nat) : Int) ∣ b := (by have h := Nat.gcd_dvd_right a.natAbs b.natAbs; exact Int.ofNat_dvd_left.mpr h)
  generalize Nat.gcd a.natAbs b.natAbs = g at *
  have hgi : (0 : Int) < g := by omega
  have e1 : a / (g : Int) = x := by rw [ex]; exact Int.mul_ediv_cancel_left _ (by omega)
  have e2 : b / (g : Int) = y := by rw [ey]; exact Int.mul_ediv_cancel_left _ (by omega)
  rw [e1] at en
  rw [e2] at ed
  have hx : 0 < x := by
    by_cases z : 0 < x
    · exact z
    · have := Int.mul_le_mul_of_nonneg_left (show x ≤ 0 by omega) (show (0 : Int) ≤ g by omega)
      omega
  have hxy : x ≤ y := by
    by_cases z : x ≤ y
    · exact z
    · have := Int.mul_lt_mul_of_pos_left (show y < x by omega) hgi
      omega
  have hy : y ≤ b := by
    have := Int.mul_le_mul_of_nonneg_right (show (1 : Int) ≤ g by omega) (show 0 ≤ y by omega)
    omega
  refine ⟨?_, ?_, by omega⟩
  · rw [Rat.lt_iff, en]
    simp
    exact hx
  · rw [Rat.le_iff, en, ed]
    simp
    exact hxy

abbrev s_Lrow : Stmt := topS 48
abbrev N_Lrow : List Str := ["_law_keg_here", "_law_most", "_law_row_here", "_law_k", "_law_below"]
theorem sc_Lrow : FnScope N_Lrow ["_law_keg_here", "_law_most"] (defScope s_Lrow) := ⟨rfl, rfl, rfl, by decide +kernel, rfl, by decide +kernel, by decide +kernel⟩
def SpRow : Sp := fun vs H Q _ => ∃ (p : Addr) (n : Nat), vs = [.ref p, .int 3] ∧ Keg H p n ∧ n < 2 ^ 50 ∧ ∀ v H' (r : List Rat), Row r → r.length ≤ 3 → ExB p H H' → Keg H' p (n + 20) → Rp [p] H' v (rowD r) → Q v H'
/-- the row so far -/
structure RowSt (H0 : Hp) (p q : Addr) (n i : Nat) (σ : L2.St) (H : Hp) : Prop where
  len : σ.length = 5
  s0 : σ[0]? = some (some (.ref p))
  s2 : σ[2]? = some (some (.ref q))
  keg : Keg H p (n + 1 + 6 * i)
  ext : ExB p H0 H
  ex : ∃ (xs : List V) (r : List Rat), H q = some (.lst xs) ∧ r.length = i ∧ (∀ x ∈ r, (0 < x ∧ x ≤ 1) ∧ x.den ≤ 1000) ∧ Rps [q, p] H xs (r.map fr)
theorem ok_Lrow {P : Program} {w : World} {K : PySem.W.Frag} {mg : Str → Option Value} {base : Heap} (T : Bl mg) (c_Lpull : Callee P w K mg base 1 "_law_pull" ["_law_keg_here", "_law_many"] SpPull) (c_Llow : Callee P w K mg base 1 "_law_low" ["_law_above", "_law_below"] (SpR R_Llow)) {f : Addr} {fd : FuncData} (F : Fun K "_law_row" "_law_row" s_Lrow f fd) : FnOk P w K mg base CX0 2 f fd ["_law_keg_here", "_law_most"] SpRow := by
  refine F.ok sc_Lrow (fun vs H Q E h => ?_) (fun cdv A outer s H vs Q E hr h => ?_)
  · obtain ⟨p, n, rfl, _⟩ := h
    rfl
  · obtain ⟨p, n, rfl, hk, hn, fin⟩ := h
    refine ⟨_, (pss_cons (ps_set (i := 2) sc_Lrow.nd rfl (.inl rfl) (pe_lst pa_nil)) (pss_cons (ps_for PassesOwn.never rfl (pi_range1 rfl T.range (pa_cons (pe_op op_add pe_int (pe_callC c_Lpull hr (by decide) (by rfl) (pa_cons (pv 0) (pa_cons (pv 1) pa_nil)))) pa_nil)) (pg_name (i := 3) sc_Lrow.nd rfl (.inl rfl)) (pss_cons (ps_set (i := 4) sc_Lrow.nd rfl (.inl rfl) (pe_ix (r := rIx K) ix_seq (pe_lst (pa_cons pe_int (pa_cons (pe_op op_add pe_int (pe_callC c_Lpull hr (by decide) (by rfl) (pa_cons (pv 0) (pa_cons pe_int pa_nil)))) (pa_cons (pe_op op_add pe_int (pe_callC c_Lpull hr (by decide) (by rfl) (pa_cons (pv 0) (pa_cons pe_int pa_nil)))) (pa_cons (pe_op op_add pe_int (pe_callC c_Lpull hr (by decide) (by rfl) (pa_cons (pv 0) (pa_cons pe_int pa_nil)))) pa_nil))))) (pe_callC c_Lpull hr (by decide) (by rfl) (pa_cons (pv 0) (pa_cons pe_int pa_nil))) (fun _ _ => rfl))) (pss_one (ps_expr (pe_bm PySem.F.plainAttrs_list PySem.F.slot_list_append PySem.F.type_list_append mt_append (pv 2) (pa_cons (pe_callC c_Llow hr (by decide) (by rfl) (pa_cons (pe_op op_add pe_int (pe_callC c_Lpull hr (by decide) (by rfl) (pa_cons (pv 0) (pa_cons (pv 4) pa_nil)))) (pa_cons (pv 4) pa_nil))) pa_nil)))))) (pss_one (ps_ret (pe_tupleOf (by rfl) T.tuple (pv 2)))))), ?_⟩
    refine ⟨by decide, fun q hq => ?_⟩
    obtain ⟨o0, ho0⟩ := hk.at_
    have npq : q ≠ p := fun z => by rw [z, ho0] at hq; cases hq
    have k1 : Keg (upd H q (.lst [])) p n := hk.same (same_new hq)
    refine pull_at (p := p) (m := 3) rfl (fun Q' h => ⟨_, rfl, h⟩) k1 (by decide) (by decide) (by omega) fun r0 H1 h0 h3 e1 k2 => ?_
    refine ⟨1, r0, rfl, rfl, 1 + r0, rfl, by omega, by omega, ?_⟩
    have hq1 : H1 q = some (.lst []) := e1 _ _ npq upd_same
    refine for_range (lo := 0) (n := (1 + r0).toNat) (fun i σ' H' => RowSt H p q n i σ' H') ?_ ?_ ?_
    · exact ⟨rfl, rfl, rfl, k2, (ExB.of (same_new hq)).trans e1, [], [], hq1, rfl, fun x hx => (by cases hx), .nil⟩
    · rintro i σ' H' hi ⟨hl, s0, s2, kg, ext, xs, r, hx, hrl, hsh, hrep⟩
      have hi3 : i < 3 := by omega
      have g0 : (σ'.set 3 (some (.int ((0 : Int) + (i : Int)))))[0]? = some (some (.ref p)) := by rw [List.getElem?_set_ne (by decide)]; exact s0
      have g2 : (σ'.set 3 (some (.int ((0 : Int) + (i : Int)))))[2]? = some (some (.ref q)) := by rw [List.getElem?_set_ne (by decide)]; exact s2
      refine pull_at (p := p) (m := 9) g0 (fun Q' h => h) kg (by decide) (by decide) (by omega) fun r1 H2 a1 b1 e2 k3 => ?_
      refine ⟨2, r1, rfl, rfl, ?_⟩
      refine pull_at (p := p) (m := 9) g0 (fun Q' h => h) k3 (by decide) (by decide) (by omega) fun r2 H3 a2 b2 e3 k4 => ?_
      refine ⟨2, r2, rfl, rfl, ?_⟩
      refine pull_at (p := p) (m := 999) g0 (fun Q' h => h) k4 (by decide) (by decide) (by omega) fun r3 H4 a3 b3 e4 k5 => ?_
      refine ⟨2, r3, rfl, rfl, sz (n := 4) (by decide), fun l hl4 => ?_⟩
      have k6 : Keg (upd H4 l (.lst [.int 1, .int (2 + r1), .int (2 + r2), .int (2 + r3)])) p _ := k5.same (same_new hl4)
      have nlp : l ≠ p := fun z => by
        obtain ⟨o, ho⟩ := k5.at_
        rw [z, ho] at hl4; cases hl4
      refine pull_at (p := p) (m := 4) g0 (fun Q' h => h) k6 (by decide) (by decide) (by omega) fun r4 H5 a4 b4 e5 k7 => ?_
      have hl5 : H5 l = some (.lst [.int 1, .int (2 + r1), .int (2 + r2), .int (2 + r3)]) := e5 _ _ nlp upd_same
      obtain ⟨below, hb1, hb2, hat⟩ : ∃ b : Int, 1 ≤ b ∧ b ≤ 1000 ∧ atI [V.int 1, .int (2 + r1), .int (2 + r2), .int (2 + r3)] r4 = some (.int b) := by
        have : r4 = 0 ∨ r4 = 1 ∨ r4 = 2 ∨ r4 = 3 := by omega
        rcases this with rfl | rfl | rfl | rfl
        · exact ⟨1, by omega, by omega, rfl⟩
        · exact ⟨2 + r1, by omega, by omega, rfl⟩
        · exact ⟨2 + r2, by omega, by omega, rfl⟩
        · exact ⟨2 + r3, by omega, by omega, rfl⟩
      refine .inl ⟨l, _, r4, .int below, rfl, rfl, .inl (.inl hl5), hat, ?_⟩
      have e05 : ExB p H' H5 := ((e2.trans e3).trans (e4.trans (ExB.of (same_new hl4)))).trans e5
      have hx5 : H5 q = some (.lst xs) := e05 _ _ npq hx
      have f0 : ((σ'.set 3 (some (.int ((0 : Int) + (i : Int))))).set 4 (some (.int below)))[0]? = some (some (.ref p)) := by rw [List.getElem?_set_ne (by decide)]; exact g0
      have f2 : ((σ'.set 3 (some (.int ((0 : Int) + (i : Int))))).set 4 (some (.int below)))[2]? = some (some (.ref q)) := by rw [List.getElem?_set_ne (by decide)]; exact g2
      have f4 : ((σ'.set 3 (some (.int ((0 : Int) + (i : Int))))).set 4 (some (.int below)))[4]? = some (some (.int below)) := by rw [List.getElem?_set_self (by rw [List.length_set, hl]; decide)]
      refine ⟨_, f2, .inl ⟨rfl, xs, .inl (.inl hx5)⟩, ?_⟩
      refine pull_at (p := p) (m := below) f0 (fun Q' h => ⟨_, f4, h⟩) k7 (by omega) (by omega) (by omega) fun r5 H6 a5 b5 e6 k8 => ?_
      refine ⟨1, r5, rfl, rfl, _, f4, ?_⟩
      have hx6 : H6 q = some (.lst xs) := e6 _ _ npq hx5
      have in6 : In [q, p] H6 := fun a ha => by
        rcases List.mem_cons.mp ha with rfl | ha
        · rw [hx6]; intro z; cases z
        · exact k8.inn a ha
      refine ⟨[q, p], [.int (1 + r5), .int below], _, in6, .cons (.int _) (.cons (.int _) .nil), ⟨1 + r5, below, rfl, by omega, ?_, rfl⟩, fun v H7 s7 r7 => ?_⟩
      · have h1 : below.natAbs < 2 ^ 10 := by omega
        exact Nat.lt_of_lt_of_le h1 (Nat.pow_le_pow_right (by decide) (by decide))
      · have hx7 := s7 _ _ hx6
        have k9 := k8.same s7
        have xl : xs.length = i := by rw [hrep.len, List.length_map, hrl]
        have e07 : ExB p H' H7 := (e05.trans e6).trans (ExB.of s7)
        have rep7 : Rps [q, p] H7 xs (r.map fr) := e07.cons (by simp) hrep
        refine ⟨q, xs, v, rfl, rfl, hx7, by rw [xl]; exact Nat.lt_trans hi3 (by decide), ?_⟩
        have kp : ∀ a o, a ∉ [q, p] → H7 a = some o → upd H7 q (.lst (xs ++ [v])) a = some o := fun a o ha e => by
          rw [upd_ne fun z => ha (by simp [z])]; exact e
        have sh := qd_share (a := 1 + r5) (b := below) (by omega) (by omega) (by omega)
        refine ⟨by simp [hl], f0, f2, ?_, fun b o hb e => ?_, xs ++ [v], r ++ [qd (1 + r5) below], upd_same, by rw [List.length_append, hrl]; rfl, fun x hx => ?_, ?_⟩
        · obtain ⟨a, b, c, h, rest⟩ := k9
          obtain ⟨z1, z2, z3, z4⟩ := rest
          exact ⟨a, b, c, by rw [upd_ne (Ne.symm npq)]; exact h, z1, z2, z3, by omega⟩
        · rw [upd_ne (ne_of_none e hq)]
          exact e07 _ _ hb (ext _ _ hb e)
        · rcases List.mem_append.mp hx with hx | hx
          · exact hsh x hx
          · rw [List.mem_singleton.mp hx]
            exact ⟨⟨sh.1, sh.2.1⟩, sh.2.2⟩
        · rw [List.map_append]
          exact Rps.mono kp (fun _ z _ => z) _ _ (rep7.append (.cons r7 .nil))
    · rintro σ' H' ⟨hl, s0, s2, kg, ext, xs, r, hx, hrl, hsh, hrep⟩
      refine ⟨_, s2, .inl ⟨q, xs, rfl, .inl (.inl hx), fun t ht => ?_⟩⟩
      have nt : t ∉ [p] := fun z => by
        obtain ⟨o, ho⟩ := kg.at_
        rw [List.mem_singleton.mp z, ho] at ht
        cases ht
      exact fin _ _ r ⟨by omega, by omega, fun x hx => (hsh x hx).1, fun x hx => (hsh x hx).2⟩ (by omega) (ext.trans (ExB.of (same_new ht))) ((kg.same (same_new ht)).mono (by omega))
        (.tup nt (.inl upd_same) ((hrep.sub fun a ha => List.mem_cons_of_mem _ ha).same (same_new ht)))

end Cal
set_option Elab.async false
set_option linter.all false
set_option maxRecDepth 100000
set_option maxHeartbeats 4000000
namespace Cal
open PySem PySem.Spec PyProof.Rows L2

/-- all but the object at p and the tables stays -/
def ExNB (p : Addr) (H H' : Hp) : Prop := ∀ b o, b ≠ p → H b = some o → (∀ ps, o ≠ .tbl ps) → H' b = some o
theorem tabs_exB {T : List (Addr × Str)} {p : Addr} {n : Nat} {H H' : Hp} (t : LamX.Tabs T H) (k : Keg H p n) (e : ExB p H H') : LamX.Tabs T H' := fun q hq => by
  obtain ⟨a, b, c, h, _⟩ := k
  obtain ⟨ps, h1, h2, h3⟩ := t q hq
  have ne : ∀ x o, H x = some o → o ≠ .lst [.int a, .int b, .int c] → x ≠ p := fun x o hx hn z => by
    rw [z, h] at hx
    exact hn (Option.some.inj hx).symm
  refine ⟨ps, e _ _ (ne _ _ h1 fun z => by cases z) h1, h2, fun pos cv hc => ?_⟩
  obtain ⟨c', e1, e2⟩ := h3 pos cv hc
  exact ⟨c', e1, e _ _ (ne _ _ e2 fun z => by unfold LamX.CodeO at z; cases z) e2⟩
theorem meanQ_sz {r : List Rat} (h : Row r) : Sz 30000 400 (meanQ r) := by
  have hl := h.l6
  have s := sum_sz (qs := r.map fun p => p⁻¹) (fun q hq => ?_) r.length (by rw [List.length_map]; exact Nat.le_refl _)
  · rcases s with s | s
    · rw [List.take_of_length_le (by rw [List.length_map]; exact Nat.le_refl _)] at s
      exact s.mono (by omega) (by omega)
    · omega
  · obtain ⟨p, hp, rfl⟩ := List.mem_map.mp hq
    have := share_sz h hp
    constructor
    · rw [Rat.num_inv, Int.sign_eq_one_of_pos this.1]; omega
    · rw [Rat.den_inv, if_neg (by omega)]; omega
theorem spreadQ_sz {r : List Rat} (h : Row r) : Sz 30000 400 (spreadQ r) := by
  have hl := h.l6
  have s := sum_sz (qs := r.map spQ) (fun q hq => ?_) r.length (by rw [List.length_map]; exact Nat.le_refl _)
  · rcases s with s | s
    · rw [List.take_of_length_le (by rw [List.length_map]; exact Nat.le_refl _)] at s
      exact s.mono (by omega) (by omega)
    · omega
  · obtain ⟨p, hp, rfl⟩ := List.mem_map.mp hq
    have hs := share_sz h hp
    have h1 : (((p.den : Int) - p.num) * (p.den : Int)).natAbs < 2 ^ 64 := by
      rw [Int.natAbs_mul]
      exact Nat.lt_of_le_of_lt (Nat.mul_le_mul (show ((p.den : Int) - p.num).natAbs ≤ 1000 by omega) (show ((p.den : Int)).natAbs ≤ 1000 by omega)) (by decide)
    have h2 : (p.num * p.num).natAbs < 2 ^ 64 := by
      rw [Int.natAbs_mul]
      exact Nat.lt_of_le_of_lt (Nat.mul_le_mul (show p.num.natAbs ≤ 1000 by omega) (show p.num.natAbs ≤ 1000 by omega)) (by decide)
    exact qd_sz (Int.mul_pos hs.1 hs.1) h1 h2
theorem use_T {tt : TT} {ρ : Rho} {b : Bool} {G : Own} {σ : L2.St} {H : Hp} {Q : Bool → Hp → Prop} (g : In G H) (en : EnvR G σ H ρ) (h : T tt ρ b) (k : ∀ H1, Same H H1 → Q b H1) : tt σ H Q := h G σ H g en Q k
theorem use_E {te : TE} {ρ : Rho} {d : D} {G : Own} {σ : L2.St} {H : Hp} {Q : VK} (g : In G H) (en : EnvR G σ H ρ) (h : E te ρ d) (k : ∀ v H1, Same H H1 → Rp G H1 v d → Q v H1) : te σ H Q := h G σ H g en Q k
def σR (p : Addr) (v1 v2 : V) (v3 v4 : Option V) : L2.St := [some (.ref p), some v1, some v2, v3, v4, none]
def ρR (a b : List Rat) : Rho := [none, some (.d (rowD a)), some (.d (rowD b)), some (.d (rowD (a ++ b))), none, none]
def ρR0 (a b : List Rat) : Rho := [none, some (.d (rowD a)), some (.d (rowD b)), none, none, none]
theorem envR0 {H : Hp} {p : Addr} {v1 v2 : V} {v3 v4 : Option V} {a b : List Rat} (h1 : Rp [p] H v1 (rowD a)) (h2 : Rp [p] H v2 (rowD b)) : EnvR [p] (σR p v1 v2 v3 v4) H (ρR0 a b) := by
  refine ⟨rfl, fun i s q => ?_⟩
  match i, q with
  | 0, q => cases q
  | 1, q => cases q; exact ⟨_, rfl, h1⟩
  | 2, q => cases q; exact ⟨_, rfl, h2⟩
  | 3, q => cases q
  | 4, q => cases q
  | 5, q => cases q
  | n + 6, q => cases q
theorem envR {H : Hp} {p : Addr} {v1 v2 v3 : V} {v4 : Option V} {a b : List Rat} (h1 : Rp [p] H v1 (rowD a)) (h2 : Rp [p] H v2 (rowD b)) (h3 : Rp [p] H v3 (rowD (a ++ b))) : EnvR [p] (σR p v1 v2 (some v3) v4) H (ρR a b) := by
  refine ⟨rfl, fun i s q => ?_⟩
  match i, q with
  | 0, q => cases q
  | 1, q => cases q; exact ⟨_, rfl, h1⟩
  | 2, q => cases q; exact ⟨_, rfl, h2⟩
  | 3, q => cases q; exact ⟨_, rfl, h3⟩
  | 4, q => cases q
  | 5, q => cases q
  | n + 6, q => cases q
theorem map_ne {a : List Rat} (h : Row a) : a.map fr ≠ [] := fun z => by
  have := congrArg List.length z
  have l := h.l1
  rw [List.length_map] at this
  simp at this
  rw [this] at l
  simp at l
theorem row_cat {K : PySem.W.Frag} {ρ : Rho} {ta tb : TE} {a b : List Rat} (ha : Row a) (hb : Row b) (h1 : E ta ρ (rowD a)) (h2 : E tb ρ (rowD b)) : E (tOp (rCatT K) ta tb) ρ (rowD (a ++ b)) :=
  E_is (E_catT h1 h2 (map_ne ha) (map_ne hb) (by have := ha.l6; have := hb.l6; rw [List.length_map, List.length_map]; omega)) (by unfold rowD; rw [List.map_append])
theorem lim_cat {K : PySem.W.Frag} {ρ : Rho} {ta tb : TE} {a b : List Rat} (ha : Row a) (hb : Row b) (h1 : E ta ρ (.tuple ((a.map fun p => p⁻¹).map fr))) (h2 : E tb ρ (.tuple ((b.map fun p => p⁻¹).map fr))) : E (tOp (rCatT K) ta tb) ρ (.tuple (((a ++ b).map fun p => p⁻¹).map fr)) := by
  have la := ha.l1
  have lb := hb.l1
  refine E_is (E_catT h1 h2 (fun z => ?_) (fun z => ?_) (by have := ha.l6; have := hb.l6; simp only [List.length_map]; omega)) (by rw [List.map_append, List.map_append])
  · have := congrArg List.length z
    simp only [List.length_map, List.length_nil] at this
    omega
  · have := congrArg List.length z
    simp only [List.length_map, List.length_nil] at this
    omega
theorem pl_lim {r : List Rat} (h : Row r) : Pl 8 (.tuple ((r.map fun p => p⁻¹).map fr)) := (pl_map (n := 2) (xs := r.map fun p => p⁻¹) (f := fr) (fun _ _ => pl_fr _) (by have := h.l6; rw [List.length_map]; omega)).2.up (by decide)

abbrev s_Lright : Stmt := topS 53
abbrev N_Lright : List Str := ["_law_keg_here", "_law_one", "_law_other", "_law_both", "_law_most", "_law_share"]
theorem sc_Lright : FnScope N_Lright ["_law_keg_here"] (defScope s_Lright) := ⟨rfl, rfl, rfl, by decide +kernel, rfl, by decide +kernel, by decide +kernel⟩
def SpRight (Pt : Addr) : Sp := fun vs H Q _ => ∃ p : Addr, vs = [.ref p] ∧ Keg H p 0 ∧ LamX.Tabs (lamT Pt) H ∧ ∀ H', ExNB p H H' → LamX.Tabs (lamT Pt) H' → Q (.bl true) H'
theorem ok_Lright {P : Program} {w : World} {K : PySem.W.Frag} {mg : Str → Option Value} {base : Heap} (T : Bl mg) {Pt : Addr} (c_Lplus : Callee P w K mg base 2 "_law_plus" ["_law_one", "_law_other"] (SpR R_Lplus)) (c_Lpull : Callee P w K mg base 1 "_law_pull" ["_law_keg_here", "_law_many"] (SpPull)) (c_Lrow : Callee P w K mg base 2 "_law_row" ["_law_keg_here", "_law_most"] (SpRow)) (c_Lsame : Callee P w K mg base 8 "_law_same" ["_law_told", "_law_due"] (SpR (R_Lsame 8))) (c_Lstages_right : Callee P w K mg base 9 "_law_stages_right" ["_law_one", "_law_other", "_law_both", "_law_year"] (SpR R_Lstages_right)) (c_Ltaps_right : Callee P w K mg base 9 "_law_taps_right" ["_law_one", "_law_other", "_law_both", "_law_most"] (SpR R_Ltaps_right)) (c_alike_at_tap : Callee P w K mg base 6 "alike_at_tap" ["one", "other"] (SpT (lamT Pt) R_alike_at_tap)) (c_limits : Callee P w K mg base 6 "limits" ["row"] (SpR R_limits)) (c_mean_age : Callee P w K mg base 7 "mean_age" ["row"] (SpR R_mean_age)) (c_spread : Callee P w K mg base 6 "spread" ["row"] (SpR R_spread)) {f : Addr} {fd : FuncData} (F : Fun K "_law_right" "_law_right" s_Lright f fd) : FnOk P w K mg base CX0 10 f fd ["_law_keg_here"] (SpRight Pt) := by
  refine F.ok sc_Lright (fun vs H Q E h => ?_) (fun cdv A outer s H vs Q E hr h => ?_)
  · obtain ⟨p, rfl, _⟩ := h
    rfl
  · obtain ⟨p, rfl, k0, T0, fin⟩ := h
    refine ⟨_, (pss_cons (ps_set (i := 1) sc_Lright.nd rfl (.inl rfl) (pe_callC c_Lrow hr (by decide) (by rfl) (pa_cons (pv 0) (pa_cons pe_int pa_nil)))) (pss_cons (ps_set (i := 2) sc_Lright.nd rfl (.inl rfl) (pe_callC c_Lrow hr (by decide) (by rfl) (pa_cons (pv 0) (pa_cons pe_int pa_nil)))) (pss_cons (ps_set (i := 3) sc_Lright.nd rfl (.inl rfl) (pe_op (r := rCatT K) op_catT (pv 1) (pv 2))) (pss_cons (ps_set (i := 4) sc_Lright.nd rfl (.inl rfl) (pe_callC c_Lpull hr (by decide) (by rfl) (pa_cons (pv 0) (pa_cons pe_int pa_nil)))) (pss_cons (ps_if (PW.pt (pw_or (pt_not (pt_val (pe_callC c_Ltaps_right hr (by decide) (by rfl) (pa_cons (pv 1) (pa_cons (pv 2) (pa_cons (pv 3) (pa_cons (pv 4) pa_nil))))))) (pw_or1 (pt_not (pt_val (pe_callC c_Lstages_right hr (by decide) (by rfl) (pa_cons (pv 1) (pa_cons (pv 2) (pa_cons (pv 3) (pa_cons (pe_callC c_Lpull hr (by decide) (by rfl) (pa_cons (pv 0) (pa_cons pe_int pa_nil))) pa_nil)))))))))) (pss_one (ps_ret pe_bl)) pss_nil) (pss_cons (ps_if (pt_not (pt_val (pe_callC c_Lsame hr (by decide) (by rfl) (pa_cons (pe_callC c_mean_age hr (by decide) (by rfl) (pa_cons (pv 3) pa_nil)) (pa_cons (pe_callC c_Lplus hr (by decide) (by rfl) (pa_cons (pe_callC c_mean_age hr (by decide) (by rfl) (pa_cons (pv 1) pa_nil)) (pa_cons (pe_callC c_mean_age hr (by decide) (by rfl) (pa_cons (pv 2) pa_nil)) pa_nil))) pa_nil))))) (pss_one (ps_ret pe_bl)) pss_nil) (pss_cons (ps_if (pt_not (pt_val (pe_callC c_Lsame hr (by decide) (by rfl) (pa_cons (pe_callC c_spread hr (by decide) (by rfl) (pa_cons (pv 3) pa_nil)) (pa_cons (pe_callC c_Lplus hr (by decide) (by rfl) (pa_cons (pe_callC c_spread hr (by decide) (by rfl) (pa_cons (pv 1) pa_nil)) (pa_cons (pe_callC c_spread hr (by decide) (by rfl) (pa_cons (pv 2) pa_nil)) pa_nil))) pa_nil))))) (pss_one (ps_ret pe_bl)) pss_nil) (pss_cons (ps_if (pt_not (pt_val (pe_callC c_Lsame hr (by decide) (by rfl) (pa_cons (pe_callC c_limits hr (by decide) (by rfl) (pa_cons (pv 3) pa_nil)) (pa_cons (pe_tupleOf (by rfl) T.tuple (pe_lc (own := [("_law_share", 5)]) (g := gName 5) (by rfl) sc_Lright.nd (pi_tup (pv 3)) (blkOk_by (own := [("_law_share", 5)]) (N := N_Lright) (sc := defScope s_Lright) (by decide +kernel)) (fun _ _ _ _ _ => (pg_name (i := 5) sc_Lright.nd rfl (.inl rfl))) (fun _ _ _ _ _ => pts_nil) (fun _ _ _ _ _ => (pe_tup (pa_cons (pe_ix (r := rIx K) ix_seq (pv 5) pe_int (fun _ _ => rfl)) (pa_cons (pe_ix (r := rIx K) ix_seq (pv 5) pe_int (fun _ _ => rfl)) pa_nil)))))) pa_nil))))) (pss_one (ps_ret pe_bl)) pss_nil) (pss_one (ps_ret (pe_and (pe_callC c_Lsame hr (by decide) (by rfl) (pa_cons (pe_callC c_limits hr (by decide) (by rfl) (pa_cons (pv 3) pa_nil)) (pa_cons (pe_op (r := rCatT K) op_catT (pe_callC c_limits hr (by decide) (by rfl) (pa_cons (pv 1) pa_nil)) (pe_callC c_limits hr (by decide) (by rfl) (pa_cons (pv 2) pa_nil))) pa_nil))) (pe_one (pe_callC c_Lsame hr (by decide) (by rfl) (pa_cons (pe_callC c_alike_at_tap hr (by decide) (by rfl) (pa_cons (pv 3) (pa_cons (pe_op (r := rCatT K) op_catT (pv 2) (pv 1)) pa_nil))) (pa_cons pe_bl pa_nil))))))))))))))), ?_⟩
    refine ⟨_, rfl, p, 0, rfl, k0, by decide, fun v1 H1 a Ra la e1 k1 r1 => ?_⟩
    refine ⟨_, rfl, p, _, rfl, k1, by decide, fun v2 H2 b Rb lb e2 k2 r2 => ?_⟩
    have r1 := r1.exB e2
    have Rab := Ra.append la Rb lb
    refine (row_cat Ra Rb (E_var rfl) (E_var rfl) : Cal.E _ (ρR0 a b) _) [p] (σR p v1 v2 none none) H2 k2.inn (envR0 r1 r2) _ fun v3 H3 s3 r3 => ?_
    have k3 := k2.same s3
    have r1 := r1.same s3
    have r2 := r2.same s3
    refine pull_at (σ := σR p v1 v2 (some v3) none) (p := p) (m := 11) rfl (fun Q' h => h) k3 (by decide) (by decide) (by omega) fun m H4 m0 m1 e4 k4 => ?_
    have r1 := r1.exB e4
    have r2 := r2.exB e4
    have r3 := r3.exB e4
    have em : V.int m = .int ((m.toNat : Nat) : Int) := by rw [Int.toNat_of_nonneg m0]
    rw [em]
    have en4 : EnvR [p] (σR p v1 v2 (some v3) (some (.int ((m.toNat : Nat) : Int)))) H4 [none, some (.d (rowD a)), some (.d (rowD b)), some (.d (rowD (a ++ b))), some (.d (intD m.toNat)), none] := by
      refine ⟨rfl, fun i s q => ?_⟩
      match i, q with
      | 0, q => cases q
      | 1, q => cases q; exact ⟨_, rfl, r1⟩
      | 2, q => cases q; exact ⟨_, rfl, r2⟩
      | 3, q => cases q; exact ⟨_, rfl, r3⟩
      | 4, q => cases q; exact ⟨_, rfl, .int _⟩
      | 5, q => cases q
      | n + 6, q => cases q
    have ht : Cal.T (tNot (tB (tCall (SpR R_Ltaps_right) [] E0 (tCons (tVar 1) (tCons (tVar 2) (tCons (tVar 3) (tCons (tVar 4) tNil))))))) [none, some (.d (rowD a)), some (.d (rowD b)), some (.d (rowD (a ++ b))), some (.d (intD m.toNat)), none] false :=
      T_is (T_not (T_B (E_call (EA_cons (E_var rfl) (EA_cons (E_var rfl) (EA_cons (E_var rfl) (EA_cons (E_var rfl) EA_nil)))) ⟨a, b, m.toNat, Ra, la, Rb, lb, by omega, rfl, rfl⟩))) rfl
    dsimp only [gName, tSeq, tIfS, tOr, tNext, tRet, tAndV]
    refine ht [p] (σR p v1 v2 (some v3) (some (.int ((m.toNat : Nat) : Int)))) H4 k4.inn en4 _ (fun H5 s5 => ?_)
    refine iteF ?_
    have k5 := k4.same s5
    have r1 := r1.same s5
    have r2 := r2.same s5
    have r3 := r3.same s5
    refine ⟨v1, rfl, v2, rfl, v3, rfl, ?_⟩
    refine pull_at (σ := σR p v1 v2 (some v3) (some (.int ((m.toNat : Nat) : Int)))) (p := p) (m := 8) rfl (fun Q' h => h) k5 (by decide) (by decide) (by omega) fun y H6 y0 y1 e6 k6 => ?_
    have r1 := r1.exB e6
    have r2 := r2.exB e6
    have r3 := r3.exB e6
    have ey : V.int y = .int ((y.toNat : Nat) : Int) := by rw [Int.toNat_of_nonneg y0]
    rw [ey]
    refine ⟨[p], [rowD a, rowD b, rowD (a ++ b), intD y.toNat], _, k6.inn, .cons r1 (.cons r2 (.cons r3 (.cons (.int _) .nil))), ⟨a, b, y.toNat, Ra, la, Rb, lb, by omega, rfl, rfl⟩, fun v H7 s7 r7 => ?_⟩
    cases r7
    refine ⟨true, rfl, iteF ?_⟩
    have k7 := k6.same s7
    have r1 := r1.same s7
    have r2 := r2.same s7
    have r3 := r3.same s7
    refine use_T (ρ := ρR a b) (b := false) k7.inn (envR r1 r2 r3) (T_same (e := fr (meanQ (a ++ b))) (E_call (EA_cons (E_var rfl) EA_nil) ⟨a ++ b, Rab, rfl, rfl⟩) (E_is (E_call (EA_cons (E_call (EA_cons (E_var rfl) EA_nil) ⟨a, Ra, rfl, rfl⟩) (EA_cons (E_call (EA_cons (E_var rfl) EA_nil) ⟨b, Rb, rfl, rfl⟩) EA_nil)) ⟨_, _, _, _, _, _, rfl, meanQ_sz Ra, meanQ_sz Rb, by decide, by decide, by decide, rfl⟩) (by rw [meanQ_append])) ((pl_fr _).up (by decide))) (fun H8 s8 => ?_)
    refine iteF ?_
    have k8 := k7.same s8
    have r1 := r1.same s8
    have r2 := r2.same s8
    have r3 := r3.same s8
    refine use_T (ρ := ρR a b) (b := false) k8.inn (envR r1 r2 r3) (T_same (e := fr (spreadQ (a ++ b))) (E_call (EA_cons (E_var rfl) EA_nil) ⟨a ++ b, Rab, rfl, rfl⟩) (E_is (E_call (EA_cons (E_call (EA_cons (E_var rfl) EA_nil) ⟨a, Ra, rfl, rfl⟩) (EA_cons (E_call (EA_cons (E_var rfl) EA_nil) ⟨b, Rb, rfl, rfl⟩) EA_nil)) ⟨_, _, _, _, _, _, rfl, spreadQ_sz Ra, spreadQ_sz Rb, by decide, by decide, by decide, rfl⟩) (by rw [spreadQ_append])) ((pl_fr _).up (by decide))) (fun H9 s9 => ?_)
    refine iteF ?_
    have k9 := k8.same s9
    have r1 := r1.same s9
    have r2 := r2.same s9
    have r3 := r3.same s9
    refine use_T (ρ := ρR a b) (b := false) k9.inn (envR r1 r2 r3) (T_same (e := .tuple (((a ++ b).map fun p => p⁻¹).map fr)) (E_call (EA_cons (E_var rfl) EA_nil) ⟨a ++ b, Rab, rfl, rfl⟩) (E_is (E_tupleL (E_of_EO (EO_lc1 (xs := a ++ b) (emb := fr) (f := fun p => fr p⁻¹) (W_tup (E_var rfl)) (fun p hp => E_is (E_tup (EA_cons (E_ixT (E_var rfl) E_int rfl) (EA_cons (E_ixT (E_var rfl) E_int rfl) EA_nil)) l2) (inv_fr (Rab.sh p hp).1).symm) (by have := Rab.l6; omega)))) (by rw [List.map_map]; rfl)) (pl_lim Rab)) (fun HA sA => ?_)
    refine iteF ?_
    have kA := k9.same sA
    have r1 := r1.same sA
    have r2 := r2.same sA
    have r3 := r3.same sA
    refine use_E (ρ := ρR a b) (d := .bool true) kA.inn (envR r1 r2 r3) (E_call (EA_cons (E_call (EA_cons (E_var rfl) EA_nil) ⟨a ++ b, Rab, rfl, rfl⟩) (EA_cons (lim_cat Ra Rb (E_call (EA_cons (E_var rfl) EA_nil) ⟨a, Ra, rfl, rfl⟩) (E_call (EA_cons (E_var rfl) EA_nil) ⟨b, Rb, rfl, rfl⟩)) EA_nil)) ⟨_, rfl, pl_lim Rab, rfl⟩) (fun vB HB sB rB => ?_)
    cases rB
    refine ⟨true, rfl, iteT ?_⟩
    have kB := kA.same sB
    have r1 := r1.same sB
    have r2 := r2.same sB
    have r3 := r3.same sB
    refine ⟨v3, rfl, ?_⟩
    refine use_E (ρ := ρR a b) kB.inn (envR r1 r2 r3) (row_cat Rb Ra (E_var rfl) (E_var rfl)) (fun v4 HC sC r4 => ?_)
    have r3 := r3.same sC
    have eC : ExB p H HC := (((e1.trans e2).trans (ExB.of s3)).trans (e4.trans (ExB.of s5))).trans ((e6.trans (ExB.of ((s7.trans s8).trans (s9.trans sA)))).trans (ExB.of (sB.trans sC)))
    have TC : LamX.Tabs (lamT Pt) HC := tabs_exB T0 k0 eC
    refine ⟨[rowD (a ++ b), rowD (b ++ a)], _, .cons (r3.sub fun x hx => by cases hx) (.cons (r4.sub fun x hx => by cases hx) .nil), ⟨a ++ b, b ++ a, Rab, Rb.append lb Ra la, ascQ_comm Rab, rfl, rfl⟩, TC, fun v5 HD nD TD r5 => ?_⟩
    cases r5
    refine ⟨[], [.bool true, .bool true], _, In_nil, .cons (.bl _) (.cons (.bl _) .nil), ⟨.bool true, rfl, .bool _, rfl⟩, fun v6 HE sE r6 => ?_⟩
    cases r6
    exact fin HE (fun x o nx hx nt => sE _ _ (nD _ _ (eC _ _ nx hx) nt)) (TD.ext sE)

end Cal
set_option Elab.async false
set_option linter.all false
set_option maxRecDepth 100000
set_option maxHeartbeats 4000000
namespace Cal
open PySem PySem.Spec PyProof.Rows L2

theorem sqL_same {K : PySem.W.Frag} {H H' : Hp} {a : Addr} {xs : List V} (h : SqL K H a xs) (e : Same H H') : SqL K H' a xs := by
  rcases h with h | h
  · exact .inl (rd_keep (fun o => e _ _) h)
  · exact .inr h
theorem dpInts {K : PySem.W.Frag} {H : Hp} : ∀ ns : List Int, DpAll K H (ns.map V.int) (ns.map PyData.int)
  | [] => .nil
  | n :: ns => .cons (.int n) (dpInts ns)
theorem shaped_ints (ns : List Int) : SeqAt.shaped (.list (ns.map PyData.int)) = true := by
  have h : ∀ r : List Int, PyData.canLayAll0 (r.map PyData.int) = true ∧ PyData.depthAll (r.map PyData.int) ≤ 3 := by
    intro r
    induction r with
    | nil => exact ⟨by simp [PyData.canLayAll0], by simp [PyData.depthAll]⟩
    | cons q r ih => exact ⟨by simp [PyData.canLay0, PyData.canLayAll0, ih.1], by simp [PyData.depth, PyData.depthAll]; have := ih.2; omega⟩
  have h1 := h ns
  unfold SeqAt.shaped
  simp only [PyData.canLay0, PyData.depth, h1.1, Bool.true_and, decide_eq_true_eq]
  have := h1.2
  simp [PyData.depth]
  omega

abbrev s_law : Stmt := topS 54
abbrev N_law : List Str := ["_law_script", "_law_cells", "_law_k"]
theorem sc_law : FnScope N_law ["_law_script"] (defScope s_law) := ⟨rfl, rfl, rfl, by decide +kernel, rfl, by decide +kernel, by decide +kernel⟩
def SpLaw (K : PySem.W.Frag) (Pt : Addr) : Sp := fun vs H Q _ => ∃ (a : Addr) (ns : List Int), vs = [.ref a] ∧ SqL K H a (ns.map V.int) ∧ LamX.Tabs (lamT Pt) H ∧ ∀ H', Q (.bl true) H'
theorem ok_law {P : Program} {w : World} {K : PySem.W.Frag} {mg : Str → Option Value} {base : Heap} (T : Bl mg) {Pt : Addr} (c_Lright : Callee P w K mg base 10 "_law_right" ["_law_keg_here"] (SpRight Pt)) (c_Lkeg : Callee P w K mg base 1 "_law_keg" ["_law_cell", "_law_k"] SpKeg) {f : Addr} {fd : FuncData} (F : Fun K "law" "law" s_law f fd) : FnOk P w K mg base CX0 11 f fd ["_law_script"] (SpLaw K Pt) := by
  refine F.ok sc_law (fun vs H Q E h => ?_) (fun cdv A outer s H vs Q E hr h => ?_)
  · obtain ⟨a, ns, rfl, _⟩ := h
    rfl
  · obtain ⟨a, ns, rfl, hs, hT, fin⟩ := h
    refine ⟨_, (pss_cons (ps_set (i := 1) sc_law.nd rfl (.inl rfl) (pe_op op_cat (pe_slice (r := rSlL K) sl_list (pv 0) po_none (po_some pe_int)) (pe_op op_rep (pe_lst (pa_cons pe_int pa_nil)) (pe_callTy (r := rInt1) call_int1 (by rfl) T.int (by decide +kernel) (pa_cons (pe_cmpR (r := rEqD K) (op_eqD hr.units) (pv 0) (pe_lst pa_nil) (nomark _)) pa_nil))))) (pss_cons (ps_for PassesOwn.never rfl (pi_range1 rfl T.range (pa_cons (pe_callB (r := rLenS K) call_len_seq (by rfl) T.len (by decide +kernel) (pa_cons (pv 1) pa_nil)) pa_nil)) (pg_name (i := 2) sc_law.nd rfl (.inl rfl)) (pss_one (ps_if (pt_not (pt_val (pe_callC c_Lright hr (by decide) (by rfl) (pa_cons (pe_callC c_Lkeg hr (by decide) (by rfl) (pa_cons (pe_ix (r := rIx K) ix_seq (pv 1) (pv 2) (fun _ _ => rfl)) (pa_cons (pv 2) pa_nil))) pa_nil)))) (pss_one (ps_ret pe_bl)) pss_nil))) (pss_one (ps_ret pe_bl)))), ?_⟩
    have ec : cutV (ns.map V.int) none (some 6) = (ns.take 6).map V.int := by
      show cutD (ns.map V.int) none (some ((6 : Nat) : Int)) = _
      rw [cut_take, List.map_take]
    refine ⟨_, rfl, 6, rfl, a, _, rfl, hs, fun p1 n1 => ?_⟩
    rw [ec]
    refine ⟨by decide, fun p2 n2 => ?_⟩
    have s1 : Same H (upd H p1 (.lst ((ns.take 6).map V.int))) := same_new n1
    have s2 := same_new (o := .lst [.int 0]) n2
    refine ⟨_, rfl, by decide, fun p3 n3 => ?_⟩
    have s3 := same_new (o := .lst []) n3
    refine ⟨.list (ns.map PyData.int), .list [], .lst (sqL_same hs ((s1.trans s2).trans s3)) (dpInts ns), .lst (.inl (.inl upd_same)) .nil, shaped_ints ns, rfl, .inr ⟨_, rfl, ?_⟩⟩
    generalize eb : PyData.eqv (.list (ns.map PyData.int)) (.list []) = bb
    have hp2 : upd (upd (upd H p1 (.lst ((ns.take 6).map V.int))) p2 (.lst [.int 0])) p3 (.lst []) p2 = some (.lst [.int 0]) := s3 _ _ upd_same
    have hp1 : upd (upd (upd H p1 (.lst ((ns.take 6).map V.int))) p2 (.lst [.int 0])) p3 (.lst []) p1 = some (.lst ((ns.take 6).map V.int)) := s3 _ _ (s2 _ _ upd_same)
    refine ⟨p2, if bb = true then 1 else 0, _, rfl, rfl, hp2, by cases bb <;> decide, by cases bb <;> decide, by cases bb <;> decide, fun p4 n4 => ?_⟩
    have s4 := same_new (o := .lst (List.replicate (if bb = true then (1 : Int) else 0).toNat [V.int 0]).flatten) n4
    obtain ⟨c0, hc0, lc0⟩ : ∃ c0 : List Int, (List.replicate (if bb = true then (1 : Int) else 0).toNat [V.int 0]).flatten = c0.map V.int ∧ c0.length ≤ 1 := by
      cases bb
      · exact ⟨[], rfl, by decide⟩
      · exact ⟨[0], rfl, by decide⟩
    refine ⟨p1, p4, _, _, rfl, rfl, s4 _ _ hp1, upd_same, ?_, fun q nq => ?_⟩
    · rw [hc0, List.length_map, List.length_map]
      have := List.length_take_le 6 ns
      exact sz (by omega)
    have s5 := same_new (o := .lst ((ns.take 6).map V.int ++ (List.replicate (if bb = true then (1 : Int) else 0).toNat [V.int 0]).flatten)) nq
    have hT5 := hT.ext ((((s1.trans s2).trans s3).trans s4).trans s5)
    have hq : ∀ {HH : Hp}, upd HH q (.lst ((ns.take 6).map V.int ++ (List.replicate (if bb = true then (1 : Int) else 0).toNat [V.int 0]).flatten)) q = some (.lst ((ns.take 6 ++ c0).map V.int)) := fun {HH} => by
      rw [upd_same, hc0, List.map_append]
    have hlen : (ns.take 6 ++ c0).length ≤ 7 := by
      have := List.length_take_le 6 ns
      rw [List.length_append]; omega
    refine ⟨_, rfl, q, _, rfl, .inl (.inl (.inl hq)), ?_⟩
    rw [List.length_map]
    refine ⟨_, rfl, by omega, by omega, ?_⟩
    rw [Int.toNat_natCast]
    refine for_range (lo := 0) (n := (ns.take 6 ++ c0).length) (fun i σ' H' => σ'.length = 3 ∧ σ'[1]? = some (some (.ref q)) ∧ H' q = some (.lst ((ns.take 6 ++ c0).map V.int)) ∧ LamX.Tabs (lamT Pt) H') ⟨rfl, rfl, hq, hT5⟩ ?_ ?_
    · rintro i σ' H' hi ⟨hl, g1, hqq, hTT⟩
      have f1 : (σ'.set 2 (some (.int ((0 : Int) + (i : Int)))))[1]? = some (some (.ref q)) := by rw [List.getElem?_set_ne (by decide)]; exact g1
      have f2 : (σ'.set 2 (some (.int ((0 : Int) + (i : Int)))))[2]? = some (some (.int (i : Int))) := by rw [List.getElem?_set_self (by omega), Int.zero_add]
      have hat : atI ((ns.take 6 ++ c0).map V.int) (i : Int) = some (.int (ns.take 6 ++ c0)[i]) := atI_nat (by rw [List.getElem?_map, List.getElem?_eq_getElem hi]; rfl)
      refine ⟨_, f1, _, f2, .inl ⟨q, _, (i : Int), _, rfl, rfl, .inl (.inl hqq), hat, ?_⟩⟩
      refine ⟨_, f2, _, i, rfl, by omega, fun p H1 s1 n1 k1 => ?_⟩
      refine ⟨p, rfl, k1, hTT.ext s1, fun H2 e2 T2 => ⟨true, rfl, iteF ?_⟩⟩
      have nqp : q ≠ p := fun z => by rw [z, n1] at hqq; cases hqq
      exact ⟨by simp [hl], f1, e2 _ _ nqp (s1 _ _ hqq) (fun _ z => by cases z), T2⟩
    · rintro σ' H' _
      exact fin H'

end Cal
set_option Elab.async false
set_option linter.all false
set_option maxRecDepth 100000
set_option maxHeartbeats 4000000
namespace Cal
open PySem PySem.Spec PyProof.Rows L2
/-! ### the whole: what the top has written -/
structure Fact (K : PySem.W.Frag) (mg : Str → Option Value) (x : Str) (st : Stmt) : Prop where
  ex : ∃ (f : Addr) (fd : FuncData), Fun K x x st f fd ∧ mg x = some (.ref f)
structure FactC (K : PySem.W.Frag) (mg : Str → Option Value) (x : Str) (st : Stmt) (c : Addr) : Prop where
  ex : ∃ (f : Addr) (fd : FuncData), FunC K x x st f fd c ∧ mg x = some (.ref f)
theorem fact_mk {K : PySem.W.Frag} {h : Heap} {mg : Str → Option Value} {x : Str} {st : Stmt} {f : Addr} {oc : Value} {od an : Option Addr} {osl : Array (Option Value)} {kV doc pm cdv ct : Value} (X : K.In h) (G : h.Ns mainGlobals mg) (a : PySem.W.nsIn K mainGlobals x = some (some (.ref f)))
    (l : K.lookup f = some ⟨oc, od, .func (PySem.W.fnOf x x (defArgs st) (defBody st) (defScope st) .none kV doc pm an cdv ct), osl⟩) (c : PySem.W.codeIn K cdv x = true) (k : PySem.W.keepIn K (.ref f) = true) : Fact K mg x st := ⟨_, _, fun_mk l c k, PySem.W.mg_of X G a⟩
theorem fact_mkC {K : PySem.W.Frag} {h : Heap} {mg : Str → Option Value} {x : Str} {st : Stmt} {f cc : Addr} {oc : Value} {od an : Option Addr} {osl : Array (Option Value)} {kV doc pm ct : Value} (X : K.In h) (G : h.Ns mainGlobals mg) (a : PySem.W.nsIn K mainGlobals x = some (some (.ref f)))
    (l : K.lookup f = some ⟨oc, od, .func (PySem.W.fnOf x x (defArgs st) (defBody st) (defScope st) .none kV doc pm an (.ref cc) ct), osl⟩) (c : PySem.W.codeIn K (.ref cc) x = true) (k : PySem.W.keepIn K (.ref f) = true) : FactC K mg x st cc := ⟨_, _, ⟨⟨oc, od, kV, doc, pm, an, ct, osl, rfl, l, c⟩, k⟩, PySem.W.mg_of X G a⟩
section
variable {P : Program} {w : World} {K : PySem.W.Frag} {mg : Str → Option Value} {base : Heap} {k : Nat} {x : Str} {st : Stmt} {ps : List Str} {sp : Sp} {c : Addr}
theorem callee_of (Fx : Fact K mg x st) (ok : ∀ f fd, Fun K x x st f fd → FnOk P w K mg base CX0 k f fd ps sp)
    (h : ∀ (kV doc pm : Value) (an : Option Addr) (cdv ct : Value) (us : List Value), us.length = ps.length → bindArgs (PySem.W.fnOf x x (defArgs st) (defBody st) (defScope st) .none kV doc pm an cdv ct) ⟨us, []⟩ = pure (ps.zip us)) : Callee P w K mg base k x ps sp := by
  obtain ⟨f, fd, F, hm⟩ := Fx
  exact ⟨f, fd, ok f fd F, hm, F.kp, F.binds h⟩
theorem callee_ofC (Fx : FactC K mg x st c) (ok : ∀ f fd, FunC K x x st f fd c → FnOk P w K mg base CX0 k f fd ps sp)
    (h : ∀ (kV doc pm : Value) (an : Option Addr) (cdv ct : Value) (us : List Value), us.length = ps.length → bindArgs (PySem.W.fnOf x x (defArgs st) (defBody st) (defScope st) .none kV doc pm an cdv ct) ⟨us, []⟩ = pure (ps.zip us)) : Callee P w K mg base k x ps sp := by
  obtain ⟨f, fd, F, hm⟩ := Fx
  exact ⟨f, fd, ok f fd F, hm, F.kp, F.toFun.binds h⟩
end
theorem bl_mk {K : PySem.W.Frag} {h : Heap} {mg : Str → Option Value} (X : K.In h) (G : h.Ns mainGlobals mg)
    (z_len : PySem.W.nsIn K mainGlobals "len" = some none)
    (z_range : PySem.W.nsIn K mainGlobals "range" = some none)
    (z_zip : PySem.W.nsIn K mainGlobals "zip" = some none)
    (z_isinstance : PySem.W.nsIn K mainGlobals "isinstance" = some none)
    (z_tuple : PySem.W.nsIn K mainGlobals "tuple" = some none)
    (z_list : PySem.W.nsIn K mainGlobals "list" = some none)
    (z_int : PySem.W.nsIn K mainGlobals "int" = some none)
    (z_bool : PySem.W.nsIn K mainGlobals "bool" = some none)
    (z_str : PySem.W.nsIn K mainGlobals "str" = some none)
    (z_sorted : PySem.W.nsIn K mainGlobals "sorted" = some none)
    (z_sum : PySem.W.nsIn K mainGlobals "sum" = some none)
    (z_all : PySem.W.nsIn K mainGlobals "all" = some none)
    (z_abs : PySem.W.nsIn K mainGlobals "abs" = some none)
    (z_max : PySem.W.nsIn K mainGlobals "max" = some none)
    (z_gcd : PySem.W.nsIn K mainGlobals "gcd" = some (some (.builtin "math.gcd"))) (z_lcm : PySem.W.nsIn K mainGlobals "lcm" = some (some (.builtin "math.lcm"))) : Bl mg :=
  ⟨PySem.W.mg_none_of X G z_len, PySem.W.mg_none_of X G z_range, PySem.W.mg_none_of X G z_zip, PySem.W.mg_none_of X G z_isinstance, PySem.W.mg_none_of X G z_tuple, PySem.W.mg_none_of X G z_list, PySem.W.mg_none_of X G z_int, PySem.W.mg_none_of X G z_bool, PySem.W.mg_none_of X G z_str, PySem.W.mg_none_of X G z_sorted, PySem.W.mg_none_of X G z_sum, PySem.W.mg_none_of X G z_all, PySem.W.mg_none_of X G z_abs, PySem.W.mg_none_of X G z_max, PySem.W.mg_of X G z_gcd, PySem.W.mg_of X G z_lcm⟩
theorem law_at {l : PySem.W.OpenLaw} {w : World} {K : PySem.W.Frag} {h : Heap} {mg : Str → Option Value} {fa c Pt : Addr} (X : K.In h) (hfa : mg "law" = some (.ref fa)) (hT : h.get? Pt = some (PySem.W.tabObj #[]))
    (a_Lkeg : Fact K mg "_law_keg" s_Lkeg)
    (a_Llow : Fact K mg "_law_low" s_Llow)
    (a_Lplus : Fact K mg "_law_plus" s_Lplus)
    (a_Lpull : Fact K mg "_law_pull" s_Lpull)
    (a_Lrow : Fact K mg "_law_row" s_Lrow)
    (a_Lsame : Fact K mg "_law_same" s_Lsame)
    (a_Lof_year : Fact K mg "_law_of_year" s_Lof_year)
    (a_Ltimes : Fact K mg "_law_times" s_Ltimes)
    (a_Lproducts : Fact K mg "_law_products" s_Lproducts)
    (a_fraction : Fact K mg "fraction" s_fraction)
    (a_as_fractions : Fact K mg "as_fractions" s_as_fractions)
    (a_need_from_zero : Fact K mg "need_from_zero" s_need_from_zero)
    (a_is_integer : Fact K mg "is_integer" s_is_integer)
    (a_is_fraction : Fact K mg "is_fraction" s_is_fraction)
    (a_is_share : Fact K mg "is_share" s_is_share)
    (a_is_row : Fact K mg "is_row" s_is_row)
    (a_need_row : Fact K mg "need_row" s_need_row)
    (a_stepped : Fact K mg "stepped" s_stepped)
    (a_over_years : Fact K mg "over_years" s_over_years)
    (a_common_below : Fact K mg "common_below" s_common_below)
    (a_over_below : Fact K mg "over_below" s_over_below)
    (a_row_table : Fact K mg "row_table" s_row_table)
    (a_stage_totals : Fact K mg "stage_totals" s_stage_totals)
    (a_by_years : Fact K mg "by_years" s_by_years)
    (a_row_series : Fact K mg "row_series" s_row_series)
    (a_stages : Fact K mg "stages" s_stages)
    (a_tap_amount : Fact K mg "tap_amount" s_tap_amount)
    (a_Lstages_right : Fact K mg "_law_stages_right" s_Lstages_right)
    (a_older : Fact K mg "older" s_older)
    (a_taps_of : Fact K mg "taps_of" s_taps_of)
    (a_tap : Fact K mg "tap" s_tap)
    (a_Ltaps_right : Fact K mg "_law_taps_right" s_Ltaps_right)
    (a_ascending : FactC K mg "ascending" s_ascending c)
    (a_alike_at_tap : Fact K mg "alike_at_tap" s_alike_at_tap)
    (a_limits : Fact K mg "limits" s_limits)
    (a_need_fraction : Fact K mg "need_fraction" s_need_fraction)
    (a_sum_of : Fact K mg "sum_of" s_sum_of)
    (a_mean_age : Fact K mg "mean_age" s_mean_age)
    (a_spread : Fact K mg "spread" s_spread)
    (a_Lright : Fact K mg "_law_right" s_Lright)
    (a_law : Fact K mg "law" s_law) (T : Bl mg) (nT : K.lookup Pt = none) (hd : PySem.W.codeHdIn K c Pt = true) : LamX.LawAtS l w K CX0 11 63 "_law_script" mg fa h := by
  obtain ⟨f, fd, F, hm⟩ := a_law
  cases hm.symm.trans hfa
  obtain ⟨oc, od, kV, doc, pm, an, cdv, ct, osl, rfl, lk, hcd⟩ := F.ex
  have one : ∀ p : Addr × Addr, p ∈ [(c, Pt)] → p = (c, Pt) := fun p hp => List.mem_singleton.mp hp
  refine ⟨PySem.W.fnOf "law" "law" (defArgs s_law) (defBody s_law) (defScope s_law) .none kV doc pm an cdv ct, [(c, Pt)], SpLaw K Pt, fun p hp => by rw [one p hp]; exact hT, fun p hp => by rw [one p hp]; exact nT, fun p hp => by rw [one p hp]; exact PySem.W.codeHd_of_K X hd, fun s u => .of_eq rfl, fun H a ns _ _ hH hS => ⟨a, ns, rfl, hS, fun q hq => ?_, fun _ => rfl⟩, fun base KB GB TB => ?_⟩
  · rw [List.mem_singleton.mp hq]
    exact .nil (hH _ (List.mem_singleton.mpr rfl))
  · have TB1 : LamX.TabB base mg c Pt := TB (c, Pt) (List.mem_singleton.mpr rfl)
    have c_Lkeg : Callee l.prog w K mg base 1 "_law_keg" ["_law_cell", "_law_k"] (SpKeg) := callee_of a_Lkeg (fun _ _ F => ok_Lkeg T  F) (fun _ _ _ _ _ _ us hl => match us, hl with | [_, _], _ => rfl)
    have c_Llow : Callee l.prog w K mg base 1 "_law_low" ["_law_above", "_law_below"] (SpR R_Llow) := callee_of a_Llow (fun _ _ F => ok_Llow T  F) (fun _ _ _ _ _ _ us hl => match us, hl with | [_, _], _ => rfl)
    have c_Lplus : Callee l.prog w K mg base 2 "_law_plus" ["_law_one", "_law_other"] (SpR R_Lplus) := callee_of a_Lplus (fun _ _ F => ok_Lplus T (c_Llow := c_Llow) F) (fun _ _ _ _ _ _ us hl => match us, hl with | [_, _], _ => rfl)
    have c_Lpull : Callee l.prog w K mg base 1 "_law_pull" ["_law_keg_here", "_law_many"] (SpPull) := callee_of a_Lpull (fun _ _ F => ok_Lpull T  F) (fun _ _ _ _ _ _ us hl => match us, hl with | [_, _], _ => rfl)
    have c_Lrow : Callee l.prog w K mg base 2 "_law_row" ["_law_keg_here", "_law_most"] (SpRow) := callee_of a_Lrow (fun _ _ F => ok_Lrow T (c_Llow := c_Llow) (c_Lpull := c_Lpull) F) (fun _ _ _ _ _ _ us hl => match us, hl with | [_, _], _ => rfl)
    have c_Lsame : Callee l.prog w K mg base 8 "_law_same" ["_law_told", "_law_due"] (SpR (R_Lsame 8)) := by
      obtain ⟨f2, fd2, F2, hm2⟩ := a_Lsame
      exact same_all T F2 hm2 (F2.binds (fun _ _ _ _ _ _ us hl => match us, hl with | [_, _], _ => rfl)) 8
    have c_Lof_year : Callee l.prog w K mg base 1 "_law_of_year" ["_law_told", "_law_year"] (SpR R_Lof_year) := callee_of a_Lof_year (fun _ _ F => ok_Lof_year T  F) (fun _ _ _ _ _ _ us hl => match us, hl with | [_, _], _ => rfl)
    have c_Ltimes : Callee l.prog w K mg base 2 "_law_times" ["_law_one", "_law_other"] (SpR R_Ltimes) := callee_of a_Ltimes (fun _ _ F => ok_Ltimes T (c_Llow := c_Llow) F) (fun _ _ _ _ _ _ us hl => match us, hl with | [_, _], _ => rfl)
    have c_Lproducts : Callee l.prog w K mg base 3 "_law_products" ["_law_ones", "_law_others", "_law_age"] (SpR R_Lproducts) := callee_of a_Lproducts (fun _ _ F => ok_Lproducts T (c_Lplus := c_Lplus) (c_Ltimes := c_Ltimes) F) (fun _ _ _ _ _ _ us hl => match us, hl with | [_, _, _], _ => rfl)
    have c_fraction : Callee l.prog w K mg base 1 "fraction" ["above", "below"] (SpR R_fraction) := callee_of a_fraction (fun _ _ F => ok_fraction T  F) (fun _ _ _ _ _ _ us hl => match us, hl with | [_, _], _ => rfl)
    have c_as_fractions : Callee l.prog w K mg base 2 "as_fractions" ["numbers", "below"] (SpR R_as_fractions) := callee_of a_as_fractions (fun _ _ F => ok_as_fractions T (c_fraction := c_fraction) F) (fun _ _ _ _ _ _ us hl => match us, hl with | [_, _], _ => rfl)
    have c_need_from_zero : Callee l.prog w K mg base 1 "need_from_zero" ["number"] (SpR R_need_from_zero) := callee_of a_need_from_zero (fun _ _ F => ok_need_from_zero T  F) (fun _ _ _ _ _ _ us hl => match us, hl with | [_], _ => rfl)
    have c_is_integer : Callee l.prog w K mg base 1 "is_integer" ["value"] (SpR R_is_integer) := callee_of a_is_integer (fun _ _ F => ok_is_integer T  F) (fun _ _ _ _ _ _ us hl => match us, hl with | [_], _ => rfl)
    have c_is_fraction : Callee l.prog w K mg base 2 "is_fraction" ["value"] (SpR R_is_fraction) := callee_of a_is_fraction (fun _ _ F => ok_is_fraction T (c_is_integer := c_is_integer) F) (fun _ _ _ _ _ _ us hl => match us, hl with | [_], _ => rfl)
    have c_is_share : Callee l.prog w K mg base 3 "is_share" ["value"] (SpR R_is_share) := callee_of a_is_share (fun _ _ F => ok_is_share T (c_is_fraction := c_is_fraction) F) (fun _ _ _ _ _ _ us hl => match us, hl with | [_], _ => rfl)
    have c_is_row : Callee l.prog w K mg base 4 "is_row" ["value"] (SpR R_is_row) := callee_of a_is_row (fun _ _ F => ok_is_row T (c_is_share := c_is_share) F) (fun _ _ _ _ _ _ us hl => match us, hl with | [_], _ => rfl)
    have c_need_row : Callee l.prog w K mg base 5 "need_row" ["row"] (SpR R_need_row) := callee_of a_need_row (fun _ _ F => ok_need_row T (c_is_row := c_is_row) F) (fun _ _ _ _ _ _ us hl => match us, hl with | [_], _ => rfl)
    have c_stepped : Callee l.prog w K mg base 1 "stepped" ["rows", "numbers"] (SpR R_stepped) := callee_of a_stepped (fun _ _ F => ok_stepped T  F) (fun _ _ _ _ _ _ us hl => match us, hl with | [_, _], _ => rfl)
    have c_over_years : Callee l.prog w K mg base 2 "over_years" ["rows", "below", "start", "start_below", "years"] (SpR R_over_years) := callee_of a_over_years (fun _ _ F => ok_over_years T (c_stepped := c_stepped) F) (fun _ _ _ _ _ _ us hl => match us, hl with | [_, _, _, _, _], _ => rfl)
    have c_common_below : Callee l.prog w K mg base 1 "common_below" ["parts"] (SpR R_common_below) := callee_of a_common_below (fun _ _ F => ok_common_below T  F) (fun _ _ _ _ _ _ us hl => match us, hl with | [_], _ => rfl)
    have c_over_below : Callee l.prog w K mg base 1 "over_below" ["parts", "below"] (SpR R_over_below) := callee_of a_over_below (fun _ _ F => ok_over_below T  F) (fun _ _ _ _ _ _ us hl => match us, hl with | [_, _], _ => rfl)
    have c_row_table : Callee l.prog w K mg base 2 "row_table" ["row"] (SpR R_row_table) := callee_of a_row_table (fun _ _ F => ok_row_table T (c_common_below := c_common_below) (c_over_below := c_over_below) F) (fun _ _ _ _ _ _ us hl => match us, hl with | [_], _ => rfl)
    have c_stage_totals : Callee l.prog w K mg base 6 "stage_totals" ["row", "year"] (SpR R_stage_totals) := callee_of a_stage_totals (fun _ _ F => ok_stage_totals T (c_as_fractions := c_as_fractions) (c_need_from_zero := c_need_from_zero) (c_need_row := c_need_row) (c_over_years := c_over_years) (c_row_table := c_row_table) F) (fun _ _ _ _ _ _ us hl => match us, hl with | [_, _], _ => rfl)
    have c_by_years : Callee l.prog w K mg base 2 "by_years" ["series", "cask", "year"] (SpR R_by_years) := callee_of a_by_years (fun _ _ F => ok_by_years T (c_fraction := c_fraction) F) (fun _ _ _ _ _ _ us hl => match us, hl with | [_, _, _], _ => rfl)
    have c_row_series : Callee l.prog w K mg base 3 "row_series" ["row", "years"] (SpR R_row_series) := callee_of a_row_series (fun _ _ F => ok_row_series T (c_over_years := c_over_years) (c_row_table := c_row_table) F) (fun _ _ _ _ _ _ us hl => match us, hl with | [_, _], _ => rfl)
    have c_stages : Callee l.prog w K mg base 6 "stages" ["row", "year"] (SpR R_stages) := callee_of a_stages (fun _ _ F => ok_stages T (c_by_years := c_by_years) (c_need_from_zero := c_need_from_zero) (c_need_row := c_need_row) (c_row_series := c_row_series) F) (fun _ _ _ _ _ _ us hl => match us, hl with | [_, _], _ => rfl)
    have c_tap_amount : Callee l.prog w K mg base 6 "tap_amount" ["row", "age"] (SpR R_tap_amount) := callee_of a_tap_amount (fun _ _ F => ok_tap_amount T (c_fraction := c_fraction) (c_need_from_zero := c_need_from_zero) (c_need_row := c_need_row) (c_row_series := c_row_series) F) (fun _ _ _ _ _ _ us hl => match us, hl with | [_, _], _ => rfl)
    have c_Lstages_right : Callee l.prog w K mg base 9 "_law_stages_right" ["_law_one", "_law_other", "_law_both", "_law_year"] (SpR R_Lstages_right) := callee_of a_Lstages_right (fun _ _ F => ok_Lstages_right T (c_Lof_year := c_Lof_year) (c_Lproducts := c_Lproducts) (c_Lsame := c_Lsame) (c_stage_totals := c_stage_totals) (c_stages := c_stages) (c_tap_amount := c_tap_amount) F) (fun _ _ _ _ _ _ us hl => match us, hl with | [_, _, _, _], _ => rfl)
    have c_older : Callee l.prog w K mg base 6 "older" ["row", "age"] (SpR R_older) := callee_of a_older (fun _ _ F => ok_older T (c_fraction := c_fraction) (c_need_from_zero := c_need_from_zero) (c_need_row := c_need_row) (c_row_series := c_row_series) F) (fun _ _ _ _ _ _ us hl => match us, hl with | [_, _], _ => rfl)
    have c_taps_of : Callee l.prog w K mg base 4 "taps_of" ["row", "age"] (SpR R_taps_of) := callee_of a_taps_of (fun _ _ F => ok_taps_of T (c_fraction := c_fraction) (c_row_series := c_row_series) F) (fun _ _ _ _ _ _ us hl => match us, hl with | [_, _], _ => rfl)
    have c_tap : Callee l.prog w K mg base 6 "tap" ["row", "year"] (SpR R_tap) := callee_of a_tap (fun _ _ F => ok_tap T (c_need_from_zero := c_need_from_zero) (c_need_row := c_need_row) (c_taps_of := c_taps_of) F) (fun _ _ _ _ _ _ us hl => match us, hl with | [_, _], _ => rfl)
    have c_Ltaps_right : Callee l.prog w K mg base 9 "_law_taps_right" ["_law_one", "_law_other", "_law_both", "_law_most"] (SpR R_Ltaps_right) := callee_of a_Ltaps_right (fun _ _ F => ok_Ltaps_right T (c_Lplus := c_Lplus) (c_Lproducts := c_Lproducts) (c_Lsame := c_Lsame) (c_Ltimes := c_Ltimes) (c_older := c_older) (c_tap := c_tap) (c_tap_amount := c_tap_amount) F) (fun _ _ _ _ _ _ us hl => match us, hl with | [_, _, _, _], _ => rfl)
    have c_ascending : Callee l.prog w K mg base 3 "ascending" ["shares"] (SpT (lamT Pt) R_ascending) := callee_ofC a_ascending (fun _ _ F => ok_ascending T (c_common_below := c_common_below) TB1 F) (fun _ _ _ _ _ _ us hl => match us, hl with | [_], _ => rfl)
    have c_alike_at_tap : Callee l.prog w K mg base 6 "alike_at_tap" ["one", "other"] (SpT (lamT Pt) R_alike_at_tap) := callee_of a_alike_at_tap (fun _ _ F => ok_alike_at_tap T (c_ascending := c_ascending) (c_need_row := c_need_row) F) (fun _ _ _ _ _ _ us hl => match us, hl with | [_, _], _ => rfl)
    have c_limits : Callee l.prog w K mg base 6 "limits" ["row"] (SpR R_limits) := callee_of a_limits (fun _ _ F => ok_limits T (c_need_row := c_need_row) F) (fun _ _ _ _ _ _ us hl => match us, hl with | [_], _ => rfl)
    have c_need_fraction : Callee l.prog w K mg base 3 "need_fraction" ["value"] (SpR R_need_fraction) := callee_of a_need_fraction (fun _ _ F => ok_need_fraction T (c_is_fraction := c_is_fraction) F) (fun _ _ _ _ _ _ us hl => match us, hl with | [_], _ => rfl)
    have c_sum_of : Callee l.prog w K mg base 4 "sum_of" ["fractions"] (SpR R_sum_of) := callee_of a_sum_of (fun _ _ F => ok_sum_of T (c_fraction := c_fraction) (c_need_fraction := c_need_fraction) F) (fun _ _ _ _ _ _ us hl => match us, hl with | [_], _ => rfl)
    have c_mean_age : Callee l.prog w K mg base 7 "mean_age" ["row"] (SpR R_mean_age) := callee_of a_mean_age (fun _ _ F => ok_mean_age T (c_limits := c_limits) (c_sum_of := c_sum_of) F) (fun _ _ _ _ _ _ us hl => match us, hl with | [_], _ => rfl)
    have c_spread : Callee l.prog w K mg base 6 "spread" ["row"] (SpR R_spread) := callee_of a_spread (fun _ _ F => ok_spread T (c_fraction := c_fraction) (c_need_row := c_need_row) (c_sum_of := c_sum_of) F) (fun _ _ _ _ _ _ us hl => match us, hl with | [_], _ => rfl)
    have c_Lright : Callee l.prog w K mg base 10 "_law_right" ["_law_keg_here"] (SpRight Pt) := callee_of a_Lright (fun _ _ F => ok_Lright T (c_Lplus := c_Lplus) (c_Lpull := c_Lpull) (c_Lrow := c_Lrow) (c_Lsame := c_Lsame) (c_Lstages_right := c_Lstages_right) (c_Ltaps_right := c_Ltaps_right) (c_alike_at_tap := c_alike_at_tap) (c_limits := c_limits) (c_mean_age := c_mean_age) (c_spread := c_spread) F) (fun _ _ _ _ _ _ us hl => match us, hl with | [_], _ => rfl)
    exact ok_law T c_Lright c_Lkeg F
end Cal
set_option Elab.async false
set_option linter.all false
set_option maxRecDepth 100000
open PySem PySem.W PyProof.Rows
set_option maxHeartbeats 0 in
theorem PySem.Challenge.cw_caskyears_k73_whole_rows_one_behind_the_holds : PySem.Challenge.rw_caskyears_k73_whole_rows_one_behind_the.Holds := by
  w_on; o_law; k_head; (case hw => w_witness2)
  k_fill
  refine LamX.walk_ofTs (l := PySem.Challenge.rw_caskyears_k73_whole_rows_one_behind_the) (n := 63) (k := 11) (x := "_law_script") (CX := fun _ => L2.CX0) rfl (by decide) rfl ⟨rfl, by decide, by decide⟩ (fun w h Y => PySem.W.km_in_of Y) ?F (fun _ _ _ _ _ z => z)
  case F =>
    intro w mg fa h Y KX G hmg
    have hT := PySem.W.km_tabs_of Y 269 (by simp)
    refine' Cal.law_at (Pt := 269) KX hmg hT ?a_Lkeg ?a_Llow ?a_Lplus ?a_Lpull ?a_Lrow ?a_Lsame ?a_Lof_year ?a_Ltimes ?a_Lproducts ?a_fraction ?a_as_fractions ?a_need_from_zero ?a_is_integer ?a_is_fraction ?a_is_share ?a_is_row ?a_need_row ?a_stepped ?a_over_years ?a_common_below ?a_over_below ?a_row_table ?a_stage_totals ?a_by_years ?a_row_series ?a_stages ?a_tap_amount ?a_Lstages_right ?a_older ?a_taps_of ?a_tap ?a_Ltaps_right ?a_ascending ?a_alike_at_tap ?a_limits ?a_need_fraction ?a_sum_of ?a_mean_age ?a_spread ?a_Lright ?a_law ?T ?nT ?hd
    (case a_ascending => refine' Cal.fact_mkC KX G ?a ?l ?c ?k; (case a => k_is); (case l => k_is); (case c => k_is); (case k => k_is))
    (case a_Lkeg => refine' Cal.fact_mk KX G ?a ?l ?c ?k; (case a => k_is); (case l => k_is); (case c => k_is); (case k => k_is))
    (case a_Llow => refine' Cal.fact_mk KX G ?a ?l ?c ?k; (case a => k_is); (case l => k_is); (case c => k_is); (case k => k_is))
    (case a_Lplus => refine' Cal.fact_mk KX G ?a ?l ?c ?k; (case a => k_is); (case l => k_is); (case c => k_is); (case k => k_is))
    (case a_Lpull => refine' Cal.fact_mk KX G ?a ?l ?c ?k; (case a => k_is); (case l => k_is); (case c => k_is); (case k => k_is))
    (case a_Lrow => refine' Cal.fact_mk KX G ?a ?l ?c ?k; (case a => k_is); (case l => k_is); (case c => k_is); (case k => k_is))
    (case a_Lsame => refine' Cal.fact_mk KX G ?a ?l ?c ?k; (case a => k_is); (case l => k_is); (case c => k_is); (case k => k_is))
    (case a_Lof_year => refine' Cal.fact_mk KX G ?a ?l ?c ?k; (case a => k_is); (case l => k_is); (case c => k_is); (case k => k_is))
    (case a_Ltimes => refine' Cal.fact_mk KX G ?a ?l ?c ?k; (case a => k_is); (case l => k_is); (case c => k_is); (case k => k_is))
    (case a_Lproducts => refine' Cal.fact_mk KX G ?a ?l ?c ?k; (case a => k_is); (case l => k_is); (case c => k_is); (case k => k_is))
    (case a_fraction => refine' Cal.fact_mk KX G ?a ?l ?c ?k; (case a => k_is); (case l => k_is); (case c => k_is); (case k => k_is))
    (case a_as_fractions => refine' Cal.fact_mk KX G ?a ?l ?c ?k; (case a => k_is); (case l => k_is); (case c => k_is); (case k => k_is))
    (case a_need_from_zero => refine' Cal.fact_mk KX G ?a ?l ?c ?k; (case a => k_is); (case l => k_is); (case c => k_is); (case k => k_is))
    (case a_is_integer => refine' Cal.fact_mk KX G ?a ?l ?c ?k; (case a => k_is); (case l => k_is); (case c => k_is); (case k => k_is))
    (case a_is_fraction => refine' Cal.fact_mk KX G ?a ?l ?c ?k; (case a => k_is); (case l => k_is); (case c => k_is); (case k => k_is))
    (case a_is_share => refine' Cal.fact_mk KX G ?a ?l ?c ?k; (case a => k_is); (case l => k_is); (case c => k_is); (case k => k_is))
    (case a_is_row => refine' Cal.fact_mk KX G ?a ?l ?c ?k; (case a => k_is); (case l => k_is); (case c => k_is); (case k => k_is))
    (case a_need_row => refine' Cal.fact_mk KX G ?a ?l ?c ?k; (case a => k_is); (case l => k_is); (case c => k_is); (case k => k_is))
    (case a_stepped => refine' Cal.fact_mk KX G ?a ?l ?c ?k; (case a => k_is); (case l => k_is); (case c => k_is); (case k => k_is))
    (case a_over_years => refine' Cal.fact_mk KX G ?a ?l ?c ?k; (case a => k_is); (case l => k_is); (case c => k_is); (case k => k_is))
    (case a_common_below => refine' Cal.fact_mk KX G ?a ?l ?c ?k; (case a => k_is); (case l => k_is); (case c => k_is); (case k => k_is))
    (case a_over_below => refine' Cal.fact_mk KX G ?a ?l ?c ?k; (case a => k_is); (case l => k_is); (case c => k_is); (case k => k_is))
    (case a_row_table => refine' Cal.fact_mk KX G ?a ?l ?c ?k; (case a => k_is); (case l => k_is); (case c => k_is); (case k => k_is))
    (case a_stage_totals => refine' Cal.fact_mk KX G ?a ?l ?c ?k; (case a => k_is); (case l => k_is); (case c => k_is); (case k => k_is))
    (case a_by_years => refine' Cal.fact_mk KX G ?a ?l ?c ?k; (case a => k_is); (case l => k_is); (case c => k_is); (case k => k_is))
    (case a_row_series => refine' Cal.fact_mk KX G ?a ?l ?c ?k; (case a => k_is); (case l => k_is); (case c => k_is); (case k => k_is))
    (case a_stages => refine' Cal.fact_mk KX G ?a ?l ?c ?k; (case a => k_is); (case l => k_is); (case c => k_is); (case k => k_is))
    (case a_tap_amount => refine' Cal.fact_mk KX G ?a ?l ?c ?k; (case a => k_is); (case l => k_is); (case c => k_is); (case k => k_is))
    (case a_Lstages_right => refine' Cal.fact_mk KX G ?a ?l ?c ?k; (case a => k_is); (case l => k_is); (case c => k_is); (case k => k_is))
    (case a_older => refine' Cal.fact_mk KX G ?a ?l ?c ?k; (case a => k_is); (case l => k_is); (case c => k_is); (case k => k_is))
    (case a_taps_of => refine' Cal.fact_mk KX G ?a ?l ?c ?k; (case a => k_is); (case l => k_is); (case c => k_is); (case k => k_is))
    (case a_tap => refine' Cal.fact_mk KX G ?a ?l ?c ?k; (case a => k_is); (case l => k_is); (case c => k_is); (case k => k_is))
    (case a_Ltaps_right => refine' Cal.fact_mk KX G ?a ?l ?c ?k; (case a => k_is); (case l => k_is); (case c => k_is); (case k => k_is))
    (case a_alike_at_tap => refine' Cal.fact_mk KX G ?a ?l ?c ?k; (case a => k_is); (case l => k_is); (case c => k_is); (case k => k_is))
    (case a_limits => refine' Cal.fact_mk KX G ?a ?l ?c ?k; (case a => k_is); (case l => k_is); (case c => k_is); (case k => k_is))
    (case a_need_fraction => refine' Cal.fact_mk KX G ?a ?l ?c ?k; (case a => k_is); (case l => k_is); (case c => k_is); (case k => k_is))
    (case a_sum_of => refine' Cal.fact_mk KX G ?a ?l ?c ?k; (case a => k_is); (case l => k_is); (case c => k_is); (case k => k_is))
    (case a_mean_age => refine' Cal.fact_mk KX G ?a ?l ?c ?k; (case a => k_is); (case l => k_is); (case c => k_is); (case k => k_is))
    (case a_spread => refine' Cal.fact_mk KX G ?a ?l ?c ?k; (case a => k_is); (case l => k_is); (case c => k_is); (case k => k_is))
    (case a_Lright => refine' Cal.fact_mk KX G ?a ?l ?c ?k; (case a => k_is); (case l => k_is); (case c => k_is); (case k => k_is))
    (case a_law => refine' Cal.fact_mk KX G ?a ?l ?c ?k; (case a => k_is); (case l => k_is); (case c => k_is); (case k => k_is))
    (case T => refine' Cal.bl_mk KX G ?z_len ?z_range ?z_zip ?z_isinstance ?z_tuple ?z_list ?z_int ?z_bool ?z_str ?z_sorted ?z_sum ?z_all ?z_abs ?z_max ?z_gcd ?z_lcm; (case z_len => k_is); (case z_range => k_is); (case z_zip => k_is); (case z_isinstance => k_is); (case z_tuple => k_is); (case z_list => k_is); (case z_int => k_is); (case z_bool => k_is); (case z_str => k_is); (case z_sorted => k_is); (case z_sum => k_is); (case z_all => k_is); (case z_abs => k_is); (case z_max => k_is); (case z_gcd => k_is); (case z_lcm => k_is))
    (case nT => kernel_rfl)
    (case hd => kernel_rfl)
