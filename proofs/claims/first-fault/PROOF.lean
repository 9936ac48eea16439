import PyProof.Rows.All
import Wide.All
import OpenK.AllK
import Wide.FinOn
import HandS.ForMost
import HandS.ForExc
import HandS.Evl
import HandS.IsInst
import HandS.Gcd
import HandS.Wide
import HandS.WideBits
import HandS.Style
import HandS.TupAny
import HandS.Zip
import HandS.ExcInit
import HandS.ExcField
import HandS.ExcIs
import HandS.Defaults
import KE.GoesEnum
import PySem.Challenge.RW_everyohm_k36_whole_first_fault_of_a_worl
set_option Elab.async false
set_option linter.all false
set_option maxRecDepth 100000
set_option maxHeartbeats 4000000
/-! A layer of data over the hand layer: what stands for which datum in the heap, and how an expression's reading comes to a datum, whatever addresses it takes. -/
namespace Ky
open PySem PySem.Spec PyProof.Rows L2
abbrev D := PyData
abbrev Ex := Evl.Ex
theorem Ex.refl (H : Hp) : Ex H H := Evl.Ex.refl H
theorem Ex.trans {H H1 H2 : Hp} (a : Ex H H1) (b : Ex H1 H2) : Ex H H2 := Evl.Ex.trans a b
theorem Ex.new {H : Hp} {p : Addr} {o : HO} (h : H p = none) : Ex H (upd H p o) := Evl.Ex.new h
section
variable {K : PySem.W.Frag} {H H' H1 H2 : Hp}
mutual
theorem dp_ex (e : Ex H H') : ∀ {v : V} {d : D}, Dp K H v d → Dp K H' v d
  | _, _, .non => .non
  | _, _, .bl b => .bl b
  | _, _, .int i => .int i
  | _, _, .str x => .str x
  | _, _, .lst h a => .lst (Evl.ex_l e h) (dpa_ex e a)
  | _, _, .tup h a => .tup (Evl.ex_t e h) (dpa_ex e a)
theorem dpa_ex (e : Ex H H') : ∀ {vs : List V} {ds : List D}, DpAll K H vs ds → DpAll K H' vs ds
  | _, _, .nil => .nil
  | _, _, .cons h a => .cons (dp_ex e h) (dpa_ex e a)
end
theorem dpa_len : ∀ {vs : List V} {ds : List D}, DpAll K H vs ds → vs.length = ds.length
  | _, _, .nil => rfl
  | _, _, .cons _ a => by rw [List.length_cons, List.length_cons, dpa_len a]
theorem dpa_get : ∀ {vs : List V} {ds : List D} {i : Nat} {d : D}, DpAll K H vs ds → ds[i]? = some d → ∃ v, vs[i]? = some v ∧ Dp K H v d
  | _, _, _, _, .nil, e => by simp at e
  | _, _, 0, _, .cons h _, e => by simp at e; subst e; exact ⟨_, rfl, h⟩
  | _, _, i + 1, d, .cons _ a, e => by
    obtain ⟨v, h1, h2⟩ := dpa_get (i := i) (d := d) a (by simpa using e)
    exact ⟨v, by simpa using h1, h2⟩
theorem dpa_getv : ∀ {vs : List V} {ds : List D} {i : Nat} {v : V}, DpAll K H vs ds → vs[i]? = some v → ∃ d, ds[i]? = some d ∧ Dp K H v d
  | _, _, _, _, .nil, e => by simp at e
  | _, _, 0, _, .cons h _, e => by simp at e; subst e; exact ⟨_, rfl, h⟩
  | _, _, i + 1, v, .cons _ a, e => by
    obtain ⟨d, h1, h2⟩ := dpa_getv (i := i) (v := v) a (by simpa using e)
    exact ⟨d, by simpa using h1, h2⟩
theorem dpa_append : ∀ {vs ws : List V} {ds es : List D}, DpAll K H vs ds → DpAll K H ws es → DpAll K H (vs ++ ws) (ds ++ es)
  | _, _, _, _, .nil, b => b
  | _, _, _, _, .cons h a, b => .cons h (dpa_append a b)
theorem dpa_take : ∀ {vs : List V} {ds : List D} (n : Nat), DpAll K H vs ds → DpAll K H (vs.take n) (ds.take n)
  | _, _, 0, _ => .nil
  | _, _, _ + 1, .nil => .nil
  | _, _, n + 1, .cons h a => .cons h (dpa_take n a)
theorem dpa_drop : ∀ {vs : List V} {ds : List D} (n : Nat), DpAll K H vs ds → DpAll K H (vs.drop n) (ds.drop n)
  | _, _, 0, a => a
  | _, _, _ + 1, .nil => .nil
  | _, _, n + 1, .cons _ a => dpa_drop n a
/-- a slice of a list of data -/
def cutD (xs : List D) (lo hi : Option Int) : List D := (xs.drop (HT.sIx xs.length 0 lo)).take (HT.sIx xs.length xs.length hi - HT.sIx xs.length 0 lo)
theorem dpa_cut {vs : List V} {ds : List D} (lo hi : Option Int) (a : DpAll K H vs ds) : DpAll K H (cutV vs lo hi) (cutD ds lo hi) := by
  unfold cutV cutD
  rw [dpa_len a]
  exact dpa_take _ (dpa_drop _ a)
theorem atI_dpa {vs : List V} {ds : List D} {i : Int} {d : D} (a : DpAll K H vs ds) (h : atI ds i = some d) : ∃ v, atI vs i = some v ∧ Dp K H v d := by
  unfold atI at h ⊢
  rw [dpa_len a]
  cases e : ixN ds.length i with
  | none => rw [e] at h; cases h
  | some j =>
    rw [e] at h
    exact dpa_get a h

/-- what stands in H' at places that were free in H -/
def nw (H H' : Hp) : Hp := fun a => match H a with
  | none => H' a
  | some _ => none
theorem nw_sub : Ex (nw H H') H' := fun a o h => by
  unfold nw at h
  cases e : H a with
  | none => rw [e] at h; exact h
  | some _ => rw [e] at h; cases h
theorem nw_mono (e : Ex H H1) : Ex (nw H1 H2) (nw H H2) := fun a o h => by
  unfold nw at h ⊢
  cases e1 : H1 a with
  | some _ => rw [e1] at h; cases h
  | none =>
    rw [e1] at h
    cases e2 : H a with
    | none => exact h
    | some u => rw [e a u e2] at e1; cases e1
theorem nw_new {p : Addr} {o : HO} (hp : H p = none) (h : H' p = some o) : nw H H' p = some o := by
  unfold nw
  rw [hp]
  exact h

/-! ### the law's pool: the one list that changes -/
structure PoolAt (q : Addr × Addr × Addr) (H : Hp) : Prop where
  ex : ∃ (s0 s1 s2 s5 : Int) (cs bs : List Int), H q.1 = some (.lst [.int s0, .int s1, .int s2, .ref q.2.1, .ref q.2.2, .int s5]) ∧ H q.2.1 = some (.lst (cs.map V.int)) ∧ H q.2.2 = some (.lst (bs.map V.int)) ∧ q.2.1 ≠ q.1 ∧ q.2.2 ≠ q.1 ∧
    0 < cs.length ∧ 0 ≤ s0 ∧ 0 ≤ s1 ∧ 0 ≤ s2 ∧ 0 ≤ s5 ∧ s5 < 2147483629 ∧ (∀ z, z ∈ bs → 0 < z)
/-- what the view leaves out: the pool; lists that change; lists that are being made -/
structure Pw where
  pl : Option (Addr × Addr × Addr)
  mt : List Addr
  hd : List Addr
abbrev p0 : Pw := ⟨none, [], []⟩
def Pw.hide (p : Pw) (a : Addr) : Pw := ⟨p.pl, p.mt, a :: p.hd⟩
def Pw.mut (p : Pw) (a : Addr) : Pw := ⟨p.pl, a :: p.mt, p.hd⟩
def vwl : List Addr → Hp → Hp
  | [], H => H
  | a :: r, H => fun b => if b = a then none else vwl r H b
def opo : Option (Addr × Addr × Addr) → List Addr → List Addr
  | none, l => l
  | some q, l => q.1 :: l
def opl (p : Pw) : List Addr := opo p.pl p.mt
def ew (p : Pw) (H : Hp) : Hp := vwl (opl p) H
def vw (p : Pw) (H : Hp) : Hp := vwl p.hd (ew p H)
def Wlo : Option (Addr × Addr × Addr) → Hp → Prop
  | none, _ => True
  | some a, H => PoolAt a H
structure Wl (p : Pw) (H : Hp) : Prop where
  po : Wlo p.pl H
  mt : ∀ a, a ∈ p.mt → ∃ o, H a = some o
  hd : ∀ a, a ∈ p.hd → ∃ o, H a = some o
theorem vwl_sub : ∀ {l : List Addr} {H : Hp}, Ex (vwl l H) H
  | [], H => Ex.refl H
  | a :: r, H => fun b o h => by
    have h' : (if b = a then none else vwl r H b) = some o := h
    by_cases q : b = a
    · rw [if_pos q] at h'; cases h'
    · rw [if_neg q] at h'; exact vwl_sub b o h'
theorem vwl_ex : ∀ {l : List Addr} {H H' : Hp}, Ex H H' → Ex (vwl l H) (vwl l H')
  | [], _, _, e => e
  | a :: r, H, H', e => fun b o h => by
    have h' : (if b = a then none else vwl r H b) = some o := h
    show (if b = a then none else vwl r H' b) = some o
    by_cases q : b = a
    · rw [if_pos q] at h'; cases h'
    · rw [if_neg q] at h' ⊢; exact vwl_ex e b o h'
theorem vwl_in : ∀ {l : List Addr} {H : Hp} {b : Addr}, b ∉ l → vwl l H b = H b
  | [], _, _, _ => rfl
  | a :: r, H, b, h => by
    show (if b = a then none else vwl r H b) = H b
    rw [if_neg (fun q => h (by simp [q]))]
    exact vwl_in fun q => h (List.mem_cons_of_mem _ q)
theorem vwl_out : ∀ {l : List Addr} {H : Hp} {b : Addr}, b ∈ l → vwl l H b = none
  | a :: r, H, b, h => by
    show (if b = a then none else vwl r H b) = none
    by_cases q : b = a
    · rw [if_pos q]
    · rw [if_neg q]
      exact vwl_out ((List.mem_cons.mp h).resolve_left q)
theorem ew_sub {p : Pw} : Ex (ew p H) H := vwl_sub
theorem vw_sub {p : Pw} : Ex (vw p H) H := Ex.trans vwl_sub vwl_sub
theorem vw_ex {p : Pw} (e : Ex H H') : Ex (vw p H) (vw p H') := vwl_ex (vwl_ex e)
theorem PoolAt.some_ {q : Addr × Addr × Addr} (h : PoolAt q H) : ∃ o, H q.1 = some o := by
  obtain ⟨_, _, _, _, _, _, e, _⟩ := h.ex
  exact ⟨_, e⟩
theorem PoolAt.ext {q : Addr × Addr × Addr} (h : PoolAt q H) (e : Ex H H') : PoolAt q H' := by
  obtain ⟨s0, s1, s2, s5, cs, bs, e1, e2, e3, r⟩ := h.ex
  exact ⟨s0, s1, s2, s5, cs, bs, e _ _ e1, e _ _ e2, e _ _ e3, r⟩
theorem wl_ex {p : Pw} (h : Wl p H) (e : Ex H H') : Wl p H' := by
  obtain ⟨pl, mt, hd⟩ := p
  refine ⟨?_, fun a ha => ?_, fun a ha => ?_⟩
  · cases pl with
    | none => trivial
    | some a => exact PoolAt.ext h.po e
  · obtain ⟨o, ho⟩ := h.mt a ha
    exact ⟨o, e _ _ ho⟩
  · obtain ⟨o, ho⟩ := h.hd a ha
    exact ⟨o, e _ _ ho⟩
/-- what the view leaves out stands -/
theorem wl_out {p : Pw} (h : Wl p H) {b : Addr} (hb : b ∈ opl p ∨ b ∈ p.hd) : ∃ o, H b = some o := by
  obtain ⟨pl, mt, hd⟩ := p
  rcases hb with hb | hb
  · cases pl with
    | none => exact h.mt b hb
    | some a =>
      rcases List.mem_cons.mp (show b ∈ a.1 :: mt from hb) with e | e
      · subst e
        exact PoolAt.some_ h.po
      · exact h.mt b e
  · exact h.hd b hb
theorem vw_at {p : Pw} {b : Addr} (h : Wl p H) (hb : H b = none) : b ∉ opl p ∧ b ∉ p.hd := by
  refine ⟨fun q => ?_, fun q => ?_⟩
  · obtain ⟨o, ho⟩ := wl_out h (.inl q)
    rw [hb] at ho
    cases ho
  · obtain ⟨o, ho⟩ := wl_out h (.inr q)
    rw [hb] at ho
    cases ho
theorem vw_get {p : Pw} {b : Addr} (h : b ∉ opl p ∧ b ∉ p.hd) : vw p H b = H b := (vwl_in h.2).trans (vwl_in h.1)
theorem nw_vw {p : Pw} (h : Wl p H) : Ex (nw H H') (vw p H') := fun b u hb => by
  have hn : H b = none := by
    unfold nw at hb
    cases e : H b with
    | none => rfl
    | some _ => rw [e] at hb; cases hb
  rw [vw_get (vw_at h hn)]
  exact nw_sub b u hb
/-- a new object stands in the view too -/
theorem vw_new {p : Pw} {a : Addr} {o : HO} (h : Wl p H) (ha : H a = none) (e : H' a = some o) : vw p H' a = some o := by
  rw [vw_get (vw_at h ha)]
  exact e
theorem vw_free {p : Pw} {a : Addr} (ha : H a = none) : vw p H a = none := by
  cases e : vw p H a with
  | none => rfl
  | some o => rw [vw_sub a o e] at ha; cases ha
/-- from H one has come to H': all but the pool is as it was -/
structure Rl (p : Pw) (H H' : Hp) : Prop where
  exw : Ex (ew p H) (ew p H')
  pi : Wl p H'
theorem Rl.ex {p : Pw} (r : Rl p H H') : Ex (vw p H) (vw p H') := vwl_ex r.exw
theorem Rl.refl {p : Pw} (h : Wl p H) : Rl p H H := ⟨Ex.refl _, h⟩
theorem Rl.trans {p : Pw} (a : Rl p H H1) (b : Rl p H1 H2) : Rl p H H2 := ⟨a.exw.trans b.exw, b.pi⟩
theorem Rl.of {p : Pw} (h : Wl p H) (e : Ex H H') : Rl p H H' := ⟨vwl_ex e, wl_ex h e⟩
theorem Rl.new {p : Pw} {a : Addr} {o : HO} (h : Wl p H) (ha : H a = none) : Rl p H (upd H a o) := .of h (Ex.new ha)
theorem pi0 : Wl p0 H := ⟨trivial, (fun _ h => nomatch h), (fun _ h => nomatch h)⟩
theorem rl0 (e : Ex H H') : Rl p0 H H' := ⟨e, pi0⟩
/-- what was free before is new -/
theorem Rl.free {p : Pw} (h : Wl p H) (r : Rl p H H') {a : Addr} (ha : H' a = none) : H a = none := by
  cases e : H a with
  | none => rfl
  | some o =>
    by_cases q : a ∈ opl p
    · obtain ⟨u, hu⟩ := wl_out r.pi (.inl q)
      rw [ha] at hu
      cases hu
    · have h1 : ew p H a = some o := (vwl_in q).trans e
      have h2 := ew_sub a o (r.exw a o h1)
      rw [ha] at h2
      cases h2
/-- a list that is being made stands as it is behind what does not write it -/
theorem Rl.keep {p : Pw} (r : Rl p H H') {a : Addr} {o : HO} (h : H a = some o) (q : a ∉ opl p) : H' a = some o :=
  ew_sub a o (r.exw a o ((vwl_in q).trans h))
end

/-! ### what comes to what -/
section
variable (K : PySem.W.Frag) (p : Pw)
def EvP (te : TE) (σ : L2.St) (H : Hp) (P : D → Prop) : Prop := ∀ H1, Rl p H H1 → ∀ Q : VK, (∀ v d H2, Rl p H1 H2 → P d → Dp K (vw p H2) v d → Q v H2) → te σ H1 Q
abbrev EvD (te : TE) (σ : L2.St) (H : Hp) (d : D) : Prop := EvP K p te σ H fun x => x = d
def EvAP (ta : TA) (σ : L2.St) (H : Hp) (P : List D → Prop) : Prop := ∀ H1, Rl p H H1 → ∀ Q : List V → Hp → Prop, (∀ vs ds H2, Rl p H1 H2 → P ds → DpAll K (vw p H2) vs ds → Q vs H2) → ta σ H1 Q
abbrev EvA (ta : TA) (σ : L2.St) (H : Hp) (ds : List D) : Prop := EvAP K p ta σ H fun x => x = ds
def EvT (tt : TT) (σ : L2.St) (H : Hp) (b : Bool) : Prop := ∀ H1, Rl p H H1 → ∀ Q : Bool → Hp → Prop, (∀ H2, Rl p H1 H2 → Q b H2) → tt σ H1 Q
def EvO (to : TO) (σ : L2.St) (H : Hp) (P : Option Int → Prop) : Prop := ∀ H1, Rl p H H1 → ∀ Q : Option Int → Hp → Prop, (∀ o H2, Rl p H1 H2 → P o → Q o H2) → to σ H1 Q
/-- all that is handed back is new -/
def EvN (te : TE) (σ : L2.St) (H : Hp) (d : D) : Prop := ∀ H1, Ex H H1 → ∀ Q : VK, (∀ v H2, Ex H1 H2 → Dp K (nw H1 H2) v d → Q v H2) → te σ H1 Q
end
def flatD : D → Bool
  | .none | .bool _ | .int _ | .str _ => true
  | _ => false
theorem dp_flat {K : PySem.W.Frag} {H H' : Hp} {v : V} {d : D} (h : Dp K H v d) (f : flatD d = true) : Dp K H' v d := by
  cases h with
  | non => exact .non
  | bl b => exact .bl b
  | int i => exact .int i
  | str x => exact .str x
  | lst _ _ => cases f
  | tup _ _ => cases f
theorem dpa_flat {K : PySem.W.Frag} {H H' : Hp} : ∀ {vs : List V} {ds : List D}, DpAll K H vs ds → ds.all flatD = true → DpAll K H' vs ds
  | _, _, .nil, _ => .nil
  | _, _, .cons h a, f => by
    rw [List.all_cons, Bool.and_eq_true] at f
    exact .cons (dp_flat h f.1) (dpa_flat a f.2)

section
variable {K : PySem.W.Frag} {p : Pw} {σ : L2.St} {H H' : Hp} {ta tb tc te : TE} {t u : TT} {d e : D} {P P' A B : D → Prop}
theorem EvP.mono (r : Rl p H H') (h : EvP K p te σ H P) : EvP K p te σ H' P := fun H1 a Q q => h H1 (r.trans a) Q q
theorem EvP.imp (h : EvP K p te σ H P) (i : ∀ d, P d → P' d) : EvP K p te σ H P' := fun H1 a Q q => h H1 a Q fun v d H2 r z k => q v d H2 r (i d z) k
theorem EvT.mono {b : Bool} (r : Rl p H H') (h : EvT p t σ H b) : EvT p t σ H' b := fun H1 a Q q => h H1 (r.trans a) Q q
theorem ev_is (h : EvD K p te σ H d) (q : d = e) : EvD K p te σ H e := by rw [← q]; exact h
theorem ev_var {i : Nat} {v : V} {H0 : Hp} (h : σ[i]? = some (some v)) (hd : Dp K (vw p H0) v d) (r : Rl p H0 H) : EvD K p (tVar i) σ H d := fun H1 r1 Q q =>
  ⟨v, h, q v d H1 (Rl.refl r1.pi) rfl (dp_ex (r.trans r1).ex hd)⟩
/-- a slot that holds an int, a bool .. -/
theorem ev_slot {i : Nat} {v : V} (h : σ[i]? = some (some v)) (hd : ∀ H, Dp K H v d) : EvD K p (tVar i) σ H d := fun H1 r1 Q q =>
  ⟨v, h, q v d H1 (Rl.refl r1.pi) rfl (hd _)⟩
theorem ev_int {i : Int} : EvD K p (tC (.int i)) σ H (.int i) := fun H1 r1 Q q => q _ _ H1 (Rl.refl r1.pi) rfl (.int i)
theorem ev_bl {b : Bool} : EvD K p (tC (.bl b)) σ H (.bool b) := fun H1 r1 Q q => q _ _ H1 (Rl.refl r1.pi) rfl (.bl b)
theorem ev_str {x : Str} : EvD K p (tC (.str x)) σ H (.str x) := fun H1 r1 Q q => q _ _ H1 (Rl.refl r1.pi) rfl (.str x)
theorem ev_non : EvD K p (tC .non) σ H .none := fun H1 r1 Q q => q _ _ H1 (Rl.refl r1.pi) rfl .non

/-- an operation on values, told of data -/
def RvP (K : PySem.W.Frag) (p : Pw) (r : R2) (H : Hp) (A B : D → Prop) (P : D → Prop) : Prop :=
  ∀ H1, Rl p H H1 → ∀ x y d e, A d → B e → Dp K (vw p H1) x d → Dp K (vw p H1) y e → ∀ Q : VK, (∀ v z H2, Rl p H1 H2 → P z → Dp K (vw p H2) v z → Q v H2) → r x y H1 Q
theorem evp_op {r : R2} (ha : EvP K p ta σ H A) (hb : EvP K p tb σ H B) (hr : RvP K p r H A B P) : EvP K p (tOp r ta tb) σ H P := fun H1 r1 Q q =>
  ha H1 r1 _ fun x d H2 r2 pd kd => hb H2 (r1.trans r2) _ fun y e H3 r3 pe ke => hr H3 ((r1.trans r2).trans r3) x y d e pd pe (dp_ex r3.ex kd) ke Q fun v z H4 r4 pz kz => q v z H4 ((r2.trans r3).trans r4) pz kz
theorem dp_int {x : V} {i : Int} (h : Dp K H x (.int i)) : x = .int i := by cases h; rfl
theorem dp_bool {x : V} {b : Bool} (h : Dp K H x (.bool b)) : x = .bl b := by cases h; rfl
theorem dp_strv {x : V} {s : Str} (h : Dp K H x (.str s)) : x = .str s := by cases h; rfl
theorem dp_nonv {x : V} (h : Dp K H x .none) : x = .non := by cases h; rfl
theorem ev_I0 {f : Int → Int → Int} {i j : Int} (ha : EvD K p ta σ H (.int i)) (hb : EvD K p tb σ H (.int j)) : EvD K p (tOp (rI0 fun i j => .int (f i j)) ta tb) σ H (.int (f i j)) :=
  evp_op ha hb fun H1 r1 x y d e hd he kx ky Q q => by
    subst hd he
    exact ⟨i, j, dp_int kx, dp_int ky, q _ _ H1 (Rl.refl r1.pi) rfl (.int _)⟩
theorem ev_B0 {f : Int → Int → Bool} {i j : Int} (ha : EvD K p ta σ H (.int i)) (hb : EvD K p tb σ H (.int j)) : EvD K p (tOp (rI0 fun i j => .bl (f i j)) ta tb) σ H (.bool (f i j)) :=
  evp_op ha hb fun H1 r1 x y d e hd he kx ky Q q => by
    subst hd he
    exact ⟨i, j, dp_int kx, dp_int ky, q _ _ H1 (Rl.refl r1.pi) rfl (.bl _)⟩
theorem ev_IC {C : Int → Int → Prop} {f : Int → Int → Int} {i j : Int} (ha : EvD K p ta σ H (.int i)) (hb : EvD K p tb σ H (.int j)) (hc : C i j) : EvD K p (tOp (rI C fun i j => .int (f i j)) ta tb) σ H (.int (f i j)) :=
  evp_op ha hb fun H1 r1 x y d e hd he kx ky Q q => by
    subst hd he
    exact ⟨i, j, dp_int kx, dp_int ky, hc, q _ _ H1 (Rl.refl r1.pi) rfl (.int _)⟩
theorem ev_neg {i : Int} (ha : EvD K p ta σ H (.int i)) : EvD K p (tUn (rU fun i => .int (-i)) ta) σ H (.int (-i)) := fun H1 r1 Q q =>
  ha H1 r1 _ fun x d H2 r2 hd k => by
    subst hd
    exact ⟨i, dp_int k, q _ _ H2 r2 rfl (.int _)⟩
theorem ev_eq (ha : EvD K p ta σ H d) (hb : EvD K p tb σ H e) (sd : SeqAt.shaped d = true) (se : SeqAt.shaped e = true) : EvD K p (tOp (rEqD K) ta tb) σ H (.bool (PyData.eqv d e)) :=
  evp_op ha hb fun H1 r1 x y d' e' hd he kx ky Q q => by
    subst hd he
    exact ⟨_, _, dp_ex vw_sub kx, dp_ex vw_sub ky, sd, se, q _ _ H1 (Rl.refl r1.pi) rfl (.bl _)⟩
theorem ev_ne (ha : EvD K p ta σ H d) (hb : EvD K p tb σ H e) (sd : SeqAt.shaped d = true) (se : SeqAt.shaped e = true) : EvD K p (tOp (rNeD K) ta tb) σ H (.bool (!PyData.eqv d e)) :=
  evp_op ha hb fun H1 r1 x y d' e' hd he kx ky Q q => by
    subst hd he
    exact ⟨_, _, dp_ex vw_sub kx, dp_ex vw_sub ky, sd, se, q _ _ H1 (Rl.refl r1.pi) rfl (.bl _)⟩
def isNoneD : D → Bool
  | .none => true
  | _ => false
theorem dp_isnon {x : V} (h : Dp K H x d) : decide (x = .non) = isNoneD d := by cases h <;> rfl
def rIsN : R2 := fun x y H Q => y = .non ∧ Q (.bl (decide (x = .non))) H
def rNotN : R2 := fun x y H Q => y = .non ∧ Q (.bl (!decide (x = .non))) H
theorem op_isNK {X : Cx} : OpR X (compareOp .Is) rIsN := op_isN
theorem op_notNK {X : Cx} : OpR X (compareOp .IsNot) rNotN := op_notN
theorem ev_isN (ha : EvD K p ta σ H d) : EvD K p (tOp rIsN ta (tC .non)) σ H (.bool (isNoneD d)) :=
  evp_op ha ev_non fun H1 r1 x y d' e' hd he kx ky Q q => by
    subst hd he
    refine ⟨dp_nonv ky, ?_⟩
    rw [dp_isnon kx]
    exact q _ _ H1 (Rl.refl r1.pi) rfl (.bl _)
theorem ev_notN (ha : EvD K p ta σ H d) : EvD K p (tOp rNotN ta (tC .non)) σ H (.bool (!isNoneD d)) :=
  evp_op ha ev_non fun H1 r1 x y d' e' hd he kx ky Q q => by
    subst hd he
    refine ⟨dp_nonv ky, ?_⟩
    rw [dp_isnon kx]
    exact q _ _ H1 (Rl.refl r1.pi) rfl (.bl _)
theorem ev_notB {a b : Bool} (ha : EvD K p ta σ H (.bool a)) (hb : EvD K p tb σ H (.bool b)) : EvD K p (tOp rNotB ta tb) σ H (.bool (!decide (a = b))) :=
  evp_op ha hb fun H1 r1 x y d' e' hd he kx ky Q q => by
    subst hd he
    exact ⟨a, b, dp_bool kx, dp_bool ky, q _ _ H1 (Rl.refl r1.pi) rfl (.bl _)⟩
/-- an item of a tuple, of a list -/
theorem ev_ixT {ds : List D} {i : Int} (ha : EvD K p ta σ H (.tuple ds)) (hb : EvD K p tb σ H (.int i)) (h : atI ds i = some d) : EvD K p (tOp (rIx K) ta tb) σ H d :=
  evp_op ha hb fun H1 r1 x y d' e' hd he kx ky Q q => by
    subst hd he
    cases kx with
    | tup hs hv =>
      obtain ⟨v, hv1, kv⟩ := atI_dpa hv h
      exact .inr (.inl ⟨_, _, i, v, rfl, dp_int ky, Evl.ex_t vw_sub hs, hv1, q _ _ H1 (Rl.refl r1.pi) rfl kv⟩)
theorem ev_ixL {ds : List D} {i : Int} (ha : EvD K p ta σ H (.list ds)) (hb : EvD K p tb σ H (.int i)) (h : atI ds i = some d) : EvD K p (tOp (rIx K) ta tb) σ H d :=
  evp_op ha hb fun H1 r1 x y d' e' hd he kx ky Q q => by
    subst hd he
    cases kx with
    | lst hs hv =>
      obtain ⟨v, hv1, kv⟩ := atI_dpa hv h
      exact .inl ⟨_, _, i, v, rfl, dp_int ky, Evl.ex_l vw_sub hs, hv1, q _ _ H1 (Rl.refl r1.pi) rfl kv⟩
/-- an item of a tuple at an index that is not told -/
theorem evp_ixT {ds : List D} (ha : EvD K p ta σ H (.tuple ds)) (hb : EvP K p tb σ H fun e => ∃ j : Nat, e = .int (j : Int) ∧ j < ds.length) : EvP K p (tOp (rIx K) ta tb) σ H fun d => d ∈ ds :=
  evp_op ha hb fun H1 r1 x y d' e' hd he kx ky Q q => by
    subst hd
    obtain ⟨j, rfl, hj⟩ := he
    cases kx with
    | tup hs hv =>
      obtain ⟨v, hv1, kv⟩ := dpa_get hv (List.getElem?_eq_getElem hj)
      exact .inr (.inl ⟨_, _, _, v, rfl, dp_int ky, Evl.ex_t vw_sub hs, atI_nat hv1, q _ _ H1 (Rl.refl r1.pi) (List.getElem_mem hj) kv⟩)
/-- t + u -/
theorem ev_catT {ds es : List D} (ha : EvD K p ta σ H (.tuple ds)) (hb : EvD K p tb σ H (.tuple es)) (hl : ds.length + es.length ≤ 100000) : EvD K p (tOp (rCatA K) ta tb) σ H (.tuple (ds ++ es)) :=
  evp_op ha hb fun H1 r1 x y d' e' hd he kx ky Q q => by
    subst hd he
    cases kx with
    | @tup a xs _ hs hv =>
      cases ky with
      | @tup b ys _ hs2 hv2 =>
        refine ⟨a, b, xs, ys, rfl, rfl, Evl.ex_t vw_sub hs, Evl.ex_t vw_sub hs2, Evl.sz_of (by rw [dpa_len hv, dpa_len hv2]; exact hl), fun z => ?_, fun _ z => ?_, fun _ _ a1 ha1 => ?_⟩
        · subst z
          cases hv
          exact q _ _ H1 (Rl.refl r1.pi) rfl (.tup hs2 hv2)
        · subst z
          cases hv2
          rw [List.append_nil] at q
          exact q _ _ H1 (Rl.refl r1.pi) rfl (.tup hs hv)
        · have rn : Rl p H1 (upd H1 a1 (.tup (xs ++ ys))) := Rl.new r1.pi ha1
          exact q _ _ _ rn rfl (.tup (SqT.of (vw_new r1.pi ha1 upd_same)) (dpa_ex rn.ex (dpa_append hv hv2)))
theorem evp_catT {A B : List D → Prop} (ha : EvP K p ta σ H fun d => ∃ ds, d = .tuple ds ∧ A ds) (hb : EvP K p tb σ H fun d => ∃ ds, d = .tuple ds ∧ B ds) (hl : ∀ ds es, A ds → B es → ds.length + es.length ≤ 100000) :
    EvP K p (tOp (rCatA K) ta tb) σ H fun d => ∃ ds es, d = .tuple (ds ++ es) ∧ A ds ∧ B es := fun H1 r1 Q q =>
  ha H1 r1 _ fun x d H2 r2 ⟨ds, ed, pd⟩ kd => hb H2 (r1.trans r2) _ fun y e H3 r3 ⟨es, ee, pe⟩ ke => by
    subst ed ee
    have := ev_catT (K := K) (p := p) (σ := [some x, some y]) (H := H3) (ta := tVar 0) (tb := tVar 1) (ev_var rfl (dp_ex r3.ex kd) (Rl.refl r3.pi)) (ev_var rfl ke (Rl.refl r3.pi)) (hl ds es pd pe)
    obtain ⟨v0, e0, this⟩ := this H3 (Rl.refl r3.pi) Q fun v d H4 r4 hd kd => q v d H4 ((r2.trans r3).trans r4) ⟨ds, es, hd, pd, pe⟩ kd
    obtain ⟨v1, e1, this⟩ := this
    cases e0
    cases e1
    exact this
end
end Ky
set_option Elab.async false
set_option linter.all false
set_option maxRecDepth 100000
set_option maxHeartbeats 4000000
namespace Ky
open PySem PySem.Spec PyProof.Rows L2
section
variable {K : PySem.W.Frag} {p : Pw} {σ : L2.St} {H H' : Hp} {ta tb tc te : TE} {t u : TT} {d e : D} {P P' A B : D → Prop}
/-! ### argument lists, displays -/
theorem ea_nil : EvA K p tNil σ H [] := fun H1 r1 Q q => q _ _ H1 (Rl.refl r1.pi) rfl .nil
theorem ea_cons {tr : TA} {ds : List D} (h : EvD K p ta σ H d) (hr : EvA K p tr σ H ds) : EvA K p (tCons ta tr) σ H (d :: ds) := fun H1 r1 Q q =>
  h H1 r1 _ fun v d' H2 r2 ed kd => hr H2 (r1.trans r2) _ fun vs ds' H3 r3 eds kds => by
    subst ed eds
    exact q _ _ H3 (r2.trans r3) rfl (.cons (dp_ex r3.ex kd) kds)
theorem eap_nil : EvAP K p tNil σ H (fun ds => ds = []) := ea_nil
theorem eap_cons {tr : TA} {P : List D → Prop} (h : EvP K p ta σ H A) (hr : EvAP K p tr σ H P) : EvAP K p (tCons ta tr) σ H (fun ds => ∃ d r, ds = d :: r ∧ A d ∧ P r) := fun H1 r1 Q q =>
  h H1 r1 _ fun v d' H2 r2 ed kd => hr H2 (r1.trans r2) _ fun vs ds' H3 r3 eds kds =>
    q _ _ H3 (r2.trans r3) ⟨d', ds', rfl, ed, eds⟩ (.cons (dp_ex r3.ex kd) kds)
theorem eap_imp {ta : TA} {P P' : List D → Prop} (h : EvAP K p ta σ H P) (i : ∀ ds, P ds → P' ds) : EvAP K p ta σ H P' := fun H1 a Q q => h H1 a Q fun v d H2 r z k => q v d H2 r (i d z) k
theorem evp_tup {ta : TA} {P : List D → Prop} (h : EvAP K p ta σ H P) (hl : ∀ ds, P ds → ds.length ≤ 100000) : EvP K p (tTup ta) σ H fun d => ∃ ds, d = .tuple ds ∧ P ds := fun H1 r1 Q q =>
  h H1 r1 _ fun vs ds H2 r2 pd kd => by
    refine ⟨Evl.sz_of (by rw [dpa_len kd]; exact hl ds pd), fun a ha => ?_⟩
    have rn : Rl p H2 (upd H2 a (.tup vs)) := Rl.new r2.pi ha
    exact q _ _ _ (r2.trans rn) ⟨ds, rfl, pd⟩ (.tup (SqT.of (vw_new r2.pi ha upd_same)) (dpa_ex rn.ex kd))
theorem ev_tup {ta : TA} {ds : List D} (h : EvA K p ta σ H ds) (hl : ds.length ≤ 100000) : EvD K p (tTup ta) σ H (.tuple ds) :=
  (evp_tup h fun es e => by rw [e]; exact hl).imp fun d ⟨es, e1, e2⟩ => by rw [e1, e2]
theorem evp_lst {ta : TA} {P : List D → Prop} (h : EvAP K p ta σ H P) (hl : ∀ ds, P ds → ds.length ≤ 100000) : EvP K p (tLst ta) σ H fun d => ∃ ds, d = .list ds ∧ P ds := fun H1 r1 Q q =>
  h H1 r1 _ fun vs ds H2 r2 pd kd => by
    refine ⟨Evl.sz_of (by rw [dpa_len kd]; exact hl ds pd), fun a ha => ?_⟩
    have rn : Rl p H2 (upd H2 a (.lst vs)) := Rl.new r2.pi ha
    exact q _ _ _ (r2.trans rn) ⟨ds, rfl, pd⟩ (.lst (SqL.of (vw_new r2.pi ha upd_same)) (dpa_ex rn.ex kd))
theorem ev_lst {ta : TA} {ds : List D} (h : EvA K p ta σ H ds) (hl : ds.length ≤ 100000) : EvD K p (tLst ta) σ H (.list ds) :=
  (evp_lst h fun es e => by rw [e]; exact hl).imp fun d ⟨es, e1, e2⟩ => by rw [e1, e2]
/-! ### built-in functions -/
theorem call_lenK {X : Cx} : CallR X (.builtin "len") (Evl.rLenS X.K) := call_len_seq
theorem ev_lenT {ds : List D} (ha : EvD K p ta σ H (.tuple ds)) : EvD K p (tCB (Evl.rLenS K) (tCons ta tNil)) σ H (.int (ds.length : Int)) := fun H1 r1 Q q =>
  ha H1 r1 _ fun x d H2 r2 ed kd => by
    subst ed
    cases kd with
    | tup hs hv =>
      refine ⟨_, _, rfl, .inr (Evl.ex_t vw_sub hs), ?_⟩
      rw [dpa_len hv]
      exact q _ _ H2 r2 rfl (.int _)
theorem ev_lenL {ds : List D} (ha : EvD K p ta σ H (.list ds)) : EvD K p (tCB (Evl.rLenS K) (tCons ta tNil)) σ H (.int (ds.length : Int)) := fun H1 r1 Q q =>
  ha H1 r1 _ fun x d H2 r2 ed kd => by
    subst ed
    cases kd with
    | lst hs hv =>
      refine ⟨_, _, rfl, .inl (Evl.ex_l vw_sub hs), ?_⟩
      rw [dpa_len hv]
      exact q _ _ H2 r2 rfl (.int _)
def tyN : D → String
  | .none => "NoneType"
  | .bool _ => "bool"
  | .int _ => "int"
  | .str _ => "str"
  | .list _ => "list"
  | .tuple _ => "tuple"
  | .dict _ => "dict"
theorem tyx_of {x : V} (h : Dp K H x d) : TyX K H x (.type (tyN d)) := by
  cases h with
  | non => exact .base .non
  | bl b => exact .base (.bl b)
  | int i => exact .base (.int i)
  | str s => exact .base (.str s)
  | lst hs _ =>
    rcases hs with (h | ⟨o, h⟩) | ⟨o, its, n, h, hc, _⟩
    · exact .base (.lst h)
    · exact .base (.frz h)
    · exact .kList h hc
  | tup hs _ =>
    rcases hs with (h | ⟨o, h⟩) | ⟨o, its, n, h, hc, _⟩
    · exact .base (.tup h)
    · exact .fTuple h
    · exact .kTuple h hc
def isTup : D → Bool
  | .tuple _ => true
  | _ => false
def isLst : D → Bool
  | .list _ => true
  | _ => false
def isStr : D → Bool
  | .str _ => true
  | _ => false
def isBool : D → Bool
  | .bool _ => true
  | _ => false
def isIntB : D → Bool
  | .int _ => true
  | .bool _ => true
  | _ => false
theorem kit_tup (d : D) : kitB (tyN d) "tuple" = some (isTup d) := by cases d <;> (simp only [tyN, isTup, isLst, isStr, isBool, isIntB]; decide +kernel)
theorem kit_lst (d : D) : kitB (tyN d) "list" = some (isLst d) := by cases d <;> (simp only [tyN, isTup, isLst, isStr, isBool, isIntB]; decide +kernel)
theorem kit_str (d : D) : kitB (tyN d) "str" = some (isStr d) := by cases d <;> (simp only [tyN, isTup, isLst, isStr, isBool, isIntB]; decide +kernel)
theorem kit_bool (d : D) : kitB (tyN d) "bool" = some (isBool d) := by cases d <;> (simp only [tyN, isTup, isLst, isStr, isBool, isIntB]; decide +kernel)
theorem kit_int (d : D) : kitB (tyN d) "int" = some (isIntB d) := by cases d <;> (simp only [tyN, isTup, isLst, isStr, isBool, isIntB]; decide +kernel)
theorem ev_isi {T : String} {b : Bool} (ha : EvD K p ta σ H d) (h : kitB (tyN d) T = some b) : EvD K p (tCB (rIsi K) (tCons ta (tCons (tC (.ty T)) tNil))) σ H (.bool b) := fun H1 r1 Q q =>
  ha H1 r1 _ fun x d' H2 r2 ed kd => by
    subst ed
    exact ⟨x, .ty T, .type (tyN d'), .type T, b, rfl, .ty T, tyx_of (dp_ex vw_sub kd), kit_ty h, q _ _ H2 r2 rfl (.bl _)⟩
theorem ev_isTup (ha : EvD K p ta σ H d) : EvD K p (tCB (rIsi K) (tCons ta (tCons (tC (.ty "tuple")) tNil))) σ H (.bool (isTup d)) := ev_isi ha (kit_tup d)
theorem ev_isLst (ha : EvD K p ta σ H d) : EvD K p (tCB (rIsi K) (tCons ta (tCons (tC (.ty "list")) tNil))) σ H (.bool (isLst d)) := ev_isi ha (kit_lst d)
theorem ev_isStr (ha : EvD K p ta σ H d) : EvD K p (tCB (rIsi K) (tCons ta (tCons (tC (.ty "str")) tNil))) σ H (.bool (isStr d)) := ev_isi ha (kit_str d)
theorem ev_isBool (ha : EvD K p ta σ H d) : EvD K p (tCB (rIsi K) (tCons ta (tCons (tC (.ty "bool")) tNil))) σ H (.bool (isBool d)) := ev_isi ha (kit_bool d)
theorem ev_isInt (ha : EvD K p ta σ H d) : EvD K p (tCB (rIsi K) (tCons ta (tCons (tC (.ty "int")) tNil))) σ H (.bool (isIntB d)) := ev_isi ha (kit_int d)
/-- int(..), abs(..), max(..), bit_length, gcd -/
def rInt1 : List V → Hp → VK → Prop := fun xs H Q => (∃ i, xs = [.int i] ∧ Q (.int i) H) ∨ ∃ k, xs = [.bl k] ∧ Q (.int (if k then 1 else 0)) H
def rAbs : List V → Hp → VK → Prop := fun xs H Q => ∃ i, xs = [.int i] ∧ Q (.int (if i < 0 then -i else i)) H
theorem call_intK {X : Cx} : CallR X (.type "int") rInt1 := call_int1
theorem call_absK {X : Cx} : CallR X (.builtin "abs") rAbs := call_abs
theorem call_maxK {X : Cx} (hc : X.calm = true) : CallR X (.builtin "max") Evl.rMax2 := call_max2 hc
theorem ev_intI {i : Int} (ha : EvD K p ta σ H (.int i)) : EvD K p (tCB rInt1 (tCons ta tNil)) σ H (.int i) := fun H1 r1 Q q =>
  ha H1 r1 _ fun x d' H2 r2 ed kd => by
    subst ed
    exact .inl ⟨i, by rw [dp_int kd], q _ _ H2 r2 rfl (.int _)⟩
theorem ev_intB {b : Bool} (ha : EvD K p ta σ H (.bool b)) : EvD K p (tCB rInt1 (tCons ta tNil)) σ H (.int (if b then 1 else 0)) := fun H1 r1 Q q =>
  ha H1 r1 _ fun x d' H2 r2 ed kd => by
    subst ed
    exact .inr ⟨b, by rw [dp_bool kd], q _ _ H2 r2 rfl (.int _)⟩
theorem ev_abs {i : Int} (ha : EvD K p ta σ H (.int i)) : EvD K p (tCB rAbs (tCons ta tNil)) σ H (.int (if i < 0 then -i else i)) := fun H1 r1 Q q =>
  ha H1 r1 _ fun x d' H2 r2 ed kd => by
    subst ed
    exact ⟨i, by rw [dp_int kd], q _ _ H2 r2 rfl (.int _)⟩
theorem ev_max {i j : Int} (ha : EvD K p ta σ H (.int i)) (hb : EvD K p tb σ H (.int j)) : EvD K p (tCB Evl.rMax2 (tCons ta (tCons tb tNil))) σ H (.int (if j > i then j else i)) := fun H1 r1 Q q =>
  ha H1 r1 _ fun x d' H2 r2 ed kd => hb H2 (r1.trans r2) _ fun y e' H3 r3 ee ke => by
    subst ed ee
    exact ⟨i, j, by rw [dp_int kd, dp_int ke], q _ _ H3 (r2.trans r3) rfl (.int _)⟩
theorem ev_bits {i : Int} (ha : EvD K p ta σ H (.int i)) : EvD K p (tBits ta) σ H (.int ((Builtin.Int.intBits i : Nat) : Int)) := fun H1 r1 Q q =>
  ha H1 r1 _ fun x d' H2 r2 ed kd => by
    subst ed
    exact ⟨i, dp_int kd, q _ _ H2 r2 rfl (.int _)⟩
theorem ev_gcd {i j : Int} (ha : EvD K p ta σ H (.int i)) (hb : EvD K p tb σ H (.int j)) : EvD K p (tCB rGcd (tCons ta (tCons tb tNil))) σ H (.int ((Nat.gcd i.natAbs j.natAbs : Nat) : Int)) := fun H1 r1 Q q =>
  ha H1 r1 _ fun x d' H2 r2 ed kd => hb H2 (r1.trans r2) _ fun y e' H3 r3 ee ke => by
    subst ed ee
    exact ⟨i, j, by rw [dp_int kd, dp_int ke], q _ _ H3 (r2.trans r3) rfl (.int _)⟩
/-- list(t), tuple(l), all(l) -/
theorem call_listK {X : Cx} : CallR X (.type "list") (Evl.rListS X.K) := call_list_of
def rTupS (K : PySem.W.Frag) : List V → Hp → VK → Prop := fun xs H Q => ∃ p ys, xs = [.ref p] ∧ ((SqL K H p ys ∧ ∀ l, H l = none → Q (.ref l) (upd H l (.tup ys))) ∨ (SqT K H p ys ∧ Q (.ref p) H))
theorem call_tupK {X : Cx} : CallR X (.type "tuple") (rTupS X.K) := call_tuple_of
theorem evp_list {A : List D → Prop} (ha : EvP K p ta σ H fun d => ∃ ds, d = .tuple ds ∧ A ds) : EvP K p (tCB (Evl.rListS K) (tCons ta tNil)) σ H fun d => ∃ ds, d = .list ds ∧ A ds := fun H1 r1 Q q =>
  ha H1 r1 _ fun x d' H2 r2 ⟨ds, ed, pd⟩ kd => by
    subst ed
    cases kd with
    | @tup a xs _ hs hv =>
      refine ⟨a, xs, rfl, .inr (Evl.ex_t vw_sub hs), fun l hl => ?_⟩
      have rn : Rl p H2 (upd H2 l (.lst xs)) := Rl.new r2.pi hl
      exact q _ _ _ (r2.trans rn) ⟨ds, rfl, pd⟩ (.lst (SqL.of (vw_new r2.pi hl upd_same)) (dpa_ex rn.ex hv))
theorem ev_list {ds : List D} (ha : EvD K p ta σ H (.tuple ds)) : EvD K p (tCB (Evl.rListS K) (tCons ta tNil)) σ H (.list ds) :=
  (evp_list (A := fun es => es = ds) (ha.imp fun d e => ⟨ds, e, rfl⟩)).imp fun d ⟨es, e1, e2⟩ => by rw [e1, e2]
theorem evp_tuple {A : List D → Prop} (ha : EvP K p ta σ H fun d => ∃ ds, d = .list ds ∧ A ds) : EvP K p (tCB (rTupS K) (tCons ta tNil)) σ H fun d => ∃ ds, d = .tuple ds ∧ A ds := fun H1 r1 Q q =>
  ha H1 r1 _ fun x d' H2 r2 ⟨ds, ed, pd⟩ kd => by
    subst ed
    cases kd with
    | @lst a xs _ hs hv =>
      refine ⟨a, xs, rfl, .inl ⟨Evl.ex_l vw_sub hs, fun l hl => ?_⟩⟩
      have rn : Rl p H2 (upd H2 l (.tup xs)) := Rl.new r2.pi hl
      exact q _ _ _ (r2.trans rn) ⟨ds, rfl, pd⟩ (.tup (SqT.of (vw_new r2.pi hl upd_same)) (dpa_ex rn.ex hv))
theorem ev_tuple {ds : List D} (ha : EvD K p ta σ H (.list ds)) : EvD K p (tCB (rTupS K) (tCons ta tNil)) σ H (.tuple ds) :=
  (evp_tuple (A := fun es => es = ds) (ha.imp fun d e => ⟨ds, e, rfl⟩)).imp fun d ⟨es, e1, e2⟩ => by rw [e1, e2]
theorem dpa_bools : ∀ {vs : List V} {bs : List Bool}, DpAll K H vs (bs.map PyData.bool) → vs = bs.map V.bl
  | _, [], .nil => rfl
  | _, b :: bs, .cons h a => by rw [List.map_cons, dp_bool h, dpa_bools a]
theorem ev_all {bs : List Bool} (ha : EvD K p ta σ H (.list (bs.map PyData.bool))) : EvD K p (tCB (rAll K) (tCons ta tNil)) σ H (.bool (bs.all id)) := fun H1 r1 Q q =>
  ha H1 r1 _ fun x d' H2 r2 ed kd => by
    subst ed
    cases kd with
    | @lst a xs _ hs hv =>
      have e := dpa_bools hv
      subst e
      exact ⟨a, bs, rfl, Evl.ex_l vw_sub hs, q _ _ H2 r2 rfl (.bl _)⟩
/-- t[lo:hi] -/
theorem eo_none : EvO p tNoPart σ H (fun o => o = none) := fun H1 r1 Q q => q none H1 (Rl.refl r1.pi) rfl
theorem eop_some {A : Int → Prop} (ha : EvP K p ta σ H fun d => ∃ i, d = .int i ∧ A i) : EvO p (tPart ta) σ H (fun o => ∃ i, o = some i ∧ A i) := fun H1 r1 Q q =>
  ha H1 r1 _ fun x d' H2 r2 ⟨i, ed, ai⟩ kd => by
    subst ed
    exact ⟨i, dp_int kd, q _ H2 r2 ⟨i, rfl, ai⟩⟩
theorem eo_some {i : Int} (ha : EvD K p ta σ H (.int i)) : EvO p (tPart ta) σ H (fun o => o = some i) := fun H1 r1 Q q =>
  ha H1 r1 _ fun x d' H2 r2 ed kd => by
    subst ed
    exact ⟨i, dp_int kd, q _ H2 r2 rfl⟩
theorem sIx_all {n : Nat} {hi : Option Int} : HT.sIx n n hi ≤ n := HT.sIx_le n n (Nat.le_refl n) hi
theorem cutD_whole {ds : List D} {lo hi : Option Int} (h : HT.sIx ds.length 0 lo = 0 ∧ HT.sIx ds.length ds.length hi = ds.length) : cutD ds lo hi = ds := by
  unfold cutD
  rw [h.1, h.2]
  simp
theorem evp_slice {A : List D → Prop} {L U : Option Int → Prop} {tl th : TO} (ha : EvP K p ta σ H fun d => ∃ ds, d = .tuple ds ∧ A ds) (hl : EvO p tl σ H L) (hh : EvO p th σ H U) :
    EvP K p (tSl (rSlA K) ta tl th) σ H fun d => ∃ ds lo hi, d = .tuple (cutD ds lo hi) ∧ A ds ∧ L lo ∧ U hi := fun H1 r1 Q q =>
  ha H1 r1 _ fun x d' H2 r2 ⟨ds, ed, pd⟩ kd => hl H2 (r1.trans r2) _ fun lo H3 r3 pl => hh H3 ((r1.trans r2).trans r3) _ fun hi H4 r4 ph => by
    subst ed
    cases kd with
    | @tup a xs _ hs hv =>
      have r24 := r3.trans r4
      refine ⟨a, xs, rfl, Evl.ex_t vw_sub (Evl.ex_t r24.ex hs), fun w => ?_, fun _ b hb => ?_⟩
      · rw [dpa_len hv] at w
        exact q _ _ H4 (r2.trans r24) ⟨ds, lo, hi, rfl, pd, pl, ph⟩ (by rw [cutD_whole w]; exact .tup (Evl.ex_t r24.ex hs) (dpa_ex r24.ex hv))
      · have rn : Rl p H4 (upd H4 b (.tup (cutV xs lo hi))) := Rl.new r4.pi hb
        exact q _ _ _ ((r2.trans r24).trans rn) ⟨ds, lo, hi, rfl, pd, pl, ph⟩ (.tup (SqT.of (vw_new r4.pi hb upd_same)) (dpa_ex (r24.trans rn).ex (dpa_cut lo hi hv)))
theorem ev_slice {ds : List D} {lo hi : Option Int} {tl th : TO} (ha : EvD K p ta σ H (.tuple ds)) (hl : EvO p tl σ H fun o => o = lo) (hh : EvO p th σ H fun o => o = hi) : EvD K p (tSl (rSlA K) ta tl th) σ H (.tuple (cutD ds lo hi)) :=
  (evp_slice (A := fun es => es = ds) (ha.imp fun d e => ⟨ds, e, rfl⟩) hl hh).imp fun d ⟨es, l, h, e1, e2, e3, e4⟩ => by rw [e1, e2, e3, e4]
/-! ### a list plus a list (both of the def's own making) -/
theorem evp_catL {A B : List D → Prop} (ha : ∀ H1, Rl p H H1 → ∀ Q : VK, (∀ a xs ds H2, Rl p H1 H2 → H1 a = none → H2 a = some (.lst xs) → A ds → DpAll K (vw p H2) xs ds → Q (.ref a) H2) → ta σ H1 Q)
    (hb : ∀ H1, Rl p H H1 → ∀ Q : VK, (∀ a xs ds H2, Ex H1 H2 → Rl p H1 H2 → H1 a = none → H2 a = some (.lst xs) → B ds → DpAll K (vw p H2) xs ds → Q (.ref a) H2) → tb σ H1 Q)
    (hl : ∀ ds es, A ds → B es → ds.length + es.length ≤ 100000) : EvP K p (tOp rCat ta tb) σ H fun d => ∃ ds es, d = .list (ds ++ es) ∧ A ds ∧ B es := fun H1 r1 Q q =>
  ha H1 r1 _ fun a xs ds H2 r2 na ea pa ka => hb H2 (r1.trans r2) _ fun b ys es H3 e3 r3 nb eb pb kb => by
    refine ⟨a, b, xs, ys, rfl, rfl, e3 _ _ ea, eb, Evl.sz_of (by rw [dpa_len ka, dpa_len kb]; exact hl ds es pa pb), fun l hl' => ?_⟩
    have rn : Rl p H3 (upd H3 l (.lst (xs ++ ys))) := Rl.new r3.pi hl'
    exact q _ _ _ ((r2.trans r3).trans rn) ⟨ds, es, rfl, pa, pb⟩ (.lst (SqL.of (vw_new r3.pi hl' upd_same)) (dpa_append (dpa_ex (r3.trans rn).ex ka) (dpa_ex rn.ex kb)))
/-! ### tests -/
theorem et_test {b : Bool} (h : EvD K p te σ H (.bool b)) : EvT p (tTest te) σ H b := fun H1 r1 Q q =>
  h H1 r1 _ fun v d H2 r2 ed kd => by
    subst ed
    exact ⟨b, dp_bool kd, q H2 r2⟩
theorem et_B {b : Bool} (h : EvD K p te σ H (.bool b)) : EvT p (tB te) σ H b := fun H1 r1 Q q =>
  h H1 r1 _ fun v d H2 r2 ed kd => by
    subst ed
    exact ⟨b, dp_bool kd, q H2 r2⟩
theorem et_and {a b : Bool} (h1 : EvT p t σ H a) (h2 : a = true → EvT p u σ H b) : EvT p (tAnd t u) σ H (a && b) := fun H1 r1 Q q => h1 H1 r1 _ fun H2 r2 => by
  cases a with
  | true =>
    show u σ H2 Q
    exact h2 rfl H2 (r1.trans r2) Q fun H3 r3 => q H3 (r2.trans r3)
  | false =>
    show Q false H2
    exact q H2 r2
theorem et_or {a b : Bool} (h1 : EvT p t σ H a) (h2 : a = false → EvT p u σ H b) : EvT p (tOr t u) σ H (a || b) := fun H1 r1 Q q => h1 H1 r1 _ fun H2 r2 => by
  cases a with
  | true =>
    show Q true H2
    exact q H2 r2
  | false =>
    show u σ H2 Q
    exact h2 rfl H2 (r1.trans r2) Q fun H3 r3 => q H3 (r2.trans r3)
theorem et_not {a : Bool} (h1 : EvT p t σ H a) : EvT p (tNot t) σ H (!a) := fun H1 r1 Q q => h1 H1 r1 _ fun H2 r2 => q H2 r2
theorem et_is {a b : Bool} (h : EvT p t σ H a) (e : a = b) : EvT p t σ H b := by rw [← e]; exact h
theorem ev_andV {a b : Bool} (h1 : EvD K p ta σ H (.bool a)) (h2 : a = true → EvD K p tb σ H (.bool b)) : EvD K p (tAndV ta tb) σ H (.bool (a && b)) := fun H1 r1 Q q => h1 H1 r1 _ fun v d H2 r2 ed kd => by
  subst ed
  refine ⟨a, dp_bool kd, ?_⟩
  cases a with
  | true =>
    show tb σ H2 Q
    exact h2 rfl H2 (r1.trans r2) Q fun v d H3 r3 => q v d H3 (r2.trans r3)
  | false =>
    show Q (.bl false) H2
    exact q _ _ H2 r2 rfl (.bl _)
theorem ev_orV {a b : Bool} (h1 : EvD K p ta σ H (.bool a)) (h2 : a = false → EvD K p tb σ H (.bool b)) : EvD K p (tOrV ta tb) σ H (.bool (a || b)) := fun H1 r1 Q q => h1 H1 r1 _ fun v d H2 r2 ed kd => by
  subst ed
  refine ⟨a, dp_bool kd, ?_⟩
  cases a with
  | true =>
    show Q (.bl true) H2
    exact q _ _ H2 r2 rfl (.bl _)
  | false =>
    show tb σ H2 Q
    exact h2 rfl H2 (r1.trans r2) Q fun v d H3 r3 => q v d H3 (r2.trans r3)
theorem ev_notV {a : Bool} (h1 : EvD K p ta σ H (.bool a)) : EvD K p (tNotV ta) σ H (.bool (!a)) := fun H1 r1 Q q => h1 H1 r1 _ fun v d H2 r2 ed kd => by
  subst ed
  exact ⟨a, dp_bool kd, q _ _ H2 r2 rfl (.bl _)⟩
theorem evp_if {b : Bool} (h : EvT p t σ H b) (h1 : b = true → EvP K p ta σ H P) (h2 : b = false → EvP K p tb σ H P) : EvP K p (tIf t ta tb) σ H P := fun H1 r1 Q q => h H1 r1 _ fun H2 r2 => by
  cases b with
  | true =>
    show ta σ H2 Q
    exact h1 rfl H2 (r1.trans r2) Q fun v d H3 r3 => q v d H3 (r2.trans r3)
  | false =>
    show tb σ H2 Q
    exact h2 rfl H2 (r1.trans r2) Q fun v d H3 r3 => q v d H3 (r2.trans r3)
theorem ev_ifT (h : EvT p t σ H true) (h1 : EvP K p ta σ H P) : EvP K p (tIf t ta tb) σ H P := evp_if h (fun _ => h1) fun z => nomatch z
theorem ev_ifF (h : EvT p t σ H false) (h1 : EvP K p tb σ H P) : EvP K p (tIf t ta tb) σ H P := evp_if h (fun z => nomatch z) fun _ => h1
/-- i <= j <= k -/
theorem ev_chain {f g : Int → Int → Bool} {i j k : Int} (ha : EvD K p ta σ H (.int i)) (hb : EvD K p tb σ H (.int j)) (hc : EvD K p tc σ H (.int k)) :
    EvD K p (tChain (rI0 fun i j => .bl (f i j)) (rI0 fun i j => .bl (g i j)) ta tb tc) σ H (.bool (f i j && g j k)) := fun H1 r1 Q q =>
  ha H1 r1 _ fun x d H2 r2 ed kd => hb H2 (r1.trans r2) _ fun y e' H3 r3 ee ke => by
    subst ed ee
    refine ⟨i, j, dp_int kd, dp_int ke, _, rfl, ?_⟩
    cases hf : f i j with
    | false =>
      rw [hf] at q
      exact q _ _ H3 (r2.trans r3) rfl (.bl _)
    | true =>
      rw [hf] at q
      show tc σ H3 _
      refine hc H3 ((r1.trans r2).trans r3) _ fun z e2 H4 r4 e4 k4 => ?_
      subst e4
      exact ⟨j, k, dp_int ke, dp_int k4, q _ _ H4 ((r2.trans r3).trans r4) rfl (.bl _)⟩
/-! ### new things -/
theorem en_flat (h : EvD K p0 te σ H d) (f : flatD d = true) : EvN K te σ H d := fun H1 e1 Q q => h H1 (rl0 e1) Q fun v d' H2 r2 ed kd => by
  subst ed
  exact q v H2 r2.ex (dp_flat kd f)
theorem en_tup {ta : TA} {ds : List D} (h : EvA K p0 ta σ H ds) (f : ds.all flatD = true) (hl : ds.length ≤ 100000) : EvN K (tTup ta) σ H (.tuple ds) := fun H1 e1 Q q =>
  h H1 (rl0 e1) _ fun vs ds' H2 r2 ed kd => by
    subst ed
    refine ⟨Evl.sz_of (by rw [dpa_len kd]; exact hl), fun a ha => ?_⟩
    have ha1 : H1 a = none := Evl.fresh_back r2.ex ha
    exact q _ _ (Ex.trans r2.ex (Ex.new ha)) (.tup (SqT.of (nw_new ha1 upd_same)) (dpa_flat kd f))
theorem en_lst {ta : TA} {ds : List D} (h : EvA K p0 ta σ H ds) (f : ds.all flatD = true) (hl : ds.length ≤ 100000) : EvN K (tLst ta) σ H (.list ds) := fun H1 e1 Q q =>
  h H1 (rl0 e1) _ fun vs ds' H2 r2 ed kd => by
    subst ed
    refine ⟨Evl.sz_of (by rw [dpa_len kd]; exact hl), fun a ha => ?_⟩
    have ha1 : H1 a = none := Evl.fresh_back r2.ex ha
    exact q _ _ (Ex.trans r2.ex (Ex.new ha)) (.lst (SqL.of (nw_new ha1 upd_same)) (dpa_flat kd f))
/-! ### promises of data -/
/-- from the data ds to a datum d with R ds d, all of it new -/
def SpR (K : PySem.W.Frag) (R : List D → D → Prop) : Sp := fun vs H Q _ => ∃ ds d, DpAll K H vs ds ∧ R ds d ∧ ∀ v H', Ex H H' → Dp K (nw H H') v d → Q v H'
theorem ev_call {R : List D → D → Prop} {ds : List D} {E : XK} {ta : TA} (h : EvA K p ta σ H ds) (r : R ds d) : EvD K p (tCall (SpR K R) [] E ta) σ H d := fun H1 r1 Q q =>
  h H1 r1 _ fun vs ds' H2 r2 ed kd => by
    subst ed
    refine ⟨ds', d, ?_, r, fun v H' e' k => ?_⟩
    · rw [List.append_nil]
      exact dpa_ex vw_sub kd
    · have r3 : Rl p H2 H' := Rl.of r2.pi e'
      exact q v d H' (r2.trans r3) rfl (dp_ex (nw_vw r2.pi) k)
theorem en_call {R : List D → D → Prop} {ds : List D} {E : XK} {ta : TA} (h : EvA K p0 ta σ H ds) (r : R ds d) : EvN K (tCall (SpR K R) [] E ta) σ H d := fun H1 e1 Q q =>
  h H1 (rl0 e1) _ fun vs ds' H2 r2 ed kd => by
    subst ed
    refine ⟨ds', d, ?_, r, fun v H' e' k => ?_⟩
    · rw [List.append_nil]
      exact kd
    · exact q v H' (Ex.trans r2.ex e') (dp_ex (nw_mono r2.ex) k)
/-! ### statements -/
variable {F : Ends} {tu tw : TS} {g : TG}
theorem s_asgP {i : Nat} (h : EvP K p te σ H P) (pi : Wl p H) (k : ∀ v d H1, Rl p H H1 → P d → Dp K (vw p H1) v d → F.nx (σ.set i (some v)) H1) : tAsg te (gName i) F σ H := h H (Rl.refl pi) _ fun v d H1 r1 pd kd => k v d H1 r1 pd kd
theorem s_asg {i : Nat} (h : EvD K p te σ H d) (pi : Wl p H) (k : ∀ v H1, Rl p H H1 → Dp K (vw p H1) v d → F.nx (σ.set i (some v)) H1) : tAsg te (gName i) F σ H := h H (Rl.refl pi) _ fun v d' H1 r1 pd kd => by
  subst pd
  exact k v H1 r1 kd
theorem s_yes {b : Bool} (h : EvT p t σ H b) (hb : b = true) (pi : Wl p H) (k : ∀ H1, Rl p H H1 → tu F σ H1) : tIfS t tu tw F σ H := h H (Rl.refl pi) _ fun H1 r1 => by
  subst hb
  show tu F σ H1
  exact k H1 r1
theorem s_no {b : Bool} (h : EvT p t σ H b) (hb : b = false) (pi : Wl p H) (k : ∀ H1, Rl p H H1 → tw F σ H1) : tIfS t tu tw F σ H := h H (Rl.refl pi) _ fun H1 r1 => by
  subst hb
  show tw F σ H1
  exact k H1 r1
theorem s_if {b : Bool} (h : EvT p t σ H b) (pi : Wl p H) (h1 : b = true → ∀ H1, Rl p H H1 → tu F σ H1) (h2 : b = false → ∀ H1, Rl p H H1 → tw F σ H1) : tIfS t tu tw F σ H := h H (Rl.refl pi) _ fun H1 r1 => by
  cases b with
  | true =>
    show tu F σ H1
    exact h1 rfl H1 r1
  | false =>
    show tw F σ H1
    exact h2 rfl H1 r1
theorem s_ret {H0 : Hp} (h : EvN K te σ H d) (e : Ex H0 H) (q : ∀ v H', Ex H0 H' → Dp K (nw H0 H') v d → F.rt v H') : tRet te F σ H := h H (Ex.refl H) _ fun v H1 e1 k => q v H1 (Ex.trans e e1) (dp_ex (nw_mono e) k)
theorem s_retP (h : EvP K p te σ H P) (pi : Wl p H) (q : ∀ v d H', Rl p H H' → P d → Dp K (vw p H') v d → F.rt v H') : tRet te F σ H := h H (Rl.refl pi) _ q
theorem s_drop (h : EvD K p te σ H d) (pi : Wl p H) (k : ∀ H1, Rl p H H1 → F.nx σ H1) : tDrop te F σ H := h H (Rl.refl pi) _ fun v d' H1 r1 _ _ => k H1 r1
theorem s_aug {i : Nat} {f : Int → Int → Int} {C : Int → Int → Prop} {a b : Int} (hx : σ[i]? = some (some (.int a))) (h : EvD K p te σ H (.int b)) (hc : C a b) (pi : Wl p H) (k : ∀ H1, Rl p H H1 → F.nx (σ.set i (some (.int (f a b)))) H1) : tAug i te (rI C fun i j => .int (f i j)) F σ H :=
  ⟨.int a, hx, h H (Rl.refl pi) _ fun v d' H1 r1 ed kd => by
    subst ed
    exact ⟨a, b, rfl, dp_int kd, hc, k H1 r1⟩⟩
end
end Ky
set_option Elab.async false
set_option linter.all false
set_option maxRecDepth 100000
set_option maxHeartbeats 4000000
namespace PySem
open Sem (wp)
theorem ky_enumerate_new1 {v : Value} {o : Obj} {H : Heap → Prop} (B : Begins v o H) :
    Meets (Builtin.«enumerate.__new__» ⟨[.type "enumerate", v], []⟩) (fun _ R s => H s.heap ∧
      R (.ok (.ret (.ref (s.heap.push o).objs.size))) { s with heap := (s.heap.push o).push { cls := .type "enumerate", data := .fields #[.none, .bool false, .ref s.heap.objs.size, rawInt 0, .none, .none] } }) :=
  .of_wp fun prog w A R s h => by
    obtain ⟨hp, g, d, tk, os⟩ := s; obtain ⟨h1, h⟩ := h
    have hsub := sub_enumerate
    have q1 : ∀ {A' : Around} {E : Value → Shared → Prop} {Q : Value → Shared → Prop}, Q (.ref hp.objs.size) ⟨hp.push o, g, d, tk, os⟩ → wpAny (model prog w) A' (pyIter v) Q E ⟨hp, g, d, tk, os⟩ :=
      fun q => B.iter prog w _ _ ⟨hp, g, d, tk, os⟩ _ h1 q
    wp_walk using q1
    refine wpAny_stack_any fun st => wpAny_pure ?_
    split
    · rename_i c _ _ _ _ _
      cases (c == Value.type "enumerate")
      · wp_walk using q1
        exact ⟨_, rfl, h⟩
      · wp_walk using q1
        exact ⟨_, rfl, h⟩
    · wp_walk using q1
      exact ⟨_, rfl, h⟩
theorem ky_enum_begins {prog : Program} {w : World} {A : Around} {E : Value → Shared → Prop} {s : Shared} {v : Value} {o : Obj} {H : Heap → Prop} {Q : Value → Shared → Prop} (B : Begins v o H) (h1 : H s.heap)
    (h : ∀ h', IsEnum h' (s.heap.objs.size + 1) s.heap.objs.size 0 .none → h'.get? s.heap.objs.size = some o → h'.objs.size = s.heap.objs.size + 2 →
      (∀ b o, s.heap.get? b = some o → h'.get? b = some o) → Q (.ref (s.heap.objs.size + 1)) { s with heap := h' }) :
    wpAny (model prog w) A (call (.type "enumerate") [v]) Q E s := by
  refine callType_new F.called_enumerate (by decide) (F.typeCall_enumerate_1 _) (F.newCall_enumerate_1 _) (fun obj => F.args_object_init_2 obj _) F.entry_enumerate_new
    (ky_enumerate_new1 B) ⟨h1, ?_⟩
  have hz : (s.heap.push o).objs.size = s.heap.objs.size + 1 := Heap.size_push ..
  show _ ∧ _
  rw [hz]
  have he : IsEnum ((s.heap.push o).push { cls := .type "enumerate", data := .fields #[.none, .bool false, .ref s.heap.objs.size, rawInt 0, .none, .none] }) (s.heap.objs.size + 1) s.heap.objs.size 0 .none := by
    have := Heap.get?_push_size (s.heap.push o) (o := { cls := .type "enumerate", data := .fields #[.none, .bool false, .ref s.heap.objs.size, rawInt 0, .none, .none] }) rfl
    rw [hz] at this; exact this
  refine ⟨⟨_, he, rfl⟩, h _ he (Heap.get?_push_of_some _ (Heap.get?_push_size _ B.free)) (by rw [Heap.size_push, hz]) fun b o x => Heap.get?_push_of_some _ (Heap.get?_push_of_some _ x)⟩
end PySem
namespace Ky
open PySem PySem.Spec PyProof.Rows L2
/-- the tuple at a, each item in a new pair with its place -/
def IteT (K : PySem.W.Frag) (a : Addr) : It :=
  ⟨fun i H => ∃ (xs : List V) (x : V), SqT K H a xs ∧ xs[i]? = some x, fun i H v H' => ∃ T x, v = .ref T ∧ H T = none ∧ H' = upd H T (.tup [.int (i : Nat), x]) ∧ ∀ xs, SqT K H a xs → xs[i]? = some x, fun i H => ∃ xs : List V, SqT K H a xs ∧ xs.length = i⟩
theorem turn_enumT {P : Program} {w : World} {K : PySem.W.Frag} {elts : List Expr} {kk : Nat} {tpos : Pos} (a e it : Addr) :
    Turn P w K (.Tuple elts kk tpos) (IteT K a) [e, it] e (fun i h => (∃ old, IsEnum h e it ((i : Nat) : Int) old) ∧ h.IsTupleIter it a i ∧ e ≠ it ∧ a ≠ it ∧ a ≠ e) where
  mem := by simp
  obj := fun i h st b hb => by
    obtain ⟨⟨old, he⟩, ⟨o, ho, hc, hd⟩, _⟩ := st
    have e' : b = e ∨ b = it := by simpa using hb
    rcases e' with z | z
    · rw [z]; exact ⟨_, he, fun v q => nomatch q⟩
    · rw [z]; exact ⟨o, ho, fun v q => by rw [hd] at q; cases q⟩
  keep := fun i h h' st k => let ⟨⟨old, he⟩, hi, hne⟩ := st; ⟨⟨old, k e (by simp) _ he⟩, hi.at fun o q => k it (by simp) o q, hne⟩
  item := by
    intro X hP hw hK hc i pins s σ H E I hf st hg
    subst hP hw hK
    obtain ⟨⟨old, he⟩, hit, hne, hai, hae⟩ := st
    obtain ⟨xs, x, hq, hx⟩ := hg
    obtain ⟨its, rv, pt, hz⟩ := I.tuple hq
    have hlt : i < its.toArray.size := by
      have h1 := (List.getElem?_eq_some_iff.mp hx).1
      have h2 := rv.length
      rw [List.size_toArray]
      omega
    have hel : e < s.heap.objs.size := Heap.lt_size he
    have hil : it < s.heap.objs.size := by obtain ⟨_, q, _⟩ := hit; exact Heap.lt_size q
    have Dr := Draws.tuple (prog := X.prog) (w := X.w) (A := X.A.in1) (show X.A.in1.handled = none from I.ok.hd hc) it a hai its.toArray
    refine wpAny_pyNext_enum_itemC Dr he ⟨hit, pt⟩ hlt hne (by simp only [List.mem_cons, List.not_mem_nil, or_false, not_or]; exact ⟨hne, Ne.symm hae⟩) fun u h' tk hu ho hit' hT hsz hk => ?_
    obtain ⟨u0, hu0, ru0⟩ := rv.get hx
    have eu : u0 = u := by
      have z : its[i]? = some u := by simpa using hu
      rw [hu0] at z
      exact Option.some.inj z
    subst eu
    refine ⟨_, rfl, wpAny_letOwnedTupleGo_enum (s := { s with heap := h', toks := tk + 1 }) ho fun h'' he' sb => ?_⟩
    have hT2 : h''.get? s.heap.objs.size = some { cls := .type "tuple", data := .seq #[.int i tk, u0] } := (sb.2 _ (Nat.ne_of_gt hel)).trans hT
    have new : ObjOk X.prog X.w (upd H s.heap.objs.size (.tup [.int (i : Nat), x])) h'' s.heap.objs.size (.tup [.int (i : Nat), x]) :=
      ⟨by show 2 ≤ sizeLine; decide, [.int i tk, u0], .cons ⟨_, rfl⟩ (.cons ru0 .nil), ⟨_, hT2, rfl, _, rfl⟩⟩
    have I1 : Inv X pins σ (upd H s.heap.objs.size (.tup [.int (i : Nat), x])) { s with heap := h'', toks := tk + 1 } :=
      I.turnedNew (ch := [e, it]) (fun b ob hb q => (sb.2 b (fun z => hb (by simp [z]))).trans (hk b ob (fun z => hb (by simp [z])) (fun z => hb (by simp [z])) q)) hf (Nat.le_refl _) new
    refine ⟨.ref s.heap.objs.size, _, I1, rfl, ⟨_, x, rfl, I.hok.fresh (Nat.le_refl _), rfl, fun ys hy => by rw [I.tuple_inj hy hq]; exact hx⟩, ⟨⟨u0, ?_⟩, hit'.1.at fun o q => (sb.2 it (Ne.symm hne)).trans q, hne, hai, hae⟩, fun b hb => ?_⟩
    · have e1 : ((i + 1 : Nat) : Int) = (i : Int) + 1 := by omega
      rw [e1]; exact he'
    · have hb' : b < s.heap.objs.size := by
        have e' : b = e ∨ b = it := by simpa using hb
        rcases e' with z | z
        · rw [z]; exact hel
        · rw [z]; exact hil
      rw [upd_ne (Nat.ne_of_lt hb')]
      exact (hf b hb).1
  done := by
    intro X hP hw hK hc i pins s σ H E I hf st hg
    subst hP hw hK
    obtain ⟨⟨old, he⟩, hit, hne, hai, hae⟩ := st
    obtain ⟨xs, hq, hx⟩ := hg
    obtain ⟨its, rv, pt, hz⟩ := I.tuple hq
    obtain ⟨f0, f1, f2, f3, f4, f5⟩ := hf it (by simp)
    have hl := rv.length
    have Dr := Draws.tuple (prog := X.prog) (w := X.w) (A := X.A.in1) (show X.A.in1.handled = none from I.ok.hd hc) it a hai its.toArray
    have hsz : its.toArray.size = i := by rw [List.size_toArray]; omega
    exact wpAny_pyNext_enum_endD Dr he (by rw [hsz]; exact ⟨hit, pt⟩) fun h' eb => ⟨rfl, I.turned (t' := s.toks) (fun b o hb q => eb b o hb q) f0 f1 f3 f4 f5⟩
  self := fun A i s Q E st h => let ⟨⟨_, he⟩, _⟩ := st; wpAny_pyIter_enum he h
def iEnumT (K : PySem.W.Frag) (ta : TA) : TI := fun σ H R => ta σ H fun vs H1 => ∃ a xs, vs = [.ref a] ∧ SqT K H1 a xs ∧ R (IteT K a) H1
theorem pi_enumT {X : Cx} {e : Expr} {ta : TA} {p pos tpos : Pos} {elts : List Expr} {kk : Nat} (hg : Gl X "enumerate") (hm : X.mg "enumerate" = none) (ha : PA X [e] ta) (hs : starEach [e] X.env = [(false, eval e X.env)] := by rfl) :
    PI X (.Tuple elts kk tpos) (.Call (.Name "enumerate" p) [e] [] pos) (iEnumT X.K ta) := by
  refine ⟨fun pins s σ H R I h => ?_⟩
  refine Call_ (ld_blt I hg hm boot_enumerate (PyProof.Rows.callWith_type1 (thn (ha.run pos pins s σ H _ I h) fun us s1 ⟨vs, H1, I1, r1, q1⟩ => ?_) hs rfl))
  obtain ⟨a, xs, ex, hq, q⟩ := q1
  subst ex
  cases r1 with
  | cons r rr =>
    cases rr
    cases r
    obtain ⟨its, rv, pt, hz⟩ := I1.tuple hq
    have hal : a < s1.heap.objs.size := pt.lt
    refine ky_enum_begins (begins_tuple a its.toArray) (show s1.heap.IsTuple a its.toArray from pt) fun h' he hit hsz hk => wpAny_pyIter_enum he ?_
    have I2 : Inv X pins σ H1 { s1 with heap := h' } := I1.kept (t' := s1.toks) hk
    refine ⟨s1.heap.objs.size + 1, [s1.heap.objs.size + 1, s1.heap.objs.size], _, _, H1, rfl, I2, turn_enumT a (s1.heap.objs.size + 1) s1.heap.objs.size, ⟨⟨.none, he⟩, ⟨_, hit, rfl, rfl⟩, Nat.succ_ne_self _, Nat.ne_of_lt hal, Nat.ne_of_lt (Nat.lt_succ_of_lt hal)⟩, fun b hb => ?_, q⟩
    have e' : b = s1.heap.objs.size + 1 ∨ b = s1.heap.objs.size := by simpa using hb
    have hle : s1.heap.objs.size ≤ b := by
      rcases e' with z | z
      · rw [z]; exact Nat.le_add_right _ _
      · rw [z]; exact Nat.le_refl _
    exact I1.fpOk hle (I1.hok.fresh hle)
end Ky
set_option Elab.async false
set_option linter.all false
set_option maxRecDepth 100000
set_option maxHeartbeats 4000000
namespace Ky
open PySem PySem.Spec PyProof.Rows L2
section
variable {K : PySem.W.Frag} {p : Pw} {σ : L2.St} {H H' : Hp} {ta tb tc te tl : TE} {t u : TT} {d e : D} {P P' A B : D → Prop} {F : Ends} {tu tw : TS} {g : TG}
theorem sqt_rl {a : Addr} {xs : List V} (r : Rl p H H') (h : SqT K (vw p H) a xs) : SqT K H' a xs := Evl.ex_t vw_sub (Evl.ex_t r.ex h)
theorem sql_rl {a : Addr} {xs : List V} (r : Rl p H H') (h : SqL K (vw p H) a xs) : SqL K H' a xs := Evl.ex_l vw_sub (Evl.ex_l r.ex h)
/-- what a turn is to reach -/
abbrev nxt (F : Ends) (p : Pw) (H1 : Hp) (Pv : L2.St → Hp → Prop) : Ends := { F with nx := fun σ3 H3 => Rl p H1 H3 ∧ Pv σ3 H3, ct := fun σ3 H3 => Rl p H1 H3 ∧ Pv σ3 H3, bk := F.nx }
/-- over a tuple -/
theorem s_forT {ds : List D} (h : EvD K p tl σ H (.tuple ds)) (pi : Wl p H) (Pv : Nat → L2.St → Hp → Prop) (h0 : ∀ H1, Rl p H H1 → Pv 0 σ H1)
    (hs : ∀ H1, Rl p H H1 → ∀ (i : Nat) (x : V) (d : D) (σ' : L2.St) (H' : Hp), ds[i]? = some d → Dp K (vw p H') x d → Rl p H1 H' → Pv i σ' H' → g x σ' H' fun σ2 H2 => tu (nxt F p H1 (Pv (i + 1))) σ2 H2)
    (hd : ∀ σ' H', Rl p H H' → Pv ds.length σ' H' → F.nx σ' H') : tFor (iTup K tl) g tu F σ H :=
  h H (Rl.refl pi) _ fun x d H1 r1 ed kd => by
    subst ed
    cases kd with
    | @tup a xs _ hsq hv =>
      refine ⟨a, rfl, ⟨xs, Evl.ex_t vw_sub hsq⟩, ?_⟩
      refine for_tup (xs := xs) (fun i σ' H' => Rl p H1 H' ∧ Pv i σ' H') ⟨Rl.refl r1.pi, h0 H1 r1⟩ (fun i σ' H' _ q => sqt_rl q.1 hsq) ?_ ?_
      · rintro i x σ' H' hx ⟨r2, pv⟩
        obtain ⟨d, hd1, kd⟩ := dpa_getv hv hx
        exact hs H1 r1 i x d σ' H' hd1 (dp_ex r2.ex kd) r2 pv
      · rintro σ' H' ⟨r2, pv⟩
        rw [dpa_len hv] at pv
        exact hd σ' H' (r1.trans r2) pv
/-- over a list that stays as it is -/
theorem s_forL {ds : List D} (h : EvD K p tl σ H (.list ds)) (pi : Wl p H) (Pv : Nat → L2.St → Hp → Prop) (h0 : ∀ H1, Rl p H H1 → Pv 0 σ H1)
    (hs : ∀ H1, Rl p H H1 → ∀ (i : Nat) (x : V) (d : D) (σ' : L2.St) (H' : Hp), ds[i]? = some d → Dp K (vw p H') x d → Rl p H1 H' → Pv i σ' H' → g x σ' H' fun σ2 H2 => tu (nxt F p H1 (Pv (i + 1))) σ2 H2)
    (hd : ∀ σ' H', Rl p H H' → Pv ds.length σ' H' → F.nx σ' H') : tFor (iList K tl) g tu F σ H :=
  h H (Rl.refl pi) _ fun x d H1 r1 ed kd => by
    subst ed
    cases kd with
    | @lst a xs _ hsq hv =>
      refine ⟨a, rfl, ⟨xs, Evl.ex_l vw_sub hsq⟩, ?_⟩
      refine for_list (xs := xs) (fun i σ' H' => Rl p H1 H' ∧ Pv i σ' H') ⟨Rl.refl r1.pi, h0 H1 r1⟩ (fun i σ' H' _ q => sql_rl q.1 hsq) ?_ ?_
      · rintro i x σ' H' hx ⟨r2, pv⟩
        obtain ⟨d, hd1, kd⟩ := dpa_getv hv hx
        exact hs H1 r1 i x d σ' H' hd1 (dp_ex r2.ex kd) r2 pv
      · rintro σ' H' ⟨r2, pv⟩
        rw [dpa_len hv] at pv
        exact hd σ' H' (r1.trans r2) pv
/-- over range(n) -/
theorem s_forR {n : Int} {j : Nat} (h : EvD K p te σ H (.int n)) (hn : n < 2 ^ 62) (h1 : -(2 ^ 62) ≤ n) (pi : Wl p H) (Pv : Nat → L2.St → Hp → Prop) (h0 : ∀ H1, Rl p H H1 → Pv 0 σ H1)
    (hs : ∀ H1, Rl p H H1 → ∀ (i : Nat) (σ' : L2.St) (H' : Hp), (i : Int) < n → Rl p H1 H' → Pv i σ' H' → tu (nxt F p H1 (Pv (i + 1))) (σ'.set j (some (.int (i : Int)))) H')
    (hd : ∀ σ' H', Rl p H H' → Pv n.toNat σ' H' → F.nx σ' H') : tFor (iRng1 (tCons te tNil)) (gName j) tu F σ H :=
  h H (Rl.refl pi) _ fun x d H1 r1 ed kd => by
    subst ed
    refine ⟨n, by rw [dp_int kd], h1, hn, ?_⟩
    refine for_range (lo := 0) (n := n.toNat) (fun i σ' H' => Rl p H1 H' ∧ Pv i σ' H') ⟨Rl.refl r1.pi, h0 H1 r1⟩ ?_ ?_
    · rintro i σ' H' hi ⟨r2, pv⟩
      have e0 : (0 : Int) + (i : Int) = (i : Int) := Int.zero_add _
      show tu (nxt F p H1 (Pv (i + 1))) (σ'.set j (some (.int ((0 : Int) + (i : Int))))) H'
      rw [e0]
      exact hs H1 r1 i σ' H' (by omega) r2 pv
    · rintro σ' H' ⟨r2, pv⟩
      exact hd σ' H' (r1.trans r2) pv
/-- a, b = a pair -/
theorem g_pair {ji jx : Nat} {T : Addr} {x y : V} {Q : L2.St → Hp → Prop} (hT : H T = some (.tup [x, y])) (q : Q ((σ.set ji (some x)).set jx (some y)) H) :
    gTup K 2 (gCons (gName ji) (gCons (gName jx) gNil)) (.ref T) σ H Q :=
  ⟨T, [x, y], rfl, SqT.of hT, rfl, _, _, rfl, _, _, rfl, rfl, q⟩
/-- for i, x in enumerate(t) -/
theorem s_forE {ds : List D} {ji jx : Nat} (h : EvD K p tl σ H (.tuple ds)) (pi : Wl p H) (Pv : Nat → L2.St → Hp → Prop) (h0 : ∀ H1, Rl p H H1 → Pv 0 σ H1)
    (hs : ∀ H1, Rl p H H1 → ∀ (i : Nat) (x : V) (d : D) (σ' : L2.St) (H' H2 : Hp), ds[i]? = some d → Rl p H1 H' → Pv i σ' H' → Rl p H' H2 → Dp K (vw p H2) x d → tu (nxt F p H1 (Pv (i + 1))) ((σ'.set ji (some (.int (i : Int)))).set jx (some x)) H2)
    (hd : ∀ σ' H', Rl p H H' → Pv ds.length σ' H' → F.nx σ' H') : tFor (iEnumT K (tCons tl tNil)) (gTup K 2 (gCons (gName ji) (gCons (gName jx) gNil))) tu F σ H :=
  h H (Rl.refl pi) _ fun x d H1 r1 ed kd => by
    subst ed
    cases kd with
    | @tup a xs _ hsq hv =>
      refine ⟨a, xs, rfl, Evl.ex_t vw_sub hsq, ?_⟩
      refine ⟨fun i m σ' H' => m = xs.length - i ∧ i ≤ xs.length ∧ Rl p H1 H' ∧ Pv i σ' H', ⟨xs.length, rfl, Nat.zero_le _, Rl.refl r1.pi, h0 H1 r1⟩, ?_⟩
      rintro i m σ' H' ⟨rfl, hi, r2, pv⟩
      have hq : SqT K H' a xs := sqt_rl r2 hsq
      by_cases hlt : i < xs.length
      · refine .inr ⟨⟨xs, xs[i], hq, List.getElem?_eq_getElem hlt⟩, fun σ3 H3 => Rl p H1 H3 ∧ Pv (i + 1) σ3 H3, fun σ3 H3 q => ⟨xs.length - (i + 1), by omega, rfl, hlt, q.1, q.2⟩, fun v H2 y => ?_⟩
        obtain ⟨T, x, rfl, hT, rfl, f⟩ := y
        obtain ⟨d, hd1, kd⟩ := dpa_getv hv (f xs hq)
        have rn : Rl p H' (upd H' T (.tup [.int (i : Nat), x])) := Rl.new r2.pi hT
        exact g_pair upd_same (hs H1 r1 i x d σ' H' _ hd1 r2 pv rn (dp_ex (r2.trans rn).ex kd))
      · have e : i = xs.length := by omega
        subst e
        rw [dpa_len hv] at pv
        exact .inl ⟨⟨xs, hq, rfl⟩, hd σ' H' (r1.trans r2) pv⟩
/-- for x, y in zip(t, u), two tuples of one length -/
theorem s_forZ {ds es : List D} {ta tb : TE} {ji jx : Nat} (h : EvD K p ta σ H (.tuple ds)) (h' : EvD K p tb σ H (.tuple es)) (hl : ds.length = es.length) (pi : Wl p H) (Pv : Nat → L2.St → Hp → Prop) (h0 : ∀ H1, Rl p H H1 → Pv 0 σ H1)
    (hs : ∀ H1, Rl p H H1 → ∀ (i : Nat) (x y : V) (d e : D) (σ' : L2.St) (H' H2 : Hp), ds[i]? = some d → es[i]? = some e → Rl p H1 H' → Pv i σ' H' → Rl p H' H2 → Dp K (vw p H2) x d → Dp K (vw p H2) y e → tu (nxt F p H1 (Pv (i + 1))) ((σ'.set ji (some x)).set jx (some y)) H2)
    (hd : ∀ σ' H', Rl p H H' → Pv ds.length σ' H' → F.nx σ' H') : tFor (RZ.iZipA K (tCons ta (tCons tb tNil))) (gTup K 2 (gCons (gName ji) (gCons (gName jx) gNil))) tu F σ H :=
  h H (Rl.refl pi) _ fun x d H1 r1 ed kd => h' H1 r1 _ fun y e H2 r2 ee ke => by
    subst ed ee
    cases kd with
    | @tup a xs _ hsq hv =>
      cases ke with
      | @tup b ys _ hsq2 hv2 =>
        have hq0 : SqT K (vw p H2) a xs := Evl.ex_t r2.ex hsq
        refine ⟨a, b, xs, ys, rfl, .inr ⟨Evl.ex_t vw_sub hq0, Evl.ex_t vw_sub hsq2, ?_⟩⟩
        have hll : xs.length = ys.length := by rw [dpa_len hv, dpa_len hv2]; exact hl
        refine RZ.for_zipT hll (fun i σ' H' => Rl p H2 H' ∧ Pv i σ' H') ⟨Rl.refl r2.pi, h0 H2 (r1.trans r2)⟩ (fun i σ' H' q => ⟨sqt_rl q.1 hq0, sqt_rl q.1 hsq2⟩) ?_ ?_
        · rintro i x y T σ' H' hx hy ⟨r3, pv⟩ hT
          obtain ⟨d, hd1, kd⟩ := dpa_getv hv hx
          obtain ⟨e, he1, ke⟩ := dpa_getv hv2 hy
          have rn : Rl p H' (upd H' T (.tup [x, y])) := Rl.new r3.pi hT
          exact g_pair upd_same (hs H2 (r1.trans r2) i x y d e σ' H' _ hd1 he1 r3 pv rn (dp_ex ((r2.trans r3).trans rn).ex kd) (dp_ex (r3.trans rn).ex ke))
        · rintro σ' H' ⟨r3, pv⟩
          rw [dpa_len hv] at pv
          exact hd σ' H' ((r1.trans r2).trans r3) pv
/-- a, b = e; a, b, c, d = e -/
theorem s_two {d1 d2 : D} {i j : Nat} (h : EvD K p te σ H (.tuple [d1, d2])) (pi : Wl p H) (k : ∀ x y H1, Rl p H H1 → Dp K (vw p H1) x d1 → Dp K (vw p H1) y d2 → F.nx ((σ.set i (some x)).set j (some y)) H1) :
    tAsg te (gTup K 2 (gCons (gName i) (gCons (gName j) gNil))) F σ H := h H (Rl.refl pi) _ fun v d H1 r1 ed kd => by
  subst ed
  cases kd with
  | @tup a xs _ hsq hv =>
    cases hv with
    | cons k1 hv =>
      cases hv with
      | cons k2 hv =>
        cases hv
        exact ⟨a, _, rfl, Evl.ex_t vw_sub hsq, rfl, _, _, rfl, _, _, rfl, rfl, k _ _ H1 r1 k1 k2⟩
theorem s_four {d1 d2 d3 d4 : D} {i j l m : Nat} (h : EvD K p te σ H (.tuple [d1, d2, d3, d4])) (pi : Wl p H)
    (k : ∀ x y z w H1, Rl p H H1 → Dp K (vw p H1) x d1 → Dp K (vw p H1) y d2 → Dp K (vw p H1) z d3 → Dp K (vw p H1) w d4 → F.nx ((((σ.set i (some x)).set j (some y)).set l (some z)).set m (some w)) H1) :
    tAsg te (gTup K 4 (gCons (gName i) (gCons (gName j) (gCons (gName l) (gCons (gName m) gNil))))) F σ H := h H (Rl.refl pi) _ fun v d H1 r1 ed kd => by
  subst ed
  cases kd with
  | @tup a xs _ hsq hv =>
    cases hv with
    | cons k1 hv =>
      cases hv with
      | cons k2 hv =>
        cases hv with
        | cons k3 hv =>
          cases hv with
          | cons k4 hv =>
            cases hv
            exact ⟨a, _, rfl, Evl.ex_t vw_sub hsq, rfl, _, _, rfl, _, _, rfl, _, _, rfl, _, _, rfl, rfl, k _ _ _ _ H1 r1 k1 k2 k3 k4⟩
/-! ### lists that are being made -/
theorem wl_hide {a : Addr} {o : HO} (h : Wl p H) (e : H a = some o) : Wl (p.hide a) H := ⟨h.po, h.mt, fun b hb => by
  rcases List.mem_cons.mp hb with z | z
  · subst z; exact ⟨o, e⟩
  · exact h.hd b z⟩
theorem wl_mut {a : Addr} {o : HO} (h : Wl p H) (e : H a = some o) : Wl (p.mut a) H := ⟨h.po, fun b hb => by
  rcases List.mem_cons.mp hb with z | z
  · subst z; exact ⟨o, e⟩
  · exact h.mt b z, h.hd⟩
theorem wl_show {a : Addr} (h : Wl (p.hide a) H) : Wl p H := ⟨h.po, h.mt, fun b hb => h.hd b (List.mem_cons_of_mem _ hb)⟩
theorem wl_unmut {a : Addr} (h : Wl (p.mut a) H) : Wl p H := ⟨h.po, fun b hb => h.mt b (List.mem_cons_of_mem _ hb), h.hd⟩
theorem opl_mut {a b : Addr} : b ∈ opl (p.mut a) ↔ b = a ∨ b ∈ opl p := by
  obtain ⟨pl, mt, hd⟩ := p
  cases pl with
  | none => exact List.mem_cons
  | some q =>
    show b ∈ q.1 :: a :: mt ↔ b = a ∨ b ∈ q.1 :: mt
    simp only [List.mem_cons]
    constructor
    · rintro (h | h | h)
      · exact .inr (.inl h)
      · exact .inl h
      · exact .inr (.inr h)
    · rintro (h | h | h)
      · exact .inr (.inl h)
      · exact .inl h
      · exact .inr (.inr h)
theorem vwl_some {l : List Addr} {b : Addr} {o : HO} (h : vwl l H b = some o) : b ∉ l ∧ H b = some o := by
  by_cases q : b ∈ l
  · rw [vwl_out q] at h; cases h
  · rw [vwl_in q] at h; exact ⟨q, h⟩
theorem ew_some {b : Addr} {o : HO} (h : ew p H b = some o) : b ∉ opl p ∧ H b = some o := vwl_some h
theorem vw_some {b : Addr} {o : HO} (h : vw p H b = some o) : (b ∉ opl p ∧ b ∉ p.hd) ∧ H b = some o := by
  obtain ⟨h1, h2⟩ := vwl_some h
  obtain ⟨h3, h4⟩ := ew_some h2
  exact ⟨⟨h3, h1⟩, h4⟩
theorem ew_of {b : Addr} {o : HO} (q : b ∉ opl p) (h : H b = some o) : ew p H b = some o := (vwl_in q).trans h
theorem vw_of {b : Addr} {o : HO} (q : b ∉ opl p ∧ b ∉ p.hd) (h : H b = some o) : vw p H b = some o := (vw_get q).trans h
theorem vw_hide {a : Addr} : Ex (vw (p.hide a) H) (vw p H) := fun b o h => by
  obtain ⟨⟨q1, q2⟩, q3⟩ := vw_some h
  exact vw_of ⟨q1, fun z => q2 (List.mem_cons_of_mem _ z)⟩ q3
theorem vw_unmut {a : Addr} : Ex (vw (p.mut a) H) (vw p H) := fun b o h => by
  obtain ⟨⟨q1, q2⟩, q3⟩ := vw_some h
  exact vw_of ⟨fun z => q1 (opl_mut.mpr (.inr z)), q2⟩ q3
theorem vw_m2h {a : Addr} : Ex (vw (p.mut a) H) (vw (p.hide a) H) := fun b o h => by
  obtain ⟨⟨q1, q2⟩, q3⟩ := vw_some h
  refine vw_of ⟨fun z => q1 (opl_mut.mpr (.inr z)), fun z => ?_⟩ q3
  rcases List.mem_cons.mp z with e | e
  · exact q1 (opl_mut.mpr (.inl e))
  · exact q2 e
theorem vw_h2m {a : Addr} : Ex (vw (p.hide a) H) (vw (p.mut a) H) := fun b o h => by
  obtain ⟨⟨q1, q2⟩, q3⟩ := vw_some h
  refine vw_of ⟨fun z => ?_, fun z => q2 (List.mem_cons_of_mem _ z)⟩ q3
  rcases opl_mut.mp z with e | e
  · exact q2 (by rw [e]; exact List.mem_cons_self)
  · exact q1 e
/-- what was told ahead of the new list is told without it too -/
theorem vw_behind {a : Addr} (hn : H a = none) (r : Ex (vw p H) (vw p H')) : Ex (vw p H) (vw (p.mut a) H') := fun b u h => by
  have hb : b ≠ a := fun q => by
    rw [q, vw_free hn] at h
    cases h
  obtain ⟨⟨q1, q2⟩, q3⟩ := vw_some (r b u h)
  refine vw_of ⟨fun z => ?_, q2⟩ q3
  rcases opl_mut.mp z with e | e
  · exact hb e
  · exact q1 e
theorem rl_show {a : Addr} (r : Rl (p.hide a) H H') : Rl p H H' := ⟨r.exw, wl_show r.pi⟩
theorem rl_h2m {a : Addr} (r : Rl (p.hide a) H H') : Rl (p.mut a) H H' := by
  obtain ⟨o, ho⟩ := r.pi.hd a List.mem_cons_self
  refine ⟨fun b u h => ?_, wl_mut (wl_show r.pi) ho⟩
  obtain ⟨q1, q2⟩ := ew_some h
  have q3 : b ∉ opl p := fun z => q1 (opl_mut.mpr (.inr z))
  exact ew_of q1 (ew_some (r.exw b u (ew_of q3 q2))).2
theorem rl_mut {a : Addr} {o : HO} (r : Rl p H H') (h : H' a = some o) : Rl (p.mut a) H H' := by
  refine ⟨fun b u h => ?_, wl_mut r.pi h⟩
  obtain ⟨q1, q2⟩ := ew_some h
  have q3 : b ∉ opl p := fun z => q1 (opl_mut.mpr (.inr z))
  exact ew_of q1 (ew_some (r.exw b u (ew_of q3 q2))).2
/-- from ahead of the list's making -/
theorem rl_unmut {a : Addr} (hn : H a = none) (r : Rl (p.mut a) H H') : Rl p H H' := ⟨fun b u h => by
  obtain ⟨q1, q2⟩ := ew_some h
  have hb : b ≠ a := fun q => by
    rw [q, hn] at q2
    cases q2
  have q3 : b ∉ opl (p.mut a) := fun z => (opl_mut.mp z).elim hb q1
  exact ew_of q1 (ew_some (r.exw b u (ew_of q3 q2))).2, wl_unmut r.pi⟩
/-- the list at a is written: it is none of the pool's -/
theorem rl_write {a : Addr} {o o' : HO} (h : Wl (p.mut a) H) (e : H a = some o) (ha : ∀ q, p.pl = some q → a ≠ q.1 ∧ a ≠ q.2.1 ∧ a ≠ q.2.2) : Rl (p.mut a) H (upd H a o') := by
  refine ⟨fun b u hb => ?_, ?_, fun b hb => ?_, fun b hb => ?_⟩
  · obtain ⟨q1, q2⟩ := ew_some hb
    have hn : b ≠ a := fun q => q1 (opl_mut.mpr (.inl q))
    exact ew_of q1 (by rw [upd_ne hn]; exact q2)
  · have hp := h.po
    obtain ⟨pl, mt, hd⟩ := p
    cases pl with
    | none => trivial
    | some q =>
      obtain ⟨n1, n2, n3⟩ := ha q rfl
      obtain ⟨s0, s1, s2, s5, cs, bs, e1, e2, e3, r⟩ := PoolAt.ex hp
      exact ⟨s0, s1, s2, s5, cs, bs, by rw [upd_ne (Ne.symm n1)]; exact e1, by rw [upd_ne (Ne.symm n2)]; exact e2, by rw [upd_ne (Ne.symm n3)]; exact e3, r⟩
  · by_cases q : b = a
    · exact ⟨o', by rw [q]; exact upd_same⟩
    · obtain ⟨u, hu⟩ := h.mt b hb
      exact ⟨u, by rw [upd_ne q]; exact hu⟩
  · by_cases q : b = a
    · exact ⟨o', by rw [q]; exact upd_same⟩
    · obtain ⟨u, hu⟩ := h.hd b hb
      exact ⟨u, by rw [upd_ne q]; exact hu⟩
/-- a place that was free is none of the pool's -/
theorem pool_ne {a : Addr} (h : Wl p H) (hn : H a = none) : ∀ q, p.pl = some q → a ≠ q.1 ∧ a ≠ q.2.1 ∧ a ≠ q.2.2 := fun q e => by
  have hp := h.po
  rw [e] at hp
  obtain ⟨s0, s1, s2, s5, cs, bs, e1, e2, e3, r⟩ := PoolAt.ex hp
  refine ⟨fun z => ?_, fun z => ?_, fun z => ?_⟩
  · rw [z, e1] at hn; cases hn
  · rw [z, e2] at hn; cases hn
  · rw [z, e3] at hn; cases hn
/-! ### comprehensions: Acc tells the list so far, behind i turns -/
/-- the state between two turns; H1: ahead of the list's making -/
def LcInv (K : PySem.W.Frag) (p : Pw) (a : Addr) (H1 : Hp) (Acc : Nat → List D → Prop) (i : Nat) (H' : Hp) : Prop :=
  Rl (p.mut a) H1 H' ∧ ∃ xs acc, H' a = some (.lst xs) ∧ xs.length ≤ i ∧ DpAll K (vw (p.mut a) H') xs acc ∧ Acc i acc
/-- what a turn is to be, for every view p' that hides the list -/
def LcTurn (K : PySem.W.Frag) (p : Pw) (tt : TT) (te : TE) (σ2 : L2.St) (H : Hp) (x : V) (d : D) (Acc : Nat → List D → Prop) (i : Nat) : Prop :=
  ∀ (p' : Pw) (H' : Hp), p'.pl = p.pl → Wl p' H' → Ex (vw p H) (vw p' H') → Dp K (vw p' H') x d → ∀ acc, Acc i acc →
    ∃ b, EvT p' tt σ2 H' b ∧ (b = true → ∃ P : D → Prop, EvP K p' te σ2 H' P ∧ ∀ e, P e → Acc (i + 1) (acc ++ [e])) ∧ (b = false → Acc (i + 1) acc)
theorem lc_turn {a : Addr} {H1 : Hp} {Acc : Nat → List D → Prop} {i : Nat} {σ2 : L2.St} {x : V} {d : D} (r1 : Rl p H H1) (hn : H1 a = none) (hi : i < 100000) (inv : LcInv K p a H1 Acc i H') (kx : Dp K (vw p H') x d → False ∨ True)
    (kd : Dp K (vw (p.mut a) H') x d) (ht : LcTurn K p t te σ2 H x d Acc i) :
    t σ2 H' fun b H3 => if b = true then te σ2 H3 fun y H4 => ∃ acc, H4 a = some (.lst acc) ∧ acc.length < sizeLine ∧ LcInv K p a H1 Acc (i + 1) (upd H4 a (.lst (acc ++ [y]))) else LcInv K p a H1 Acc (i + 1) H3 := by
  obtain ⟨r2, xs, acc, e1, l1, k1, a1⟩ := inv
  have w2 : Wl (p.hide a) H' := wl_hide (wl_unmut r2.pi) e1
  have up : Ex (vw p H) (vw (p.hide a) H') := Ex.trans r1.ex (Ex.trans (vw_behind hn (rl_unmut hn r2).ex) vw_m2h)
  obtain ⟨b, h1, h2, h3⟩ := ht (p.hide a) H' rfl w2 up (dp_ex vw_m2h kd) acc a1
  refine h1 H' (Rl.refl w2) _ fun H3 r3 => ?_
  have na : a ∉ opl p := (vw_at r1.pi hn).1
  have r13 : Rl (p.mut a) H1 H3 := r2.trans (rl_h2m r3)
  have e3 : H3 a = some (.lst xs) := r3.keep e1 na
  cases b with
  | false =>
    rw [if_neg Bool.false_ne_true]
    exact ⟨r13, xs, acc, e3, Nat.le_succ_of_le l1, dpa_ex (rl_h2m r3).ex k1, h3 rfl⟩
  | true =>
    rw [if_pos rfl]
    obtain ⟨P, hP, hA⟩ := h2 rfl
    refine hP H3 r3 _ fun y e H4 r4 pe ke => ?_
    have e4 : H4 a = some (.lst xs) := r4.keep e3 na
    have r14 : Rl (p.mut a) H1 H4 := r13.trans (rl_h2m r4)
    have rw4 : Rl (p.mut a) H4 (upd H4 a (.lst (xs ++ [y]))) := rl_write r14.pi e4 (pool_ne r1.pi hn)
    refine ⟨xs, e4, Evl.sz_lt (by omega), r14.trans rw4, xs ++ [y], acc ++ [e], upd_same, ?_, ?_, hA e pe⟩
    · rw [List.length_append]
      show xs.length + 1 ≤ i + 1
      omega
    · refine dpa_append (dpa_ex (((rl_h2m r3).trans (rl_h2m r4)).trans rw4).ex k1) (.cons ?_ .nil)
      exact dp_ex rw4.ex (dp_ex vw_h2m ke)
theorem lc_done {a : Addr} {H1 : Hp} {Acc : Nat → List D → Prop} {n : Nat} {Q : VK} (r1 : Rl p H H1) (hn : H1 a = none) (inv : LcInv K p a H1 Acc n H')
    (q : ∀ v d H2, Rl p H1 H2 → (∃ es, d = .list es ∧ Acc n es) → Dp K (vw p H2) v d → Q v H2) : Q (.ref a) H' := by
  obtain ⟨r2, xs, acc, e1, l1, k1, a1⟩ := inv
  exact q _ _ H' (rl_unmut hn r2) ⟨acc, rfl, a1⟩ (.lst (SqL.of (vw_of (vw_at r1.pi hn) e1)) (dpa_ex vw_unmut k1))
theorem lc_start {a : Addr} {H1 : Hp} {Acc : Nat → List D → Prop} (h : Wl p H1) (hn : H1 a = none) (a0 : Acc 0 []) : LcInv K p a H1 Acc 0 (upd H1 a (.lst [])) :=
  ⟨rl_mut (Rl.new h hn) upd_same, [], [], upd_same, Nat.le_refl _, .nil, a0⟩
theorem evp_lcT {ds : List D} {j : Nat} {vs : List Nat} (Acc : Nat → List D → Prop) (h : EvD K p tl σ H (.tuple ds)) (hl : ds.length ≤ 100000) (hw : ∀ x, wipe ((wipe σ vs).set j (some x)) vs = wipe σ vs) (a0 : Acc 0 [])
    (hs : ∀ H0, Rl p H H0 → ∀ i x d, ds[i]? = some d → LcTurn K p t te ((wipe σ vs).set j (some x)) H0 x d Acc i) : EvP K p (tLc (iTup K tl) (gName j) t te vs) σ H fun d => ∃ es, d = .list es ∧ Acc ds.length es := fun H0 r0 Q q =>
  h H0 r0 _ fun x d H1 r1 ed kd => by
    subst ed
    cases kd with
    | @tup a xs _ hsq hv =>
      have hlen := dpa_len hv
      refine ⟨a, rfl, ⟨xs, Evl.ex_t vw_sub hsq⟩, fun Dl hD => ?_⟩
      refine lc_tup (xs := xs) (fun i H' => LcInv K p Dl H1 Acc i H') (lc_start r1.pi hD a0) (fun i H' _ inv => sqt_rl (rl_unmut hD inv.1) hsq) (fun i x H' hx inv => ?_) (fun H' inv => ?_)
      · obtain ⟨d, hd1, kd⟩ := dpa_getv hv hx
        have hi : i < xs.length := (List.getElem?_eq_some_iff.mp hx).1
        exact ⟨hw x, lc_turn (Rl.refl r1.pi) hD (by omega) inv (fun _ => .inr trivial) (dp_ex (vw_behind hD (rl_unmut hD inv.1).ex) kd) (hs H1 (r0.trans r1) i x d hd1)⟩
      · rw [hlen] at inv
        exact lc_done (Rl.refl r1.pi) hD inv fun v d H2 r2 pd k => q v d H2 (r1.trans r2) pd k
theorem evp_lcL {ds : List D} {j : Nat} {vs : List Nat} (Acc : Nat → List D → Prop) (h : EvD K p tl σ H (.list ds)) (hl : ds.length ≤ 100000) (hw : ∀ x, wipe ((wipe σ vs).set j (some x)) vs = wipe σ vs) (a0 : Acc 0 [])
    (hs : ∀ H0, Rl p H H0 → ∀ i x d, ds[i]? = some d → LcTurn K p t te ((wipe σ vs).set j (some x)) H0 x d Acc i) : EvP K p (tLc (iList K tl) (gName j) t te vs) σ H fun d => ∃ es, d = .list es ∧ Acc ds.length es := fun H0 r0 Q q =>
  h H0 r0 _ fun x d H1 r1 ed kd => by
    subst ed
    cases kd with
    | @lst a xs _ hsq hv =>
      have hlen := dpa_len hv
      refine ⟨a, rfl, ⟨xs, Evl.ex_l vw_sub hsq⟩, fun Dl hD => ?_⟩
      refine lc_list (xs := xs) (fun i H' => LcInv K p Dl H1 Acc i H') (lc_start r1.pi hD a0) (fun i H' _ inv => sql_rl (rl_unmut hD inv.1) hsq) (fun i x H' hx inv => ?_) (fun H' inv => ?_)
      · obtain ⟨d, hd1, kd⟩ := dpa_getv hv hx
        have hi : i < xs.length := (List.getElem?_eq_some_iff.mp hx).1
        exact ⟨hw x, lc_turn (Rl.refl r1.pi) hD (by omega) inv (fun _ => .inr trivial) (dp_ex (vw_behind hD (rl_unmut hD inv.1).ex) kd) (hs H1 (r0.trans r1) i x d hd1)⟩
      · rw [hlen] at inv
        exact lc_done (Rl.refl r1.pi) hD inv fun v d H2 r2 pd k => q v d H2 (r1.trans r2) pd k
theorem evp_lcR {n : Int} {j : Nat} {vs : List Nat} (Acc : Nat → List D → Prop) (h : EvD K p tl σ H (.int n)) (hl : n ≤ 100000) (hl0 : 0 ≤ n) (hw : ∀ x, wipe ((wipe σ vs).set j (some x)) vs = wipe σ vs) (a0 : Acc 0 [])
    (hs : ∀ H0, Rl p H H0 → ∀ i : Nat, (i : Int) < n → LcTurn K p t te ((wipe σ vs).set j (some (.int (i : Int)))) H0 (.int (i : Int)) (.int (i : Int)) Acc i) : EvP K p (tLc (iRng1 (tCons tl tNil)) (gName j) t te vs) σ H fun d => ∃ es, d = .list es ∧ Acc n.toNat es := fun H0 r0 Q q =>
  h H0 r0 _ fun x d H1 r1 ed kd => by
    subst ed
    refine ⟨n, by rw [dp_int kd], by omega, by omega, fun Dl hD => ?_⟩
    refine lc_range (lo := 0) (n := n.toNat) (fun i H' => LcInv K p Dl H1 Acc i H') (lc_start r1.pi hD a0) (fun i H' hi inv => ?_) (fun H' inv => ?_)
    · have e0 : (0 : Int) + (i : Int) = (i : Int) := Int.zero_add _
      show wipe ((wipe σ vs).set j (some (.int ((0 : Int) + (i : Int))))) vs = wipe σ vs ∧ t ((wipe σ vs).set j (some (.int ((0 : Int) + (i : Int))))) H' fun b H3 => if b = true then te ((wipe σ vs).set j (some (.int ((0 : Int) + (i : Int))))) H3 fun y H4 => ∃ acc, H4 Dl = some (.lst acc) ∧ acc.length < sizeLine ∧ LcInv K p Dl H1 Acc (i + 1) (upd H4 Dl (.lst (acc ++ [y]))) else LcInv K p Dl H1 Acc (i + 1) H3
      rw [e0]
      exact ⟨hw _, lc_turn (Rl.refl r1.pi) hD (by omega) inv (fun _ => .inr trivial) (.int _) (hs H1 (r0.trans r1) i (by omega))⟩
    · exact lc_done (Rl.refl r1.pi) hD inv fun v d H2 r2 pd k => q v d H2 (r1.trans r2) pd k
theorem wipe_one {j : Nat} (σ : L2.St) (x : V) : wipe ((wipe σ [j]).set j (some x)) [j] = wipe σ [j] := by
  simp [wipe]
theorem et_yes : EvT p tYes σ H true := fun H1 r1 Q q => q H1 (Rl.refl r1.pi)
/-! ### xs.append(e) -/
theorem s_app {i : Nat} {a : Addr} {xs : List V} {acc : List D} {G : Hp} (hx : σ[i]? = some (some (.ref a))) (hn : G a = none) (pG : Wl p G) (r : Rl (p.mut a) G H) (e : H a = some (.lst xs)) (hl : xs.length < 100000) (k : DpAll K (vw (p.mut a) H) xs acc)
    (h : Wl (p.hide a) H → EvP K (p.hide a) te σ H P) (kk : ∀ e ys H1, Rl (p.mut a) H H1 → Rl (p.mut a) G H1 → P e → H1 a = some (.lst ys) → ys.length = xs.length + 1 → DpAll K (vw (p.mut a) H1) ys (acc ++ [e]) → F.nx σ H1) :
    tDrop (tBM K "list" rAppend (tVar i) (tCons te tNil)) F σ H := by
  have w2 : Wl (p.hide a) H := wl_hide (wl_unmut r.pi) e
  refine ⟨.ref a, hx, .inl ⟨rfl, xs, SqL.of e⟩, ?_⟩
  refine h w2 H (Rl.refl w2) _ fun y d H4 r4 pe ke => ?_
  have e4 : H4 a = some (.lst xs) := r4.keep e (vw_at pG hn).1
  have r14 : Rl (p.mut a) G H4 := r.trans (rl_h2m r4)
  have rw4 : Rl (p.mut a) H4 (upd H4 a (.lst (xs ++ [y]))) := rl_write r14.pi e4 (pool_ne pG hn)
  refine ⟨a, xs, y, rfl, rfl, e4, Evl.sz_lt hl, ?_⟩
  refine kk d (xs ++ [y]) _ ((rl_h2m r4).trans rw4) (r14.trans rw4) pe upd_same (by rw [List.length_append]; rfl) ?_
  exact dpa_append (dpa_ex ((rl_h2m r4).trans rw4).ex k) (.cons (dp_ex rw4.ex (dp_ex vw_h2m ke)) .nil)
/-- x = [] -/
theorem s_new {i : Nat} (pi : Wl p H) (k : ∀ a, H a = none → Rl p H (upd H a (.lst [])) → Rl (p.mut a) H (upd H a (.lst [])) → F.nx (σ.set i (some (.ref a))) (upd H a (.lst []))) : tAsg (tLst tNil) (gName i) F σ H :=
  ⟨Evl.sz_of (by decide), fun a ha => k a ha (Rl.new pi ha) (rl_mut (Rl.new pi ha) upd_same)⟩
end
end Ky
set_option Elab.async false
set_option linter.all false
set_option maxRecDepth 100000
set_option maxHeartbeats 4000000
namespace Ky
open PySem PySem.Spec PyProof.Rows L2
/-- the i-th statement of the text -/
def topS (i : Nat) : Stmt := PySem.Challenge.pw_everyohm_k36_whole_first_fault_of_a_worl.main.body.getD i (.Pass ⟨0, 0, 0, 0⟩)
/-- what the module's names hold of the built-in ones -/
structure Free (mg : Str → Option Value) : Prop where
  isinstance_ : mg "isinstance" = none
  len_ : mg "len" = none
  int_ : mg "int" = none
  bool_ : mg "bool" = none
  str_ : mg "str" = none
  list_ : mg "list" = none
  tuple_ : mg "tuple" = none
  abs_ : mg "abs" = none
  max_ : mg "max" = none
  range_ : mg "range" = none
  enumerate_ : mg "enumerate" = none
  zip_ : mg "zip" = none
  all_ : mg "all" = none
  gcd_ : mg "gcd" = some (.builtin "math.gcd")
  gexp_ : ∃ t, mg "GREATEST_EXPONENT" = some (.int 64 t)
/-- a def of the top, where it stands -/
structure At (K : PySem.W.Frag) (mg : Str → Option Value) (x : Str) (st : Stmt) (ps : List Str) (f : Addr) (fd : FuncData) : Prop where
  fn : Fun K x x st f fd
  g : mg x = some (.ref f)
  b : Binds K fd ps []
/-- the name x holds a def that keeps the promise sp -/
def Prm (P : Program) (w : World) (K : PySem.W.Frag) (mg : Str → Option Value) (base : Heap) (CX : CXT) (k : Nat) (x : Str) (ps : List Str) (sp : Sp) : Prop :=
  ∃ f fd, mg x = some (.ref f) ∧ PySem.W.keepIn K (.ref f) = true ∧ Binds K fd ps [] ∧ FnOk P w K mg base CX k f fd ps sp
theorem pe_prm {X : Cx} {CX : CXT} {k : Nat} {ps : List Str} {sp : Sp} {E : XK} {x : Str} {p pos : Pos} {e : Expr} {es : List Expr} {t : TA} (c : Prm X.prog X.w X.K X.mg X.base CX k x ps sp) (hr : Room k X.A) (hg : Gl X x) (hx : Passes CX X E)
    (ha : PA X (e :: es) t) (hdb : (x == ("__debug__" : Str)) = false := by decide) (he : starEach (e :: es) X.env = (false, eval e X.env) :: starEach es X.env := by rfl) (hpl : (backTo pos (starEach es X.env)).any (·.1) = false := by rfl) :
    PE X (.Call (.Name x p) (e :: es) [] pos) (tCall sp [] E t) := by
  obtain ⟨f, fd, g, kp, b, F⟩ := c
  exact pe_call F hr hg g kp b .nil hx ha hdb he hpl
theorem pe_prmS {X : Cx} {CX : CXT} {k : Nat} {ps : List Str} {sp : Sp} {E : L2.St → XK} {x : Str} {p pos : Pos} {e : Expr} {es : List Expr} {t : TA} (c : Prm X.prog X.w X.K X.mg X.base CX k x ps sp) (hr : Room k X.A) (hg : Gl X x) (hx : ∀ σ, PassesAt CX X σ (E σ))
    (ha : PA X (e :: es) t) (hdb : (x == ("__debug__" : Str)) = false := by decide) (he : starEach (e :: es) X.env = (false, eval e X.env) :: starEach es X.env := by rfl) (hpl : (backTo pos (starEach es X.env)).any (·.1) = false := by rfl) :
    PE X (.Call (.Name x p) (e :: es) [] pos) (tCallS sp E t) := by
  obtain ⟨f, fd, g, kp, b, F⟩ := c
  exact pe_callS F hr hg g kp b hx ha hdb he hpl
theorem pe_prm0 {X : Cx} {CX : CXT} {k : Nat} {sp : Sp} {E : XK} {x : Str} {p pos : Pos} (c : Prm X.prog X.w X.K X.mg X.base CX k x [] sp) (hr : Room k X.A) (hg : Gl X x) (hx : Passes CX X E)
    (hdb : (x == ("__debug__" : Str)) = false := by decide) : PE X (.Call (.Name x p) [] [] pos) (tCall sp [] E tNil) := by
  obtain ⟨f, fd, g, kp, b, F⟩ := c
  exact pe_call0 F hr hg g kp b .nil hx hdb
theorem pass0S {X : Cx} {σ : L2.St} : PassesAt CX0 X σ E0 := fun _ _ _ _ _ _ h => h.elim
theorem pe_gint {X : Cx} {x : Str} {i : Int} {pos : Pos} (hg : Gl X x) (h : ∃ t, X.mg x = some (.int i t)) (hd : (x == ("__debug__" : Str)) = false := by decide) : PE X (.Name x pos) (tC (.int i)) := by
  obtain ⟨t, h⟩ := h
  exact pe_glob hg h ⟨t, rfl⟩ hd
theorem ip_mul {X : Cx} : PIp X .Mult (rI CMul fun i j => .int (i * j)) := iop_mul
/-! ### calls by keywords alone -/
def tCallK0 (sp : Sp) (gV : List V → List V) (E : L2.St → XK) (tk : TA) : TE := fun σ H Q => tk σ H fun zs H2 => sp (gV zs) H2 Q (E σ)
/-- how a call by keywords alone binds -/
structure KB0 (K : PySem.W.Frag) (fd : FuncData) (ps ks : List Str) (g : List Value → List Value) (gV : List V → List V) : Prop where
  to : ∀ (s : Shared) (ws : List Value), K.In s.heap → ws.length = ks.length → BindsTo s fd ⟨[], ks.zip ws⟩ (ps.zip (g ws))
  rel : ∀ {zs : List V} {ws : List Value}, zs.length = ks.length → Vals zs ws → Vals (gV zs) (g ws)
def PrmK (P : Program) (w : World) (K : PySem.W.Frag) (mg : Str → Option Value) (base : Heap) (CX : CXT) (k : Nat) (x : Str) (ps ks : List Str) (sp : Sp) (g : List Value → List Value) (gV : List V → List V) : Prop :=
  ∃ f fd, mg x = some (.ref f) ∧ PySem.W.keepIn K (.ref f) = true ∧ KB0 K fd ps ks g gV ∧ FnOk P w K mg base CX k f fd ps sp
theorem pk_len {X : Cx} : True := trivial
def tLen (n : Nat) (t : TA) : TA := fun σ H Q => t σ H fun zs H2 => zs.length = n ∧ Q zs H2
theorem pe_prmKS {X : Cx} {CX : CXT} {k n : Nat} {ps ks : List Str} {sp : Sp} {E : L2.St → XK} {x : Str} {p pos : Pos} {kws : List Keyword} {tk : TA} {g : List Value → List Value} {gV : List V → List V} (c : PrmK X.prog X.w X.K X.mg X.base CX k x ps ks sp g gV) (hr : Room k X.A) (hg : Gl X x) (hx : ∀ σ, PassesAt CX X σ (E σ))
    (hkw : PK X kws tk) (hn : ks.length = n := by rfl) (hall : (backToKw pos (keywordEach kws X.env)).all (·.1.isSome) = true := by rfl) (hks : (backToKw pos (keywordEach kws X.env)).filterMap (·.1) = ks := by rfl)
    (hdb : (x == ("__debug__" : Str)) = false := by decide) (hpl : ((backTo pos (starEach [] X.env)).any (·.1) || (backToKw pos (keywordEach kws X.env)).any (·.1.isNone)) = false := by rfl) :
    PE X (.Call (.Name x p) [] kws pos) (tCallK0 sp gV E (tLen n tk)) := by
  obtain ⟨f, fd, gm, kp, hb, F⟩ := c
  subst hn
  refine ⟨fun pins s σ H Q I h => ?_⟩
  refine wpAny_Call_Name_kw (ld_glob I hg gm ?_ hdb)
  refine PySem.W.callWith_KW0 (h₀ := X.base) I.ok.mod.kin kp hall (thn (hkw.run pos pins s σ H _ I h) fun ws s2 ⟨zs, H2, I2, rz, l2, q2⟩ => ⟨I2.kIn, ?_⟩) hpl
  rw [hks]
  have r2 := hb.rel l2 rz
  have hl : (g ws).length = ps.length := by rw [← r2.length]; exact F.len _ _ _ _ q2
  refine wpAny_call (codeAny_mono (F.run X.A X.stack s2 H2 ⟨[], ks.zip ws⟩ (g ws) (gV zs) Q (E σ) hr I2.env0 (hb.to s2 ws I2.kIn (rz.length.symm.trans l2)) r2 q2) fun r s' hq => ?_)
  cases r with
  | error e => exact hx σ pins H2 s2 e s' I2 hq
  | ok fl =>
    cases fl with
    | ret u => exact I2.after hq
    | next => exact False.elim hq
    | brk => exact False.elim hq
    | cont => exact False.elim hq
end Ky
set_option Elab.async false
set_option linter.all false
set_option maxRecDepth 100000
set_option maxHeartbeats 4000000
namespace Ky
open PySem PySem.Spec PyProof.Rows L2
/-! ### what the defs come to, on plain data -/
def isI : D → Bool
  | .int _ => true
  | _ => false
def isNum : D → Bool
  | .int i => decide (0 ≤ i)
  | _ => false
def isVal : D → Bool
  | .int i => decide (0 ≤ i) && decide (i ≤ 2)
  | _ => false
def isBase : D → Bool
  | .int i => decide (2 ≤ i)
  | _ => false
/-- a quotient of which f holds -/
def isQf (f : Int → Int → Bool) : D → Bool
  | .tuple [.int a, .int b] => decide (1 ≤ b) && decide (Nat.gcd a.natAbs b.natAbs = 1) && f a b
  | _ => false
def isQ : D → Bool := isQf fun _ _ => true
def isShare : D → Bool := isQf fun a b => decide (0 ≤ a) && decide (a ≤ b)
def areQ (f : Int → Int → Bool) (n : Nat) : D → Bool
  | .tuple ds => decide (ds.length = n) && ds.all (isQf f)
  | _ => false
structure Sw where
  kind : Str
  strength : Int
  gate : Int
  left : Int
  right : Int
structure Net where
  feeds : List Str
  tanks : List (Str × Int)
  sws : List Sw
def swD (s : Sw) : D := .tuple [.str s.kind, .int s.strength, .int s.gate, .int s.left, .int s.right]
def tkD (t : Str × Int) : D := .tuple [.str t.1, .int t.2]
def netD (c : Net) : D := .tuple [.tuple (c.feeds.map PyData.str), .tuple (c.tanks.map tkD), .tuple (c.sws.map swD)]
def Net.n (c : Net) : Nat := c.feeds.length + c.tanks.length
def one : D → Bool
  | .int i => decide (i = 1)
  | _ => false
def posAll : List D → List Sw → Bool
  | d :: ds, s :: ss => isVal d && !(decide (s.kind = "tie") && !one d) && posAll ds ss
  | _, _ => true
def posOk (c : Net) : D → Bool
  | .tuple ds => decide (ds.length = c.sws.length) && posAll ds c.sws
  | _ => false
def isAt (i : Int) : D → Bool
  | .int j => decide (j = i)
  | _ => false
def heldOk (n : Nat) : D → Bool
  | .tuple ds => decide (ds.length = n) && ds.all isVal && isAt 0 (ds.getD 0 .none) && isAt 1 (ds.getD 1 .none)
  | _ => false
def worldOk (c : Net) : D → Bool
  | .tuple [b, f, r, q] => isBase b && areQ (fun a _ => decide (0 ≤ a)) c.sws.length f && areQ (fun a _ => decide (0 < a)) c.tanks.length r && areQ (fun a b => decide (0 ≤ a) && decide (a ≤ b)) c.n q
  | _ => false
/-- a bound on the size of ints -/
def Sm (n : Nat) (i : Int) : Prop := i.natAbs < 2 ^ n
def qD (q : Int × Int) : D := .tuple [.int q.1, .int q.2]
def lowD (t b : Int) : D := .tuple [.int (t / (Nat.gcd t.natAbs b.natAbs : Nat)), .int (b / (Nat.gcd t.natAbs b.natAbs : Nat))]
def spanD (b g : Int) : D := .tuple [.int (b ^ (2 * g).toNat), .int (b ^ (2 * g).toNat * b)]
/-! ### the promises' relations -/
def R1B (f : D → Bool) : List D → D → Prop := fun ds d => ∃ x, ds = [x] ∧ d = .bool (f x)
def Rbelow : List D → D → Prop := fun ds d => ∃ a b c e : Int, ds = [qD (a, b), qD (c, e)] ∧ Sm 2000 a ∧ Sm 2000 b ∧ Sm 2000 c ∧ Sm 2000 e ∧ d = .bool (decide (a * e < c * b))
def Rask2 : List D → D → Prop := fun ds d => ∃ x y, ds = [x, y] ∧ isQ x = true ∧ isQ y = true ∧ d = .none
def Rlowest : List D → D → Prop := fun ds d => ∃ t b : Int, ds = [.int t, .int b] ∧ 0 < b ∧ Sm 8000 t ∧ Sm 8000 b ∧ d = lowD t b
def Rminus : List D → D → Prop := fun ds d => ∃ a b c e : Int, ds = [qD (a, b), qD (c, e)] ∧ isQ (qD (a, b)) = true ∧ isQ (qD (c, e)) = true ∧ Sm 2000 a ∧ Sm 2000 b ∧ Sm 2000 c ∧ Sm 2000 e ∧ d = lowD (a * e - c * b) (b * e)
def Rless : List D → D → Prop := fun ds d => ∃ a b c e : Int, ds = [qD (a, b), qD (c, e)] ∧ isQ (qD (a, b)) = true ∧ isQ (qD (c, e)) = true ∧ Sm 2000 a ∧ Sm 2000 b ∧ Sm 2000 c ∧ Sm 2000 e ∧ d = .bool (decide (a * e < c * b))
def Rpower : List D → D → Prop := fun ds d => ∃ b k : Int, ds = [.int b, .int k] ∧ 0 ≤ k ∧ k ≤ 64 ∧ Sm 64 b ∧ d = .int (b ^ k.toNat)
def Rspan : List D → D → Prop := fun ds d => ∃ b g : Int, ds = [.int b, .int g] ∧ 0 ≤ g ∧ g ≤ 6 ∧ Sm 64 b ∧ d = spanD b g
def Rflows : List D → D → Prop := fun ds d => ∃ c x, ds = [netD c, x] ∧ d = .bool (areQ (fun a _ => decide (0 ≤ a)) c.sws.length x)
def Rrooms : List D → D → Prop := fun ds d => ∃ c x, ds = [netD c, x] ∧ d = .bool (areQ (fun a _ => decide (0 < a)) c.tanks.length x)
def Rcharges : List D → D → Prop := fun ds d => ∃ c x, ds = [netD c, x] ∧ d = .bool (areQ (fun a b => decide (0 ≤ a) && decide (a ≤ b)) c.n x)
def Net.kinds (c : Net) : Prop := ∀ s, s ∈ c.sws → PySem.PyData.strOk s.kind = true
def Rpos : List D → D → Prop := fun ds d => ∃ c x, ds = [netD c, x] ∧ c.kinds ∧ d = .bool (posOk c x)
def Rheld0 : List D → D → Prop := fun ds d => ∃ (n : Nat) (x : D), ds = [x, .int (n : Int)] ∧ 2 ≤ n ∧ n ≤ 1000 ∧ d = .bool (heldOk n x)
def Rheld : List D → D → Prop := fun ds d => ∃ c x, ds = [netD c, x] ∧ 2 ≤ c.n ∧ c.n ≤ 1000 ∧ d = .bool (heldOk c.n x)
def Rworld : List D → D → Prop := fun ds d => ∃ c x, ds = [netD c, x] ∧ d = .bool (worldOk c x)
/-- low * bottom <= top <= high * bottom -/
def fitsB (lo hi : Int) (q : Int × Int) : Bool := decide (lo * q.2 ≤ q.1) && decide (q.1 ≤ hi * q.2)
def fflow (b s : Int) (pos : Int) (q : Int × Int) : Bool := fitsB (if pos = 1 then b ^ (2 * s).toNat else 0) (if pos = 0 then 0 else b ^ (2 * s).toNat * b) q
def Rffits : List D → D → Prop := fun ds d => ∃ (b s pos : Int) (q : Int × Int), ds = [.int b, .int s, .int pos, qD q] ∧ 0 ≤ s ∧ s ≤ 6 ∧ Sm 64 b ∧ Sm 2000 q.1 ∧ Sm 2000 q.2 ∧ d = .bool (fflow b s pos q)
def froom (b s : Int) (q : Int × Int) : Bool := fitsB (b ^ (2 * s).toNat) (b ^ (2 * s).toNat * b) q
def Rrfits : List D → D → Prop := fun ds d => ∃ (b s : Int) (q : Int × Int), ds = [.int b, .int s, qD q] ∧ 0 ≤ s ∧ s ≤ 6 ∧ Sm 64 b ∧ Sm 2000 q.1 ∧ Sm 2000 q.2 ∧ d = .bool (froom b s q)
/-- the charge's distance from what is told -/
def far (h : Int) (q : Int × Int) : Int × Int := if h = 0 then q else ((q.2 - q.1) / (Nat.gcd (q.2 - q.1).natAbs q.2.natAbs : Nat), q.2 / (Nat.gcd (q.2 - q.1).natAbs q.2.natAbs : Nat))
def fcharge (h : Int) (q sl : Int × Int) : Bool := if h = 2 then true else !decide (sl.1 * (far h q).2 < (far h q).1 * sl.2)
def Rcfits : List D → D → Prop := fun ds d => ∃ (h : Int) (q sl : Int × Int), ds = [.int h, qD q, qD sl] ∧ isQ (qD q) = true ∧ isQ (qD sl) = true ∧ Sm 1000 q.1 ∧ Sm 1000 q.2 ∧ Sm 1000 sl.1 ∧ Sm 1000 sl.2 ∧ d = .bool (fcharge h q sl)
end Ky
set_option Elab.async false
set_option linter.all false
set_option maxRecDepth 100000
set_option maxHeartbeats 4000000
namespace Ky
open PySem PySem.Spec PyProof.Rows L2
/-! ### is_integer -/
abbrev s_is_integer : Stmt := topS 6
abbrev N_is_integer : List Str := ["thing"]
abbrev P_is_integer : List Str := ["thing"]
theorem sc_is_integer : FnScope N_is_integer P_is_integer (defScope s_is_integer) := ⟨rfl, rfl, rfl, by decide +kernel, rfl, by decide +kernel, by decide +kernel⟩
def t_is_integer (K : PySem.W.Frag) : TS :=
    (tRet (tAndV (tCB (rIsi K) (tCons (tVar 0) (tCons (tC (.ty "int")) tNil))) (tNotV (tCB (rIsi K) (tCons (tVar 0) (tCons (tC (.ty "bool")) tNil))))))
theorem dv_is_integer {P : Program} {w : World} {K : PySem.W.Frag} {mg : Str → Option Value} {base : Heap} {f : Addr} {cdv : Value} {A : Around} {outer : List Env} {s : Shared} {H : Hp} {E : XK} (FR : Free mg)
    (hr : Room 0 (A.deeper (envOfC "is_integer" (defScope s_is_integer) s.heap.objs.size f cdv))) :
    PSs (cxOf CX0 P w K mg base N_is_integer "is_integer" (defScope s_is_integer) f cdv A outer s H E).nox (defBody s_is_integer) (t_is_integer K) := by
  unfold t_is_integer
  exact (pss_one (ps_ret (pe_and (pe_callB call_isi (by rfl) FR.isinstance_ (by decide +kernel) (pa_cons (pv 0) (pa_cons (pe_bltn (v := .ty "int") (by rfl) FR.int_ (by decide +kernel) rfl) pa_nil))) (pe_one (pe_not (pe_callB call_isi (by rfl) FR.isinstance_ (by decide +kernel) (pa_cons (pv 0) (pa_cons (pe_bltn (v := .ty "bool") (by rfl) FR.bool_ (by decide +kernel) rfl) pa_nil))))))))

/-! ### is_number -/
abbrev s_is_number : Stmt := topS 7
abbrev N_is_number : List Str := ["thing"]
abbrev P_is_number : List Str := ["thing"]
theorem sc_is_number : FnScope N_is_number P_is_number (defScope s_is_number) := ⟨rfl, rfl, rfl, by decide +kernel, rfl, by decide +kernel, by decide +kernel⟩
def t_is_number (K : PySem.W.Frag) : TS :=
    (tRet (tAndV (tCall (SpR K (R1B isI)) [] E0 (tCons (tVar 0) tNil)) (tOp (rI0 fun i j => .bl (decide (j ≤ i))) (tVar 0) (tC (.int 0)))))
theorem dv_is_number {P : Program} {w : World} {K : PySem.W.Frag} {mg : Str → Option Value} {base : Heap} {f : Addr} {cdv : Value} {A : Around} {outer : List Env} {s : Shared} {H : Hp} {E : XK} (FR : Free mg) (c_is_integer : Prm P w K mg base CX0 1 "is_integer" P_is_integer (SpR K (R1B isI)))
    (hr : Room 1 (A.deeper (envOfC "is_number" (defScope s_is_number) s.heap.objs.size f cdv))) :
    PSs (cxOf CX0 P w K mg base N_is_number "is_number" (defScope s_is_number) f cdv A outer s H E).nox (defBody s_is_number) (t_is_number K) := by
  unfold t_is_number
  exact (pss_one (ps_ret (pe_and (pe_prm c_is_integer (hr.mono (by decide)) (by rfl) pass0 (pa_cons (pv 0) pa_nil)) (pe_one (pe_cmpR op_ge (pv 0) pe_int (nomark _))))))

/-! ### is_value -/
abbrev s_is_value : Stmt := topS 8
abbrev N_is_value : List Str := ["thing"]
abbrev P_is_value : List Str := ["thing"]
theorem sc_is_value : FnScope N_is_value P_is_value (defScope s_is_value) := ⟨rfl, rfl, rfl, by decide +kernel, rfl, by decide +kernel, by decide +kernel⟩
def t_is_value (K : PySem.W.Frag) : TS :=
    (tRet (tAndV (tCall (SpR K (R1B isI)) [] E0 (tCons (tVar 0) tNil)) (tChain (rI0 fun i j => .bl (decide (i ≤ j))) (rI0 fun i j => .bl (decide (i ≤ j))) (tC (.int 0)) (tVar 0) (tC (.int 2)))))
theorem dv_is_value {P : Program} {w : World} {K : PySem.W.Frag} {mg : Str → Option Value} {base : Heap} {f : Addr} {cdv : Value} {A : Around} {outer : List Env} {s : Shared} {H : Hp} {E : XK} (FR : Free mg) (c_is_integer : Prm P w K mg base CX0 1 "is_integer" P_is_integer (SpR K (R1B isI)))
    (hr : Room 1 (A.deeper (envOfC "is_value" (defScope s_is_value) s.heap.objs.size f cdv))) :
    PSs (cxOf CX0 P w K mg base N_is_value "is_value" (defScope s_is_value) f cdv A outer s H E).nox (defBody s_is_value) (t_is_value K) := by
  unfold t_is_value
  exact (pss_one (ps_ret (pe_and (pe_prm c_is_integer (hr.mono (by decide)) (by rfl) pass0 (pa_cons (pv 0) pa_nil)) (pe_one (pe_chain op_le op_le pe_int (pv 0) pe_int)))))

/-! ### is_quotient -/
abbrev s_is_quotient : Stmt := topS 9
abbrev N_is_quotient : List Str := ["thing", "top", "bottom"]
abbrev P_is_quotient : List Str := ["thing"]
theorem sc_is_quotient : FnScope N_is_quotient P_is_quotient (defScope s_is_quotient) := ⟨rfl, rfl, rfl, by decide +kernel, rfl, by decide +kernel, by decide +kernel⟩
def t_is_quotient (K : PySem.W.Frag) : TS :=
    (tSeq (tIfS (tOr (tNot (tB (tCB (rIsi K) (tCons (tVar 0) (tCons (tC (.ty "tuple")) tNil))))) (tTest (tOp (rNeD K) (tCB (Evl.rLenS K) (tCons (tVar 0) tNil)) (tC (.int 2))))) (tRet (tC (.bl false))) tNext)
    (tSeq (tAsg (tVar 0) (gTup K 2 (gCons (gName 1) (gCons (gName 2) gNil))))
    (tSeq (tIfS (tOr (tNot (tB (tCall (SpR K (R1B isI)) [] E0 (tCons (tVar 1) tNil)))) (tOr (tNot (tB (tCall (SpR K (R1B isI)) [] E0 (tCons (tVar 2) tNil)))) (tTest (tOp (rI0 fun i j => .bl (decide (i < j))) (tVar 2) (tC (.int 1)))))) (tRet (tC (.bl false))) tNext)
    (tRet (tOp (rEqD K) (tCB rGcd (tCons (tVar 1) (tCons (tVar 2) tNil))) (tC (.int 1)))))))
theorem dv_is_quotient {P : Program} {w : World} {K : PySem.W.Frag} {mg : Str → Option Value} {base : Heap} {f : Addr} {cdv : Value} {A : Around} {outer : List Env} {s : Shared} {H : Hp} {E : XK} (FR : Free mg) (c_is_integer : Prm P w K mg base CX0 1 "is_integer" P_is_integer (SpR K (R1B isI)))
    (hr : Room 1 (A.deeper (envOfC "is_quotient" (defScope s_is_quotient) s.heap.objs.size f cdv))) :
    PSs (cxOf CX0 P w K mg base N_is_quotient "is_quotient" (defScope s_is_quotient) f cdv A outer s H E).nox (defBody s_is_quotient) (t_is_quotient K) := by
  unfold t_is_quotient
  exact (pss_cons (ps_if (PW.pt (pw_or (pt_not (pt_val (pe_callB call_isi (by rfl) FR.isinstance_ (by decide +kernel) (pa_cons (pv 0) (pa_cons (pe_bltn (v := .ty "tuple") (by rfl) FR.tuple_ (by decide +kernel) rfl) pa_nil))))) (pw_or1 (pt_cmpR (op_neD hr.units) (pe_callB call_lenK (by rfl) FR.len_ (by decide +kernel) (pa_cons (pv 0) pa_nil)) pe_int (nomark _))))) (pss_one (ps_ret pe_bl)) pss_nil)
      (pss_cons (ps_asg (pv 0) (pg_tup rfl (pgs_cons (pg_name (i := 1) sc_is_quotient.nd rfl (by first | exact Or.inl rfl | exact Or.inr rfl)) (pgs_cons (pg_name (i := 2) sc_is_quotient.nd rfl (by first | exact Or.inl rfl | exact Or.inr rfl)) pgs_nil))))
      (pss_cons (ps_if (PW.pt (pw_or (pt_not (pt_val (pe_prm c_is_integer (hr.mono (by decide)) (by rfl) pass0 (pa_cons (pv 1) pa_nil)))) (pw_or (pt_not (pt_val (pe_prm c_is_integer (hr.mono (by decide)) (by rfl) pass0 (pa_cons (pv 2) pa_nil)))) (pw_or1 (pt_cmpR op_lt (pv 2) pe_int (nomark _)))))) (pss_one (ps_ret pe_bl)) pss_nil)
      (pss_one (ps_ret (pe_cmpR (op_eqD hr.units) (pe_callBfun cr_gcd (by rfl) FR.gcd_ (pa_cons (pv 1) (pa_cons (pv 2) pa_nil))) pe_int (nomark _)))))))

/-! ### _is_below -/
abbrev s_is_below : Stmt := topS 16
abbrev N_is_below : List Str := ["one", "other"]
abbrev P_is_below : List Str := ["one", "other"]
theorem sc_is_below : FnScope N_is_below P_is_below (defScope s_is_below) := ⟨rfl, rfl, rfl, by decide +kernel, rfl, by decide +kernel, by decide +kernel⟩
def t_is_below (K : PySem.W.Frag) : TS :=
    (tRet (tOp (rI0 fun i j => .bl (decide (i < j))) (tOp (rI CMulW fun i j => .int (i * j)) (tOp (rIx K) (tVar 0) (tC (.int 0))) (tOp (rIx K) (tVar 1) (tC (.int 1)))) (tOp (rI CMulW fun i j => .int (i * j)) (tOp (rIx K) (tVar 1) (tC (.int 0))) (tOp (rIx K) (tVar 0) (tC (.int 1))))))
theorem dv_is_below {P : Program} {w : World} {K : PySem.W.Frag} {mg : Str → Option Value} {base : Heap} {f : Addr} {cdv : Value} {A : Around} {outer : List Env} {s : Shared} {H : Hp} {E : XK} (FR : Free mg)
    (hr : Room 0 (A.deeper (envOfC "_is_below" (defScope s_is_below) s.heap.objs.size f cdv))) :
    PSs (cxOf CX0 P w K mg base N_is_below "_is_below" (defScope s_is_below) f cdv A outer s H E).nox (defBody s_is_below) (t_is_below K) := by
  unfold t_is_below
  exact (pss_one (ps_ret (pe_cmpR op_lt (pe_op op_mulW (pe_ix ix_seq (pv 0) pe_int (fun _ _ => rfl)) (pe_ix ix_seq (pv 1) pe_int (fun _ _ => rfl))) (pe_op op_mulW (pe_ix ix_seq (pv 1) pe_int (fun _ _ => rfl)) (pe_ix ix_seq (pv 0) pe_int (fun _ _ => rfl))) (nomark _))))

/-! ### _ask_two -/
abbrev s_ask_two : Stmt := topS 17
abbrev N_ask_two : List Str := ["one", "other"]
abbrev P_ask_two : List Str := ["one", "other"]
theorem sc_ask_two : FnScope N_ask_two P_ask_two (defScope s_ask_two) := ⟨rfl, rfl, rfl, by decide +kernel, rfl, by decide +kernel, by decide +kernel⟩
def t_ask_two (K : PySem.W.Frag) : TS :=
    (tSeq (tIfS (tNot (tB (tCall (SpR K (R1B isQ)) [] E0 (tCons (tVar 0) tNil)))) tNever tNext)
    (tIfS (tNot (tB (tCall (SpR K (R1B isQ)) [] E0 (tCons (tVar 1) tNil)))) tNever tNext))
theorem dv_ask_two {P : Program} {w : World} {K : PySem.W.Frag} {mg : Str → Option Value} {base : Heap} {f : Addr} {cdv : Value} {A : Around} {outer : List Env} {s : Shared} {H : Hp} {E : XK} (FR : Free mg) (c_is_quotient : Prm P w K mg base CX0 2 "is_quotient" P_is_quotient (SpR K (R1B isQ)))
    (hr : Room 2 (A.deeper (envOfC "_ask_two" (defScope s_ask_two) s.heap.objs.size f cdv))) :
    PSs (cxOf CX0 P w K mg base N_ask_two "_ask_two" (defScope s_ask_two) f cdv A outer s H E).nox (defBody s_ask_two) (t_ask_two K) := by
  unfold t_ask_two
  exact (pss_cons (ps_if (pt_not (pt_val (pe_prm c_is_quotient (hr.mono (by decide)) (by rfl) pass0 (pa_cons (pv 0) pa_nil)))) (pss_one ps_never) pss_nil)
      (pss_one (ps_if (pt_not (pt_val (pe_prm c_is_quotient (hr.mono (by decide)) (by rfl) pass0 (pa_cons (pv 1) pa_nil)))) (pss_one ps_never) pss_nil)))

/-! ### _lowest -/
abbrev s_lowest : Stmt := topS 15
abbrev N_lowest : List Str := ["top", "bottom", "common"]
abbrev P_lowest : List Str := ["top", "bottom"]
theorem sc_lowest : FnScope N_lowest P_lowest (defScope s_lowest) := ⟨rfl, rfl, rfl, by decide +kernel, rfl, by decide +kernel, by decide +kernel⟩
def t_lowest (K : PySem.W.Frag) : TS :=
    (tSeq (tAsg (tCB rGcd (tCons (tVar 0) (tCons (tVar 1) tNil))) (gName 2))
    (tSeq (tIfS (tTest (tOp (rI0 fun i j => .bl (decide (i < j))) (tVar 1) (tC (.int 0)))) (tAsg (tUn (rU fun i => .int (-i)) (tVar 2)) (gName 2)) tNext)
    (tRet (tTup (tCons (tOp (rI CDivW fun i j => .int (i / j)) (tVar 0) (tVar 2)) (tCons (tOp (rI CDivW fun i j => .int (i / j)) (tVar 1) (tVar 2)) tNil))))))
theorem dv_lowest {P : Program} {w : World} {K : PySem.W.Frag} {mg : Str → Option Value} {base : Heap} {f : Addr} {cdv : Value} {A : Around} {outer : List Env} {s : Shared} {H : Hp} {E : XK} (FR : Free mg)
    (hr : Room 0 (A.deeper (envOfC "_lowest" (defScope s_lowest) s.heap.objs.size f cdv))) :
    PSs (cxOf CX0 P w K mg base N_lowest "_lowest" (defScope s_lowest) f cdv A outer s H E).nox (defBody s_lowest) (t_lowest K) := by
  unfold t_lowest
  exact (pss_cons (ps_set (i := 2) sc_lowest.nd rfl (by first | exact Or.inl rfl | exact Or.inr rfl) (pe_callBfun cr_gcd (by rfl) FR.gcd_ (pa_cons (pv 0) (pa_cons (pv 1) pa_nil))))
      (pss_cons (ps_if (pt_cmpR op_lt (pv 1) pe_int (nomark _)) (pss_one (ps_set (i := 2) sc_lowest.nd rfl (by first | exact Or.inl rfl | exact Or.inr rfl) (pe_un un_neg (pv 2)))) pss_nil)
      (pss_one (ps_ret (pe_tup (pa_cons (pe_op op_fdivW (pv 0) (pv 2)) (pa_cons (pe_op op_fdivW (pv 1) (pv 2)) pa_nil)))))))

/-! ### minus -/
abbrev s_minus : Stmt := topS 12
abbrev N_minus : List Str := ["one", "other"]
abbrev P_minus : List Str := ["one", "other"]
theorem sc_minus : FnScope N_minus P_minus (defScope s_minus) := ⟨rfl, rfl, rfl, by decide +kernel, rfl, by decide +kernel, by decide +kernel⟩
def t_minus (K : PySem.W.Frag) : TS :=
    (tSeq (tDrop (tCall (SpR K Rask2) [] E0 (tCons (tVar 0) (tCons (tVar 1) tNil))))
    (tRet (tCall (SpR K Rlowest) [] E0 (tCons (tOp (rI0 fun i j => .int (i - j)) (tOp (rI CMulW fun i j => .int (i * j)) (tOp (rIx K) (tVar 0) (tC (.int 0))) (tOp (rIx K) (tVar 1) (tC (.int 1)))) (tOp (rI CMulW fun i j => .int (i * j)) (tOp (rIx K) (tVar 1) (tC (.int 0))) (tOp (rIx K) (tVar 0) (tC (.int 1))))) (tCons (tOp (rI CMulW fun i j => .int (i * j)) (tOp (rIx K) (tVar 0) (tC (.int 1))) (tOp (rIx K) (tVar 1) (tC (.int 1)))) tNil)))))
theorem dv_minus {P : Program} {w : World} {K : PySem.W.Frag} {mg : Str → Option Value} {base : Heap} {f : Addr} {cdv : Value} {A : Around} {outer : List Env} {s : Shared} {H : Hp} {E : XK} (FR : Free mg) (c_ask_two : Prm P w K mg base CX0 3 "_ask_two" P_ask_two (SpR K Rask2)) (c_lowest : Prm P w K mg base CX0 1 "_lowest" P_lowest (SpR K Rlowest))
    (hr : Room 3 (A.deeper (envOfC "minus" (defScope s_minus) s.heap.objs.size f cdv))) :
    PSs (cxOf CX0 P w K mg base N_minus "minus" (defScope s_minus) f cdv A outer s H E).nox (defBody s_minus) (t_minus K) := by
  unfold t_minus
  exact (pss_cons (ps_expr (pe_prm c_ask_two (hr.mono (by decide)) (by rfl) pass0 (pa_cons (pv 0) (pa_cons (pv 1) pa_nil))))
      (pss_one (ps_ret (pe_prm c_lowest (hr.mono (by decide)) (by rfl) pass0 (pa_cons (pe_op op_sub (pe_op op_mulW (pe_ix ix_seq (pv 0) pe_int (fun _ _ => rfl)) (pe_ix ix_seq (pv 1) pe_int (fun _ _ => rfl))) (pe_op op_mulW (pe_ix ix_seq (pv 1) pe_int (fun _ _ => rfl)) (pe_ix ix_seq (pv 0) pe_int (fun _ _ => rfl)))) (pa_cons (pe_op op_mulW (pe_ix ix_seq (pv 0) pe_int (fun _ _ => rfl)) (pe_ix ix_seq (pv 1) pe_int (fun _ _ => rfl))) pa_nil))))))

/-! ### is_less -/
abbrev s_is_less : Stmt := topS 13
abbrev N_is_less : List Str := ["one", "other"]
abbrev P_is_less : List Str := ["one", "other"]
theorem sc_is_less : FnScope N_is_less P_is_less (defScope s_is_less) := ⟨rfl, rfl, rfl, by decide +kernel, rfl, by decide +kernel, by decide +kernel⟩
def t_is_less (K : PySem.W.Frag) : TS :=
    (tSeq (tDrop (tCall (SpR K Rask2) [] E0 (tCons (tVar 0) (tCons (tVar 1) tNil))))
    (tRet (tCall (SpR K Rbelow) [] E0 (tCons (tVar 0) (tCons (tVar 1) tNil)))))
theorem dv_is_less {P : Program} {w : World} {K : PySem.W.Frag} {mg : Str → Option Value} {base : Heap} {f : Addr} {cdv : Value} {A : Around} {outer : List Env} {s : Shared} {H : Hp} {E : XK} (FR : Free mg) (c_ask_two : Prm P w K mg base CX0 3 "_ask_two" P_ask_two (SpR K Rask2)) (c_is_below : Prm P w K mg base CX0 1 "_is_below" P_is_below (SpR K Rbelow))
    (hr : Room 3 (A.deeper (envOfC "is_less" (defScope s_is_less) s.heap.objs.size f cdv))) :
    PSs (cxOf CX0 P w K mg base N_is_less "is_less" (defScope s_is_less) f cdv A outer s H E).nox (defBody s_is_less) (t_is_less K) := by
  unfold t_is_less
  exact (pss_cons (ps_expr (pe_prm c_ask_two (hr.mono (by decide)) (by rfl) pass0 (pa_cons (pv 0) (pa_cons (pv 1) pa_nil))))
      (pss_one (ps_ret (pe_prm c_is_below (hr.mono (by decide)) (by rfl) pass0 (pa_cons (pv 0) (pa_cons (pv 1) pa_nil))))))

/-! ### power -/
abbrev s_power : Stmt := topS 14
abbrev N_power : List Str := ["base", "exponent", "product", "_"]
abbrev P_power : List Str := ["base", "exponent"]
theorem sc_power : FnScope N_power P_power (defScope s_power) := ⟨rfl, rfl, rfl, by decide +kernel, rfl, by decide +kernel, by decide +kernel⟩
def t_power (K : PySem.W.Frag) : TS :=
    (tSeq (tIfS (tNot (tB (tCall (SpR K (R1B isI)) [] E0 (tCons (tVar 0) tNil)))) tNever tNext)
    (tSeq (tIfS (tOr (tNot (tB (tCall (SpR K (R1B isNum)) [] E0 (tCons (tVar 1) tNil)))) (tTest (tOp (rI0 fun i j => .bl (decide (j < i))) (tVar 1) (tC (.int 64))))) tNever tNext)
    (tSeq (tAsg (tC (.int 1)) (gName 2))
    (tSeq (tFor (iRng1 (tCons (tVar 1) tNil)) (gName 3) (tAug 2 (tVar 0) (rI CMul fun i j => .int (i * j))))
    (tRet (tVar 2))))))
theorem dv_power {P : Program} {w : World} {K : PySem.W.Frag} {mg : Str → Option Value} {base : Heap} {f : Addr} {cdv : Value} {A : Around} {outer : List Env} {s : Shared} {H : Hp} {E : XK} (FR : Free mg) (c_is_integer : Prm P w K mg base CX0 1 "is_integer" P_is_integer (SpR K (R1B isI))) (c_is_number : Prm P w K mg base CX0 2 "is_number" P_is_number (SpR K (R1B isNum)))
    (hr : Room 2 (A.deeper (envOfC "power" (defScope s_power) s.heap.objs.size f cdv))) :
    PSs (cxOf CX0 P w K mg base N_power "power" (defScope s_power) f cdv A outer s H E).nox (defBody s_power) (t_power K) := by
  unfold t_power
  exact (pss_cons (ps_if (pt_not (pt_val (pe_prm c_is_integer (hr.mono (by decide)) (by rfl) pass0 (pa_cons (pv 0) pa_nil)))) (pss_one ps_never) pss_nil)
      (pss_cons (ps_if (PW.pt (pw_or (pt_not (pt_val (pe_prm c_is_number (hr.mono (by decide)) (by rfl) pass0 (pa_cons (pv 1) pa_nil)))) (pw_or1 (pt_cmpR op_gt (pv 1) (pe_gint (by rfl) FR.gexp_) (nomark _))))) (pss_one ps_never) pss_nil)
      (pss_cons (ps_set (i := 2) sc_power.nd rfl (by first | exact Or.inl rfl | exact Or.inr rfl) pe_int)
      (pss_cons (ps_for PassesOwn.never rfl (pi_range1 (by rfl) FR.range_ (pa_cons (pv 1) pa_nil)) (pg_name (i := 3) sc_power.nd rfl (by first | exact Or.inl rfl | exact Or.inr rfl)) (pss_one (ps_aug (i := 2) sc_power.nd rfl (by first | exact Or.inl rfl | exact Or.inr rfl) (pv 0) ip_mul)))
      (pss_one (ps_ret (pv 2)))))))

/-! ### e_is_base -/
abbrev s_e_is_base : Stmt := topS 20
abbrev N_e_is_base : List Str := ["thing"]
abbrev P_e_is_base : List Str := ["thing"]
theorem sc_e_is_base : FnScope N_e_is_base P_e_is_base (defScope s_e_is_base) := ⟨rfl, rfl, rfl, by decide +kernel, rfl, by decide +kernel, by decide +kernel⟩
def t_e_is_base (K : PySem.W.Frag) : TS :=
    (tRet (tAndV (tCall (SpR K (R1B isI)) [] E0 (tCons (tVar 0) tNil)) (tOp (rI0 fun i j => .bl (decide (j ≤ i))) (tVar 0) (tC (.int 2)))))
theorem dv_e_is_base {P : Program} {w : World} {K : PySem.W.Frag} {mg : Str → Option Value} {base : Heap} {f : Addr} {cdv : Value} {A : Around} {outer : List Env} {s : Shared} {H : Hp} {E : XK} (FR : Free mg) (c_is_integer : Prm P w K mg base CX0 1 "is_integer" P_is_integer (SpR K (R1B isI)))
    (hr : Room 1 (A.deeper (envOfC "e_is_base" (defScope s_e_is_base) s.heap.objs.size f cdv))) :
    PSs (cxOf CX0 P w K mg base N_e_is_base "e_is_base" (defScope s_e_is_base) f cdv A outer s H E).nox (defBody s_e_is_base) (t_e_is_base K) := by
  unfold t_e_is_base
  exact (pss_one (ps_ret (pe_and (pe_prm c_is_integer (hr.mono (by decide)) (by rfl) pass0 (pa_cons (pv 0) pa_nil)) (pe_one (pe_cmpR op_ge (pv 0) pe_int (nomark _))))))

/-! ### e_is_share -/
abbrev s_e_is_share : Stmt := topS 21
abbrev N_e_is_share : List Str := ["thing"]
abbrev P_e_is_share : List Str := ["thing"]
theorem sc_e_is_share : FnScope N_e_is_share P_e_is_share (defScope s_e_is_share) := ⟨rfl, rfl, rfl, by decide +kernel, rfl, by decide +kernel, by decide +kernel⟩
def t_e_is_share (K : PySem.W.Frag) : TS :=
    (tRet (tAndV (tCall (SpR K (R1B isQ)) [] E0 (tCons (tVar 0) tNil)) (tChain (rI0 fun i j => .bl (decide (i ≤ j))) (rI0 fun i j => .bl (decide (i ≤ j))) (tC (.int 0)) (tOp (rIx K) (tVar 0) (tC (.int 0))) (tOp (rIx K) (tVar 0) (tC (.int 1))))))
theorem dv_e_is_share {P : Program} {w : World} {K : PySem.W.Frag} {mg : Str → Option Value} {base : Heap} {f : Addr} {cdv : Value} {A : Around} {outer : List Env} {s : Shared} {H : Hp} {E : XK} (FR : Free mg) (c_is_quotient : Prm P w K mg base CX0 2 "is_quotient" P_is_quotient (SpR K (R1B isQ)))
    (hr : Room 2 (A.deeper (envOfC "e_is_share" (defScope s_e_is_share) s.heap.objs.size f cdv))) :
    PSs (cxOf CX0 P w K mg base N_e_is_share "e_is_share" (defScope s_e_is_share) f cdv A outer s H E).nox (defBody s_e_is_share) (t_e_is_share K) := by
  unfold t_e_is_share
  exact (pss_one (ps_ret (pe_and (pe_prm c_is_quotient (hr.mono (by decide)) (by rfl) pass0 (pa_cons (pv 0) pa_nil)) (pe_one (pe_chain op_le op_le pe_int (pe_ix ix_seq (pv 0) pe_int (fun _ _ => rfl)) (pe_ix ix_seq (pv 0) pe_int (fun _ _ => rfl)))))))

/-! ### e_is_flows -/
abbrev s_e_is_flows : Stmt := topS 22
abbrev N_e_is_flows : List Str := ["net", "thing", "flow"]
abbrev P_e_is_flows : List Str := ["net", "thing"]
theorem sc_e_is_flows : FnScope N_e_is_flows P_e_is_flows (defScope s_e_is_flows) := ⟨rfl, rfl, rfl, by decide +kernel, rfl, by decide +kernel, by decide +kernel⟩
def t_e_is_flows (K : PySem.W.Frag) : TS :=
    (tSeq (tIfS (tOr (tNot (tB (tCB (rIsi K) (tCons (tVar 1) (tCons (tC (.ty "tuple")) tNil))))) (tTest (tOp (rNeD K) (tCB (Evl.rLenS K) (tCons (tVar 1) tNil)) (tCB (Evl.rLenS K) (tCons (tOp (rIx K) (tVar 0) (tC (.int 2))) tNil))))) (tRet (tC (.bl false))) tNext)
    (tSeq (tFor (iTup K (tVar 1)) (gName 2) (tIfS (tOr (tNot (tB (tCall (SpR K (R1B isQ)) [] E0 (tCons (tVar 2) tNil)))) (tTest (tOp (rI0 fun i j => .bl (decide (i < j))) (tOp (rIx K) (tVar 2) (tC (.int 0))) (tC (.int 0))))) (tRet (tC (.bl false))) tNext))
    (tRet (tC (.bl true)))))
theorem dv_e_is_flows {P : Program} {w : World} {K : PySem.W.Frag} {mg : Str → Option Value} {base : Heap} {f : Addr} {cdv : Value} {A : Around} {outer : List Env} {s : Shared} {H : Hp} {E : XK} (FR : Free mg) (c_is_quotient : Prm P w K mg base CX0 2 "is_quotient" P_is_quotient (SpR K (R1B isQ)))
    (hr : Room 2 (A.deeper (envOfC "e_is_flows" (defScope s_e_is_flows) s.heap.objs.size f cdv))) :
    PSs (cxOf CX0 P w K mg base N_e_is_flows "e_is_flows" (defScope s_e_is_flows) f cdv A outer s H E).nox (defBody s_e_is_flows) (t_e_is_flows K) := by
  unfold t_e_is_flows
  exact (pss_cons (ps_if (PW.pt (pw_or (pt_not (pt_val (pe_callB call_isi (by rfl) FR.isinstance_ (by decide +kernel) (pa_cons (pv 1) (pa_cons (pe_bltn (v := .ty "tuple") (by rfl) FR.tuple_ (by decide +kernel) rfl) pa_nil))))) (pw_or1 (pt_cmpR (op_neD hr.units) (pe_callB call_lenK (by rfl) FR.len_ (by decide +kernel) (pa_cons (pv 1) pa_nil)) (pe_callB call_lenK (by rfl) FR.len_ (by decide +kernel) (pa_cons (pe_ix ix_seq (pv 0) pe_int (fun _ _ => rfl)) pa_nil)) (nomark _))))) (pss_one (ps_ret pe_bl)) pss_nil)
      (pss_cons (ps_for PassesOwn.never rfl (pi_tup (pv 1)) (pg_name (i := 2) sc_e_is_flows.nd rfl (by first | exact Or.inl rfl | exact Or.inr rfl)) (pss_one (ps_if (PW.pt (pw_or (pt_not (pt_val (pe_prm c_is_quotient (hr.mono (by decide)) (by rfl) pass0 (pa_cons (pv 2) pa_nil)))) (pw_or1 (pt_cmpR op_lt (pe_ix ix_seq (pv 2) pe_int (fun _ _ => rfl)) pe_int (nomark _))))) (pss_one (ps_ret pe_bl)) pss_nil)))
      (pss_one (ps_ret pe_bl))))

/-! ### e_is_rooms -/
abbrev s_e_is_rooms : Stmt := topS 23
abbrev N_e_is_rooms : List Str := ["net", "thing", "room"]
abbrev P_e_is_rooms : List Str := ["net", "thing"]
theorem sc_e_is_rooms : FnScope N_e_is_rooms P_e_is_rooms (defScope s_e_is_rooms) := ⟨rfl, rfl, rfl, by decide +kernel, rfl, by decide +kernel, by decide +kernel⟩
def t_e_is_rooms (K : PySem.W.Frag) : TS :=
    (tSeq (tIfS (tOr (tNot (tB (tCB (rIsi K) (tCons (tVar 1) (tCons (tC (.ty "tuple")) tNil))))) (tTest (tOp (rNeD K) (tCB (Evl.rLenS K) (tCons (tVar 1) tNil)) (tCB (Evl.rLenS K) (tCons (tOp (rIx K) (tVar 0) (tC (.int 1))) tNil))))) (tRet (tC (.bl false))) tNext)
    (tSeq (tFor (iTup K (tVar 1)) (gName 2) (tIfS (tOr (tNot (tB (tCall (SpR K (R1B isQ)) [] E0 (tCons (tVar 2) tNil)))) (tTest (tOp (rI0 fun i j => .bl (decide (i ≤ j))) (tOp (rIx K) (tVar 2) (tC (.int 0))) (tC (.int 0))))) (tRet (tC (.bl false))) tNext))
    (tRet (tC (.bl true)))))
theorem dv_e_is_rooms {P : Program} {w : World} {K : PySem.W.Frag} {mg : Str → Option Value} {base : Heap} {f : Addr} {cdv : Value} {A : Around} {outer : List Env} {s : Shared} {H : Hp} {E : XK} (FR : Free mg) (c_is_quotient : Prm P w K mg base CX0 2 "is_quotient" P_is_quotient (SpR K (R1B isQ)))
    (hr : Room 2 (A.deeper (envOfC "e_is_rooms" (defScope s_e_is_rooms) s.heap.objs.size f cdv))) :
    PSs (cxOf CX0 P w K mg base N_e_is_rooms "e_is_rooms" (defScope s_e_is_rooms) f cdv A outer s H E).nox (defBody s_e_is_rooms) (t_e_is_rooms K) := by
  unfold t_e_is_rooms
  exact (pss_cons (ps_if (PW.pt (pw_or (pt_not (pt_val (pe_callB call_isi (by rfl) FR.isinstance_ (by decide +kernel) (pa_cons (pv 1) (pa_cons (pe_bltn (v := .ty "tuple") (by rfl) FR.tuple_ (by decide +kernel) rfl) pa_nil))))) (pw_or1 (pt_cmpR (op_neD hr.units) (pe_callB call_lenK (by rfl) FR.len_ (by decide +kernel) (pa_cons (pv 1) pa_nil)) (pe_callB call_lenK (by rfl) FR.len_ (by decide +kernel) (pa_cons (pe_ix ix_seq (pv 0) pe_int (fun _ _ => rfl)) pa_nil)) (nomark _))))) (pss_one (ps_ret pe_bl)) pss_nil)
      (pss_cons (ps_for PassesOwn.never rfl (pi_tup (pv 1)) (pg_name (i := 2) sc_e_is_rooms.nd rfl (by first | exact Or.inl rfl | exact Or.inr rfl)) (pss_one (ps_if (PW.pt (pw_or (pt_not (pt_val (pe_prm c_is_quotient (hr.mono (by decide)) (by rfl) pass0 (pa_cons (pv 2) pa_nil)))) (pw_or1 (pt_cmpR op_le (pe_ix ix_seq (pv 2) pe_int (fun _ _ => rfl)) pe_int (nomark _))))) (pss_one (ps_ret pe_bl)) pss_nil)))
      (pss_one (ps_ret pe_bl))))

/-! ### e_is_charges -/
abbrev s_e_is_charges : Stmt := topS 24
abbrev N_e_is_charges : List Str := ["net", "thing", "charge"]
abbrev P_e_is_charges : List Str := ["net", "thing"]
theorem sc_e_is_charges : FnScope N_e_is_charges P_e_is_charges (defScope s_e_is_charges) := ⟨rfl, rfl, rfl, by decide +kernel, rfl, by decide +kernel, by decide +kernel⟩
def t_e_is_charges (K : PySem.W.Frag) : TS :=
    (tSeq (tIfS (tOr (tNot (tB (tCB (rIsi K) (tCons (tVar 1) (tCons (tC (.ty "tuple")) tNil))))) (tTest (tOp (rNeD K) (tCB (Evl.rLenS K) (tCons (tVar 1) tNil)) (tOp (rI0 fun i j => .int (i + j)) (tCB (Evl.rLenS K) (tCons (tOp (rIx K) (tVar 0) (tC (.int 0))) tNil)) (tCB (Evl.rLenS K) (tCons (tOp (rIx K) (tVar 0) (tC (.int 1))) tNil)))))) (tRet (tC (.bl false))) tNext)
    (tSeq (tFor (iTup K (tVar 1)) (gName 2) (tIfS (tNot (tB (tCall (SpR K (R1B isShare)) [] E0 (tCons (tVar 2) tNil)))) (tRet (tC (.bl false))) tNext))
    (tRet (tC (.bl true)))))
theorem dv_e_is_charges {P : Program} {w : World} {K : PySem.W.Frag} {mg : Str → Option Value} {base : Heap} {f : Addr} {cdv : Value} {A : Around} {outer : List Env} {s : Shared} {H : Hp} {E : XK} (FR : Free mg) (c_e_is_share : Prm P w K mg base CX0 3 "e_is_share" P_e_is_share (SpR K (R1B isShare)))
    (hr : Room 3 (A.deeper (envOfC "e_is_charges" (defScope s_e_is_charges) s.heap.objs.size f cdv))) :
    PSs (cxOf CX0 P w K mg base N_e_is_charges "e_is_charges" (defScope s_e_is_charges) f cdv A outer s H E).nox (defBody s_e_is_charges) (t_e_is_charges K) := by
  unfold t_e_is_charges
  exact (pss_cons (ps_if (PW.pt (pw_or (pt_not (pt_val (pe_callB call_isi (by rfl) FR.isinstance_ (by decide +kernel) (pa_cons (pv 1) (pa_cons (pe_bltn (v := .ty "tuple") (by rfl) FR.tuple_ (by decide +kernel) rfl) pa_nil))))) (pw_or1 (pt_cmpR (op_neD hr.units) (pe_callB call_lenK (by rfl) FR.len_ (by decide +kernel) (pa_cons (pv 1) pa_nil)) (pe_op op_add (pe_callB call_lenK (by rfl) FR.len_ (by decide +kernel) (pa_cons (pe_ix ix_seq (pv 0) pe_int (fun _ _ => rfl)) pa_nil)) (pe_callB call_lenK (by rfl) FR.len_ (by decide +kernel) (pa_cons (pe_ix ix_seq (pv 0) pe_int (fun _ _ => rfl)) pa_nil))) (nomark _))))) (pss_one (ps_ret pe_bl)) pss_nil)
      (pss_cons (ps_for PassesOwn.never rfl (pi_tup (pv 1)) (pg_name (i := 2) sc_e_is_charges.nd rfl (by first | exact Or.inl rfl | exact Or.inr rfl)) (pss_one (ps_if (pt_not (pt_val (pe_prm c_e_is_share (hr.mono (by decide)) (by rfl) pass0 (pa_cons (pv 2) pa_nil)))) (pss_one (ps_ret pe_bl)) pss_nil)))
      (pss_one (ps_ret pe_bl))))

/-! ### e_span -/
abbrev s_e_span : Stmt := topS 25
abbrev N_e_span : List Str := ["base", "grade", "low"]
abbrev P_e_span : List Str := ["base", "grade"]
theorem sc_e_span : FnScope N_e_span P_e_span (defScope s_e_span) := ⟨rfl, rfl, rfl, by decide +kernel, rfl, by decide +kernel, by decide +kernel⟩
def t_e_span (K : PySem.W.Frag) : TS :=
    (tSeq (tAsg (tCall (SpR K Rpower) [] E0 (tCons (tVar 0) (tCons (tOp (rI CMul fun i j => .int (i * j)) (tC (.int 2)) (tVar 1)) tNil))) (gName 2))
    (tRet (tTup (tCons (tVar 2) (tCons (tOp (rI CMul fun i j => .int (i * j)) (tVar 2) (tVar 0)) tNil)))))
theorem dv_e_span {P : Program} {w : World} {K : PySem.W.Frag} {mg : Str → Option Value} {base : Heap} {f : Addr} {cdv : Value} {A : Around} {outer : List Env} {s : Shared} {H : Hp} {E : XK} (FR : Free mg) (c_power : Prm P w K mg base CX0 3 "power" P_power (SpR K Rpower))
    (hr : Room 3 (A.deeper (envOfC "e_span" (defScope s_e_span) s.heap.objs.size f cdv))) :
    PSs (cxOf CX0 P w K mg base N_e_span "e_span" (defScope s_e_span) f cdv A outer s H E).nox (defBody s_e_span) (t_e_span K) := by
  unfold t_e_span
  exact (pss_cons (ps_set (i := 2) sc_e_span.nd rfl (by first | exact Or.inl rfl | exact Or.inr rfl) (pe_prm c_power (hr.mono (by decide)) (by rfl) pass0 (pa_cons (pv 0) (pa_cons (pe_op op_mul pe_int (pv 1)) pa_nil))))
      (pss_one (ps_ret (pe_tup (pa_cons (pv 2) (pa_cons (pe_op op_mul (pv 2) (pv 0)) pa_nil))))))

/-! ### is_positions -/
abbrev s_is_positions : Stmt := topS 27
abbrev N_is_positions : List Str := ["net", "thing", "position", "switch"]
abbrev P_is_positions : List Str := ["net", "thing"]
theorem sc_is_positions : FnScope N_is_positions P_is_positions (defScope s_is_positions) := ⟨rfl, rfl, rfl, by decide +kernel, rfl, by decide +kernel, by decide +kernel⟩
def t_is_positions (K : PySem.W.Frag) : TS :=
    (tSeq (tIfS (tOr (tNot (tB (tCB (rIsi K) (tCons (tVar 1) (tCons (tC (.ty "tuple")) tNil))))) (tTest (tOp (rNeD K) (tCB (Evl.rLenS K) (tCons (tVar 1) tNil)) (tCB (Evl.rLenS K) (tCons (tOp (rIx K) (tVar 0) (tC (.int 2))) tNil))))) (tRet (tC (.bl false))) tNext)
    (tSeq (tFor (RZ.iZipA K (tCons (tVar 1) (tCons (tOp (rIx K) (tVar 0) (tC (.int 2))) tNil))) (gTup K 2 (gCons (gName 2) (gCons (gName 3) gNil))) (tIfS (tOr (tNot (tB (tCall (SpR K (R1B isVal)) [] E0 (tCons (tVar 2) tNil)))) (tAnd (tTest (tOp (rEqD K) (tOp (rIx K) (tVar 3) (tC (.int 0))) (tC (.str "tie")))) (tTest (tOp (rNeD K) (tVar 2) (tC (.int 1)))))) (tRet (tC (.bl false))) tNext))
    (tRet (tC (.bl true)))))
theorem dv_is_positions {P : Program} {w : World} {K : PySem.W.Frag} {mg : Str → Option Value} {base : Heap} {f : Addr} {cdv : Value} {A : Around} {outer : List Env} {s : Shared} {H : Hp} {E : XK} (FR : Free mg) (c_is_value : Prm P w K mg base CX0 2 "is_value" P_is_value (SpR K (R1B isVal)))
    (hr : Room 2 (A.deeper (envOfC "is_positions" (defScope s_is_positions) s.heap.objs.size f cdv))) :
    PSs (cxOf CX0 P w K mg base N_is_positions "is_positions" (defScope s_is_positions) f cdv A outer s H E).nox (defBody s_is_positions) (t_is_positions K) := by
  unfold t_is_positions
  exact (pss_cons (ps_if (PW.pt (pw_or (pt_not (pt_val (pe_callB call_isi (by rfl) FR.isinstance_ (by decide +kernel) (pa_cons (pv 1) (pa_cons (pe_bltn (v := .ty "tuple") (by rfl) FR.tuple_ (by decide +kernel) rfl) pa_nil))))) (pw_or1 (pt_cmpR (op_neD hr.units) (pe_callB call_lenK (by rfl) FR.len_ (by decide +kernel) (pa_cons (pv 1) pa_nil)) (pe_callB call_lenK (by rfl) FR.len_ (by decide +kernel) (pa_cons (pe_ix ix_seq (pv 0) pe_int (fun _ _ => rfl)) pa_nil)) (nomark _))))) (pss_one (ps_ret pe_bl)) pss_nil)
      (pss_cons (ps_for PassesOwn.never rfl (RZ.pi_zipA (by rfl) FR.zip_ (pa_cons (pv 1) (pa_cons (pe_ix ix_seq (pv 0) pe_int (fun _ _ => rfl)) pa_nil))) (pg_tup rfl (pgs_cons (pg_name (i := 2) sc_is_positions.nd rfl (by first | exact Or.inl rfl | exact Or.inr rfl)) (pgs_cons (pg_name (i := 3) sc_is_positions.nd rfl (by first | exact Or.inl rfl | exact Or.inr rfl)) pgs_nil))) (pss_one (ps_if (PW.pt (pw_or (pt_not (pt_val (pe_prm c_is_value (hr.mono (by decide)) (by rfl) pass0 (pa_cons (pv 2) pa_nil)))) (pw_or1 (PW.pt (pw_and (pt_cmpR (op_eqD hr.units) (pe_ix ix_seq (pv 3) pe_int (fun _ _ => rfl)) pe_str (nomark _)) (pw_and1 (pt_cmpR (op_neD hr.units) (pv 2) pe_int (nomark _)))))))) (pss_one (ps_ret pe_bl)) pss_nil)))
      (pss_one (ps_ret pe_bl))))

/-! ### _begins_as_held -/
abbrev s_begins_as_held : Stmt := topS 28
abbrev N_begins_as_held : List Str := ["thing", "many", "part"]
abbrev P_begins_as_held : List Str := ["thing", "many"]
theorem sc_begins_as_held : FnScope N_begins_as_held P_begins_as_held (defScope s_begins_as_held) := ⟨rfl, rfl, rfl, by decide +kernel, rfl, by decide +kernel, by decide +kernel⟩
def t_begins_as_held (K : PySem.W.Frag) : TS :=
    (tSeq (tIfS (tOr (tNot (tB (tCB (rIsi K) (tCons (tVar 0) (tCons (tC (.ty "tuple")) tNil))))) (tTest (tOp (rNeD K) (tCB (Evl.rLenS K) (tCons (tVar 0) tNil)) (tVar 1)))) (tRet (tC (.bl false))) tNext)
    (tSeq (tIfS (tNot (tB (tCB (rAll K) (tCons (tLc (iTup K (tVar 0)) (gName 2) tYes (tCall (SpR K (R1B isVal)) [] E0 (tCons (tVar 2) tNil)) [2]) tNil)))) (tRet (tC (.bl false))) tNext)
    (tRet (tAndV (tOp (rEqD K) (tOp (rIx K) (tVar 0) (tC (.int 0))) (tC (.int 0))) (tOp (rEqD K) (tOp (rIx K) (tVar 0) (tC (.int 1))) (tC (.int 1)))))))
theorem dv_begins_as_held {P : Program} {w : World} {K : PySem.W.Frag} {mg : Str → Option Value} {base : Heap} {f : Addr} {cdv : Value} {A : Around} {outer : List Env} {s : Shared} {H : Hp} {E : XK} (FR : Free mg) (c_is_value : Prm P w K mg base CX0 2 "is_value" P_is_value (SpR K (R1B isVal)))
    (hr : Room 2 (A.deeper (envOfC "_begins_as_held" (defScope s_begins_as_held) s.heap.objs.size f cdv))) :
    PSs (cxOf CX0 P w K mg base N_begins_as_held "_begins_as_held" (defScope s_begins_as_held) f cdv A outer s H E).nox (defBody s_begins_as_held) (t_begins_as_held K) := by
  unfold t_begins_as_held
  exact (pss_cons (ps_if (PW.pt (pw_or (pt_not (pt_val (pe_callB call_isi (by rfl) FR.isinstance_ (by decide +kernel) (pa_cons (pv 0) (pa_cons (pe_bltn (v := .ty "tuple") (by rfl) FR.tuple_ (by decide +kernel) rfl) pa_nil))))) (pw_or1 (pt_cmpR (op_neD hr.units) (pe_callB call_lenK (by rfl) FR.len_ (by decide +kernel) (pa_cons (pv 0) pa_nil)) (pv 1) (nomark _))))) (pss_one (ps_ret pe_bl)) pss_nil)
      (pss_cons (ps_if (pt_not (pt_val (pe_callB (cr_all rfl) (by rfl) FR.all_ (by decide +kernel) (pa_cons (pe_lc (own := [("part", 2)]) (g := gName 2) (tt := tYes) rfl sc_begins_as_held.nd (pi_tup (pv 0)) (blkOk_by (own := [("part", 2)]) (N := N_begins_as_held) (sc := defScope s_begins_as_held) (by decide +kernel)) (fun _ _ _ _ _ => pg_name (i := 2) sc_begins_as_held.nd rfl (Or.inl rfl)) (fun _ _ _ _ _ => pts_nil) (fun _ _ _ _ _ => (pe_prm c_is_value (hr.mono (by decide)) (by rfl) pass0 (pa_cons (pv 2) pa_nil)))) pa_nil)))) (pss_one (ps_ret pe_bl)) pss_nil)
      (pss_one (ps_ret (pe_and (pe_cmpR (op_eqD hr.units) (pe_ix ix_seq (pv 0) pe_int (fun _ _ => rfl)) pe_int (nomark _)) (pe_one (pe_cmpR (op_eqD hr.units) (pe_ix ix_seq (pv 0) pe_int (fun _ _ => rfl)) pe_int (nomark _))))))))

/-! ### is_held -/
abbrev s_is_held : Stmt := topS 29
abbrev N_is_held : List Str := ["net", "thing"]
abbrev P_is_held : List Str := ["net", "thing"]
theorem sc_is_held : FnScope N_is_held P_is_held (defScope s_is_held) := ⟨rfl, rfl, rfl, by decide +kernel, rfl, by decide +kernel, by decide +kernel⟩
def t_is_held (K : PySem.W.Frag) : TS :=
    (tRet (tCall (SpR K Rheld0) [] E0 (tCons (tVar 1) (tCons (tOp (rI0 fun i j => .int (i + j)) (tCB (Evl.rLenS K) (tCons (tOp (rIx K) (tVar 0) (tC (.int 0))) tNil)) (tCB (Evl.rLenS K) (tCons (tOp (rIx K) (tVar 0) (tC (.int 1))) tNil))) tNil))))
theorem dv_is_held {P : Program} {w : World} {K : PySem.W.Frag} {mg : Str → Option Value} {base : Heap} {f : Addr} {cdv : Value} {A : Around} {outer : List Env} {s : Shared} {H : Hp} {E : XK} (FR : Free mg) (c_begins_as_held : Prm P w K mg base CX0 3 "_begins_as_held" P_begins_as_held (SpR K Rheld0))
    (hr : Room 3 (A.deeper (envOfC "is_held" (defScope s_is_held) s.heap.objs.size f cdv))) :
    PSs (cxOf CX0 P w K mg base N_is_held "is_held" (defScope s_is_held) f cdv A outer s H E).nox (defBody s_is_held) (t_is_held K) := by
  unfold t_is_held
  exact (pss_one (ps_ret (pe_prm c_begins_as_held (hr.mono (by decide)) (by rfl) pass0 (pa_cons (pv 1) (pa_cons (pe_op op_add (pe_callB call_lenK (by rfl) FR.len_ (by decide +kernel) (pa_cons (pe_ix ix_seq (pv 0) pe_int (fun _ _ => rfl)) pa_nil)) (pe_callB call_lenK (by rfl) FR.len_ (by decide +kernel) (pa_cons (pe_ix ix_seq (pv 0) pe_int (fun _ _ => rfl)) pa_nil))) pa_nil)))))

/-! ### is_world -/
abbrev s_is_world : Stmt := topS 31
abbrev N_is_world : List Str := ["net", "thing", "base", "flows", "rooms", "charges"]
abbrev P_is_world : List Str := ["net", "thing"]
theorem sc_is_world : FnScope N_is_world P_is_world (defScope s_is_world) := ⟨rfl, rfl, rfl, by decide +kernel, rfl, by decide +kernel, by decide +kernel⟩
def t_is_world (K : PySem.W.Frag) : TS :=
    (tSeq (tIfS (tOr (tNot (tB (tCB (rIsi K) (tCons (tVar 1) (tCons (tC (.ty "tuple")) tNil))))) (tTest (tOp (rNeD K) (tCB (Evl.rLenS K) (tCons (tVar 1) tNil)) (tC (.int 4))))) (tRet (tC (.bl false))) tNext)
    (tSeq (tAsg (tVar 1) (gTup K 4 (gCons (gName 2) (gCons (gName 3) (gCons (gName 4) (gCons (gName 5) gNil))))))
    (tSeq (tIfS (tOr (tNot (tB (tCall (SpR K (R1B isBase)) [] E0 (tCons (tVar 2) tNil)))) (tNot (tB (tCall (SpR K Rflows) [] E0 (tCons (tVar 0) (tCons (tVar 3) tNil)))))) (tRet (tC (.bl false))) tNext)
    (tRet (tAndV (tCall (SpR K Rrooms) [] E0 (tCons (tVar 0) (tCons (tVar 4) tNil))) (tCall (SpR K Rcharges) [] E0 (tCons (tVar 0) (tCons (tVar 5) tNil))))))))
theorem dv_is_world {P : Program} {w : World} {K : PySem.W.Frag} {mg : Str → Option Value} {base : Heap} {f : Addr} {cdv : Value} {A : Around} {outer : List Env} {s : Shared} {H : Hp} {E : XK} (FR : Free mg) (c_e_is_base : Prm P w K mg base CX0 2 "e_is_base" P_e_is_base (SpR K (R1B isBase))) (c_e_is_flows : Prm P w K mg base CX0 3 "e_is_flows" P_e_is_flows (SpR K Rflows)) (c_e_is_rooms : Prm P w K mg base CX0 3 "e_is_rooms" P_e_is_rooms (SpR K Rrooms)) (c_e_is_charges : Prm P w K mg base CX0 4 "e_is_charges" P_e_is_charges (SpR K Rcharges))
    (hr : Room 4 (A.deeper (envOfC "is_world" (defScope s_is_world) s.heap.objs.size f cdv))) :
    PSs (cxOf CX0 P w K mg base N_is_world "is_world" (defScope s_is_world) f cdv A outer s H E).nox (defBody s_is_world) (t_is_world K) := by
  unfold t_is_world
  exact (pss_cons (ps_if (PW.pt (pw_or (pt_not (pt_val (pe_callB call_isi (by rfl) FR.isinstance_ (by decide +kernel) (pa_cons (pv 1) (pa_cons (pe_bltn (v := .ty "tuple") (by rfl) FR.tuple_ (by decide +kernel) rfl) pa_nil))))) (pw_or1 (pt_cmpR (op_neD hr.units) (pe_callB call_lenK (by rfl) FR.len_ (by decide +kernel) (pa_cons (pv 1) pa_nil)) pe_int (nomark _))))) (pss_one (ps_ret pe_bl)) pss_nil)
      (pss_cons (ps_asg (pv 1) (pg_tup rfl (pgs_cons (pg_name (i := 2) sc_is_world.nd rfl (by first | exact Or.inl rfl | exact Or.inr rfl)) (pgs_cons (pg_name (i := 3) sc_is_world.nd rfl (by first | exact Or.inl rfl | exact Or.inr rfl)) (pgs_cons (pg_name (i := 4) sc_is_world.nd rfl (by first | exact Or.inl rfl | exact Or.inr rfl)) (pgs_cons (pg_name (i := 5) sc_is_world.nd rfl (by first | exact Or.inl rfl | exact Or.inr rfl)) pgs_nil))))))
      (pss_cons (ps_if (PW.pt (pw_or (pt_not (pt_val (pe_prm c_e_is_base (hr.mono (by decide)) (by rfl) pass0 (pa_cons (pv 2) pa_nil)))) (pw_or1 (pt_not (pt_val (pe_prm c_e_is_flows (hr.mono (by decide)) (by rfl) pass0 (pa_cons (pv 0) (pa_cons (pv 3) pa_nil)))))))) (pss_one (ps_ret pe_bl)) pss_nil)
      (pss_one (ps_ret (pe_and (pe_prm c_e_is_rooms (hr.mono (by decide)) (by rfl) pass0 (pa_cons (pv 0) (pa_cons (pv 4) pa_nil))) (pe_one (pe_prm c_e_is_charges (hr.mono (by decide)) (by rfl) pass0 (pa_cons (pv 0) (pa_cons (pv 5) pa_nil))))))))))

/-! ### e_flow_fits -/
abbrev s_e_flow_fits : Stmt := topS 35
abbrev N_e_flow_fits : List Str := ["base", "strength", "position", "flow", "low", "high"]
abbrev P_e_flow_fits : List Str := ["base", "strength", "position", "flow"]
theorem sc_e_flow_fits : FnScope N_e_flow_fits P_e_flow_fits (defScope s_e_flow_fits) := ⟨rfl, rfl, rfl, by decide +kernel, rfl, by decide +kernel, by decide +kernel⟩
def t_e_flow_fits (K : PySem.W.Frag) : TS :=
    (tSeq (tAsg (tCall (SpR K Rspan) [] E0 (tCons (tVar 0) (tCons (tVar 1) tNil))) (gTup K 2 (gCons (gName 4) (gCons (gName 5) gNil))))
    (tSeq (tIfS (tTest (tOp (rNeD K) (tVar 2) (tC (.int 1)))) (tAsg (tC (.int 0)) (gName 4)) tNext)
    (tSeq (tIfS (tTest (tOp (rEqD K) (tVar 2) (tC (.int 0)))) (tAsg (tC (.int 0)) (gName 5)) tNext)
    (tRet (tChain (rI0 fun i j => .bl (decide (i ≤ j))) (rI0 fun i j => .bl (decide (i ≤ j))) (tOp (rI CMulW fun i j => .int (i * j)) (tVar 4) (tOp (rIx K) (tVar 3) (tC (.int 1)))) (tOp (rIx K) (tVar 3) (tC (.int 0))) (tOp (rI CMulW fun i j => .int (i * j)) (tVar 5) (tOp (rIx K) (tVar 3) (tC (.int 1)))))))))
theorem dv_e_flow_fits {P : Program} {w : World} {K : PySem.W.Frag} {mg : Str → Option Value} {base : Heap} {f : Addr} {cdv : Value} {A : Around} {outer : List Env} {s : Shared} {H : Hp} {E : XK} (FR : Free mg) (c_e_span : Prm P w K mg base CX0 4 "e_span" P_e_span (SpR K Rspan))
    (hr : Room 4 (A.deeper (envOfC "e_flow_fits" (defScope s_e_flow_fits) s.heap.objs.size f cdv))) :
    PSs (cxOf CX0 P w K mg base N_e_flow_fits "e_flow_fits" (defScope s_e_flow_fits) f cdv A outer s H E).nox (defBody s_e_flow_fits) (t_e_flow_fits K) := by
  unfold t_e_flow_fits
  exact (pss_cons (ps_asg (pe_prm c_e_span (hr.mono (by decide)) (by rfl) pass0 (pa_cons (pv 0) (pa_cons (pv 1) pa_nil))) (pg_tup rfl (pgs_cons (pg_name (i := 4) sc_e_flow_fits.nd rfl (by first | exact Or.inl rfl | exact Or.inr rfl)) (pgs_cons (pg_name (i := 5) sc_e_flow_fits.nd rfl (by first | exact Or.inl rfl | exact Or.inr rfl)) pgs_nil))))
      (pss_cons (ps_if (pt_cmpR (op_neD hr.units) (pv 2) pe_int (nomark _)) (pss_one (ps_set (i := 4) sc_e_flow_fits.nd rfl (by first | exact Or.inl rfl | exact Or.inr rfl) pe_int)) pss_nil)
      (pss_cons (ps_if (pt_cmpR (op_eqD hr.units) (pv 2) pe_int (nomark _)) (pss_one (ps_set (i := 5) sc_e_flow_fits.nd rfl (by first | exact Or.inl rfl | exact Or.inr rfl) pe_int)) pss_nil)
      (pss_one (ps_ret (pe_chain op_le op_le (pe_op op_mulW (pv 4) (pe_ix ix_seq (pv 3) pe_int (fun _ _ => rfl))) (pe_ix ix_seq (pv 3) pe_int (fun _ _ => rfl)) (pe_op op_mulW (pv 5) (pe_ix ix_seq (pv 3) pe_int (fun _ _ => rfl)))))))))

/-! ### e_room_fits -/
abbrev s_e_room_fits : Stmt := topS 36
abbrev N_e_room_fits : List Str := ["base", "size", "room", "low", "high"]
abbrev P_e_room_fits : List Str := ["base", "size", "room"]
theorem sc_e_room_fits : FnScope N_e_room_fits P_e_room_fits (defScope s_e_room_fits) := ⟨rfl, rfl, rfl, by decide +kernel, rfl, by decide +kernel, by decide +kernel⟩
def t_e_room_fits (K : PySem.W.Frag) : TS :=
    (tSeq (tAsg (tCall (SpR K Rspan) [] E0 (tCons (tVar 0) (tCons (tVar 1) tNil))) (gTup K 2 (gCons (gName 3) (gCons (gName 4) gNil))))
    (tRet (tChain (rI0 fun i j => .bl (decide (i ≤ j))) (rI0 fun i j => .bl (decide (i ≤ j))) (tOp (rI CMulW fun i j => .int (i * j)) (tVar 3) (tOp (rIx K) (tVar 2) (tC (.int 1)))) (tOp (rIx K) (tVar 2) (tC (.int 0))) (tOp (rI CMulW fun i j => .int (i * j)) (tVar 4) (tOp (rIx K) (tVar 2) (tC (.int 1)))))))
theorem dv_e_room_fits {P : Program} {w : World} {K : PySem.W.Frag} {mg : Str → Option Value} {base : Heap} {f : Addr} {cdv : Value} {A : Around} {outer : List Env} {s : Shared} {H : Hp} {E : XK} (FR : Free mg) (c_e_span : Prm P w K mg base CX0 4 "e_span" P_e_span (SpR K Rspan))
    (hr : Room 4 (A.deeper (envOfC "e_room_fits" (defScope s_e_room_fits) s.heap.objs.size f cdv))) :
    PSs (cxOf CX0 P w K mg base N_e_room_fits "e_room_fits" (defScope s_e_room_fits) f cdv A outer s H E).nox (defBody s_e_room_fits) (t_e_room_fits K) := by
  unfold t_e_room_fits
  exact (pss_cons (ps_asg (pe_prm c_e_span (hr.mono (by decide)) (by rfl) pass0 (pa_cons (pv 0) (pa_cons (pv 1) pa_nil))) (pg_tup rfl (pgs_cons (pg_name (i := 3) sc_e_room_fits.nd rfl (by first | exact Or.inl rfl | exact Or.inr rfl)) (pgs_cons (pg_name (i := 4) sc_e_room_fits.nd rfl (by first | exact Or.inl rfl | exact Or.inr rfl)) pgs_nil))))
      (pss_one (ps_ret (pe_chain op_le op_le (pe_op op_mulW (pv 3) (pe_ix ix_seq (pv 2) pe_int (fun _ _ => rfl))) (pe_ix ix_seq (pv 2) pe_int (fun _ _ => rfl)) (pe_op op_mulW (pv 4) (pe_ix ix_seq (pv 2) pe_int (fun _ _ => rfl)))))))

/-! ### e_charge_fits -/
abbrev s_e_charge_fits : Stmt := topS 37
abbrev N_e_charge_fits : List Str := ["told", "charge", "slack", "far"]
abbrev P_e_charge_fits : List Str := ["told", "charge", "slack"]
theorem sc_e_charge_fits : FnScope N_e_charge_fits P_e_charge_fits (defScope s_e_charge_fits) := ⟨rfl, rfl, rfl, by decide +kernel, rfl, by decide +kernel, by decide +kernel⟩
def t_e_charge_fits (K : PySem.W.Frag) : TS :=
    (tSeq (tIfS (tTest (tOp (rEqD K) (tVar 0) (tC (.int 2)))) (tRet (tC (.bl true))) tNext)
    (tSeq (tAsg (tIf (tTest (tOp (rEqD K) (tVar 0) (tC (.int 0)))) (tVar 1) (tCall (SpR K Rminus) [] E0 (tCons (tTup (tCons (tC (.int 1)) (tCons (tC (.int 1)) tNil))) (tCons (tVar 1) tNil)))) (gName 3))
    (tRet (tNotV (tCall (SpR K Rless) [] E0 (tCons (tVar 2) (tCons (tVar 3) tNil)))))))
theorem dv_e_charge_fits {P : Program} {w : World} {K : PySem.W.Frag} {mg : Str → Option Value} {base : Heap} {f : Addr} {cdv : Value} {A : Around} {outer : List Env} {s : Shared} {H : Hp} {E : XK} (FR : Free mg) (c_minus : Prm P w K mg base CX0 4 "minus" P_minus (SpR K Rminus)) (c_is_less : Prm P w K mg base CX0 4 "is_less" P_is_less (SpR K Rless))
    (hr : Room 4 (A.deeper (envOfC "e_charge_fits" (defScope s_e_charge_fits) s.heap.objs.size f cdv))) :
    PSs (cxOf CX0 P w K mg base N_e_charge_fits "e_charge_fits" (defScope s_e_charge_fits) f cdv A outer s H E).nox (defBody s_e_charge_fits) (t_e_charge_fits K) := by
  unfold t_e_charge_fits
  exact (pss_cons (ps_if (pt_cmpR (op_eqD hr.units) (pv 0) pe_int (nomark _)) (pss_one (ps_ret pe_bl)) pss_nil)
      (pss_cons (ps_set (i := 3) sc_e_charge_fits.nd rfl (by first | exact Or.inl rfl | exact Or.inr rfl) (pe_ifExp (pt_cmpR (op_eqD hr.units) (pv 0) pe_int (nomark _)) (pv 1) (pe_prm c_minus (hr.mono (by decide)) (by rfl) pass0 (pa_cons (pe_tup (pa_cons pe_int (pa_cons pe_int pa_nil))) (pa_cons (pv 1) pa_nil)))))
      (pss_one (ps_ret (pe_not (pe_prm c_is_less (hr.mono (by decide)) (by rfl) pass0 (pa_cons (pv 2) (pa_cons (pv 3) pa_nil))))))))

end Ky
set_option Elab.async false
set_option linter.all false
set_option maxRecDepth 100000
set_option maxHeartbeats 4000000
namespace Ky
open PySem PySem.Spec PyProof.Rows L2
theorem mk_prm {P : Program} {w : World} {K : PySem.W.Frag} {mg : Str → Option Value} {base : Heap} {k : Nat} {x : Str} {st : Stmt} {N ps : List Str} {f : Addr} {fd : FuncData} {R : List D → D → Prop} {t : TS}
    (A : At K mg x st ps f fd) (S : FnScope N ps (defScope st)) (len : ∀ ds d, R ds d → ds.length = ps.length)
    (dv : ∀ {f : Addr} {cdv : Value} {A : Around} {outer : List Env} {s : Shared} {H : Hp} {E : XK}, Room k (A.deeper (envOfC x (defScope st) s.heap.objs.size f cdv)) → PSs (cxOf CX0 P w K mg base N x (defScope st) f cdv A outer s H E).nox (defBody st) t)
    (rd : ∀ vs ds d H (Q : VK), DpAll K H vs ds → R ds d → (∀ v H', Ex H H' → Dp K (nw H H') v d → Q v H') → t { nx := fun _ H' => Q .non H', rt := Q } (start N vs) H) : Prm P w K mg base CX0 (k + 1) x ps (SpR K R) := by
  refine ⟨f, fd, A.g, A.fn.kp, A.b, A.fn.ok S (fun vs H Q E h => ?_) fun cdv Ar outer s H vs Q E hr h => ?_⟩
  · obtain ⟨ds, d, h1, h2, _⟩ := h
    rw [dpa_len h1]
    exact len ds d h2
  · obtain ⟨ds, d, h1, h2, h3⟩ := h
    exact ⟨t, dv hr, rd vs ds d H Q h1 h2 h3⟩
theorem sh_int {i : Int} : SeqAt.shaped (.int i) = true := rfl
theorem sh_bool {b : Bool} : SeqAt.shaped (.bool b) = true := rfl
theorem sh_non : SeqAt.shaped .none = true := rfl
theorem st_next {F : Ends} {σ : L2.St} {H : Hp} (q : F.nx σ H) : tNext F σ H := q
theorem st_seq {F : Ends} {t u : TS} {σ : L2.St} {H : Hp} (h : t { F with nx := u F } σ H) : tSeq t u F σ H := h
theorem Rl.e0 {H H' : Hp} (r : Rl p0 H H') : Ex H H' := r.ex
theorem dpa1 {K : PySem.W.Frag} {H : Hp} {vs : List V} {d : D} (h : DpAll K H vs [d]) : ∃ v, vs = [v] ∧ Dp K H v d := by
  cases h with
  | cons a b => cases b; exact ⟨_, rfl, a⟩
theorem dpa2 {K : PySem.W.Frag} {H : Hp} {vs : List V} {d e : D} (h : DpAll K H vs [d, e]) : ∃ v w, vs = [v, w] ∧ Dp K H v d ∧ Dp K H w e := by
  cases h with
  | cons a b =>
    obtain ⟨w, rfl, q⟩ := dpa1 b
    exact ⟨_, _, rfl, a, q⟩
theorem dpa3 {K : PySem.W.Frag} {H : Hp} {vs : List V} {d e f : D} (h : DpAll K H vs [d, e, f]) : ∃ v w x, vs = [v, w, x] ∧ Dp K H v d ∧ Dp K H w e ∧ Dp K H x f := by
  cases h with
  | cons a b =>
    obtain ⟨w, x, rfl, q⟩ := dpa2 b
    exact ⟨_, _, _, rfl, a, q⟩
theorem dpa4 {K : PySem.W.Frag} {H : Hp} {vs : List V} {d e f g : D} (h : DpAll K H vs [d, e, f, g]) : ∃ v w x y, vs = [v, w, x, y] ∧ Dp K H v d ∧ Dp K H w e ∧ Dp K H x f ∧ Dp K H y g := by
  cases h with
  | cons a b =>
    obtain ⟨w, x, y, rfl, q⟩ := dpa3 b
    exact ⟨_, _, _, _, rfl, a, q⟩
theorem dpa5 {K : PySem.W.Frag} {H : Hp} {vs : List V} {d e f g i : D} (h : DpAll K H vs [d, e, f, g, i]) : ∃ v w x y z, vs = [v, w, x, y, z] ∧ Dp K H v d ∧ Dp K H w e ∧ Dp K H x f ∧ Dp K H y g ∧ Dp K H z i := by
  cases h with
  | cons a b =>
    obtain ⟨w, x, y, z, rfl, q⟩ := dpa4 b
    exact ⟨_, _, _, _, _, rfl, a, q⟩
end Ky
set_option Elab.async false
set_option linter.all false
set_option maxRecDepth 4000
set_option maxHeartbeats 400000
namespace Ky
open PySem PySem.Spec PyProof.Rows L2
local macro_rules | `(tactic| walk_at "rl") => `(tactic| first | assumption | exact Rl.refl pi0 | exact Rl.refl (by assumption) | exact Rl.refl (Rl.pi (by assumption)) | (refine Rl.trans (by assumption) ?_; walk_at "rl"))
local macro_rules | `(tactic| walk_at "ev") => `(tactic| first
  | with_reducible exact ev_int | with_reducible exact ev_bl | with_reducible exact ev_str | with_reducible exact ev_non
  | ((with_reducible apply ev_var); (focus exact rfl); (focus assumption); (focus walk_at "rl"))
  | ((with_reducible apply ev_slot); (focus exact rfl); (focus first | exact fun _ => Dp.int _ | exact fun _ => Dp.bl _ | exact fun _ => Dp.str _ | exact fun _ => Dp.non))
  | with_reducible exact ea_nil | with_reducible exact eo_none | with_reducible exact et_yes
  | with_reducible exact sh_int | with_reducible exact sh_bool | with_reducible exact sh_non
  | ((with_reducible apply ea_cons) <;> try walk_at "ev")
  | ((with_reducible apply ev_I0) <;> try walk_at "ev")
  | ((with_reducible apply ev_B0) <;> try walk_at "ev")
  | ((with_reducible apply ev_IC) <;> try walk_at "ev")
  | ((with_reducible apply ev_neg) <;> try walk_at "ev")
  | ((with_reducible apply ev_chain) <;> try walk_at "ev")
  | ((with_reducible apply ev_isTup) <;> try walk_at "ev")
  | ((with_reducible apply ev_isInt) <;> try walk_at "ev")
  | ((with_reducible apply ev_isBool) <;> try walk_at "ev")
  | ((with_reducible apply ev_isStr) <;> try walk_at "ev")
  | ((with_reducible apply ev_isLst) <;> try walk_at "ev")
  | ((with_reducible apply ev_isN) <;> try walk_at "ev")
  | ((with_reducible apply ev_notN) <;> try walk_at "ev")
  | ((with_reducible apply ev_notB) <;> try walk_at "ev")
  | ((with_reducible apply ev_eq) <;> try walk_at "ev")
  | ((with_reducible apply ev_ne) <;> try walk_at "ev")
  | ((with_reducible apply ev_abs) <;> try walk_at "ev")
  | ((with_reducible apply ev_max) <;> try walk_at "ev")
  | ((with_reducible apply ev_bits) <;> try walk_at "ev")
  | ((with_reducible apply ev_gcd) <;> try walk_at "ev")
  | ((with_reducible apply ev_list) <;> try walk_at "ev")
  | ((with_reducible apply ev_tuple) <;> try walk_at "ev")
  | ((with_reducible apply ev_tup) <;> try walk_at "ev")
  | ((with_reducible apply ev_lst) <;> try walk_at "ev")
  | ((with_reducible apply ev_catT) <;> try walk_at "ev")
  | ((with_reducible apply ev_slice) <;> try walk_at "ev")
  | ((with_reducible apply eo_some) <;> try walk_at "ev")
  | ((with_reducible apply ev_notV) <;> try walk_at "ev")
  | ((with_reducible apply et_test) <;> try walk_at "ev")
  | ((with_reducible apply et_B) <;> try walk_at "ev")
  | ((with_reducible apply et_not) <;> try walk_at "ev")
  | ((with_reducible apply ev_lenT); (focus (walk_at "ev"; done)))
  | ((with_reducible apply ev_lenL); (focus (walk_at "ev"; done)))
  | ((with_reducible apply ev_intI); (focus (walk_at "ev"; done)))
  | ((with_reducible apply ev_intB); (focus (walk_at "ev"; done)))
  | ((with_reducible apply ev_ixT); (focus (walk_at "ev"; done)); (focus (walk_at "ev"; done)); (try first | rfl | assumption))
  | ((with_reducible apply ev_ixL); (focus (walk_at "ev"; done)); (focus (walk_at "ev"; done)); (try first | rfl | assumption))
  | ((with_reducible apply ev_call); (focus (walk_at "ev"; done))))
local macro_rules | `(tactic| walk_at "nx") => `(tactic| ((try dsimp only); (try ((with_reducible refine st_next ?_); (try dsimp only))); (try with_reducible refine st_seq ?_)))
section
variable {P : Program} {w : World} {K : PySem.W.Frag} {mg : Str → Option Value} {base : Heap} {f : Addr} {fd : FuncData}
theorem len1 {f : D → Bool} (ds : List D) (d : D) (h : R1B f ds d) : ds.length = 1 := by
  obtain ⟨x, rfl, _⟩ := h
  rfl
theorem ok_is_integer (FR : Free mg) (A : At K mg "is_integer" s_is_integer P_is_integer f fd) : Prm P w K mg base CX0 1 "is_integer" P_is_integer (SpR K (R1B isI)) := by
  refine mk_prm A sc_is_integer len1 (dv_is_integer FR) ?_
  rintro vs ds d H Q hv ⟨x, rfl, rfl⟩ hq
  unfold t_is_integer
  obtain ⟨v, rfl, k⟩ := dpa1 hv
  refine s_ret (en_flat (d := .bool (isI x)) ?_ rfl) (Ex.refl _) hq
  refine ev_is (ev_andV (a := isIntB x) (b := !isBool x) (by walk_at "ev") (fun _ => by walk_at "ev")) ?_
  cases x <;> rfl
theorem ok_is_number (FR : Free mg) (A : At K mg "is_number" s_is_number P_is_number f fd) (c : Prm P w K mg base CX0 1 "is_integer" P_is_integer (SpR K (R1B isI))) : Prm P w K mg base CX0 2 "is_number" P_is_number (SpR K (R1B isNum)) := by
  refine mk_prm A sc_is_number len1 (dv_is_number FR c) ?_
  rintro vs ds d H Q hv ⟨x, rfl, rfl⟩ hq
  unfold t_is_number
  obtain ⟨v, rfl, k⟩ := dpa1 hv
  refine s_ret (en_flat (d := .bool (isNum x)) ?_ rfl) (Ex.refl _) hq
  have h1 : EvD K p0 (tCall (SpR K (R1B isI)) [] E0 (tCons (tVar 0) tNil)) (start N_is_number [v]) H (.bool (isI x)) := by
    walk_at "ev"
    exact ⟨x, rfl, rfl⟩
  cases x with
  | int i => exact ev_is (ev_andV h1 (fun _ => by walk_at "ev")) (by simp [isI, isNum])
  | _ => exact ev_is (ev_andV (b := false) h1 (fun z => by cases z)) rfl
theorem ok_is_value (FR : Free mg) (A : At K mg "is_value" s_is_value P_is_value f fd) (c : Prm P w K mg base CX0 1 "is_integer" P_is_integer (SpR K (R1B isI))) : Prm P w K mg base CX0 2 "is_value" P_is_value (SpR K (R1B isVal)) := by
  refine mk_prm A sc_is_value len1 (dv_is_value FR c) ?_
  rintro vs ds d H Q hv ⟨x, rfl, rfl⟩ hq
  unfold t_is_value
  obtain ⟨v, rfl, k⟩ := dpa1 hv
  refine s_ret (en_flat (d := .bool (isVal x)) ?_ rfl) (Ex.refl _) hq
  have h1 : EvD K p0 (tCall (SpR K (R1B isI)) [] E0 (tCons (tVar 0) tNil)) (start N_is_value [v]) H (.bool (isI x)) := by
    walk_at "ev"
    exact ⟨x, rfl, rfl⟩
  cases x with
  | int i => exact ev_is (ev_andV h1 (fun _ => by walk_at "ev")) (by simp [isI, isVal])
  | _ => exact ev_is (ev_andV (b := false) h1 (fun z => by cases z)) rfl
theorem ok_e_is_base (FR : Free mg) (A : At K mg "e_is_base" s_e_is_base P_e_is_base f fd) (c : Prm P w K mg base CX0 1 "is_integer" P_is_integer (SpR K (R1B isI))) : Prm P w K mg base CX0 2 "e_is_base" P_e_is_base (SpR K (R1B isBase)) := by
  refine mk_prm A sc_e_is_base len1 (dv_e_is_base FR c) ?_
  rintro vs ds d H Q hv ⟨x, rfl, rfl⟩ hq
  unfold t_e_is_base
  obtain ⟨v, rfl, k⟩ := dpa1 hv
  refine s_ret (en_flat (d := .bool (isBase x)) ?_ rfl) (Ex.refl _) hq
  have h1 : EvD K p0 (tCall (SpR K (R1B isI)) [] E0 (tCons (tVar 0) tNil)) (start N_e_is_base [v]) H (.bool (isI x)) := by
    walk_at "ev"
    exact ⟨x, rfl, rfl⟩
  cases x with
  | int i => exact ev_is (ev_andV h1 (fun _ => by walk_at "ev")) (by simp [isI, isBase])
  | _ => exact ev_is (ev_andV (b := false) h1 (fun z => by cases z)) rfl
theorem ok_is_quotient (FR : Free mg) (A : At K mg "is_quotient" s_is_quotient P_is_quotient f fd) (c : Prm P w K mg base CX0 1 "is_integer" P_is_integer (SpR K (R1B isI))) : Prm P w K mg base CX0 2 "is_quotient" P_is_quotient (SpR K (R1B isQ)) := by
  refine mk_prm A sc_is_quotient len1 (dv_is_quotient FR c) ?_
  rintro vs ds d H Q hv ⟨x, rfl, rfl⟩ hq
  obtain ⟨v, rfl, k⟩ := dpa1 hv
  unfold t_is_quotient
  walk_at "nx"
  have no : ∀ (σ : L2.St) (H1 : Hp), Ex H H1 → isQ x = false → tRet (tC (.bl false)) { nx := fun _ H' => Q .non H', rt := Q } σ H1 := fun σ H1 e1 e => by
    rw [e] at hq
    exact s_ret (en_flat ev_bl rfl) e1 hq
  by_cases hx : ∃ a b, x = .tuple [a, b]
  · obtain ⟨a, b, rfl⟩ := hx
    refine s_no (b := false) ?_ rfl pi0 fun H1 r1 => ?_
    · exact et_is (et_or (a := false) (b := false) (et_is (by walk_at "ev") (by rfl)) fun _ => et_is (by walk_at "ev") (by rfl)) (by rfl)
    walk_at "nx"
    refine s_two (by walk_at "ev") pi0 fun v1 v2 H2 r2 k1 k2 => ?_
    walk_at "nx"
    have i1 : EvD K p0 (tCall (SpR K (R1B isI)) [] E0 (tCons (tVar 1) tNil)) [some v, some v1, some v2] H2 (.bool (isI a)) := by
      walk_at "ev"
      exact ⟨a, rfl, rfl⟩
    have i2 : EvD K p0 (tCall (SpR K (R1B isI)) [] E0 (tCons (tVar 2) tNil)) [some v, some v1, some v2] H2 (.bool (isI b)) := by
      walk_at "ev"
      exact ⟨b, rfl, rfl⟩
    by_cases hi : isI a = true ∧ isI b = true
    · obtain ⟨ha, hb⟩ := hi
      obtain ⟨i, rfl⟩ : ∃ i, a = .int i := by cases a <;> first | exact ⟨_, rfl⟩ | cases ha
      obtain ⟨j, rfl⟩ : ∃ j, b = .int j := by cases b <;> first | exact ⟨_, rfl⟩ | cases hb
      refine s_if (et_or (a := false) (b := decide (j < 1)) (et_is (et_not (et_B i1)) (by rfl)) fun _ => et_is (et_or (a := false) (b := decide (j < 1)) (et_is (et_not (et_B i2)) (by rfl)) fun _ => by walk_at "ev") (by rfl)) pi0 (fun h H3 r3 => ?_) (fun h H3 r3 => ?_)
      · refine no _ _ ((r1.trans r2).trans r3).e0 ?_
        have : ¬ (1 ≤ j) := by simpa using h
        simp [isQ, isQf, this]
      · walk_at "nx"
        refine s_ret (d := .bool (isQ (.tuple [.int i, .int j]))) (en_flat ?_ rfl) ((r1.trans r2).trans r3).e0 hq
        have h1 : 1 ≤ j := by simpa using h
        refine ev_is (by walk_at "ev") ?_
        simp [isQ, isQf, h1, PyData.eqv]
        rw [Bool.beq_eq_decide_eq]
        simp only [decide_eq_decide]
        omega
    · have e0 : isQ (.tuple [a, b]) = false := by
        cases a <;> cases b <;> first | rfl | exact absurd ⟨rfl, rfl⟩ hi
      refine s_yes (b := true) ?_ rfl pi0 fun H3 r3 => no _ _ ((r1.trans r2).trans r3).e0 e0
      cases ha : isI a with
      | false => exact et_is (et_or (a := true) (b := true) (et_is (et_not (et_B i1)) (by rw [ha]; rfl)) fun z => by cases z) (by rfl)
      | true =>
        have hb : isI b = false := by cases hb : isI b with
          | false => rfl
          | true => exact absurd ⟨ha, hb⟩ hi
        exact et_is (et_or (a := false) (b := true) (et_is (et_not (et_B i1)) (by rw [ha]; rfl)) fun _ => et_is (et_or (a := true) (b := true) (et_is (et_not (et_B i2)) (by rw [hb]; rfl)) fun z => by cases z) (by rfl)) (by rfl)
  · refine s_yes (b := true) ?_ rfl pi0 fun H1 r1 => ?_
    · cases x with
      | tuple ds =>
        refine et_is (et_or (a := false) (b := true) (et_is (by walk_at "ev") (by rfl)) fun _ => et_is (by walk_at "ev") ?_) (by rfl)
        have : ds.length ≠ 2 := fun e => by
          match ds, e with
          | [a, b], _ => exact hx ⟨a, b, rfl⟩
        have h2 : ¬ ((ds.length : Int) = 2) := by omega
        simp [PyData.eqv, h2]
      | _ => exact et_is (et_or (a := true) (b := true) (et_is (by walk_at "ev") (by rfl)) fun z => by cases z) (by rfl)
    · refine no _ _ r1.e0 ?_
      cases x with
      | tuple ds =>
        match ds, hx with
        | [], _ => rfl
        | [_], _ => simp [isQ, isQf]
        | [a, b], h => exact absurd ⟨a, b, rfl⟩ h
        | _ :: _ :: _ :: _, _ => simp [isQ, isQf]
      | _ => rfl
theorem isQf_q {f : Int → Int → Bool} {d : D} (h : isQf f d = true) : ∃ a b : Int, d = qD (a, b) ∧ 1 ≤ b ∧ Nat.gcd a.natAbs b.natAbs = 1 ∧ f a b = true := by
  unfold isQf at h
  split at h
  · rename_i a b
    simp only [Bool.and_eq_true, decide_eq_true_eq] at h
    exact ⟨a, b, rfl, h.1.1, h.1.2, h.2⟩
  · cases h
theorem isQf_ok {f : Int → Int → Bool} {a b : Int} : isQf f (qD (a, b)) = (decide (1 ≤ b) && decide (Nat.gcd a.natAbs b.natAbs = 1) && f a b) := rfl
theorem isQf_f {f : Int → Int → Bool} {d : D} (h : isQ d = false) : isQf f d = false := by
  cases e : isQf f d with
  | false => rfl
  | true =>
    obtain ⟨a, b, rfl, h1, h2, _⟩ := isQf_q e
    unfold isQ at h
    rw [isQf_ok] at h
    simp [h1, h2] at h
def tupN (n : Nat) : D → Bool
  | .tuple ds => decide (ds.length = n)
  | _ => false
theorem et_tupn {σ : L2.St} {H : Hp} {tl tn : TE} {d : D} {n : Nat} (hk : EvD K p0 tl σ H d) (hn : EvD K p0 tn σ H (.int (n : Int))) :
    EvT p0 (tOr (tNot (tB (tCB (rIsi K) (tCons tl (tCons (tC (.ty "tuple")) tNil))))) (tTest (tOp (rNeD K) (tCB (Evl.rLenS K) (tCons tl tNil)) tn))) σ H (!tupN n d) := by
  cases d with
  | tuple ds =>
    refine et_is (et_or (a := false) (et_is (et_not (et_B (ev_isTup hk))) rfl) fun _ => et_test (ev_ne (ev_lenT hk) hn sh_int sh_int)) ?_
    show (false || !((ds.length : Int) == (n : Int))) = !decide (ds.length = n)
    rw [Bool.false_or, Bool.beq_eq_decide_eq]
    congr 1
    simp only [decide_eq_decide]
    omega
  | _ => exact et_is (et_or (a := true) (b := true) (et_is (et_not (et_B (ev_isTup hk))) rfl) fun z => by cases z) rfl
/-- for x in t: if not g(x): return False -/
theorem s_all {σ : L2.St} {H : Hp} {tl : TE} {T : TT} {F : Ends} {ds : List D} {j : Nat} (g : D → Bool) (h : EvD K p0 tl σ H (.tuple ds))
    (hT : ∀ x d H1, d ∈ ds → Rl p0 H H1 → Dp K H1 x d → EvT p0 T (σ.set j (some x)) H1 (!g d)) (hF : ds.all g = false → ∀ H1, Rl p0 H H1 → F.rt (.bl false) H1) (hN : ds.all g = true → ∀ σ' H1, Rl p0 H H1 → F.nx σ' H1) :
    tFor (iTup K tl) (gName j) (tIfS T (tRet (tC (.bl false))) tNext) F σ H := by
  refine s_forT h pi0 (fun i σ' _ => (∀ y : V, σ'.set j (some y) = σ.set j (some y)) ∧ (ds.take i).all g = true) (fun H1 r1 => ⟨fun _ => rfl, by simp⟩) ?_ ?_
  · rintro H1 r1 i x d σ' H' hd kd r2 ⟨hσ, hg⟩
    show tIfS T (tRet (tC (.bl false))) tNext _ (σ'.set j (some x)) H'
    rw [hσ x]
    have r12 := r1.trans r2
    have hm : d ∈ ds := List.mem_of_getElem? hd
    refine s_if (hT x d H' hm r12 kd) pi0 (fun e H3 r3 => ?_) (fun e H3 r3 => ?_)
    · refine hF ?_ H3 (r12.trans r3)
      cases q : ds.all g with
      | false => rfl
      | true =>
        rw [List.all_eq_true.mp q d hm] at e
        cases e
    · refine ⟨r2.trans r3, fun y => by rw [List.set_set], ?_⟩
      have hlt : i < ds.length := (List.getElem?_eq_some_iff.mp hd).1
      have ed : ds[i] = d := (List.getElem?_eq_some_iff.mp hd).2
      rw [List.take_add_one, List.all_append, hg, hd]
      have : g d = true := by
        cases q : g d with
        | true => rfl
        | false => rw [q] at e; cases e
      simp [this]
  · rintro σ' H' r2 ⟨_, hg⟩
    rw [List.take_length] at hg
    exact hN hg σ' H' r2
theorem ev_net0 {σ : L2.St} {H : Hp} {tl : TE} {c : Net} (h : EvD K p0 tl σ H (netD c)) : EvD K p0 (tCB (Evl.rLenS K) (tCons (tOp (rIx K) tl (tC (.int 0))) tNil)) σ H (.int (c.feeds.length : Int)) :=
  ev_is (ev_lenT (ev_ixT (h : EvD K p0 tl σ H (.tuple _)) ev_int rfl)) (by rw [List.length_map])
theorem ev_net1 {σ : L2.St} {H : Hp} {tl : TE} {c : Net} (h : EvD K p0 tl σ H (netD c)) : EvD K p0 (tCB (Evl.rLenS K) (tCons (tOp (rIx K) tl (tC (.int 1))) tNil)) σ H (.int (c.tanks.length : Int)) :=
  ev_is (ev_lenT (ev_ixT (h : EvD K p0 tl σ H (.tuple _)) ev_int rfl)) (by rw [List.length_map])
theorem ev_net2 {σ : L2.St} {H : Hp} {tl : TE} {c : Net} (h : EvD K p0 tl σ H (netD c)) : EvD K p0 (tCB (Evl.rLenS K) (tCons (tOp (rIx K) tl (tC (.int 2))) tNil)) σ H (.int (c.sws.length : Int)) :=
  ev_is (ev_lenT (ev_ixT (h : EvD K p0 tl σ H (.tuple _)) ev_int rfl)) (by rw [List.length_map])
theorem areQ_no {f : Int → Int → Bool} {n : Nat} {d : D} (h : tupN n d = false) : areQ f n d = false := by
  cases d with
  | tuple ds =>
    have h' : decide (ds.length = n) = false := h
    show (decide (ds.length = n) && ds.all (isQf f)) = false
    rw [h']
    rfl
  | _ => rfl
theorem tupN_t {n : Nat} {d : D} (h : tupN n d = true) : ∃ ds, d = .tuple ds ∧ ds.length = n := by
  cases d with
  | tuple ds => exact ⟨ds, rfl, of_decide_eq_true h⟩
  | _ => cases h
theorem ok_e_is_share (FR : Free mg) (A : At K mg "e_is_share" s_e_is_share P_e_is_share f fd) (c : Prm P w K mg base CX0 2 "is_quotient" P_is_quotient (SpR K (R1B isQ))) : Prm P w K mg base CX0 3 "e_is_share" P_e_is_share (SpR K (R1B isShare)) := by
  refine mk_prm A sc_e_is_share len1 (dv_e_is_share FR c) ?_
  rintro vs ds d H Q hv ⟨x, rfl, rfl⟩ hq
  obtain ⟨v, rfl, k⟩ := dpa1 hv
  unfold t_e_is_share
  refine s_ret (en_flat (d := .bool (isShare x)) ?_ rfl) (Ex.refl _) hq
  have h1 : EvD K p0 (tCall (SpR K (R1B isQ)) [] E0 (tCons (tVar 0) tNil)) (start N_e_is_share [v]) H (.bool (isQ x)) := by
    walk_at "ev"
    exact ⟨x, rfl, rfl⟩
  cases hx : isQ x with
  | false =>
    rw [hx] at h1
    exact ev_is (ev_andV (b := false) h1 (fun z => by cases z)) (by rw [show isShare x = false from isQf_f hx]; rfl)
  | true =>
    rw [hx] at h1
    obtain ⟨a, b, rfl, h2, h3, _⟩ := isQf_q hx
    refine ev_is (ev_andV h1 (fun _ => by walk_at "ev")) ?_
    unfold isShare
    rw [isQf_ok]
    simp [h2, h3]
theorem ok_e_is_flows (FR : Free mg) (A : At K mg "e_is_flows" s_e_is_flows P_e_is_flows f fd) (c : Prm P w K mg base CX0 2 "is_quotient" P_is_quotient (SpR K (R1B isQ))) : Prm P w K mg base CX0 3 "e_is_flows" P_e_is_flows (SpR K Rflows) := by
  refine mk_prm A sc_e_is_flows (fun ds d ⟨c, x, e, _⟩ => by rw [e]; rfl) (dv_e_is_flows FR c) ?_
  rintro vs ds d H Q hv ⟨c, x, rfl, rfl⟩ hq
  obtain ⟨v, v2, rfl, k, k2⟩ := dpa2 hv
  unfold t_e_is_flows
  walk_at "nx"
  refine s_if (et_tupn (d := x) (n := c.sws.length) (by walk_at "ev") (ev_net2 (by walk_at "ev"))) pi0 (fun h H1 r1 => ?_) (fun h H1 r1 => ?_)
  · rw [areQ_no (by simpa using h)] at hq
    exact s_ret (en_flat ev_bl rfl) r1.e0 hq
  · obtain ⟨es, rfl, hl⟩ := tupN_t (by simpa using h : tupN c.sws.length x = true)
    have ha : areQ (fun a _ => decide (0 ≤ a)) c.sws.length (.tuple es) = es.all (isQf fun a _ => decide (0 ≤ a)) := by
      show (decide (es.length = c.sws.length) && _) = _
      rw [decide_eq_true hl, Bool.true_and]
    rw [ha] at hq
    walk_at "nx"
    refine s_all (isQf fun a _ => decide (0 ≤ a)) (by walk_at "ev") (fun y d H2 hm r2 kd => ?_) (fun e H2 r2 => ?_) (fun e σ' H2 r2 => ?_)
    · have kd' : Dp K (vw p0 H2) y d := kd
      have h1 : EvD K p0 (tCall (SpR K (R1B isQ)) [] E0 (tCons (tVar 2) tNil)) ((start N_e_is_flows [v, v2]).set 2 (some y)) H2 (.bool (isQ d)) := by
        walk_at "ev"
        exact ⟨d, rfl, rfl⟩
      cases hx : isQ d with
      | false =>
        rw [hx] at h1
        rw [isQf_f hx]
        exact et_is (et_or (b := true) (et_not (et_B h1)) (fun z => by cases z)) rfl
      | true =>
        rw [hx] at h1
        obtain ⟨a, b, rfl, h2, h3, _⟩ := isQf_q hx
        refine et_is (et_or (et_not (et_B h1)) fun _ => by walk_at "ev") ?_
        rw [isQf_ok]
        simp [h2, h3]
        by_cases q : a < 0 <;> simp [q] <;> omega
    · rw [e] at hq
      exact hq _ _ (r1.trans r2).e0 (.bl _)
    · rw [e] at hq
      walk_at "nx"
      exact s_ret (en_flat ev_bl rfl) (r1.trans r2).e0 hq
theorem ok_e_is_rooms (FR : Free mg) (A : At K mg "e_is_rooms" s_e_is_rooms P_e_is_rooms f fd) (c : Prm P w K mg base CX0 2 "is_quotient" P_is_quotient (SpR K (R1B isQ))) : Prm P w K mg base CX0 3 "e_is_rooms" P_e_is_rooms (SpR K Rrooms) := by
  refine mk_prm A sc_e_is_rooms (fun ds d ⟨c, x, e, _⟩ => by rw [e]; rfl) (dv_e_is_rooms FR c) ?_
  rintro vs ds d H Q hv ⟨c, x, rfl, rfl⟩ hq
  obtain ⟨v, v2, rfl, k, k2⟩ := dpa2 hv
  unfold t_e_is_rooms
  walk_at "nx"
  refine s_if (et_tupn (d := x) (n := c.tanks.length) (by walk_at "ev") (ev_net1 (by walk_at "ev"))) pi0 (fun h H1 r1 => ?_) (fun h H1 r1 => ?_)
  · rw [areQ_no (by simpa using h)] at hq
    exact s_ret (en_flat ev_bl rfl) r1.e0 hq
  · obtain ⟨es, rfl, hl⟩ := tupN_t (by simpa using h : tupN c.tanks.length x = true)
    have ha : areQ (fun a _ => decide (0 < a)) c.tanks.length (.tuple es) = es.all (isQf fun a _ => decide (0 < a)) := by
      show (decide (es.length = c.tanks.length) && _) = _
      rw [decide_eq_true hl, Bool.true_and]
    rw [ha] at hq
    walk_at "nx"
    refine s_all (isQf fun a _ => decide (0 < a)) (by walk_at "ev") (fun y d H2 hm r2 kd => ?_) (fun e H2 r2 => ?_) (fun e σ' H2 r2 => ?_)
    · have kd' : Dp K (vw p0 H2) y d := kd
      have h1 : EvD K p0 (tCall (SpR K (R1B isQ)) [] E0 (tCons (tVar 2) tNil)) ((start N_e_is_rooms [v, v2]).set 2 (some y)) H2 (.bool (isQ d)) := by
        walk_at "ev"
        exact ⟨d, rfl, rfl⟩
      cases hx : isQ d with
      | false =>
        rw [hx] at h1
        rw [isQf_f hx]
        exact et_is (et_or (b := true) (et_not (et_B h1)) (fun z => by cases z)) rfl
      | true =>
        rw [hx] at h1
        obtain ⟨a, b, rfl, h2, h3, _⟩ := isQf_q hx
        refine et_is (et_or (et_not (et_B h1)) fun _ => by walk_at "ev") ?_
        rw [isQf_ok]
        simp [h2, h3]
        by_cases q : a ≤ 0 <;> simp [q] <;> omega
    · rw [e] at hq
      exact hq _ _ (r1.trans r2).e0 (.bl _)
    · rw [e] at hq
      walk_at "nx"
      exact s_ret (en_flat ev_bl rfl) (r1.trans r2).e0 hq
theorem ok_e_is_charges (FR : Free mg) (A : At K mg "e_is_charges" s_e_is_charges P_e_is_charges f fd) (c : Prm P w K mg base CX0 3 "e_is_share" P_e_is_share (SpR K (R1B isShare))) : Prm P w K mg base CX0 4 "e_is_charges" P_e_is_charges (SpR K Rcharges) := by
  refine mk_prm A sc_e_is_charges (fun ds d ⟨c, x, e, _⟩ => by rw [e]; rfl) (dv_e_is_charges FR c) ?_
  rintro vs ds d H Q hv ⟨c, x, rfl, rfl⟩ hq
  obtain ⟨v, v2, rfl, k, k2⟩ := dpa2 hv
  unfold t_e_is_charges
  walk_at "nx"
  refine s_if (et_tupn (d := x) (n := c.n) (by walk_at "ev") (ev_is (ev_I0 (ev_net0 (by walk_at "ev")) (ev_net1 (by walk_at "ev"))) (by rw [← Int.natCast_add]; rfl))) pi0 (fun h H1 r1 => ?_) (fun h H1 r1 => ?_)
  · rw [areQ_no (by simpa using h)] at hq
    exact s_ret (en_flat ev_bl rfl) r1.e0 hq
  · obtain ⟨es, rfl, hl⟩ := tupN_t (by simpa using h : tupN c.n x = true)
    have ha : areQ (fun a b => decide (0 ≤ a) && decide (a ≤ b)) c.n (.tuple es) = es.all isShare := by
      show (decide (es.length = c.n) && _) = _
      rw [decide_eq_true hl, Bool.true_and]
      rfl
    rw [ha] at hq
    walk_at "nx"
    refine s_all isShare (by walk_at "ev") (fun y d H2 hm r2 kd => ?_) (fun e H2 r2 => ?_) (fun e σ' H2 r2 => ?_)
    · have kd' : Dp K (vw p0 H2) y d := kd
      have h1 : EvD K p0 (tCall (SpR K (R1B isShare)) [] E0 (tCons (tVar 2) tNil)) ((start N_e_is_charges [v, v2]).set 2 (some y)) H2 (.bool (isShare d)) := by
        walk_at "ev"
        exact ⟨d, rfl, rfl⟩
      exact et_not (et_B h1)
    · rw [e] at hq
      exact hq _ _ (r1.trans r2).e0 (.bl _)
    · rw [e] at hq
      walk_at "nx"
      exact s_ret (en_flat ev_bl rfl) (r1.trans r2).e0 hq
theorem sm_two {n : Nat} {i j : Int} {m : Nat} (h1 : Sm n i) (h2 : Sm m j) : Sm (n + m) (i * j) := wide_lt h1 h2
theorem sm_mul {n m : Nat} {i j : Int} (h1 : Sm n i) (h2 : Sm m j) (h0 : 0 < n) (h3 : 0 < m) (h : n + m ≤ 1000000) : CMulW i j := wide_mul h1 h2 h0 h3 h
theorem sm_mono {n m : Nat} {i : Int} (h : Sm n i) (l : n ≤ m) : Sm m i := Nat.lt_of_lt_of_le h (Nat.pow_le_pow_right (by decide) l)
theorem sm_sub {n : Nat} {i j : Int} (h1 : Sm n i) (h2 : Sm n j) : Sm (n + 1) (i - j) := by
  unfold Sm at *
  have : (2 : Nat) ^ (n + 1) = 2 ^ n * 2 := Nat.pow_succ ..
  omega
theorem ok_is_below (FR : Free mg) (A : At K mg "_is_below" s_is_below P_is_below f fd) : Prm P w K mg base CX0 1 "_is_below" P_is_below (SpR K Rbelow) := by
  refine mk_prm A sc_is_below (fun ds d ⟨a, b, c, e, z, _⟩ => by rw [z]; rfl) (dv_is_below FR) ?_
  rintro vs ds d H Q hv ⟨a, b, c, e, rfl, h1, h2, h3, h4, rfl⟩ hq
  obtain ⟨v, v2, rfl, k, k2⟩ := dpa2 hv
  unfold t_is_below
  refine s_ret (en_flat ?_ rfl) (Ex.refl _) hq
  unfold qD at k k2
  refine ev_is (by
    walk_at "ev"
    · exact sm_mul h1 h4 (by decide) (by decide) (by decide)
    · exact sm_mul h3 h2 (by decide) (by decide) (by decide)) rfl
theorem gcd_pos {t b : Int} (h : 0 < b) : 0 < Nat.gcd t.natAbs b.natAbs := Nat.gcd_pos_of_pos_right _ (by omega)
theorem gcd_small {n : Nat} {t b : Int} (h : 0 < b) (hb : Sm n b) : Sm n ((Nat.gcd t.natAbs b.natAbs : Nat) : Int) := by
  unfold Sm at *
  have := Nat.gcd_le_right t.natAbs (n := b.natAbs) (by omega)
  omega
theorem ok_lowest (FR : Free mg) (A : At K mg "_lowest" s_lowest P_lowest f fd) : Prm P w K mg base CX0 1 "_lowest" P_lowest (SpR K Rlowest) := by
  refine mk_prm A sc_lowest (fun ds d ⟨a, b, z, _⟩ => by rw [z]; rfl) (dv_lowest FR) ?_
  rintro vs ds d H Q hv ⟨t, b, rfl, h1, h2, h3, rfl⟩ hq
  obtain ⟨v, v2, rfl, k, k2⟩ := dpa2 hv
  unfold t_lowest
  walk_at "nx"
  refine s_asg (K := K) (by walk_at "ev") pi0 fun v3 H1 r1 k3 => ?_
  walk_at "nx"
  refine s_no (b := false) (et_is (by walk_at "ev") ?_) rfl pi0 fun H2 r2 => ?_
  · simp
    omega
  walk_at "nx"
  have hg := gcd_pos (t := t) h1
  have hs := gcd_small (t := t) h1 h3
  refine s_ret (en_tup (ds := [.int (t / (Nat.gcd t.natAbs b.natAbs : Nat)), .int (b / (Nat.gcd t.natAbs b.natAbs : Nat))]) ?_ rfl (by simp)) (r1.trans r2).e0 hq
  walk_at "ev"
  · exact wide_div (by omega) hs (by decide) (by decide)
  · exact wide_div (by omega) hs (by decide) (by decide)
theorem isQ_q {a b : Int} (h1 : 1 ≤ b) (h2 : Nat.gcd a.natAbs b.natAbs = 1) : isQ (qD (a, b)) = true := by
  unfold isQ
  rw [isQf_ok]
  simp [h1, h2]
theorem isQ_b {a b : Int} (h : isQ (qD (a, b)) = true) : 1 ≤ b := by
  obtain ⟨a', b', e, h1, _⟩ := isQf_q h
  have e' : (PyData.tuple [.int a, .int b]) = .tuple [.int a', .int b'] := e
  cases e'
  exact h1
theorem ok_ask_two (FR : Free mg) (A : At K mg "_ask_two" s_ask_two P_ask_two f fd) (c : Prm P w K mg base CX0 2 "is_quotient" P_is_quotient (SpR K (R1B isQ))) : Prm P w K mg base CX0 3 "_ask_two" P_ask_two (SpR K Rask2) := by
  refine mk_prm A sc_ask_two (fun ds d ⟨a, b, z, _⟩ => by rw [z]; rfl) (dv_ask_two FR c) ?_
  rintro vs ds d H Q hv ⟨x, y, rfl, hx, hy, rfl⟩ hq
  obtain ⟨v, v2, rfl, k, k2⟩ := dpa2 hv
  unfold t_ask_two
  walk_at "nx"
  refine s_no (b := false) (et_not (a := true) (et_B (K := K) ?_)) rfl pi0 fun H1 r1 => ?_
  · exact ev_call (by walk_at "ev") ⟨x, rfl, by rw [hx]⟩
  walk_at "nx"
  refine s_no (b := false) (et_not (a := true) (et_B (K := K) ?_)) rfl pi0 fun H2 r2 => ?_
  · exact ev_call (by walk_at "ev") ⟨y, rfl, by rw [hy]⟩
  exact hq _ _ (r1.trans r2).e0 .non
theorem ok_minus (FR : Free mg) (A : At K mg "minus" s_minus P_minus f fd) (c1 : Prm P w K mg base CX0 3 "_ask_two" P_ask_two (SpR K Rask2)) (c2 : Prm P w K mg base CX0 1 "_lowest" P_lowest (SpR K Rlowest)) : Prm P w K mg base CX0 4 "minus" P_minus (SpR K Rminus) := by
  refine mk_prm A sc_minus (fun ds d ⟨a, b, c, e, z, _⟩ => by rw [z]; rfl) (dv_minus FR c1 c2) ?_
  rintro vs ds d H Q hv ⟨a, b, c, e, rfl, q1, q2, h1, h2, h3, h4, rfl⟩ hq
  obtain ⟨v, v2, rfl, k, k2⟩ := dpa2 hv
  unfold t_minus
  walk_at "nx"
  refine s_drop (ev_call (by walk_at "ev") ⟨_, _, rfl, q1, q2, rfl⟩) pi0 fun H1 r1 => ?_
  walk_at "nx"
  have hb := isQ_b q1
  have he := isQ_b q2
  have hbe : 0 < b * e := Int.mul_pos (by omega) (by omega)
  unfold qD at k k2
  refine s_ret (en_call (ds := [.int (a * e - c * b), .int (b * e)]) ?_ ⟨_, _, rfl, hbe, ?_, ?_, rfl⟩) r1.e0 hq
  · walk_at "ev"
    · exact sm_mul h1 h4 (by decide) (by decide) (by decide)
    · exact sm_mul h3 h2 (by decide) (by decide) (by decide)
    · exact sm_mul h2 h4 (by decide) (by decide) (by decide)
  · exact sm_mono (sm_sub (sm_two h1 h4) (sm_two h3 h2)) (by decide)
  · exact sm_mono (sm_two h2 h4) (by decide)
theorem ok_is_less (FR : Free mg) (A : At K mg "is_less" s_is_less P_is_less f fd) (c1 : Prm P w K mg base CX0 3 "_ask_two" P_ask_two (SpR K Rask2)) (c2 : Prm P w K mg base CX0 1 "_is_below" P_is_below (SpR K Rbelow)) : Prm P w K mg base CX0 4 "is_less" P_is_less (SpR K Rless) := by
  refine mk_prm A sc_is_less (fun ds d ⟨a, b, c, e, z, _⟩ => by rw [z]; rfl) (dv_is_less FR c1 c2) ?_
  rintro vs ds d H Q hv ⟨a, b, c, e, rfl, q1, q2, h1, h2, h3, h4, rfl⟩ hq
  obtain ⟨v, v2, rfl, k, k2⟩ := dpa2 hv
  unfold t_is_less
  walk_at "nx"
  refine s_drop (ev_call (by walk_at "ev") ⟨_, _, rfl, q1, q2, rfl⟩) pi0 fun H1 r1 => ?_
  walk_at "nx"
  exact s_ret (en_call (by walk_at "ev") ⟨a, b, c, e, rfl, h1, h2, h3, h4, rfl⟩) r1.e0 hq
theorem ok_power (FR : Free mg) (A : At K mg "power" s_power P_power f fd) (c1 : Prm P w K mg base CX0 1 "is_integer" P_is_integer (SpR K (R1B isI))) (c2 : Prm P w K mg base CX0 2 "is_number" P_is_number (SpR K (R1B isNum))) : Prm P w K mg base CX0 3 "power" P_power (SpR K Rpower) := by
  refine mk_prm A sc_power (fun ds d ⟨a, b, z, _⟩ => by rw [z]; rfl) (dv_power FR c1 c2) ?_
  rintro vs ds d H Q hv ⟨b, n, rfl, h0, h1, h2, rfl⟩ hq
  obtain ⟨v, v2, rfl, k, k2⟩ := dpa2 hv
  have e1 : v = .int b := dp_int k
  have e2 : v2 = .int n := dp_int k2
  subst e1 e2
  unfold t_power
  walk_at "nx"
  refine s_no (b := false) (et_not (a := true) (et_B (K := K) ?_)) rfl pi0 fun H1 r1 => ?_
  · exact ev_call (by walk_at "ev") ⟨_, rfl, rfl⟩
  walk_at "nx"
  refine s_no (b := false) ?_ rfl pi0 fun H2 r2 => ?_
  · refine et_is (et_or (a := false) (b := false) (et_not (a := true) (et_B (ev_call (by walk_at "ev") ⟨_, rfl, by simp [isNum, h0]⟩))) fun _ => et_is (by walk_at "ev") ?_) rfl
    simp
    omega
  walk_at "nx"
  refine s_asg (K := K) (by walk_at "ev") pi0 fun v3 H3 r3 k3 => ?_
  have e3 : v3 = .int 1 := dp_int k3
  subst e3
  walk_at "nx"
  refine s_forR (n := n) (by walk_at "ev") (by omega) (by omega) pi0 (fun i σ' _ => ∃ y, σ' = [some (.int b), some (.int n), some (.int (b ^ i)), y]) (fun H4 r4 => ⟨none, by rw [Int.pow_zero]; rfl⟩) ?_ ?_
  · rintro H4 r4 i σ' H' hi r5 ⟨y, rfl⟩
    refine s_aug (a := b ^ i) (b := b) rfl (by walk_at "ev") (.inr ?_) pi0 fun H6 r6 => ?_
    · unfold Sm at h2
      omega
    · exact ⟨r5.trans r6, _, by rw [Int.pow_succ]; rfl⟩
  · rintro σ' H' r4 ⟨y, rfl⟩
    walk_at "nx"
    refine s_ret (en_flat ?_ rfl) ((r1.trans r2).trans (r3.trans r4)).e0 hq
    walk_at "ev"
theorem ok_e_span (FR : Free mg) (A : At K mg "e_span" s_e_span P_e_span f fd) (c1 : Prm P w K mg base CX0 3 "power" P_power (SpR K Rpower)) : Prm P w K mg base CX0 4 "e_span" P_e_span (SpR K Rspan) := by
  refine mk_prm A sc_e_span (fun ds d ⟨a, b, z, _⟩ => by rw [z]; rfl) (dv_e_span FR c1) ?_
  rintro vs ds d H Q hv ⟨b, g, rfl, h0, h1, h2, rfl⟩ hq
  obtain ⟨v, v2, rfl, k, k2⟩ := dpa2 hv
  unfold t_e_span
  walk_at "nx"
  refine s_asg (ev_call (ds := [.int b, .int (2 * g)]) ?_ ⟨b, 2 * g, rfl, by omega, by omega, h2, rfl⟩) pi0 fun v3 H1 r1 k3 => ?_
  · walk_at "ev"
    exact .inl ⟨by decide, by decide⟩
  walk_at "nx"
  refine s_ret (en_tup (ds := [.int (b ^ (2 * g).toNat), .int (b ^ (2 * g).toNat * b)]) ?_ rfl (by simp)) r1.e0 hq
  walk_at "ev"
  refine .inr ?_
  unfold Sm at h2
  omega
end
end Ky
set_option Elab.async false
set_option linter.all false
set_option maxRecDepth 4000
set_option maxHeartbeats 1000000
namespace Ky
open PySem PySem.Spec PyProof.Rows L2
local macro_rules | `(tactic| walk_at "rl") => `(tactic| first | assumption | exact Rl.refl pi0 | exact Rl.refl (by assumption) | exact Rl.refl (Rl.pi (by assumption)) | (refine Rl.trans (by assumption) ?_; walk_at "rl"))
local macro_rules | `(tactic| walk_at "ev") => `(tactic| first
  | with_reducible exact ev_int | with_reducible exact ev_bl | with_reducible exact ev_str | with_reducible exact ev_non
  | ((with_reducible apply ev_var); (focus exact rfl); (focus assumption); (focus walk_at "rl"))
  | ((with_reducible apply ev_slot); (focus exact rfl); (focus first | exact fun _ => Dp.int _ | exact fun _ => Dp.bl _ | exact fun _ => Dp.str _ | exact fun _ => Dp.non))
  | with_reducible exact ea_nil | with_reducible exact eo_none | with_reducible exact et_yes
  | with_reducible exact sh_int | with_reducible exact sh_bool | with_reducible exact sh_non
  | ((with_reducible apply ea_cons) <;> try walk_at "ev")
  | ((with_reducible apply ev_I0) <;> try walk_at "ev")
  | ((with_reducible apply ev_B0) <;> try walk_at "ev")
  | ((with_reducible apply ev_IC) <;> try walk_at "ev")
  | ((with_reducible apply ev_neg) <;> try walk_at "ev")
  | ((with_reducible apply ev_chain) <;> try walk_at "ev")
  | ((with_reducible apply ev_isTup) <;> try walk_at "ev")
  | ((with_reducible apply ev_isInt) <;> try walk_at "ev")
  | ((with_reducible apply ev_isBool) <;> try walk_at "ev")
  | ((with_reducible apply ev_isStr) <;> try walk_at "ev")
  | ((with_reducible apply ev_isLst) <;> try walk_at "ev")
  | ((with_reducible apply ev_isN) <;> try walk_at "ev")
  | ((with_reducible apply ev_notN) <;> try walk_at "ev")
  | ((with_reducible apply ev_notB) <;> try walk_at "ev")
  | ((with_reducible apply ev_eq) <;> try walk_at "ev")
  | ((with_reducible apply ev_ne) <;> try walk_at "ev")
  | ((with_reducible apply ev_abs) <;> try walk_at "ev")
  | ((with_reducible apply ev_max) <;> try walk_at "ev")
  | ((with_reducible apply ev_bits) <;> try walk_at "ev")
  | ((with_reducible apply ev_gcd) <;> try walk_at "ev")
  | ((with_reducible apply ev_list) <;> try walk_at "ev")
  | ((with_reducible apply ev_tuple) <;> try walk_at "ev")
  | ((with_reducible apply ev_tup) <;> try walk_at "ev")
  | ((with_reducible apply ev_lst) <;> try walk_at "ev")
  | ((with_reducible apply ev_catT) <;> try walk_at "ev")
  | ((with_reducible apply ev_slice) <;> try walk_at "ev")
  | ((with_reducible apply eo_some) <;> try walk_at "ev")
  | ((with_reducible apply ev_notV) <;> try walk_at "ev")
  | ((with_reducible apply et_test) <;> try walk_at "ev")
  | ((with_reducible apply et_B) <;> try walk_at "ev")
  | ((with_reducible apply et_not) <;> try walk_at "ev")
  | ((with_reducible apply ev_lenT); (focus (walk_at "ev"; done)))
  | ((with_reducible apply ev_lenL); (focus (walk_at "ev"; done)))
  | ((with_reducible apply ev_intI); (focus (walk_at "ev"; done)))
  | ((with_reducible apply ev_intB); (focus (walk_at "ev"; done)))
  | ((with_reducible apply ev_ixT); (focus (walk_at "ev"; done)); (focus (walk_at "ev"; done)); (try first | rfl | assumption))
  | ((with_reducible apply ev_ixL); (focus (walk_at "ev"; done)); (focus (walk_at "ev"; done)); (try first | rfl | assumption))
  | ((with_reducible apply ev_call); (focus (walk_at "ev"; done))))
local macro_rules | `(tactic| walk_at "nx") => `(tactic| ((try dsimp only); (try ((with_reducible refine st_next ?_); (try dsimp only))); (try with_reducible refine st_seq ?_)))
section
variable {P : Program} {w : World} {K : PySem.W.Frag} {mg : Str → Option Value} {base : Heap} {f : Addr} {fd : FuncData}
def pc (d : D) (s : Sw) : Bool := isVal d && !(decide (s.kind = "tie") && !one d)
theorem posAll_iff : ∀ {ds : List D} {ss : List Sw}, posAll ds ss = true ↔ ∀ (i : Nat) (d : D) (s : Sw), ds[i]? = some d → ss[i]? = some s → pc d s = true
  | [], _ => by
    constructor
    · intro _ i d s h; simp at h
    · intro _; rfl
  | _ :: _, [] => by
    constructor
    · intro _ i d s _ h; simp at h
    · intro _; rfl
  | d :: ds, s :: ss => by
    show (pc d s && posAll ds ss) = true ↔ _
    rw [Bool.and_eq_true, posAll_iff]
    constructor
    · rintro ⟨h1, h2⟩ i d' s' e1 e2
      cases i with
      | zero => simp at e1 e2; subst e1 e2; exact h1
      | succ i => exact h2 i d' s' (by simpa using e1) (by simpa using e2)
    · intro h
      exact ⟨h 0 d s rfl rfl, fun i d' s' e1 e2 => h (i + 1) d' s' (by simpa using e1) (by simpa using e2)⟩
theorem eqv_str {a b : Str} : PyData.eqv (.str a) (.str b) = decide (a = b) := by
  show (a == b) = decide (a = b)
  exact Bool.beq_eq_decide_eq a b
theorem eqv_int {a b : Int} : PyData.eqv (.int a) (.int b) = decide (a = b) := by
  show (a == b) = decide (a = b)
  exact Bool.beq_eq_decide_eq a b
theorem isVal_int {d : D} (h : isVal d = true) : ∃ i, d = .int i ∧ 0 ≤ i ∧ i ≤ 2 := by
  cases d with
  | int i =>
    have h' : (decide (0 ≤ i) && decide (i ≤ 2)) = true := h
    simp at h'
    exact ⟨i, rfl, h'⟩
  | _ => cases h
theorem ok_is_positions (FR : Free mg) (A : At K mg "is_positions" s_is_positions P_is_positions f fd) (c : Prm P w K mg base CX0 2 "is_value" P_is_value (SpR K (R1B isVal))) : Prm P w K mg base CX0 3 "is_positions" P_is_positions (SpR K Rpos) := by
  refine mk_prm A sc_is_positions (fun ds d ⟨c, x, e, _⟩ => by rw [e]; rfl) (dv_is_positions FR c) ?_
  rintro vs ds d H Q hv ⟨c, x, rfl, hk, rfl⟩ hq
  obtain ⟨v, v2, rfl, k, k2⟩ := dpa2 hv
  unfold t_is_positions
  walk_at "nx"
  refine s_if (et_tupn (d := x) (n := c.sws.length) (by walk_at "ev") (ev_net2 (by walk_at "ev"))) pi0 (fun h H1 r1 => ?_) (fun h H1 r1 => ?_)
  · have e : posOk c x = false := by
      have h' : tupN c.sws.length x = false := by simpa using h
      cases x with
      | tuple ds =>
        have h2 : decide (ds.length = c.sws.length) = false := h'
        show (decide (ds.length = c.sws.length) && _) = false
        rw [h2]; rfl
      | _ => rfl
    rw [e] at hq
    exact s_ret (en_flat ev_bl rfl) r1.e0 hq
  · obtain ⟨es, rfl, hl⟩ := tupN_t (by simpa using h : tupN c.sws.length x = true)
    have ha : posOk c (.tuple es) = posAll es c.sws := by
      show (decide (es.length = c.sws.length) && _) = _
      rw [decide_eq_true hl, Bool.true_and]
    rw [ha] at hq
    walk_at "nx"
    refine s_forZ (K := K) (ds := es) (es := c.sws.map swD) (by walk_at "ev") (ev_ixT (ds := [.tuple (c.feeds.map PyData.str), .tuple (c.tanks.map tkD), .tuple (c.sws.map swD)]) (by walk_at "ev") ev_int rfl) (by rw [List.length_map]; exact hl) pi0
      (fun i σ' _ => (∃ a b, σ' = [some v, some v2, a, b]) ∧ ∀ j, j < i → ∀ d s, es[j]? = some d → c.sws[j]? = some s → pc d s = true) (fun H2 r2 => ⟨⟨none, none, rfl⟩, fun j hj => absurd hj (Nat.not_lt_zero j)⟩) ?_ ?_
    · rintro H2 r2 i a b d e σ' H3 H4 hd he r3 ⟨⟨a0, b0, rfl⟩, inv⟩ r4 kd ke
      obtain ⟨s, hs, rfl⟩ : ∃ s, c.sws[i]? = some s ∧ e = swD s := by
        rw [List.getElem?_map] at he
        cases q : c.sws[i]? with
        | none => rw [q] at he; cases he
        | some s => rw [q] at he; exact ⟨s, rfl, (Option.some.inj he).symm⟩
      have hsk := hk s (List.mem_of_getElem? hs)
      have ht : EvT p0 (tOr (tNot (tB (tCall (SpR K (R1B isVal)) [] E0 (tCons (tVar 2) tNil)))) (tAnd (tTest (tOp (rEqD K) (tOp (rIx K) (tVar 3) (tC (.int 0))) (tC (.str "tie")))) (tTest (tOp (rNeD K) (tVar 2) (tC (.int 1)))))) [some v, some v2, some a, some b] H4 (!pc d s) := by
        have h1 : EvD K p0 (tCall (SpR K (R1B isVal)) [] E0 (tCons (tVar 2) tNil)) [some v, some v2, some a, some b] H4 (.bool (isVal d)) := by
          walk_at "ev"
          exact ⟨d, rfl, rfl⟩
        cases hv : isVal d with
        | false =>
          rw [hv] at h1
          exact et_is (et_or (b := true) (et_not (et_B h1)) fun z => by cases z) (by unfold pc; rw [hv]; rfl)
        | true =>
          rw [hv] at h1
          obtain ⟨z, rfl, _⟩ := isVal_int hv
          have ke' : Dp K (vw p0 H4) b (.tuple [.str s.kind, .int s.strength, .int s.gate, .int s.left, .int s.right]) := ke
          refine et_is (et_or (et_not (et_B h1)) fun _ => et_and (a := decide (s.kind = "tie")) (b := !decide (z = 1)) (et_test (K := K) ?_) fun _ => et_test (K := K) ?_) ?_
          · exact ev_is (ev_eq (ev_ixT (by walk_at "ev") ev_int rfl) ev_str (by unfold SeqAt.shaped; simp [PyData.canLay0, PyData.depth, hsk]) (by decide +kernel)) (by rw [eqv_str])
          · exact ev_is (ev_ne (by walk_at "ev") ev_int sh_int sh_int) (by rw [eqv_int])
          · unfold pc
            rw [hv]
            simp [one]
      refine s_if ht pi0 (fun e H5 r5 => ?_) (fun e H5 r5 => ?_)
      · have : posAll es c.sws = false := by
          cases q : posAll es c.sws with
          | false => rfl
          | true =>
            rw [posAll_iff.mp q i d s hd hs] at e
            cases e
        rw [this] at hq
        exact hq _ _ (((r1.trans r2).trans (r3.trans r4)).trans r5).e0 (.bl _)
      · refine ⟨(r3.trans r4).trans r5, ⟨_, _, rfl⟩, fun j hj d' s' h1 h2 => ?_⟩
        by_cases hji : j < i
        · exact inv j hji d' s' h1 h2
        · have : j = i := by omega
          subst this
          rw [hd] at h1
          rw [hs] at h2
          cases h1
          cases h2
          cases q : pc d s with
          | true => rfl
          | false => rw [q] at e; cases e
    · rintro σ' H2 r2 ⟨⟨a0, b0, rfl⟩, inv⟩
      have : posAll es c.sws = true := posAll_iff.mpr fun i d s h1 h2 => inv i (List.getElem?_eq_some_iff.mp h1).1 d s h1 h2
      rw [this] at hq
      walk_at "nx"
      exact s_ret (en_flat ev_bl rfl) (r1.trans r2).e0 hq
theorem ev_allval {σ : L2.St} {H : Hp} {tl : TE} {j : Nat} {ds : List D} (h : EvD K p0 tl σ H (.tuple ds)) (hl : ds.length ≤ 1000) (hj : j < σ.length) :
    EvD K p0 (tLc (iTup K tl) (gName j) tYes (tCall (SpR K (R1B isVal)) [] E0 (tCons (tVar j) tNil)) [j]) σ H (.list ((ds.map isVal).map PyData.bool)) := by
  refine (evp_lcT (fun i acc => acc = ((ds.take i).map isVal).map PyData.bool) h (by omega) (wipe_one σ) rfl ?_).imp ?_
  · rintro H0 r0 i x d hd p' H' hp w' up kd acc rfl
    refine ⟨true, et_yes, fun _ => ⟨fun e => e = .bool (isVal d), ?_, fun e he => ?_⟩, fun z => by cases z⟩
    · exact ev_call (ea_cons (ev_var (by simp [wipe, hj]) kd (Rl.refl w')) ea_nil) ⟨d, rfl, rfl⟩
    · show _ = ((ds.take (i + 1)).map isVal).map PyData.bool
      rw [he, List.take_add_one, hd]
      simp
  · rintro d ⟨es, rfl, he⟩
    rw [he, List.take_length]
theorem all_map {ds : List D} : ((ds.map isVal).all id) = ds.all isVal := by
  rw [List.all_map]
  rfl
theorem ok_begins_as_held (FR : Free mg) (A : At K mg "_begins_as_held" s_begins_as_held P_begins_as_held f fd) (c : Prm P w K mg base CX0 2 "is_value" P_is_value (SpR K (R1B isVal))) : Prm P w K mg base CX0 3 "_begins_as_held" P_begins_as_held (SpR K Rheld0) := by
  refine mk_prm A sc_begins_as_held (fun ds d ⟨c, x, e, _⟩ => by rw [e]; rfl) (dv_begins_as_held FR c) ?_
  rintro vs ds d H Q hv ⟨n, x, rfl, hn, hn2, rfl⟩ hq
  obtain ⟨v, v2, rfl, k, k2⟩ := dpa2 hv
  unfold t_begins_as_held
  walk_at "nx"
  refine s_if (et_tupn (d := x) (n := n) (by walk_at "ev") (by walk_at "ev")) pi0 (fun h H1 r1 => ?_) (fun h H1 r1 => ?_)
  · have e : heldOk n x = false := by
      have h' : tupN n x = false := by simpa using h
      cases x with
      | tuple ds =>
        have h2 : decide (ds.length = n) = false := h'
        show (decide (ds.length = n) && _ && _ && _) = false
        rw [h2]; rfl
      | _ => rfl
    rw [e] at hq
    exact s_ret (en_flat ev_bl rfl) r1.e0 hq
  · obtain ⟨es, rfl, hl⟩ := tupN_t (by simpa using h : tupN n x = true)
    have ha : heldOk n (.tuple es) = (es.all isVal && isAt 0 (es.getD 0 .none) && isAt 1 (es.getD 1 .none)) := by
      show (decide (es.length = n) && _ && _ && _) = _
      rw [decide_eq_true hl, Bool.true_and]
    rw [ha] at hq
    walk_at "nx"
    have hall : EvD K p0 (tCB (rAll K) (tCons (tLc (iTup K (tVar 0)) (gName 2) tYes (tCall (SpR K (R1B isVal)) [] E0 (tCons (tVar 2) tNil)) [2]) tNil)) (start N_begins_as_held [v, v2]) H1 (.bool (es.all isVal)) :=
      ev_is (ev_all (ev_allval (by walk_at "ev") (by omega) (by show 2 < 3; decide))) (by rw [all_map])
    refine s_if (et_not (et_B hall)) pi0 (fun e H2 r2 => ?_) (fun e H2 r2 => ?_)
    · have e' : es.all isVal = false := by simpa using e
      rw [e'] at hq
      exact s_ret (en_flat ev_bl rfl) (r1.trans r2).e0 hq
    · have e' : es.all isVal = true := by simpa using e
      match es, hl, e' with
      | d0 :: d1 :: r, hl, e' =>
        rw [List.all_cons, List.all_cons, Bool.and_eq_true, Bool.and_eq_true] at e'
        obtain ⟨i, rfl, _⟩ := isVal_int e'.1
        obtain ⟨j, rfl, _⟩ := isVal_int e'.2.1
        walk_at "nx"
        refine s_ret (en_flat ?_ rfl) (r1.trans r2).e0 hq
        refine ev_is (ev_andV (a := decide (i = 0)) (b := decide (j = 1)) (ev_is (ev_eq (ev_ixT (by walk_at "ev") ev_int ?_) ev_int sh_int sh_int) (by rw [eqv_int])) (fun _ => ev_is (ev_eq (ev_ixT (by walk_at "ev") ev_int ?_) ev_int sh_int sh_int) (by rw [eqv_int]))) ?_
        · exact atI_nat (j := 0) rfl
        · exact atI_nat (j := 1) rfl
        · rw [List.all_cons, List.all_cons, e'.1, e'.2.1, e'.2.2]
          rfl
      | [_], hl, _ => simp at hl; omega
      | [], hl, _ => simp at hl; omega
theorem ok_is_held (FR : Free mg) (A : At K mg "is_held" s_is_held P_is_held f fd) (c : Prm P w K mg base CX0 3 "_begins_as_held" P_begins_as_held (SpR K Rheld0)) : Prm P w K mg base CX0 4 "is_held" P_is_held (SpR K Rheld) := by
  refine mk_prm A sc_is_held (fun ds d ⟨c, x, e, _⟩ => by rw [e]; rfl) (dv_is_held FR c) ?_
  rintro vs ds d H Q hv ⟨c, x, rfl, h1, h2, rfl⟩ hq
  obtain ⟨v, v2, rfl, k, k2⟩ := dpa2 hv
  unfold t_is_held
  walk_at "nx"
  refine s_ret (en_call (ea_cons (by walk_at "ev") (ea_cons (ev_I0 (ev_net0 (by walk_at "ev")) (ev_net1 (by walk_at "ev"))) ea_nil)) ⟨c.n, x, ?_, h1, h2, rfl⟩) (Ex.refl _) hq
  rw [← Int.natCast_add]
  rfl
end
end Ky
set_option Elab.async false
set_option linter.all false
set_option maxRecDepth 4000
set_option maxHeartbeats 1000000
namespace Ky
open PySem PySem.Spec PyProof.Rows L2
/-! ### the package's error -/
abbrev s_init : Stmt := inClass (topS 4) 0
theorem sc_init : FnScope ["self", "word", "at"] ["self", "word", "at"] (defScope s_init) := ⟨rfl, rfl, rfl, by decide +kernel, rfl, by decide +kernel, by decide +kernel⟩
/-- the fields of a made NotUsable -/
def xf (w : Str) : List (Str × V) := [("at", .int (-1)), ("word", .str w)]
structure Nu (K : PySem.W.Frag) (mg : Str → Option Value) (C fI CO : Addr) (fdI : FuncData) : Prop where
  T : OexC K C
  iC : PySem.W.findIn K (.ref C) "__init__" = some (some (.ref fI))
  tI : PySem.W.typeIn K (.ref fI) = some (.type "function")
  F : Fun K "__init__" "NotUsable.__init__" s_init fI fdI
  b : Binds K fdI ["self", "word", "at"] []
  gC : mg "NotUsable" = some (.ref C)
  nW : PySem.W.findIn K (.ref C) "word" = some none
  nA : PySem.W.findIn K (.ref C) "at" = some none
  X : XfC K C
  I : ExcC K C
  gO : mg "OhmError" = some (.ref CO)
  xO : PySem.W.exmOne K (.ref C) (.ref CO) = some true
  isC : PySem.W.kitOne K (.ref C) (.ref C) = some true
def spI (C : Addr) : Sp := fun vs H Q _ => ∃ (a : Addr) (x z : V), vs = [.ref a, x, z] ∧ H a = some (exo a C none) ∧ ∀ dx, H dx = none → dx ≠ a → Q .non (upd (upd (upd H dx (exd dx [("word", x)])) a (exo a C (some dx))) dx (exd dx [("at", z), ("word", x)]))
section
variable {P : Program} {w : World} {K : PySem.W.Frag} {mg : Str → Option Value} {base : Heap} {C fI CO : Addr} {fdI : FuncData}
def t_init (K : PySem.W.Frag) : TS := tSeq (tOst K "word" (tVar 0) (tVar 1)) (tOst K "at" (tVar 0) (tVar 2))
theorem ok_init (N : Nu K mg C fI CO fdI) : FnOk P w K mg base CX0 1 fI fdI ["self", "word", "at"] (spI C) := by
  refine N.F.ok sc_init (fun vs H Q E h => ?_) (fun cdv A outer s H vs Q E hr h => ⟨t_init K, pss_cons (ps_ost (pv 0) (pv 1)) (pss_one (ps_ost (pv 0) (pv 2))), ?_⟩)
  · obtain ⟨a, x, z, rfl, _⟩ := h
    rfl
  · obtain ⟨a, x, z, rfl, ha, q⟩ := h
    refine ⟨x, rfl, .ref a, rfl, a, C, rfl, N.T, N.nW, .inl ⟨ha, fun dx hd hne => ?_⟩⟩
    refine ⟨z, rfl, .ref a, rfl, a, C, rfl, N.T, N.nA, .inr ⟨dx, [("word", x)], upd_same, ?_, (by show 1 ≤ 900; decide), ?_⟩⟩
    · rw [upd_ne hne]
      exact upd_same
    · exact q dx hd hne
/-- what is wished of a NotUsable that tells the word w -/
def Exl (C : Addr) (H : Hp) (E : XK) (w : Str) : Prop := ∀ dx H', Ex H H' → H dx = none → H' dx = some (.xd (xf w)) → E (.ref C) (some dx) H'
theorem exl_mono {H H1 : Hp} {E : XK} {w : Str} (e : Ex H H1) (h : Exl C H E w) : Exl C H1 E w := fun dx H' e' n x => h dx H' (Ex.trans e e') (Evl.fresh_back e n) x
/-- a promise of a def that may raise NotUsable -/
def SpX (K : PySem.W.Frag) (C : Addr) (R : List D → Except Str D → Prop) : Sp := fun vs H Q E => ∃ ds r, DpAll K H vs ds ∧ R ds r ∧ (∀ d, r = .ok d → ∀ v H', Ex H H' → Dp K (nw H H') v d → Q v H') ∧ (∀ w, r = .error w → Exl C H E w)
theorem mk_prmX {k : Nat} {x : Str} {st : Stmt} {N ps : List Str} {f : Addr} {fd : FuncData} {R : List D → Except Str D → Prop} {t : XK → TS}
    (A : At K mg x st ps f fd) (S : FnScope N ps (defScope st)) (len : ∀ ds d, R ds d → ds.length = ps.length)
    (dv : ∀ {f : Addr} {cdv : Value} {A : Around} {outer : List Env} {s : Shared} {H : Hp} {E : XK}, Room k (A.deeper (envOfC x (defScope st) s.heap.objs.size f cdv)) → PSs (cxOf (L2.CX P w) P w K mg base N x (defScope st) f cdv A outer s H E) (defBody st) (t E))
    (rd : ∀ vs ds r H (Q : VK) (E : XK), DpAll K H vs ds → R ds r → (∀ d, r = .ok d → ∀ v H', Ex H H' → Dp K (nw H H') v d → Q v H') → (∀ w, r = .error w → Exl C H E w) → t E { nx := fun _ H' => Q .non H', rt := Q } (start N vs) H) :
    Prm P w K mg base (L2.CX P w) (k + 1) x ps (SpX K C R) := by
  refine ⟨f, fd, A.g, A.fn.kp, A.b, A.fn.okX S (fun vs H Q E h => ?_) fun cdv Ar outer s H vs Q E hr h => ?_⟩
  · obtain ⟨ds, d, h1, h2, _⟩ := h
    rw [dpa_len h1]
    exact len ds d h2
  · obtain ⟨ds, r, h1, h2, h3, h4⟩ := h
    exact ⟨t E, dv hr, rd vs ds r H Q E h1 h2 h3 h4⟩
def Rask : List D → Except Str D → Prop := fun ds r => ∃ b w, ds = [.bool b, .str w] ∧ r = (if b = true then .ok .none else .error w)
/-! ### e_ask -/
abbrev s_e_ask : Stmt := topS 19
abbrev N_e_ask : List Str := ["stated", "word"]
abbrev P_e_ask : List Str := ["stated", "word"]
theorem sc_e_ask : FnScope N_e_ask P_e_ask (defScope s_e_ask) := ⟨rfl, rfl, rfl, by decide +kernel, rfl, by decide +kernel, by decide +kernel⟩
def t_e_ask (C : Addr) (E : XK) : TS := tIfS (tNot (tB (tVar 0))) (fun _ σ H => tMkO C (spI C) [] (tCons (tVar 1) (tCons (tUn (rU fun i => .int (-i)) (tC (.int 1))) tNil)) σ H fun cls d H' => E cls d H') tNext
theorem dv_e_ask (N : Nu K mg C fI CO fdI) {f : Addr} {cdv : Value} {A : Around} {outer : List Env} {s : Shared} {H : Hp} {E : XK} (hr : Room 2 (A.deeper (envOfC "e_ask" (defScope s_e_ask) s.heap.objs.size f cdv))) :
    PSs (cxOf (L2.CX P w) P w K mg base N_e_ask "e_ask" (defScope s_e_ask) f cdv A outer s H E) (defBody s_e_ask) (t_e_ask C E) := by
  unfold t_e_ask
  have hr1 : Room 2 (cxOf (L2.CX P w) P w K mg base N_e_ask "e_ask" (defScope s_e_ask) f cdv A outer s H E).A := hr
  exact pss_one (ps_if (pt_not (pt_val (pv 0))) (pss_one (ps_raise rfl (takes_of rfl rfl rfl rfl) (pmk_oex N.T N.iC N.tI (ok_init N) hr1 N.b .nil pass0 (by rfl) N.gC (by exact (pa_cons (pv 1) (pa_cons (pe_un un_neg pe_int) pa_nil)))))) pss_nil)
theorem ok_e_ask (N : Nu K mg C fI CO fdI) {f : Addr} {fd : FuncData} (A : At K mg "e_ask" s_e_ask P_e_ask f fd) : Prm P w K mg base (L2.CX P w) 3 "e_ask" P_e_ask (SpX K C Rask) := by
  refine mk_prmX (t := t_e_ask C) A sc_e_ask (fun ds d ⟨b, w, e, _⟩ => by rw [e]; rfl) (dv_e_ask N) ?_
  rintro vs ds r H Q E hv ⟨b, wd, rfl, rfl⟩ hq hx
  obtain ⟨v, v2, rfl, k, k2⟩ := dpa2 hv
  have e1 : v = .bl b := dp_bool k
  have e2 : v2 = .str wd := dp_strv k2
  subst e1 e2
  refine ⟨.bl b, rfl, b, rfl, ?_⟩
  cases b with
  | true => exact hq .none rfl _ _ (Ex.refl H) .non
  | false =>
    have hx' := hx wd rfl
    refine ⟨.str wd, rfl, 1, rfl, (by show 2 ≤ 1000; decide), fun a ha => ⟨a, .str wd, .int (-1), rfl, upd_same, fun dx hd hne => ⟨rfl, dx, xf wd, ?_, upd_same, ?_, ?_⟩⟩⟩
    · rw [upd_ne (Ne.symm hne)]
      exact upd_same
    · rw [upd_ne hne] at hd
      exact hd
    · rw [upd_ne hne] at hd
      refine hx' dx _ (fun b o hb => ?_) hd upd_same
      have n1 : b ≠ a := ne_of_none hb ha
      have n2 : b ≠ dx := ne_of_none hb hd
      rw [upd_ne n2, del_ne n1, upd_ne n2, upd_ne n1, upd_ne n2, upd_ne n1]
      exact hb
/-- e_ask(c, 'word') as a statement -/
theorem s_ask {σ : L2.St} {H H0 : Hp} {tc : TE} {F : Ends} {E : XK} {b : Bool} {wd : Str} (h : EvD K p0 tc σ H (.bool b)) (e : Ex H0 H) (kT : b = true → ∀ H1, Rl p0 H H1 → F.nx σ H1) (kF : b = false → Exl C H0 E wd) :
    tDrop (tCall (SpX K C Rask) [] E (tCons tc (tCons (tC (.str wd)) tNil))) F σ H := h H (Rl.refl pi0) _ fun v d H1 r1 ed kd => by
  subst ed
  refine ⟨[.bool b, .str wd], _, .cons (dp_ex vw_sub kd) (.cons (.str wd) .nil), ⟨b, wd, rfl, rfl⟩, fun d hd v H' e' k => ?_, fun w hw => ?_⟩
  · cases b with
    | true => exact kT rfl H' (r1.trans (rl0 e'))
    | false => cases hd
  · cases b with
    | true => cases hw
    | false =>
      cases hw
      exact exl_mono (Ex.trans e r1.e0) (kF rfl)
end
end Ky
set_option Elab.async false
set_option linter.all false
set_option maxRecDepth 4000
set_option maxHeartbeats 1000000
namespace Ky
open PySem PySem.Spec PyProof.Rows L2
def bnd (wd : Str) (m : Int) : D → D → Except Str D
  | .int b, .int s => if 2 ≤ b then (if 1 ≤ s ∧ s ≤ m then .ok (spanD b s) else .error wd) else .error "base"
  | .int b, _ => if 2 ≤ b then .error wd else .error "base"
  | _, _ => .error "base"
def Rbd (wd : Str) (m : Int) : List D → Except Str D → Prop := fun ds r => ∃ b g, ds = [b, g] ∧ (∀ i, b = .int i → Sm 64 i) ∧ r = bnd wd m b g
def Rfb := Rbd "strength" 6
def Rrb := Rbd "size" 4
/-- a net as the law builds it -/
structure Net.Good (c : Net) : Prop where
  kinds : c.kinds
  two : 2 ≤ c.feeds.length
  small : c.n ≤ 1000
  sw : ∀ s, s ∈ c.sws → 1 ≤ s.strength ∧ s.strength ≤ 6
  tk : ∀ t, t ∈ c.tanks → 1 ≤ t.2 ∧ t.2 ≤ 4
def nums (is : List Int) : D := .tuple (is.map PyData.int)
def qs (l : List (Int × Int)) : D := .tuple (l.map qD)
def wdD (b : Int) (fl rm ch : List (Int × Int)) : D := .tuple [.int b, qs fl, qs rm, qs ch]
def slackOk : D → Bool := isQf fun a _ => decide (0 ≤ a)
/-- the first place that is bad -/
def firstAt (n : Nat) (bad : Nat → Bool) : Option Nat := (List.range n).find? bad
def flowBad (c : Net) (ps : List Int) (b : Int) (fl : List (Int × Int)) (i : Nat) : Bool := !fflow b ((c.sws[i]?.map Sw.strength).getD 1) (ps.getD i 0) (fl.getD i (0, 1))
def roomBad (c : Net) (b : Int) (rm : List (Int × Int)) (i : Nat) : Bool := !froom b ((c.tanks[i]?.map Prod.snd).getD 1) (rm.getD i (0, 1))
def chBad (c : Net) (hs : List Int) (ch : List (Int × Int)) (sl : Int × Int) (i : Nat) : Bool := !fcharge (hs.getD i 0) (ch.getD i (0, 1)) (if c.feeds.length ≤ i then sl else (0, 1))
def outD : Option (Str × Nat) → D
  | none => .none
  | some (w, i) => .tuple [.str w, .int (i : Int)]
def three (a b d : Option Nat) : Option (Str × Nat) := match a with
  | some i => some ("flow", i)
  | none => match b with
    | some i => some ("room", i)
    | none => d.map fun i => ("charge", i)
def faultP (c : Net) (ps hs : List Int) (b : Int) (fl rm ch : List (Int × Int)) (sl : Int × Int) : Option (Str × Nat) :=
  three (firstAt c.sws.length (flowBad c ps b fl)) (firstAt c.tanks.length (roomBad c b rm)) (firstAt c.n (chBad c hs ch sl))
/-- the arguments of a call that is all as stated -/
structure Stated (c : Net) (ps hs : List Int) (b : Int) (fl rm ch : List (Int × Int)) (sl : Int × Int) : Prop where
  pos : posOk c (nums ps) = true
  held : heldOk c.n (nums hs) = true
  world : worldOk c (wdD b fl rm ch) = true
  slack : slackOk (qD sl) = true
  smB : Sm 64 b
  smF : ∀ q, q ∈ fl → Sm 1000 q.1 ∧ Sm 1000 q.2
  smR : ∀ q, q ∈ rm → Sm 1000 q.1 ∧ Sm 1000 q.2
  smC : ∀ q, q ∈ ch → Sm 1000 q.1 ∧ Sm 1000 q.2
  smS : Sm 1000 sl.1 ∧ Sm 1000 sl.2
def Rwf : List D → Except Str D → Prop := fun ds r => ∃ c ps hs wd sl, ds = [netD c, ps, hs, wd, sl] ∧ c.Good ∧
  ((posOk c ps = false ∧ r = .error "positions") ∨ (posOk c ps = true ∧ heldOk c.n hs = false ∧ r = .error "held") ∨ (posOk c ps = true ∧ heldOk c.n hs = true ∧ worldOk c wd = false ∧ r = .error "world") ∨
    (posOk c ps = true ∧ heldOk c.n hs = true ∧ worldOk c wd = true ∧ slackOk sl = false ∧ r = .error "slack") ∨
    ∃ is hs' b fl rm ch s, ps = nums is ∧ hs = nums hs' ∧ wd = wdD b fl rm ch ∧ sl = qD s ∧ Stated c is hs' b fl rm ch s ∧ r = .ok (outD (faultP c is hs' b fl rm ch s)))
end Ky
set_option Elab.async false
set_option linter.all false
set_option maxRecDepth 100000
set_option maxHeartbeats 4000000
namespace Ky
open PySem PySem.Spec PyProof.Rows L2
/-! ### flow_bounds -/
abbrev s_flow_bounds : Stmt := topS 32
abbrev N_flow_bounds : List Str := ["base", "strength"]
abbrev P_flow_bounds : List Str := ["base", "strength"]
theorem sc_flow_bounds : FnScope N_flow_bounds P_flow_bounds (defScope s_flow_bounds) := ⟨rfl, rfl, rfl, by decide +kernel, rfl, by decide +kernel, by decide +kernel⟩
def t_flow_bounds (K : PySem.W.Frag) (C : Addr) (E : XK) : TS :=
    (tSeq (tDrop (tCall (SpX K C Rask) [] E (tCons (tCall (SpR K (R1B isBase)) [] E0 (tCons (tVar 0) tNil)) (tCons (tC (.str "base")) tNil))))
    (tSeq (tDrop (tCall (SpX K C Rask) [] E (tCons (tAndV (tCall (SpR K (R1B isI)) [] E0 (tCons (tVar 1) tNil)) (tChain (rI0 fun i j => .bl (decide (i ≤ j))) (rI0 fun i j => .bl (decide (i ≤ j))) (tC (.int 1)) (tVar 1) (tC (.int 6)))) (tCons (tC (.str "strength")) tNil))))
    (tRet (tCall (SpR K Rspan) [] E0 (tCons (tVar 0) (tCons (tVar 1) tNil))))))
theorem dv_flow_bounds {P : Program} {w : World} {K : PySem.W.Frag} {mg : Str → Option Value} {base : Heap} {f : Addr} {cdv : Value} {A : Around} {outer : List Env} {s : Shared} {H : Hp} {E : XK} {C : Addr} (FR : Free mg) (c_e_ask : Prm P w K mg base (L2.CX P w) 3 "e_ask" P_e_ask (SpX K C Rask)) (c_e_is_base : Prm P w K mg base CX0 2 "e_is_base" P_e_is_base (SpR K (R1B isBase))) (c_is_integer : Prm P w K mg base CX0 1 "is_integer" P_is_integer (SpR K (R1B isI))) (c_e_span : Prm P w K mg base CX0 4 "e_span" P_e_span (SpR K Rspan))
    (hr : Room 4 (A.deeper (envOfC "flow_bounds" (defScope s_flow_bounds) s.heap.objs.size f cdv))) :
    PSs (cxOf (L2.CX P w) P w K mg base N_flow_bounds "flow_bounds" (defScope s_flow_bounds) f cdv A outer s H E) (defBody s_flow_bounds) (t_flow_bounds K C E) := by
  unfold t_flow_bounds
  exact (pss_cons (ps_expr (pe_prm c_e_ask (hr.mono (by decide)) (by rfl) (passes_call (takes_of rfl rfl rfl rfl) (fun _ _ _ _ h => h)) (pa_cons (pe_prm c_e_is_base (hr.mono (by decide)) (by rfl) pass0 (pa_cons (pv 0) pa_nil)) (pa_cons pe_str pa_nil))))
      (pss_cons (ps_expr (pe_prm c_e_ask (hr.mono (by decide)) (by rfl) (passes_call (takes_of rfl rfl rfl rfl) (fun _ _ _ _ h => h)) (pa_cons (pe_and (pe_prm c_is_integer (hr.mono (by decide)) (by rfl) pass0 (pa_cons (pv 1) pa_nil)) (pe_one (pe_chain op_le op_le pe_int (pv 1) pe_int))) (pa_cons pe_str pa_nil))))
      (pss_one (ps_ret (pe_prm c_e_span (hr.mono (by decide)) (by rfl) pass0 (pa_cons (pv 0) (pa_cons (pv 1) pa_nil)))))))

/-! ### room_bounds -/
abbrev s_room_bounds : Stmt := topS 33
abbrev N_room_bounds : List Str := ["base", "size"]
abbrev P_room_bounds : List Str := ["base", "size"]
theorem sc_room_bounds : FnScope N_room_bounds P_room_bounds (defScope s_room_bounds) := ⟨rfl, rfl, rfl, by decide +kernel, rfl, by decide +kernel, by decide +kernel⟩
def t_room_bounds (K : PySem.W.Frag) (C : Addr) (E : XK) : TS :=
    (tSeq (tDrop (tCall (SpX K C Rask) [] E (tCons (tCall (SpR K (R1B isBase)) [] E0 (tCons (tVar 0) tNil)) (tCons (tC (.str "base")) tNil))))
    (tSeq (tDrop (tCall (SpX K C Rask) [] E (tCons (tAndV (tCall (SpR K (R1B isI)) [] E0 (tCons (tVar 1) tNil)) (tChain (rI0 fun i j => .bl (decide (i ≤ j))) (rI0 fun i j => .bl (decide (i ≤ j))) (tC (.int 1)) (tVar 1) (tC (.int 4)))) (tCons (tC (.str "size")) tNil))))
    (tRet (tCall (SpR K Rspan) [] E0 (tCons (tVar 0) (tCons (tVar 1) tNil))))))
theorem dv_room_bounds {P : Program} {w : World} {K : PySem.W.Frag} {mg : Str → Option Value} {base : Heap} {f : Addr} {cdv : Value} {A : Around} {outer : List Env} {s : Shared} {H : Hp} {E : XK} {C : Addr} (FR : Free mg) (c_e_ask : Prm P w K mg base (L2.CX P w) 3 "e_ask" P_e_ask (SpX K C Rask)) (c_e_is_base : Prm P w K mg base CX0 2 "e_is_base" P_e_is_base (SpR K (R1B isBase))) (c_is_integer : Prm P w K mg base CX0 1 "is_integer" P_is_integer (SpR K (R1B isI))) (c_e_span : Prm P w K mg base CX0 4 "e_span" P_e_span (SpR K Rspan))
    (hr : Room 4 (A.deeper (envOfC "room_bounds" (defScope s_room_bounds) s.heap.objs.size f cdv))) :
    PSs (cxOf (L2.CX P w) P w K mg base N_room_bounds "room_bounds" (defScope s_room_bounds) f cdv A outer s H E) (defBody s_room_bounds) (t_room_bounds K C E) := by
  unfold t_room_bounds
  exact (pss_cons (ps_expr (pe_prm c_e_ask (hr.mono (by decide)) (by rfl) (passes_call (takes_of rfl rfl rfl rfl) (fun _ _ _ _ h => h)) (pa_cons (pe_prm c_e_is_base (hr.mono (by decide)) (by rfl) pass0 (pa_cons (pv 0) pa_nil)) (pa_cons pe_str pa_nil))))
      (pss_cons (ps_expr (pe_prm c_e_ask (hr.mono (by decide)) (by rfl) (passes_call (takes_of rfl rfl rfl rfl) (fun _ _ _ _ h => h)) (pa_cons (pe_and (pe_prm c_is_integer (hr.mono (by decide)) (by rfl) pass0 (pa_cons (pv 1) pa_nil)) (pe_one (pe_chain op_le op_le pe_int (pv 1) pe_int))) (pa_cons pe_str pa_nil))))
      (pss_one (ps_ret (pe_prm c_e_span (hr.mono (by decide)) (by rfl) pass0 (pa_cons (pv 0) (pa_cons (pv 1) pa_nil)))))))

/-! ### world_fault -/
abbrev s_world_fault : Stmt := topS 38
abbrev N_world_fault : List Str := ["net", "positions", "held", "world", "slack", "base", "flows", "rooms", "charges", "at", "switch", "tank", "node", "charge", "own"]
abbrev P_world_fault : List Str := ["net", "positions", "held", "world", "slack"]
theorem sc_world_fault : FnScope N_world_fault P_world_fault (defScope s_world_fault) := ⟨rfl, rfl, rfl, by decide +kernel, rfl, by decide +kernel, by decide +kernel⟩
def t_world_fault (K : PySem.W.Frag) (C : Addr) (E : XK) : TS :=
    (tSeq (tDrop (tCall (SpX K C Rask) [] E (tCons (tCall (SpR K Rpos) [] E0 (tCons (tVar 0) (tCons (tVar 1) tNil))) (tCons (tC (.str "positions")) tNil))))
    (tSeq (tDrop (tCall (SpX K C Rask) [] E (tCons (tCall (SpR K Rheld) [] E0 (tCons (tVar 0) (tCons (tVar 2) tNil))) (tCons (tC (.str "held")) tNil))))
    (tSeq (tDrop (tCall (SpX K C Rask) [] E (tCons (tCall (SpR K Rworld) [] E0 (tCons (tVar 0) (tCons (tVar 3) tNil))) (tCons (tC (.str "world")) tNil))))
    (tSeq (tDrop (tCall (SpX K C Rask) [] E (tCons (tAndV (tCall (SpR K (R1B isQ)) [] E0 (tCons (tVar 4) tNil)) (tOp (rI0 fun i j => .bl (decide (j ≤ i))) (tOp (rIx K) (tVar 4) (tC (.int 0))) (tC (.int 0)))) (tCons (tC (.str "slack")) tNil))))
    (tSeq (tAsg (tVar 3) (gTup K 4 (gCons (gName 5) (gCons (gName 6) (gCons (gName 7) (gCons (gName 8) gNil))))))
    (tSeq (tFor (iEnumT K (tCons (tOp (rIx K) (tVar 0) (tC (.int 2))) tNil)) (gTup K 2 (gCons (gName 9) (gCons (gName 10) gNil))) (tIfS (tNot (tB (tCall (SpR K Rffits) [] E0 (tCons (tVar 5) (tCons (tOp (rIx K) (tVar 10) (tC (.int 1))) (tCons (tOp (rIx K) (tVar 1) (tVar 9)) (tCons (tOp (rIx K) (tVar 6) (tVar 9)) tNil))))))) (tRet (tTup (tCons (tC (.str "flow")) (tCons (tVar 9) tNil)))) tNext))
    (tSeq (tFor (iEnumT K (tCons (tOp (rIx K) (tVar 0) (tC (.int 1))) tNil)) (gTup K 2 (gCons (gName 9) (gCons (gName 11) gNil))) (tIfS (tNot (tB (tCall (SpR K Rrfits) [] E0 (tCons (tVar 5) (tCons (tOp (rIx K) (tVar 11) (tC (.int 1))) (tCons (tOp (rIx K) (tVar 7) (tVar 9)) tNil)))))) (tRet (tTup (tCons (tC (.str "room")) (tCons (tVar 9) tNil)))) tNext))
    (tSeq (tFor (iEnumT K (tCons (tVar 8) tNil)) (gTup K 2 (gCons (gName 12) (gCons (gName 13) gNil))) (tSeq (tAsg (tIf (tTest (tOp (rI0 fun i j => .bl (decide (j ≤ i))) (tVar 12) (tCB (Evl.rLenS K) (tCons (tOp (rIx K) (tVar 0) (tC (.int 0))) tNil)))) (tVar 4) (tTup (tCons (tC (.int 0)) (tCons (tC (.int 1)) tNil)))) (gName 14))
    (tIfS (tNot (tB (tCall (SpR K Rcfits) [] E0 (tCons (tOp (rIx K) (tVar 2) (tVar 12)) (tCons (tVar 13) (tCons (tVar 14) tNil)))))) (tRet (tTup (tCons (tC (.str "charge")) (tCons (tVar 12) tNil)))) tNext)))
    (tRet (tC .non))))))))))
theorem dv_world_fault {P : Program} {w : World} {K : PySem.W.Frag} {mg : Str → Option Value} {base : Heap} {f : Addr} {cdv : Value} {A : Around} {outer : List Env} {s : Shared} {H : Hp} {E : XK} {C : Addr} (FR : Free mg) (c_e_ask : Prm P w K mg base (L2.CX P w) 3 "e_ask" P_e_ask (SpX K C Rask)) (c_is_positions : Prm P w K mg base CX0 3 "is_positions" P_is_positions (SpR K Rpos)) (c_is_held : Prm P w K mg base CX0 4 "is_held" P_is_held (SpR K Rheld)) (c_is_world : Prm P w K mg base CX0 5 "is_world" P_is_world (SpR K Rworld)) (c_is_quotient : Prm P w K mg base CX0 2 "is_quotient" P_is_quotient (SpR K (R1B isQ))) (c_e_flow_fits : Prm P w K mg base CX0 5 "e_flow_fits" P_e_flow_fits (SpR K Rffits)) (c_e_room_fits : Prm P w K mg base CX0 5 "e_room_fits" P_e_room_fits (SpR K Rrfits)) (c_e_charge_fits : Prm P w K mg base CX0 5 "e_charge_fits" P_e_charge_fits (SpR K Rcfits))
    (hr : Room 5 (A.deeper (envOfC "world_fault" (defScope s_world_fault) s.heap.objs.size f cdv))) :
    PSs (cxOf (L2.CX P w) P w K mg base N_world_fault "world_fault" (defScope s_world_fault) f cdv A outer s H E) (defBody s_world_fault) (t_world_fault K C E) := by
  unfold t_world_fault
  exact (pss_cons (ps_expr (pe_prm c_e_ask (hr.mono (by decide)) (by rfl) (passes_call (takes_of rfl rfl rfl rfl) (fun _ _ _ _ h => h)) (pa_cons (pe_prm c_is_positions (hr.mono (by decide)) (by rfl) pass0 (pa_cons (pv 0) (pa_cons (pv 1) pa_nil))) (pa_cons pe_str pa_nil))))
      (pss_cons (ps_expr (pe_prm c_e_ask (hr.mono (by decide)) (by rfl) (passes_call (takes_of rfl rfl rfl rfl) (fun _ _ _ _ h => h)) (pa_cons (pe_prm c_is_held (hr.mono (by decide)) (by rfl) pass0 (pa_cons (pv 0) (pa_cons (pv 2) pa_nil))) (pa_cons pe_str pa_nil))))
      (pss_cons (ps_expr (pe_prm c_e_ask (hr.mono (by decide)) (by rfl) (passes_call (takes_of rfl rfl rfl rfl) (fun _ _ _ _ h => h)) (pa_cons (pe_prm c_is_world (hr.mono (by decide)) (by rfl) pass0 (pa_cons (pv 0) (pa_cons (pv 3) pa_nil))) (pa_cons pe_str pa_nil))))
      (pss_cons (ps_expr (pe_prm c_e_ask (hr.mono (by decide)) (by rfl) (passes_call (takes_of rfl rfl rfl rfl) (fun _ _ _ _ h => h)) (pa_cons (pe_and (pe_prm c_is_quotient (hr.mono (by decide)) (by rfl) pass0 (pa_cons (pv 4) pa_nil)) (pe_one (pe_cmpR op_ge (pe_ix ix_seq (pv 4) pe_int (fun _ _ => rfl)) pe_int (nomark _)))) (pa_cons pe_str pa_nil))))
      (pss_cons (ps_asg (pv 3) (pg_tup rfl (pgs_cons (pg_name (i := 5) sc_world_fault.nd rfl (by first | exact Or.inl rfl | exact Or.inr rfl)) (pgs_cons (pg_name (i := 6) sc_world_fault.nd rfl (by first | exact Or.inl rfl | exact Or.inr rfl)) (pgs_cons (pg_name (i := 7) sc_world_fault.nd rfl (by first | exact Or.inl rfl | exact Or.inr rfl)) (pgs_cons (pg_name (i := 8) sc_world_fault.nd rfl (by first | exact Or.inl rfl | exact Or.inr rfl)) pgs_nil))))))
      (pss_cons (ps_for (passes_of rfl) rfl (pi_enumT (by rfl) FR.enumerate_ (pa_cons (pe_ix ix_seq (pv 0) pe_int (fun _ _ => rfl)) pa_nil)) (pg_tup rfl (pgs_cons (pg_name (i := 9) sc_world_fault.nd rfl (by first | exact Or.inl rfl | exact Or.inr rfl)) (pgs_cons (pg_name (i := 10) sc_world_fault.nd rfl (by first | exact Or.inl rfl | exact Or.inr rfl)) pgs_nil))) (pss_one (ps_if (pt_not (pt_val (pe_prm c_e_flow_fits (hr.mono (by decide)) (by rfl) pass0 (pa_cons (pv 5) (pa_cons (pe_ix ix_seq (pv 10) pe_int (fun _ _ => rfl)) (pa_cons (pe_ix ix_seq (pv 1) (pv 9) (fun _ _ => rfl)) (pa_cons (pe_ix ix_seq (pv 6) (pv 9) (fun _ _ => rfl)) pa_nil))))))) (pss_one (ps_ret (pe_tup (pa_cons pe_str (pa_cons (pv 9) pa_nil))))) pss_nil)))
      (pss_cons (ps_for (passes_of rfl) rfl (pi_enumT (by rfl) FR.enumerate_ (pa_cons (pe_ix ix_seq (pv 0) pe_int (fun _ _ => rfl)) pa_nil)) (pg_tup rfl (pgs_cons (pg_name (i := 9) sc_world_fault.nd rfl (by first | exact Or.inl rfl | exact Or.inr rfl)) (pgs_cons (pg_name (i := 11) sc_world_fault.nd rfl (by first | exact Or.inl rfl | exact Or.inr rfl)) pgs_nil))) (pss_one (ps_if (pt_not (pt_val (pe_prm c_e_room_fits (hr.mono (by decide)) (by rfl) pass0 (pa_cons (pv 5) (pa_cons (pe_ix ix_seq (pv 11) pe_int (fun _ _ => rfl)) (pa_cons (pe_ix ix_seq (pv 7) (pv 9) (fun _ _ => rfl)) pa_nil)))))) (pss_one (ps_ret (pe_tup (pa_cons pe_str (pa_cons (pv 9) pa_nil))))) pss_nil)))
      (pss_cons (ps_for (passes_of rfl) rfl (pi_enumT (by rfl) FR.enumerate_ (pa_cons (pv 8) pa_nil)) (pg_tup rfl (pgs_cons (pg_name (i := 12) sc_world_fault.nd rfl (by first | exact Or.inl rfl | exact Or.inr rfl)) (pgs_cons (pg_name (i := 13) sc_world_fault.nd rfl (by first | exact Or.inl rfl | exact Or.inr rfl)) pgs_nil))) (pss_cons (ps_set (i := 14) sc_world_fault.nd rfl (by first | exact Or.inl rfl | exact Or.inr rfl) (pe_ifExp (pt_cmpR op_ge (pv 12) (pe_callB call_lenK (by rfl) FR.len_ (by decide +kernel) (pa_cons (pe_ix ix_seq (pv 0) pe_int (fun _ _ => rfl)) pa_nil)) (nomark _)) (pv 4) (pe_tup (pa_cons pe_int (pa_cons pe_int pa_nil)))))
      (pss_one (ps_if (pt_not (pt_val (pe_prm c_e_charge_fits (hr.mono (by decide)) (by rfl) pass0 (pa_cons (pe_ix ix_seq (pv 2) (pv 12) (fun _ _ => rfl)) (pa_cons (pv 13) (pa_cons (pv 14) pa_nil)))))) (pss_one (ps_ret (pe_tup (pa_cons pe_str (pa_cons (pv 12) pa_nil))))) pss_nil))))
      (pss_one (ps_ret pe_non))))))))))

end Ky
set_option Elab.async false
set_option linter.all false
set_option maxRecDepth 100000
set_option maxHeartbeats 4000000
namespace Ky
open PySem PySem.Spec PySem.W PySem.Calls PyProof.Rows
/-! isinstance of a caught error that has fields -/
section
variable {prog : Program} {w : World} {A : Around} {E : Value → Shared → Prop} {s : Shared} {K : Frag} {x D : Addr} {ox od : Obj}
theorem exc_class {Q : Option Value → Shared → Prop} (T : L2.ExcC K D) (X : K.In s.heap) (I : InstAt s.heap x ox D (some od)) (h : Q (some (.ref D)) { s with toks := s.toks + 1 }) :
    wpAny (model prog w) A (getAttr? (.ref x) "__class__") Q E s := by
  have hf : findObj K D (some od) "__class__" = some (.bind (.builtin "getset_descriptor.__get__") (.builtin "object.__class__")) :=
    findObj_data (by obtain ⟨cd, hc, _⟩ := any_some T.hd; rw [hc]; rfl) T.ha T.hn T.ht
  obtain ⟨hp, g, dr, t, os⟩ := s
  have ty := I.type (M := model prog w)
  have hga := looks_findIn (M := model prog w) X T.hg
  have hgt := looks_findIn (M := model prog w) X T.hk
  have hfo := looks_find (M := model prog w) X I hf
  have isE : Looks (model prog w) hp (isInstance (.ref x) (.type "BaseException")) true := ty.andThen (looks_subIn X T.hs)
  have n0 : (false && onTheHeap (Value.builtin "BaseException.__getattribute__")) = false := rfl
  have n2 : (Value.builtin "BaseException.__getattribute__" == Value.builtin "object.__getattribute__") = false := by decide +kernel
  have n1 : (onTheHeap (Value.ref D) && Value.builtin "BaseException.__getattribute__" == Value.builtin "object.__getattribute__") = false := by rw [n2]; rfl
  unfold getAttr? getAttrBy? getAttrBy
  refine wpAny_bind (wpAny_mkText (wpAny_bind (wpAny_attempt (wpAny_holding (wpAny_bind (ty.at (wpAny_bind (hga.at ?_))))))))
  show wpAny _ _ (if (onTheHeap (Value.ref D) && Value.builtin "BaseException.__getattribute__" == Value.builtin "object.__getattribute__") = true then _ else _) _ _ _
  rw [n1, if_neg Bool.false_ne_true]
  unfold getAttrByItsOwn hookBefore
  refine wpAny_bind ?_
  rw [if_pos (show onTheHeap (Value.ref D) = true from rfl)]
  refine hgt.at ?_
  refine wpAny_bind (wpAny_attempt (wpAny_holding ?_))
  unfold callGetattribute
  rw [n0, if_neg Bool.false_ne_true]
  unfold boundAndCalled
  rw [PySem.F.excAttr_ValueError.ga.bind (.ref x)]
  refine wpAny_bind (wpAny_pure ?_)
  show wpAny _ _ (call (.builtin "BaseException.__getattribute__") [.ref x, .str "__class__" t]) _ _ _
  refine wpAny_call (codeAny_call_builtin PySem.F.excAttr_ValueError.ga.plain PySem.F.entry_bexc_ga ?_)
  refine @check_slot (model prog w) _ _ ⟨hp, g, dr, t + 1, os⟩ "BaseException.__getattribute__" "BaseException" "__getattribute__" (.ref x) [.str "__class__" t] [] _ (by decide +kernel) (by decide +kernel) isE (PySem.F.args_bexc_ga (.ref x) (.str "__class__" t)) ?_
  unfold Builtin.«object.__getattribute__»
  refine wpAny_bind (wpAny_of_eq (a := ((Value.ref x : Value), [Value.str "__class__" t])) (by first | rfl | (simp only [slotArgs]; rfl)) ?_)
  refine wpAny_bind (wpAny_pure (wpAny_bind (ty.at (wpAny_bind (hfo.at ?_)))))
  show wpAny _ _ (holding [Value.builtin "object.__class__"] (call (.builtin "getset_descriptor.__get__") [.builtin "object.__class__", .ref x, .ref D]) >>= ret) _ _ _
  refine wpAny_bind (wpAny_holding (wpAny_call (class_get (s := ⟨hp, g, dr, t + 1, os⟩) (ox := ox) (od := some od) X I T.hm ?_)))
  refine wpAny_pure ?_
  show wpAny _ _ (handedOut (.ref D)) _ _ _
  rw [handedOut_of (v := .ref D) rfl]
  first
    | exact wpAny_pure (wpAny_pure h)
    | exact wpAny_pure h
    | exact wpAny_pure (wpAny_bind (wpAny_pure (wpAny_pure h)))
theorem kitx_ex (T : L2.ExcC K D) : KitX K (.ref x) (.ref D) (fun h => InstAt h x ox D (some od)) where
  ty := fun _ _ _ I => I.type
  it := fun M h X I => by
    obtain ⟨cdD, hcD, _⟩ := any_some T.hd
    unfold clsIn at hcD
    split at hcD
    · rename_i c' d' cd' sl' ho
      intro A' Q' E' s' k q
      unfold isType loadHead
      exact wpAny_bind (wpAny_loadPart (k _ _ (X _ _ ho)) (wpAny_pure q))
    · cases hcD
  ne := (PySem.W.handS_kitx_exc (x := x) (ox := ox) T.hg T.hk T.hs T.hd T.ha T.hn T.ht T.hm).ne
  ca := fun X I k => exc_class T X I k
end
end Ky
namespace Ky
open PySem PySem.Spec PyProof.Rows L2
/-- isinstance(e, c), e the error that the suite holds, its fields at d -/
def rIsX (K : PySem.W.Frag) (D a : Addr) (cls : Value) (d : Option Addr) : List V → Hp → VK → Prop := fun xs H Q => cls = .ref D ∧ ∃ (c : V) (cv : Value) (b : Bool) (dd : Addr) (fs : List (Str × V)), d = some dd ∧ H dd = some (.xd fs) ∧ xs = [.ref a, c] ∧ (∀ u, RelV c u → u = cv) ∧ PySem.W.kitOne K (.ref D) cv = some b ∧ Q (.bl b) H
theorem call_isX {X : Cx} {a D : Addr} {oe : Obj} {cls : Value} {d : Option Addr} {pn : List (Addr × Obj)} (T : ExcC X.K D) (hz : Zc cls d oe) (hf : ∃ vs, oe.data = .fields vs) : CallR (X.suite a ((a, oe) :: pn)) (.builtin "isinstance") (rIsX X.K D a cls d) := by
  intro pins s σ H xs us Q I r h
  obtain ⟨rfl, c, cv, b, dd, fs, rfl, hd, rfl, hcv, e, q⟩ := h
  cases r with
  | cons rx rr =>
    cases rr with
    | cons rt rr =>
      cases rr
      cases rx
      have ec := hcv _ rt
      subst ec
      obtain ⟨hget, _⟩ := I.pin (a, oe) (List.mem_append.mpr (.inl List.mem_cons_self))
      obtain ⟨vs, hv⟩ := hf
      have hx : ObjOk X.prog X.w H s.heap dd (.xd fs) := I.hok dd _ hd
      obtain ⟨mA, hns, hr⟩ := hx
      obtain ⟨od, ho, hl⟩ := lookIn_ns hns
      have J : PySem.W.InstAt s.heap a oe D (some od) := ⟨hget, hz.1, by unfold PySem.W.notCls; rw [hv] <;> rfl, by rw [hz.2]; exact ho⟩
      exact PySem.W.kia_one (kitx_ex T) I.kIn J e (fun z => nomatch z) fun tk => ⟨.bl b, H, I.kept (t' := tk) fun _ _ z => z, rfl, q⟩
end Ky
set_option Elab.async false
set_option linter.all false
set_option maxRecDepth 4000
set_option maxHeartbeats 1000000
namespace Ky
open PySem PySem.Spec PyProof.Rows L2
/-- data of bounded size -/
inductive Bd : D → Prop
  | non : Bd .none
  | bl (b : Bool) : Bd (.bool b)
  | int {i : Int} (h : Sm 1000 i) : Bd (.int i)
  | str {x : Str} (h : PySem.PyData.strOk x = true) : Bd (.str x)
  | tup {ds : List D} (h : ∀ d, d ∈ ds → Bd d) (l : ds.length ≤ 1000) : Bd (.tuple ds)
  | lst {ds : List D} (h : ∀ d, d ∈ ds → Bd d) (l : ds.length ≤ 1000) : Bd (.list ds)
/-- .. and its base, if it has one, below 2^64 -/
def BdW (d : D) : Prop := Bd d ∧ ∀ b r, d = .tuple (.int b :: r) → Sm 64 b
/-! ### promises of defs that draw from the pool -/
def SpG (K : PySem.W.Frag) (Pre : List D → Prop) (Post : List D → D → Prop) : Sp := fun vs H Q _ => ∃ (p : Pw) (q : Addr × Addr × Addr) (vs' : List V) (ds : List D), vs = .ref q.1 :: vs' ∧ p.pl = some q ∧ Wl p H ∧ DpAll K (vw p H) vs' ds ∧ Pre ds ∧
  ∀ v d H', Rl p H H' → Post ds d → Dp K (vw p H') v d → Q v H'
section
variable {K : PySem.W.Frag} {p : Pw} {σ : L2.St} {H : Hp} {ta te : TE} {P : D → Prop}
theorem evp_callG {Pre : List D → Prop} {Post : List D → D → Prop} {A : List D → Prop} {i : Nat} {q : Addr × Addr × Addr} {E : XK} {ta : TA} (hp : p.pl = some q) (hσ : σ[i]? = some (some (.ref q.1))) (h : EvAP K p ta σ H A) (pre : ∀ ds, A ds → Pre ds) :
    EvP K p (tCall (SpG K Pre Post) [] E (tCons (tVar i) ta)) σ H (fun d => ∃ ds, A ds ∧ Post ds d) := fun H1 r1 Q k => by
  refine ⟨.ref q.1, hσ, ?_⟩
  refine h H1 r1 _ fun vs ds H2 r2 pa ka => ?_
  refine ⟨p, q, vs, ds, by rw [List.append_nil], hp, r2.pi, ka, pre ds pa, fun v d H' r3 po kd => ?_⟩
  exact k v d H' (r2.trans r3) ⟨ds, pa, po⟩ kd
end
/-! ### the relations -/
def PrePick : List D → Prop := fun ds => ∃ m : Int, ds = [.int m] ∧ 0 < m ∧ m < 1073741824
def PostPick : List D → D → Prop := fun ds d => ∃ m r : Int, ds = [.int m] ∧ d = .int r ∧ 0 ≤ r ∧ r < m
def spPool (K : PySem.W.Frag) : Sp := fun vs H Q _ => ∃ (a : Addr) (ns : List Int), vs = [.ref a] ∧ SqL K H a (ns.map V.int) ∧ ns.length ≤ 63 ∧ ∀ q H', Ex H H' → PoolAt q H' → H q.1 = none → H q.2.1 = none → H q.2.2 = none → Q (.ref q.1) H'
/-- flat data, or a tuple or list of flat data -/
inductive Lo : D → Prop
  | flat {d : D} (h : flatD d = true) (o : d.canLay0 = true) : Lo d
  | tup {ds : List D} (h : ∀ d, d ∈ ds → flatD d = true ∧ d.canLay0 = true) (l : ds.length ≤ 1000) : Lo (.tuple ds)
  | lst {ds : List D} (h : ∀ d, d ∈ ds → flatD d = true ∧ d.canLay0 = true) (l : ds.length ≤ 1000) : Lo (.list ds)
def Rsame0 : List D → D → Prop := fun ds d => ∃ x y b, ds = [x, y] ∧ Lo x ∧ Lo y ∧ flatD y = true ∧ d = .bool b ∧ (b = true ↔ x = y)
def Rsame : List D → D → Prop := fun ds d => ∃ x y b, ds = [x, y] ∧ Lo x ∧ Lo y ∧ isLst y = false ∧ d = .bool b ∧ (b = true ↔ x = y)
def Rraised : List D → D → Prop := fun ds d => ∃ b k : Int, ds = [.int b, .int k] ∧ 0 ≤ k ∧ k ≤ 100 ∧ Sm 64 b ∧ d = .int (b ^ k.toNat)
def Pre0 : List D → Prop := fun ds => ds = []
/-- the law's nets -/
structure Net.Law (c : Net) : Prop where
  good : c.Good
  f4 : c.feeds.length ≤ 4
  t4 : c.tanks.length ≤ 4
  s6 : c.sws.length ≤ 6
def PostCircuit : List D → D → Prop := fun _ d => ∃ c : Net, c.Law ∧ d = netD c
def PreNet : List D → Prop := fun ds => ∃ c : Net, c.Law ∧ ds = [netD c]
/-- positions, held values as the law draws them -/
def PsOk (c : Net) (ps : List Int) : Prop := ps.length = c.sws.length ∧ ∀ (i : Nat) (x : Int) (s : Sw), ps[i]? = some x → c.sws[i]? = some s → 0 ≤ x ∧ x ≤ 2 ∧ (s.kind = "tie" → x = 1)
def HsOk (c : Net) (hs : List Int) : Prop := hs.length = c.n ∧ hs[0]? = some 0 ∧ hs[1]? = some 1 ∧ ∀ (i : Nat) (x : Int), hs[i]? = some x → 0 ≤ x ∧ x ≤ 2
def PostStands : List D → D → Prop := fun ds d => ∃ (c : Net) (ps : List Int), ds = [netD c] ∧ PsOk c ps ∧ d = nums ps
def PostHolds : List D → D → Prop := fun ds d => ∃ (c : Net) (hs : List Int), ds = [netD c] ∧ HsOk c hs ∧ d = nums hs
def PostGround : List D → D → Prop := fun _ d => ∃ b : Int, d = .int b ∧ 2 ≤ b ∧ b ≤ 1000000000
/-- a quotient of bounded size -/
structure QOk (q : Int × Int) : Prop where
  b1 : 1 ≤ q.2
  g1 : Nat.gcd q.1.natAbs q.2.natAbs = 1
  sm1 : Sm 600 q.1
  sm2 : Sm 600 q.2
def PreBetween : List D → Prop := fun ds => ∃ l m s : Int, ds = [.int l, .int m, .int s] ∧ 0 ≤ l ∧ 0 ≤ m ∧ Sm 500 l ∧ Sm 500 m
def PostBetween : List D → D → Prop := fun ds d => ∃ (l m s : Int) (q : Int × Int), ds = [.int l, .int m, .int s] ∧ d = qD q ∧ QOk q ∧ 0 ≤ q.1 ∧ (0 < l → 0 < m → 0 < q.1)
def PreLoad : List D → Prop := fun ds => ∃ (h s : Int) (w : Int × Int), ds = [.int h, qD w, .int s] ∧ QOk w ∧ Sm 100 w.1 ∧ Sm 100 w.2 ∧ 0 ≤ w.1
def PostLoad : List D → D → Prop := fun _ d => ∃ q : Int × Int, d = qD q ∧ QOk q ∧ 0 ≤ q.1 ∧ q.1 ≤ q.2
def WideOk (w : Int × Int) : Prop := QOk w ∧ Sm 100 w.1 ∧ Sm 100 w.2 ∧ 0 ≤ w.1
def PostWide : List D → D → Prop := fun _ d => ∃ w : Int × Int, d = qD w ∧ WideOk w
/-- a world as the law builds it -/
structure WorldOk (c : Net) (b : Int) (fl rm ch : List (Int × Int)) : Prop where
  b2 : 2 ≤ b
  bm : b ≤ 1000000000
  nf : fl.length = c.sws.length
  nr : rm.length = c.tanks.length
  nc : ch.length = c.n
  f : ∀ q, q ∈ fl → QOk q ∧ 0 ≤ q.1
  r : ∀ q, q ∈ rm → QOk q ∧ 0 < q.1
  q : ∀ q, q ∈ ch → QOk q ∧ 0 ≤ q.1 ∧ q.1 ≤ q.2
def PreEarth : List D → Prop := fun ds => ∃ (c : Net) (ps hs : List Int) (w : Int × Int), c.Law ∧ PsOk c ps ∧ HsOk c hs ∧ WideOk w ∧ ds = [netD c, nums ps, nums hs, qD w]
def PostEarth : List D → D → Prop := fun ds d => ∃ (c : Net) (x y z : D) (b : Int) (fl rm ch : List (Int × Int)), ds = [netD c, x, y, z] ∧ WorldOk c b fl rm ch ∧ d = wdD b fl rm ch
/-! the law's own fault -/
def lflow (b s p : Int) (q : Int × Int) : Bool := (decide (p = 0) && !decide (q.1 = 0)) || ((decide (p = 1) && decide (q.1 < b ^ (2 * s).toNat * q.2)) || decide (b ^ (2 * s).toNat * b * q.2 < q.1))
def lroom (b s : Int) (q : Int × Int) : Bool := decide (q.1 < b ^ (2 * s).toNat * q.2) || decide (b ^ (2 * s).toNat * q.2 * b < q.1)
def lcharge (h : Int) (q sl : Int × Int) (tank : Bool) : Bool := !decide (h = 2) && decide ((if tank then sl.1 * q.2 else 0) < (if h = 1 then q.2 - q.1 else q.1) * sl.2)
def faultL (c : Net) (ps hs : List Int) (b : Int) (fl rm ch : List (Int × Int)) (sl : Int × Int) : Option (Str × Nat) :=
  three (firstAt c.sws.length fun i => lflow b ((c.sws[i]?.map Sw.strength).getD 1) (ps.getD i 0) (fl.getD i (0, 1))) (firstAt c.tanks.length fun i => lroom b ((c.tanks[i]?.map Prod.snd).getD 1) (rm.getD i (0, 1)))
    (firstAt c.n fun i => lcharge (hs.getD i 0) (ch.getD i (0, 1)) sl (decide (c.feeds.length ≤ i)))
def Rfault : List D → D → Prop := fun ds d => ∃ c ps hs b fl rm ch sl, ds = [netD c, nums ps, nums hs, wdD b fl rm ch, qD sl] ∧ c.Law ∧ Stated c ps hs b fl rm ch sl ∧ d = outD (faultL c ps hs b fl rm ch sl)
def Rratio : List D → D → Prop := fun ds d => ∃ x, ds = [x] ∧ Bd x ∧ d = .bool (isQ x)
def Rratios : List D → D → Prop := fun ds d => ∃ (x : D) (n : Nat), ds = [x, .int (n : Int)] ∧ Bd x ∧ d = .bool (areQ (fun _ _ => true) n x)
def Rearth : List D → D → Prop := fun ds d => ∃ c x, ds = [netD c, x] ∧ Bd x ∧ d = .bool (worldOk c x)
def BdI (d : D) : Prop := Bd d ∧ ∀ i, d = .int i → Sm 64 i
def PreRow : List D → Prop := fun ds => ∃ es, ds = [.tuple es] ∧ (∀ d, d ∈ es → BdI d) ∧ es.length ≤ 20
def PostRow : List D → D → Prop := fun _ d => BdI d
def PreBent : List D → Prop := fun ds => ∃ (c : Net) (b : Int) (fl rm ch : List (Int × Int)), c.Law ∧ WorldOk c b fl rm ch ∧ ds = [wdD b fl rm ch]
def PostBent : List D → D → Prop := fun _ d => BdW d
/-- what a call comes to, as the law hears it -/
def heardD : Except Str D → D
  | .ok d => d
  | .error w => .list [.str "refused", .str w, .int (-1)]
def Rheard : List D → D → Prop := fun ds d => ∃ (k : Int) (c : Net) (es : List D) (x : D) (r : Except Str D), ds = [.int k, netD c, x] ∧ (x = .tuple es ∨ x = .list es) ∧ es.length ≤ 1000 ∧ d = heardD r ∧
  (((k = 0 ∨ k = 5) ∧ Rfb (es.take 2) r) ∨ ((k = 1 ∨ k = 6) ∧ Rrb (es.take 2) r) ∨ ((k = 4 ∨ k = 9) ∧ Rwf (netD c :: es) r))
def Rmeets : List D → D → Prop := fun ds d => ∃ (w : Str) (r : Except Str D) (u : D), ds = [heardD r, .str w, u] ∧ PySem.PyData.canLay0 (.str w) = true ∧ ((w ≠ "" ∧ r = .error w) ∨ (w = "" ∧ r = .ok u ∧ Lo u ∧ isLst u = false)) ∧ d = .bool true
def PreScale : List D → Prop := fun ds => ∃ m : Int, ds = [.int m] ∧ 1 ≤ m ∧ m ≤ 100
def PostScale : List D → D → Prop := fun _ d => Bd d
def PostAny : List D → D → Prop := fun _ d => BdI d
def PostTrue : List D → D → Prop := fun _ d => d = .bool true
/-- the law's four things, all as stated -/
def LawItems (c : Net) (es : List D) : Prop := ∃ ps hs b fl rm ch w, c.Law ∧ PsOk c ps ∧ HsOk c hs ∧ WideOk w ∧ WorldOk c b fl rm ch ∧ es = [nums ps, nums hs, wdD b fl rm ch, qD w]
def Ralone : List D → D → Prop := fun ds d => ∃ (c : Net) (es : List D), ds = [netD c, .tuple es] ∧ LawItems c es ∧ d = .bool true
def PreCall : List D → Prop := fun ds => ∃ (c : Net) (es : List D), ds = [netD c, .tuple es] ∧ LawItems c es
def Rhand : List D → D → Prop := fun ds d => ds = [] ∧ d = .bool true
def spLaw (K : PySem.W.Frag) : Sp := fun vs H Q _ => ∃ (a : Addr) (ns : List Int), vs = [.ref a] ∧ SqL K H a (ns.map V.int) ∧ ns.length ≤ 63 ∧ ∀ H', Q (.bl true) H'
def ts_heard (K : PySem.W.Frag) (C : Addr) : Addr → Value → Option Addr → TS := fun a cls d =>
  tSeq (tIfS (tB (tCB (rIsX K C a cls d) (tCons (tVar 3) (tCons (tC (.ref C)) tNil)))) (tRet (tLst (tCons (tC (.str "refused")) (tCons (tXf a cls d C "word" (tVar 3)) (tCons (tXf a cls d C "at" (tVar 3)) tNil))))) tNext) (tRet (tLst (tCons (tC (.str "other")) tNil)))
end Ky
set_option Elab.async false
set_option linter.all false
set_option maxRecDepth 100000
set_option maxHeartbeats 4000000
namespace Ky
open PySem PySem.Spec PyProof.Rows L2
/-! ### _law_pool -/
abbrev s_law_pool : Stmt := topS 40
abbrev N_law_pool : List Str := ["_law_script", "_law_cells", "_law_cell"]
abbrev P_law_pool : List Str := ["_law_script"]
theorem sc_law_pool : FnScope N_law_pool P_law_pool (defScope s_law_pool) := ⟨rfl, rfl, rfl, by decide +kernel, rfl, by decide +kernel, by decide +kernel⟩
def t_law_pool (K : PySem.W.Frag) : TS :=
    (tSeq (tAsg (tOp (rCat) (tLc (iList K (tVar 0)) (gName 2) tYes (tCB (rAbs) (tCons (tCB (rInt1) (tCons (tVar 2) tNil)) tNil)) [2]) (tLst (tCons (tC (.int 41)) tNil))) (gName 1))
    (tRet (tLst (tCons (tC (.int 0)) (tCons (tC (.int 0)) (tCons (tC (.int 0)) (tCons (tVar 1) (tCons (tLc (iList K (tVar 1)) (gName 2) (tTest (tOp (rI0 fun i j => .bl (decide (j ≤ i))) (tVar 2) (tOp (rI CPow fun i j => .int (i ^ j.toNat)) (tC (.int 10)) (tC (.int 18))))) (tVar 2) [2]) (tCons (tC (.int 53)) tNil)))))))))
theorem dv_law_pool {P : Program} {w : World} {K : PySem.W.Frag} {mg : Str → Option Value} {base : Heap} {f : Addr} {cdv : Value} {A : Around} {outer : List Env} {s : Shared} {H : Hp} {E : XK} (FR : Free mg)
    (hr : Room 0 (A.deeper (envOfC "_law_pool" (defScope s_law_pool) s.heap.objs.size f cdv))) :
    PSs (cxOf CX0 P w K mg base N_law_pool "_law_pool" (defScope s_law_pool) f cdv A outer s H E).nox (defBody s_law_pool) (t_law_pool K) := by
  unfold t_law_pool
  exact (pss_cons (ps_set (i := 1) sc_law_pool.nd rfl (by first | exact Or.inl rfl | exact Or.inr rfl) (pe_op op_cat (pe_lc (own := [("_law_cell", 2)]) (g := gName 2) (tt := tYes) rfl sc_law_pool.nd (pi_list (pv 0)) (blkOk_by (own := [("_law_cell", 2)]) (N := N_law_pool) (sc := defScope s_law_pool) (by decide +kernel)) (fun _ _ _ _ _ => pg_name (i := 2) sc_law_pool.nd rfl (Or.inl rfl)) (fun _ _ _ _ _ => pts_nil) (fun _ _ _ _ _ => (pe_callB call_absK (by rfl) FR.abs_ (by decide +kernel) (pa_cons (pe_callTy call_intK (by rfl) FR.int_ (by decide +kernel) (pa_cons (pv 2) pa_nil)) pa_nil)))) (pe_lst (pa_cons pe_int pa_nil))))
      (pss_one (ps_ret (pe_lst (pa_cons pe_int (pa_cons pe_int (pa_cons pe_int (pa_cons (pv 1) (pa_cons (pe_lc (own := [("_law_cell", 2)]) (g := gName 2) (tt := (tTest (tOp (rI0 fun i j => .bl (decide (j ≤ i))) (tVar 2) (tOp (rI CPow fun i j => .int (i ^ j.toNat)) (tC (.int 10)) (tC (.int 18)))))) rfl sc_law_pool.nd (pi_list (pv 1)) (blkOk_by (own := [("_law_cell", 2)]) (N := N_law_pool) (sc := defScope s_law_pool) (by decide +kernel)) (fun _ _ _ _ _ => pg_name (i := 2) sc_law_pool.nd rfl (Or.inl rfl)) (fun _ _ _ _ _ => (pts_one (pt_cmpR op_ge (pv 2) (pe_op op_pow pe_int pe_int) (nomark _)))) (fun _ _ _ _ _ => (pv 2))) (pa_cons pe_int pa_nil))))))))))

/-! ### _law_pick -/
abbrev s_law_pick : Stmt := topS 41
abbrev N_law_pick : List Str := ["_law_pool_here", "_law_many", "_law_cell", "_law_pick_here"]
abbrev P_law_pick : List Str := ["_law_pool_here", "_law_many"]
theorem sc_law_pick : FnScope N_law_pick P_law_pick (defScope s_law_pick) := ⟨rfl, rfl, rfl, by decide +kernel, rfl, by decide +kernel, by decide +kernel⟩
def t_law_pick (K : PySem.W.Frag) : TS :=
    (tSeq (tIfS (tAnd (tTest (tOp (rEqD K) (tOp (rIx K) (tVar 0) (tC (.int 0))) (tC (.int 0)))) (tTest (tOp (rI0 fun i j => .bl (decide (i < j))) (tOp (rIx K) (tVar 0) (tC (.int 1))) (tCB (Evl.rLenS K) (tCons (tOp (rIx K) (tVar 0) (tC (.int 4))) tNil))))) (tSeq (tAsg (tOp (rIx K) (tOp (rIx K) (tVar 0) (tC (.int 4))) (tOp (rIx K) (tVar 0) (tC (.int 1)))) (gSub (tVar 0) (tC (.int 0)) rSetL))
    (tAsg (tOp (rI0 fun i j => .int (i + j)) (tOp (rIx K) (tVar 0) (tC (.int 1))) (tC (.int 1))) (gSub (tVar 0) (tC (.int 1)) rSetL))) tNext)
    (tSeq (tIfS (tTest (tOp (rI0 fun i j => .bl (decide (j < i))) (tOp (rIx K) (tVar 0) (tC (.int 0))) (tC (.int 0)))) (tSeq (tAsg (tOp (rI (fun _ j => j ≠ 0) fun i j => .int (i.fmod j)) (tCB (rInt1) (tCons (tOp (rIx K) (tVar 0) (tC (.int 0))) tNil)) (tVar 1)) (gName 3))
    (tSeq (tAsg (tOp (rI CDivN fun i j => .int (i.fdiv j)) (tOp (rIx K) (tVar 0) (tC (.int 0))) (tVar 1)) (gSub (tVar 0) (tC (.int 0)) rSetL))
    (tRet (tVar 3)))) tNext)
    (tSeq (tAsg (tOp (rIx K) (tOp (rIx K) (tVar 0) (tC (.int 3))) (tOp (rI (fun _ j => j ≠ 0) fun i j => .int (i.fmod j)) (tOp (rIx K) (tVar 0) (tC (.int 2))) (tCB (Evl.rLenS K) (tCons (tOp (rIx K) (tVar 0) (tC (.int 3))) tNil)))) (gName 2))
    (tSeq (tAsg (tOp (rI0 fun i j => .int (i + j)) (tOp (rIx K) (tVar 0) (tC (.int 2))) (tC (.int 1))) (gSub (tVar 0) (tC (.int 2)) rSetL))
    (tSeq (tAsg (tOp (rI (fun _ j => j ≠ 0) fun i j => .int (i.fmod j)) (tCB (rInt1) (tCons (tOp (rI0 fun i j => .int (i + j)) (tOp (rI0 fun i j => .int (i + j)) (tOp (rI CMul fun i j => .int (i * j)) (tOp (rIx K) (tVar 0) (tC (.int 5))) (tC (.int 48271))) (tOp (rI CMul fun i j => .int (i * j)) (tVar 2) (tC (.int 31)))) (tOp (rI CMul fun i j => .int (i * j)) (tOp (rIx K) (tVar 0) (tC (.int 2))) (tC (.int 7919)))) tNil)) (tC (.int 2147483629))) (gSub (tVar 0) (tC (.int 5)) rSetL))
    (tRet (tOp (rI (fun _ j => j ≠ 0) fun i j => .int (i.fmod j)) (tCB (rInt1) (tCons (tOp (rI CDivN fun i j => .int (i.fdiv j)) (tOp (rI (fun _ j => j ≠ 0) fun i j => .int (i.fmod j)) (tCB (rInt1) (tCons (tOp (rI0 fun i j => .int (i + j)) (tOp (rI CMul fun i j => .int (i * j)) (tOp (rIx K) (tVar 0) (tC (.int 5))) (tOp (rIx K) (tVar 0) (tC (.int 5)))) (tOp (rI CDivN fun i j => .int (i.fdiv j)) (tOp (rIx K) (tVar 0) (tC (.int 5))) (tC (.int 512)))) tNil)) (tC (.int 1000000007))) (tC (.int 5))) tNil)) (tVar 1))))))))
theorem dv_law_pick {P : Program} {w : World} {K : PySem.W.Frag} {mg : Str → Option Value} {base : Heap} {f : Addr} {cdv : Value} {A : Around} {outer : List Env} {s : Shared} {H : Hp} {E : XK} (FR : Free mg)
    (hr : Room 0 (A.deeper (envOfC "_law_pick" (defScope s_law_pick) s.heap.objs.size f cdv))) :
    PSs (cxOf CX0 P w K mg base N_law_pick "_law_pick" (defScope s_law_pick) f cdv A outer s H E).nox (defBody s_law_pick) (t_law_pick K) := by
  unfold t_law_pick
  exact (pss_cons (ps_if (PW.pt (pw_and (pt_cmpR (op_eqD hr.units) (pe_ix ix_seq (pv 0) pe_int (fun _ _ => rfl)) pe_int (nomark _)) (pw_and1 (pt_cmpR op_lt (pe_ix ix_seq (pv 0) pe_int (fun _ _ => rfl)) (pe_callB call_lenK (by rfl) FR.len_ (by decide +kernel) (pa_cons (pe_ix ix_seq (pv 0) pe_int (fun _ _ => rfl)) pa_nil)) (nomark _))))) (pss_cons (ps_asg (pe_ix ix_seq (pe_ix ix_seq (pv 0) pe_int (fun _ _ => rfl)) (pe_ix ix_seq (pv 0) pe_int (fun _ _ => rfl)) (fun _ _ => rfl)) (pg_sub (pv 0) pe_int set_list))
      (pss_one (ps_asg (pe_op op_add (pe_ix ix_seq (pv 0) pe_int (fun _ _ => rfl)) pe_int) (pg_sub (pv 0) pe_int set_list)))) pss_nil)
      (pss_cons (ps_if (pt_cmpR op_gt (pe_ix ix_seq (pv 0) pe_int (fun _ _ => rfl)) pe_int (nomark _)) (pss_cons (ps_set (i := 3) sc_law_pick.nd rfl (by first | exact Or.inl rfl | exact Or.inr rfl) (pe_op op_modN (pe_callTy call_intK (by rfl) FR.int_ (by decide +kernel) (pa_cons (pe_ix ix_seq (pv 0) pe_int (fun _ _ => rfl)) pa_nil)) (pv 1)))
      (pss_cons (ps_asg (pe_op op_fdivN (pe_ix ix_seq (pv 0) pe_int (fun _ _ => rfl)) (pv 1)) (pg_sub (pv 0) pe_int set_list))
      (pss_one (ps_ret (pv 3))))) pss_nil)
      (pss_cons (ps_set (i := 2) sc_law_pick.nd rfl (by first | exact Or.inl rfl | exact Or.inr rfl) (pe_ix ix_seq (pe_ix ix_seq (pv 0) pe_int (fun _ _ => rfl)) (pe_op op_modN (pe_ix ix_seq (pv 0) pe_int (fun _ _ => rfl)) (pe_callB call_lenK (by rfl) FR.len_ (by decide +kernel) (pa_cons (pe_ix ix_seq (pv 0) pe_int (fun _ _ => rfl)) pa_nil))) (fun _ _ => rfl)))
      (pss_cons (ps_asg (pe_op op_add (pe_ix ix_seq (pv 0) pe_int (fun _ _ => rfl)) pe_int) (pg_sub (pv 0) pe_int set_list))
      (pss_cons (ps_asg (pe_op op_modN (pe_callTy call_intK (by rfl) FR.int_ (by decide +kernel) (pa_cons (pe_op op_add (pe_op op_add (pe_op op_mul (pe_ix ix_seq (pv 0) pe_int (fun _ _ => rfl)) pe_int) (pe_op op_mul (pv 2) pe_int)) (pe_op op_mul (pe_ix ix_seq (pv 0) pe_int (fun _ _ => rfl)) pe_int)) pa_nil)) pe_int) (pg_sub (pv 0) pe_int set_list))
      (pss_one (ps_ret (pe_op op_modN (pe_callTy call_intK (by rfl) FR.int_ (by decide +kernel) (pa_cons (pe_op op_fdivN (pe_op op_modN (pe_callTy call_intK (by rfl) FR.int_ (by decide +kernel) (pa_cons (pe_op op_add (pe_op op_mul (pe_ix ix_seq (pv 0) pe_int (fun _ _ => rfl)) (pe_ix ix_seq (pv 0) pe_int (fun _ _ => rfl))) (pe_op op_fdivN (pe_ix ix_seq (pv 0) pe_int (fun _ _ => rfl)) pe_int)) pa_nil)) pe_int) pe_int) pa_nil)) (pv 1)))))))))

/-! ### _law_low -/
abbrev s_law_low : Stmt := topS 42
abbrev N_law_low : List Str := ["_law_top", "_law_bottom", "_law_one", "_law_other", "_law_k", "_law_rest"]
abbrev P_law_low : List Str := ["_law_top", "_law_bottom"]
theorem sc_law_low : FnScope N_law_low P_law_low (defScope s_law_low) := ⟨rfl, rfl, rfl, by decide +kernel, rfl, by decide +kernel, by decide +kernel⟩
def t_law_low (K : PySem.W.Frag) : TS :=
    (tSeq (tAsg (tCB (rAbs) (tCons (tCB (rInt1) (tCons (tVar 0) tNil)) tNil)) (gName 2))
    (tSeq (tAsg (tCB (rAbs) (tCons (tCB (rInt1) (tCons (tVar 1) tNil)) tNil)) (gName 3))
    (tSeq (tFor (iRng1 (tCons (tOp (rI0 fun i j => .int (i + j)) (tOp (rI CMulW fun i j => .int (i * j)) (tC (.int 2)) (tBits (tCB (Evl.rMax2) (tCons (tVar 2) (tCons (tVar 3) tNil))))) (tC (.int 2))) tNil)) (gName 4) (tSeq (tIfS (tTest (tOp (rEqD K) (tVar 3) (tC (.int 0)))) tBreak tNext)
    (tSeq (tAsg (tOp (rI (fun _ j => j ≠ 0) fun i j => .int (i.fmod j)) (tCB (rInt1) (tCons (tVar 2) tNil)) (tVar 3)) (gName 5))
    (tSeq (tAsg (tVar 3) (gName 2))
    (tAsg (tVar 5) (gName 3))))))
    (tRet (tTup (tCons (tOp (rI CDivW fun i j => .int (i / j)) (tCB (rInt1) (tCons (tVar 0) tNil)) (tVar 2)) (tCons (tOp (rI CDivW fun i j => .int (i / j)) (tCB (rInt1) (tCons (tVar 1) tNil)) (tVar 2)) tNil)))))))
theorem dv_law_low {P : Program} {w : World} {K : PySem.W.Frag} {mg : Str → Option Value} {base : Heap} {f : Addr} {cdv : Value} {A : Around} {outer : List Env} {s : Shared} {H : Hp} {E : XK} (FR : Free mg)
    (hr : Room 0 (A.deeper (envOfC "_law_low" (defScope s_law_low) s.heap.objs.size f cdv))) :
    PSs (cxOf CX0 P w K mg base N_law_low "_law_low" (defScope s_law_low) f cdv A outer s H E).nox (defBody s_law_low) (t_law_low K) := by
  unfold t_law_low
  exact (pss_cons (ps_set (i := 2) sc_law_low.nd rfl (by first | exact Or.inl rfl | exact Or.inr rfl) (pe_callB call_absK (by rfl) FR.abs_ (by decide +kernel) (pa_cons (pe_callTy call_intK (by rfl) FR.int_ (by decide +kernel) (pa_cons (pv 0) pa_nil)) pa_nil)))
      (pss_cons (ps_set (i := 3) sc_law_low.nd rfl (by first | exact Or.inl rfl | exact Or.inr rfl) (pe_callB call_absK (by rfl) FR.abs_ (by decide +kernel) (pa_cons (pe_callTy call_intK (by rfl) FR.int_ (by decide +kernel) (pa_cons (pv 1) pa_nil)) pa_nil)))
      (pss_cons (ps_for PassesOwn.never rfl (pi_range1 (by rfl) FR.range_ (pa_cons (pe_op op_add (pe_op op_mulW pe_int (pe_bits (pe_callB (call_maxK rfl) (by rfl) FR.max_ (by decide +kernel) (pa_cons (pv 2) (pa_cons (pv 3) pa_nil))))) pe_int) pa_nil)) (pg_name (i := 4) sc_law_low.nd rfl (by first | exact Or.inl rfl | exact Or.inr rfl)) (pss_cons (ps_if (pt_cmpR (op_eqD hr.units) (pv 3) pe_int (nomark _)) (pss_one ps_break) pss_nil)
      (pss_cons (ps_set (i := 5) sc_law_low.nd rfl (by first | exact Or.inl rfl | exact Or.inr rfl) (pe_op op_modN (pe_callTy call_intK (by rfl) FR.int_ (by decide +kernel) (pa_cons (pv 2) pa_nil)) (pv 3)))
      (pss_cons (ps_set (i := 2) sc_law_low.nd rfl (by first | exact Or.inl rfl | exact Or.inr rfl) (pv 3))
      (pss_one (ps_set (i := 3) sc_law_low.nd rfl (by first | exact Or.inl rfl | exact Or.inr rfl) (pv 5)))))))
      (pss_one (ps_ret (pe_tup (pa_cons (pe_op op_fdivW (pe_callTy call_intK (by rfl) FR.int_ (by decide +kernel) (pa_cons (pv 0) pa_nil)) (pv 2)) (pa_cons (pe_op op_fdivW (pe_callTy call_intK (by rfl) FR.int_ (by decide +kernel) (pa_cons (pv 1) pa_nil)) (pv 2)) pa_nil))))))))

/-! ### _law_same -/
abbrev s_law_same : Stmt := topS 43
abbrev N_law_same : List Str := ["_law_told", "_law_due", "_law_k"]
abbrev P_law_same : List Str := ["_law_told", "_law_due"]
theorem sc_law_same : FnScope N_law_same P_law_same (defScope s_law_same) := ⟨rfl, rfl, rfl, by decide +kernel, rfl, by decide +kernel, by decide +kernel⟩
def t_law_same (K : PySem.W.Frag) (spS : Sp) : TS :=
    (tSeq (tIfS (tB (tCB (rIsi K) (tCons (tVar 1) (tCons (tC (.ty "tuple")) tNil)))) (tSeq (tIfS (tOr (tNot (tB (tCB (rIsi K) (tCons (tVar 0) (tCons (tC (.ty "tuple")) tNil))))) (tTest (tOp (rNeD K) (tCB (Evl.rLenS K) (tCons (tVar 0) tNil)) (tCB (Evl.rLenS K) (tCons (tVar 1) tNil))))) (tRet (tC (.bl false))) tNext)
    (tRet (tOp (rEqD K) (tCB (Evl.rLenS K) (tCons (tLc (iRng1 (tCons (tCB (Evl.rLenS K) (tCons (tVar 1) tNil)) tNil)) (gName 2) (tNot (tB (tCall spS [] E0 (tCons (tOp (rIx K) (tVar 0) (tVar 2)) (tCons (tOp (rIx K) (tVar 1) (tVar 2)) tNil))))) (tVar 2) [2]) tNil)) (tC (.int 0))))) tNext)
    (tSeq (tIfS (tOr (tTest (tOp (rIsN) (tVar 1) (tC .non))) (tOr (tB (tCB (rIsi K) (tCons (tVar 1) (tCons (tC (.ty "bool")) tNil)))) (tB (tCB (rIsi K) (tCons (tVar 0) (tCons (tC (.ty "bool")) tNil)))))) (tRet (tAndV (tOp (rEqD K) (tCB (rIsi K) (tCons (tVar 0) (tCons (tC (.ty "bool")) tNil))) (tCB (rIsi K) (tCons (tVar 1) (tCons (tC (.ty "bool")) tNil)))) (tOp (rEqD K) (tVar 0) (tVar 1)))) tNext)
    (tSeq (tIfS (tB (tCB (rIsi K) (tCons (tVar 1) (tCons (tC (.ty "int")) tNil)))) (tRet (tAndV (tCB (rIsi K) (tCons (tVar 0) (tCons (tC (.ty "int")) tNil))) (tOp (rEqD K) (tVar 0) (tVar 1)))) tNext)
    (tRet (tAndV (tCB (rIsi K) (tCons (tVar 1) (tCons (tC (.ty "str")) tNil))) (tAndV (tCB (rIsi K) (tCons (tVar 0) (tCons (tC (.ty "str")) tNil))) (tOp (rEqD K) (tVar 0) (tVar 1))))))))
theorem dv_law_same {P : Program} {w : World} {K : PySem.W.Frag} {mg : Str → Option Value} {base : Heap} {f : Addr} {cdv : Value} {A : Around} {outer : List Env} {s : Shared} {H : Hp} {E : XK} (FR : Free mg) {spS : Sp} {jj : Nat} (c_self : Prm P w K mg base CX0 jj "_law_same" P_law_same spS)
    (hr : Room jj (A.deeper (envOfC "_law_same" (defScope s_law_same) s.heap.objs.size f cdv))) :
    PSs (cxOf CX0 P w K mg base N_law_same "_law_same" (defScope s_law_same) f cdv A outer s H E).nox (defBody s_law_same) (t_law_same K spS) := by
  unfold t_law_same
  exact (pss_cons (ps_if (pt_val (pe_callB call_isi (by rfl) FR.isinstance_ (by decide +kernel) (pa_cons (pv 1) (pa_cons (pe_bltn (v := .ty "tuple") (by rfl) FR.tuple_ (by decide +kernel) rfl) pa_nil)))) (pss_cons (ps_if (PW.pt (pw_or (pt_not (pt_val (pe_callB call_isi (by rfl) FR.isinstance_ (by decide +kernel) (pa_cons (pv 0) (pa_cons (pe_bltn (v := .ty "tuple") (by rfl) FR.tuple_ (by decide +kernel) rfl) pa_nil))))) (pw_or1 (pt_cmpR (op_neD hr.units) (pe_callB call_lenK (by rfl) FR.len_ (by decide +kernel) (pa_cons (pv 0) pa_nil)) (pe_callB call_lenK (by rfl) FR.len_ (by decide +kernel) (pa_cons (pv 1) pa_nil)) (nomark _))))) (pss_one (ps_ret pe_bl)) pss_nil)
      (pss_one (ps_ret (pe_cmpR (op_eqD hr.units) (pe_callB call_lenK (by rfl) FR.len_ (by decide +kernel) (pa_cons (pe_lc (own := [("_law_k", 2)]) (g := gName 2) (tt := (tNot (tB (tCall spS [] E0 (tCons (tOp (rIx K) (tVar 0) (tVar 2)) (tCons (tOp (rIx K) (tVar 1) (tVar 2)) tNil)))))) rfl sc_law_same.nd (pi_range1 (by rfl) FR.range_ (pa_cons (pe_callB call_lenK (by rfl) FR.len_ (by decide +kernel) (pa_cons (pv 1) pa_nil)) pa_nil)) (blkOk_by (own := [("_law_k", 2)]) (N := N_law_same) (sc := defScope s_law_same) (by decide +kernel)) (fun _ _ _ _ _ => pg_name (i := 2) sc_law_same.nd rfl (Or.inl rfl)) (fun _ _ _ _ _ => (pts_one (pt_not (pt_val (pe_prm c_self (hr.mono (Nat.le_refl _)) (by rfl) pass0 (pa_cons (pe_ix ix_seq (pv 0) (pv 2) (fun _ _ => rfl)) (pa_cons (pe_ix ix_seq (pv 1) (pv 2) (fun _ _ => rfl)) pa_nil))))))) (fun _ _ _ _ _ => (pv 2))) pa_nil)) pe_int (nomark _))))) pss_nil)
      (pss_cons (ps_if (PW.pt (pw_or (pt_cmpR op_isNK (pv 1) pe_non (nomark _)) (pw_or (pt_val (pe_callB call_isi (by rfl) FR.isinstance_ (by decide +kernel) (pa_cons (pv 1) (pa_cons (pe_bltn (v := .ty "bool") (by rfl) FR.bool_ (by decide +kernel) rfl) pa_nil)))) (pw_or1 (pt_val (pe_callB call_isi (by rfl) FR.isinstance_ (by decide +kernel) (pa_cons (pv 0) (pa_cons (pe_bltn (v := .ty "bool") (by rfl) FR.bool_ (by decide +kernel) rfl) pa_nil)))))))) (pss_one (ps_ret (pe_and (pe_cmpR (op_eqD hr.units) (pe_callB call_isi (by rfl) FR.isinstance_ (by decide +kernel) (pa_cons (pv 0) (pa_cons (pe_bltn (v := .ty "bool") (by rfl) FR.bool_ (by decide +kernel) rfl) pa_nil))) (pe_callB call_isi (by rfl) FR.isinstance_ (by decide +kernel) (pa_cons (pv 1) (pa_cons (pe_bltn (v := .ty "bool") (by rfl) FR.bool_ (by decide +kernel) rfl) pa_nil))) (nomark _)) (pe_one (pe_cmpR (op_eqD hr.units) (pv 0) (pv 1) (nomark _)))))) pss_nil)
      (pss_cons (ps_if (pt_val (pe_callB call_isi (by rfl) FR.isinstance_ (by decide +kernel) (pa_cons (pv 1) (pa_cons (pe_bltn (v := .ty "int") (by rfl) FR.int_ (by decide +kernel) rfl) pa_nil)))) (pss_one (ps_ret (pe_and (pe_callB call_isi (by rfl) FR.isinstance_ (by decide +kernel) (pa_cons (pv 0) (pa_cons (pe_bltn (v := .ty "int") (by rfl) FR.int_ (by decide +kernel) rfl) pa_nil))) (pe_one (pe_cmpR (op_eqD hr.units) (pv 0) (pv 1) (nomark _)))))) pss_nil)
      (pss_one (ps_ret (pe_and (pe_callB call_isi (by rfl) FR.isinstance_ (by decide +kernel) (pa_cons (pv 1) (pa_cons (pe_bltn (v := .ty "str") (by rfl) FR.str_ (by decide +kernel) rfl) pa_nil))) (pe_and (pe_callB call_isi (by rfl) FR.isinstance_ (by decide +kernel) (pa_cons (pv 0) (pa_cons (pe_bltn (v := .ty "str") (by rfl) FR.str_ (by decide +kernel) rfl) pa_nil))) (pe_one (pe_cmpR (op_eqD hr.units) (pv 0) (pv 1) (nomark _))))))))))

/-! ### _law_raised -/
abbrev s_law_raised : Stmt := topS 44
abbrev N_law_raised : List Str := ["_law_ground_here", "_law_exponent", "_law_product", "_law_k"]
abbrev P_law_raised : List Str := ["_law_ground_here", "_law_exponent"]
theorem sc_law_raised : FnScope N_law_raised P_law_raised (defScope s_law_raised) := ⟨rfl, rfl, rfl, by decide +kernel, rfl, by decide +kernel, by decide +kernel⟩
def t_law_raised (K : PySem.W.Frag) : TS :=
    (tSeq (tAsg (tC (.int 1)) (gName 2))
    (tSeq (tFor (iRng1 (tCons (tVar 1) tNil)) (gName 3) (tAsg (tOp (rI CMul fun i j => .int (i * j)) (tVar 2) (tVar 0)) (gName 2)))
    (tRet (tVar 2))))
theorem dv_law_raised {P : Program} {w : World} {K : PySem.W.Frag} {mg : Str → Option Value} {base : Heap} {f : Addr} {cdv : Value} {A : Around} {outer : List Env} {s : Shared} {H : Hp} {E : XK} (FR : Free mg)
    (hr : Room 0 (A.deeper (envOfC "_law_raised" (defScope s_law_raised) s.heap.objs.size f cdv))) :
    PSs (cxOf CX0 P w K mg base N_law_raised "_law_raised" (defScope s_law_raised) f cdv A outer s H E).nox (defBody s_law_raised) (t_law_raised K) := by
  unfold t_law_raised
  exact (pss_cons (ps_set (i := 2) sc_law_raised.nd rfl (by first | exact Or.inl rfl | exact Or.inr rfl) pe_int)
      (pss_cons (ps_for PassesOwn.never rfl (pi_range1 (by rfl) FR.range_ (pa_cons (pv 1) pa_nil)) (pg_name (i := 3) sc_law_raised.nd rfl (by first | exact Or.inl rfl | exact Or.inr rfl)) (pss_one (ps_set (i := 2) sc_law_raised.nd rfl (by first | exact Or.inl rfl | exact Or.inr rfl) (pe_op op_mul (pv 2) (pv 0)))))
      (pss_one (ps_ret (pv 2)))))

/-! ### _law_circuit -/
abbrev s_law_circuit : Stmt := topS 45
abbrev N_law_circuit : List Str := ["_law_pool_here", "_law_feeds", "_law_basins", "_law_many", "_law_switches", "_law_k", "_law_kind", "_law_gate", "_law_left", "_law_right", "_law_name"]
abbrev P_law_circuit : List Str := ["_law_pool_here"]
theorem sc_law_circuit : FnScope N_law_circuit P_law_circuit (defScope s_law_circuit) := ⟨rfl, rfl, rfl, by decide +kernel, rfl, by decide +kernel, by decide +kernel⟩
def t_law_circuit (K : PySem.W.Frag) : TS :=
    (tSeq (tAsg (tSl (rSlA K) (tTup (tCons (tC (.str "low")) (tCons (tC (.str "high")) (tCons (tC (.str "a")) (tCons (tC (.str "bus[3]")) tNil))))) tNoPart (tPart (tOp (rI0 fun i j => .int (i + j)) (tC (.int 2)) (tCall (SpG K PrePick PostPick) [] E0 (tCons (tVar 0) (tCons (tC (.int 3)) tNil)))))) (gName 1))
    (tSeq (tAsg (tSl (rSlA K) (tTup (tCons (tC (.str "q")) (tCons (tC (.str "mem.s[0]")) (tCons (tC (.str "r")) (tCons (tC (.str "z1")) tNil))))) tNoPart (tPart (tCall (SpG K PrePick PostPick) [] E0 (tCons (tVar 0) (tCons (tC (.int 5)) tNil))))) (gName 2))
    (tSeq (tAsg (tCB (rTupS K) (tCons (tLc (iTup K (tVar 2)) (gName 10) tYes (tTup (tCons (tVar 10) (tCons (tOp (rI0 fun i j => .int (i + j)) (tC (.int 1)) (tCall (SpG K PrePick PostPick) [] E0 (tCons (tVar 0) (tCons (tC (.int 4)) tNil)))) tNil))) [10]) tNil)) (gName 2))
    (tSeq (tAsg (tOp (rI0 fun i j => .int (i + j)) (tCB (Evl.rLenS K) (tCons (tVar 1) tNil)) (tCB (Evl.rLenS K) (tCons (tVar 2) tNil))) (gName 3))
    (tSeq (tAsg (tLst tNil) (gName 4))
    (tSeq (tFor (iRng1 (tCons (tCall (SpG K PrePick PostPick) [] E0 (tCons (tVar 0) (tCons (tC (.int 7)) tNil))) tNil)) (gName 5) (tSeq (tAsg (tOp (rIx K) (tTup (tCons (tC (.str "one")) (tCons (tC (.str "zero")) (tCons (tC (.str "tie")) (tCons (tC (.str "one")) tNil))))) (tCall (SpG K PrePick PostPick) [] E0 (tCons (tVar 0) (tCons (tC (.int 4)) tNil)))) (gName 6))
    (tSeq (tAsg (tIf (tTest (tOp (rEqD K) (tVar 6) (tC (.str "tie")))) (tUn (rU fun i => .int (-i)) (tC (.int 1))) (tCall (SpG K PrePick PostPick) [] E0 (tCons (tVar 0) (tCons (tVar 3) tNil)))) (gName 7))
    (tSeq (tAsg (tCall (SpG K PrePick PostPick) [] E0 (tCons (tVar 0) (tCons (tVar 3) tNil))) (gName 8))
    (tSeq (tAsg (tOp (rI (fun _ j => j ≠ 0) fun i j => .int (i.fmod j)) (tCB (rInt1) (tCons (tOp (rI0 fun i j => .int (i + j)) (tOp (rI0 fun i j => .int (i + j)) (tVar 8) (tC (.int 1))) (tCall (SpG K PrePick PostPick) [] E0 (tCons (tVar 0) (tCons (tOp (rI0 fun i j => .int (i - j)) (tVar 3) (tC (.int 1))) tNil)))) tNil)) (tVar 3)) (gName 9))
    (tDrop (tBM K "list" rAppend (tVar 4) (tCons (tTup (tCons (tVar 6) (tCons (tOp (rI0 fun i j => .int (i + j)) (tC (.int 1)) (tCall (SpG K PrePick PostPick) [] E0 (tCons (tVar 0) (tCons (tC (.int 6)) tNil)))) (tCons (tVar 7) (tCons (tVar 8) (tCons (tVar 9) tNil)))))) tNil))))))))
    (tRet (tTup (tCons (tVar 1) (tCons (tVar 2) (tCons (tCB (rTupS K) (tCons (tVar 4) tNil)) tNil)))))))))))
theorem dv_law_circuit {P : Program} {w : World} {K : PySem.W.Frag} {mg : Str → Option Value} {base : Heap} {f : Addr} {cdv : Value} {A : Around} {outer : List Env} {s : Shared} {H : Hp} {E : XK} (FR : Free mg) (c_law_pick : Prm P w K mg base CX0 1 "_law_pick" P_law_pick (SpG K PrePick PostPick))
    (hr : Room 1 (A.deeper (envOfC "_law_circuit" (defScope s_law_circuit) s.heap.objs.size f cdv))) :
    PSs (cxOf CX0 P w K mg base N_law_circuit "_law_circuit" (defScope s_law_circuit) f cdv A outer s H E).nox (defBody s_law_circuit) (t_law_circuit K) := by
  unfold t_law_circuit
  exact (pss_cons (ps_set (i := 1) sc_law_circuit.nd rfl (by first | exact Or.inl rfl | exact Or.inr rfl) (pe_slice sl_tupA (pe_tup (pa_cons pe_str (pa_cons pe_str (pa_cons pe_str (pa_cons pe_str pa_nil))))) po_none (po_some (pe_op op_add pe_int (pe_prm c_law_pick (hr.mono (by decide)) (by rfl) pass0 (pa_cons (pv 0) (pa_cons pe_int pa_nil)))))))
      (pss_cons (ps_set (i := 2) sc_law_circuit.nd rfl (by first | exact Or.inl rfl | exact Or.inr rfl) (pe_slice sl_tupA (pe_tup (pa_cons pe_str (pa_cons pe_str (pa_cons pe_str (pa_cons pe_str pa_nil))))) po_none (po_some (pe_prm c_law_pick (hr.mono (by decide)) (by rfl) pass0 (pa_cons (pv 0) (pa_cons pe_int pa_nil))))))
      (pss_cons (ps_set (i := 2) sc_law_circuit.nd rfl (by first | exact Or.inl rfl | exact Or.inr rfl) (pe_callTy call_tupK (by rfl) FR.tuple_ (by decide +kernel) (pa_cons (pe_lc (own := [("_law_name", 10)]) (g := gName 10) (tt := tYes) rfl sc_law_circuit.nd (pi_tup (pv 2)) (blkOk_by (own := [("_law_name", 10)]) (N := N_law_circuit) (sc := defScope s_law_circuit) (by decide +kernel)) (fun _ _ _ _ _ => pg_name (i := 10) sc_law_circuit.nd rfl (Or.inl rfl)) (fun _ _ _ _ _ => pts_nil) (fun _ _ _ _ _ => (pe_tup (pa_cons (pv 10) (pa_cons (pe_op op_add pe_int (pe_prm c_law_pick (hr.mono (by decide)) (by rfl) pass0 (pa_cons (pv 0) (pa_cons pe_int pa_nil)))) pa_nil))))) pa_nil)))
      (pss_cons (ps_set (i := 3) sc_law_circuit.nd rfl (by first | exact Or.inl rfl | exact Or.inr rfl) (pe_op op_add (pe_callB call_lenK (by rfl) FR.len_ (by decide +kernel) (pa_cons (pv 1) pa_nil)) (pe_callB call_lenK (by rfl) FR.len_ (by decide +kernel) (pa_cons (pv 2) pa_nil))))
      (pss_cons (ps_set (i := 4) sc_law_circuit.nd rfl (by first | exact Or.inl rfl | exact Or.inr rfl) (pe_lst pa_nil))
      (pss_cons (ps_for PassesOwn.never rfl (pi_range1 (by rfl) FR.range_ (pa_cons (pe_prm c_law_pick (hr.mono (by decide)) (by rfl) pass0 (pa_cons (pv 0) (pa_cons pe_int pa_nil))) pa_nil)) (pg_name (i := 5) sc_law_circuit.nd rfl (by first | exact Or.inl rfl | exact Or.inr rfl)) (pss_cons (ps_set (i := 6) sc_law_circuit.nd rfl (by first | exact Or.inl rfl | exact Or.inr rfl) (pe_ix ix_seq (pe_tup (pa_cons pe_str (pa_cons pe_str (pa_cons pe_str (pa_cons pe_str pa_nil))))) (pe_prm c_law_pick (hr.mono (by decide)) (by rfl) pass0 (pa_cons (pv 0) (pa_cons pe_int pa_nil))) (fun _ _ => rfl)))
      (pss_cons (ps_set (i := 7) sc_law_circuit.nd rfl (by first | exact Or.inl rfl | exact Or.inr rfl) (pe_ifExp (pt_cmpR (op_eqD hr.units) (pv 6) pe_str (nomark _)) (pe_un un_neg pe_int) (pe_prm c_law_pick (hr.mono (by decide)) (by rfl) pass0 (pa_cons (pv 0) (pa_cons (pv 3) pa_nil)))))
      (pss_cons (ps_set (i := 8) sc_law_circuit.nd rfl (by first | exact Or.inl rfl | exact Or.inr rfl) (pe_prm c_law_pick (hr.mono (by decide)) (by rfl) pass0 (pa_cons (pv 0) (pa_cons (pv 3) pa_nil))))
      (pss_cons (ps_set (i := 9) sc_law_circuit.nd rfl (by first | exact Or.inl rfl | exact Or.inr rfl) (pe_op op_modN (pe_callTy call_intK (by rfl) FR.int_ (by decide +kernel) (pa_cons (pe_op op_add (pe_op op_add (pv 8) pe_int) (pe_prm c_law_pick (hr.mono (by decide)) (by rfl) pass0 (pa_cons (pv 0) (pa_cons (pe_op op_sub (pv 3) pe_int) pa_nil)))) pa_nil)) (pv 3)))
      (pss_one (ps_expr (pe_bm PySem.F.plainAttrs_list PySem.F.slot_list_append PySem.F.type_list_append mt_append (pv 4) (pa_cons (pe_tup (pa_cons (pv 6) (pa_cons (pe_op op_add pe_int (pe_prm c_law_pick (hr.mono (by decide)) (by rfl) pass0 (pa_cons (pv 0) (pa_cons pe_int pa_nil)))) (pa_cons (pv 7) (pa_cons (pv 8) (pa_cons (pv 9) pa_nil)))))) pa_nil)))))))))
      (pss_one (ps_ret (pe_tup (pa_cons (pv 1) (pa_cons (pv 2) (pa_cons (pe_callTy call_tupK (by rfl) FR.tuple_ (by decide +kernel) (pa_cons (pv 4) pa_nil)) pa_nil))))))))))))

/-! ### _law_stands -/
abbrev s_law_stands : Stmt := topS 46
abbrev N_law_stands : List Str := ["_law_pool_here", "_law_circuit_here", "_law_switch"]
abbrev P_law_stands : List Str := ["_law_pool_here", "_law_circuit_here"]
theorem sc_law_stands : FnScope N_law_stands P_law_stands (defScope s_law_stands) := ⟨rfl, rfl, rfl, by decide +kernel, rfl, by decide +kernel, by decide +kernel⟩
def t_law_stands (K : PySem.W.Frag) : TS :=
    (tRet (tCB (rTupS K) (tCons (tLc (iTup K (tOp (rIx K) (tVar 1) (tC (.int 2)))) (gName 2) tYes (tIf (tTest (tOp (rEqD K) (tOp (rIx K) (tVar 2) (tC (.int 0))) (tC (.str "tie")))) (tC (.int 1)) (tOp (rIx K) (tTup (tCons (tC (.int 0)) (tCons (tC (.int 1)) (tCons (tC (.int 2)) (tCons (tC (.int 0)) tNil))))) (tCall (SpG K PrePick PostPick) [] E0 (tCons (tVar 0) (tCons (tC (.int 4)) tNil))))) [2]) tNil)))
theorem dv_law_stands {P : Program} {w : World} {K : PySem.W.Frag} {mg : Str → Option Value} {base : Heap} {f : Addr} {cdv : Value} {A : Around} {outer : List Env} {s : Shared} {H : Hp} {E : XK} (FR : Free mg) (c_law_pick : Prm P w K mg base CX0 1 "_law_pick" P_law_pick (SpG K PrePick PostPick))
    (hr : Room 1 (A.deeper (envOfC "_law_stands" (defScope s_law_stands) s.heap.objs.size f cdv))) :
    PSs (cxOf CX0 P w K mg base N_law_stands "_law_stands" (defScope s_law_stands) f cdv A outer s H E).nox (defBody s_law_stands) (t_law_stands K) := by
  unfold t_law_stands
  exact (pss_one (ps_ret (pe_callTy call_tupK (by rfl) FR.tuple_ (by decide +kernel) (pa_cons (pe_lc (own := [("_law_switch", 2)]) (g := gName 2) (tt := tYes) rfl sc_law_stands.nd (pi_tup (pe_ix ix_seq (pv 1) pe_int (fun _ _ => rfl))) (blkOk_by (own := [("_law_switch", 2)]) (N := N_law_stands) (sc := defScope s_law_stands) (by decide +kernel)) (fun _ _ _ _ _ => pg_name (i := 2) sc_law_stands.nd rfl (Or.inl rfl)) (fun _ _ _ _ _ => pts_nil) (fun _ _ _ _ _ => (pe_ifExp (pt_cmpR (op_eqD hr.units) (pe_ix ix_seq (pv 2) pe_int (fun _ _ => rfl)) pe_str (nomark _)) pe_int (pe_ix ix_seq (pe_tup (pa_cons pe_int (pa_cons pe_int (pa_cons pe_int (pa_cons pe_int pa_nil))))) (pe_prm c_law_pick (hr.mono (by decide)) (by rfl) pass0 (pa_cons (pv 0) (pa_cons pe_int pa_nil))) (fun _ _ => rfl))))) pa_nil))))

/-! ### _law_holds -/
abbrev s_law_holds : Stmt := topS 47
abbrev N_law_holds : List Str := ["_law_pool_here", "_law_circuit_here", "_law_k"]
abbrev P_law_holds : List Str := ["_law_pool_here", "_law_circuit_here"]
theorem sc_law_holds : FnScope N_law_holds P_law_holds (defScope s_law_holds) := ⟨rfl, rfl, rfl, by decide +kernel, rfl, by decide +kernel, by decide +kernel⟩
def t_law_holds (K : PySem.W.Frag) : TS :=
    (tRet (tCB (rTupS K) (tCons (tOp (rCat) (tLst (tCons (tC (.int 0)) (tCons (tC (.int 1)) tNil))) (tLc (iRng1 (tCons (tOp (rI0 fun i j => .int (i - j)) (tOp (rI0 fun i j => .int (i + j)) (tCB (Evl.rLenS K) (tCons (tOp (rIx K) (tVar 1) (tC (.int 0))) tNil)) (tCB (Evl.rLenS K) (tCons (tOp (rIx K) (tVar 1) (tC (.int 1))) tNil))) (tC (.int 2))) tNil)) (gName 2) tYes (tOp (rIx K) (tTup (tCons (tC (.int 0)) (tCons (tC (.int 1)) (tCons (tC (.int 2)) (tCons (tC (.int 0)) (tCons (tC (.int 1)) tNil)))))) (tCall (SpG K PrePick PostPick) [] E0 (tCons (tVar 0) (tCons (tC (.int 5)) tNil)))) [2])) tNil)))
theorem dv_law_holds {P : Program} {w : World} {K : PySem.W.Frag} {mg : Str → Option Value} {base : Heap} {f : Addr} {cdv : Value} {A : Around} {outer : List Env} {s : Shared} {H : Hp} {E : XK} (FR : Free mg) (c_law_pick : Prm P w K mg base CX0 1 "_law_pick" P_law_pick (SpG K PrePick PostPick))
    (hr : Room 1 (A.deeper (envOfC "_law_holds" (defScope s_law_holds) s.heap.objs.size f cdv))) :
    PSs (cxOf CX0 P w K mg base N_law_holds "_law_holds" (defScope s_law_holds) f cdv A outer s H E).nox (defBody s_law_holds) (t_law_holds K) := by
  unfold t_law_holds
  exact (pss_one (ps_ret (pe_callTy call_tupK (by rfl) FR.tuple_ (by decide +kernel) (pa_cons (pe_op op_cat (pe_lst (pa_cons pe_int (pa_cons pe_int pa_nil))) (pe_lc (own := [("_law_k", 2)]) (g := gName 2) (tt := tYes) rfl sc_law_holds.nd (pi_range1 (by rfl) FR.range_ (pa_cons (pe_op op_sub (pe_op op_add (pe_callB call_lenK (by rfl) FR.len_ (by decide +kernel) (pa_cons (pe_ix ix_seq (pv 1) pe_int (fun _ _ => rfl)) pa_nil)) (pe_callB call_lenK (by rfl) FR.len_ (by decide +kernel) (pa_cons (pe_ix ix_seq (pv 1) pe_int (fun _ _ => rfl)) pa_nil))) pe_int) pa_nil)) (blkOk_by (own := [("_law_k", 2)]) (N := N_law_holds) (sc := defScope s_law_holds) (by decide +kernel)) (fun _ _ _ _ _ => pg_name (i := 2) sc_law_holds.nd rfl (Or.inl rfl)) (fun _ _ _ _ _ => pts_nil) (fun _ _ _ _ _ => (pe_ix ix_seq (pe_tup (pa_cons pe_int (pa_cons pe_int (pa_cons pe_int (pa_cons pe_int (pa_cons pe_int pa_nil)))))) (pe_prm c_law_pick (hr.mono (by decide)) (by rfl) pass0 (pa_cons (pv 0) (pa_cons pe_int pa_nil))) (fun _ _ => rfl))))) pa_nil))))

/-! ### _law_ground -/
abbrev s_law_ground : Stmt := topS 48
abbrev N_law_ground : List Str := ["_law_pool_here", "_law_mode"]
abbrev P_law_ground : List Str := ["_law_pool_here"]
theorem sc_law_ground : FnScope N_law_ground P_law_ground (defScope s_law_ground) := ⟨rfl, rfl, rfl, by decide +kernel, rfl, by decide +kernel, by decide +kernel⟩
def t_law_ground (K : PySem.W.Frag) : TS :=
    (tSeq (tAsg (tCall (SpG K PrePick PostPick) [] E0 (tCons (tVar 0) (tCons (tC (.int 8)) tNil))) (gName 1))
    (tSeq (tIfS (tTest (tOp (rI0 fun i j => .bl (decide (i < j))) (tVar 1) (tC (.int 5)))) (tRet (tOp (rI0 fun i j => .int (i + j)) (tC (.int 2)) (tCall (SpG K PrePick PostPick) [] E0 (tCons (tVar 0) (tCons (tC (.int 4)) tNil))))) tNext)
    (tRet (tOp (rIx K) (tTup (tCons (tOp (rI0 fun i j => .int (i + j)) (tC (.int 2)) (tCall (SpG K PrePick PostPick) [] E0 (tCons (tVar 0) (tCons (tC (.int 60)) tNil)))) (tCons (tOp (rI0 fun i j => .int (i - j)) (tOp (rI CPow fun i j => .int (i ^ j.toNat)) (tC (.int 10)) (tC (.int 9))) (tCall (SpG K PrePick PostPick) [] E0 (tCons (tVar 0) (tCons (tC (.int 3)) tNil)))) (tCons (tOp (rI0 fun i j => .int (i + j)) (tC (.int 1000)) (tCall (SpG K PrePick PostPick) [] E0 (tCons (tVar 0) (tCons (tC (.int 1000000)) tNil)))) tNil)))) (tOp (rI0 fun i j => .int (i - j)) (tVar 1) (tC (.int 5)))))))
theorem dv_law_ground {P : Program} {w : World} {K : PySem.W.Frag} {mg : Str → Option Value} {base : Heap} {f : Addr} {cdv : Value} {A : Around} {outer : List Env} {s : Shared} {H : Hp} {E : XK} (FR : Free mg) (c_law_pick : Prm P w K mg base CX0 1 "_law_pick" P_law_pick (SpG K PrePick PostPick))
    (hr : Room 1 (A.deeper (envOfC "_law_ground" (defScope s_law_ground) s.heap.objs.size f cdv))) :
    PSs (cxOf CX0 P w K mg base N_law_ground "_law_ground" (defScope s_law_ground) f cdv A outer s H E).nox (defBody s_law_ground) (t_law_ground K) := by
  unfold t_law_ground
  exact (pss_cons (ps_set (i := 1) sc_law_ground.nd rfl (by first | exact Or.inl rfl | exact Or.inr rfl) (pe_prm c_law_pick (hr.mono (by decide)) (by rfl) pass0 (pa_cons (pv 0) (pa_cons pe_int pa_nil))))
      (pss_cons (ps_if (pt_cmpR op_lt (pv 1) pe_int (nomark _)) (pss_one (ps_ret (pe_op op_add pe_int (pe_prm c_law_pick (hr.mono (by decide)) (by rfl) pass0 (pa_cons (pv 0) (pa_cons pe_int pa_nil)))))) pss_nil)
      (pss_one (ps_ret (pe_ix ix_seq (pe_tup (pa_cons (pe_op op_add pe_int (pe_prm c_law_pick (hr.mono (by decide)) (by rfl) pass0 (pa_cons (pv 0) (pa_cons pe_int pa_nil)))) (pa_cons (pe_op op_sub (pe_op op_pow pe_int pe_int) (pe_prm c_law_pick (hr.mono (by decide)) (by rfl) pass0 (pa_cons (pv 0) (pa_cons pe_int pa_nil)))) (pa_cons (pe_op op_add pe_int (pe_prm c_law_pick (hr.mono (by decide)) (by rfl) pass0 (pa_cons (pv 0) (pa_cons pe_int pa_nil)))) pa_nil)))) (pe_op op_sub (pv 1) pe_int) (fun _ _ => rfl))))))

/-! ### _law_between -/
abbrev s_law_between : Stmt := topS 49
abbrev N_law_between : List Str := ["_law_pool_here", "_law_least", "_law_most", "_law_spoiled", "_law_mode", "_law_odd"]
abbrev P_law_between : List Str := ["_law_pool_here", "_law_least", "_law_most", "_law_spoiled"]
theorem sc_law_between : FnScope N_law_between P_law_between (defScope s_law_between) := ⟨rfl, rfl, rfl, by decide +kernel, rfl, by decide +kernel, by decide +kernel⟩
def t_law_between (K : PySem.W.Frag) : TS :=
    (tSeq (tAsg (tCall (SpG K PrePick PostPick) [] E0 (tCons (tVar 0) (tCons (tC (.int 4)) tNil))) (gName 4))
    (tSeq (tIfS (tOr (tTest (tOp (rEqD K) (tVar 3) (tC (.int 0)))) (tTest (tOp (rI0 fun i j => .bl (decide (j < i))) (tCall (SpG K PrePick PostPick) [] E0 (tCons (tVar 0) (tCons (tC (.int 3)) tNil))) (tC (.int 0))))) (tRet (tOp (rIx K) (tTup (tCons (tTup (tCons (tVar 1) (tCons (tC (.int 1)) tNil))) (tCons (tTup (tCons (tVar 2) (tCons (tC (.int 1)) tNil))) (tCons (tCall (SpR K Rlowest) [] E0 (tCons (tOp (rI0 fun i j => .int (i + j)) (tOp (rI CMul fun i j => .int (i * j)) (tC (.int 3)) (tVar 1)) (tOp (rI CMul fun i j => .int (i * j)) (tC (.int 6)) (tVar 2))) (tCons (tC (.int 9)) tNil))) (tCons (tCall (SpR K Rlowest) [] E0 (tCons (tOp (rI0 fun i j => .int (i + j)) (tOp (rI CMul fun i j => .int (i * j)) (tC (.int 4)) (tVar 1)) (tOp (rI CMul fun i j => .int (i * j)) (tC (.int 5)) (tVar 2))) (tCons (tC (.int 9)) tNil))) tNil))))) (tVar 4))) tNext)
    (tSeq (tAsg (tTup (tCons (tTup (tCons (tOp (rI0 fun i j => .int (i + j)) (tOp (rI CMul fun i j => .int (i * j)) (tC (.int 3)) (tVar 2)) (tC (.int 1))) (tCons (tC (.int 3)) tNil))) (tCons (tTup (tCons (tOp (rI0 fun i j => .int (i + j)) (tOp (rI CMul fun i j => .int (i * j)) (tC (.int 2)) (tVar 2)) (tC (.int 1))) (tCons (tC (.int 1)) tNil))) (tCons (tTup (tCons (tC (.int 1)) (tCons (tC (.int 1000)) tNil))) (tCons (tTup (tCons (tOp (rI0 fun i j => .int (i + j)) (tVar 2) (tC (.int 1))) (tCons (tC (.int 1)) tNil))) (tCons (tCall (SpR K Rlowest) [] E0 (tCons (tCB (Evl.rMax2) (tCons (tC (.int 0)) (tCons (tOp (rI0 fun i j => .int (i - j)) (tOp (rI CMul fun i j => .int (i * j)) (tC (.int 3)) (tVar 1)) (tC (.int 1))) tNil))) (tCons (tC (.int 3)) tNil))) tNil)))))) (gName 5))
    (tRet (tOp (rIx K) (tVar 5) (tCall (SpG K PrePick PostPick) [] E0 (tCons (tVar 0) (tCons (tC (.int 5)) tNil))))))))
theorem dv_law_between {P : Program} {w : World} {K : PySem.W.Frag} {mg : Str → Option Value} {base : Heap} {f : Addr} {cdv : Value} {A : Around} {outer : List Env} {s : Shared} {H : Hp} {E : XK} (FR : Free mg) (c_law_pick : Prm P w K mg base CX0 1 "_law_pick" P_law_pick (SpG K PrePick PostPick)) (c_law_low : Prm P w K mg base CX0 1 "_law_low" P_law_low (SpR K Rlowest))
    (hr : Room 1 (A.deeper (envOfC "_law_between" (defScope s_law_between) s.heap.objs.size f cdv))) :
    PSs (cxOf CX0 P w K mg base N_law_between "_law_between" (defScope s_law_between) f cdv A outer s H E).nox (defBody s_law_between) (t_law_between K) := by
  unfold t_law_between
  exact (pss_cons (ps_set (i := 4) sc_law_between.nd rfl (by first | exact Or.inl rfl | exact Or.inr rfl) (pe_prm c_law_pick (hr.mono (by decide)) (by rfl) pass0 (pa_cons (pv 0) (pa_cons pe_int pa_nil))))
      (pss_cons (ps_if (PW.pt (pw_or (pt_cmpR (op_eqD hr.units) (pv 3) pe_int (nomark _)) (pw_or1 (pt_cmpR op_gt (pe_prm c_law_pick (hr.mono (by decide)) (by rfl) pass0 (pa_cons (pv 0) (pa_cons pe_int pa_nil))) pe_int (nomark _))))) (pss_one (ps_ret (pe_ix ix_seq (pe_tup (pa_cons (pe_tup (pa_cons (pv 1) (pa_cons pe_int pa_nil))) (pa_cons (pe_tup (pa_cons (pv 2) (pa_cons pe_int pa_nil))) (pa_cons (pe_prm c_law_low (hr.mono (by decide)) (by rfl) pass0 (pa_cons (pe_op op_add (pe_op op_mul pe_int (pv 1)) (pe_op op_mul pe_int (pv 2))) (pa_cons pe_int pa_nil))) (pa_cons (pe_prm c_law_low (hr.mono (by decide)) (by rfl) pass0 (pa_cons (pe_op op_add (pe_op op_mul pe_int (pv 1)) (pe_op op_mul pe_int (pv 2))) (pa_cons pe_int pa_nil))) pa_nil))))) (pv 4) (fun _ _ => rfl)))) pss_nil)
      (pss_cons (ps_set (i := 5) sc_law_between.nd rfl (by first | exact Or.inl rfl | exact Or.inr rfl) (pe_tup (pa_cons (pe_tup (pa_cons (pe_op op_add (pe_op op_mul pe_int (pv 2)) pe_int) (pa_cons pe_int pa_nil))) (pa_cons (pe_tup (pa_cons (pe_op op_add (pe_op op_mul pe_int (pv 2)) pe_int) (pa_cons pe_int pa_nil))) (pa_cons (pe_tup (pa_cons pe_int (pa_cons pe_int pa_nil))) (pa_cons (pe_tup (pa_cons (pe_op op_add (pv 2) pe_int) (pa_cons pe_int pa_nil))) (pa_cons (pe_prm c_law_low (hr.mono (by decide)) (by rfl) pass0 (pa_cons (pe_callB (call_maxK rfl) (by rfl) FR.max_ (by decide +kernel) (pa_cons pe_int (pa_cons (pe_op op_sub (pe_op op_mul pe_int (pv 1)) pe_int) pa_nil))) (pa_cons pe_int pa_nil))) pa_nil)))))))
      (pss_one (ps_ret (pe_ix ix_seq (pv 5) (pe_prm c_law_pick (hr.mono (by decide)) (by rfl) pass0 (pa_cons (pv 0) (pa_cons pe_int pa_nil))) (fun _ _ => rfl)))))))

/-! ### _law_load -/
abbrev s_law_load : Stmt := topS 50
abbrev N_law_load : List Str := ["_law_pool_here", "_law_hold", "_law_wide_here", "_law_spoiled", "_law_step"]
abbrev P_law_load : List Str := ["_law_pool_here", "_law_hold", "_law_wide_here", "_law_spoiled"]
theorem sc_law_load : FnScope N_law_load P_law_load (defScope s_law_load) := ⟨rfl, rfl, rfl, by decide +kernel, rfl, by decide +kernel, by decide +kernel⟩
def t_law_load (K : PySem.W.Frag) : TS :=
    (tSeq (tIfS (tTest (tOp (rEqD K) (tVar 1) (tC (.int 2)))) (tRet (tOp (rIx K) (tTup (tCons (tTup (tCons (tC (.int 0)) (tCons (tC (.int 1)) tNil))) (tCons (tTup (tCons (tC (.int 1)) (tCons (tC (.int 1)) tNil))) (tCons (tTup (tCons (tC (.int 1)) (tCons (tC (.int 2)) tNil))) (tCons (tTup (tCons (tC (.int 3)) (tCons (tC (.int 7)) tNil))) tNil))))) (tCall (SpG K PrePick PostPick) [] E0 (tCons (tVar 0) (tCons (tC (.int 4)) tNil))))) tNext)
    (tSeq (tAsg (tTup (tCons (tC (.int 0)) (tCons (tC (.int 1)) tNil))) (gName 4))
    (tSeq (tIfS (tTest (tOp (rI0 fun i j => .bl (decide (i ≤ j))) (tOp (rIx K) (tVar 2) (tC (.int 0))) (tOp (rIx K) (tVar 2) (tC (.int 1))))) (tAsg (tOp (rIx K) (tTup (tCons (tTup (tCons (tC (.int 0)) (tCons (tC (.int 1)) tNil))) (tCons (tVar 2) (tCons (tCall (SpR K Rlowest) [] E0 (tCons (tOp (rIx K) (tVar 2) (tC (.int 0))) (tCons (tOp (rI CMul fun i j => .int (i * j)) (tC (.int 2)) (tOp (rIx K) (tVar 2) (tC (.int 1)))) tNil))) tNil)))) (tCall (SpG K PrePick PostPick) [] E0 (tCons (tVar 0) (tCons (tC (.int 3)) tNil)))) (gName 4)) tNext)
    (tSeq (tIfS (tAnd (tTest (tOp (rI0 fun i j => .bl (decide (j < i))) (tVar 3) (tC (.int 0)))) (tTest (tOp (rEqD K) (tCall (SpG K PrePick PostPick) [] E0 (tCons (tVar 0) (tCons (tC (.int 3)) tNil))) (tC (.int 0))))) (tSeq (tAsg (tOp (rIx K) (tTup (tCons (tTup (tCons (tC (.int 1)) (tCons (tC (.int 1)) tNil))) (tCons (tTup (tCons (tC (.int 1)) (tCons (tC (.int 100)) tNil))) (tCons (tCall (SpR K Rlowest) [] E0 (tCons (tOp (rI0 fun i j => .int (i + j)) (tOp (rI CMul fun i j => .int (i * j)) (tC (.int 1000)) (tOp (rIx K) (tVar 2) (tC (.int 0)))) (tOp (rIx K) (tVar 2) (tC (.int 1)))) (tCons (tOp (rI CMul fun i j => .int (i * j)) (tC (.int 1000)) (tOp (rIx K) (tVar 2) (tC (.int 1)))) tNil))) tNil)))) (tCall (SpG K PrePick PostPick) [] E0 (tCons (tVar 0) (tCons (tC (.int 3)) tNil)))) (gName 4))
    (tIfS (tTest (tOp (rI0 fun i j => .bl (decide (j < i))) (tOp (rIx K) (tVar 4) (tC (.int 0))) (tOp (rIx K) (tVar 4) (tC (.int 1))))) (tAsg (tTup (tCons (tC (.int 1)) (tCons (tC (.int 1)) tNil))) (gName 4)) tNext)) tNext)
    (tSeq (tIfS (tTest (tOp (rEqD K) (tVar 1) (tC (.int 0)))) (tRet (tVar 4)) tNext)
    (tRet (tCall (SpR K Rlowest) [] E0 (tCons (tOp (rI0 fun i j => .int (i - j)) (tOp (rIx K) (tVar 4) (tC (.int 1))) (tOp (rIx K) (tVar 4) (tC (.int 0)))) (tCons (tOp (rIx K) (tVar 4) (tC (.int 1))) tNil)))))))))
theorem dv_law_load {P : Program} {w : World} {K : PySem.W.Frag} {mg : Str → Option Value} {base : Heap} {f : Addr} {cdv : Value} {A : Around} {outer : List Env} {s : Shared} {H : Hp} {E : XK} (FR : Free mg) (c_law_pick : Prm P w K mg base CX0 1 "_law_pick" P_law_pick (SpG K PrePick PostPick)) (c_law_low : Prm P w K mg base CX0 1 "_law_low" P_law_low (SpR K Rlowest))
    (hr : Room 1 (A.deeper (envOfC "_law_load" (defScope s_law_load) s.heap.objs.size f cdv))) :
    PSs (cxOf CX0 P w K mg base N_law_load "_law_load" (defScope s_law_load) f cdv A outer s H E).nox (defBody s_law_load) (t_law_load K) := by
  unfold t_law_load
  exact (pss_cons (ps_if (pt_cmpR (op_eqD hr.units) (pv 1) pe_int (nomark _)) (pss_one (ps_ret (pe_ix ix_seq (pe_tup (pa_cons (pe_tup (pa_cons pe_int (pa_cons pe_int pa_nil))) (pa_cons (pe_tup (pa_cons pe_int (pa_cons pe_int pa_nil))) (pa_cons (pe_tup (pa_cons pe_int (pa_cons pe_int pa_nil))) (pa_cons (pe_tup (pa_cons pe_int (pa_cons pe_int pa_nil))) pa_nil))))) (pe_prm c_law_pick (hr.mono (by decide)) (by rfl) pass0 (pa_cons (pv 0) (pa_cons pe_int pa_nil))) (fun _ _ => rfl)))) pss_nil)
      (pss_cons (ps_set (i := 4) sc_law_load.nd rfl (by first | exact Or.inl rfl | exact Or.inr rfl) (pe_tup (pa_cons pe_int (pa_cons pe_int pa_nil))))
      (pss_cons (ps_if (pt_cmpR op_le (pe_ix ix_seq (pv 2) pe_int (fun _ _ => rfl)) (pe_ix ix_seq (pv 2) pe_int (fun _ _ => rfl)) (nomark _)) (pss_one (ps_set (i := 4) sc_law_load.nd rfl (by first | exact Or.inl rfl | exact Or.inr rfl) (pe_ix ix_seq (pe_tup (pa_cons (pe_tup (pa_cons pe_int (pa_cons pe_int pa_nil))) (pa_cons (pv 2) (pa_cons (pe_prm c_law_low (hr.mono (by decide)) (by rfl) pass0 (pa_cons (pe_ix ix_seq (pv 2) pe_int (fun _ _ => rfl)) (pa_cons (pe_op op_mul pe_int (pe_ix ix_seq (pv 2) pe_int (fun _ _ => rfl))) pa_nil))) pa_nil)))) (pe_prm c_law_pick (hr.mono (by decide)) (by rfl) pass0 (pa_cons (pv 0) (pa_cons pe_int pa_nil))) (fun _ _ => rfl)))) pss_nil)
      (pss_cons (ps_if (PW.pt (pw_and (pt_cmpR op_gt (pv 3) pe_int (nomark _)) (pw_and1 (pt_cmpR (op_eqD hr.units) (pe_prm c_law_pick (hr.mono (by decide)) (by rfl) pass0 (pa_cons (pv 0) (pa_cons pe_int pa_nil))) pe_int (nomark _))))) (pss_cons (ps_set (i := 4) sc_law_load.nd rfl (by first | exact Or.inl rfl | exact Or.inr rfl) (pe_ix ix_seq (pe_tup (pa_cons (pe_tup (pa_cons pe_int (pa_cons pe_int pa_nil))) (pa_cons (pe_tup (pa_cons pe_int (pa_cons pe_int pa_nil))) (pa_cons (pe_prm c_law_low (hr.mono (by decide)) (by rfl) pass0 (pa_cons (pe_op op_add (pe_op op_mul pe_int (pe_ix ix_seq (pv 2) pe_int (fun _ _ => rfl))) (pe_ix ix_seq (pv 2) pe_int (fun _ _ => rfl))) (pa_cons (pe_op op_mul pe_int (pe_ix ix_seq (pv 2) pe_int (fun _ _ => rfl))) pa_nil))) pa_nil)))) (pe_prm c_law_pick (hr.mono (by decide)) (by rfl) pass0 (pa_cons (pv 0) (pa_cons pe_int pa_nil))) (fun _ _ => rfl)))
      (pss_one (ps_if (pt_cmpR op_gt (pe_ix ix_seq (pv 4) pe_int (fun _ _ => rfl)) (pe_ix ix_seq (pv 4) pe_int (fun _ _ => rfl)) (nomark _)) (pss_one (ps_set (i := 4) sc_law_load.nd rfl (by first | exact Or.inl rfl | exact Or.inr rfl) (pe_tup (pa_cons pe_int (pa_cons pe_int pa_nil))))) pss_nil))) pss_nil)
      (pss_cons (ps_if (pt_cmpR (op_eqD hr.units) (pv 1) pe_int (nomark _)) (pss_one (ps_ret (pv 4))) pss_nil)
      (pss_one (ps_ret (pe_prm c_law_low (hr.mono (by decide)) (by rfl) pass0 (pa_cons (pe_op op_sub (pe_ix ix_seq (pv 4) pe_int (fun _ _ => rfl)) (pe_ix ix_seq (pv 4) pe_int (fun _ _ => rfl))) (pa_cons (pe_ix ix_seq (pv 4) pe_int (fun _ _ => rfl)) pa_nil))))))))))

/-! ### _law_wide -/
abbrev s_law_wide : Stmt := topS 51
abbrev N_law_wide : List Str := ["_law_pool_here", "_law_mode"]
abbrev P_law_wide : List Str := ["_law_pool_here"]
theorem sc_law_wide : FnScope N_law_wide P_law_wide (defScope s_law_wide) := ⟨rfl, rfl, rfl, by decide +kernel, rfl, by decide +kernel, by decide +kernel⟩
def t_law_wide (K : PySem.W.Frag) : TS :=
    (tSeq (tAsg (tCall (SpG K PrePick PostPick) [] E0 (tCons (tVar 0) (tCons (tC (.int 6)) tNil))) (gName 1))
    (tSeq (tIfS (tTest (tOp (rI0 fun i j => .bl (decide (i < j))) (tVar 1) (tC (.int 2)))) (tRet (tOp (rIx K) (tTup (tCons (tTup (tCons (tC (.int 0)) (tCons (tC (.int 1)) tNil))) (tCons (tTup (tCons (tC (.int 1)) (tCons (tC (.int 12)) tNil))) tNil))) (tVar 1))) tNext)
    (tSeq (tIfS (tTest (tOp (rI0 fun i j => .bl (decide (i < j))) (tVar 1) (tC (.int 4)))) (tRet (tCall (SpR K Rlowest) [] E0 (tCons (tOp (rI0 fun i j => .int (i + j)) (tC (.int 1)) (tCall (SpG K PrePick PostPick) [] E0 (tCons (tVar 0) (tCons (tC (.int 9)) tNil)))) (tCons (tOp (rI0 fun i j => .int (i + j)) (tC (.int 2)) (tCall (SpG K PrePick PostPick) [] E0 (tCons (tVar 0) (tCons (tC (.int 30)) tNil)))) tNil)))) tNext)
    (tRet (tOp (rIx K) (tTup (tCons (tTup (tCons (tC (.int 1)) (tCons (tC (.int 4)) tNil))) (tCons (tTup (tCons (tC (.int 5)) (tCons (tC (.int 2)) tNil))) tNil))) (tOp (rI0 fun i j => .int (i - j)) (tVar 1) (tC (.int 4))))))))
theorem dv_law_wide {P : Program} {w : World} {K : PySem.W.Frag} {mg : Str → Option Value} {base : Heap} {f : Addr} {cdv : Value} {A : Around} {outer : List Env} {s : Shared} {H : Hp} {E : XK} (FR : Free mg) (c_law_pick : Prm P w K mg base CX0 1 "_law_pick" P_law_pick (SpG K PrePick PostPick)) (c_law_low : Prm P w K mg base CX0 1 "_law_low" P_law_low (SpR K Rlowest))
    (hr : Room 1 (A.deeper (envOfC "_law_wide" (defScope s_law_wide) s.heap.objs.size f cdv))) :
    PSs (cxOf CX0 P w K mg base N_law_wide "_law_wide" (defScope s_law_wide) f cdv A outer s H E).nox (defBody s_law_wide) (t_law_wide K) := by
  unfold t_law_wide
  exact (pss_cons (ps_set (i := 1) sc_law_wide.nd rfl (by first | exact Or.inl rfl | exact Or.inr rfl) (pe_prm c_law_pick (hr.mono (by decide)) (by rfl) pass0 (pa_cons (pv 0) (pa_cons pe_int pa_nil))))
      (pss_cons (ps_if (pt_cmpR op_lt (pv 1) pe_int (nomark _)) (pss_one (ps_ret (pe_ix ix_seq (pe_tup (pa_cons (pe_tup (pa_cons pe_int (pa_cons pe_int pa_nil))) (pa_cons (pe_tup (pa_cons pe_int (pa_cons pe_int pa_nil))) pa_nil))) (pv 1) (fun _ _ => rfl)))) pss_nil)
      (pss_cons (ps_if (pt_cmpR op_lt (pv 1) pe_int (nomark _)) (pss_one (ps_ret (pe_prm c_law_low (hr.mono (by decide)) (by rfl) pass0 (pa_cons (pe_op op_add pe_int (pe_prm c_law_pick (hr.mono (by decide)) (by rfl) pass0 (pa_cons (pv 0) (pa_cons pe_int pa_nil)))) (pa_cons (pe_op op_add pe_int (pe_prm c_law_pick (hr.mono (by decide)) (by rfl) pass0 (pa_cons (pv 0) (pa_cons pe_int pa_nil)))) pa_nil))))) pss_nil)
      (pss_one (ps_ret (pe_ix ix_seq (pe_tup (pa_cons (pe_tup (pa_cons pe_int (pa_cons pe_int pa_nil))) (pa_cons (pe_tup (pa_cons pe_int (pa_cons pe_int pa_nil))) pa_nil))) (pe_op op_sub (pv 1) pe_int) (fun _ _ => rfl)))))))

/-! ### _law_earth -/
abbrev s_law_earth : Stmt := topS 52
abbrev N_law_earth : List Str := ["_law_pool_here", "_law_circuit_here", "_law_stands_here", "_law_holds_here", "_law_wide_here", "_law_ground_here", "_law_spoiled", "_law_streams", "_law_k", "_law_spaces", "_law_basin", "_law_loads", "_law_least", "_law_most", "_law_own"]
abbrev P_law_earth : List Str := ["_law_pool_here", "_law_circuit_here", "_law_stands_here", "_law_holds_here", "_law_wide_here"]
theorem sc_law_earth : FnScope N_law_earth P_law_earth (defScope s_law_earth) := ⟨rfl, rfl, rfl, by decide +kernel, rfl, by decide +kernel, by decide +kernel⟩
def t_law_earth (K : PySem.W.Frag) : TS :=
    (tSeq (tAsg (tCall (SpG K Pre0 PostGround) [] E0 (tCons (tVar 0) tNil)) (gName 5))
    (tSeq (tAsg (tCall (SpG K PrePick PostPick) [] E0 (tCons (tVar 0) (tCons (tC (.int 5)) tNil))) (gName 6))
    (tSeq (tAsg (tLst tNil) (gName 7))
    (tSeq (tFor (iRng1 (tCons (tCB (Evl.rLenS K) (tCons (tOp (rIx K) (tVar 1) (tC (.int 2))) tNil)) tNil)) (gName 8) (tSeq (tAsg (tCall (SpR K Rraised) [] E0 (tCons (tVar 5) (tCons (tOp (rI CMul fun i j => .int (i * j)) (tC (.int 2)) (tOp (rIx K) (tOp (rIx K) (tOp (rIx K) (tVar 1) (tC (.int 2))) (tVar 8)) (tC (.int 1)))) tNil))) (gName 12))
    (tSeq (tAsg (tOp (rI CMul fun i j => .int (i * j)) (tVar 12) (tVar 5)) (gName 13))
    (tSeq (tIfS (tTest (tOp (rNeD K) (tOp (rIx K) (tVar 2) (tVar 8)) (tC (.int 1)))) (tAsg (tC (.int 0)) (gName 12)) tNext)
    (tSeq (tIfS (tTest (tOp (rEqD K) (tOp (rIx K) (tVar 2) (tVar 8)) (tC (.int 0)))) (tAsg (tC (.int 0)) (gName 13)) tNext)
    (tDrop (tBM K "list" rAppend (tVar 7) (tCons (tCall (SpG K PreBetween PostBetween) [] E0 (tCons (tVar 0) (tCons (tVar 12) (tCons (tVar 13) (tCons (tCB (rInt1) (tCons (tOrV (tOp (rEqD K) (tVar 6) (tC (.int 1))) (tOp (rEqD K) (tVar 6) (tC (.int 4)))) tNil)) tNil))))) tNil))))))))
    (tSeq (tAsg (tLst tNil) (gName 9))
    (tSeq (tFor (iTup K (tOp (rIx K) (tVar 1) (tC (.int 1)))) (gName 10) (tSeq (tAsg (tCall (SpR K Rraised) [] E0 (tCons (tVar 5) (tCons (tOp (rI CMul fun i j => .int (i * j)) (tC (.int 2)) (tOp (rIx K) (tVar 10) (tC (.int 1)))) tNil))) (gName 12))
    (tDrop (tBM K "list" rAppend (tVar 9) (tCons (tCall (SpG K PreBetween PostBetween) [] E0 (tCons (tVar 0) (tCons (tVar 12) (tCons (tOp (rI CMul fun i j => .int (i * j)) (tVar 12) (tVar 5)) (tCons (tCB (rInt1) (tCons (tOrV (tOp (rEqD K) (tVar 6) (tC (.int 2))) (tOp (rEqD K) (tVar 6) (tC (.int 4)))) tNil)) tNil))))) tNil)))))
    (tSeq (tAsg (tLst tNil) (gName 11))
    (tSeq (tFor (iRng1 (tCons (tCB (Evl.rLenS K) (tCons (tVar 3) tNil)) tNil)) (gName 8) (tSeq (tAsg (tTup (tCons (tC (.int 0)) (tCons (tC (.int 1)) tNil))) (gName 14))
    (tSeq (tIfS (tOr (tTest (tOp (rI0 fun i j => .bl (decide (j ≤ i))) (tVar 8) (tCB (Evl.rLenS K) (tCons (tOp (rIx K) (tVar 1) (tC (.int 0))) tNil)))) (tAnd (tTest (tOp (rEqD K) (tCall (SpG K PrePick PostPick) [] E0 (tCons (tVar 0) (tCons (tC (.int 6)) tNil))) (tC (.int 0)))) (tTest (tOp (rI0 fun i j => .bl (decide (j < i))) (tVar 6) (tC (.int 2)))))) (tAsg (tVar 4) (gName 14)) tNext)
    (tDrop (tBM K "list" rAppend (tVar 11) (tCons (tCall (SpG K PreLoad PostLoad) [] E0 (tCons (tVar 0) (tCons (tOp (rIx K) (tVar 3) (tVar 8)) (tCons (tVar 14) (tCons (tCB (rInt1) (tCons (tAndV (tOp (rI0 fun i j => .bl (decide (j < i))) (tVar 6) (tC (.int 2))) (tOp (rI0 fun i j => .bl (decide (j < i))) (tVar 8) (tOp (rI0 fun i j => .int (i - j)) (tC (.int 1)) (tCB (rInt1) (tCons (tOp (rEqD K) (tVar 6) (tC (.int 4))) tNil))))) tNil)) tNil))))) tNil))))))
    (tRet (tTup (tCons (tVar 5) (tCons (tCB (rTupS K) (tCons (tVar 7) tNil)) (tCons (tCB (rTupS K) (tCons (tVar 9) tNil)) (tCons (tCB (rTupS K) (tCons (tVar 11) tNil)) tNil))))))))))))))
theorem dv_law_earth {P : Program} {w : World} {K : PySem.W.Frag} {mg : Str → Option Value} {base : Heap} {f : Addr} {cdv : Value} {A : Around} {outer : List Env} {s : Shared} {H : Hp} {E : XK} (FR : Free mg) (c_law_ground : Prm P w K mg base CX0 2 "_law_ground" P_law_ground (SpG K Pre0 PostGround)) (c_law_pick : Prm P w K mg base CX0 1 "_law_pick" P_law_pick (SpG K PrePick PostPick)) (c_law_raised : Prm P w K mg base CX0 1 "_law_raised" P_law_raised (SpR K Rraised)) (c_law_between : Prm P w K mg base CX0 2 "_law_between" P_law_between (SpG K PreBetween PostBetween)) (c_law_load : Prm P w K mg base CX0 2 "_law_load" P_law_load (SpG K PreLoad PostLoad))
    (hr : Room 2 (A.deeper (envOfC "_law_earth" (defScope s_law_earth) s.heap.objs.size f cdv))) :
    PSs (cxOf CX0 P w K mg base N_law_earth "_law_earth" (defScope s_law_earth) f cdv A outer s H E).nox (defBody s_law_earth) (t_law_earth K) := by
  unfold t_law_earth
  exact (pss_cons (ps_set (i := 5) sc_law_earth.nd rfl (by first | exact Or.inl rfl | exact Or.inr rfl) (pe_prm c_law_ground (hr.mono (by decide)) (by rfl) pass0 (pa_cons (pv 0) pa_nil)))
      (pss_cons (ps_set (i := 6) sc_law_earth.nd rfl (by first | exact Or.inl rfl | exact Or.inr rfl) (pe_prm c_law_pick (hr.mono (by decide)) (by rfl) pass0 (pa_cons (pv 0) (pa_cons pe_int pa_nil))))
      (pss_cons (ps_set (i := 7) sc_law_earth.nd rfl (by first | exact Or.inl rfl | exact Or.inr rfl) (pe_lst pa_nil))
      (pss_cons (ps_for PassesOwn.never rfl (pi_range1 (by rfl) FR.range_ (pa_cons (pe_callB call_lenK (by rfl) FR.len_ (by decide +kernel) (pa_cons (pe_ix ix_seq (pv 1) pe_int (fun _ _ => rfl)) pa_nil)) pa_nil)) (pg_name (i := 8) sc_law_earth.nd rfl (by first | exact Or.inl rfl | exact Or.inr rfl)) (pss_cons (ps_set (i := 12) sc_law_earth.nd rfl (by first | exact Or.inl rfl | exact Or.inr rfl) (pe_prm c_law_raised (hr.mono (by decide)) (by rfl) pass0 (pa_cons (pv 5) (pa_cons (pe_op op_mul pe_int (pe_ix ix_seq (pe_ix ix_seq (pe_ix ix_seq (pv 1) pe_int (fun _ _ => rfl)) (pv 8) (fun _ _ => rfl)) pe_int (fun _ _ => rfl))) pa_nil))))
      (pss_cons (ps_set (i := 13) sc_law_earth.nd rfl (by first | exact Or.inl rfl | exact Or.inr rfl) (pe_op op_mul (pv 12) (pv 5)))
      (pss_cons (ps_if (pt_cmpR (op_neD hr.units) (pe_ix ix_seq (pv 2) (pv 8) (fun _ _ => rfl)) pe_int (nomark _)) (pss_one (ps_set (i := 12) sc_law_earth.nd rfl (by first | exact Or.inl rfl | exact Or.inr rfl) pe_int)) pss_nil)
      (pss_cons (ps_if (pt_cmpR (op_eqD hr.units) (pe_ix ix_seq (pv 2) (pv 8) (fun _ _ => rfl)) pe_int (nomark _)) (pss_one (ps_set (i := 13) sc_law_earth.nd rfl (by first | exact Or.inl rfl | exact Or.inr rfl) pe_int)) pss_nil)
      (pss_one (ps_expr (pe_bm PySem.F.plainAttrs_list PySem.F.slot_list_append PySem.F.type_list_append mt_append (pv 7) (pa_cons (pe_prm c_law_between (hr.mono (by decide)) (by rfl) pass0 (pa_cons (pv 0) (pa_cons (pv 12) (pa_cons (pv 13) (pa_cons (pe_callTy call_intK (by rfl) FR.int_ (by decide +kernel) (pa_cons (pe_or (pe_cmpR (op_eqD hr.units) (pv 6) pe_int (nomark _)) (pe_one (pe_cmpR (op_eqD hr.units) (pv 6) pe_int (nomark _)))) pa_nil)) pa_nil))))) pa_nil)))))))))
      (pss_cons (ps_set (i := 9) sc_law_earth.nd rfl (by first | exact Or.inl rfl | exact Or.inr rfl) (pe_lst pa_nil))
      (pss_cons (ps_for PassesOwn.never rfl (pi_tup (pe_ix ix_seq (pv 1) pe_int (fun _ _ => rfl))) (pg_name (i := 10) sc_law_earth.nd rfl (by first | exact Or.inl rfl | exact Or.inr rfl)) (pss_cons (ps_set (i := 12) sc_law_earth.nd rfl (by first | exact Or.inl rfl | exact Or.inr rfl) (pe_prm c_law_raised (hr.mono (by decide)) (by rfl) pass0 (pa_cons (pv 5) (pa_cons (pe_op op_mul pe_int (pe_ix ix_seq (pv 10) pe_int (fun _ _ => rfl))) pa_nil))))
      (pss_one (ps_expr (pe_bm PySem.F.plainAttrs_list PySem.F.slot_list_append PySem.F.type_list_append mt_append (pv 9) (pa_cons (pe_prm c_law_between (hr.mono (by decide)) (by rfl) pass0 (pa_cons (pv 0) (pa_cons (pv 12) (pa_cons (pe_op op_mul (pv 12) (pv 5)) (pa_cons (pe_callTy call_intK (by rfl) FR.int_ (by decide +kernel) (pa_cons (pe_or (pe_cmpR (op_eqD hr.units) (pv 6) pe_int (nomark _)) (pe_one (pe_cmpR (op_eqD hr.units) (pv 6) pe_int (nomark _)))) pa_nil)) pa_nil))))) pa_nil))))))
      (pss_cons (ps_set (i := 11) sc_law_earth.nd rfl (by first | exact Or.inl rfl | exact Or.inr rfl) (pe_lst pa_nil))
      (pss_cons (ps_for PassesOwn.never rfl (pi_range1 (by rfl) FR.range_ (pa_cons (pe_callB call_lenK (by rfl) FR.len_ (by decide +kernel) (pa_cons (pv 3) pa_nil)) pa_nil)) (pg_name (i := 8) sc_law_earth.nd rfl (by first | exact Or.inl rfl | exact Or.inr rfl)) (pss_cons (ps_set (i := 14) sc_law_earth.nd rfl (by first | exact Or.inl rfl | exact Or.inr rfl) (pe_tup (pa_cons pe_int (pa_cons pe_int pa_nil))))
      (pss_cons (ps_if (PW.pt (pw_or (pt_cmpR op_ge (pv 8) (pe_callB call_lenK (by rfl) FR.len_ (by decide +kernel) (pa_cons (pe_ix ix_seq (pv 1) pe_int (fun _ _ => rfl)) pa_nil)) (nomark _)) (pw_or1 (PW.pt (pw_and (pt_cmpR (op_eqD hr.units) (pe_prm c_law_pick (hr.mono (by decide)) (by rfl) pass0 (pa_cons (pv 0) (pa_cons pe_int pa_nil))) pe_int (nomark _)) (pw_and1 (pt_cmpR op_gt (pv 6) pe_int (nomark _)))))))) (pss_one (ps_set (i := 14) sc_law_earth.nd rfl (by first | exact Or.inl rfl | exact Or.inr rfl) (pv 4))) pss_nil)
      (pss_one (ps_expr (pe_bm PySem.F.plainAttrs_list PySem.F.slot_list_append PySem.F.type_list_append mt_append (pv 11) (pa_cons (pe_prm c_law_load (hr.mono (by decide)) (by rfl) pass0 (pa_cons (pv 0) (pa_cons (pe_ix ix_seq (pv 3) (pv 8) (fun _ _ => rfl)) (pa_cons (pv 14) (pa_cons (pe_callTy call_intK (by rfl) FR.int_ (by decide +kernel) (pa_cons (pe_and (pe_cmpR op_gt (pv 6) pe_int (nomark _)) (pe_one (pe_cmpR op_gt (pv 8) (pe_op op_sub pe_int (pe_callTy call_intK (by rfl) FR.int_ (by decide +kernel) (pa_cons (pe_cmpR (op_eqD hr.units) (pv 6) pe_int (nomark _)) pa_nil))) (nomark _)))) pa_nil)) pa_nil))))) pa_nil)))))))
      (pss_one (ps_ret (pe_tup (pa_cons (pv 5) (pa_cons (pe_callTy call_tupK (by rfl) FR.tuple_ (by decide +kernel) (pa_cons (pv 7) pa_nil)) (pa_cons (pe_callTy call_tupK (by rfl) FR.tuple_ (by decide +kernel) (pa_cons (pv 9) pa_nil)) (pa_cons (pe_callTy call_tupK (by rfl) FR.tuple_ (by decide +kernel) (pa_cons (pv 11) pa_nil)) pa_nil)))))))))))))))

end Ky
set_option Elab.async false
set_option linter.all false
set_option maxRecDepth 100000
set_option maxHeartbeats 4000000
namespace Ky
open PySem PySem.Spec PyProof.Rows L2
/-! ### _law_fault -/
abbrev s_law_fault : Stmt := topS 53
abbrev N_law_fault : List Str := ["_law_circuit_here", "_law_stands_here", "_law_holds_here", "_law_earth_here", "_law_wide_here", "_law_k", "_law_top", "_law_bottom", "_law_least", "_law_gap", "_law_allowed"]
abbrev P_law_fault : List Str := ["_law_circuit_here", "_law_stands_here", "_law_holds_here", "_law_earth_here", "_law_wide_here"]
theorem sc_law_fault : FnScope N_law_fault P_law_fault (defScope s_law_fault) := ⟨rfl, rfl, rfl, by decide +kernel, rfl, by decide +kernel, by decide +kernel⟩
def t_law_fault (K : PySem.W.Frag) : TS :=
    (tSeq (tFor (iRng1 (tCons (tCB (Evl.rLenS K) (tCons (tOp (rIx K) (tVar 0) (tC (.int 2))) tNil)) tNil)) (gName 5) (tSeq (tAsg (tOp (rIx K) (tOp (rIx K) (tOp (rIx K) (tVar 3) (tC (.int 1))) (tVar 5)) (tC (.int 0))) (gName 6))
    (tSeq (tAsg (tOp (rIx K) (tOp (rIx K) (tOp (rIx K) (tVar 3) (tC (.int 1))) (tVar 5)) (tC (.int 1))) (gName 7))
    (tSeq (tAsg (tCall (SpR K Rraised) [] E0 (tCons (tOp (rIx K) (tVar 3) (tC (.int 0))) (tCons (tOp (rI CMul fun i j => .int (i * j)) (tC (.int 2)) (tOp (rIx K) (tOp (rIx K) (tOp (rIx K) (tVar 0) (tC (.int 2))) (tVar 5)) (tC (.int 1)))) tNil))) (gName 8))
    (tSeq (tIfS (tAnd (tTest (tOp (rEqD K) (tOp (rIx K) (tVar 1) (tVar 5)) (tC (.int 0)))) (tTest (tOp (rNeD K) (tVar 6) (tC (.int 0))))) (tRet (tTup (tCons (tC (.str "flow")) (tCons (tVar 5) tNil)))) tNext)
    (tIfS (tOr (tAnd (tTest (tOp (rEqD K) (tOp (rIx K) (tVar 1) (tVar 5)) (tC (.int 1)))) (tTest (tOp (rI0 fun i j => .bl (decide (i < j))) (tVar 6) (tOp (rI CMulW fun i j => .int (i * j)) (tVar 8) (tVar 7))))) (tTest (tOp (rI0 fun i j => .bl (decide (j < i))) (tVar 6) (tOp (rI CMulW fun i j => .int (i * j)) (tOp (rI CMulW fun i j => .int (i * j)) (tVar 8) (tOp (rIx K) (tVar 3) (tC (.int 0)))) (tVar 7))))) (tRet (tTup (tCons (tC (.str "flow")) (tCons (tVar 5) tNil)))) tNext))))))
    (tSeq (tFor (iRng1 (tCons (tCB (Evl.rLenS K) (tCons (tOp (rIx K) (tVar 0) (tC (.int 1))) tNil)) tNil)) (gName 5) (tSeq (tAsg (tOp (rI CMulW fun i j => .int (i * j)) (tCall (SpR K Rraised) [] E0 (tCons (tOp (rIx K) (tVar 3) (tC (.int 0))) (tCons (tOp (rI CMul fun i j => .int (i * j)) (tC (.int 2)) (tOp (rIx K) (tOp (rIx K) (tOp (rIx K) (tVar 0) (tC (.int 1))) (tVar 5)) (tC (.int 1)))) tNil))) (tOp (rIx K) (tOp (rIx K) (tOp (rIx K) (tVar 3) (tC (.int 2))) (tVar 5)) (tC (.int 1)))) (gName 8))
    (tIfS (tOr (tTest (tOp (rI0 fun i j => .bl (decide (i < j))) (tOp (rIx K) (tOp (rIx K) (tOp (rIx K) (tVar 3) (tC (.int 2))) (tVar 5)) (tC (.int 0))) (tVar 8))) (tTest (tOp (rI0 fun i j => .bl (decide (j < i))) (tOp (rIx K) (tOp (rIx K) (tOp (rIx K) (tVar 3) (tC (.int 2))) (tVar 5)) (tC (.int 0))) (tOp (rI CMulW fun i j => .int (i * j)) (tVar 8) (tOp (rIx K) (tVar 3) (tC (.int 0))))))) (tRet (tTup (tCons (tC (.str "room")) (tCons (tVar 5) tNil)))) tNext)))
    (tSeq (tFor (iRng1 (tCons (tCB (Evl.rLenS K) (tCons (tVar 2) tNil)) tNil)) (gName 5) (tSeq (tAsg (tOp (rIx K) (tOp (rIx K) (tOp (rIx K) (tVar 3) (tC (.int 3))) (tVar 5)) (tC (.int 0))) (gName 9))
    (tSeq (tIfS (tTest (tOp (rEqD K) (tOp (rIx K) (tVar 2) (tVar 5)) (tC (.int 1)))) (tAsg (tOp (rI0 fun i j => .int (i - j)) (tOp (rIx K) (tOp (rIx K) (tOp (rIx K) (tVar 3) (tC (.int 3))) (tVar 5)) (tC (.int 1))) (tOp (rIx K) (tOp (rIx K) (tOp (rIx K) (tVar 3) (tC (.int 3))) (tVar 5)) (tC (.int 0)))) (gName 9)) tNext)
    (tSeq (tAsg (tC (.int 0)) (gName 10))
    (tSeq (tIfS (tTest (tOp (rI0 fun i j => .bl (decide (j ≤ i))) (tVar 5) (tCB (Evl.rLenS K) (tCons (tOp (rIx K) (tVar 0) (tC (.int 0))) tNil)))) (tAsg (tOp (rI CMulW fun i j => .int (i * j)) (tOp (rIx K) (tVar 4) (tC (.int 0))) (tOp (rIx K) (tOp (rIx K) (tOp (rIx K) (tVar 3) (tC (.int 3))) (tVar 5)) (tC (.int 1)))) (gName 10)) tNext)
    (tIfS (tAnd (tTest (tOp (rNeD K) (tOp (rIx K) (tVar 2) (tVar 5)) (tC (.int 2)))) (tTest (tOp (rI0 fun i j => .bl (decide (j < i))) (tOp (rI CMulW fun i j => .int (i * j)) (tVar 9) (tOp (rIx K) (tVar 4) (tC (.int 1)))) (tVar 10)))) (tRet (tTup (tCons (tC (.str "charge")) (tCons (tVar 5) tNil)))) tNext))))))
    (tRet (tC .non)))))
theorem dv_law_fault {P : Program} {w : World} {K : PySem.W.Frag} {mg : Str → Option Value} {base : Heap} {f : Addr} {cdv : Value} {A : Around} {outer : List Env} {s : Shared} {H : Hp} {E : XK} (FR : Free mg) (c_law_raised : Prm P w K mg base CX0 1 "_law_raised" P_law_raised (SpR K Rraised))
    (hr : Room 1 (A.deeper (envOfC "_law_fault" (defScope s_law_fault) s.heap.objs.size f cdv))) :
    PSs (cxOf CX0 P w K mg base N_law_fault "_law_fault" (defScope s_law_fault) f cdv A outer s H E).nox (defBody s_law_fault) (t_law_fault K) := by
  unfold t_law_fault
  exact (pss_cons (ps_for PassesOwn.never rfl (pi_range1 (by rfl) FR.range_ (pa_cons (pe_callB call_lenK (by rfl) FR.len_ (by decide +kernel) (pa_cons (pe_ix ix_seq (pv 0) pe_int (fun _ _ => rfl)) pa_nil)) pa_nil)) (pg_name (i := 5) sc_law_fault.nd rfl (by first | exact Or.inl rfl | exact Or.inr rfl)) (pss_cons (ps_set (i := 6) sc_law_fault.nd rfl (by first | exact Or.inl rfl | exact Or.inr rfl) (pe_ix ix_seq (pe_ix ix_seq (pe_ix ix_seq (pv 3) pe_int (fun _ _ => rfl)) (pv 5) (fun _ _ => rfl)) pe_int (fun _ _ => rfl)))
      (pss_cons (ps_set (i := 7) sc_law_fault.nd rfl (by first | exact Or.inl rfl | exact Or.inr rfl) (pe_ix ix_seq (pe_ix ix_seq (pe_ix ix_seq (pv 3) pe_int (fun _ _ => rfl)) (pv 5) (fun _ _ => rfl)) pe_int (fun _ _ => rfl)))
      (pss_cons (ps_set (i := 8) sc_law_fault.nd rfl (by first | exact Or.inl rfl | exact Or.inr rfl) (pe_prm c_law_raised (hr.mono (by decide)) (by rfl) pass0 (pa_cons (pe_ix ix_seq (pv 3) pe_int (fun _ _ => rfl)) (pa_cons (pe_op op_mul pe_int (pe_ix ix_seq (pe_ix ix_seq (pe_ix ix_seq (pv 0) pe_int (fun _ _ => rfl)) (pv 5) (fun _ _ => rfl)) pe_int (fun _ _ => rfl))) pa_nil))))
      (pss_cons (ps_if (PW.pt (pw_and (pt_cmpR (op_eqD hr.units) (pe_ix ix_seq (pv 1) (pv 5) (fun _ _ => rfl)) pe_int (nomark _)) (pw_and1 (pt_cmpR (op_neD hr.units) (pv 6) pe_int (nomark _))))) (pss_one (ps_ret (pe_tup (pa_cons pe_str (pa_cons (pv 5) pa_nil))))) pss_nil)
      (pss_one (ps_if (PW.pt (pw_or (PW.pt (pw_and (pt_cmpR (op_eqD hr.units) (pe_ix ix_seq (pv 1) (pv 5) (fun _ _ => rfl)) pe_int (nomark _)) (pw_and1 (pt_cmpR op_lt (pv 6) (pe_op op_mulW (pv 8) (pv 7)) (nomark _))))) (pw_or1 (pt_cmpR op_gt (pv 6) (pe_op op_mulW (pe_op op_mulW (pv 8) (pe_ix ix_seq (pv 3) pe_int (fun _ _ => rfl))) (pv 7)) (nomark _))))) (pss_one (ps_ret (pe_tup (pa_cons pe_str (pa_cons (pv 5) pa_nil))))) pss_nil)))))))
      (pss_cons (ps_for PassesOwn.never rfl (pi_range1 (by rfl) FR.range_ (pa_cons (pe_callB call_lenK (by rfl) FR.len_ (by decide +kernel) (pa_cons (pe_ix ix_seq (pv 0) pe_int (fun _ _ => rfl)) pa_nil)) pa_nil)) (pg_name (i := 5) sc_law_fault.nd rfl (by first | exact Or.inl rfl | exact Or.inr rfl)) (pss_cons (ps_set (i := 8) sc_law_fault.nd rfl (by first | exact Or.inl rfl | exact Or.inr rfl) (pe_op op_mulW (pe_prm c_law_raised (hr.mono (by decide)) (by rfl) pass0 (pa_cons (pe_ix ix_seq (pv 3) pe_int (fun _ _ => rfl)) (pa_cons (pe_op op_mul pe_int (pe_ix ix_seq (pe_ix ix_seq (pe_ix ix_seq (pv 0) pe_int (fun _ _ => rfl)) (pv 5) (fun _ _ => rfl)) pe_int (fun _ _ => rfl))) pa_nil))) (pe_ix ix_seq (pe_ix ix_seq (pe_ix ix_seq (pv 3) pe_int (fun _ _ => rfl)) (pv 5) (fun _ _ => rfl)) pe_int (fun _ _ => rfl))))
      (pss_one (ps_if (PW.pt (pw_or (pt_cmpR op_lt (pe_ix ix_seq (pe_ix ix_seq (pe_ix ix_seq (pv 3) pe_int (fun _ _ => rfl)) (pv 5) (fun _ _ => rfl)) pe_int (fun _ _ => rfl)) (pv 8) (nomark _)) (pw_or1 (pt_cmpR op_gt (pe_ix ix_seq (pe_ix ix_seq (pe_ix ix_seq (pv 3) pe_int (fun _ _ => rfl)) (pv 5) (fun _ _ => rfl)) pe_int (fun _ _ => rfl)) (pe_op op_mulW (pv 8) (pe_ix ix_seq (pv 3) pe_int (fun _ _ => rfl))) (nomark _))))) (pss_one (ps_ret (pe_tup (pa_cons pe_str (pa_cons (pv 5) pa_nil))))) pss_nil))))
      (pss_cons (ps_for PassesOwn.never rfl (pi_range1 (by rfl) FR.range_ (pa_cons (pe_callB call_lenK (by rfl) FR.len_ (by decide +kernel) (pa_cons (pv 2) pa_nil)) pa_nil)) (pg_name (i := 5) sc_law_fault.nd rfl (by first | exact Or.inl rfl | exact Or.inr rfl)) (pss_cons (ps_set (i := 9) sc_law_fault.nd rfl (by first | exact Or.inl rfl | exact Or.inr rfl) (pe_ix ix_seq (pe_ix ix_seq (pe_ix ix_seq (pv 3) pe_int (fun _ _ => rfl)) (pv 5) (fun _ _ => rfl)) pe_int (fun _ _ => rfl)))
      (pss_cons (ps_if (pt_cmpR (op_eqD hr.units) (pe_ix ix_seq (pv 2) (pv 5) (fun _ _ => rfl)) pe_int (nomark _)) (pss_one (ps_set (i := 9) sc_law_fault.nd rfl (by first | exact Or.inl rfl | exact Or.inr rfl) (pe_op op_sub (pe_ix ix_seq (pe_ix ix_seq (pe_ix ix_seq (pv 3) pe_int (fun _ _ => rfl)) (pv 5) (fun _ _ => rfl)) pe_int (fun _ _ => rfl)) (pe_ix ix_seq (pe_ix ix_seq (pe_ix ix_seq (pv 3) pe_int (fun _ _ => rfl)) (pv 5) (fun _ _ => rfl)) pe_int (fun _ _ => rfl))))) pss_nil)
      (pss_cons (ps_set (i := 10) sc_law_fault.nd rfl (by first | exact Or.inl rfl | exact Or.inr rfl) pe_int)
      (pss_cons (ps_if (pt_cmpR op_ge (pv 5) (pe_callB call_lenK (by rfl) FR.len_ (by decide +kernel) (pa_cons (pe_ix ix_seq (pv 0) pe_int (fun _ _ => rfl)) pa_nil)) (nomark _)) (pss_one (ps_set (i := 10) sc_law_fault.nd rfl (by first | exact Or.inl rfl | exact Or.inr rfl) (pe_op op_mulW (pe_ix ix_seq (pv 4) pe_int (fun _ _ => rfl)) (pe_ix ix_seq (pe_ix ix_seq (pe_ix ix_seq (pv 3) pe_int (fun _ _ => rfl)) (pv 5) (fun _ _ => rfl)) pe_int (fun _ _ => rfl))))) pss_nil)
      (pss_one (ps_if (PW.pt (pw_and (pt_cmpR (op_neD hr.units) (pe_ix ix_seq (pv 2) (pv 5) (fun _ _ => rfl)) pe_int (nomark _)) (pw_and1 (pt_cmpR op_gt (pe_op op_mulW (pv 9) (pe_ix ix_seq (pv 4) pe_int (fun _ _ => rfl))) (pv 10) (nomark _))))) (pss_one (ps_ret (pe_tup (pa_cons pe_str (pa_cons (pv 5) pa_nil))))) pss_nil)))))))
      (pss_one (ps_ret pe_non)))))

/-! ### _law_is_number -/
abbrev s_law_is_number : Stmt := topS 54
abbrev N_law_is_number : List Str := ["_law_item"]
abbrev P_law_is_number : List Str := ["_law_item"]
theorem sc_law_is_number : FnScope N_law_is_number P_law_is_number (defScope s_law_is_number) := ⟨rfl, rfl, rfl, by decide +kernel, rfl, by decide +kernel, by decide +kernel⟩
def t_law_is_number (K : PySem.W.Frag) : TS :=
    (tRet (tAndV (tCB (rIsi K) (tCons (tVar 0) (tCons (tC (.ty "int")) tNil))) (tNotV (tCB (rIsi K) (tCons (tVar 0) (tCons (tC (.ty "bool")) tNil))))))
theorem dv_law_is_number {P : Program} {w : World} {K : PySem.W.Frag} {mg : Str → Option Value} {base : Heap} {f : Addr} {cdv : Value} {A : Around} {outer : List Env} {s : Shared} {H : Hp} {E : XK} (FR : Free mg)
    (hr : Room 0 (A.deeper (envOfC "_law_is_number" (defScope s_law_is_number) s.heap.objs.size f cdv))) :
    PSs (cxOf CX0 P w K mg base N_law_is_number "_law_is_number" (defScope s_law_is_number) f cdv A outer s H E).nox (defBody s_law_is_number) (t_law_is_number K) := by
  unfold t_law_is_number
  exact (pss_one (ps_ret (pe_and (pe_callB call_isi (by rfl) FR.isinstance_ (by decide +kernel) (pa_cons (pv 0) (pa_cons (pe_bltn (v := .ty "int") (by rfl) FR.int_ (by decide +kernel) rfl) pa_nil))) (pe_one (pe_not (pe_callB call_isi (by rfl) FR.isinstance_ (by decide +kernel) (pa_cons (pv 0) (pa_cons (pe_bltn (v := .ty "bool") (by rfl) FR.bool_ (by decide +kernel) rfl) pa_nil))))))))

/-! ### _law_is_ratio -/
abbrev s_law_is_ratio : Stmt := topS 55
abbrev N_law_is_ratio : List Str := ["_law_item", "_law_part"]
abbrev P_law_is_ratio : List Str := ["_law_item"]
theorem sc_law_is_ratio : FnScope N_law_is_ratio P_law_is_ratio (defScope s_law_is_ratio) := ⟨rfl, rfl, rfl, by decide +kernel, rfl, by decide +kernel, by decide +kernel⟩
def t_law_is_ratio (K : PySem.W.Frag) : TS :=
    (tSeq (tIfS (tOr (tNot (tB (tCB (rIsi K) (tCons (tVar 0) (tCons (tC (.ty "tuple")) tNil))))) (tOr (tTest (tOp (rNeD K) (tCB (Evl.rLenS K) (tCons (tVar 0) tNil)) (tC (.int 2)))) (tTest (tOp (rI0 fun i j => .bl (decide (j < i))) (tCB (Evl.rLenS K) (tCons (tLc (iTup K (tVar 0)) (gName 1) (tNot (tB (tCall (SpR K (R1B isI)) [] E0 (tCons (tVar 1) tNil)))) (tVar 1) [1]) tNil)) (tC (.int 0)))))) (tRet (tC (.bl false))) tNext)
    (tRet (tAndV (tOp (rI0 fun i j => .bl (decide (j < i))) (tOp (rIx K) (tVar 0) (tC (.int 1))) (tC (.int 0))) (tOp (rEqD K) (tCall (SpR K Rlowest) [] E0 (tCons (tOp (rIx K) (tVar 0) (tC (.int 0))) (tCons (tOp (rIx K) (tVar 0) (tC (.int 1))) tNil))) (tVar 0)))))
theorem dv_law_is_ratio {P : Program} {w : World} {K : PySem.W.Frag} {mg : Str → Option Value} {base : Heap} {f : Addr} {cdv : Value} {A : Around} {outer : List Env} {s : Shared} {H : Hp} {E : XK} (FR : Free mg) (c_law_is_number : Prm P w K mg base CX0 1 "_law_is_number" P_law_is_number (SpR K (R1B isI))) (c_law_low : Prm P w K mg base CX0 1 "_law_low" P_law_low (SpR K Rlowest))
    (hr : Room 1 (A.deeper (envOfC "_law_is_ratio" (defScope s_law_is_ratio) s.heap.objs.size f cdv))) :
    PSs (cxOf CX0 P w K mg base N_law_is_ratio "_law_is_ratio" (defScope s_law_is_ratio) f cdv A outer s H E).nox (defBody s_law_is_ratio) (t_law_is_ratio K) := by
  unfold t_law_is_ratio
  exact (pss_cons (ps_if (PW.pt (pw_or (pt_not (pt_val (pe_callB call_isi (by rfl) FR.isinstance_ (by decide +kernel) (pa_cons (pv 0) (pa_cons (pe_bltn (v := .ty "tuple") (by rfl) FR.tuple_ (by decide +kernel) rfl) pa_nil))))) (pw_or (pt_cmpR (op_neD hr.units) (pe_callB call_lenK (by rfl) FR.len_ (by decide +kernel) (pa_cons (pv 0) pa_nil)) pe_int (nomark _)) (pw_or1 (pt_cmpR op_gt (pe_callB call_lenK (by rfl) FR.len_ (by decide +kernel) (pa_cons (pe_lc (own := [("_law_part", 1)]) (g := gName 1) (tt := (tNot (tB (tCall (SpR K (R1B isI)) [] E0 (tCons (tVar 1) tNil))))) rfl sc_law_is_ratio.nd (pi_tup (pv 0)) (blkOk_by (own := [("_law_part", 1)]) (N := N_law_is_ratio) (sc := defScope s_law_is_ratio) (by decide +kernel)) (fun _ _ _ _ _ => pg_name (i := 1) sc_law_is_ratio.nd rfl (Or.inl rfl)) (fun _ _ _ _ _ => (pts_one (pt_not (pt_val (pe_prm c_law_is_number (hr.mono (by decide)) (by rfl) pass0 (pa_cons (pv 1) pa_nil)))))) (fun _ _ _ _ _ => (pv 1))) pa_nil)) pe_int (nomark _)))))) (pss_one (ps_ret pe_bl)) pss_nil)
      (pss_one (ps_ret (pe_and (pe_cmpR op_gt (pe_ix ix_seq (pv 0) pe_int (fun _ _ => rfl)) pe_int (nomark _)) (pe_one (pe_cmpR (op_eqD hr.units) (pe_prm c_law_low (hr.mono (by decide)) (by rfl) pass0 (pa_cons (pe_ix ix_seq (pv 0) pe_int (fun _ _ => rfl)) (pa_cons (pe_ix ix_seq (pv 0) pe_int (fun _ _ => rfl)) pa_nil))) (pv 0) (nomark _)))))))

/-! ### _law_are_ratios -/
abbrev s_law_are_ratios : Stmt := topS 56
abbrev N_law_are_ratios : List Str := ["_law_items", "_law_many", "_law_item"]
abbrev P_law_are_ratios : List Str := ["_law_items", "_law_many"]
theorem sc_law_are_ratios : FnScope N_law_are_ratios P_law_are_ratios (defScope s_law_are_ratios) := ⟨rfl, rfl, rfl, by decide +kernel, rfl, by decide +kernel, by decide +kernel⟩
def t_law_are_ratios (K : PySem.W.Frag) : TS :=
    (tSeq (tIfS (tOr (tNot (tB (tCB (rIsi K) (tCons (tVar 0) (tCons (tC (.ty "tuple")) tNil))))) (tTest (tOp (rNeD K) (tCB (Evl.rLenS K) (tCons (tVar 0) tNil)) (tVar 1)))) (tRet (tC (.bl false))) tNext)
    (tSeq (tFor (iTup K (tVar 0)) (gName 2) (tIfS (tNot (tB (tCall (SpR K Rratio) [] E0 (tCons (tVar 2) tNil)))) (tRet (tC (.bl false))) tNext))
    (tRet (tC (.bl true)))))
theorem dv_law_are_ratios {P : Program} {w : World} {K : PySem.W.Frag} {mg : Str → Option Value} {base : Heap} {f : Addr} {cdv : Value} {A : Around} {outer : List Env} {s : Shared} {H : Hp} {E : XK} (FR : Free mg) (c_law_is_ratio : Prm P w K mg base CX0 2 "_law_is_ratio" P_law_is_ratio (SpR K Rratio))
    (hr : Room 2 (A.deeper (envOfC "_law_are_ratios" (defScope s_law_are_ratios) s.heap.objs.size f cdv))) :
    PSs (cxOf CX0 P w K mg base N_law_are_ratios "_law_are_ratios" (defScope s_law_are_ratios) f cdv A outer s H E).nox (defBody s_law_are_ratios) (t_law_are_ratios K) := by
  unfold t_law_are_ratios
  exact (pss_cons (ps_if (PW.pt (pw_or (pt_not (pt_val (pe_callB call_isi (by rfl) FR.isinstance_ (by decide +kernel) (pa_cons (pv 0) (pa_cons (pe_bltn (v := .ty "tuple") (by rfl) FR.tuple_ (by decide +kernel) rfl) pa_nil))))) (pw_or1 (pt_cmpR (op_neD hr.units) (pe_callB call_lenK (by rfl) FR.len_ (by decide +kernel) (pa_cons (pv 0) pa_nil)) (pv 1) (nomark _))))) (pss_one (ps_ret pe_bl)) pss_nil)
      (pss_cons (ps_for PassesOwn.never rfl (pi_tup (pv 0)) (pg_name (i := 2) sc_law_are_ratios.nd rfl (by first | exact Or.inl rfl | exact Or.inr rfl)) (pss_one (ps_if (pt_not (pt_val (pe_prm c_law_is_ratio (hr.mono (by decide)) (by rfl) pass0 (pa_cons (pv 2) pa_nil)))) (pss_one (ps_ret pe_bl)) pss_nil)))
      (pss_one (ps_ret pe_bl))))

/-! ### _law_is_ground -/
abbrev s_law_is_ground : Stmt := topS 58
abbrev N_law_is_ground : List Str := ["_law_item"]
abbrev P_law_is_ground : List Str := ["_law_item"]
theorem sc_law_is_ground : FnScope N_law_is_ground P_law_is_ground (defScope s_law_is_ground) := ⟨rfl, rfl, rfl, by decide +kernel, rfl, by decide +kernel, by decide +kernel⟩
def t_law_is_ground (K : PySem.W.Frag) : TS :=
    (tRet (tAndV (tCall (SpR K (R1B isI)) [] E0 (tCons (tVar 0) tNil)) (tOp (rI0 fun i j => .bl (decide (j ≤ i))) (tVar 0) (tC (.int 2)))))
theorem dv_law_is_ground {P : Program} {w : World} {K : PySem.W.Frag} {mg : Str → Option Value} {base : Heap} {f : Addr} {cdv : Value} {A : Around} {outer : List Env} {s : Shared} {H : Hp} {E : XK} (FR : Free mg) (c_law_is_number : Prm P w K mg base CX0 1 "_law_is_number" P_law_is_number (SpR K (R1B isI)))
    (hr : Room 1 (A.deeper (envOfC "_law_is_ground" (defScope s_law_is_ground) s.heap.objs.size f cdv))) :
    PSs (cxOf CX0 P w K mg base N_law_is_ground "_law_is_ground" (defScope s_law_is_ground) f cdv A outer s H E).nox (defBody s_law_is_ground) (t_law_is_ground K) := by
  unfold t_law_is_ground
  exact (pss_one (ps_ret (pe_and (pe_prm c_law_is_number (hr.mono (by decide)) (by rfl) pass0 (pa_cons (pv 0) pa_nil)) (pe_one (pe_cmpR op_ge (pv 0) pe_int (nomark _))))))

/-! ### _law_is_earth -/
abbrev s_law_is_earth : Stmt := topS 57
abbrev N_law_is_earth : List Str := ["_law_circuit_here", "_law_item", "_law_many", "_law_ratio"]
abbrev P_law_is_earth : List Str := ["_law_circuit_here", "_law_item"]
theorem sc_law_is_earth : FnScope N_law_is_earth P_law_is_earth (defScope s_law_is_earth) := ⟨rfl, rfl, rfl, by decide +kernel, rfl, by decide +kernel, by decide +kernel⟩
def t_law_is_earth (K : PySem.W.Frag) : TS :=
    (tSeq (tIfS (tOr (tNot (tB (tCB (rIsi K) (tCons (tVar 1) (tCons (tC (.ty "tuple")) tNil))))) (tOr (tTest (tOp (rNeD K) (tCB (Evl.rLenS K) (tCons (tVar 1) tNil)) (tC (.int 4)))) (tNot (tB (tCall (SpR K (R1B isBase)) [] E0 (tCons (tOp (rIx K) (tVar 1) (tC (.int 0))) tNil)))))) (tRet (tC (.bl false))) tNext)
    (tSeq (tAsg (tCB (Evl.rLenS K) (tCons (tOp (rIx K) (tVar 0) (tC (.int 1))) tNil)) (gName 2))
    (tSeq (tIfS (tOr (tNot (tB (tCall (SpR K Rratios) [] E0 (tCons (tOp (rIx K) (tVar 1) (tC (.int 1))) (tCons (tCB (Evl.rLenS K) (tCons (tOp (rIx K) (tVar 0) (tC (.int 2))) tNil)) tNil))))) (tNot (tB (tCall (SpR K Rratios) [] E0 (tCons (tOp (rIx K) (tVar 1) (tC (.int 2))) (tCons (tVar 2) tNil)))))) (tRet (tC (.bl false))) tNext)
    (tSeq (tIfS (tNot (tB (tCall (SpR K Rratios) [] E0 (tCons (tOp (rIx K) (tVar 1) (tC (.int 3))) (tCons (tOp (rI0 fun i j => .int (i + j)) (tVar 2) (tCB (Evl.rLenS K) (tCons (tOp (rIx K) (tVar 0) (tC (.int 0))) tNil))) tNil))))) (tRet (tC (.bl false))) tNext)
    (tSeq (tFor (iTup K (tOp (rIx K) (tVar 1) (tC (.int 1)))) (gName 3) (tIfS (tTest (tOp (rI0 fun i j => .bl (decide (i < j))) (tOp (rIx K) (tVar 3) (tC (.int 0))) (tC (.int 0)))) (tRet (tC (.bl false))) tNext))
    (tSeq (tFor (iTup K (tOp (rIx K) (tVar 1) (tC (.int 2)))) (gName 3) (tIfS (tTest (tOp (rI0 fun i j => .bl (decide (i < j))) (tOp (rIx K) (tVar 3) (tC (.int 0))) (tC (.int 1)))) (tRet (tC (.bl false))) tNext))
    (tSeq (tFor (iTup K (tOp (rIx K) (tVar 1) (tC (.int 3)))) (gName 3) (tIfS (tOr (tTest (tOp (rI0 fun i j => .bl (decide (i < j))) (tOp (rIx K) (tVar 3) (tC (.int 0))) (tC (.int 0)))) (tTest (tOp (rI0 fun i j => .bl (decide (j < i))) (tOp (rIx K) (tVar 3) (tC (.int 0))) (tOp (rIx K) (tVar 3) (tC (.int 1)))))) (tRet (tC (.bl false))) tNext))
    (tRet (tC (.bl true))))))))))
theorem dv_law_is_earth {P : Program} {w : World} {K : PySem.W.Frag} {mg : Str → Option Value} {base : Heap} {f : Addr} {cdv : Value} {A : Around} {outer : List Env} {s : Shared} {H : Hp} {E : XK} (FR : Free mg) (c_law_is_ground : Prm P w K mg base CX0 2 "_law_is_ground" P_law_is_ground (SpR K (R1B isBase))) (c_law_are_ratios : Prm P w K mg base CX0 3 "_law_are_ratios" P_law_are_ratios (SpR K Rratios))
    (hr : Room 3 (A.deeper (envOfC "_law_is_earth" (defScope s_law_is_earth) s.heap.objs.size f cdv))) :
    PSs (cxOf CX0 P w K mg base N_law_is_earth "_law_is_earth" (defScope s_law_is_earth) f cdv A outer s H E).nox (defBody s_law_is_earth) (t_law_is_earth K) := by
  unfold t_law_is_earth
  exact (pss_cons (ps_if (PW.pt (pw_or (pt_not (pt_val (pe_callB call_isi (by rfl) FR.isinstance_ (by decide +kernel) (pa_cons (pv 1) (pa_cons (pe_bltn (v := .ty "tuple") (by rfl) FR.tuple_ (by decide +kernel) rfl) pa_nil))))) (pw_or (pt_cmpR (op_neD hr.units) (pe_callB call_lenK (by rfl) FR.len_ (by decide +kernel) (pa_cons (pv 1) pa_nil)) pe_int (nomark _)) (pw_or1 (pt_not (pt_val (pe_prm c_law_is_ground (hr.mono (by decide)) (by rfl) pass0 (pa_cons (pe_ix ix_seq (pv 1) pe_int (fun _ _ => rfl)) pa_nil)))))))) (pss_one (ps_ret pe_bl)) pss_nil)
      (pss_cons (ps_set (i := 2) sc_law_is_earth.nd rfl (by first | exact Or.inl rfl | exact Or.inr rfl) (pe_callB call_lenK (by rfl) FR.len_ (by decide +kernel) (pa_cons (pe_ix ix_seq (pv 0) pe_int (fun _ _ => rfl)) pa_nil)))
      (pss_cons (ps_if (PW.pt (pw_or (pt_not (pt_val (pe_prm c_law_are_ratios (hr.mono (by decide)) (by rfl) pass0 (pa_cons (pe_ix ix_seq (pv 1) pe_int (fun _ _ => rfl)) (pa_cons (pe_callB call_lenK (by rfl) FR.len_ (by decide +kernel) (pa_cons (pe_ix ix_seq (pv 0) pe_int (fun _ _ => rfl)) pa_nil)) pa_nil))))) (pw_or1 (pt_not (pt_val (pe_prm c_law_are_ratios (hr.mono (by decide)) (by rfl) pass0 (pa_cons (pe_ix ix_seq (pv 1) pe_int (fun _ _ => rfl)) (pa_cons (pv 2) pa_nil)))))))) (pss_one (ps_ret pe_bl)) pss_nil)
      (pss_cons (ps_if (pt_not (pt_val (pe_prm c_law_are_ratios (hr.mono (by decide)) (by rfl) pass0 (pa_cons (pe_ix ix_seq (pv 1) pe_int (fun _ _ => rfl)) (pa_cons (pe_op op_add (pv 2) (pe_callB call_lenK (by rfl) FR.len_ (by decide +kernel) (pa_cons (pe_ix ix_seq (pv 0) pe_int (fun _ _ => rfl)) pa_nil))) pa_nil))))) (pss_one (ps_ret pe_bl)) pss_nil)
      (pss_cons (ps_for PassesOwn.never rfl (pi_tup (pe_ix ix_seq (pv 1) pe_int (fun _ _ => rfl))) (pg_name (i := 3) sc_law_is_earth.nd rfl (by first | exact Or.inl rfl | exact Or.inr rfl)) (pss_one (ps_if (pt_cmpR op_lt (pe_ix ix_seq (pv 3) pe_int (fun _ _ => rfl)) pe_int (nomark _)) (pss_one (ps_ret pe_bl)) pss_nil)))
      (pss_cons (ps_for PassesOwn.never rfl (pi_tup (pe_ix ix_seq (pv 1) pe_int (fun _ _ => rfl))) (pg_name (i := 3) sc_law_is_earth.nd rfl (by first | exact Or.inl rfl | exact Or.inr rfl)) (pss_one (ps_if (pt_cmpR op_lt (pe_ix ix_seq (pv 3) pe_int (fun _ _ => rfl)) pe_int (nomark _)) (pss_one (ps_ret pe_bl)) pss_nil)))
      (pss_cons (ps_for PassesOwn.never rfl (pi_tup (pe_ix ix_seq (pv 1) pe_int (fun _ _ => rfl))) (pg_name (i := 3) sc_law_is_earth.nd rfl (by first | exact Or.inl rfl | exact Or.inr rfl)) (pss_one (ps_if (PW.pt (pw_or (pt_cmpR op_lt (pe_ix ix_seq (pv 3) pe_int (fun _ _ => rfl)) pe_int (nomark _)) (pw_or1 (pt_cmpR op_gt (pe_ix ix_seq (pv 3) pe_int (fun _ _ => rfl)) (pe_ix ix_seq (pv 3) pe_int (fun _ _ => rfl)) (nomark _))))) (pss_one (ps_ret pe_bl)) pss_nil)))
      (pss_one (ps_ret pe_bl)))))))))

/-! ### _law_bent_row -/
abbrev s_law_bent_row : Stmt := topS 59
abbrev N_law_bent_row : List Str := ["_law_pool_here", "_law_row", "_law_odd", "_law_item", "_law_mode", "_law_place"]
abbrev P_law_bent_row : List Str := ["_law_pool_here", "_law_row"]
theorem sc_law_bent_row : FnScope N_law_bent_row P_law_bent_row (defScope s_law_bent_row) := ⟨rfl, rfl, rfl, by decide +kernel, rfl, by decide +kernel, by decide +kernel⟩
def t_law_bent_row (K : PySem.W.Frag) : TS :=
    (tSeq (tAsg (tTup (tCons (tTup (tCons (tUn (rU fun i => .int (-i)) (tC (.int 1))) (tCons (tC (.int 2)) tNil))) (tCons (tTup (tCons (tC (.int 2)) (tCons (tC (.int 4)) tNil))) (tCons (tTup (tCons (tC (.int 1)) (tCons (tC (.int 0)) tNil))) (tCons (tTup (tCons (tC (.int 0)) (tCons (tC (.int 3)) tNil))) (tCons (tTup (tCons (tC (.int 3)) (tCons (tC (.int 2)) tNil))) (tCons (tTup (tCons (tC (.int 1)) (tCons (tUn (rU fun i => .int (-i)) (tC (.int 2))) tNil))) (tCons (tC (.bl true)) (tCons (tC (.int 1)) (tCons (tC .non) (tCons (tC (.str "1/2")) (tCons (tLst (tCons (tC (.int 1)) (tCons (tC (.int 2)) tNil))) (tCons (tTup (tCons (tC (.int 1)) tNil)) (tCons (tTup (tCons (tC (.int 1)) (tCons (tC (.int 2)) (tCons (tC (.int 3)) tNil)))) tNil)))))))))))))) (gName 2))
    (tSeq (tAsg (tOp (rCatA K) (tVar 2) (tTup (tCons (tTup (tCons (tC (.bl true)) (tCons (tC (.int 1)) tNil))) (tCons (tTup (tCons (tC (.int 1)) (tCons (tC (.bl true)) tNil))) (tCons (tTup (tCons (tC (.int 0)) (tCons (tC (.int 1)) tNil))) (tCons (tTup (tCons (tC (.int 1)) (tCons (tC (.int 1)) tNil))) (tCons (tTup (tCons (tC (.int 5)) (tCons (tC (.int 1)) tNil))) (tCons (tTup (tCons (tC (.int 0)) (tCons (tC (.bl true)) tNil))) (tCons (tTup (tCons (tTup (tCons (tC (.int 1)) (tCons (tC (.int 1)) tNil))) (tCons (tC (.int 1)) tNil))) tNil))))))))) (gName 2))
    (tSeq (tAsg (tOp (rIx K) (tVar 2) (tCall (SpG K PrePick PostPick) [] E0 (tCons (tVar 0) (tCons (tCB (Evl.rLenS K) (tCons (tVar 2) tNil)) tNil)))) (gName 3))
    (tSeq (tIfS (tTest (tOp (rEqD K) (tCall (SpG K PrePick PostPick) [] E0 (tCons (tVar 0) (tCons (tC (.int 2)) tNil))) (tC (.int 0)))) (tAsg (tOp (rIx K) (tTup (tCons (tTup (tCons (tUn (rU fun i => .int (-i)) (tC (.int 1))) (tCons (tC (.int 2)) tNil))) (tCons (tTup (tCons (tC (.int 0)) (tCons (tC (.int 1)) tNil))) (tCons (tTup (tCons (tC (.int 3)) (tCons (tC (.int 2)) tNil))) (tCons (tTup (tCons (tUn (rU fun i => .int (-i)) (tC (.int 3))) (tCons (tC (.int 1)) tNil))) (tCons (tTup (tCons (tC (.int 1)) (tCons (tC (.int 1)) tNil))) (tCons (tTup (tCons (tC (.int 7)) (tCons (tC (.int 6)) tNil))) tNil))))))) (tCall (SpG K PrePick PostPick) [] E0 (tCons (tVar 0) (tCons (tC (.int 6)) tNil)))) (gName 3)) tNext)
    (tSeq (tAsg (tCall (SpG K PrePick PostPick) [] E0 (tCons (tVar 0) (tCons (tC (.int 8)) tNil))) (gName 4))
    (tSeq (tIfS (tTest (tOp (rEqD K) (tVar 4) (tC (.int 0)))) (tRet (tCB (Evl.rListS K) (tCons (tVar 1) tNil))) tNext)
    (tSeq (tIfS (tTest (tOp (rEqD K) (tVar 4) (tC (.int 1)))) (tRet (tSl (rSlA K) (tVar 1) tNoPart (tPart (tCB (Evl.rMax2) (tCons (tC (.int 0)) (tCons (tOp (rI0 fun i j => .int (i - j)) (tCB (Evl.rLenS K) (tCons (tVar 1) tNil)) (tC (.int 1))) tNil)))))) tNext)
    (tSeq (tIfS (tOr (tTest (tOp (rEqD K) (tVar 4) (tC (.int 2)))) (tTest (tOp (rEqD K) (tCB (Evl.rLenS K) (tCons (tVar 1) tNil)) (tC (.int 0))))) (tRet (tOp (rCatA K) (tVar 1) (tTup (tCons (tVar 3) tNil)))) tNext)
    (tSeq (tAsg (tCall (SpG K PrePick PostPick) [] E0 (tCons (tVar 0) (tCons (tCB (Evl.rLenS K) (tCons (tVar 1) tNil)) tNil))) (gName 5))
    (tRet (tOp (rCatA K) (tOp (rCatA K) (tSl (rSlA K) (tVar 1) tNoPart (tPart (tVar 5))) (tTup (tCons (tVar 3) tNil))) (tSl (rSlA K) (tVar 1) (tPart (tOp (rI0 fun i j => .int (i + j)) (tVar 5) (tC (.int 1)))) tNoPart))))))))))))
theorem dv_law_bent_row {P : Program} {w : World} {K : PySem.W.Frag} {mg : Str → Option Value} {base : Heap} {f : Addr} {cdv : Value} {A : Around} {outer : List Env} {s : Shared} {H : Hp} {E : XK} (FR : Free mg) (c_law_pick : Prm P w K mg base CX0 1 "_law_pick" P_law_pick (SpG K PrePick PostPick))
    (hr : Room 1 (A.deeper (envOfC "_law_bent_row" (defScope s_law_bent_row) s.heap.objs.size f cdv))) :
    PSs (cxOf CX0 P w K mg base N_law_bent_row "_law_bent_row" (defScope s_law_bent_row) f cdv A outer s H E).nox (defBody s_law_bent_row) (t_law_bent_row K) := by
  unfold t_law_bent_row
  exact (pss_cons (ps_set (i := 2) sc_law_bent_row.nd rfl (by first | exact Or.inl rfl | exact Or.inr rfl) (pe_tup (pa_cons (pe_tup (pa_cons (pe_un un_neg pe_int) (pa_cons pe_int pa_nil))) (pa_cons (pe_tup (pa_cons pe_int (pa_cons pe_int pa_nil))) (pa_cons (pe_tup (pa_cons pe_int (pa_cons pe_int pa_nil))) (pa_cons (pe_tup (pa_cons pe_int (pa_cons pe_int pa_nil))) (pa_cons (pe_tup (pa_cons pe_int (pa_cons pe_int pa_nil))) (pa_cons (pe_tup (pa_cons pe_int (pa_cons (pe_un un_neg pe_int) pa_nil))) (pa_cons pe_bl (pa_cons pe_int (pa_cons pe_non (pa_cons pe_str (pa_cons (pe_lst (pa_cons pe_int (pa_cons pe_int pa_nil))) (pa_cons (pe_tup (pa_cons pe_int pa_nil)) (pa_cons (pe_tup (pa_cons pe_int (pa_cons pe_int (pa_cons pe_int pa_nil)))) pa_nil)))))))))))))))
      (pss_cons (ps_set (i := 2) sc_law_bent_row.nd rfl (by first | exact Or.inl rfl | exact Or.inr rfl) (pe_op op_catA (pv 2) (pe_tup (pa_cons (pe_tup (pa_cons pe_bl (pa_cons pe_int pa_nil))) (pa_cons (pe_tup (pa_cons pe_int (pa_cons pe_bl pa_nil))) (pa_cons (pe_tup (pa_cons pe_int (pa_cons pe_int pa_nil))) (pa_cons (pe_tup (pa_cons pe_int (pa_cons pe_int pa_nil))) (pa_cons (pe_tup (pa_cons pe_int (pa_cons pe_int pa_nil))) (pa_cons (pe_tup (pa_cons pe_int (pa_cons pe_bl pa_nil))) (pa_cons (pe_tup (pa_cons (pe_tup (pa_cons pe_int (pa_cons pe_int pa_nil))) (pa_cons pe_int pa_nil))) pa_nil))))))))))
      (pss_cons (ps_set (i := 3) sc_law_bent_row.nd rfl (by first | exact Or.inl rfl | exact Or.inr rfl) (pe_ix ix_seq (pv 2) (pe_prm c_law_pick (hr.mono (by decide)) (by rfl) pass0 (pa_cons (pv 0) (pa_cons (pe_callB call_lenK (by rfl) FR.len_ (by decide +kernel) (pa_cons (pv 2) pa_nil)) pa_nil))) (fun _ _ => rfl)))
      (pss_cons (ps_if (pt_cmpR (op_eqD hr.units) (pe_prm c_law_pick (hr.mono (by decide)) (by rfl) pass0 (pa_cons (pv 0) (pa_cons pe_int pa_nil))) pe_int (nomark _)) (pss_one (ps_set (i := 3) sc_law_bent_row.nd rfl (by first | exact Or.inl rfl | exact Or.inr rfl) (pe_ix ix_seq (pe_tup (pa_cons (pe_tup (pa_cons (pe_un un_neg pe_int) (pa_cons pe_int pa_nil))) (pa_cons (pe_tup (pa_cons pe_int (pa_cons pe_int pa_nil))) (pa_cons (pe_tup (pa_cons pe_int (pa_cons pe_int pa_nil))) (pa_cons (pe_tup (pa_cons (pe_un un_neg pe_int) (pa_cons pe_int pa_nil))) (pa_cons (pe_tup (pa_cons pe_int (pa_cons pe_int pa_nil))) (pa_cons (pe_tup (pa_cons pe_int (pa_cons pe_int pa_nil))) pa_nil))))))) (pe_prm c_law_pick (hr.mono (by decide)) (by rfl) pass0 (pa_cons (pv 0) (pa_cons pe_int pa_nil))) (fun _ _ => rfl)))) pss_nil)
      (pss_cons (ps_set (i := 4) sc_law_bent_row.nd rfl (by first | exact Or.inl rfl | exact Or.inr rfl) (pe_prm c_law_pick (hr.mono (by decide)) (by rfl) pass0 (pa_cons (pv 0) (pa_cons pe_int pa_nil))))
      (pss_cons (ps_if (pt_cmpR (op_eqD hr.units) (pv 4) pe_int (nomark _)) (pss_one (ps_ret (pe_callTy call_listK (by rfl) FR.list_ (by decide +kernel) (pa_cons (pv 1) pa_nil)))) pss_nil)
      (pss_cons (ps_if (pt_cmpR (op_eqD hr.units) (pv 4) pe_int (nomark _)) (pss_one (ps_ret (pe_slice sl_tupA (pv 1) po_none (po_some (pe_callB (call_maxK rfl) (by rfl) FR.max_ (by decide +kernel) (pa_cons pe_int (pa_cons (pe_op op_sub (pe_callB call_lenK (by rfl) FR.len_ (by decide +kernel) (pa_cons (pv 1) pa_nil)) pe_int) pa_nil))))))) pss_nil)
      (pss_cons (ps_if (PW.pt (pw_or (pt_cmpR (op_eqD hr.units) (pv 4) pe_int (nomark _)) (pw_or1 (pt_cmpR (op_eqD hr.units) (pe_callB call_lenK (by rfl) FR.len_ (by decide +kernel) (pa_cons (pv 1) pa_nil)) pe_int (nomark _))))) (pss_one (ps_ret (pe_op op_catA (pv 1) (pe_tup (pa_cons (pv 3) pa_nil))))) pss_nil)
      (pss_cons (ps_set (i := 5) sc_law_bent_row.nd rfl (by first | exact Or.inl rfl | exact Or.inr rfl) (pe_prm c_law_pick (hr.mono (by decide)) (by rfl) pass0 (pa_cons (pv 0) (pa_cons (pe_callB call_lenK (by rfl) FR.len_ (by decide +kernel) (pa_cons (pv 1) pa_nil)) pa_nil))))
      (pss_one (ps_ret (pe_op op_catA (pe_op op_catA (pe_slice sl_tupA (pv 1) po_none (po_some (pv 5))) (pe_tup (pa_cons (pv 3) pa_nil))) (pe_slice sl_tupA (pv 1) (po_some (pe_op op_add (pv 5) pe_int)) po_none)))))))))))))

/-! ### _law_bent -/
abbrev s_law_bent : Stmt := topS 60
abbrev N_law_bent : List Str := ["_law_pool_here", "_law_earth_here", "_law_mode", "_law_place", "_law_odd"]
abbrev P_law_bent : List Str := ["_law_pool_here", "_law_earth_here"]
theorem sc_law_bent : FnScope N_law_bent P_law_bent (defScope s_law_bent) := ⟨rfl, rfl, rfl, by decide +kernel, rfl, by decide +kernel, by decide +kernel⟩
def t_law_bent (K : PySem.W.Frag) : TS :=
    (tSeq (tAsg (tCall (SpG K PrePick PostPick) [] E0 (tCons (tVar 0) (tCons (tC (.int 12)) tNil))) (gName 2))
    (tSeq (tIfS (tTest (tOp (rI0 fun i j => .bl (decide (i < j))) (tVar 2) (tC (.int 6)))) (tSeq (tAsg (tOp (rI0 fun i j => .int (i + j)) (tC (.int 1)) (tOp (rI (fun _ j => j ≠ 0) fun i j => .int (i.fmod j)) (tCB (rInt1) (tCons (tVar 2) tNil)) (tC (.int 3)))) (gName 3))
    (tRet (tOp (rCatA K) (tOp (rCatA K) (tSl (rSlA K) (tVar 1) tNoPart (tPart (tVar 3))) (tTup (tCons (tCall (SpG K PreRow PostRow) [] E0 (tCons (tVar 0) (tCons (tOp (rIx K) (tVar 1) (tVar 3)) tNil))) tNil))) (tSl (rSlA K) (tVar 1) (tPart (tOp (rI0 fun i j => .int (i + j)) (tVar 3) (tC (.int 1)))) tNoPart)))) tNext)
    (tSeq (tIfS (tTest (tOp (rI0 fun i j => .bl (decide (i < j))) (tVar 2) (tC (.int 8)))) (tSeq (tAsg (tTup (tCons (tC (.int 1)) (tCons (tC (.int 0)) (tCons (tUn (rU fun i => .int (-i)) (tC (.int 2))) (tCons (tC (.bl true)) (tCons (tC .non) (tCons (tC (.str "2")) (tCons (tTup (tCons (tC (.int 2)) tNil)) (tCons (tC (.int 2)) (tCons (tLst (tCons (tC (.int 3)) tNil)) tNil)))))))))) (gName 4))
    (tRet (tOp (rCatA K) (tTup (tCons (tOp (rIx K) (tVar 4) (tCall (SpG K PrePick PostPick) [] E0 (tCons (tVar 0) (tCons (tCB (Evl.rLenS K) (tCons (tVar 4) tNil)) tNil)))) tNil)) (tSl (rSlA K) (tVar 1) (tPart (tC (.int 1))) tNoPart)))) tNext)
    (tSeq (tIfS (tTest (tOp (rEqD K) (tVar 2) (tC (.int 8)))) (tRet (tTup (tCons (tOp (rIx K) (tVar 1) (tC (.int 0))) (tCons (tOp (rIx K) (tVar 1) (tC (.int 2))) (tCons (tOp (rIx K) (tVar 1) (tC (.int 1))) (tCons (tOp (rIx K) (tVar 1) (tC (.int 3))) tNil)))))) tNext)
    (tSeq (tIfS (tTest (tOp (rEqD K) (tVar 2) (tC (.int 9)))) (tRet (tSl (rSlA K) (tVar 1) tNoPart (tPart (tC (.int 3))))) tNext)
    (tSeq (tIfS (tTest (tOp (rEqD K) (tVar 2) (tC (.int 10)))) (tRet (tCB (Evl.rListS K) (tCons (tVar 1) tNil))) tNext)
    (tRet (tOp (rIx K) (tTup (tCons (tTup tNil) (tCons (tC .non) (tCons (tC (.int 5)) (tCons (tC (.str "world")) (tCons (tOp (rCatA K) (tVar 1) (tTup (tCons (tC .non) tNil))) (tCons (tC (.bl true)) tNil))))))) (tCall (SpG K PrePick PostPick) [] E0 (tCons (tVar 0) (tCons (tC (.int 6)) tNil)))))))))))
theorem dv_law_bent {P : Program} {w : World} {K : PySem.W.Frag} {mg : Str → Option Value} {base : Heap} {f : Addr} {cdv : Value} {A : Around} {outer : List Env} {s : Shared} {H : Hp} {E : XK} (FR : Free mg) (c_law_pick : Prm P w K mg base CX0 1 "_law_pick" P_law_pick (SpG K PrePick PostPick)) (c_law_bent_row : Prm P w K mg base CX0 2 "_law_bent_row" P_law_bent_row (SpG K PreRow PostRow))
    (hr : Room 2 (A.deeper (envOfC "_law_bent" (defScope s_law_bent) s.heap.objs.size f cdv))) :
    PSs (cxOf CX0 P w K mg base N_law_bent "_law_bent" (defScope s_law_bent) f cdv A outer s H E).nox (defBody s_law_bent) (t_law_bent K) := by
  unfold t_law_bent
  exact (pss_cons (ps_set (i := 2) sc_law_bent.nd rfl (by first | exact Or.inl rfl | exact Or.inr rfl) (pe_prm c_law_pick (hr.mono (by decide)) (by rfl) pass0 (pa_cons (pv 0) (pa_cons pe_int pa_nil))))
      (pss_cons (ps_if (pt_cmpR op_lt (pv 2) pe_int (nomark _)) (pss_cons (ps_set (i := 3) sc_law_bent.nd rfl (by first | exact Or.inl rfl | exact Or.inr rfl) (pe_op op_add pe_int (pe_op op_modN (pe_callTy call_intK (by rfl) FR.int_ (by decide +kernel) (pa_cons (pv 2) pa_nil)) pe_int)))
      (pss_one (ps_ret (pe_op op_catA (pe_op op_catA (pe_slice sl_tupA (pv 1) po_none (po_some (pv 3))) (pe_tup (pa_cons (pe_prm c_law_bent_row (hr.mono (by decide)) (by rfl) pass0 (pa_cons (pv 0) (pa_cons (pe_ix ix_seq (pv 1) (pv 3) (fun _ _ => rfl)) pa_nil))) pa_nil))) (pe_slice sl_tupA (pv 1) (po_some (pe_op op_add (pv 3) pe_int)) po_none))))) pss_nil)
      (pss_cons (ps_if (pt_cmpR op_lt (pv 2) pe_int (nomark _)) (pss_cons (ps_set (i := 4) sc_law_bent.nd rfl (by first | exact Or.inl rfl | exact Or.inr rfl) (pe_tup (pa_cons pe_int (pa_cons pe_int (pa_cons (pe_un un_neg pe_int) (pa_cons pe_bl (pa_cons pe_non (pa_cons pe_str (pa_cons (pe_tup (pa_cons pe_int pa_nil)) (pa_cons pe_int (pa_cons (pe_lst (pa_cons pe_int pa_nil)) pa_nil)))))))))))
      (pss_one (ps_ret (pe_op op_catA (pe_tup (pa_cons (pe_ix ix_seq (pv 4) (pe_prm c_law_pick (hr.mono (by decide)) (by rfl) pass0 (pa_cons (pv 0) (pa_cons (pe_callB call_lenK (by rfl) FR.len_ (by decide +kernel) (pa_cons (pv 4) pa_nil)) pa_nil))) (fun _ _ => rfl)) pa_nil)) (pe_slice sl_tupA (pv 1) (po_some pe_int) po_none))))) pss_nil)
      (pss_cons (ps_if (pt_cmpR (op_eqD hr.units) (pv 2) pe_int (nomark _)) (pss_one (ps_ret (pe_tup (pa_cons (pe_ix ix_seq (pv 1) pe_int (fun _ _ => rfl)) (pa_cons (pe_ix ix_seq (pv 1) pe_int (fun _ _ => rfl)) (pa_cons (pe_ix ix_seq (pv 1) pe_int (fun _ _ => rfl)) (pa_cons (pe_ix ix_seq (pv 1) pe_int (fun _ _ => rfl)) pa_nil))))))) pss_nil)
      (pss_cons (ps_if (pt_cmpR (op_eqD hr.units) (pv 2) pe_int (nomark _)) (pss_one (ps_ret (pe_slice sl_tupA (pv 1) po_none (po_some pe_int)))) pss_nil)
      (pss_cons (ps_if (pt_cmpR (op_eqD hr.units) (pv 2) pe_int (nomark _)) (pss_one (ps_ret (pe_callTy call_listK (by rfl) FR.list_ (by decide +kernel) (pa_cons (pv 1) pa_nil)))) pss_nil)
      (pss_one (ps_ret (pe_ix ix_seq (pe_tup (pa_cons (pe_tup pa_nil) (pa_cons pe_non (pa_cons pe_int (pa_cons pe_str (pa_cons (pe_op op_catA (pv 1) (pe_tup (pa_cons pe_non pa_nil))) (pa_cons pe_bl pa_nil))))))) (pe_prm c_law_pick (hr.mono (by decide)) (by rfl) pass0 (pa_cons (pv 0) (pa_cons pe_int pa_nil))) (fun _ _ => rfl))))))))))

/-! ### _law_scale -/
abbrev s_law_scale : Stmt := topS 63
abbrev N_law_scale : List Str := ["_law_pool_here", "_law_most", "_law_odd", "_law_mode"]
abbrev P_law_scale : List Str := ["_law_pool_here", "_law_most"]
theorem sc_law_scale : FnScope N_law_scale P_law_scale (defScope s_law_scale) := ⟨rfl, rfl, rfl, by decide +kernel, rfl, by decide +kernel, by decide +kernel⟩
def t_law_scale (K : PySem.W.Frag) : TS :=
    (tSeq (tAsg (tTup (tCons (tC (.int 0)) (tCons (tUn (rU fun i => .int (-i)) (tC (.int 1))) (tCons (tOp (rI0 fun i j => .int (i + j)) (tVar 1) (tC (.int 1))) (tCons (tC (.bl true)) (tCons (tC .non) (tCons (tC (.str "1")) (tCons (tTup (tCons (tC (.int 1)) tNil)) (tCons (tLst (tCons (tC (.int 1)) tNil)) tNil))))))))) (gName 2))
    (tSeq (tAsg (tCall (SpG K PrePick PostPick) [] E0 (tCons (tVar 0) (tCons (tC (.int 6)) tNil))) (gName 3))
    (tSeq (tIfS (tTest (tOp (rEqD K) (tVar 3) (tC (.int 5)))) (tRet (tOp (rIx K) (tVar 2) (tCall (SpG K PrePick PostPick) [] E0 (tCons (tVar 0) (tCons (tCB (Evl.rLenS K) (tCons (tVar 2) tNil)) tNil))))) tNext)
    (tSeq (tIfS (tTest (tOp (rEqD K) (tVar 3) (tC (.int 4)))) (tRet (tVar 1)) tNext)
    (tRet (tOp (rI0 fun i j => .int (i + j)) (tC (.int 1)) (tCall (SpG K PrePick PostPick) [] E0 (tCons (tVar 0) (tCons (tVar 1) tNil)))))))))
theorem dv_law_scale {P : Program} {w : World} {K : PySem.W.Frag} {mg : Str → Option Value} {base : Heap} {f : Addr} {cdv : Value} {A : Around} {outer : List Env} {s : Shared} {H : Hp} {E : XK} (FR : Free mg) (c_law_pick : Prm P w K mg base CX0 1 "_law_pick" P_law_pick (SpG K PrePick PostPick))
    (hr : Room 1 (A.deeper (envOfC "_law_scale" (defScope s_law_scale) s.heap.objs.size f cdv))) :
    PSs (cxOf CX0 P w K mg base N_law_scale "_law_scale" (defScope s_law_scale) f cdv A outer s H E).nox (defBody s_law_scale) (t_law_scale K) := by
  unfold t_law_scale
  exact (pss_cons (ps_set (i := 2) sc_law_scale.nd rfl (by first | exact Or.inl rfl | exact Or.inr rfl) (pe_tup (pa_cons pe_int (pa_cons (pe_un un_neg pe_int) (pa_cons (pe_op op_add (pv 1) pe_int) (pa_cons pe_bl (pa_cons pe_non (pa_cons pe_str (pa_cons (pe_tup (pa_cons pe_int pa_nil)) (pa_cons (pe_lst (pa_cons pe_int pa_nil)) pa_nil))))))))))
      (pss_cons (ps_set (i := 3) sc_law_scale.nd rfl (by first | exact Or.inl rfl | exact Or.inr rfl) (pe_prm c_law_pick (hr.mono (by decide)) (by rfl) pass0 (pa_cons (pv 0) (pa_cons pe_int pa_nil))))
      (pss_cons (ps_if (pt_cmpR (op_eqD hr.units) (pv 3) pe_int (nomark _)) (pss_one (ps_ret (pe_ix ix_seq (pv 2) (pe_prm c_law_pick (hr.mono (by decide)) (by rfl) pass0 (pa_cons (pv 0) (pa_cons (pe_callB call_lenK (by rfl) FR.len_ (by decide +kernel) (pa_cons (pv 2) pa_nil)) pa_nil))) (fun _ _ => rfl)))) pss_nil)
      (pss_cons (ps_if (pt_cmpR (op_eqD hr.units) (pv 3) pe_int (nomark _)) (pss_one (ps_ret (pv 1))) pss_nil)
      (pss_one (ps_ret (pe_op op_add pe_int (pe_prm c_law_pick (hr.mono (by decide)) (by rfl) pass0 (pa_cons (pv 0) (pa_cons (pv 1) pa_nil))))))))))

/-! ### _law_any_ground -/
abbrev s_law_any_ground : Stmt := topS 64
abbrev N_law_any_ground : List Str := ["_law_pool_here"]
abbrev P_law_any_ground : List Str := ["_law_pool_here"]
theorem sc_law_any_ground : FnScope N_law_any_ground P_law_any_ground (defScope s_law_any_ground) := ⟨rfl, rfl, rfl, by decide +kernel, rfl, by decide +kernel, by decide +kernel⟩
def t_law_any_ground (K : PySem.W.Frag) : TS :=
    (tSeq (tIfS (tTest (tOp (rEqD K) (tCall (SpG K PrePick PostPick) [] E0 (tCons (tVar 0) (tCons (tC (.int 4)) tNil))) (tC (.int 0)))) (tRet (tOp (rIx K) (tTup (tCons (tC (.int 1)) (tCons (tC (.int 0)) (tCons (tUn (rU fun i => .int (-i)) (tC (.int 3))) (tCons (tC (.bl true)) (tCons (tC .non) (tCons (tC (.str "2")) (tCons (tTup (tCons (tC (.int 2)) tNil)) (tCons (tLst (tCons (tC (.int 2)) tNil)) (tCons (tC (.int 2)) tNil)))))))))) (tCall (SpG K PrePick PostPick) [] E0 (tCons (tVar 0) (tCons (tC (.int 9)) tNil))))) tNext)
    (tRet (tCall (SpG K Pre0 PostGround) [] E0 (tCons (tVar 0) tNil))))
theorem dv_law_any_ground {P : Program} {w : World} {K : PySem.W.Frag} {mg : Str → Option Value} {base : Heap} {f : Addr} {cdv : Value} {A : Around} {outer : List Env} {s : Shared} {H : Hp} {E : XK} (FR : Free mg) (c_law_pick : Prm P w K mg base CX0 1 "_law_pick" P_law_pick (SpG K PrePick PostPick)) (c_law_ground : Prm P w K mg base CX0 2 "_law_ground" P_law_ground (SpG K Pre0 PostGround))
    (hr : Room 2 (A.deeper (envOfC "_law_any_ground" (defScope s_law_any_ground) s.heap.objs.size f cdv))) :
    PSs (cxOf CX0 P w K mg base N_law_any_ground "_law_any_ground" (defScope s_law_any_ground) f cdv A outer s H E).nox (defBody s_law_any_ground) (t_law_any_ground K) := by
  unfold t_law_any_ground
  exact (pss_cons (ps_if (pt_cmpR (op_eqD hr.units) (pe_prm c_law_pick (hr.mono (by decide)) (by rfl) pass0 (pa_cons (pv 0) (pa_cons pe_int pa_nil))) pe_int (nomark _)) (pss_one (ps_ret (pe_ix ix_seq (pe_tup (pa_cons pe_int (pa_cons pe_int (pa_cons (pe_un un_neg pe_int) (pa_cons pe_bl (pa_cons pe_non (pa_cons pe_str (pa_cons (pe_tup (pa_cons pe_int pa_nil)) (pa_cons (pe_lst (pa_cons pe_int pa_nil)) (pa_cons pe_int pa_nil)))))))))) (pe_prm c_law_pick (hr.mono (by decide)) (by rfl) pass0 (pa_cons (pv 0) (pa_cons pe_int pa_nil))) (fun _ _ => rfl)))) pss_nil)
      (pss_one (ps_ret (pe_prm c_law_ground (hr.mono (by decide)) (by rfl) pass0 (pa_cons (pv 0) pa_nil)))))

end Ky
set_option Elab.async false
set_option linter.all false
set_option maxRecDepth 100000
set_option maxHeartbeats 4000000
namespace Ky
open PySem PySem.Spec PyProof.Rows L2
/-! ### _law_heard -/
abbrev s_law_heard : Stmt := topS 61
abbrev N_law_heard : List Str := ["_law_which", "_law_circuit_here", "_law_items", "e"]
abbrev P_law_heard : List Str := ["_law_which", "_law_circuit_here", "_law_items"]
theorem sc_law_heard : FnScope N_law_heard P_law_heard (defScope s_law_heard) := ⟨rfl, rfl, rfl, by decide +kernel, rfl, by decide +kernel, by decide +kernel⟩
def t_law_heard (K : PySem.W.Frag) (C : Addr) (CO : Addr) : TS :=
    (fun F σ H => (fun W => (tSeq (tIfS (tTest (tOp (rEqD K) (tVar 0) (tC (.int 0)))) (tRet (tCallS (SpX K C Rfb) (WE W) (tCons (tOp (rIx K) (tVar 2) (tC (.int 0))) (tCons (tOp (rIx K) (tVar 2) (tC (.int 1))) tNil)))) tNext)
    (tSeq (tIfS (tTest (tOp (rEqD K) (tVar 0) (tC (.int 1)))) (tRet (tCallS (SpX K C Rrb) (WE W) (tCons (tOp (rIx K) (tVar 2) (tC (.int 0))) (tCons (tOp (rIx K) (tVar 2) (tC (.int 1))) tNil)))) tNext)
    (tSeq (tIfS (tTest (tOp (rEqD K) (tVar 0) (tC (.int 4)))) (tRet (tCallS (SpX K C Rwf) (WE W) (tCons (tVar 1) (tCons (tOp (rIx K) (tVar 2) (tC (.int 0))) (tCons (tOp (rIx K) (tVar 2) (tC (.int 1))) (tCons (tOp (rIx K) (tVar 2) (tC (.int 2))) (tCons (tOp (rIx K) (tVar 2) (tC (.int 3))) tNil))))))) tNext)
    (tSeq (tIfS (tTest (tOp (rEqD K) (tVar 0) (tC (.int 5)))) (tRet (tCallK0 (SpX K C Rfb) (fun zs => [zs.getD 1 .non, zs.getD 0 .non]) (WE W) (tLen 2 (tCons (tOp (rIx K) (tVar 2) (tC (.int 1))) (tCons (tOp (rIx K) (tVar 2) (tC (.int 0))) tNil))))) tNext)
    (tSeq (tIfS (tTest (tOp (rEqD K) (tVar 0) (tC (.int 6)))) (tRet (tCallK0 (SpX K C Rrb) (fun zs => [zs.getD 1 .non, zs.getD 0 .non]) (WE W) (tLen 2 (tCons (tOp (rIx K) (tVar 2) (tC (.int 1))) (tCons (tOp (rIx K) (tVar 2) (tC (.int 0))) tNil))))) tNext)
    (tRet (tCallK0 (SpX K C Rwf) (fun zs => [zs.getD 4 .non, zs.getD 3 .non, zs.getD 2 .non, zs.getD 1 .non, zs.getD 0 .non]) (WE W) (tLen 5 (tCons (tOp (rIx K) (tVar 2) (tC (.int 3))) (tCons (tOp (rIx K) (tVar 2) (tC (.int 2))) (tCons (tOp (rIx K) (tVar 2) (tC (.int 1))) (tCons (tOp (rIx K) (tVar 2) (tC (.int 0))) (tCons (tVar 1) tNil)))))))))))))) (wAs K (.ref CO) 3 (ts_heard K C) (fun _ _ _ _ => False) F) F σ H)
theorem dv_law_heard {P : Program} {w : World} {K : PySem.W.Frag} {mg : Str → Option Value} {base : Heap} {f : Addr} {cdv : Value} {A : Around} {outer : List Env} {s : Shared} {H : Hp} {E : XK} {C : Addr} (FR : Free mg) {fI CO : Addr} {fdI : FuncData} (NU : Nu K mg C fI CO fdI) (c_flow_bounds : Prm P w K mg base (L2.CX P w) 5 "flow_bounds" P_flow_bounds (SpX K C Rfb)) (c_room_bounds : Prm P w K mg base (L2.CX P w) 5 "room_bounds" P_room_bounds (SpX K C Rrb)) (c_world_fault : Prm P w K mg base (L2.CX P w) 6 "world_fault" P_world_fault (SpX K C Rwf)) (c_flow_bounds_kw : PrmK P w K mg base (L2.CX P w) 5 "flow_bounds" P_flow_bounds ["strength", "base"] (SpX K C Rfb) (fun ws => [ws.getD 1 .none, ws.getD 0 .none]) (fun zs => [zs.getD 1 .non, zs.getD 0 .non])) (c_room_bounds_kw : PrmK P w K mg base (L2.CX P w) 5 "room_bounds" P_room_bounds ["size", "base"] (SpX K C Rrb) (fun ws => [ws.getD 1 .none, ws.getD 0 .none]) (fun zs => [zs.getD 1 .non, zs.getD 0 .non])) (c_world_fault_kw : PrmK P w K mg base (L2.CX P w) 6 "world_fault" P_world_fault ["slack", "world", "held", "positions", "net"] (SpX K C Rwf) (fun ws => [ws.getD 4 .none, ws.getD 3 .none, ws.getD 2 .none, ws.getD 1 .none, ws.getD 0 .none]) (fun zs => [zs.getD 4 .non, zs.getD 3 .non, zs.getD 2 .non, zs.getD 1 .non, zs.getD 0 .non]))
    (hr : Room 6 (A.deeper (envOfC "_law_heard" (defScope s_law_heard) s.heap.objs.size f cdv))) :
    PSs (cxOf CX0 P w K mg base N_law_heard "_law_heard" (defScope s_law_heard) f cdv A outer s H E).nox (defBody s_law_heard) (t_law_heard K C CO) := by
  unfold t_law_heard
  exact (pss_one (ps_try_as (i := 3) (tb := (fun W => (tSeq (tIfS (tTest (tOp (rEqD K) (tVar 0) (tC (.int 0)))) (tRet (tCallS (SpX K C Rfb) (WE W) (tCons (tOp (rIx K) (tVar 2) (tC (.int 0))) (tCons (tOp (rIx K) (tVar 2) (tC (.int 1))) tNil)))) tNext)
    (tSeq (tIfS (tTest (tOp (rEqD K) (tVar 0) (tC (.int 1)))) (tRet (tCallS (SpX K C Rrb) (WE W) (tCons (tOp (rIx K) (tVar 2) (tC (.int 0))) (tCons (tOp (rIx K) (tVar 2) (tC (.int 1))) tNil)))) tNext)
    (tSeq (tIfS (tTest (tOp (rEqD K) (tVar 0) (tC (.int 4)))) (tRet (tCallS (SpX K C Rwf) (WE W) (tCons (tVar 1) (tCons (tOp (rIx K) (tVar 2) (tC (.int 0))) (tCons (tOp (rIx K) (tVar 2) (tC (.int 1))) (tCons (tOp (rIx K) (tVar 2) (tC (.int 2))) (tCons (tOp (rIx K) (tVar 2) (tC (.int 3))) tNil))))))) tNext)
    (tSeq (tIfS (tTest (tOp (rEqD K) (tVar 0) (tC (.int 5)))) (tRet (tCallK0 (SpX K C Rfb) (fun zs => [zs.getD 1 .non, zs.getD 0 .non]) (WE W) (tLen 2 (tCons (tOp (rIx K) (tVar 2) (tC (.int 1))) (tCons (tOp (rIx K) (tVar 2) (tC (.int 0))) tNil))))) tNext)
    (tSeq (tIfS (tTest (tOp (rEqD K) (tVar 0) (tC (.int 6)))) (tRet (tCallK0 (SpX K C Rrb) (fun zs => [zs.getD 1 .non, zs.getD 0 .non]) (WE W) (tLen 2 (tCons (tOp (rIx K) (tVar 2) (tC (.int 1))) (tCons (tOp (rIx K) (tVar 2) (tC (.int 0))) tNil))))) tNext)
    (tRet (tCallK0 (SpX K C Rwf) (fun zs => [zs.getD 4 .non, zs.getD 3 .non, zs.getD 2 .non, zs.getD 1 .non, zs.getD 0 .non]) (WE W) (tLen 5 (tCons (tOp (rIx K) (tVar 2) (tC (.int 3))) (tCons (tOp (rIx K) (tVar 2) (tC (.int 2))) (tCons (tOp (rIx K) (tVar 2) (tC (.int 1))) (tCons (tOp (rIx K) (tVar 2) (tC (.int 0))) (tCons (tVar 1) tNil))))))))))))))) (ts := (ts_heard K C)) (Wout := fun _ _ _ _ => False) rfl rfl sc_law_heard.nd rfl rfl ⟨rfl, by decide, Or.inl NU.gO⟩ takes0
      (fun W pn xe tk _ => (pss_cons (ps_if (pt_cmpR (op_eqD hr.units) (pv 0) pe_int (nomark _)) (pss_one (ps_ret (pe_prmS c_flow_bounds (hr.mono (by decide)) (by rfl) (fun σ => passAt tk σ) (pa_cons (pe_ix ix_seq (pv 2) pe_int (fun _ _ => rfl)) (pa_cons (pe_ix ix_seq (pv 2) pe_int (fun _ _ => rfl)) pa_nil))))) pss_nil)
      (pss_cons (ps_if (pt_cmpR (op_eqD hr.units) (pv 0) pe_int (nomark _)) (pss_one (ps_ret (pe_prmS c_room_bounds (hr.mono (by decide)) (by rfl) (fun σ => passAt tk σ) (pa_cons (pe_ix ix_seq (pv 2) pe_int (fun _ _ => rfl)) (pa_cons (pe_ix ix_seq (pv 2) pe_int (fun _ _ => rfl)) pa_nil))))) pss_nil)
      (pss_cons (ps_if (pt_cmpR (op_eqD hr.units) (pv 0) pe_int (nomark _)) (pss_one (ps_ret (pe_prmS c_world_fault (hr.mono (by decide)) (by rfl) (fun σ => passAt tk σ) (pa_cons (pv 1) (pa_cons (pe_ix ix_seq (pv 2) pe_int (fun _ _ => rfl)) (pa_cons (pe_ix ix_seq (pv 2) pe_int (fun _ _ => rfl)) (pa_cons (pe_ix ix_seq (pv 2) pe_int (fun _ _ => rfl)) (pa_cons (pe_ix ix_seq (pv 2) pe_int (fun _ _ => rfl)) pa_nil)))))))) pss_nil)
      (pss_cons (ps_if (pt_cmpR (op_eqD hr.units) (pv 0) pe_int (nomark _)) (pss_one (ps_ret (pe_prmKS c_flow_bounds_kw (hr.mono (by decide)) (by rfl) (fun σ => passAt tk σ) (pk_cons (pe_ix ix_seq (pv 2) pe_int (fun _ _ => rfl)) (pk_cons (pe_ix ix_seq (pv 2) pe_int (fun _ _ => rfl)) pk_nil))))) pss_nil)
      (pss_cons (ps_if (pt_cmpR (op_eqD hr.units) (pv 0) pe_int (nomark _)) (pss_one (ps_ret (pe_prmKS c_room_bounds_kw (hr.mono (by decide)) (by rfl) (fun σ => passAt tk σ) (pk_cons (pe_ix ix_seq (pv 2) pe_int (fun _ _ => rfl)) (pk_cons (pe_ix ix_seq (pv 2) pe_int (fun _ _ => rfl)) pk_nil))))) pss_nil)
      (pss_one (ps_ret (pe_prmKS c_world_fault_kw (hr.mono (by decide)) (by rfl) (fun σ => passAt tk σ) (pk_cons (pe_ix ix_seq (pv 2) pe_int (fun _ _ => rfl)) (pk_cons (pe_ix ix_seq (pv 2) pe_int (fun _ _ => rfl)) (pk_cons (pe_ix ix_seq (pv 2) pe_int (fun _ _ => rfl)) (pk_cons (pe_ix ix_seq (pv 2) pe_int (fun _ _ => rfl)) (pk_cons (pv 1) pk_nil))))))))))))))
      (fun a oe cls d pn hz hf => (pss_cons (ps_if (pt_val (pe_callB (call_isX NU.I hz hf) (by rfl) FR.isinstance_ (by decide +kernel) (pa_cons (pv 3) (pa_cons (pe_glob (v := .ref C) (by rfl) NU.gC rfl) pa_nil)))) (pss_one (ps_ret (pe_lst (pa_cons pe_str (pa_cons (pe_xf NU.X NU.nW hz hf (pv 3)) (pa_cons (pe_xf NU.X NU.nA hz hf (pv 3)) pa_nil)))))) pss_nil) (pss_one (ps_ret (pe_lst (pa_cons pe_str pa_nil))))))))

/-! ### _law_meets -/
abbrev s_law_meets : Stmt := topS 62
abbrev N_law_meets : List Str := ["_law_told", "_law_word", "_law_due"]
abbrev P_law_meets : List Str := ["_law_told", "_law_word", "_law_due"]
theorem sc_law_meets : FnScope N_law_meets P_law_meets (defScope s_law_meets) := ⟨rfl, rfl, rfl, by decide +kernel, rfl, by decide +kernel, by decide +kernel⟩
def t_law_meets (K : PySem.W.Frag) : TS :=
    (tSeq (tIfS (tTest (tOp (rNeD K) (tVar 1) (tC (.str "")))) (tRet (tAndV (tCB (rIsi K) (tCons (tVar 0) (tCons (tC (.ty "list")) tNil))) (tCall (SpR K Rsame) [] E0 (tCons (tCB (rTupS K) (tCons (tVar 0) tNil)) (tCons (tTup (tCons (tC (.str "refused")) (tCons (tVar 1) (tCons (tUn (rU fun i => .int (-i)) (tC (.int 1))) tNil)))) tNil))))) tNext)
    (tRet (tCall (SpR K Rsame) [] E0 (tCons (tVar 0) (tCons (tVar 2) tNil)))))
theorem dv_law_meets {P : Program} {w : World} {K : PySem.W.Frag} {mg : Str → Option Value} {base : Heap} {f : Addr} {cdv : Value} {A : Around} {outer : List Env} {s : Shared} {H : Hp} {E : XK} (FR : Free mg) (c_law_same : Prm P w K mg base CX0 3 "_law_same" P_law_same (SpR K Rsame))
    (hr : Room 3 (A.deeper (envOfC "_law_meets" (defScope s_law_meets) s.heap.objs.size f cdv))) :
    PSs (cxOf CX0 P w K mg base N_law_meets "_law_meets" (defScope s_law_meets) f cdv A outer s H E).nox (defBody s_law_meets) (t_law_meets K) := by
  unfold t_law_meets
  exact (pss_cons (ps_if (pt_cmpR (op_neD hr.units) (pv 1) pe_str (nomark _)) (pss_one (ps_ret (pe_and (pe_callB call_isi (by rfl) FR.isinstance_ (by decide +kernel) (pa_cons (pv 0) (pa_cons (pe_bltn (v := .ty "list") (by rfl) FR.list_ (by decide +kernel) rfl) pa_nil))) (pe_one (pe_prm c_law_same (hr.mono (by decide)) (by rfl) pass0 (pa_cons (pe_callTy call_tupK (by rfl) FR.tuple_ (by decide +kernel) (pa_cons (pv 0) pa_nil)) (pa_cons (pe_tup (pa_cons pe_str (pa_cons (pv 1) (pa_cons (pe_un un_neg pe_int) pa_nil)))) pa_nil))))))) pss_nil)
      (pss_one (ps_ret (pe_prm c_law_same (hr.mono (by decide)) (by rfl) pass0 (pa_cons (pv 0) (pa_cons (pv 2) pa_nil))))))

/-! ### _law_bounds_hold -/
abbrev s_law_bounds_hold : Stmt := topS 65
abbrev N_law_bounds_hold : List Str := ["_law_pool_here", "_law_circuit_here", "_law_ground_here", "_law_which", "_law_most", "_law_scale_here", "_law_word", "_law_due", "_law_turn"]
abbrev P_law_bounds_hold : List Str := ["_law_pool_here", "_law_circuit_here"]
theorem sc_law_bounds_hold : FnScope N_law_bounds_hold P_law_bounds_hold (defScope s_law_bounds_hold) := ⟨rfl, rfl, rfl, by decide +kernel, rfl, by decide +kernel, by decide +kernel⟩
def t_law_bounds_hold (K : PySem.W.Frag) : TS :=
    (tSeq (tAsg (tCall (SpG K Pre0 PostAny) [] E0 (tCons (tVar 0) tNil)) (gName 2))
    (tSeq (tAsg (tCall (SpG K PrePick PostPick) [] E0 (tCons (tVar 0) (tCons (tC (.int 2)) tNil))) (gName 3))
    (tSeq (tAsg (tOp (rI0 fun i j => .int (i - j)) (tC (.int 6)) (tOp (rI CMul fun i j => .int (i * j)) (tC (.int 2)) (tVar 3))) (gName 4))
    (tSeq (tAsg (tCall (SpG K PreScale PostScale) [] E0 (tCons (tVar 0) (tCons (tVar 4) tNil))) (gName 5))
    (tSeq (tAsg (tC (.str "")) (gName 6))
    (tSeq (tAsg (tC .non) (gName 7))
    (tSeq (tIfS (tNot (tB (tCall (SpR K (R1B isBase)) [] E0 (tCons (tVar 2) tNil)))) (tAsg (tC (.str "base")) (gName 6)) (tIfS (tOr (tNot (tB (tCall (SpR K (R1B isI)) [] E0 (tCons (tVar 5) tNil)))) (tOr (tTest (tOp (rI0 fun i j => .bl (decide (i < j))) (tVar 5) (tC (.int 1)))) (tTest (tOp (rI0 fun i j => .bl (decide (j < i))) (tVar 5) (tVar 4))))) (tAsg (tOp (rIx K) (tTup (tCons (tC (.str "strength")) (tCons (tC (.str "size")) tNil))) (tVar 3)) (gName 6)) (tSeq (tAsg (tCall (SpR K Rraised) [] E0 (tCons (tVar 2) (tCons (tOp (rI CMul fun i j => .int (i * j)) (tC (.int 2)) (tVar 5)) tNil))) (gName 7))
    (tAsg (tTup (tCons (tVar 7) (tCons (tOp (rI CMul fun i j => .int (i * j)) (tVar 7) (tVar 2)) tNil))) (gName 7)))))
    (tSeq (tFor (iTup K (tTup (tCons (tC (.int 0)) (tCons (tC (.int 5)) tNil)))) (gName 8) (tIfS (tNot (tB (tCall (SpR K Rmeets) [] E0 (tCons (tCall (SpR K Rheard) [] E0 (tCons (tOp (rI0 fun i j => .int (i + j)) (tVar 3) (tVar 8)) (tCons (tVar 1) (tCons (tTup (tCons (tVar 2) (tCons (tVar 5) tNil))) tNil)))) (tCons (tVar 6) (tCons (tVar 7) tNil)))))) (tRet (tC (.bl false))) tNext))
    (tRet (tC (.bl true)))))))))))
theorem dv_law_bounds_hold {P : Program} {w : World} {K : PySem.W.Frag} {mg : Str → Option Value} {base : Heap} {f : Addr} {cdv : Value} {A : Around} {outer : List Env} {s : Shared} {H : Hp} {E : XK} (FR : Free mg) (c_law_any_ground : Prm P w K mg base CX0 3 "_law_any_ground" P_law_any_ground (SpG K Pre0 PostAny)) (c_law_pick : Prm P w K mg base CX0 1 "_law_pick" P_law_pick (SpG K PrePick PostPick)) (c_law_scale : Prm P w K mg base CX0 2 "_law_scale" P_law_scale (SpG K PreScale PostScale)) (c_law_is_ground : Prm P w K mg base CX0 2 "_law_is_ground" P_law_is_ground (SpR K (R1B isBase))) (c_law_is_number : Prm P w K mg base CX0 1 "_law_is_number" P_law_is_number (SpR K (R1B isI))) (c_law_raised : Prm P w K mg base CX0 1 "_law_raised" P_law_raised (SpR K Rraised)) (c_law_meets : Prm P w K mg base CX0 4 "_law_meets" P_law_meets (SpR K Rmeets)) (c_law_heard : Prm P w K mg base CX0 7 "_law_heard" P_law_heard (SpR K Rheard))
    (hr : Room 7 (A.deeper (envOfC "_law_bounds_hold" (defScope s_law_bounds_hold) s.heap.objs.size f cdv))) :
    PSs (cxOf CX0 P w K mg base N_law_bounds_hold "_law_bounds_hold" (defScope s_law_bounds_hold) f cdv A outer s H E).nox (defBody s_law_bounds_hold) (t_law_bounds_hold K) := by
  unfold t_law_bounds_hold
  exact (pss_cons (ps_set (i := 2) sc_law_bounds_hold.nd rfl (by first | exact Or.inl rfl | exact Or.inr rfl) (pe_prm c_law_any_ground (hr.mono (by decide)) (by rfl) pass0 (pa_cons (pv 0) pa_nil)))
      (pss_cons (ps_set (i := 3) sc_law_bounds_hold.nd rfl (by first | exact Or.inl rfl | exact Or.inr rfl) (pe_prm c_law_pick (hr.mono (by decide)) (by rfl) pass0 (pa_cons (pv 0) (pa_cons pe_int pa_nil))))
      (pss_cons (ps_set (i := 4) sc_law_bounds_hold.nd rfl (by first | exact Or.inl rfl | exact Or.inr rfl) (pe_op op_sub pe_int (pe_op op_mul pe_int (pv 3))))
      (pss_cons (ps_set (i := 5) sc_law_bounds_hold.nd rfl (by first | exact Or.inl rfl | exact Or.inr rfl) (pe_prm c_law_scale (hr.mono (by decide)) (by rfl) pass0 (pa_cons (pv 0) (pa_cons (pv 4) pa_nil))))
      (pss_cons (ps_set (i := 6) sc_law_bounds_hold.nd rfl (by first | exact Or.inl rfl | exact Or.inr rfl) pe_str)
      (pss_cons (ps_set (i := 7) sc_law_bounds_hold.nd rfl (by first | exact Or.inl rfl | exact Or.inr rfl) pe_non)
      (pss_cons (ps_if (pt_not (pt_val (pe_prm c_law_is_ground (hr.mono (by decide)) (by rfl) pass0 (pa_cons (pv 2) pa_nil)))) (pss_one (ps_set (i := 6) sc_law_bounds_hold.nd rfl (by first | exact Or.inl rfl | exact Or.inr rfl) pe_str)) (pss_one (ps_if (PW.pt (pw_or (pt_not (pt_val (pe_prm c_law_is_number (hr.mono (by decide)) (by rfl) pass0 (pa_cons (pv 5) pa_nil)))) (pw_or (pt_cmpR op_lt (pv 5) pe_int (nomark _)) (pw_or1 (pt_cmpR op_gt (pv 5) (pv 4) (nomark _)))))) (pss_one (ps_set (i := 6) sc_law_bounds_hold.nd rfl (by first | exact Or.inl rfl | exact Or.inr rfl) (pe_ix ix_seq (pe_tup (pa_cons pe_str (pa_cons pe_str pa_nil))) (pv 3) (fun _ _ => rfl)))) (pss_cons (ps_set (i := 7) sc_law_bounds_hold.nd rfl (by first | exact Or.inl rfl | exact Or.inr rfl) (pe_prm c_law_raised (hr.mono (by decide)) (by rfl) pass0 (pa_cons (pv 2) (pa_cons (pe_op op_mul pe_int (pv 5)) pa_nil))))
      (pss_one (ps_set (i := 7) sc_law_bounds_hold.nd rfl (by first | exact Or.inl rfl | exact Or.inr rfl) (pe_tup (pa_cons (pv 7) (pa_cons (pe_op op_mul (pv 7) (pv 2)) pa_nil)))))))))
      (pss_cons (ps_for PassesOwn.never rfl (pi_tup (pe_tup (pa_cons pe_int (pa_cons pe_int pa_nil)))) (pg_name (i := 8) sc_law_bounds_hold.nd rfl (by first | exact Or.inl rfl | exact Or.inr rfl)) (pss_one (ps_if (pt_not (pt_val (pe_prm c_law_meets (hr.mono (by decide)) (by rfl) pass0 (pa_cons (pe_prm c_law_heard (hr.mono (by decide)) (by rfl) pass0 (pa_cons (pe_op op_add (pv 3) (pv 8)) (pa_cons (pv 1) (pa_cons (pe_tup (pa_cons (pv 2) (pa_cons (pv 5) pa_nil))) pa_nil)))) (pa_cons (pv 6) (pa_cons (pv 7) pa_nil)))))) (pss_one (ps_ret pe_bl)) pss_nil)))
      (pss_one (ps_ret pe_bl))))))))))

/-! ### _law_by_hand -/
abbrev s_law_by_hand : Stmt := topS 68
abbrev N_law_by_hand : List Str := ["_law_circuit_here", "_law_loads", "_law_told"]
abbrev P_law_by_hand : List Str := []
theorem sc_law_by_hand : FnScope N_law_by_hand P_law_by_hand (defScope s_law_by_hand) := ⟨rfl, rfl, rfl, by decide +kernel, rfl, by decide +kernel, by decide +kernel⟩
def t_law_by_hand (K : PySem.W.Frag) (C : Addr) : TS :=
    (tSeq (tAsg (tTup (tCons (tTup (tCons (tC (.str "low")) (tCons (tC (.str "high")) tNil))) (tCons (tTup (tCons (tTup (tCons (tC (.str "p")) (tCons (tC (.int 2)) tNil))) tNil)) (tCons (tTup (tCons (tTup (tCons (tC (.str "tie")) (tCons (tC (.int 1)) (tCons (tUn (rU fun i => .int (-i)) (tC (.int 1))) (tCons (tC (.int 1)) (tCons (tC (.int 2)) tNil)))))) tNil)) tNil)))) (gName 0))
    (tSeq (tAsg (tTup (tCons (tTup (tCons (tC (.int 0)) (tCons (tC (.int 1)) tNil))) (tCons (tTup (tCons (tC (.int 1)) (tCons (tC (.int 1)) tNil))) (tCons (tTup (tCons (tC (.int 1)) (tCons (tC (.int 2)) tNil))) tNil)))) (gName 1))
    (tSeq (tIfS (tTest (tOp (rNotN) (tCall (SpX K C Rwf) [] E0 (tCons (tVar 0) (tCons (tTup (tCons (tC (.int 1)) tNil)) (tCons (tTup (tCons (tC (.int 0)) (tCons (tC (.int 1)) (tCons (tC (.int 2)) tNil)))) (tCons (tTup (tCons (tC (.int 3)) (tCons (tTup (tCons (tTup (tCons (tC (.int 27)) (tCons (tC (.int 1)) tNil))) tNil)) (tCons (tTup (tCons (tTup (tCons (tC (.int 81)) (tCons (tC (.int 1)) tNil))) tNil)) (tCons (tVar 1) tNil))))) (tCons (tTup (tCons (tC (.int 0)) (tCons (tC (.int 1)) tNil))) tNil)))))) (tC .non))) (tRet (tC (.bl false))) tNext)
    (tSeq (tIfS (tTest (tOp (rNotN) (tCall (SpX K C Rwf) [] E0 (tCons (tVar 0) (tCons (tTup (tCons (tC (.int 1)) tNil)) (tCons (tTup (tCons (tC (.int 0)) (tCons (tC (.int 1)) (tCons (tC (.int 1)) tNil)))) (tCons (tTup (tCons (tC (.int 3)) (tCons (tTup (tCons (tTup (tCons (tC (.int 9)) (tCons (tC (.int 1)) tNil))) tNil)) (tCons (tTup (tCons (tTup (tCons (tC (.int 243)) (tCons (tC (.int 1)) tNil))) tNil)) (tCons (tVar 1) tNil))))) (tCons (tTup (tCons (tC (.int 1)) (tCons (tC (.int 2)) tNil))) tNil)))))) (tC .non))) (tRet (tC (.bl false))) tNext)
    (tSeq (tAsg (tCall (SpX K C Rwf) [] E0 (tCons (tVar 0) (tCons (tTup (tCons (tC (.int 1)) tNil)) (tCons (tTup (tCons (tC (.int 0)) (tCons (tC (.int 1)) (tCons (tC (.int 1)) tNil)))) (tCons (tTup (tCons (tC (.int 3)) (tCons (tTup (tCons (tTup (tCons (tC (.int 9)) (tCons (tC (.int 1)) tNil))) tNil)) (tCons (tTup (tCons (tTup (tCons (tC (.int 243)) (tCons (tC (.int 1)) tNil))) tNil)) (tCons (tVar 1) tNil))))) (tCons (tTup (tCons (tC (.int 1)) (tCons (tC (.int 3)) tNil))) tNil)))))) (gName 2))
    (tSeq (tIfS (tNot (tB (tCall (SpR K Rsame) [] E0 (tCons (tVar 2) (tCons (tTup (tCons (tC (.str "charge")) (tCons (tC (.int 2)) tNil))) tNil))))) (tRet (tC (.bl false))) tNext)
    (tSeq (tAsg (tCall (SpX K C Rwf) [] E0 (tCons (tVar 0) (tCons (tTup (tCons (tC (.int 1)) tNil)) (tCons (tTup (tCons (tC (.int 0)) (tCons (tC (.int 1)) (tCons (tC (.int 0)) tNil)))) (tCons (tTup (tCons (tC (.int 3)) (tCons (tTup (tCons (tTup (tCons (tC (.int 28)) (tCons (tC (.int 1)) tNil))) tNil)) (tCons (tTup (tCons (tTup (tCons (tC (.int 80)) (tCons (tC (.int 1)) tNil))) tNil)) (tCons (tVar 1) tNil))))) (tCons (tTup (tCons (tC (.int 0)) (tCons (tC (.int 1)) tNil))) tNil)))))) (gName 2))
    (tSeq (tIfS (tNot (tB (tCall (SpR K Rsame) [] E0 (tCons (tVar 2) (tCons (tTup (tCons (tC (.str "flow")) (tCons (tC (.int 0)) tNil))) tNil))))) (tRet (tC (.bl false))) tNext)
    (tSeq (tAsg (tCall (SpX K C Rwf) [] E0 (tCons (tVar 0) (tCons (tTup (tCons (tC (.int 1)) tNil)) (tCons (tTup (tCons (tC (.int 0)) (tCons (tC (.int 1)) (tCons (tC (.int 0)) tNil)))) (tCons (tTup (tCons (tC (.int 3)) (tCons (tTup (tCons (tTup (tCons (tC (.int 9)) (tCons (tC (.int 1)) tNil))) tNil)) (tCons (tTup (tCons (tTup (tCons (tC (.int 244)) (tCons (tC (.int 1)) tNil))) tNil)) (tCons (tVar 1) tNil))))) (tCons (tTup (tCons (tC (.int 0)) (tCons (tC (.int 1)) tNil))) tNil)))))) (gName 2))
    (tRet (tAndV (tCall (SpR K Rsame) [] E0 (tCons (tVar 2) (tCons (tTup (tCons (tC (.str "room")) (tCons (tC (.int 0)) tNil))) tNil))) (tCall (SpR K Rsame) [] E0 (tCons (tCall (SpX K C Rfb) [] E0 (tCons (tC (.int 10)) (tCons (tC (.int 2)) tNil))) (tCons (tTup (tCons (tC (.int 10000)) (tCons (tC (.int 100000)) tNil))) tNil))))))))))))))
theorem dv_law_by_hand {P : Program} {w : World} {K : PySem.W.Frag} {mg : Str → Option Value} {base : Heap} {f : Addr} {cdv : Value} {A : Around} {outer : List Env} {s : Shared} {H : Hp} {E : XK} {C : Addr} (FR : Free mg) (c_world_fault : Prm P w K mg base (L2.CX P w) 6 "world_fault" P_world_fault (SpX K C Rwf)) (c_law_same : Prm P w K mg base CX0 3 "_law_same" P_law_same (SpR K Rsame)) (c_flow_bounds : Prm P w K mg base (L2.CX P w) 5 "flow_bounds" P_flow_bounds (SpX K C Rfb))
    (hr : Room 6 (A.deeper (envOfC "_law_by_hand" (defScope s_law_by_hand) s.heap.objs.size f cdv))) :
    PSs (cxOf CX0 P w K mg base N_law_by_hand "_law_by_hand" (defScope s_law_by_hand) f cdv A outer s H E).nox (defBody s_law_by_hand) (t_law_by_hand K C) := by
  unfold t_law_by_hand
  exact (pss_cons (ps_set (i := 0) sc_law_by_hand.nd rfl (by first | exact Or.inl rfl | exact Or.inr rfl) (pe_tup (pa_cons (pe_tup (pa_cons pe_str (pa_cons pe_str pa_nil))) (pa_cons (pe_tup (pa_cons (pe_tup (pa_cons pe_str (pa_cons pe_int pa_nil))) pa_nil)) (pa_cons (pe_tup (pa_cons (pe_tup (pa_cons pe_str (pa_cons pe_int (pa_cons (pe_un un_neg pe_int) (pa_cons pe_int (pa_cons pe_int pa_nil)))))) pa_nil)) pa_nil)))))
      (pss_cons (ps_set (i := 1) sc_law_by_hand.nd rfl (by first | exact Or.inl rfl | exact Or.inr rfl) (pe_tup (pa_cons (pe_tup (pa_cons pe_int (pa_cons pe_int pa_nil))) (pa_cons (pe_tup (pa_cons pe_int (pa_cons pe_int pa_nil))) (pa_cons (pe_tup (pa_cons pe_int (pa_cons pe_int pa_nil))) pa_nil)))))
      (pss_cons (ps_if (pt_cmpR op_notNK (pe_prm c_world_fault (hr.mono (by decide)) (by rfl) passL (pa_cons (pv 0) (pa_cons (pe_tup (pa_cons pe_int pa_nil)) (pa_cons (pe_tup (pa_cons pe_int (pa_cons pe_int (pa_cons pe_int pa_nil)))) (pa_cons (pe_tup (pa_cons pe_int (pa_cons (pe_tup (pa_cons (pe_tup (pa_cons pe_int (pa_cons pe_int pa_nil))) pa_nil)) (pa_cons (pe_tup (pa_cons (pe_tup (pa_cons pe_int (pa_cons pe_int pa_nil))) pa_nil)) (pa_cons (pv 1) pa_nil))))) (pa_cons (pe_tup (pa_cons pe_int (pa_cons pe_int pa_nil))) pa_nil)))))) pe_non (nomark _)) (pss_one (ps_ret pe_bl)) pss_nil)
      (pss_cons (ps_if (pt_cmpR op_notNK (pe_prm c_world_fault (hr.mono (by decide)) (by rfl) passL (pa_cons (pv 0) (pa_cons (pe_tup (pa_cons pe_int pa_nil)) (pa_cons (pe_tup (pa_cons pe_int (pa_cons pe_int (pa_cons pe_int pa_nil)))) (pa_cons (pe_tup (pa_cons pe_int (pa_cons (pe_tup (pa_cons (pe_tup (pa_cons pe_int (pa_cons pe_int pa_nil))) pa_nil)) (pa_cons (pe_tup (pa_cons (pe_tup (pa_cons pe_int (pa_cons pe_int pa_nil))) pa_nil)) (pa_cons (pv 1) pa_nil))))) (pa_cons (pe_tup (pa_cons pe_int (pa_cons pe_int pa_nil))) pa_nil)))))) pe_non (nomark _)) (pss_one (ps_ret pe_bl)) pss_nil)
      (pss_cons (ps_set (i := 2) sc_law_by_hand.nd rfl (by first | exact Or.inl rfl | exact Or.inr rfl) (pe_prm c_world_fault (hr.mono (by decide)) (by rfl) passL (pa_cons (pv 0) (pa_cons (pe_tup (pa_cons pe_int pa_nil)) (pa_cons (pe_tup (pa_cons pe_int (pa_cons pe_int (pa_cons pe_int pa_nil)))) (pa_cons (pe_tup (pa_cons pe_int (pa_cons (pe_tup (pa_cons (pe_tup (pa_cons pe_int (pa_cons pe_int pa_nil))) pa_nil)) (pa_cons (pe_tup (pa_cons (pe_tup (pa_cons pe_int (pa_cons pe_int pa_nil))) pa_nil)) (pa_cons (pv 1) pa_nil))))) (pa_cons (pe_tup (pa_cons pe_int (pa_cons pe_int pa_nil))) pa_nil)))))))
      (pss_cons (ps_if (pt_not (pt_val (pe_prm c_law_same (hr.mono (by decide)) (by rfl) pass0 (pa_cons (pv 2) (pa_cons (pe_tup (pa_cons pe_str (pa_cons pe_int pa_nil))) pa_nil))))) (pss_one (ps_ret pe_bl)) pss_nil)
      (pss_cons (ps_set (i := 2) sc_law_by_hand.nd rfl (by first | exact Or.inl rfl | exact Or.inr rfl) (pe_prm c_world_fault (hr.mono (by decide)) (by rfl) passL (pa_cons (pv 0) (pa_cons (pe_tup (pa_cons pe_int pa_nil)) (pa_cons (pe_tup (pa_cons pe_int (pa_cons pe_int (pa_cons pe_int pa_nil)))) (pa_cons (pe_tup (pa_cons pe_int (pa_cons (pe_tup (pa_cons (pe_tup (pa_cons pe_int (pa_cons pe_int pa_nil))) pa_nil)) (pa_cons (pe_tup (pa_cons (pe_tup (pa_cons pe_int (pa_cons pe_int pa_nil))) pa_nil)) (pa_cons (pv 1) pa_nil))))) (pa_cons (pe_tup (pa_cons pe_int (pa_cons pe_int pa_nil))) pa_nil)))))))
      (pss_cons (ps_if (pt_not (pt_val (pe_prm c_law_same (hr.mono (by decide)) (by rfl) pass0 (pa_cons (pv 2) (pa_cons (pe_tup (pa_cons pe_str (pa_cons pe_int pa_nil))) pa_nil))))) (pss_one (ps_ret pe_bl)) pss_nil)
      (pss_cons (ps_set (i := 2) sc_law_by_hand.nd rfl (by first | exact Or.inl rfl | exact Or.inr rfl) (pe_prm c_world_fault (hr.mono (by decide)) (by rfl) passL (pa_cons (pv 0) (pa_cons (pe_tup (pa_cons pe_int pa_nil)) (pa_cons (pe_tup (pa_cons pe_int (pa_cons pe_int (pa_cons pe_int pa_nil)))) (pa_cons (pe_tup (pa_cons pe_int (pa_cons (pe_tup (pa_cons (pe_tup (pa_cons pe_int (pa_cons pe_int pa_nil))) pa_nil)) (pa_cons (pe_tup (pa_cons (pe_tup (pa_cons pe_int (pa_cons pe_int pa_nil))) pa_nil)) (pa_cons (pv 1) pa_nil))))) (pa_cons (pe_tup (pa_cons pe_int (pa_cons pe_int pa_nil))) pa_nil)))))))
      (pss_one (ps_ret (pe_and (pe_prm c_law_same (hr.mono (by decide)) (by rfl) pass0 (pa_cons (pv 2) (pa_cons (pe_tup (pa_cons pe_str (pa_cons pe_int pa_nil))) pa_nil))) (pe_one (pe_prm c_law_same (hr.mono (by decide)) (by rfl) pass0 (pa_cons (pe_prm c_flow_bounds (hr.mono (by decide)) (by rfl) passL (pa_cons pe_int (pa_cons pe_int pa_nil))) (pa_cons (pe_tup (pa_cons pe_int (pa_cons pe_int pa_nil))) pa_nil))))))))))))))))

end Ky
set_option Elab.async false
set_option linter.all false
set_option maxRecDepth 100000
set_option maxHeartbeats 4000000
namespace Ky
open PySem PySem.Spec PyProof.Rows L2
/-! ### _law_odd_alone -/
abbrev s_law_odd_alone : Stmt := topS 66
abbrev N_law_odd_alone : List Str := ["_law_circuit_here", "_law_items", "_law_cases", "_law_odd", "_law_k", "_law_case", "_law_told", "_law_loads"]
abbrev P_law_odd_alone : List Str := ["_law_circuit_here", "_law_items"]
theorem sc_law_odd_alone : FnScope N_law_odd_alone P_law_odd_alone (defScope s_law_odd_alone) := ⟨rfl, rfl, rfl, by decide +kernel, rfl, by decide +kernel, by decide +kernel⟩
def t_law_odd_alone (K : PySem.W.Frag) : TS :=
    (tSeq (tAsg (tLst tNil) (gName 2))
    (tSeq (tFor (iTup K (tTup (tCons (tCB (Evl.rListS K) (tCons (tOp (rIx K) (tVar 1) (tC (.int 0))) tNil)) (tCons (tOp (rCatA K) (tOp (rIx K) (tVar 1) (tC (.int 0))) (tTup (tCons (tC (.int 1)) tNil))) (tCons (tC .non) (tCons (tC (.int 1)) (tCons (tOp (rCatA K) (tSl (rSlA K) (tOp (rIx K) (tVar 1) (tC (.int 0))) tNoPart (tPart (tCB (Evl.rMax2) (tCons (tC (.int 0)) (tCons (tOp (rI0 fun i j => .int (i - j)) (tCB (Evl.rLenS K) (tCons (tOp (rIx K) (tVar 1) (tC (.int 0))) tNil)) (tC (.int 1))) tNil))))) (tTup (tCons (tC (.int 3)) tNil))) (tCons (tC (.str "1")) tNil)))))))) (gName 3) (tDrop (tBM K "list" rAppend (tVar 2) (tCons (tTup (tCons (tC (.str "positions")) (tCons (tTup (tCons (tVar 3) (tCons (tOp (rIx K) (tVar 1) (tC (.int 1))) (tCons (tOp (rIx K) (tVar 1) (tC (.int 2))) (tCons (tOp (rIx K) (tVar 1) (tC (.int 3))) tNil))))) tNil))) tNil))))
    (tSeq (tFor (iRng1 (tCons (tCB (Evl.rLenS K) (tCons (tOp (rIx K) (tVar 1) (tC (.int 0))) tNil)) tNil)) (gName 4) (tFor (iTup K (tTup (tCons (tC (.int 0)) (tCons (tC (.int 2)) tNil)))) (gName 3) (tIfS (tTest (tOp (rEqD K) (tOp (rIx K) (tOp (rIx K) (tOp (rIx K) (tVar 0) (tC (.int 2))) (tVar 4)) (tC (.int 0))) (tC (.str "tie")))) (tDrop (tBM K "list" rAppend (tVar 2) (tCons (tTup (tCons (tC (.str "positions")) (tCons (tTup (tCons (tOp (rCatA K) (tOp (rCatA K) (tSl (rSlA K) (tOp (rIx K) (tVar 1) (tC (.int 0))) tNoPart (tPart (tVar 4))) (tTup (tCons (tVar 3) tNil))) (tSl (rSlA K) (tOp (rIx K) (tVar 1) (tC (.int 0))) (tPart (tOp (rI0 fun i j => .int (i + j)) (tVar 4) (tC (.int 1)))) tNoPart)) (tCons (tOp (rIx K) (tVar 1) (tC (.int 1))) (tCons (tOp (rIx K) (tVar 1) (tC (.int 2))) (tCons (tOp (rIx K) (tVar 1) (tC (.int 3))) tNil))))) tNil))) tNil))) tNext)))
    (tSeq (tFor (iTup K (tTup (tCons (tOp (rCatA K) (tTup (tCons (tC (.int 1)) tNil)) (tSl (rSlA K) (tOp (rIx K) (tVar 1) (tC (.int 1))) (tPart (tC (.int 1))) tNoPart)) (tCons (tOp (rCatA K) (tTup (tCons (tC (.int 0)) (tCons (tC (.int 2)) tNil))) (tSl (rSlA K) (tOp (rIx K) (tVar 1) (tC (.int 1))) (tPart (tC (.int 2))) tNoPart)) (tCons (tSl (rSlA K) (tOp (rIx K) (tVar 1) (tC (.int 1))) tNoPart (tPart (tC (.int 1)))) (tCons (tCB (Evl.rListS K) (tCons (tOp (rIx K) (tVar 1) (tC (.int 1))) tNil)) (tCons (tOp (rCatA K) (tOp (rIx K) (tVar 1) (tC (.int 1))) (tTup (tCons (tC (.int 0)) tNil))) (tCons (tC .non) tNil)))))))) (gName 3) (tDrop (tBM K "list" rAppend (tVar 2) (tCons (tTup (tCons (tC (.str "held")) (tCons (tTup (tCons (tOp (rIx K) (tVar 1) (tC (.int 0))) (tCons (tVar 3) (tCons (tOp (rIx K) (tVar 1) (tC (.int 2))) (tCons (tOp (rIx K) (tVar 1) (tC (.int 3))) tNil))))) tNil))) tNil))))
    (tSeq (tFor (iTup K (tTup (tCons (tC (.int 1)) (tCons (tC (.int 0)) (tCons (tUn (rU fun i => .int (-i)) (tC (.int 2))) (tCons (tC (.bl true)) (tCons (tC .non) (tCons (tC (.str "2")) (tCons (tTup (tCons (tC (.int 2)) tNil)) (tCons (tLst (tCons (tC (.int 2)) tNil)) tNil)))))))))) (gName 3) (tDrop (tBM K "list" rAppend (tVar 2) (tCons (tTup (tCons (tC (.str "world")) (tCons (tTup (tCons (tOp (rIx K) (tVar 1) (tC (.int 0))) (tCons (tOp (rIx K) (tVar 1) (tC (.int 1))) (tCons (tOp (rCatA K) (tTup (tCons (tVar 3) tNil)) (tSl (rSlA K) (tOp (rIx K) (tVar 1) (tC (.int 2))) (tPart (tC (.int 1))) tNoPart)) (tCons (tOp (rIx K) (tVar 1) (tC (.int 3))) tNil))))) tNil))) tNil))))
    (tSeq (tFor (iTup K (tTup (tCons (tTup (tCons (tUn (rU fun i => .int (-i)) (tC (.int 1))) (tCons (tC (.int 2)) tNil))) (tCons (tTup (tCons (tC (.int 2)) (tCons (tC (.int 4)) tNil))) (tCons (tTup (tCons (tC (.int 1)) (tCons (tC (.int 0)) tNil))) (tCons (tC (.int 0)) (tCons (tC .non) (tCons (tLst (tCons (tC (.int 0)) (tCons (tC (.int 1)) tNil))) (tCons (tTup (tCons (tC (.int 0)) (tCons (tC (.int 1)) (tCons (tC (.int 1)) tNil)))) (tCons (tTup (tCons (tC (.bl true)) (tCons (tC (.int 1)) tNil))) (tCons (tTup (tCons (tC (.int 0)) (tCons (tC (.bl true)) tNil))) (tCons (tTup (tCons (tC (.int 1)) (tCons (tUn (rU fun i => .int (-i)) (tC (.int 1))) tNil))) (tCons (tC (.str "0")) (tCons (tTup tNil) tNil)))))))))))))) (gName 3) (tDrop (tBM K "list" rAppend (tVar 2) (tCons (tTup (tCons (tC (.str "slack")) (tCons (tTup (tCons (tOp (rIx K) (tVar 1) (tC (.int 0))) (tCons (tOp (rIx K) (tVar 1) (tC (.int 1))) (tCons (tOp (rIx K) (tVar 1) (tC (.int 2))) (tCons (tVar 3) tNil))))) tNil))) tNil))))
    (tSeq (tFor (iList K (tVar 2)) (gName 5) (tSeq (tAsg (tCall (SpR K Rheard) [] E0 (tCons (tC (.int 4)) (tCons (tVar 0) (tCons (tOp (rIx K) (tVar 5) (tC (.int 1))) tNil)))) (gName 6))
    (tSeq (tIfS (tOr (tNot (tB (tCB (rIsi K) (tCons (tVar 6) (tCons (tC (.ty "list")) tNil))))) (tNot (tB (tCall (SpR K Rsame) [] E0 (tCons (tCB (rTupS K) (tCons (tVar 6) tNil)) (tCons (tTup (tCons (tC (.str "refused")) (tCons (tOp (rIx K) (tVar 5) (tC (.int 0))) (tCons (tUn (rU fun i => .int (-i)) (tC (.int 1))) tNil)))) tNil)))))) (tRet (tC (.bl false))) tNext)
    (tIfS (tAnd (tTest (tOp (rEqD K) (tOp (rIx K) (tVar 5) (tC (.int 0))) (tC (.str "world")))) (tTest (tOp (rNotB) (tCall (SpR K Rworld) [] E0 (tCons (tVar 0) (tCons (tOp (rIx K) (tOp (rIx K) (tVar 5) (tC (.int 1))) (tC (.int 2))) tNil))) (tC (.bl false))))) (tRet (tC (.bl false))) tNext))))
    (tSeq (tFor (iRng1 (tCons (tCB (Evl.rLenS K) (tCons (tOp (rIx K) (tVar 1) (tC (.int 1))) tNil)) tNil)) (gName 4) (tFor (iTup K (tTup (tCons (tTup (tCons (tUn (rU fun i => .int (-i)) (tC (.int 1))) (tCons (tC (.int 7)) tNil))) (tCons (tTup (tCons (tC (.int 8)) (tCons (tC (.int 7)) tNil))) (tCons (tTup (tCons (tC (.int 2)) (tCons (tC (.int 2)) tNil))) (tCons (tTup (tCons (tC (.int 0)) (tCons (tC (.int 0)) tNil))) (tCons (tC (.int 1)) (tCons (tLst (tCons (tC (.int 0)) (tCons (tC (.int 1)) tNil))) tNil)))))))) (gName 3) (tSeq (tAsg (tOp (rCatA K) (tOp (rCatA K) (tSl (rSlA K) (tOp (rIx K) (tOp (rIx K) (tVar 1) (tC (.int 2))) (tC (.int 3))) tNoPart (tPart (tVar 4))) (tTup (tCons (tVar 3) tNil))) (tSl (rSlA K) (tOp (rIx K) (tOp (rIx K) (tVar 1) (tC (.int 2))) (tC (.int 3))) (tPart (tOp (rI0 fun i j => .int (i + j)) (tVar 4) (tC (.int 1)))) tNoPart)) (gName 7))
    (tIfS (tTest (tOp (rNotB) (tCall (SpR K Rworld) [] E0 (tCons (tVar 0) (tCons (tOp (rCatA K) (tSl (rSlA K) (tOp (rIx K) (tVar 1) (tC (.int 2))) tNoPart (tPart (tC (.int 3)))) (tTup (tCons (tVar 7) tNil))) tNil))) (tC (.bl false)))) (tRet (tC (.bl false))) tNext))))
    (tRet (tC (.bl true)))))))))))
theorem dv_law_odd_alone {P : Program} {w : World} {K : PySem.W.Frag} {mg : Str → Option Value} {base : Heap} {f : Addr} {cdv : Value} {A : Around} {outer : List Env} {s : Shared} {H : Hp} {E : XK} (FR : Free mg) (c_law_heard : Prm P w K mg base CX0 7 "_law_heard" P_law_heard (SpR K Rheard)) (c_law_same : Prm P w K mg base CX0 3 "_law_same" P_law_same (SpR K Rsame)) (c_is_world : Prm P w K mg base CX0 5 "is_world" P_is_world (SpR K Rworld))
    (hr : Room 7 (A.deeper (envOfC "_law_odd_alone" (defScope s_law_odd_alone) s.heap.objs.size f cdv))) :
    PSs (cxOf CX0 P w K mg base N_law_odd_alone "_law_odd_alone" (defScope s_law_odd_alone) f cdv A outer s H E).nox (defBody s_law_odd_alone) (t_law_odd_alone K) := by
  unfold t_law_odd_alone
  exact (pss_cons (ps_set (i := 2) sc_law_odd_alone.nd rfl (by first | exact Or.inl rfl | exact Or.inr rfl) (pe_lst pa_nil))
      (pss_cons (ps_for PassesOwn.never rfl (pi_tup (pe_tup (pa_cons (pe_callTy call_listK (by rfl) FR.list_ (by decide +kernel) (pa_cons (pe_ix ix_seq (pv 1) pe_int (fun _ _ => rfl)) pa_nil)) (pa_cons (pe_op op_catA (pe_ix ix_seq (pv 1) pe_int (fun _ _ => rfl)) (pe_tup (pa_cons pe_int pa_nil))) (pa_cons pe_non (pa_cons pe_int (pa_cons (pe_op op_catA (pe_slice sl_tupA (pe_ix ix_seq (pv 1) pe_int (fun _ _ => rfl)) po_none (po_some (pe_callB (call_maxK rfl) (by rfl) FR.max_ (by decide +kernel) (pa_cons pe_int (pa_cons (pe_op op_sub (pe_callB call_lenK (by rfl) FR.len_ (by decide +kernel) (pa_cons (pe_ix ix_seq (pv 1) pe_int (fun _ _ => rfl)) pa_nil)) pe_int) pa_nil))))) (pe_tup (pa_cons pe_int pa_nil))) (pa_cons pe_str pa_nil)))))))) (pg_name (i := 3) sc_law_odd_alone.nd rfl (by first | exact Or.inl rfl | exact Or.inr rfl)) (pss_one (ps_expr (pe_bm PySem.F.plainAttrs_list PySem.F.slot_list_append PySem.F.type_list_append mt_append (pv 2) (pa_cons (pe_tup (pa_cons pe_str (pa_cons (pe_tup (pa_cons (pv 3) (pa_cons (pe_ix ix_seq (pv 1) pe_int (fun _ _ => rfl)) (pa_cons (pe_ix ix_seq (pv 1) pe_int (fun _ _ => rfl)) (pa_cons (pe_ix ix_seq (pv 1) pe_int (fun _ _ => rfl)) pa_nil))))) pa_nil))) pa_nil)))))
      (pss_cons (ps_for PassesOwn.never rfl (pi_range1 (by rfl) FR.range_ (pa_cons (pe_callB call_lenK (by rfl) FR.len_ (by decide +kernel) (pa_cons (pe_ix ix_seq (pv 1) pe_int (fun _ _ => rfl)) pa_nil)) pa_nil)) (pg_name (i := 4) sc_law_odd_alone.nd rfl (by first | exact Or.inl rfl | exact Or.inr rfl)) (pss_one (ps_for PassesOwn.never rfl (pi_tup (pe_tup (pa_cons pe_int (pa_cons pe_int pa_nil)))) (pg_name (i := 3) sc_law_odd_alone.nd rfl (by first | exact Or.inl rfl | exact Or.inr rfl)) (pss_one (ps_if (pt_cmpR (op_eqD hr.units) (pe_ix ix_seq (pe_ix ix_seq (pe_ix ix_seq (pv 0) pe_int (fun _ _ => rfl)) (pv 4) (fun _ _ => rfl)) pe_int (fun _ _ => rfl)) pe_str (nomark _)) (pss_one (ps_expr (pe_bm PySem.F.plainAttrs_list PySem.F.slot_list_append PySem.F.type_list_append mt_append (pv 2) (pa_cons (pe_tup (pa_cons pe_str (pa_cons (pe_tup (pa_cons (pe_op op_catA (pe_op op_catA (pe_slice sl_tupA (pe_ix ix_seq (pv 1) pe_int (fun _ _ => rfl)) po_none (po_some (pv 4))) (pe_tup (pa_cons (pv 3) pa_nil))) (pe_slice sl_tupA (pe_ix ix_seq (pv 1) pe_int (fun _ _ => rfl)) (po_some (pe_op op_add (pv 4) pe_int)) po_none)) (pa_cons (pe_ix ix_seq (pv 1) pe_int (fun _ _ => rfl)) (pa_cons (pe_ix ix_seq (pv 1) pe_int (fun _ _ => rfl)) (pa_cons (pe_ix ix_seq (pv 1) pe_int (fun _ _ => rfl)) pa_nil))))) pa_nil))) pa_nil)))) pss_nil)))))
      (pss_cons (ps_for PassesOwn.never rfl (pi_tup (pe_tup (pa_cons (pe_op op_catA (pe_tup (pa_cons pe_int pa_nil)) (pe_slice sl_tupA (pe_ix ix_seq (pv 1) pe_int (fun _ _ => rfl)) (po_some pe_int) po_none)) (pa_cons (pe_op op_catA (pe_tup (pa_cons pe_int (pa_cons pe_int pa_nil))) (pe_slice sl_tupA (pe_ix ix_seq (pv 1) pe_int (fun _ _ => rfl)) (po_some pe_int) po_none)) (pa_cons (pe_slice sl_tupA (pe_ix ix_seq (pv 1) pe_int (fun _ _ => rfl)) po_none (po_some pe_int)) (pa_cons (pe_callTy call_listK (by rfl) FR.list_ (by decide +kernel) (pa_cons (pe_ix ix_seq (pv 1) pe_int (fun _ _ => rfl)) pa_nil)) (pa_cons (pe_op op_catA (pe_ix ix_seq (pv 1) pe_int (fun _ _ => rfl)) (pe_tup (pa_cons pe_int pa_nil))) (pa_cons pe_non pa_nil)))))))) (pg_name (i := 3) sc_law_odd_alone.nd rfl (by first | exact Or.inl rfl | exact Or.inr rfl)) (pss_one (ps_expr (pe_bm PySem.F.plainAttrs_list PySem.F.slot_list_append PySem.F.type_list_append mt_append (pv 2) (pa_cons (pe_tup (pa_cons pe_str (pa_cons (pe_tup (pa_cons (pe_ix ix_seq (pv 1) pe_int (fun _ _ => rfl)) (pa_cons (pv 3) (pa_cons (pe_ix ix_seq (pv 1) pe_int (fun _ _ => rfl)) (pa_cons (pe_ix ix_seq (pv 1) pe_int (fun _ _ => rfl)) pa_nil))))) pa_nil))) pa_nil)))))
      (pss_cons (ps_for PassesOwn.never rfl (pi_tup (pe_tup (pa_cons pe_int (pa_cons pe_int (pa_cons (pe_un un_neg pe_int) (pa_cons pe_bl (pa_cons pe_non (pa_cons pe_str (pa_cons (pe_tup (pa_cons pe_int pa_nil)) (pa_cons (pe_lst (pa_cons pe_int pa_nil)) pa_nil)))))))))) (pg_name (i := 3) sc_law_odd_alone.nd rfl (by first | exact Or.inl rfl | exact Or.inr rfl)) (pss_one (ps_expr (pe_bm PySem.F.plainAttrs_list PySem.F.slot_list_append PySem.F.type_list_append mt_append (pv 2) (pa_cons (pe_tup (pa_cons pe_str (pa_cons (pe_tup (pa_cons (pe_ix ix_seq (pv 1) pe_int (fun _ _ => rfl)) (pa_cons (pe_ix ix_seq (pv 1) pe_int (fun _ _ => rfl)) (pa_cons (pe_op op_catA (pe_tup (pa_cons (pv 3) pa_nil)) (pe_slice sl_tupA (pe_ix ix_seq (pv 1) pe_int (fun _ _ => rfl)) (po_some pe_int) po_none)) (pa_cons (pe_ix ix_seq (pv 1) pe_int (fun _ _ => rfl)) pa_nil))))) pa_nil))) pa_nil)))))
      (pss_cons (ps_for PassesOwn.never rfl (pi_tup (pe_tup (pa_cons (pe_tup (pa_cons (pe_un un_neg pe_int) (pa_cons pe_int pa_nil))) (pa_cons (pe_tup (pa_cons pe_int (pa_cons pe_int pa_nil))) (pa_cons (pe_tup (pa_cons pe_int (pa_cons pe_int pa_nil))) (pa_cons pe_int (pa_cons pe_non (pa_cons (pe_lst (pa_cons pe_int (pa_cons pe_int pa_nil))) (pa_cons (pe_tup (pa_cons pe_int (pa_cons pe_int (pa_cons pe_int pa_nil)))) (pa_cons (pe_tup (pa_cons pe_bl (pa_cons pe_int pa_nil))) (pa_cons (pe_tup (pa_cons pe_int (pa_cons pe_bl pa_nil))) (pa_cons (pe_tup (pa_cons pe_int (pa_cons (pe_un un_neg pe_int) pa_nil))) (pa_cons pe_str (pa_cons (pe_tup pa_nil) pa_nil)))))))))))))) (pg_name (i := 3) sc_law_odd_alone.nd rfl (by first | exact Or.inl rfl | exact Or.inr rfl)) (pss_one (ps_expr (pe_bm PySem.F.plainAttrs_list PySem.F.slot_list_append PySem.F.type_list_append mt_append (pv 2) (pa_cons (pe_tup (pa_cons pe_str (pa_cons (pe_tup (pa_cons (pe_ix ix_seq (pv 1) pe_int (fun _ _ => rfl)) (pa_cons (pe_ix ix_seq (pv 1) pe_int (fun _ _ => rfl)) (pa_cons (pe_ix ix_seq (pv 1) pe_int (fun _ _ => rfl)) (pa_cons (pv 3) pa_nil))))) pa_nil))) pa_nil)))))
      (pss_cons (ps_for PassesOwn.never rfl (pi_list (pv 2)) (pg_name (i := 5) sc_law_odd_alone.nd rfl (by first | exact Or.inl rfl | exact Or.inr rfl)) (pss_cons (ps_set (i := 6) sc_law_odd_alone.nd rfl (by first | exact Or.inl rfl | exact Or.inr rfl) (pe_prm c_law_heard (hr.mono (by decide)) (by rfl) pass0 (pa_cons pe_int (pa_cons (pv 0) (pa_cons (pe_ix ix_seq (pv 5) pe_int (fun _ _ => rfl)) pa_nil)))))
      (pss_cons (ps_if (PW.pt (pw_or (pt_not (pt_val (pe_callB call_isi (by rfl) FR.isinstance_ (by decide +kernel) (pa_cons (pv 6) (pa_cons (pe_bltn (v := .ty "list") (by rfl) FR.list_ (by decide +kernel) rfl) pa_nil))))) (pw_or1 (pt_not (pt_val (pe_prm c_law_same (hr.mono (by decide)) (by rfl) pass0 (pa_cons (pe_callTy call_tupK (by rfl) FR.tuple_ (by decide +kernel) (pa_cons (pv 6) pa_nil)) (pa_cons (pe_tup (pa_cons pe_str (pa_cons (pe_ix ix_seq (pv 5) pe_int (fun _ _ => rfl)) (pa_cons (pe_un un_neg pe_int) pa_nil)))) pa_nil)))))))) (pss_one (ps_ret pe_bl)) pss_nil)
      (pss_one (ps_if (PW.pt (pw_and (pt_cmpR (op_eqD hr.units) (pe_ix ix_seq (pv 5) pe_int (fun _ _ => rfl)) pe_str (nomark _)) (pw_and1 (pt_cmpR op_notBl (pe_prm c_is_world (hr.mono (by decide)) (by rfl) pass0 (pa_cons (pv 0) (pa_cons (pe_ix ix_seq (pe_ix ix_seq (pv 5) pe_int (fun _ _ => rfl)) pe_int (fun _ _ => rfl)) pa_nil))) pe_bl (nomark _))))) (pss_one (ps_ret pe_bl)) pss_nil)))))
      (pss_cons (ps_for PassesOwn.never rfl (pi_range1 (by rfl) FR.range_ (pa_cons (pe_callB call_lenK (by rfl) FR.len_ (by decide +kernel) (pa_cons (pe_ix ix_seq (pv 1) pe_int (fun _ _ => rfl)) pa_nil)) pa_nil)) (pg_name (i := 4) sc_law_odd_alone.nd rfl (by first | exact Or.inl rfl | exact Or.inr rfl)) (pss_one (ps_for PassesOwn.never rfl (pi_tup (pe_tup (pa_cons (pe_tup (pa_cons (pe_un un_neg pe_int) (pa_cons pe_int pa_nil))) (pa_cons (pe_tup (pa_cons pe_int (pa_cons pe_int pa_nil))) (pa_cons (pe_tup (pa_cons pe_int (pa_cons pe_int pa_nil))) (pa_cons (pe_tup (pa_cons pe_int (pa_cons pe_int pa_nil))) (pa_cons pe_int (pa_cons (pe_lst (pa_cons pe_int (pa_cons pe_int pa_nil))) pa_nil)))))))) (pg_name (i := 3) sc_law_odd_alone.nd rfl (by first | exact Or.inl rfl | exact Or.inr rfl)) (pss_cons (ps_set (i := 7) sc_law_odd_alone.nd rfl (by first | exact Or.inl rfl | exact Or.inr rfl) (pe_op op_catA (pe_op op_catA (pe_slice sl_tupA (pe_ix ix_seq (pe_ix ix_seq (pv 1) pe_int (fun _ _ => rfl)) pe_int (fun _ _ => rfl)) po_none (po_some (pv 4))) (pe_tup (pa_cons (pv 3) pa_nil))) (pe_slice sl_tupA (pe_ix ix_seq (pe_ix ix_seq (pv 1) pe_int (fun _ _ => rfl)) pe_int (fun _ _ => rfl)) (po_some (pe_op op_add (pv 4) pe_int)) po_none)))
      (pss_one (ps_if (pt_cmpR op_notBl (pe_prm c_is_world (hr.mono (by decide)) (by rfl) pass0 (pa_cons (pv 0) (pa_cons (pe_op op_catA (pe_slice sl_tupA (pe_ix ix_seq (pv 1) pe_int (fun _ _ => rfl)) po_none (po_some pe_int)) (pe_tup (pa_cons (pv 7) pa_nil))) pa_nil))) pe_bl (nomark _)) (pss_one (ps_ret pe_bl)) pss_nil))))))
      (pss_one (ps_ret pe_bl))))))))))

/-! ### _law_odd_call -/
abbrev s_law_odd_call : Stmt := topS 67
abbrev N_law_odd_call : List Str := ["_law_pool_here", "_law_circuit_here", "_law_items", "_law_odd", "_law_first", "_law_place", "_law_word", "_law_due", "_law_which", "_law_lists", "_law_low_one", "_law_high_two"]
abbrev P_law_odd_call : List Str := ["_law_pool_here", "_law_circuit_here", "_law_items"]
theorem sc_law_odd_call : FnScope N_law_odd_call P_law_odd_call (defScope s_law_odd_call) := ⟨rfl, rfl, rfl, by decide +kernel, rfl, by decide +kernel, by decide +kernel⟩
def t_law_odd_call (K : PySem.W.Frag) : TS :=
    (tSeq (tAsg (tLst (tCons (tOp (rIx K) (tVar 2) (tC (.int 0))) (tCons (tOp (rIx K) (tVar 2) (tC (.int 1))) (tCons (tOp (rIx K) (tVar 2) (tC (.int 2))) (tCons (tOp (rIx K) (tVar 2) (tC (.int 3))) tNil))))) (gName 3))
    (tSeq (tAsg (tCall (SpG K PrePick PostPick) [] E0 (tCons (tVar 0) (tCons (tC (.int 6)) tNil))) (gName 4))
    (tSeq (tFor (iTup K (tTup (tCons (tVar 4) (tCons (tOp (rI0 fun i j => .int (i + j)) (tVar 4) (tCall (SpG K PrePick PostPick) [] E0 (tCons (tVar 0) (tCons (tC (.int 4)) tNil)))) tNil)))) (gName 5) (tSeq (tIfS (tTest (tOp (rEqD K) (tVar 5) (tC (.int 0)))) (tSeq (tAsg (tTup (tCons (tCB (Evl.rListS K) (tCons (tOp (rIx K) (tVar 2) (tC (.int 0))) tNil)) (tCons (tOp (rCatA K) (tOp (rIx K) (tVar 2) (tC (.int 0))) (tTup (tCons (tC (.int 1)) tNil))) (tCons (tC .non) (tCons (tC (.int 1)) (tCons (tOp (rCatA K) (tSl (rSlA K) (tOp (rIx K) (tVar 2) (tC (.int 0))) tNoPart (tPart (tCB (Evl.rMax2) (tCons (tC (.int 0)) (tCons (tOp (rI0 fun i j => .int (i - j)) (tCB (Evl.rLenS K) (tCons (tOp (rIx K) (tVar 2) (tC (.int 0))) tNil)) (tC (.int 1))) tNil))))) (tTup (tCons (tC (.int 3)) tNil))) tNil)))))) (gName 9))
    (tAsg (tOp (rIx K) (tVar 9) (tCall (SpG K PrePick PostPick) [] E0 (tCons (tVar 0) (tCons (tC (.int 5)) tNil)))) (gSub (tVar 3) (tC (.int 0)) rSetL))) tNext)
    (tSeq (tIfS (tTest (tOp (rEqD K) (tVar 5) (tC (.int 1)))) (tSeq (tAsg (tOp (rCatA K) (tTup (tCons (tC (.int 1)) tNil)) (tSl (rSlA K) (tOp (rIx K) (tVar 2) (tC (.int 1))) (tPart (tC (.int 1))) tNoPart)) (gName 10))
    (tSeq (tAsg (tOp (rCatA K) (tTup (tCons (tC (.int 0)) (tCons (tC (.int 2)) tNil))) (tSl (rSlA K) (tOp (rIx K) (tVar 2) (tC (.int 1))) (tPart (tC (.int 2))) tNoPart)) (gName 11))
    (tAsg (tOp (rIx K) (tTup (tCons (tVar 10) (tCons (tVar 11) (tCons (tSl (rSlA K) (tOp (rIx K) (tVar 2) (tC (.int 1))) tNoPart (tPart (tC (.int 1)))) (tCons (tCB (Evl.rListS K) (tCons (tOp (rIx K) (tVar 2) (tC (.int 1))) tNil)) (tCons (tOp (rCatA K) (tTup (tCons (tC (.bl false)) tNil)) (tSl (rSlA K) (tOp (rIx K) (tVar 2) (tC (.int 1))) (tPart (tC (.int 1))) tNoPart)) tNil)))))) (tCall (SpG K PrePick PostPick) [] E0 (tCons (tVar 0) (tCons (tC (.int 5)) tNil)))) (gSub (tVar 3) (tC (.int 1)) rSetL)))) tNext)
    (tSeq (tIfS (tTest (tOp (rEqD K) (tVar 5) (tC (.int 2)))) (tAsg (tCall (SpG K PreBent PostBent) [] E0 (tCons (tVar 0) (tCons (tOp (rIx K) (tVar 2) (tC (.int 2))) tNil))) (gSub (tVar 3) (tC (.int 2)) rSetL)) tNext)
    (tIfS (tTest (tOp (rEqD K) (tVar 5) (tC (.int 3)))) (tAsg (tOp (rIx K) (tTup (tCons (tTup (tCons (tUn (rU fun i => .int (-i)) (tC (.int 1))) (tCons (tC (.int 2)) tNil))) (tCons (tTup (tCons (tC (.int 2)) (tCons (tC (.int 4)) tNil))) (tCons (tTup (tCons (tC (.int 1)) (tCons (tC (.int 0)) tNil))) (tCons (tC (.int 0)) (tCons (tC .non) (tCons (tLst (tCons (tC (.int 0)) (tCons (tC (.int 1)) tNil))) (tCons (tTup (tCons (tC (.int 0)) (tCons (tC (.int 1)) (tCons (tC (.int 1)) tNil)))) (tCons (tTup (tCons (tC (.bl true)) (tCons (tC (.int 1)) tNil))) (tCons (tTup (tCons (tC (.int 0)) (tCons (tC (.bl true)) tNil))) tNil)))))))))) (tCall (SpG K PrePick PostPick) [] E0 (tCons (tVar 0) (tCons (tC (.int 9)) tNil)))) (gSub (tVar 3) (tC (.int 3)) rSetL)) tNext)))))
    (tSeq (tAsg (tC (.str "")) (gName 6))
    (tSeq (tIfS (tNot (tB (tCall (SpR K Rsame) [] E0 (tCons (tOp (rIx K) (tVar 3) (tC (.int 3))) (tCons (tOp (rIx K) (tVar 2) (tC (.int 3))) tNil))))) (tAsg (tC (.str "slack")) (gName 6)) tNext)
    (tSeq (tIfS (tNot (tB (tCall (SpR K Rearth) [] E0 (tCons (tVar 1) (tCons (tOp (rIx K) (tVar 3) (tC (.int 2))) tNil))))) (tAsg (tC (.str "world")) (gName 6)) tNext)
    (tSeq (tIfS (tNot (tB (tCall (SpR K Rsame) [] E0 (tCons (tOp (rIx K) (tVar 3) (tC (.int 1))) (tCons (tOp (rIx K) (tVar 2) (tC (.int 1))) tNil))))) (tAsg (tC (.str "held")) (gName 6)) tNext)
    (tSeq (tIfS (tNot (tB (tCall (SpR K Rsame) [] E0 (tCons (tOp (rIx K) (tVar 3) (tC (.int 0))) (tCons (tOp (rIx K) (tVar 2) (tC (.int 0))) tNil))))) (tAsg (tC (.str "positions")) (gName 6)) tNext)
    (tSeq (tAsg (tC .non) (gName 7))
    (tSeq (tIfS (tTest (tOp (rEqD K) (tVar 6) (tC (.str "")))) (tAsg (tCall (SpR K Rfault) [] E0 (tCons (tVar 1) (tCons (tOp (rIx K) (tVar 2) (tC (.int 0))) (tCons (tOp (rIx K) (tVar 2) (tC (.int 1))) (tCons (tOp (rIx K) (tVar 3) (tC (.int 2))) (tCons (tOp (rIx K) (tVar 2) (tC (.int 3))) tNil)))))) (gName 7)) tNext)
    (tSeq (tFor (iTup K (tTup (tCons (tC (.int 4)) (tCons (tC (.int 9)) tNil)))) (gName 8) (tIfS (tNot (tB (tCall (SpR K Rmeets) [] E0 (tCons (tCall (SpR K Rheard) [] E0 (tCons (tVar 8) (tCons (tVar 1) (tCons (tVar 3) tNil)))) (tCons (tVar 6) (tCons (tVar 7) tNil)))))) (tRet (tC (.bl false))) tNext))
    (tRet (tC (.bl true))))))))))))))
theorem dv_law_odd_call {P : Program} {w : World} {K : PySem.W.Frag} {mg : Str → Option Value} {base : Heap} {f : Addr} {cdv : Value} {A : Around} {outer : List Env} {s : Shared} {H : Hp} {E : XK} (FR : Free mg) (c_law_pick : Prm P w K mg base CX0 1 "_law_pick" P_law_pick (SpG K PrePick PostPick)) (c_law_bent : Prm P w K mg base CX0 3 "_law_bent" P_law_bent (SpG K PreBent PostBent)) (c_law_same : Prm P w K mg base CX0 3 "_law_same" P_law_same (SpR K Rsame)) (c_law_is_earth : Prm P w K mg base CX0 4 "_law_is_earth" P_law_is_earth (SpR K Rearth)) (c_law_fault : Prm P w K mg base CX0 2 "_law_fault" P_law_fault (SpR K Rfault)) (c_law_meets : Prm P w K mg base CX0 4 "_law_meets" P_law_meets (SpR K Rmeets)) (c_law_heard : Prm P w K mg base CX0 7 "_law_heard" P_law_heard (SpR K Rheard))
    (hr : Room 7 (A.deeper (envOfC "_law_odd_call" (defScope s_law_odd_call) s.heap.objs.size f cdv))) :
    PSs (cxOf CX0 P w K mg base N_law_odd_call "_law_odd_call" (defScope s_law_odd_call) f cdv A outer s H E).nox (defBody s_law_odd_call) (t_law_odd_call K) := by
  unfold t_law_odd_call
  exact (pss_cons (ps_set (i := 3) sc_law_odd_call.nd rfl (by first | exact Or.inl rfl | exact Or.inr rfl) (pe_lst (pa_cons (pe_ix ix_seq (pv 2) pe_int (fun _ _ => rfl)) (pa_cons (pe_ix ix_seq (pv 2) pe_int (fun _ _ => rfl)) (pa_cons (pe_ix ix_seq (pv 2) pe_int (fun _ _ => rfl)) (pa_cons (pe_ix ix_seq (pv 2) pe_int (fun _ _ => rfl)) pa_nil))))))
      (pss_cons (ps_set (i := 4) sc_law_odd_call.nd rfl (by first | exact Or.inl rfl | exact Or.inr rfl) (pe_prm c_law_pick (hr.mono (by decide)) (by rfl) pass0 (pa_cons (pv 0) (pa_cons pe_int pa_nil))))
      (pss_cons (ps_for PassesOwn.never rfl (pi_tup (pe_tup (pa_cons (pv 4) (pa_cons (pe_op op_add (pv 4) (pe_prm c_law_pick (hr.mono (by decide)) (by rfl) pass0 (pa_cons (pv 0) (pa_cons pe_int pa_nil)))) pa_nil)))) (pg_name (i := 5) sc_law_odd_call.nd rfl (by first | exact Or.inl rfl | exact Or.inr rfl)) (pss_cons (ps_if (pt_cmpR (op_eqD hr.units) (pv 5) pe_int (nomark _)) (pss_cons (ps_set (i := 9) sc_law_odd_call.nd rfl (by first | exact Or.inl rfl | exact Or.inr rfl) (pe_tup (pa_cons (pe_callTy call_listK (by rfl) FR.list_ (by decide +kernel) (pa_cons (pe_ix ix_seq (pv 2) pe_int (fun _ _ => rfl)) pa_nil)) (pa_cons (pe_op op_catA (pe_ix ix_seq (pv 2) pe_int (fun _ _ => rfl)) (pe_tup (pa_cons pe_int pa_nil))) (pa_cons pe_non (pa_cons pe_int (pa_cons (pe_op op_catA (pe_slice sl_tupA (pe_ix ix_seq (pv 2) pe_int (fun _ _ => rfl)) po_none (po_some (pe_callB (call_maxK rfl) (by rfl) FR.max_ (by decide +kernel) (pa_cons pe_int (pa_cons (pe_op op_sub (pe_callB call_lenK (by rfl) FR.len_ (by decide +kernel) (pa_cons (pe_ix ix_seq (pv 2) pe_int (fun _ _ => rfl)) pa_nil)) pe_int) pa_nil))))) (pe_tup (pa_cons pe_int pa_nil))) pa_nil)))))))
      (pss_one (ps_asg (pe_ix ix_seq (pv 9) (pe_prm c_law_pick (hr.mono (by decide)) (by rfl) pass0 (pa_cons (pv 0) (pa_cons pe_int pa_nil))) (fun _ _ => rfl)) (pg_sub (pv 3) pe_int set_list)))) pss_nil)
      (pss_cons (ps_if (pt_cmpR (op_eqD hr.units) (pv 5) pe_int (nomark _)) (pss_cons (ps_set (i := 10) sc_law_odd_call.nd rfl (by first | exact Or.inl rfl | exact Or.inr rfl) (pe_op op_catA (pe_tup (pa_cons pe_int pa_nil)) (pe_slice sl_tupA (pe_ix ix_seq (pv 2) pe_int (fun _ _ => rfl)) (po_some pe_int) po_none)))
      (pss_cons (ps_set (i := 11) sc_law_odd_call.nd rfl (by first | exact Or.inl rfl | exact Or.inr rfl) (pe_op op_catA (pe_tup (pa_cons pe_int (pa_cons pe_int pa_nil))) (pe_slice sl_tupA (pe_ix ix_seq (pv 2) pe_int (fun _ _ => rfl)) (po_some pe_int) po_none)))
      (pss_one (ps_asg (pe_ix ix_seq (pe_tup (pa_cons (pv 10) (pa_cons (pv 11) (pa_cons (pe_slice sl_tupA (pe_ix ix_seq (pv 2) pe_int (fun _ _ => rfl)) po_none (po_some pe_int)) (pa_cons (pe_callTy call_listK (by rfl) FR.list_ (by decide +kernel) (pa_cons (pe_ix ix_seq (pv 2) pe_int (fun _ _ => rfl)) pa_nil)) (pa_cons (pe_op op_catA (pe_tup (pa_cons pe_bl pa_nil)) (pe_slice sl_tupA (pe_ix ix_seq (pv 2) pe_int (fun _ _ => rfl)) (po_some pe_int) po_none)) pa_nil)))))) (pe_prm c_law_pick (hr.mono (by decide)) (by rfl) pass0 (pa_cons (pv 0) (pa_cons pe_int pa_nil))) (fun _ _ => rfl)) (pg_sub (pv 3) pe_int set_list))))) pss_nil)
      (pss_cons (ps_if (pt_cmpR (op_eqD hr.units) (pv 5) pe_int (nomark _)) (pss_one (ps_asg (pe_prm c_law_bent (hr.mono (by decide)) (by rfl) pass0 (pa_cons (pv 0) (pa_cons (pe_ix ix_seq (pv 2) pe_int (fun _ _ => rfl)) pa_nil))) (pg_sub (pv 3) pe_int set_list))) pss_nil)
      (pss_one (ps_if (pt_cmpR (op_eqD hr.units) (pv 5) pe_int (nomark _)) (pss_one (ps_asg (pe_ix ix_seq (pe_tup (pa_cons (pe_tup (pa_cons (pe_un un_neg pe_int) (pa_cons pe_int pa_nil))) (pa_cons (pe_tup (pa_cons pe_int (pa_cons pe_int pa_nil))) (pa_cons (pe_tup (pa_cons pe_int (pa_cons pe_int pa_nil))) (pa_cons pe_int (pa_cons pe_non (pa_cons (pe_lst (pa_cons pe_int (pa_cons pe_int pa_nil))) (pa_cons (pe_tup (pa_cons pe_int (pa_cons pe_int (pa_cons pe_int pa_nil)))) (pa_cons (pe_tup (pa_cons pe_bl (pa_cons pe_int pa_nil))) (pa_cons (pe_tup (pa_cons pe_int (pa_cons pe_bl pa_nil))) pa_nil)))))))))) (pe_prm c_law_pick (hr.mono (by decide)) (by rfl) pass0 (pa_cons (pv 0) (pa_cons pe_int pa_nil))) (fun _ _ => rfl)) (pg_sub (pv 3) pe_int set_list))) pss_nil))))))
      (pss_cons (ps_set (i := 6) sc_law_odd_call.nd rfl (by first | exact Or.inl rfl | exact Or.inr rfl) pe_str)
      (pss_cons (ps_if (pt_not (pt_val (pe_prm c_law_same (hr.mono (by decide)) (by rfl) pass0 (pa_cons (pe_ix ix_seq (pv 3) pe_int (fun _ _ => rfl)) (pa_cons (pe_ix ix_seq (pv 2) pe_int (fun _ _ => rfl)) pa_nil))))) (pss_one (ps_set (i := 6) sc_law_odd_call.nd rfl (by first | exact Or.inl rfl | exact Or.inr rfl) pe_str)) pss_nil)
      (pss_cons (ps_if (pt_not (pt_val (pe_prm c_law_is_earth (hr.mono (by decide)) (by rfl) pass0 (pa_cons (pv 1) (pa_cons (pe_ix ix_seq (pv 3) pe_int (fun _ _ => rfl)) pa_nil))))) (pss_one (ps_set (i := 6) sc_law_odd_call.nd rfl (by first | exact Or.inl rfl | exact Or.inr rfl) pe_str)) pss_nil)
      (pss_cons (ps_if (pt_not (pt_val (pe_prm c_law_same (hr.mono (by decide)) (by rfl) pass0 (pa_cons (pe_ix ix_seq (pv 3) pe_int (fun _ _ => rfl)) (pa_cons (pe_ix ix_seq (pv 2) pe_int (fun _ _ => rfl)) pa_nil))))) (pss_one (ps_set (i := 6) sc_law_odd_call.nd rfl (by first | exact Or.inl rfl | exact Or.inr rfl) pe_str)) pss_nil)
      (pss_cons (ps_if (pt_not (pt_val (pe_prm c_law_same (hr.mono (by decide)) (by rfl) pass0 (pa_cons (pe_ix ix_seq (pv 3) pe_int (fun _ _ => rfl)) (pa_cons (pe_ix ix_seq (pv 2) pe_int (fun _ _ => rfl)) pa_nil))))) (pss_one (ps_set (i := 6) sc_law_odd_call.nd rfl (by first | exact Or.inl rfl | exact Or.inr rfl) pe_str)) pss_nil)
      (pss_cons (ps_set (i := 7) sc_law_odd_call.nd rfl (by first | exact Or.inl rfl | exact Or.inr rfl) pe_non)
      (pss_cons (ps_if (pt_cmpR (op_eqD hr.units) (pv 6) pe_str (nomark _)) (pss_one (ps_set (i := 7) sc_law_odd_call.nd rfl (by first | exact Or.inl rfl | exact Or.inr rfl) (pe_prm c_law_fault (hr.mono (by decide)) (by rfl) pass0 (pa_cons (pv 1) (pa_cons (pe_ix ix_seq (pv 2) pe_int (fun _ _ => rfl)) (pa_cons (pe_ix ix_seq (pv 2) pe_int (fun _ _ => rfl)) (pa_cons (pe_ix ix_seq (pv 3) pe_int (fun _ _ => rfl)) (pa_cons (pe_ix ix_seq (pv 2) pe_int (fun _ _ => rfl)) pa_nil)))))))) pss_nil)
      (pss_cons (ps_for PassesOwn.never rfl (pi_tup (pe_tup (pa_cons pe_int (pa_cons pe_int pa_nil)))) (pg_name (i := 8) sc_law_odd_call.nd rfl (by first | exact Or.inl rfl | exact Or.inr rfl)) (pss_one (ps_if (pt_not (pt_val (pe_prm c_law_meets (hr.mono (by decide)) (by rfl) pass0 (pa_cons (pe_prm c_law_heard (hr.mono (by decide)) (by rfl) pass0 (pa_cons (pv 8) (pa_cons (pv 1) (pa_cons (pv 3) pa_nil)))) (pa_cons (pv 6) (pa_cons (pv 7) pa_nil)))))) (pss_one (ps_ret pe_bl)) pss_nil)))
      (pss_one (ps_ret pe_bl)))))))))))))

/-! ### law -/
abbrev s_law : Stmt := topS 69
abbrev N_law : List Str := ["_law_script", "_law_pool_here", "_law_circuit_here", "_law_stands_here", "_law_holds_here", "_law_wide_here", "_law_earth_here", "_law_due", "_law_turn", "_law_bent_here", "_law_right", "_law_told"]
abbrev P_law : List Str := ["_law_script"]
theorem sc_law : FnScope N_law P_law (defScope s_law) := ⟨rfl, rfl, rfl, by decide +kernel, rfl, by decide +kernel, by decide +kernel⟩
def t_law (K : PySem.W.Frag) (C : Addr) : TS :=
    (tSeq (tIfS (tNot (tB (tCall (SpR K Rhand) [] E0 tNil))) (tRet (tC (.bl false))) tNext)
    (tSeq (tAsg (tCall (spPool K) [] E0 (tCons (tVar 0) tNil)) (gName 1))
    (tSeq (tAsg (tCall (SpG K Pre0 PostCircuit) [] E0 (tCons (tVar 1) tNil)) (gName 2))
    (tSeq (tAsg (tCall (SpG K PreNet PostStands) [] E0 (tCons (tVar 1) (tCons (tVar 2) tNil))) (gName 3))
    (tSeq (tAsg (tCall (SpG K PreNet PostHolds) [] E0 (tCons (tVar 1) (tCons (tVar 2) tNil))) (gName 4))
    (tSeq (tAsg (tCall (SpG K Pre0 PostWide) [] E0 (tCons (tVar 1) tNil)) (gName 5))
    (tSeq (tAsg (tCall (SpG K PreEarth PostEarth) [] E0 (tCons (tVar 1) (tCons (tVar 2) (tCons (tVar 3) (tCons (tVar 4) (tCons (tVar 5) tNil)))))) (gName 6))
    (tSeq (tAsg (tCall (SpR K Rfault) [] E0 (tCons (tVar 2) (tCons (tVar 3) (tCons (tVar 4) (tCons (tVar 6) (tCons (tVar 5) tNil)))))) (gName 7))
    (tSeq (tIfS (tTest (tOp (rNotB) (tCall (SpR K Rworld) [] E0 (tCons (tVar 2) (tCons (tVar 6) tNil))) (tC (.bl true)))) (tRet (tC (.bl false))) tNext)
    (tSeq (tIfS (tNot (tB (tCall (SpR K Rsame) [] E0 (tCons (tCall (SpX K C Rwf) [] E0 (tCons (tVar 2) (tCons (tVar 3) (tCons (tVar 4) (tCons (tVar 6) (tCons (tVar 5) tNil)))))) (tCons (tVar 7) tNil))))) (tRet (tC (.bl false))) tNext)
    (tSeq (tFor (iRng1 (tCons (tC (.int 6)) tNil)) (gName 8) (tSeq (tAsg (tCall (SpG K PreBent PostBent) [] E0 (tCons (tVar 1) (tCons (tVar 6) tNil))) (gName 9))
    (tSeq (tAsg (tCall (SpR K Rearth) [] E0 (tCons (tVar 2) (tCons (tVar 9) tNil))) (gName 10))
    (tSeq (tAsg (tCallK0 (SpR K Rworld) (fun zs => [zs.getD 1 .non, zs.getD 0 .non]) (fun _ => E0) (tLen 2 (tCons (tVar 9) (tCons (tVar 2) tNil)))) (gName 11))
    (tIfS (tNot (tB (tCall (SpR K Rsame) [] E0 (tCons (tVar 11) (tCons (tVar 10) tNil))))) (tRet (tC (.bl false))) tNext)))))
    (tSeq (tIfS (tNot (tB (tCall (SpG K PreCall PostTrue) [] E0 (tCons (tVar 1) (tCons (tVar 2) (tCons (tTup (tCons (tVar 3) (tCons (tVar 4) (tCons (tVar 6) (tCons (tVar 5) tNil))))) tNil)))))) (tRet (tC (.bl false))) tNext)
    (tSeq (tIfS (tNot (tB (tCall (SpR K Ralone) [] E0 (tCons (tVar 2) (tCons (tTup (tCons (tVar 3) (tCons (tVar 4) (tCons (tVar 6) (tCons (tVar 5) tNil))))) tNil))))) (tRet (tC (.bl false))) tNext)
    (tSeq (tIfS (tNot (tB (tCall (SpR K Rsame) [] E0 (tCons (tCall (SpX K C Rwf) [] E0 (tCons (tVar 2) (tCons (tVar 3) (tCons (tVar 4) (tCons (tVar 6) (tCons (tVar 5) tNil)))))) (tCons (tVar 7) tNil))))) (tRet (tC (.bl false))) tNext)
    (tRet (tCall (SpG K PreNet PostTrue) [] E0 (tCons (tVar 1) (tCons (tVar 2) tNil))))))))))))))))))
theorem dv_law {P : Program} {w : World} {K : PySem.W.Frag} {mg : Str → Option Value} {base : Heap} {f : Addr} {cdv : Value} {A : Around} {outer : List Env} {s : Shared} {H : Hp} {E : XK} {C : Addr} (FR : Free mg) (c_law_by_hand : Prm P w K mg base CX0 7 "_law_by_hand" P_law_by_hand (SpR K Rhand)) (c_law_pool : Prm P w K mg base CX0 1 "_law_pool" P_law_pool (spPool K)) (c_law_circuit : Prm P w K mg base CX0 2 "_law_circuit" P_law_circuit (SpG K Pre0 PostCircuit)) (c_law_stands : Prm P w K mg base CX0 2 "_law_stands" P_law_stands (SpG K PreNet PostStands)) (c_law_holds : Prm P w K mg base CX0 2 "_law_holds" P_law_holds (SpG K PreNet PostHolds)) (c_law_wide : Prm P w K mg base CX0 2 "_law_wide" P_law_wide (SpG K Pre0 PostWide)) (c_law_earth : Prm P w K mg base CX0 3 "_law_earth" P_law_earth (SpG K PreEarth PostEarth)) (c_law_fault : Prm P w K mg base CX0 2 "_law_fault" P_law_fault (SpR K Rfault)) (c_is_world : Prm P w K mg base CX0 5 "is_world" P_is_world (SpR K Rworld)) (c_law_same : Prm P w K mg base CX0 3 "_law_same" P_law_same (SpR K Rsame)) (c_world_fault : Prm P w K mg base (L2.CX P w) 6 "world_fault" P_world_fault (SpX K C Rwf)) (c_law_bent : Prm P w K mg base CX0 3 "_law_bent" P_law_bent (SpG K PreBent PostBent)) (c_law_is_earth : Prm P w K mg base CX0 4 "_law_is_earth" P_law_is_earth (SpR K Rearth)) (c_law_odd_call : Prm P w K mg base CX0 8 "_law_odd_call" P_law_odd_call (SpG K PreCall PostTrue)) (c_law_odd_alone : Prm P w K mg base CX0 8 "_law_odd_alone" P_law_odd_alone (SpR K Ralone)) (c_law_bounds_hold : Prm P w K mg base CX0 8 "_law_bounds_hold" P_law_bounds_hold (SpG K PreNet PostTrue)) (c_is_world_kw : PrmK P w K mg base CX0 5 "is_world" P_is_world ["thing", "net"] (SpR K Rworld) (fun ws => [ws.getD 1 .none, ws.getD 0 .none]) (fun zs => [zs.getD 1 .non, zs.getD 0 .non]))
    (hr : Room 8 (A.deeper (envOfC "law" (defScope s_law) s.heap.objs.size f cdv))) :
    PSs (cxOf CX0 P w K mg base N_law "law" (defScope s_law) f cdv A outer s H E).nox (defBody s_law) (t_law K C) := by
  unfold t_law
  exact (pss_cons (ps_if (pt_not (pt_val (pe_prm0 c_law_by_hand (hr.mono (by decide)) (by rfl) pass0))) (pss_one (ps_ret pe_bl)) pss_nil)
      (pss_cons (ps_set (i := 1) sc_law.nd rfl (by first | exact Or.inl rfl | exact Or.inr rfl) (pe_prm c_law_pool (hr.mono (by decide)) (by rfl) pass0 (pa_cons (pv 0) pa_nil)))
      (pss_cons (ps_set (i := 2) sc_law.nd rfl (by first | exact Or.inl rfl | exact Or.inr rfl) (pe_prm c_law_circuit (hr.mono (by decide)) (by rfl) pass0 (pa_cons (pv 1) pa_nil)))
      (pss_cons (ps_set (i := 3) sc_law.nd rfl (by first | exact Or.inl rfl | exact Or.inr rfl) (pe_prm c_law_stands (hr.mono (by decide)) (by rfl) pass0 (pa_cons (pv 1) (pa_cons (pv 2) pa_nil))))
      (pss_cons (ps_set (i := 4) sc_law.nd rfl (by first | exact Or.inl rfl | exact Or.inr rfl) (pe_prm c_law_holds (hr.mono (by decide)) (by rfl) pass0 (pa_cons (pv 1) (pa_cons (pv 2) pa_nil))))
      (pss_cons (ps_set (i := 5) sc_law.nd rfl (by first | exact Or.inl rfl | exact Or.inr rfl) (pe_prm c_law_wide (hr.mono (by decide)) (by rfl) pass0 (pa_cons (pv 1) pa_nil)))
      (pss_cons (ps_set (i := 6) sc_law.nd rfl (by first | exact Or.inl rfl | exact Or.inr rfl) (pe_prm c_law_earth (hr.mono (by decide)) (by rfl) pass0 (pa_cons (pv 1) (pa_cons (pv 2) (pa_cons (pv 3) (pa_cons (pv 4) (pa_cons (pv 5) pa_nil)))))))
      (pss_cons (ps_set (i := 7) sc_law.nd rfl (by first | exact Or.inl rfl | exact Or.inr rfl) (pe_prm c_law_fault (hr.mono (by decide)) (by rfl) pass0 (pa_cons (pv 2) (pa_cons (pv 3) (pa_cons (pv 4) (pa_cons (pv 6) (pa_cons (pv 5) pa_nil)))))))
      (pss_cons (ps_if (pt_cmpR op_notBl (pe_prm c_is_world (hr.mono (by decide)) (by rfl) pass0 (pa_cons (pv 2) (pa_cons (pv 6) pa_nil))) pe_bl (nomark _)) (pss_one (ps_ret pe_bl)) pss_nil)
      (pss_cons (ps_if (pt_not (pt_val (pe_prm c_law_same (hr.mono (by decide)) (by rfl) pass0 (pa_cons (pe_prm c_world_fault (hr.mono (by decide)) (by rfl) passL (pa_cons (pv 2) (pa_cons (pv 3) (pa_cons (pv 4) (pa_cons (pv 6) (pa_cons (pv 5) pa_nil)))))) (pa_cons (pv 7) pa_nil))))) (pss_one (ps_ret pe_bl)) pss_nil)
      (pss_cons (ps_for PassesOwn.never rfl (pi_range1 (by rfl) FR.range_ (pa_cons pe_int pa_nil)) (pg_name (i := 8) sc_law.nd rfl (by first | exact Or.inl rfl | exact Or.inr rfl)) (pss_cons (ps_set (i := 9) sc_law.nd rfl (by first | exact Or.inl rfl | exact Or.inr rfl) (pe_prm c_law_bent (hr.mono (by decide)) (by rfl) pass0 (pa_cons (pv 1) (pa_cons (pv 6) pa_nil))))
      (pss_cons (ps_set (i := 10) sc_law.nd rfl (by first | exact Or.inl rfl | exact Or.inr rfl) (pe_prm c_law_is_earth (hr.mono (by decide)) (by rfl) pass0 (pa_cons (pv 2) (pa_cons (pv 9) pa_nil))))
      (pss_cons (ps_set (i := 11) sc_law.nd rfl (by first | exact Or.inl rfl | exact Or.inr rfl) (pe_prmKS c_is_world_kw (hr.mono (by decide)) (by rfl) (fun _ => pass0S) (pk_cons (pv 9) (pk_cons (pv 2) pk_nil))))
      (pss_one (ps_if (pt_not (pt_val (pe_prm c_law_same (hr.mono (by decide)) (by rfl) pass0 (pa_cons (pv 11) (pa_cons (pv 10) pa_nil))))) (pss_one (ps_ret pe_bl)) pss_nil))))))
      (pss_cons (ps_if (pt_not (pt_val (pe_prm c_law_odd_call (hr.mono (by decide)) (by rfl) pass0 (pa_cons (pv 1) (pa_cons (pv 2) (pa_cons (pe_tup (pa_cons (pv 3) (pa_cons (pv 4) (pa_cons (pv 6) (pa_cons (pv 5) pa_nil))))) pa_nil)))))) (pss_one (ps_ret pe_bl)) pss_nil)
      (pss_cons (ps_if (pt_not (pt_val (pe_prm c_law_odd_alone (hr.mono (by decide)) (by rfl) pass0 (pa_cons (pv 2) (pa_cons (pe_tup (pa_cons (pv 3) (pa_cons (pv 4) (pa_cons (pv 6) (pa_cons (pv 5) pa_nil))))) pa_nil))))) (pss_one (ps_ret pe_bl)) pss_nil)
      (pss_cons (ps_if (pt_not (pt_val (pe_prm c_law_same (hr.mono (by decide)) (by rfl) pass0 (pa_cons (pe_prm c_world_fault (hr.mono (by decide)) (by rfl) passL (pa_cons (pv 2) (pa_cons (pv 3) (pa_cons (pv 4) (pa_cons (pv 6) (pa_cons (pv 5) pa_nil)))))) (pa_cons (pv 7) pa_nil))))) (pss_one (ps_ret pe_bl)) pss_nil)
      (pss_one (ps_ret (pe_prm c_law_bounds_hold (hr.mono (by decide)) (by rfl) pass0 (pa_cons (pv 1) (pa_cons (pv 2) pa_nil)))))))))))))))))))

end Ky
set_option Elab.async false
set_option linter.all false
set_option maxRecDepth 4000
set_option maxHeartbeats 1000000
namespace Ky
open PySem PySem.Spec PyProof.Rows L2
local macro_rules | `(tactic| walk_at "rl") => `(tactic| first | assumption | exact Rl.refl pi0 | exact Rl.refl (by assumption) | exact Rl.refl (Rl.pi (by assumption)) | (refine Rl.trans (by assumption) ?_; walk_at "rl"))
local macro_rules | `(tactic| walk_at "ev") => `(tactic| first
  | with_reducible exact ev_int | with_reducible exact ev_bl | with_reducible exact ev_str | with_reducible exact ev_non
  | ((with_reducible apply ev_var); (focus exact rfl); (focus assumption); (focus walk_at "rl"))
  | ((with_reducible apply ev_slot); (focus exact rfl); (focus first | exact fun _ => Dp.int _ | exact fun _ => Dp.bl _ | exact fun _ => Dp.str _ | exact fun _ => Dp.non))
  | with_reducible exact ea_nil | with_reducible exact eo_none | with_reducible exact et_yes
  | with_reducible exact sh_int | with_reducible exact sh_bool | with_reducible exact sh_non
  | ((with_reducible apply ea_cons) <;> try walk_at "ev")
  | ((with_reducible apply ev_I0) <;> try walk_at "ev")
  | ((with_reducible apply ev_B0) <;> try walk_at "ev")
  | ((with_reducible apply ev_IC) <;> try walk_at "ev")
  | ((with_reducible apply ev_neg) <;> try walk_at "ev")
  | ((with_reducible apply ev_chain) <;> try walk_at "ev")
  | ((with_reducible apply ev_isTup) <;> try walk_at "ev")
  | ((with_reducible apply ev_isInt) <;> try walk_at "ev")
  | ((with_reducible apply ev_isBool) <;> try walk_at "ev")
  | ((with_reducible apply ev_isStr) <;> try walk_at "ev")
  | ((with_reducible apply ev_isLst) <;> try walk_at "ev")
  | ((with_reducible apply ev_isN) <;> try walk_at "ev")
  | ((with_reducible apply ev_notN) <;> try walk_at "ev")
  | ((with_reducible apply ev_notB) <;> try walk_at "ev")
  | ((with_reducible apply ev_eq) <;> try walk_at "ev")
  | ((with_reducible apply ev_ne) <;> try walk_at "ev")
  | ((with_reducible apply ev_abs) <;> try walk_at "ev")
  | ((with_reducible apply ev_max) <;> try walk_at "ev")
  | ((with_reducible apply ev_bits) <;> try walk_at "ev")
  | ((with_reducible apply ev_gcd) <;> try walk_at "ev")
  | ((with_reducible apply ev_list) <;> try walk_at "ev")
  | ((with_reducible apply ev_tuple) <;> try walk_at "ev")
  | ((with_reducible apply ev_tup) <;> try walk_at "ev")
  | ((with_reducible apply ev_lst) <;> try walk_at "ev")
  | ((with_reducible apply ev_catT) <;> try walk_at "ev")
  | ((with_reducible apply ev_slice) <;> try walk_at "ev")
  | ((with_reducible apply eo_some) <;> try walk_at "ev")
  | ((with_reducible apply ev_notV) <;> try walk_at "ev")
  | ((with_reducible apply et_test) <;> try walk_at "ev")
  | ((with_reducible apply et_B) <;> try walk_at "ev")
  | ((with_reducible apply et_not) <;> try walk_at "ev")
  | ((with_reducible apply ev_lenT); (focus (walk_at "ev"; done)))
  | ((with_reducible apply ev_lenL); (focus (walk_at "ev"; done)))
  | ((with_reducible apply ev_intI); (focus (walk_at "ev"; done)))
  | ((with_reducible apply ev_intB); (focus (walk_at "ev"; done)))
  | ((with_reducible apply ev_ixT); (focus (walk_at "ev"; done)); (focus (walk_at "ev"; done)); (try first | rfl | assumption))
  | ((with_reducible apply ev_ixL); (focus (walk_at "ev"; done)); (focus (walk_at "ev"; done)); (try first | rfl | assumption))
  | ((with_reducible apply ev_call); (focus (walk_at "ev"; done))))
local macro_rules | `(tactic| walk_at "nx") => `(tactic| ((try dsimp only); (try ((with_reducible refine st_next ?_); (try dsimp only))); (try with_reducible refine st_seq ?_)))
section
variable {P : Program} {w : World} {K : PySem.W.Frag} {mg : Str → Option Value} {base : Heap} {f : Addr} {fd : FuncData}
/-- the promise of the def that lies at f -/
def PrmF (P : Program) (w : World) (K : PySem.W.Frag) (mg : Str → Option Value) (base : Heap) (CX : CXT) (k : Nat) (x : Str) (ps : List Str) (sp : Sp) (f : Addr) (fd : FuncData) : Prop := mg x = some (.ref f) ∧ PySem.W.keepIn K (.ref f) = true ∧ Binds K fd ps [] ∧ FnOk P w K mg base CX k f fd ps sp
theorem mk_prmF {k : Nat} {x : Str} {st : Stmt} {N ps : List Str} {R : List D → D → Prop} {t : TS}
    (A : At K mg x st ps f fd) (S : FnScope N ps (defScope st)) (len : ∀ ds d, R ds d → ds.length = ps.length)
    (dv : ∀ {f : Addr} {cdv : Value} {A : Around} {outer : List Env} {s : Shared} {H : Hp} {E : XK}, Room k (A.deeper (envOfC x (defScope st) s.heap.objs.size f cdv)) → PSs (cxOf CX0 P w K mg base N x (defScope st) f cdv A outer s H E).nox (defBody st) t)
    (rd : ∀ vs ds d H (Q : VK), DpAll K H vs ds → R ds d → (∀ v H', Ex H H' → Dp K (nw H H') v d → Q v H') → t { nx := fun _ H' => Q .non H', rt := Q } (start N vs) H) : PrmF P w K mg base CX0 (k + 1) x ps (SpR K R) f fd := by
  refine ⟨A.g, A.fn.kp, A.b, A.fn.ok S (fun vs H Q E h => ?_) fun cdv Ar outer s H vs Q E hr h => ?_⟩
  · obtain ⟨ds, d, h1, h2, _⟩ := h
    rw [dpa_len h1]
    exact len ds d h2
  · obtain ⟨ds, d, h1, h2, h3⟩ := h
    exact ⟨t, dv hr, rd vs ds d H Q h1 h2 h3⟩
theorem mk_prmXF {C : Addr} {k : Nat} {x : Str} {st : Stmt} {N ps : List Str} {R : List D → Except Str D → Prop} {t : XK → TS}
    (A : At K mg x st ps f fd) (S : FnScope N ps (defScope st)) (len : ∀ ds d, R ds d → ds.length = ps.length)
    (dv : ∀ {f : Addr} {cdv : Value} {A : Around} {outer : List Env} {s : Shared} {H : Hp} {E : XK}, Room k (A.deeper (envOfC x (defScope st) s.heap.objs.size f cdv)) → PSs (cxOf (L2.CX P w) P w K mg base N x (defScope st) f cdv A outer s H E) (defBody st) (t E))
    (rd : ∀ vs ds r H (Q : VK) (E : XK), DpAll K H vs ds → R ds r → (∀ d, r = .ok d → ∀ v H', Ex H H' → Dp K (nw H H') v d → Q v H') → (∀ w, r = .error w → Exl C H E w) → t E { nx := fun _ H' => Q .non H', rt := Q } (start N vs) H) :
    PrmF P w K mg base (L2.CX P w) (k + 1) x ps (SpX K C R) f fd := by
  refine ⟨A.g, A.fn.kp, A.b, A.fn.okX S (fun vs H Q E h => ?_) fun cdv Ar outer s H vs Q E hr h => ?_⟩
  · obtain ⟨ds, d, h1, h2, _⟩ := h
    rw [dpa_len h1]
    exact len ds d h2
  · obtain ⟨ds, r, h1, h2, h3, h4⟩ := h
    exact ⟨t E, dv hr, rd vs ds r H Q E h1 h2 h3 h4⟩
theorem worldOk_no {c : Net} {x : D} (h : tupN 4 x = false) : worldOk c x = false := by
  cases x with
  | tuple ds =>
    have h' : decide (ds.length = 4) = false := h
    match ds with
    | [a, b, d, e] => cases h'
    | [] => rfl
    | [_] => simp [worldOk]
    | [_, _] => simp [worldOk]
    | [_, _, _] => simp [worldOk]
    | _ :: _ :: _ :: _ :: _ :: _ => simp [worldOk]
  | _ => rfl
theorem okF_is_world (FR : Free mg) (A : At K mg "is_world" s_is_world P_is_world f fd) (c1 : Prm P w K mg base CX0 2 "e_is_base" P_e_is_base (SpR K (R1B isBase))) (c2 : Prm P w K mg base CX0 3 "e_is_flows" P_e_is_flows (SpR K Rflows))
    (c3 : Prm P w K mg base CX0 3 "e_is_rooms" P_e_is_rooms (SpR K Rrooms)) (c4 : Prm P w K mg base CX0 4 "e_is_charges" P_e_is_charges (SpR K Rcharges)) : PrmF P w K mg base CX0 5 "is_world" P_is_world (SpR K Rworld) f fd := by
  refine mk_prmF A sc_is_world (fun ds d ⟨c, x, e, _⟩ => by rw [e]; rfl) (dv_is_world FR c1 c2 c3 c4) ?_
  rintro vs ds d H Q hv ⟨c, x, rfl, rfl⟩ hq
  obtain ⟨v, v2, rfl, k, k2⟩ := dpa2 hv
  unfold t_is_world
  walk_at "nx"
  refine s_if (et_tupn (d := x) (n := 4) (by walk_at "ev") ev_int) pi0 (fun h H1 r1 => ?_) (fun h H1 r1 => ?_)
  · rw [worldOk_no (by simpa using h)] at hq
    exact s_ret (en_flat ev_bl rfl) r1.e0 hq
  · obtain ⟨es, rfl, hl⟩ := tupN_t (by simpa using h : tupN 4 x = true)
    match es, hl with
    | [b, fl, rm, ch], _ =>
      walk_at "nx"
      refine s_four (by walk_at "ev") pi0 fun v3 v4 v5 v6 H2 r2 k3 k4 k5 k6 => ?_
      walk_at "nx"
      have hb : EvD K p0 (tCall (SpR K (R1B isBase)) [] E0 (tCons (tVar 2) tNil)) [some v, some v2, some v3, some v4, some v5, some v6] H2 (.bool (isBase b)) := ev_call (by walk_at "ev") ⟨b, rfl, rfl⟩
      have hf : EvD K p0 (tCall (SpR K Rflows) [] E0 (tCons (tVar 0) (tCons (tVar 3) tNil))) [some v, some v2, some v3, some v4, some v5, some v6] H2 (.bool (areQ (fun a _ => decide (0 ≤ a)) c.sws.length fl)) := ev_call (by walk_at "ev") ⟨c, fl, rfl, rfl⟩
      refine s_if (et_or (et_not (et_B hb)) fun _ => et_not (et_B hf)) pi0 (fun e H3 r3 => ?_) (fun e H3 r3 => ?_)
      · have : worldOk c (.tuple [b, fl, rm, ch]) = false := by
          show (isBase b && _ && _ && _) = false
          cases q1 : isBase b <;> cases q2 : areQ (fun a _ => decide (0 ≤ a)) c.sws.length fl <;> simp [q1, q2] at e ⊢
        rw [this] at hq
        exact s_ret (en_flat ev_bl rfl) ((r1.trans r2).trans r3).e0 hq
      · have q1 : isBase b = true := by
          cases q1 : isBase b with
          | true => rfl
          | false => rw [q1] at e; cases e
        have q2 : areQ (fun a _ => decide (0 ≤ a)) c.sws.length fl = true := by
          cases q2 : areQ (fun a _ => decide (0 ≤ a)) c.sws.length fl with
          | true => rfl
          | false => rw [q1, q2] at e; cases e
        walk_at "nx"
        refine s_ret (en_flat (d := .bool (worldOk c (.tuple [b, fl, rm, ch]))) ?_ rfl) ((r1.trans r2).trans r3).e0 hq
        refine ev_is (ev_andV (a := areQ (fun a _ => decide (0 < a)) c.tanks.length rm) (b := areQ (fun a b => decide (0 ≤ a) && decide (a ≤ b)) c.n ch) (ev_call (by walk_at "ev") ⟨c, rm, rfl, rfl⟩) (fun _ => ev_call (by walk_at "ev") ⟨c, ch, rfl, rfl⟩)) ?_
        show _ = PyData.bool (isBase b && _ && _ && _)
        rw [q1, q2]
        rfl
theorem sm_pow {n : Nat} {b : Int} (h : Sm n b) : ∀ k : Nat, Sm (n * k + 1) (b ^ k)
  | 0 => by unfold Sm; rw [Int.pow_zero, Nat.mul_zero]; decide
  | k + 1 => by
    have ih := sm_pow h k
    rw [Int.pow_succ]
    have := sm_two ih h
    exact sm_mono this (by rw [Nat.mul_succ]; omega)
theorem nat2 {s : Int} (h0 : 0 ≤ s) (h6 : s ≤ 6) : (2 * s).toNat ≤ 12 := by omega
theorem sm_lo {b s : Int} (h : Sm 64 b) (h0 : 0 ≤ s) (h6 : s ≤ 6) : Sm 800 (b ^ (2 * s).toNat) := sm_mono (sm_pow h _) (by have := nat2 h0 h6; omega)
theorem sm_hi {b s : Int} (h : Sm 64 b) (h0 : 0 ≤ s) (h6 : s ≤ 6) : Sm 900 (b ^ (2 * s).toNat * b) := sm_mono (sm_two (sm_lo h h0 h6) h) (by decide)
theorem sm_zero {n : Nat} (h : 0 < n) : Sm n 0 := Nat.pow_pos (by decide)
theorem ok_e_flow_fits (FR : Free mg) (A : At K mg "e_flow_fits" s_e_flow_fits P_e_flow_fits f fd) (c1 : Prm P w K mg base CX0 4 "e_span" P_e_span (SpR K Rspan)) : Prm P w K mg base CX0 5 "e_flow_fits" P_e_flow_fits (SpR K Rffits) := by
  refine mk_prm A sc_e_flow_fits (fun ds d ⟨b, s, pos, q, e, _⟩ => by rw [e]; rfl) (dv_e_flow_fits FR c1) ?_
  rintro vs ds d H Q hv ⟨b, s, pos, q, rfl, h0, h6, hb, h1, h2, rfl⟩ hq
  obtain ⟨v, v2, v3, v4, rfl, k, k2, k3, k4⟩ := dpa4 hv
  have hlo := sm_lo hb h0 h6
  have hhi := sm_hi hb h0 h6
  unfold qD at k4
  unfold t_e_flow_fits
  walk_at "nx"
  refine s_two (ev_call (by walk_at "ev") ⟨b, s, rfl, h0, h6, hb, rfl⟩) pi0 fun v5 v6 H1 r1 k5 k6 => ?_
  have fin : ∀ (lo hi : Int) (x y : V) (H2 : Hp), Rl p0 H H2 → Dp K (vw p0 H2) x (.int lo) → Dp K (vw p0 H2) y (.int hi) → Sm 900 lo → Sm 900 hi → fitsB lo hi q = fflow b s pos q →
      tRet (tChain (rI0 fun i j => .bl (decide (i ≤ j))) (rI0 fun i j => .bl (decide (i ≤ j))) (tOp (rI CMulW fun i j => .int (i * j)) (tVar 4) (tOp (rIx K) (tVar 3) (tC (.int 1)))) (tOp (rIx K) (tVar 3) (tC (.int 0))) (tOp (rI CMulW fun i j => .int (i * j)) (tVar 5) (tOp (rIx K) (tVar 3) (tC (.int 1)))))
        { nx := fun x H' => Q .non H', rt := Q } [some v, some v2, some v3, some v4, some x, some y] H2 := fun lo hi x y H2 r2 kx ky sl sh e => by
    rw [← e] at hq
    refine s_ret (en_flat ?_ rfl) r2.e0 hq
    refine ev_is (by
      walk_at "ev"
      · exact sm_mul sl h2 (by decide) (by decide) (by decide)
      · exact sm_mul sh h2 (by decide) (by decide) (by decide)) (by rfl)
  walk_at "nx"
  by_cases p1 : pos = 1
  · subst p1
    refine s_no (b := false) (et_is (by walk_at "ev") (by rfl)) rfl pi0 fun H2 r2 => ?_
    walk_at "nx"
    refine s_no (b := false) (et_is (by walk_at "ev") (by rfl)) rfl pi0 fun H3 r3 => ?_
    walk_at "nx"
    exact fin _ _ _ _ H3 ((r1.trans r2).trans r3) (dp_ex (r2.trans r3).ex k5) (dp_ex (r2.trans r3).ex k6) (sm_mono hlo (by decide)) hhi (by unfold fflow; simp)
  · refine s_yes (b := true) (et_is (by walk_at "ev") (by simp [eqv_int, p1])) rfl pi0 fun H2 r2 => ?_
    refine s_asg (K := K) (by walk_at "ev") pi0 fun v7 H3 r3 k7 => ?_
    walk_at "nx"
    by_cases p2 : pos = 0
    · subst p2
      refine s_yes (b := true) (et_is (by walk_at "ev") (by rfl)) rfl pi0 fun H4 r4 => ?_
      refine s_asg (K := K) (by walk_at "ev") pi0 fun v8 H5 r5 k8 => ?_
      walk_at "nx"
      exact fin 0 0 _ _ H5 (((r1.trans r2).trans (r3.trans r4)).trans r5) (dp_ex (r4.trans r5).ex k7) k8 (sm_zero (by decide)) (sm_zero (by decide)) (by unfold fflow; simp)
    · refine s_no (b := false) (et_is (by walk_at "ev") (by simp [eqv_int, p2])) rfl pi0 fun H4 r4 => ?_
      walk_at "nx"
      exact fin 0 _ _ _ H4 ((r1.trans r2).trans (r3.trans r4)) (dp_ex r4.ex k7) (dp_ex ((r2.trans r3).trans r4).ex k6) (sm_zero (by decide)) hhi (by unfold fflow; simp [p1, p2])
theorem ok_e_room_fits (FR : Free mg) (A : At K mg "e_room_fits" s_e_room_fits P_e_room_fits f fd) (c1 : Prm P w K mg base CX0 4 "e_span" P_e_span (SpR K Rspan)) : Prm P w K mg base CX0 5 "e_room_fits" P_e_room_fits (SpR K Rrfits) := by
  refine mk_prm A sc_e_room_fits (fun ds d ⟨b, s, q, e, _⟩ => by rw [e]; rfl) (dv_e_room_fits FR c1) ?_
  rintro vs ds d H Q hv ⟨b, s, q, rfl, h0, h6, hb, h1, h2, rfl⟩ hq
  obtain ⟨v, v2, v3, rfl, k, k2, k3⟩ := dpa3 hv
  have hlo := sm_lo hb h0 h6
  have hhi := sm_hi hb h0 h6
  unfold qD at k3
  unfold t_e_room_fits
  walk_at "nx"
  refine s_two (ev_call (by walk_at "ev") ⟨b, s, rfl, h0, h6, hb, rfl⟩) pi0 fun v5 v6 H1 r1 k5 k6 => ?_
  walk_at "nx"
  refine s_ret (en_flat ?_ rfl) r1.e0 hq
  refine ev_is (by
    walk_at "ev"
    · exact sm_mul hlo h2 (by decide) (by decide) (by decide)
    · exact sm_mul hhi h2 (by decide) (by decide) (by decide)) (by rfl)
/-- lowest terms are lowest -/
theorem low_q {t b : Int} (h : 0 < b) : 1 ≤ b / ((Nat.gcd t.natAbs b.natAbs : Nat) : Int) ∧ Nat.gcd (t / ((Nat.gcd t.natAbs b.natAbs : Nat) : Int)).natAbs (b / ((Nat.gcd t.natAbs b.natAbs : Nat) : Int)).natAbs = 1 := by
  have hg := gcd_pos (t := t) h
  generalize hgd : Nat.gcd t.natAbs b.natAbs = g at *
  have d1 : (g : Int) ∣ t := Int.ofNat_dvd_left.mpr (by rw [← hgd]; exact Nat.gcd_dvd_left _ _)
  have d2 : (g : Int) ∣ b := Int.ofNat_dvd_left.mpr (by rw [← hgd]; exact Nat.gcd_dvd_right _ _)
  obtain ⟨t', rfl⟩ := d1
  obtain ⟨b', rfl⟩ := d2
  have hne : (g : Int) ≠ 0 := by omega
  rw [Int.mul_ediv_cancel_left _ hne, Int.mul_ediv_cancel_left _ hne]
  have hb' : 0 < b' := by
    refine Int.lt_of_mul_lt_mul_left (a := (g : Int)) (by rw [Int.mul_zero]; exact h) (by omega)
  refine ⟨by omega, ?_⟩
  rw [Int.natAbs_mul, Int.natAbs_mul, Int.natAbs_natCast, Nat.gcd_mul_left] at hgd
  have : g * Nat.gcd t'.natAbs b'.natAbs = g * 1 := by rw [hgd, Nat.mul_one]
  exact Nat.eq_of_mul_eq_mul_left hg this
end
end Ky
set_option Elab.async false
set_option linter.all false
set_option maxRecDepth 4000
set_option maxHeartbeats 4000000
namespace Ky
open PySem PySem.Spec PyProof.Rows L2
local macro_rules | `(tactic| walk_at "rl") => `(tactic| first | assumption | exact Rl.refl pi0 | exact Rl.refl (by assumption) | exact Rl.refl (Rl.pi (by assumption)) | (refine Rl.trans (by assumption) ?_; walk_at "rl"))
local macro_rules | `(tactic| walk_at "ev") => `(tactic| first
  | with_reducible exact ev_int | with_reducible exact ev_bl | with_reducible exact ev_str | with_reducible exact ev_non
  | ((with_reducible apply ev_var); (focus exact rfl); (focus assumption); (focus walk_at "rl"))
  | ((with_reducible apply ev_slot); (focus exact rfl); (focus first | exact fun _ => Dp.int _ | exact fun _ => Dp.bl _ | exact fun _ => Dp.str _ | exact fun _ => Dp.non))
  | with_reducible exact ea_nil | with_reducible exact eo_none | with_reducible exact et_yes
  | with_reducible exact sh_int | with_reducible exact sh_bool | with_reducible exact sh_non
  | ((with_reducible apply ea_cons) <;> try walk_at "ev")
  | ((with_reducible apply ev_I0) <;> try walk_at "ev")
  | ((with_reducible apply ev_B0) <;> try walk_at "ev")
  | ((with_reducible apply ev_IC) <;> try walk_at "ev")
  | ((with_reducible apply ev_neg) <;> try walk_at "ev")
  | ((with_reducible apply ev_chain) <;> try walk_at "ev")
  | ((with_reducible apply ev_isTup) <;> try walk_at "ev")
  | ((with_reducible apply ev_isInt) <;> try walk_at "ev")
  | ((with_reducible apply ev_isBool) <;> try walk_at "ev")
  | ((with_reducible apply ev_isStr) <;> try walk_at "ev")
  | ((with_reducible apply ev_isLst) <;> try walk_at "ev")
  | ((with_reducible apply ev_isN) <;> try walk_at "ev")
  | ((with_reducible apply ev_notN) <;> try walk_at "ev")
  | ((with_reducible apply ev_notB) <;> try walk_at "ev")
  | ((with_reducible apply ev_eq) <;> try walk_at "ev")
  | ((with_reducible apply ev_ne) <;> try walk_at "ev")
  | ((with_reducible apply ev_abs) <;> try walk_at "ev")
  | ((with_reducible apply ev_max) <;> try walk_at "ev")
  | ((with_reducible apply ev_bits) <;> try walk_at "ev")
  | ((with_reducible apply ev_gcd) <;> try walk_at "ev")
  | ((with_reducible apply ev_list) <;> try walk_at "ev")
  | ((with_reducible apply ev_tuple) <;> try walk_at "ev")
  | ((with_reducible apply ev_tup) <;> try walk_at "ev")
  | ((with_reducible apply ev_lst) <;> try walk_at "ev")
  | ((with_reducible apply ev_catT) <;> try walk_at "ev")
  | ((with_reducible apply ev_slice) <;> try walk_at "ev")
  | ((with_reducible apply eo_some) <;> try walk_at "ev")
  | ((with_reducible apply ev_notV) <;> try walk_at "ev")
  | ((with_reducible apply et_test) <;> try walk_at "ev")
  | ((with_reducible apply et_B) <;> try walk_at "ev")
  | ((with_reducible apply et_not) <;> try walk_at "ev")
  | ((with_reducible apply ev_lenT); (focus (walk_at "ev"; done)))
  | ((with_reducible apply ev_lenL); (focus (walk_at "ev"; done)))
  | ((with_reducible apply ev_intI); (focus (walk_at "ev"; done)))
  | ((with_reducible apply ev_intB); (focus (walk_at "ev"; done)))
  | ((with_reducible apply ev_ixT); (focus (walk_at "ev"; done)); (focus (walk_at "ev"; done)); (try first | rfl | assumption))
  | ((with_reducible apply ev_ixL); (focus (walk_at "ev"; done)); (focus (walk_at "ev"; done)); (try first | rfl | assumption))
  | ((with_reducible apply ev_call); (focus (walk_at "ev"; done))))
local macro_rules | `(tactic| walk_at "nx") => `(tactic| ((try dsimp only); (try ((with_reducible refine st_next ?_); (try dsimp only))); (try with_reducible refine st_seq ?_)))
section
variable {P : Program} {w : World} {K : PySem.W.Frag} {mg : Str → Option Value} {base : Heap} {f : Addr} {fd : FuncData} {C fI CO : Addr} {fdI : FuncData}
theorem sm_div {n : Nat} {i g : Int} (h : Sm n i) : Sm n (i / g) := Nat.lt_of_le_of_lt (Int.natAbs_ediv_le_natAbs i g) h
theorem sm_one {n : Nat} (h : 0 < n) : Sm n 1 := Nat.one_lt_two_pow (by omega)
theorem far_q {h : Int} {q : Int × Int} (hq : isQ (qD q) = true) : isQ (qD (far h q)) = true := by
  unfold far
  split
  · exact hq
  · have hb : 0 < q.2 := by have := isQ_b (a := q.1) (b := q.2) hq; omega
    have := low_q (t := q.2 - q.1) hb
    exact isQ_q this.1 this.2
theorem far_sm {h : Int} {q : Int × Int} (h1 : Sm 1000 q.1) (h2 : Sm 1000 q.2) : Sm 2000 (far h q).1 ∧ Sm 2000 (far h q).2 := by
  unfold far
  split
  · exact ⟨sm_mono h1 (by decide), sm_mono h2 (by decide)⟩
  · exact ⟨sm_div (sm_mono (sm_sub h2 h1) (by decide)), sm_div (sm_mono h2 (by decide))⟩
theorem ok_e_charge_fits (FR : Free mg) (A : At K mg "e_charge_fits" s_e_charge_fits P_e_charge_fits f fd) (c1 : Prm P w K mg base CX0 4 "minus" P_minus (SpR K Rminus)) (c2 : Prm P w K mg base CX0 4 "is_less" P_is_less (SpR K Rless)) : Prm P w K mg base CX0 5 "e_charge_fits" P_e_charge_fits (SpR K Rcfits) := by
  refine mk_prm A sc_e_charge_fits (fun ds d ⟨h, q, sl, e, _⟩ => by rw [e]; rfl) (dv_e_charge_fits FR c1 c2) ?_
  rintro vs ds d H Q hv ⟨h, q, sl, rfl, i1, i2, h1, h2, h3, h4, rfl⟩ hq
  obtain ⟨v, v2, v3, rfl, k, k2, k3⟩ := dpa3 hv
  unfold t_e_charge_fits
  walk_at "nx"
  by_cases e2 : h = 2
  · subst e2
    refine s_yes (b := true) (et_is (by walk_at "ev") (by rfl)) rfl pi0 fun H2 r2 => ?_
    exact s_ret (en_flat ev_bl rfl) r2.e0 hq
  · refine s_no (b := false) (et_is (by walk_at "ev") (by simp [eqv_int, e2])) rfl pi0 fun H2 r2 => ?_
    walk_at "nx"
    refine s_asg (K := K) (d := qD (far h q)) ?_ pi0 fun v4 H3 r3 k4 => ?_
    · refine evp_if (b := decide (h = 0)) (et_is (by walk_at "ev") (by simp [eqv_int])) (fun e => ?_) fun e => ?_
      · have : far h q = q := by unfold far; rw [if_pos (by simpa using e)]
        rw [this]
        exact ev_var rfl k2 r2
      · refine ev_is (ev_call (R := Rminus) (ds := [qD (1, 1), qD q]) (d := lowD (1 * q.2 - q.1 * 1) (1 * q.2)) (by unfold qD at k2 ⊢; walk_at "ev"; simp) ⟨1, 1, q.1, q.2, rfl, rfl, i1, sm_one (by decide), sm_one (by decide), sm_mono h1 (by decide), sm_mono h2 (by decide), rfl⟩) ?_
        unfold far lowD
        rw [if_neg (by simpa using e)]
        simp only [Int.one_mul, Int.mul_one]
        rfl
    walk_at "nx"
    have hf := far_sm (h := h) h1 h2
    have hi := far_q (h := h) i1
    refine s_ret (en_flat (d := .bool (fcharge h q sl)) ?_ rfl) (r2.trans r3).e0 hq
    unfold fcharge
    rw [if_neg e2]
    refine ev_notV (ev_call (by walk_at "ev") ⟨sl.1, sl.2, (far h q).1, (far h q).2, rfl, i2, hi, sm_mono h3 (by decide), sm_mono h4 (by decide), hf.1, hf.2, rfl⟩)
theorem isI_int {d : D} (h : isI d = true) : ∃ i, d = .int i := by
  cases d with
  | int i => exact ⟨i, rfl⟩
  | _ => cases h
theorem isBase_int {d : D} (h : isBase d = true) : ∃ i, d = .int i ∧ 2 ≤ i := by
  cases d with
  | int i => exact ⟨i, rfl, by simpa [isBase] using h⟩
  | _ => cases h
theorem bnd_base {wd : Str} {m : Int} {b g : D} (h : isBase b = false) : bnd wd m b g = .error "base" := by
  cases b with
  | int i =>
    have : ¬ 2 ≤ i := by simpa [isBase] using h
    cases g <;> simp [bnd, this]
  | _ => cases g <;> rfl
/-- a grade's test -/
theorem bnd_wd {wd : Str} {m b : Int} {g : D} (hb : 2 ≤ b) (h : ∀ s, g = .int s → ¬ (1 ≤ s ∧ s ≤ m)) : bnd wd m (.int b) g = .error wd := by
  cases g with
  | int s => simp only [bnd]; rw [if_pos hb, if_neg (h s rfl)]
  | _ => simp only [bnd]; rw [if_pos hb]
theorem okF_flow_bounds (FR : Free mg) (A : At K mg "flow_bounds" s_flow_bounds P_flow_bounds f fd) (c1 : Prm P w K mg base (L2.CX P w) 3 "e_ask" P_e_ask (SpX K C Rask)) (c2 : Prm P w K mg base CX0 2 "e_is_base" P_e_is_base (SpR K (R1B isBase)))
    (c3 : Prm P w K mg base CX0 1 "is_integer" P_is_integer (SpR K (R1B isI))) (c4 : Prm P w K mg base CX0 4 "e_span" P_e_span (SpR K Rspan)) : PrmF P w K mg base (L2.CX P w) 5 "flow_bounds" P_flow_bounds (SpX K C Rfb) f fd := by
  refine mk_prmXF (t := t_flow_bounds K C) A sc_flow_bounds (fun ds d ⟨b, g, e, _⟩ => by rw [e]; rfl) (dv_flow_bounds FR c1 c2 c3 c4) ?_
  rintro vs ds r H Q E hv ⟨b, g, rfl, hb, rfl⟩ hq hx
  obtain ⟨v, v2, rfl, k, k2⟩ := dpa2 hv
  unfold t_flow_bounds
  walk_at "nx"
  refine s_ask (b := isBase b) (ev_call (by walk_at "ev") ⟨b, rfl, rfl⟩) (Ex.refl _) (fun e H1 r1 => ?_) fun e => hx _ (bnd_base e)
  obtain ⟨i, rfl, hi⟩ := isBase_int e
  walk_at "nx"
  cases ei : isI g with
  | false =>
    refine s_ask (b := false) (ev_is (ev_andV (a := false) (b := true) (ev_call (by walk_at "ev") ⟨g, rfl, by rw [ei]⟩) fun z => nomatch z) rfl) r1.e0 (fun z => nomatch z) fun _ => hx _ (bnd_wd hi fun s e => by rw [e] at ei; cases ei)
  | true =>
    obtain ⟨s, rfl⟩ := isI_int ei
    refine s_ask (b := decide (1 ≤ s) && decide (s ≤ 6)) (ev_is (ev_andV (a := true) (b := decide (1 ≤ s) && decide (s ≤ 6)) (ev_call (by walk_at "ev") ⟨_, rfl, rfl⟩) fun z => ?_) (by rw [Bool.true_and])) r1.e0 (fun e H2 r2 => ?_) fun e => hx _ (bnd_wd hi fun s' e' => ?_)
    · exact ev_chain ev_int (by walk_at "ev") ev_int
    · have hs : 1 ≤ s ∧ s ≤ 6 := by simpa using e
      walk_at "nx"
      refine s_ret (en_call (d := spanD i s) (by walk_at "ev") ⟨i, s, rfl, by omega, hs.2, hb i rfl, rfl⟩) (r1.trans r2).e0 (hq _ ?_)
      show bnd _ _ _ _ = _
      simp only [bnd]
      rw [if_pos hi, if_pos hs]
    · cases e'
      simpa using e
theorem okF_room_bounds (FR : Free mg) (A : At K mg "room_bounds" s_room_bounds P_room_bounds f fd) (c1 : Prm P w K mg base (L2.CX P w) 3 "e_ask" P_e_ask (SpX K C Rask)) (c2 : Prm P w K mg base CX0 2 "e_is_base" P_e_is_base (SpR K (R1B isBase)))
    (c3 : Prm P w K mg base CX0 1 "is_integer" P_is_integer (SpR K (R1B isI))) (c4 : Prm P w K mg base CX0 4 "e_span" P_e_span (SpR K Rspan)) : PrmF P w K mg base (L2.CX P w) 5 "room_bounds" P_room_bounds (SpX K C Rrb) f fd := by
  refine mk_prmXF (t := t_room_bounds K C) A sc_room_bounds (fun ds d ⟨b, g, e, _⟩ => by rw [e]; rfl) (dv_room_bounds FR c1 c2 c3 c4) ?_
  rintro vs ds r H Q E hv ⟨b, g, rfl, hb, rfl⟩ hq hx
  obtain ⟨v, v2, rfl, k, k2⟩ := dpa2 hv
  unfold t_room_bounds
  walk_at "nx"
  refine s_ask (b := isBase b) (ev_call (by walk_at "ev") ⟨b, rfl, rfl⟩) (Ex.refl _) (fun e H1 r1 => ?_) fun e => hx _ (bnd_base e)
  obtain ⟨i, rfl, hi⟩ := isBase_int e
  walk_at "nx"
  cases ei : isI g with
  | false =>
    refine s_ask (b := false) (ev_is (ev_andV (a := false) (b := true) (ev_call (by walk_at "ev") ⟨g, rfl, by rw [ei]⟩) fun z => nomatch z) rfl) r1.e0 (fun z => nomatch z) fun _ => hx _ (bnd_wd hi fun s e => by rw [e] at ei; cases ei)
  | true =>
    obtain ⟨s, rfl⟩ := isI_int ei
    refine s_ask (b := decide (1 ≤ s) && decide (s ≤ 4)) (ev_is (ev_andV (a := true) (b := decide (1 ≤ s) && decide (s ≤ 4)) (ev_call (by walk_at "ev") ⟨_, rfl, rfl⟩) fun z => ?_) (by rw [Bool.true_and])) r1.e0 (fun e H2 r2 => ?_) fun e => hx _ (bnd_wd hi fun s' e' => ?_)
    · exact ev_chain ev_int (by walk_at "ev") ev_int
    · have hs : 1 ≤ s ∧ s ≤ 4 := by simpa using e
      walk_at "nx"
      refine s_ret (en_call (d := spanD i s) (by walk_at "ev") ⟨i, s, rfl, by omega, by omega, hb i rfl, rfl⟩) (r1.trans r2).e0 (hq _ ?_)
      show bnd _ _ _ _ = _
      simp only [bnd]
      rw [if_pos hi, if_pos hs]
    · cases e'
      simpa using e
theorem firstAt_some {n i : Nat} {bad : Nat → Bool} (hi : i < n) (hb : bad i = true) (h : ∀ j, j < i → bad j = false) : firstAt n bad = some i := by
  unfold firstAt
  rw [List.find?_range_eq_some]
  exact ⟨hb, List.mem_range.mpr hi, fun j hj => by rw [h j hj]; rfl⟩
theorem firstAt_none {n : Nat} {bad : Nat → Bool} (h : ∀ j, j < n → bad j = false) : firstAt n bad = none := by
  unfold firstAt
  rw [List.find?_eq_none]
  intro x hx
  rw [h x (List.mem_range.mp hx)]
  decide
end
end Ky
set_option Elab.async false
set_option linter.all false
set_option maxRecDepth 4000
set_option maxHeartbeats 4000000
namespace Ky
open PySem PySem.Spec PyProof.Rows L2
local macro_rules | `(tactic| walk_at "rl") => `(tactic| first | assumption | exact Rl.refl pi0 | exact Rl.refl (by assumption) | exact Rl.refl (Rl.pi (by assumption)) | (refine Rl.trans (by assumption) ?_; walk_at "rl"))
local macro_rules | `(tactic| walk_at "ev") => `(tactic| first
  | with_reducible exact ev_int | with_reducible exact ev_bl | with_reducible exact ev_str | with_reducible exact ev_non
  | ((with_reducible apply ev_var); (focus exact rfl); (focus assumption); (focus walk_at "rl"))
  | ((with_reducible apply ev_slot); (focus exact rfl); (focus first | exact fun _ => Dp.int _ | exact fun _ => Dp.bl _ | exact fun _ => Dp.str _ | exact fun _ => Dp.non))
  | with_reducible exact ea_nil | with_reducible exact eo_none | with_reducible exact et_yes
  | with_reducible exact sh_int | with_reducible exact sh_bool | with_reducible exact sh_non
  | ((with_reducible apply ea_cons) <;> try walk_at "ev")
  | ((with_reducible apply ev_I0) <;> try walk_at "ev")
  | ((with_reducible apply ev_B0) <;> try walk_at "ev")
  | ((with_reducible apply ev_IC) <;> try walk_at "ev")
  | ((with_reducible apply ev_neg) <;> try walk_at "ev")
  | ((with_reducible apply ev_chain) <;> try walk_at "ev")
  | ((with_reducible apply ev_isTup) <;> try walk_at "ev")
  | ((with_reducible apply ev_isInt) <;> try walk_at "ev")
  | ((with_reducible apply ev_isBool) <;> try walk_at "ev")
  | ((with_reducible apply ev_isStr) <;> try walk_at "ev")
  | ((with_reducible apply ev_isLst) <;> try walk_at "ev")
  | ((with_reducible apply ev_isN) <;> try walk_at "ev")
  | ((with_reducible apply ev_notN) <;> try walk_at "ev")
  | ((with_reducible apply ev_notB) <;> try walk_at "ev")
  | ((with_reducible apply ev_eq) <;> try walk_at "ev")
  | ((with_reducible apply ev_ne) <;> try walk_at "ev")
  | ((with_reducible apply ev_abs) <;> try walk_at "ev")
  | ((with_reducible apply ev_max) <;> try walk_at "ev")
  | ((with_reducible apply ev_bits) <;> try walk_at "ev")
  | ((with_reducible apply ev_gcd) <;> try walk_at "ev")
  | ((with_reducible apply ev_list) <;> try walk_at "ev")
  | ((with_reducible apply ev_tuple) <;> try walk_at "ev")
  | ((with_reducible apply ev_tup) <;> try walk_at "ev")
  | ((with_reducible apply ev_lst) <;> try walk_at "ev")
  | ((with_reducible apply ev_catT) <;> try walk_at "ev")
  | ((with_reducible apply ev_slice) <;> try walk_at "ev")
  | ((with_reducible apply eo_some) <;> try walk_at "ev")
  | ((with_reducible apply ev_notV) <;> try walk_at "ev")
  | ((with_reducible apply et_test) <;> try walk_at "ev")
  | ((with_reducible apply et_B) <;> try walk_at "ev")
  | ((with_reducible apply et_not) <;> try walk_at "ev")
  | ((with_reducible apply ev_lenT); (focus (walk_at "ev"; done)))
  | ((with_reducible apply ev_lenL); (focus (walk_at "ev"; done)))
  | ((with_reducible apply ev_intI); (focus (walk_at "ev"; done)))
  | ((with_reducible apply ev_intB); (focus (walk_at "ev"; done)))
  | ((with_reducible apply ev_ixT); (focus (walk_at "ev"; done)); (focus (walk_at "ev"; done)); (try first | rfl | assumption))
  | ((with_reducible apply ev_ixL); (focus (walk_at "ev"; done)); (focus (walk_at "ev"; done)); (try first | rfl | assumption))
  | ((with_reducible apply ev_call); (focus (walk_at "ev"; done))))
local macro_rules | `(tactic| walk_at "nx") => `(tactic| ((try dsimp only); (try ((with_reducible refine st_next ?_); (try dsimp only))); (try with_reducible refine st_seq ?_)))
section
variable {P : Program} {w : World} {K : PySem.W.Frag} {mg : Str → Option Value} {base : Heap} {f : Addr} {fd : FuncData} {C fI CO : Addr} {fdI : FuncData}
theorem wd_parts {c : Net} {b : Int} {fl rm ch : List (Int × Int)} (h : worldOk c (wdD b fl rm ch) = true) : 2 ≤ b ∧ fl.length = c.sws.length ∧ rm.length = c.tanks.length ∧ ch.length = c.n ∧ (∀ q, q ∈ ch → isQ (qD q) = true) := by
  unfold wdD worldOk at h
  simp only [Bool.and_eq_true] at h
  obtain ⟨⟨⟨h1, h2⟩, h3⟩, h4⟩ := h
  unfold qs areQ at h2 h3 h4
  simp only [Bool.and_eq_true, decide_eq_true_eq, List.length_map] at h2 h3 h4
  refine ⟨by simpa [isBase] using h1, h2.1, h3.1, h4.1, fun q hq => ?_⟩
  have := List.all_eq_true.mp h4.2 (qD q) (List.mem_map_of_mem hq)
  cases e : isQ (qD q) with
  | true => rfl
  | false => rw [isQf_f e] at this; cases this
theorem pos_len {c : Net} {is : List Int} (h : posOk c (nums is) = true) : is.length = c.sws.length := by
  unfold nums posOk at h
  simp only [Bool.and_eq_true, decide_eq_true_eq, List.length_map] at h
  exact h.1
theorem held_len {n : Nat} {is : List Int} (h : heldOk n (nums is) = true) : is.length = n := by
  unfold nums heldOk at h
  simp only [Bool.and_eq_true, decide_eq_true_eq, List.length_map] at h
  exact h.1.1.1
theorem slackOk_q {s : Int × Int} (h : slackOk (qD s) = true) : isQ (qD s) = true := by
  cases e : isQ (qD s) with
  | true => rfl
  | false => unfold slackOk at h; rw [isQf_f e] at h; cases h
theorem at_map {α : Type} {g : α → D} {l : List α} {i : Nat} {a : α} (h : l[i]? = some a) : atI (l.map g) (i : Int) = some (g a) := atI_nat (by rw [List.getElem?_map, h]; rfl)
theorem get_map {α : Type} {g : α → D} {l : List α} {i : Nat} {d : D} (h : (l.map g)[i]? = some d) : ∃ a, l[i]? = some a ∧ d = g a := by
  rw [List.getElem?_map] at h
  cases q : l[i]? with
  | none => rw [q] at h; cases h
  | some s => rw [q] at h; exact ⟨s, rfl, (Option.some.inj h).symm⟩
theorem get_lt {α : Type} {l : List α} {i : Nat} (h : i < l.length) : ∃ a, l[i]? = some a := ⟨l[i], List.getElem?_eq_getElem h⟩
theorem lt_get {α : Type} {l : List α} {i : Nat} {a : α} (h : l[i]? = some a) : i < l.length := (List.getElem?_eq_some_iff.mp h).1
theorem getD_of {α : Type} {l : List α} {i : Nat} {a b : α} (h : l[i]? = some a) : l.getD i b = a := by rw [List.getD_eq_getElem?_getD, h]; rfl
theorem flowBad_at {c : Net} {is : List Int} {b : Int} {fl : List (Int × Int)} {i : Nat} {s : Sw} {p : Int} {q : Int × Int} (h1 : c.sws[i]? = some s) (h2 : is[i]? = some p) (h3 : fl[i]? = some q) : flowBad c is b fl i = !fflow b s.strength p q := by
  unfold flowBad
  rw [h1, getD_of h2, getD_of h3]
  rfl
theorem roomBad_at {c : Net} {b : Int} {rm : List (Int × Int)} {i : Nat} {t : Str × Int} {q : Int × Int} (h1 : c.tanks[i]? = some t) (h3 : rm[i]? = some q) : roomBad c b rm i = !froom b t.2 q := by
  unfold roomBad
  rw [h1, getD_of h3]
  rfl
theorem chBad_at {c : Net} {hs : List Int} {ch : List (Int × Int)} {sl : Int × Int} {i : Nat} {h : Int} {q : Int × Int} (h1 : hs[i]? = some h) (h3 : ch[i]? = some q) : chBad c hs ch sl i = !fcharge h q (if c.feeds.length ≤ i then sl else (0, 1)) := by
  unfold chBad
  rw [getD_of h1, getD_of h3]
theorem below_next {bad : Nat → Bool} {i : Nat} (inv : ∀ j, j < i → bad j = false) (h : bad i = false) : ∀ j, j < i + 1 → bad j = false := fun j hj => by
  by_cases q : j < i
  · exact inv j q
  · have : j = i := by omega
    rw [this]; exact h
theorem okF_world_fault (FR : Free mg) (A : At K mg "world_fault" s_world_fault P_world_fault f fd) (c1 : Prm P w K mg base (L2.CX P w) 3 "e_ask" P_e_ask (SpX K C Rask)) (c2 : Prm P w K mg base CX0 3 "is_positions" P_is_positions (SpR K Rpos))
    (c3 : Prm P w K mg base CX0 4 "is_held" P_is_held (SpR K Rheld)) (c4 : Prm P w K mg base CX0 5 "is_world" P_is_world (SpR K Rworld)) (c5 : Prm P w K mg base CX0 2 "is_quotient" P_is_quotient (SpR K (R1B isQ)))
    (c6 : Prm P w K mg base CX0 5 "e_flow_fits" P_e_flow_fits (SpR K Rffits)) (c7 : Prm P w K mg base CX0 5 "e_room_fits" P_e_room_fits (SpR K Rrfits)) (c8 : Prm P w K mg base CX0 5 "e_charge_fits" P_e_charge_fits (SpR K Rcfits)) :
    PrmF P w K mg base (L2.CX P w) 6 "world_fault" P_world_fault (SpX K C Rwf) f fd := by
  refine mk_prmXF (t := t_world_fault K C) A sc_world_fault (fun ds d ⟨c, x, y, z, u, e, _⟩ => by rw [e]; rfl) (dv_world_fault FR c1 c2 c3 c4 c5 c6 c7 c8) ?_
  rintro vs ds r H Q E hv ⟨c, ps, hs, wd, sl, rfl, gd, hR⟩ hq hx
  obtain ⟨v, v1, v2, v3, v4, rfl, k, k1, k2, k3, k4⟩ := dpa5 hv
  have n2 : 2 ≤ c.n := Nat.le_trans gd.two (Nat.le_add_right _ _)
  unfold t_world_fault
  walk_at "nx"
  refine s_ask (b := posOk c ps) (ev_call (by walk_at "ev") ⟨c, ps, rfl, gd.kinds, rfl⟩) (Ex.refl _) (fun e1 H1 r1 => ?_) fun e => hx _ ?_
  case refine_2 =>
    rcases hR with ⟨_, h⟩ | ⟨h, _⟩ | ⟨h, _⟩ | ⟨h, _⟩ | ⟨is, hs', b, fl, rm, ch, s, rfl, rfl, rfl, rfl, S, _⟩
    · exact h
    · rw [e] at h; cases h
    · rw [e] at h; cases h
    · rw [e] at h; cases h
    · have := S.pos; rw [e] at this; cases this
  walk_at "nx"
  refine s_ask (b := heldOk c.n hs) (ev_call (by walk_at "ev") ⟨c, hs, rfl, n2, gd.small, rfl⟩) r1.e0 (fun e2 H2 r2 => ?_) fun e => hx _ ?_
  case refine_2 =>
    rcases hR with ⟨h, _⟩ | ⟨_, _, h⟩ | ⟨_, h, _⟩ | ⟨_, h, _⟩ | ⟨is, hs', b, fl, rm, ch, s, rfl, rfl, rfl, rfl, S, _⟩
    · rw [e1] at h; cases h
    · exact h
    · rw [e] at h; cases h
    · rw [e] at h; cases h
    · have := S.held; rw [e] at this; cases this
  walk_at "nx"
  refine s_ask (b := worldOk c wd) (ev_call (by walk_at "ev") ⟨c, wd, rfl, rfl⟩) (r1.trans r2).e0 (fun e3 H3 r3 => ?_) fun e => hx _ ?_
  case refine_2 =>
    rcases hR with ⟨h, _⟩ | ⟨_, h, _⟩ | ⟨_, _, _, h⟩ | ⟨_, _, h, _⟩ | ⟨is, hs', b, fl, rm, ch, s, rfl, rfl, rfl, rfl, S, _⟩
    · rw [e1] at h; cases h
    · rw [e2] at h; cases h
    · exact h
    · rw [e] at h; cases h
    · have := S.world; rw [e] at this; cases this
  walk_at "nx"
  have hsl : EvD K p0 (tAndV (tCall (SpR K (R1B isQ)) [] E0 (tCons (tVar 4) tNil)) (tOp (rI0 fun i j => .bl (decide (j ≤ i))) (tOp (rIx K) (tVar 4) (tC (.int 0))) (tC (.int 0)))) [some v, some v1, some v2, some v3, some v4, none, none, none, none, none, none, none, none, none, none] H3 (.bool (slackOk sl)) := by
    have hc : EvD K p0 (tCall (SpR K (R1B isQ)) [] E0 (tCons (tVar 4) tNil)) [some v, some v1, some v2, some v3, some v4, none, none, none, none, none, none, none, none, none, none] H3 (.bool (isQ sl)) := ev_call (by walk_at "ev") ⟨sl, rfl, rfl⟩
    cases q : isQ sl with
    | false =>
      rw [q] at hc
      exact ev_is (ev_andV (b := true) hc fun z => nomatch z) (by unfold slackOk; rw [isQf_f q]; rfl)
    | true =>
      obtain ⟨a, b, rfl, h1, h2, _⟩ := isQf_q q
      rw [q] at hc
      unfold qD at k4
      refine ev_is (ev_andV (b := decide (0 ≤ a)) hc fun _ => ?_) (by unfold slackOk; rw [isQf_ok, decide_eq_true h1, decide_eq_true h2]; simp)
      walk_at "ev"
  refine s_ask (b := slackOk sl) hsl ((r1.trans r2).trans r3).e0 (fun e4 H4 r4 => ?_) fun e => hx _ ?_
  case refine_2 =>
    rcases hR with ⟨h, _⟩ | ⟨_, h, _⟩ | ⟨_, _, h, _⟩ | ⟨_, _, _, _, h⟩ | ⟨is, hs', b, fl, rm, ch, s, rfl, rfl, rfl, rfl, S, _⟩
    · rw [e1] at h; cases h
    · rw [e2] at h; cases h
    · rw [e3] at h; cases h
    · exact h
    · have := S.slack; rw [e] at this; cases this
  obtain ⟨is, hh, b, fl, rm, ch, s, rfl, rfl, rfl, rfl, S, rfl⟩ : ∃ is hs' b fl rm ch s, ps = nums is ∧ hs = nums hs' ∧ wd = wdD b fl rm ch ∧ sl = qD s ∧ Stated c is hs' b fl rm ch s ∧ r = .ok (outD (faultP c is hs' b fl rm ch s)) := by
    rcases hR with ⟨h, _⟩ | ⟨_, h, _⟩ | ⟨_, _, h, _⟩ | ⟨_, _, _, h, _⟩ | h
    · rw [e1] at h; cases h
    · rw [e2] at h; cases h
    · rw [e3] at h; cases h
    · rw [e4] at h; cases h
    · exact h
  clear hR
  have hq := hq _ rfl
  obtain ⟨b2, lf, lr, lc, qc⟩ := wd_parts S.world
  have lp := pos_len S.pos
  have lh := held_len S.held
  have rA := (r1.trans r2).trans (r3.trans r4)
  have k' := dp_ex rA.ex k
  have k1' := dp_ex rA.ex k1
  have k2' := dp_ex rA.ex k2
  have k4' := dp_ex rA.ex k4
  unfold wdD at k3
  unfold netD at k'
  unfold nums at k1' k2'
  walk_at "nx"
  refine s_four (by walk_at "ev") pi0 fun v5 v6 v7 v8 H5 r5 k5 k6 k7 k8 => ?_
  unfold qs at k6 k7 k8
  walk_at "nx"
  refine s_forE (K := K) (ds := c.sws.map swD) (by walk_at "ev") pi0 (fun i σ' _ => (∃ a b, σ' = [some v, some v1, some v2, some v3, some v4, some v5, some v6, some v7, some v8, a, b, none, none, none, none]) ∧ ∀ j, j < i → flowBad c is b fl j = false)
    (fun H6 r6 => ⟨⟨none, none, rfl⟩, fun j hj => absurd hj (Nat.not_lt_zero j)⟩) ?_ ?_
  · rintro H6 r6 i x d σ' H7 H8 hd r7 ⟨⟨a0, b0, rfl⟩, inv⟩ r8 kx
    obtain ⟨sw, hsw, rfl⟩ := get_map hd
    have hi := lt_get hsw
    obtain ⟨p, hp⟩ := get_lt (l := is) (i := i) (by omega)
    obtain ⟨q, hqq⟩ := get_lt (l := fl) (i := i) (by omega)
    have hbad := flowBad_at (b := b) hsw hp hqq
    have sm := S.smF q (List.mem_of_getElem? hqq)
    have gs := gd.sw sw (List.mem_of_getElem? hsw)
    have rB := (r5.trans r6).trans (r7.trans r8)
    unfold swD at kx
    refine s_if (b := flowBad c is b fl i) (et_is (et_not (a := fflow b sw.strength p q) (et_B (ev_call (ds := [.int b, .int sw.strength, .int p, qD q]) ?_ ⟨b, sw.strength, p, q, rfl, by omega, gs.2, S.smB, sm_mono sm.1 (by decide), sm_mono sm.2 (by decide), rfl⟩))) hbad.symm) pi0 (fun e H9 r9 => ?_) fun e H9 r9 => ?_
    · walk_at "ev"
      · exact at_map hp
      · exact at_map hqq
    · have : faultP c is hh b fl rm ch s = some (("flow" : Str), i) := by
        unfold faultP
        rw [firstAt_some hi e inv]
        rfl
      rw [this] at hq
      refine s_ret (en_tup (ds := [.str "flow", .int (i : Int)]) (by walk_at "ev") rfl (by simp)) ((rA.trans rB).trans r9).e0 hq
    · exact ⟨(r7.trans r8).trans r9, ⟨_, _, rfl⟩, below_next inv e⟩
  rintro σ' H6 r6 ⟨⟨a0, b0, rfl⟩, inv⟩
  rw [List.length_map] at inv
  have f1 := firstAt_none inv
  clear inv
  walk_at "nx"
  refine s_forE (K := K) (ds := c.tanks.map tkD) (by walk_at "ev") pi0 (fun i σ' _ => (∃ a b d, σ' = [some v, some v1, some v2, some v3, some v4, some v5, some v6, some v7, some v8, a, b, d, none, none, none]) ∧ ∀ j, j < i → roomBad c b rm j = false)
    (fun H6 r6 => ⟨⟨_, _, none, rfl⟩, fun j hj => absurd hj (Nat.not_lt_zero j)⟩) ?_ ?_
  · rintro H6' r6' i x d σ' H7 H8 hd r7 ⟨⟨a0, b0, d0, rfl⟩, inv⟩ r8 kx
    obtain ⟨t, ht, rfl⟩ := get_map hd
    have hi := lt_get ht
    obtain ⟨q, hqq⟩ := get_lt (l := rm) (i := i) (by omega)
    have hbad := roomBad_at (b := b) ht hqq
    have sm := S.smR q (List.mem_of_getElem? hqq)
    have gs := gd.tk t (List.mem_of_getElem? ht)
    have rB := (r5.trans r6).trans ((r6'.trans r7).trans r8)
    unfold tkD at kx
    refine s_if (b := roomBad c b rm i) (et_is (et_not (a := froom b t.2 q) (et_B (ev_call (ds := [.int b, .int t.2, qD q]) ?_ ⟨b, t.2, q, rfl, by omega, by omega, S.smB, sm_mono sm.1 (by decide), sm_mono sm.2 (by decide), rfl⟩))) hbad.symm) pi0 (fun e H9 r9 => ?_) fun e H9 r9 => ?_
    · walk_at "ev"
      exact at_map hqq
    · have : faultP c is hh b fl rm ch s = some (("room" : Str), i) := by
        unfold faultP
        rw [f1, firstAt_some hi e inv]
        rfl
      rw [this] at hq
      refine s_ret (en_tup (ds := [.str "room", .int (i : Int)]) (by walk_at "ev") rfl (by simp)) ((rA.trans rB).trans r9).e0 hq
    · exact ⟨(r7.trans r8).trans r9, ⟨_, _, _, rfl⟩, below_next inv e⟩
  rintro σ' H7 r7 ⟨⟨a0, b0, d0, rfl⟩, inv⟩
  rw [List.length_map] at inv
  have f2 := firstAt_none inv
  clear inv
  walk_at "nx"
  have rC := (r5.trans r6).trans r7
  have k8' := dp_ex (r6.trans r7).ex k8
  have k'' := dp_ex rC.ex k'
  have k2'' := dp_ex rC.ex k2'
  have k4'' := dp_ex rC.ex k4'
  refine s_forE (K := K) (ds := ch.map qD) (by walk_at "ev") pi0 (fun i σ' _ => (∃ e g h, σ' = [some v, some v1, some v2, some v3, some v4, some v5, some v6, some v7, some v8, a0, b0, d0, e, g, h]) ∧ ∀ j, j < i → chBad c hh ch s j = false)
    (fun H6 r6 => ⟨⟨none, none, none, rfl⟩, fun j hj => absurd hj (Nat.not_lt_zero j)⟩) ?_ ?_
  · rintro H6' r6' i x d σ' H8 H9 hd r8 ⟨⟨e0, g0, h0, rfl⟩, inv⟩ r9 kx
    obtain ⟨q, hqq, rfl⟩ := get_map hd
    have hi := lt_get hqq
    obtain ⟨h, hh1⟩ := get_lt (l := hh) (i := i) (by omega)
    have hbad := chBad_at (c := c) (sl := s) hh1 hqq
    have sm := S.smC q (List.mem_of_getElem? hqq)
    have rB := (r6'.trans r8).trans r9
    walk_at "nx"
    refine s_asg (K := K) (d := qD (if c.feeds.length ≤ i then s else (0, 1))) ?_ pi0 fun v9 H10 r10 k9 => ?_
    · refine evp_if (b := decide (c.feeds.length ≤ i)) (et_is (et_test (K := K) (ev_B0 (i := (i : Int)) (j := ((c.feeds.map PyData.str).length : Int)) (by walk_at "ev") (ev_lenT (ds := c.feeds.map PyData.str) (by walk_at "ev")))) (by simp)) (fun e => ?_) fun e => ?_
      · rw [if_pos (by simpa using e)]
        walk_at "ev"
      · rw [if_neg (by simpa using e)]
        refine ev_tup (ds := [.int 0, .int 1]) (by walk_at "ev") (by simp)
    walk_at "nx"
    have sm2 : Sm 1000 (if c.feeds.length ≤ i then s else (0, 1)).1 ∧ Sm 1000 (if c.feeds.length ≤ i then s else (0, 1)).2 := by
      split
      · exact S.smS
      · exact ⟨sm_zero (by decide), sm_one (by decide)⟩
    have iq2 : isQ (qD (if c.feeds.length ≤ i then s else (0, 1))) = true := by
      split
      · exact slackOk_q S.slack
      · rfl
    refine s_if (b := chBad c hh ch s i) (et_is (et_not (a := fcharge h q (if c.feeds.length ≤ i then s else (0, 1))) (et_B (ev_call (ds := [.int h, qD q, qD (if c.feeds.length ≤ i then s else (0, 1))]) ?_ ⟨h, q, _, rfl, qc q (List.mem_of_getElem? hqq), iq2, sm.1, sm.2, sm2.1, sm2.2, rfl⟩))) hbad.symm) pi0 (fun e H11 r11 => ?_) fun e H11 r11 => ?_
    · walk_at "ev"
      exact at_map hh1
    · have : faultP c is hh b fl rm ch s = some (("charge" : Str), i) := by
        unfold faultP
        rw [f1, f2, firstAt_some (by omega) e inv]
        rfl
      rw [this] at hq
      refine s_ret (en_tup (ds := [.str "charge", .int (i : Int)]) (by walk_at "ev") rfl (by simp)) ((rA.trans rC).trans ((rB.trans r10).trans r11)).e0 hq
    · exact ⟨(r8.trans r9).trans (r10.trans r11), ⟨_, _, _, rfl⟩, below_next inv e⟩
  rintro σ' H8 r8 ⟨⟨e0, g0, h0, rfl⟩, inv⟩
  rw [List.length_map, lc] at inv
  have f3 := firstAt_none inv
  have : faultP c is hh b fl rm ch s = none := by
    unfold faultP
    rw [f1, f2, f3]
    rfl
  rw [this] at hq
  walk_at "nx"
  exact s_ret (en_flat ev_non rfl) ((rA.trans rC).trans r8).e0 hq
end

end Ky
set_option Elab.async false
set_option linter.all false
set_option maxRecDepth 4000
set_option maxHeartbeats 4000000
namespace Ky
open PySem PySem.Spec PyProof.Rows L2
section
variable {K : PySem.W.Frag} {p : Pw} {σ : L2.St} {H : Hp} {ta tb te tl : TE} {t : TT} {F : Ends} {P : D → Prop}
/-- a list that is new -/
def EvL (K : PySem.W.Frag) (p : Pw) (te : TE) (σ : L2.St) (H : Hp) (A : List D → Prop) : Prop := ∀ H1, Rl p H H1 → ∀ Q : VK, (∀ a xs ds H2, Rl p H1 H2 → H1 a = none → H2 a = some (.lst xs) → A ds → DpAll K (vw p H2) xs ds → Q (.ref a) H2) → te σ H1 Q
theorem evp_ofL {A : List D → Prop} (h : EvL K p te σ H A) : EvP K p te σ H fun d => ∃ ds, d = .list ds ∧ A ds := fun H1 r1 Q q =>
  h H1 r1 Q fun a xs ds H2 r2 hn e pa k => q _ _ H2 r2 ⟨ds, rfl, pa⟩ (.lst (SqL.of (vw_of (vw_at r1.pi hn) e)) k)
theorem evl_imp {A B : List D → Prop} (h : EvL K p te σ H A) (i : ∀ ds, A ds → B ds) : EvL K p te σ H B := fun H1 r1 Q q =>
  h H1 r1 Q fun a xs ds H2 r2 hn e pa k => q a xs ds H2 r2 hn e (i ds pa) k
theorem evl_lst {ta : TA} {A : List D → Prop} (h : EvAP K p ta σ H A) (hl : ∀ ds, A ds → ds.length ≤ 100000) : EvL K p (tLst ta) σ H A := fun H1 r1 Q q =>
  h H1 r1 _ fun vs ds H2 r2 pd kd => by
    refine ⟨Evl.sz_of (by rw [dpa_len kd]; exact hl ds pd), fun a ha => ?_⟩
    have rn : Rl p H2 (upd H2 a (.lst vs)) := Rl.new r2.pi ha
    exact q _ _ _ _ (r2.trans rn) (Rl.free r1.pi r2 ha) upd_same pd (dpa_ex rn.ex kd)
theorem evl_cat {A B : List D → Prop} (ha : EvL K p ta σ H A) (hb : EvL K p tb σ H B) (hl : ∀ ds es, A ds → B es → ds.length + es.length ≤ 100000) :
    EvL K p (tOp rCat ta tb) σ H fun r => ∃ ds es, r = ds ++ es ∧ A ds ∧ B es := fun H1 r1 Q q =>
  ha H1 r1 _ fun a xs ds H2 r2 na ea pa ka => hb H2 (r1.trans r2) _ fun b ys es H3 r3 nb eb pb kb => by
    refine ⟨a, b, xs, ys, rfl, rfl, r3.keep ea (vw_at r1.pi na).1, eb, Evl.sz_of (by rw [dpa_len ka, dpa_len kb]; exact hl ds es pa pb), fun l hl' => ?_⟩
    have rn : Rl p H3 (upd H3 l (.lst (xs ++ ys))) := Rl.new r3.pi hl'
    exact q _ _ _ _ ((r2.trans r3).trans rn) (Rl.free r1.pi (r2.trans r3) hl') upd_same ⟨ds, es, rfl, pa, pb⟩ (dpa_append (dpa_ex (r3.trans rn).ex ka) (dpa_ex rn.ex kb))
theorem lc_doneL {a : Addr} {H0 H1 H' : Hp} {Acc : Nat → List D → Prop} {n : Nat} {Q : VK} (w0 : Wl p H0) (r1 : Rl p H0 H1) (hn : H1 a = none) (inv : LcInv K p a H1 Acc n H')
    (q : ∀ a xs ds H2, Rl p H0 H2 → H0 a = none → H2 a = some (.lst xs) → Acc n ds → DpAll K (vw p H2) xs ds → Q (.ref a) H2) : Q (.ref a) H' := by
  obtain ⟨r2, xs, acc, e1, l1, k1, a1⟩ := inv
  exact q _ _ _ H' (r1.trans (rl_unmut hn r2)) (Rl.free w0 r1 hn) e1 a1 (dpa_ex vw_unmut k1)
theorem evl_lcT {ds : List D} {j : Nat} {vs : List Nat} (Acc : Nat → List D → Prop) (h : EvD K p tl σ H (.tuple ds)) (hl : ds.length ≤ 100000) (hw : ∀ x, wipe ((wipe σ vs).set j (some x)) vs = wipe σ vs) (a0 : Acc 0 [])
    (hs : ∀ H0, Rl p H H0 → ∀ i x d, ds[i]? = some d → LcTurn K p t te ((wipe σ vs).set j (some x)) H0 x d Acc i) : EvL K p (tLc (iTup K tl) (gName j) t te vs) σ H (Acc ds.length) := fun H0 r0 Q q =>
  h H0 r0 _ fun x d H1 r1 ed kd => by
    subst ed
    cases kd with
    | @tup a xs _ hsq hv =>
      have hlen := dpa_len hv
      refine ⟨a, rfl, ⟨xs, Evl.ex_t vw_sub hsq⟩, fun Dl hD => ?_⟩
      refine lc_tup (xs := xs) (fun i H' => LcInv K p Dl H1 Acc i H') (lc_start r1.pi hD a0) (fun i H' _ inv => sqt_rl (rl_unmut hD inv.1) hsq) (fun i x H' hx inv => ?_) (fun H' inv => ?_)
      · obtain ⟨d, hd1, kd⟩ := dpa_getv hv hx
        have hi : i < xs.length := (List.getElem?_eq_some_iff.mp hx).1
        exact ⟨hw x, lc_turn (Rl.refl r1.pi) hD (by omega) inv (fun _ => .inr trivial) (dp_ex (vw_behind hD (rl_unmut hD inv.1).ex) kd) (hs H1 (r0.trans r1) i x d hd1)⟩
      · rw [hlen] at inv
        exact lc_doneL r0.pi r1 hD inv q
theorem evl_lcL {ds : List D} {j : Nat} {vs : List Nat} (Acc : Nat → List D → Prop) (h : EvD K p tl σ H (.list ds)) (hl : ds.length ≤ 100000) (hw : ∀ x, wipe ((wipe σ vs).set j (some x)) vs = wipe σ vs) (a0 : Acc 0 [])
    (hs : ∀ H0, Rl p H H0 → ∀ i x d, ds[i]? = some d → LcTurn K p t te ((wipe σ vs).set j (some x)) H0 x d Acc i) : EvL K p (tLc (iList K tl) (gName j) t te vs) σ H (Acc ds.length) := fun H0 r0 Q q =>
  h H0 r0 _ fun x d H1 r1 ed kd => by
    subst ed
    cases kd with
    | @lst a xs _ hsq hv =>
      have hlen := dpa_len hv
      refine ⟨a, rfl, ⟨xs, Evl.ex_l vw_sub hsq⟩, fun Dl hD => ?_⟩
      refine lc_list (xs := xs) (fun i H' => LcInv K p Dl H1 Acc i H') (lc_start r1.pi hD a0) (fun i H' _ inv => sql_rl (rl_unmut hD inv.1) hsq) (fun i x H' hx inv => ?_) (fun H' inv => ?_)
      · obtain ⟨d, hd1, kd⟩ := dpa_getv hv hx
        have hi : i < xs.length := (List.getElem?_eq_some_iff.mp hx).1
        exact ⟨hw x, lc_turn (Rl.refl r1.pi) hD (by omega) inv (fun _ => .inr trivial) (dp_ex (vw_behind hD (rl_unmut hD inv.1).ex) kd) (hs H1 (r0.trans r1) i x d hd1)⟩
      · rw [hlen] at inv
        exact lc_doneL r0.pi r1 hD inv q
theorem evl_lcR {n : Int} {j : Nat} {vs : List Nat} (Acc : Nat → List D → Prop) (h : EvD K p tl σ H (.int n)) (hl : n ≤ 100000) (hl0 : 0 ≤ n) (hw : ∀ x, wipe ((wipe σ vs).set j (some x)) vs = wipe σ vs) (a0 : Acc 0 [])
    (hs : ∀ H0, Rl p H H0 → ∀ i : Nat, (i : Int) < n → LcTurn K p t te ((wipe σ vs).set j (some (.int (i : Int)))) H0 (.int (i : Int)) (.int (i : Int)) Acc i) : EvL K p (tLc (iRng1 (tCons tl tNil)) (gName j) t te vs) σ H (Acc n.toNat) := fun H0 r0 Q q =>
  h H0 r0 _ fun x d H1 r1 ed kd => by
    subst ed
    refine ⟨n, by rw [dp_int kd], by omega, by omega, fun Dl hD => ?_⟩
    refine lc_range (lo := 0) (n := n.toNat) (fun i H' => LcInv K p Dl H1 Acc i H') (lc_start r1.pi hD a0) (fun i H' hi inv => ?_) (fun H' inv => ?_)
    · have e0 : (0 : Int) + (i : Int) = (i : Int) := Int.zero_add _
      show wipe ((wipe σ vs).set j (some (.int ((0 : Int) + (i : Int))))) vs = wipe σ vs ∧ t ((wipe σ vs).set j (some (.int ((0 : Int) + (i : Int))))) H' fun b H3 => if b = true then te ((wipe σ vs).set j (some (.int ((0 : Int) + (i : Int))))) H3 fun y H4 => ∃ acc, H4 Dl = some (.lst acc) ∧ acc.length < sizeLine ∧ LcInv K p Dl H1 Acc (i + 1) (upd H4 Dl (.lst (acc ++ [y]))) else LcInv K p Dl H1 Acc (i + 1) H3
      rw [e0]
      exact ⟨hw _, lc_turn (Rl.refl r1.pi) hD (by omega) inv (fun _ => .inr trivial) (.int _) (hs H1 (r0.trans r1) i (by omega))⟩
    · exact lc_doneL r0.pi r1 hD inv q
theorem s_asgL {i : Nat} {A : List D → Prop} (h : EvL K p te σ H A) (pi : Wl p H) (k : ∀ a xs ds H1, Rl p H H1 → H a = none → H1 a = some (.lst xs) → A ds → DpAll K (vw p H1) xs ds → F.nx (σ.set i (some (.ref a))) H1) : tAsg te (gName i) F σ H := h H (Rl.refl pi) _ k
theorem dpa_nums {K : PySem.W.Frag} {H : Hp} : ∀ {vs : List V} {is : List Int}, DpAll K H vs (is.map PyData.int) → vs = is.map V.int
  | [], [], _ => rfl
  | _, [], h => by cases h; rfl
  | _, i :: is, h => by
    cases h with
    | cons k h => rw [dp_int k, dpa_nums h]; rfl
theorem dpa_ofnums {K : PySem.W.Frag} {H : Hp} : ∀ {is : List Int}, DpAll K H (is.map V.int) (is.map PyData.int)
  | [] => .nil
  | _ :: _ => .cons (.int _) dpa_ofnums
/-! ### the pool is written -/
theorem pool_in {q : Addr × Addr × Addr} (hp : p.pl = some q) : q.1 ∈ opl p := by
  unfold opl
  rw [hp]
  exact List.mem_cons_self
theorem pool_set {q : Addr × Addr × Addr} {xs : List V} (hp : p.pl = some q) (h : Wl p H) (ok : PoolAt q (upd H q.1 (.lst xs))) : Rl p H (upd H q.1 (.lst xs)) := by
  refine ⟨fun b o hb => ?_, ?_, fun a ha => ?_, fun a ha => ?_⟩
  · obtain ⟨h1, h2⟩ := ew_some hb
    have : b ≠ q.1 := fun z => h1 (by rw [z]; exact pool_in hp)
    exact ew_of h1 (by rw [upd_ne this]; exact h2)
  · rw [hp]; exact ok
  · by_cases z : a = q.1
    · rw [z]; exact ⟨_, upd_same⟩
    · rw [upd_ne z]; exact h.mt a ha
  · by_cases z : a = q.1
    · rw [z]; exact ⟨_, upd_same⟩
    · rw [upd_ne z]; exact h.hd a ha
theorem s_setI {i : Nat} {k z : Int} {j : Nat} {a : Addr} {xs : List V} (h : EvD K p0 te σ H (.int z)) (hσ : σ[i]? = some (some (.ref a))) (e : H a = some (.lst xs)) (hj : ixN xs.length k = some j)
    (kk : ∀ H1, Ex H H1 → F.nx σ (upd H1 a (.lst (xs.set j (.int z))))) : tAsg te (gSub (tVar i) (tC (.int k)) rSetL) F σ H := h H (Rl.refl pi0) _ fun v d H1 r1 ed kd => by
  subst ed
  rw [dp_int kd]
  exact ⟨_, hσ, a, xs, k, j, rfl, rfl, r1.e0 _ _ e, hj, kk H1 r1.e0⟩
end
/-- a promise that draws from the pool -/
theorem mk_prmG {P : Program} {w : World} {K : PySem.W.Frag} {mg : Str → Option Value} {base : Heap} {k : Nat} {x : Str} {st : Stmt} {N ps : List Str} {f : Addr} {fd : FuncData} {Pre : List D → Prop} {Post : List D → D → Prop} {t : TS}
    (A : At K mg x st ps f fd) (S : FnScope N ps (defScope st)) (len : ∀ ds, Pre ds → ds.length + 1 = ps.length)
    (dv : ∀ {f : Addr} {cdv : Value} {A : Around} {outer : List Env} {s : Shared} {H : Hp} {E : XK}, Room k (A.deeper (envOfC x (defScope st) s.heap.objs.size f cdv)) → PSs (cxOf CX0 P w K mg base N x (defScope st) f cdv A outer s H E).nox (defBody st) t)
    (rd : ∀ (p : Pw) (q : Addr × Addr × Addr) vs ds H (Q : VK), p.pl = some q → Wl p H → DpAll K (vw p H) vs ds → Pre ds → (∀ v d H', Rl p H H' → Post ds d → Dp K (vw p H') v d → Q v H') → t { nx := fun _ H' => Q .non H', rt := Q } (start N (.ref q.1 :: vs)) H) :
    Prm P w K mg base CX0 (k + 1) x ps (SpG K Pre Post) := by
  refine ⟨f, fd, A.g, A.fn.kp, A.b, A.fn.ok S (fun vs H Q E h => ?_) fun cdv Ar outer s H vs Q E hr h => ?_⟩
  · obtain ⟨p, q, vs', ds, rfl, _, _, h1, h2, _⟩ := h
    show vs'.length + 1 = _
    rw [dpa_len h1]
    exact len ds h2
  · obtain ⟨p, q, vs', ds, rfl, h0, hw, h1, h2, h3⟩ := h
    exact ⟨t, dv hr, rd p q vs' ds H Q h0 hw h1 h2 h3⟩
end Ky
set_option Elab.async false
set_option linter.all false
set_option maxRecDepth 4000
set_option maxHeartbeats 4000000
namespace Ky
open PySem PySem.Spec PyProof.Rows L2
local macro_rules | `(tactic| walk_at "rl") => `(tactic| first | assumption | exact Rl.refl pi0 | exact Rl.refl (by assumption) | exact Rl.refl (Rl.pi (by assumption)) | (refine Rl.trans (by assumption) ?_; walk_at "rl"))
local macro_rules | `(tactic| walk_at "ev") => `(tactic| first
  | with_reducible exact ev_int | with_reducible exact ev_bl | with_reducible exact ev_str | with_reducible exact ev_non
  | ((with_reducible apply ev_var); (focus exact rfl); (focus assumption); (focus walk_at "rl"))
  | ((with_reducible apply ev_slot); (focus exact rfl); (focus first | exact fun _ => Dp.int _ | exact fun _ => Dp.bl _ | exact fun _ => Dp.str _ | exact fun _ => Dp.non))
  | with_reducible exact ea_nil | with_reducible exact eo_none | with_reducible exact et_yes
  | with_reducible exact sh_int | with_reducible exact sh_bool | with_reducible exact sh_non
  | ((with_reducible apply ea_cons) <;> try walk_at "ev")
  | ((with_reducible apply ev_I0) <;> try walk_at "ev")
  | ((with_reducible apply ev_B0) <;> try walk_at "ev")
  | ((with_reducible apply ev_IC) <;> try walk_at "ev")
  | ((with_reducible apply ev_neg) <;> try walk_at "ev")
  | ((with_reducible apply ev_chain) <;> try walk_at "ev")
  | ((with_reducible apply ev_isTup) <;> try walk_at "ev")
  | ((with_reducible apply ev_isInt) <;> try walk_at "ev")
  | ((with_reducible apply ev_isBool) <;> try walk_at "ev")
  | ((with_reducible apply ev_isStr) <;> try walk_at "ev")
  | ((with_reducible apply ev_isLst) <;> try walk_at "ev")
  | ((with_reducible apply ev_isN) <;> try walk_at "ev")
  | ((with_reducible apply ev_notN) <;> try walk_at "ev")
  | ((with_reducible apply ev_notB) <;> try walk_at "ev")
  | ((with_reducible apply ev_eq) <;> try walk_at "ev")
  | ((with_reducible apply ev_ne) <;> try walk_at "ev")
  | ((with_reducible apply ev_abs) <;> try walk_at "ev")
  | ((with_reducible apply ev_max) <;> try walk_at "ev")
  | ((with_reducible apply ev_bits) <;> try walk_at "ev")
  | ((with_reducible apply ev_gcd) <;> try walk_at "ev")
  | ((with_reducible apply ev_list) <;> try walk_at "ev")
  | ((with_reducible apply ev_tuple) <;> try walk_at "ev")
  | ((with_reducible apply ev_tup) <;> try walk_at "ev")
  | ((with_reducible apply ev_lst) <;> try walk_at "ev")
  | ((with_reducible apply ev_catT) <;> try walk_at "ev")
  | ((with_reducible apply ev_slice) <;> try walk_at "ev")
  | ((with_reducible apply eo_some) <;> try walk_at "ev")
  | ((with_reducible apply ev_notV) <;> try walk_at "ev")
  | ((with_reducible apply et_test) <;> try walk_at "ev")
  | ((with_reducible apply et_B) <;> try walk_at "ev")
  | ((with_reducible apply et_not) <;> try walk_at "ev")
  | ((with_reducible apply ev_lenT); (focus (walk_at "ev"; done)))
  | ((with_reducible apply ev_lenL); (focus (walk_at "ev"; done)))
  | ((with_reducible apply ev_intI); (focus (walk_at "ev"; done)))
  | ((with_reducible apply ev_intB); (focus (walk_at "ev"; done)))
  | ((with_reducible apply ev_ixT); (focus (walk_at "ev"; done)); (focus (walk_at "ev"; done)); (try first | rfl | assumption))
  | ((with_reducible apply ev_ixL); (focus (walk_at "ev"; done)); (focus (walk_at "ev"; done)); (try first | rfl | assumption))
  | ((with_reducible apply ev_call); (focus (walk_at "ev"; done))))
local macro_rules | `(tactic| walk_at "nx") => `(tactic| ((try dsimp only); (try ((with_reducible refine st_next ?_); (try dsimp only))); (try with_reducible refine st_seq ?_)))
section
variable {P : Program} {w : World} {K : PySem.W.Frag} {mg : Str → Option Value} {base : Heap} {f : Addr} {fd : FuncData}
theorem ok_law_pool (FR : Free mg) (A : At K mg "_law_pool" s_law_pool P_law_pool f fd) : Prm P w K mg base CX0 1 "_law_pool" P_law_pool (spPool K) := by
  refine ⟨f, fd, A.g, A.fn.kp, A.b, A.fn.ok sc_law_pool (fun vs H Q E h => ?_) fun cdv Ar outer s H vs Q E hr h => ?_⟩
  · obtain ⟨a, ns, rfl, _⟩ := h
    rfl
  obtain ⟨a, ns, rfl, hs, hl, hq⟩ := h
  refine ⟨_, dv_law_pool FR hr, ?_⟩
  have k : Dp K H (.ref a) (.list (ns.map PyData.int)) := .lst hs dpa_ofnums
  show t_law_pool K _ [some (.ref a), none, none] H
  unfold t_law_pool
  walk_at "nx"
  refine s_asgL (K := K) (evl_cat (A := fun ds => ∃ cs : List Int, ds = cs.map PyData.int ∧ cs.length ≤ 1000) (B := fun ds => ds = [.int 41]) ?_ (evl_lst (by walk_at "ev") (fun ds e => by rw [e]; simp)) (fun ds es ⟨cs, h, hl⟩ e => by rw [h, e, List.length_map]; show cs.length + 1 ≤ _; omega)) pi0 fun b xs ds H1 r1 nb eb ⟨ds1, es1, hds, ⟨cs, hcs, _⟩, hes⟩ kb => ?_
  · refine evl_imp (evl_lcL (ds := ns.map PyData.int) (fun i es => ∃ cs : List Int, es = cs.map PyData.int ∧ cs.length ≤ i) (by walk_at "ev") (by rw [List.length_map]; omega) (wipe_one _) ⟨[], rfl, Nat.le_refl _⟩ ?_) fun ds ⟨cs, h1, h2⟩ => ⟨cs, h1, by rw [List.length_map] at h2; omega⟩
    intro H0 r0 i x d hd p' H' _ _ _ kx acc ⟨cs, hcs, hi⟩
    obtain ⟨z, _, rfl⟩ := get_map hd
    refine ⟨true, et_yes, fun _ => ⟨fun e => e = .int (if z < 0 then -z else z), ?_, fun e he => ⟨cs ++ [if z < 0 then -z else z], by rw [hcs, he]; simp, by rw [List.length_append]; show cs.length + 1 ≤ _; omega⟩⟩, fun z => nomatch z⟩
    refine ev_abs (ev_intI ?_)
    exact ev_var rfl kx (Rl.refl ‹_›)
  have hx : xs = (cs ++ [41]).map V.int := dpa_nums (K := K) (H := H1) (by have kb' : DpAll K H1 xs ds := kb; rw [hds, hcs, hes] at kb'; simpa using kb')
  subst hx
  walk_at "nx"
  refine ⟨_, rfl, ?_⟩
  have hlen : (cs ++ [41]).length ≤ 100000 := by
    have := dpa_len kb
    rw [hds, hcs, hes] at this
    rw [List.length_append]
    show cs.length + 1 ≤ _
    omega
  have kd : Dp K H1 (.ref b) (.list ((cs ++ [41]).map PyData.int)) := .lst (SqL.of eb) dpa_ofnums
  refine evl_lcL (p := p0) (K := K) (H := H1) (ds := (cs ++ [41]).map PyData.int) (fun i es => ∃ bs : List Int, es = bs.map PyData.int ∧ ∀ z, z ∈ bs → 0 < z) (by walk_at "ev") (by rw [List.length_map]; exact hlen) (wipe_one _) ⟨[], rfl, fun _ h => nomatch h⟩ ?_ H1 (Rl.refl pi0) _ ?_
  · intro H0 r0 i x d hd p' H' _ w' _ kx acc ⟨bs, hbs, hpos⟩
    obtain ⟨z, _, rfl⟩ := get_map hd
    refine ⟨decide ((10 : Int) ^ (18 : Int).toNat ≤ z), ?_, fun hz => ⟨fun e => e = .int z, ?_, fun e he => ⟨bs ++ [z], by rw [hbs, he]; simp, fun y hy => ?_⟩⟩, fun _ => ⟨bs, hbs, hpos⟩⟩
    · refine et_test (K := K) (ev_B0 (i := z) (j := (10 : Int) ^ (18 : Int).toNat) (ev_var rfl kx (Rl.refl w')) (ev_IC (f := fun i j => i ^ j.toNat) (i := 10) (j := 18) ev_int ev_int ⟨by decide, by decide, by decide⟩))
    · exact ev_var rfl kx (Rl.refl w')
    · rcases List.mem_append.mp hy with h | h
      · exact hpos y h
      · have : y = z := by simpa using h
        rw [this]
        have h18 : (10 : Int) ^ (18 : Int).toNat ≤ z := by simpa using hz
        have : (0 : Int) < (10 : Int) ^ (18 : Int).toNat := by decide
        omega
  intro c ys es H2 r2 nc ec ⟨bs, hbs, hpos⟩ kc
  have hy : ys = bs.map V.int := dpa_nums (K := K) (H := H2) (by rw [← hbs]; exact kc)
  subst hy
  refine ⟨by show 6 ≤ _; decide, fun l hl' => ?_⟩
  have eb2 : H2 b = some (.lst ((cs ++ [41]).map V.int)) := r2.e0 _ _ eb
  have nb2 : b ≠ l := ne_of_none eb2 hl'
  have nc2 : c ≠ l := ne_of_none ec hl'
  refine hq (l, b, c) _ (Ex.trans (r1.trans r2).e0 (Ex.new hl')) ⟨0, 0, 0, 53, cs ++ [41], bs, upd_same, by show upd H2 l _ b = _; rw [upd_ne nb2]; exact eb2, by show upd H2 l _ c = _; rw [upd_ne nc2]; exact ec, nb2, nc2, by simp, by decide, by decide, by decide, by decide, by decide, hpos⟩ (Evl.fresh_back (r1.trans r2).e0 hl') nb (Evl.fresh_back r1.e0 nc)
/-! ### a draw -/
structure PoolS (q : Addr × Addr × Addr) (H : Hp) (s0 s1 s2 s5 : Int) (cs bs : List Int) : Prop where
  e0 : H q.1 = some (.lst [.int s0, .int s1, .int s2, .ref q.2.1, .ref q.2.2, .int s5])
  e1 : H q.2.1 = some (.lst (cs.map V.int))
  e2 : H q.2.2 = some (.lst (bs.map V.int))
  n1 : q.2.1 ≠ q.1
  n2 : q.2.2 ≠ q.1
  l : 0 < cs.length
  h0 : 0 ≤ s0
  h1 : 0 ≤ s1
  h2 : 0 ≤ s2
  h5 : 0 ≤ s5
  h6 : s5 < 2147483629
  hb : ∀ z, z ∈ bs → 0 < z
section
variable {q : Addr × Addr × Addr} {H H' : Hp} {s0 s1 s2 s5 : Int} {cs bs : List Int}
theorem PoolS.at (h : PoolS q H s0 s1 s2 s5 cs bs) : PoolAt q H := ⟨s0, s1, s2, s5, cs, bs, h.e0, h.e1, h.e2, h.n1, h.n2, h.l, h.h0, h.h1, h.h2, h.h5, h.h6, h.hb⟩
theorem PoolS.ex (h : PoolS q H s0 s1 s2 s5 cs bs) (e : Ex H H') : PoolS q H' s0 s1 s2 s5 cs bs := { h with e0 := e _ _ h.e0, e1 := e _ _ h.e1, e2 := e _ _ h.e2 }
theorem PoolS.dp (h : PoolS q H s0 s1 s2 s5 cs bs) : Dp K H (.ref q.1) (.list [.int s0, .int s1, .int s2, .list (cs.map PyData.int), .list (bs.map PyData.int), .int s5]) :=
  .lst (SqL.of h.e0) (.cons (.int _) (.cons (.int _) (.cons (.int _) (.cons (.lst (SqL.of h.e1) dpa_ofnums) (.cons (.lst (SqL.of h.e2) dpa_ofnums) (.cons (.int _) .nil))))))
theorem PoolS.upd (h : PoolS q H s0 s1 s2 s5 cs bs) {t0 t1 t2 t5 : Int} {o : HO} (e : o = .lst [.int t0, .int t1, .int t2, .ref q.2.1, .ref q.2.2, .int t5]) (h0 : 0 ≤ t0) (h1 : 0 ≤ t1) (h2 : 0 ≤ t2) (h5 : 0 ≤ t5) (h6 : t5 < 2147483629) :
    PoolS q (L2.upd H q.1 o) t0 t1 t2 t5 cs bs := by
  subst e
  exact ⟨upd_same, by rw [upd_ne h.n1]; exact h.e1, by rw [upd_ne h.n2]; exact h.e2, h.n1, h.n2, h.l, h0, h1, h2, h5, h6, h.hb⟩
end
theorem s_ifC {σ : L2.St} {H : Hp} {t : TT} {tu : TS} {F : Ends} {b : Bool} {G : Hp → Prop} (h : EvT p0 t σ H b) (k : ∀ H', G H' → F.nx σ H') (h1 : b = true → ∀ H1, Ex H H1 → (∀ H', G H' → F.nx σ H') → tu F σ H1) (h2 : b = false → ∀ H1, Ex H H1 → G H1) : tIfS t tu tNext F σ H :=
  s_if h pi0 (fun e H1 r1 => h1 e H1 r1.e0 k) fun e H1 r1 => k H1 (h2 e H1 r1.e0)
theorem fmod_lo {i j : Int} (h : 0 < j) : 0 ≤ i.fmod j ∧ i.fmod j < j := by
  rw [Int.fmod_eq_emod_of_nonneg _ (Int.le_of_lt h)]
  exact ⟨Int.emod_nonneg _ (by omega), Int.emod_lt_of_pos _ h⟩
theorem fdiv_lo {i j : Int} (h : 0 < j) (hi : 0 ≤ i) : 0 ≤ i.fdiv j := by
  rw [Int.fdiv_eq_ediv_of_nonneg _ (Int.le_of_lt h)]
  exact Int.ediv_nonneg hi (Int.le_of_lt h)
theorem ok_law_pick (FR : Free mg) (A : At K mg "_law_pick" s_law_pick P_law_pick f fd) : Prm P w K mg base CX0 1 "_law_pick" P_law_pick (SpG K PrePick PostPick) := by
  refine mk_prmG A sc_law_pick (fun ds ⟨m, e, _⟩ => by rw [e]; rfl) (dv_law_pick FR) ?_
  rintro p q vs ds H Q hp hw hv ⟨m, rfl, m0, m1⟩ hq
  obtain ⟨v, rfl, kv⟩ := dpa1 hv
  have e1 : v = .int m := dp_int kv
  subst e1
  have hq' : ∀ r H', Rl p H H' → 0 ≤ r → r < m → Q (.int r) H' := fun r H' rr h1 h2 => hq _ (.int r) H' rr ⟨m, r, rfl, rfl, h1, h2⟩ (.int r)
  clear hq hv kv
  obtain ⟨s0, s1, s2, s5, cs, bs, ps⟩ : ∃ s0 s1 s2 s5 cs bs, PoolS q H s0 s1 s2 s5 cs bs := by
    have := hw.po
    rw [hp] at this
    obtain ⟨s0, s1, s2, s5, cs, bs, a1, a2, a3, a4, a5, a6, a7, a8, a9, a10, a11, a12⟩ := this.ex
    exact ⟨s0, s1, s2, s5, cs, bs, a1, a2, a3, a4, a5, a6, a7, a8, a9, a10, a11, a12⟩
  show t_law_pick K _ [some (.ref q.1), some (.int m), none, none] H
  unfold t_law_pick
  have up : ∀ {H1 : Hp} {t0 t1 t2 t5 : Int} {xs : List V}, Rl p H H1 → PoolS q (upd H1 q.1 (.lst xs)) t0 t1 t2 t5 cs bs → Rl p H (upd H1 q.1 (.lst xs)) := fun r1 h => r1.trans (pool_set hp r1.pi h.at)
  have ext : ∀ {H1 H2 : Hp}, Rl p H H1 → Ex H1 H2 → Rl p H H2 := fun r1 e => r1.trans (Rl.of r1.pi e)
  have ix0 : ∀ {n : Nat}, n = 6 → ixN n 0 = some 0 := fun e => by subst e; rfl
  walk_at "nx"
  have kp := ps.dp (K := K)
  refine s_ifC (G := fun H' => ∃ s0 s1, Rl p H H' ∧ PoolS q H' s0 s1 s2 s5 cs bs) (b := decide (s0 = 0) && decide (s1 < bs.length)) ?_ ?_ (fun hb H1 e1 k => ?_) fun hb H1 e1 => ⟨s0, s1, ext (Rl.refl hw) e1, ps.ex e1⟩
  · refine et_is (et_and (a := decide (s0 = 0)) (b := decide (s1 < bs.length)) (et_is (et_test (K := K) (ev_eq (d := .int s0) (ev_ixL (by walk_at "ev") ev_int rfl) ev_int sh_int sh_int)) (by rw [eqv_int])) fun _ => ?_) rfl
    refine et_is (et_test (K := K) (ev_B0 (i := s1) (j := ((bs.map PyData.int).length : Int)) (ev_ixL (by walk_at "ev") ev_int rfl) (ev_lenL (ev_ixL (by walk_at "ev") ev_int rfl)))) (by rw [List.length_map])
  · clear kp ps
    rintro H1 ⟨s0, s1, r1, ps⟩
    walk_at "nx"
    have kp := ps.dp (K := K)
    refine s_ifC (G := fun H' => ∃ s0 s1, Rl p H H' ∧ PoolS q H' s0 s1 s2 s5 cs bs) (b := decide (0 < s0)) ?_ ?_ (fun hb H2 e2 k => ?_) fun hb H2 e2 => ⟨s0, s1, ext r1 e2, ps.ex e2⟩
    · exact et_test (K := K) (ev_B0 (i := s0) (j := 0) (ev_ixL (by walk_at "ev") ev_int rfl) ev_int)
    · clear kp ps
      rintro H2 ⟨s0, s1, r2, ps⟩
      walk_at "nx"
      have kp := ps.dp (K := K)
      have lz : (cs.length : Int) ≠ 0 := by have := ps.l; omega
      obtain ⟨j, hj⟩ := Int.eq_ofNat_of_zero_le (fmod_lo (i := s2) (j := cs.length) (by omega)).1
      have hj2 := (fmod_lo (i := s2) (j := cs.length) (by omega)).2
      obtain ⟨cell, hc⟩ := get_lt (l := cs) (i := j) (by omega)
      refine s_asg (K := K) (d := .int cell) (ev_ixL (ds := cs.map PyData.int) (i := s2.fmod cs.length) (ev_ixL (by walk_at "ev") ev_int rfl) (ev_IC (f := fun i j => i.fmod j) (ev_ixL (by walk_at "ev") ev_int rfl) (ev_is (ev_lenL (ds := cs.map PyData.int) (ev_ixL (by walk_at "ev") ev_int rfl)) (by rw [List.length_map])) lz) (by rw [hj]; exact at_map hc)) pi0 fun v3 H3 r3 k3 => ?_
      have e3 : v3 = .int cell := dp_int k3
      subst e3
      replace ps := ps.ex r3.e0
      replace r2 := ext r2 r3.e0
      walk_at "nx"
      clear kp
      have kp := ps.dp (K := K)
      refine s_setI (K := K) (z := s2 + 1) (ev_I0 (f := fun i j => i + j) (i := s2) (j := 1) (ev_ixL (by walk_at "ev") ev_int rfl) ev_int) rfl ps.e0 (j := 2) rfl fun H4 e4 => ?_
      replace ps := (ps.ex e4).upd (t2 := s2 + 1) rfl ps.h0 ps.h1 (by have := ps.h2; omega) ps.h5 ps.h6
      replace r2 := up (ext r2 e4) ps
      walk_at "nx"
      clear kp
      have kp := ps.dp (K := K)
      refine s_setI (K := K) (z := (s5 * 48271 + cell * 31 + (s2 + 1) * 7919).fmod 2147483629) (ev_IC (f := fun i j => i.fmod j) (i := s5 * 48271 + cell * 31 + (s2 + 1) * 7919) (j := 2147483629) (ev_intI (ev_I0 (f := fun i j => i + j) (ev_I0 (f := fun i j => i + j) (ev_IC (f := fun i j => i * j) (i := s5) (ev_ixL (by walk_at "ev") ev_int rfl) ev_int ?_) (ev_IC (f := fun i j => i * j) (i := cell) (by walk_at "ev") ev_int ?_)) (ev_IC (f := fun i j => i * j) (i := s2 + 1) (ev_ixL (by walk_at "ev") ev_int rfl) ev_int ?_))) ev_int (by decide)) rfl ps.e0 (j := 5) rfl fun H5 e5 => ?_
      · exact .inr ⟨by decide, by decide⟩
      · exact .inr ⟨by decide, by decide⟩
      · exact .inr ⟨by decide, by decide⟩
      have f5 := fmod_lo (i := s5 * 48271 + cell * 31 + (s2 + 1) * 7919) (j := 2147483629) (by decide)
      generalize (s5 * 48271 + cell * 31 + (s2 + 1) * 7919).fmod 2147483629 = s5' at f5 ⊢
      replace ps := (ps.ex e5).upd (t5 := s5') rfl ps.h0 ps.h1 ps.h2 f5.1 f5.2
      replace r2 := up (ext r2 e5) ps
      walk_at "nx"
      clear kp
      have kp := ps.dp (K := K)
      refine s_retP (K := K) (p := p0) (P := fun d => ∃ r, d = .int r ∧ 0 ≤ r ∧ r < m) ?_ pi0 fun v d H6 r6 ⟨r, ed, q1, q2⟩ kd => ?_
      · refine EvP.imp (P := fun x => x = .int (((s5' * s5' + s5'.fdiv 512).fmod 1000000007).fdiv 5 |>.fmod m)) (ev_IC (f := fun i j => i.fmod j) (i := ((s5' * s5' + s5'.fdiv 512).fmod 1000000007).fdiv 5) (j := m) (ev_intI (ev_IC (f := fun i j => i.fdiv j) (i := (s5' * s5' + s5'.fdiv 512).fmod 1000000007) (j := 5) (ev_IC (f := fun i j => i.fmod j) (i := s5' * s5' + s5'.fdiv 512) (j := 1000000007) (ev_intI (ev_I0 (f := fun i j => i + j) (ev_IC (f := fun i j => i * j) (i := s5') (j := s5') (ev_ixL (by walk_at "ev") ev_int rfl) (ev_ixL (by walk_at "ev") ev_int rfl) ?_) (ev_IC (f := fun i j => i.fdiv j) (i := s5') (ev_ixL (by walk_at "ev") ev_int rfl) ev_int ?_))) ev_int (by decide)) ev_int ?_)) (ev_slot rfl fun _ => .int m) (by omega)) fun d e => ⟨_, e, fmod_lo m0⟩
        · exact .inl ⟨by omega, by omega⟩
        · exact ⟨by decide, by decide⟩
        · exact ⟨by decide, by decide⟩
      · rw [ed] at kd
        rw [dp_int kd]
        exact hq' r H6 (ext r2 r6.e0) q1 q2
    · replace ps := ps.ex e2
      replace r1 := ext r1 e2
      walk_at "nx"
      clear kp
      have kp := ps.dp (K := K)
      refine s_asg (K := K) (d := .int (s0.fmod m)) (ev_IC (f := fun i j => i.fmod j) (i := s0) (j := m) (ev_intI (ev_ixL (by walk_at "ev") ev_int rfl)) (ev_slot rfl fun _ => .int m) (by omega)) pi0 fun v3 H3 r3 k3 => ?_
      have e3 : v3 = .int (s0.fmod m) := dp_int k3
      subst e3
      replace ps := ps.ex r3.e0
      replace r1 := ext r1 r3.e0
      walk_at "nx"
      clear kp
      have kp := ps.dp (K := K)
      refine s_setI (K := K) (z := s0.fdiv m) (ev_IC (f := fun i j => i.fdiv j) (i := s0) (j := m) (ev_ixL (by walk_at "ev") ev_int rfl) (ev_slot rfl fun _ => .int m) ⟨by omega, by omega⟩) rfl ps.e0 (j := 0) rfl fun H4 e4 => ?_
      replace ps := (ps.ex e4).upd (t0 := s0.fdiv m) rfl (fdiv_lo m0 ps.h0) ps.h1 ps.h2 ps.h5 ps.h6
      replace r1 := up (ext r1 e4) ps
      walk_at "nx"
      have fm := fmod_lo (i := s0) m0
      refine ⟨_, rfl, hq' _ _ r1 fm.1 fm.2⟩
  · replace ps := ps.ex e1
    have r1 := ext (Rl.refl hw) e1
    have hb' : s0 = 0 ∧ s1 < bs.length := by simpa using hb
    obtain ⟨j, rfl⟩ := Int.eq_ofNat_of_zero_le ps.h1
    obtain ⟨z, hz⟩ := get_lt (l := bs) (i := j) (by omega)
    have z0 := ps.hb z (List.mem_of_getElem? hz)
    walk_at "nx"
    clear kp
    have kp := ps.dp (K := K)
    refine s_setI (K := K) (z := z) (ev_ixL (ds := bs.map PyData.int) (i := (j : Int)) (ev_ixL (by walk_at "ev") ev_int rfl) (ev_ixL (by walk_at "ev") ev_int rfl) (at_map hz)) rfl ps.e0 (j := 0) rfl fun H2 e2 => ?_
    replace ps := (ps.ex e2).upd (t0 := z) rfl (by omega) ps.h1 ps.h2 ps.h5 ps.h6
    replace r1 := up (ext r1 e2) ps
    walk_at "nx"
    clear kp
    have kp := ps.dp (K := K)
    refine s_setI (K := K) (z := (j : Int) + 1) (ev_I0 (f := fun i j => i + j) (i := (j : Int)) (j := 1) (ev_ixL (by walk_at "ev") ev_int rfl) ev_int) rfl ps.e0 (j := 1) rfl fun H3 e3 => ?_
    replace ps := (ps.ex e3).upd (t1 := (j : Int) + 1) rfl ps.h0 (by omega) ps.h2 ps.h5 ps.h6
    replace r1 := up (ext r1 e3) ps
    exact k _ ⟨_, _, r1, ps⟩
end

end Ky
set_option Elab.async false
set_option linter.all false
set_option maxRecDepth 4000
set_option maxHeartbeats 4000000
namespace Ky
open PySem PySem.Spec PyProof.Rows L2
local macro_rules | `(tactic| walk_at "rl") => `(tactic| first | assumption | exact Rl.refl pi0 | exact Rl.refl (by assumption) | exact Rl.refl (Rl.pi (by assumption)) | (refine Rl.trans (by assumption) ?_; walk_at "rl"))
local macro_rules | `(tactic| walk_at "ev") => `(tactic| first
  | with_reducible exact ev_int | with_reducible exact ev_bl | with_reducible exact ev_str | with_reducible exact ev_non
  | ((with_reducible apply ev_var); (focus exact rfl); (focus assumption); (focus walk_at "rl"))
  | ((with_reducible apply ev_slot); (focus exact rfl); (focus first | exact fun _ => Dp.int _ | exact fun _ => Dp.bl _ | exact fun _ => Dp.str _ | exact fun _ => Dp.non))
  | with_reducible exact ea_nil | with_reducible exact eo_none | with_reducible exact et_yes
  | with_reducible exact sh_int | with_reducible exact sh_bool | with_reducible exact sh_non
  | ((with_reducible apply ea_cons) <;> try walk_at "ev")
  | ((with_reducible apply ev_I0) <;> try walk_at "ev")
  | ((with_reducible apply ev_B0) <;> try walk_at "ev")
  | ((with_reducible apply ev_IC) <;> try walk_at "ev")
  | ((with_reducible apply ev_neg) <;> try walk_at "ev")
  | ((with_reducible apply ev_chain) <;> try walk_at "ev")
  | ((with_reducible apply ev_isTup) <;> try walk_at "ev")
  | ((with_reducible apply ev_isInt) <;> try walk_at "ev")
  | ((with_reducible apply ev_isBool) <;> try walk_at "ev")
  | ((with_reducible apply ev_isStr) <;> try walk_at "ev")
  | ((with_reducible apply ev_isLst) <;> try walk_at "ev")
  | ((with_reducible apply ev_isN) <;> try walk_at "ev")
  | ((with_reducible apply ev_notN) <;> try walk_at "ev")
  | ((with_reducible apply ev_notB) <;> try walk_at "ev")
  | ((with_reducible apply ev_eq) <;> try walk_at "ev")
  | ((with_reducible apply ev_ne) <;> try walk_at "ev")
  | ((with_reducible apply ev_abs) <;> try walk_at "ev")
  | ((with_reducible apply ev_max) <;> try walk_at "ev")
  | ((with_reducible apply ev_bits) <;> try walk_at "ev")
  | ((with_reducible apply ev_gcd) <;> try walk_at "ev")
  | ((with_reducible apply ev_list) <;> try walk_at "ev")
  | ((with_reducible apply ev_tuple) <;> try walk_at "ev")
  | ((with_reducible apply ev_tup) <;> try walk_at "ev")
  | ((with_reducible apply ev_lst) <;> try walk_at "ev")
  | ((with_reducible apply ev_catT) <;> try walk_at "ev")
  | ((with_reducible apply ev_slice) <;> try walk_at "ev")
  | ((with_reducible apply eo_some) <;> try walk_at "ev")
  | ((with_reducible apply ev_notV) <;> try walk_at "ev")
  | ((with_reducible apply et_test) <;> try walk_at "ev")
  | ((with_reducible apply et_B) <;> try walk_at "ev")
  | ((with_reducible apply et_not) <;> try walk_at "ev")
  | ((with_reducible apply ev_lenT); (focus (walk_at "ev"; done)))
  | ((with_reducible apply ev_lenL); (focus (walk_at "ev"; done)))
  | ((with_reducible apply ev_intI); (focus (walk_at "ev"; done)))
  | ((with_reducible apply ev_intB); (focus (walk_at "ev"; done)))
  | ((with_reducible apply ev_ixT); (focus (walk_at "ev"; done)); (focus (walk_at "ev"; done)); (try first | rfl | assumption))
  | ((with_reducible apply ev_ixL); (focus (walk_at "ev"; done)); (focus (walk_at "ev"; done)); (try first | rfl | assumption))
  | ((with_reducible apply ev_call); (focus (walk_at "ev"; done))))
local macro_rules | `(tactic| walk_at "nx") => `(tactic| ((try dsimp only); (try ((with_reducible refine st_next ?_); (try dsimp only))); (try with_reducible refine st_seq ?_)))
section
variable {P : Program} {w : World} {K : PySem.W.Frag} {mg : Str → Option Value} {base : Heap} {f : Addr} {fd : FuncData}
/-! ### Euclid -/
structure Euc (g X : Nat) (i x y : Nat) : Prop where
  g : Nat.gcd x y = g
  z : i = 0 → 0 < y ∧ x * y ≤ X
  s : 1 ≤ i → 0 < x ∧ y < x ∧ 2 ^ (i - 1) * (x * y) ≤ X
theorem Euc.next {g X i x y : Nat} (h : Euc g X i x y) (hy : 0 < y) : Euc g X (i + 1) y (x % y) := by
  have hm := Nat.mod_lt x hy
  refine ⟨?_, fun z => by omega, fun _ => ⟨hy, hm, ?_⟩⟩
  · rw [← h.g, Nat.gcd_comm y, ← Nat.gcd_rec, Nat.gcd_comm]
  · by_cases h0 : i = 0
    · subst h0
      have h1 := (h.z rfl).2
      have h2 : y * (x % y) ≤ y * x := Nat.mul_le_mul_left _ (Nat.mod_le _ _)
      show 1 * _ ≤ _
      rw [Nat.one_mul]
      rw [Nat.mul_comm] at h1
      omega
    · obtain ⟨_, hlt, h3⟩ := h.s (by omega)
      obtain ⟨k, rfl⟩ : ∃ k, i = k + 1 := ⟨i - 1, by omega⟩
      have h4 : 2 * (x % y) ≤ x := by
        have e := Nat.div_add_mod x y
        have d1 : 1 ≤ x / y := (Nat.one_le_div_iff hy).mpr (by omega)
        have : y * 1 ≤ y * (x / y) := Nat.mul_le_mul_left _ d1
        omega
      show 2 ^ (k + 1) * (y * (x % y)) ≤ X
      have h5 : 2 ^ (k + 1) * (y * (x % y)) = 2 ^ k * (y * (2 * (x % y))) := by rw [Nat.pow_succ]; ac_rfl
      rw [h5]
      have h6 : y * (2 * (x % y)) ≤ x * y := by rw [Nat.mul_comm x y]; exact Nat.mul_le_mul_left _ h4
      exact Nat.le_trans (Nat.mul_le_mul_left _ h6) h3
theorem Euc.done {g B i x y : Nat} (h : Euc g (2 ^ (2 * B) - 1) i x y) (hi : 2 * B + 1 ≤ i) : y = 0 ∧ x = g := by
  obtain ⟨h1, _, h2⟩ := h.s (by omega)
  have hp : 0 < 2 ^ (2 * B) := Nat.pow_pos (by decide)
  have hle : 2 ^ (2 * B) ≤ 2 ^ (i - 1) := Nat.pow_le_pow_right (by decide) (by omega)
  have h0 : y = 0 := by
    apply Decidable.byContradiction
    intro hy
    have h3 : 1 ≤ x * y := Nat.mul_pos h1 (by omega)
    have h4 : 2 ^ (i - 1) * 1 ≤ 2 ^ (i - 1) * (x * y) := Nat.mul_le_mul_left _ h3
    omega
  refine ⟨h0, ?_⟩
  have := h.g
  rw [h0, Nat.gcd_zero_right] at this
  exact this
theorem fmod_nat (x y : Nat) : (x : Int).fmod (y : Int) = ((x % y : Nat) : Int) := by
  rw [Int.fmod_eq_emod_of_nonneg _ (by omega)]
  rfl
theorem abs_nat {i : Int} : (if i < 0 then -i else i) = (i.natAbs : Int) := by split <;> omega
theorem bits_lt {i : Int} : i.natAbs < 2 ^ Builtin.Int.intBits i := intBits_le_iff.mp (Nat.le_refl _)
theorem bits_le {n : Nat} {i : Int} (h : Sm n i) : Builtin.Int.intBits i ≤ n := intBits_le_iff.mpr h
theorem ok_law_low (FR : Free mg) (A : At K mg "_law_low" s_law_low P_law_low f fd) : Prm P w K mg base CX0 1 "_law_low" P_law_low (SpR K Rlowest) := by
  refine mk_prm A sc_law_low (fun ds d ⟨a, b, z, _⟩ => by rw [z]; rfl) (dv_law_low FR) ?_
  rintro vs ds d H Q hv ⟨t, b, rfl, h1, h2, h3, rfl⟩ hq
  obtain ⟨v, v2, rfl, k, k2⟩ := dpa2 hv
  have e1 : v = .int t := dp_int k
  have e2 : v2 = .int b := dp_int k2
  subst e1 e2
  have hg := gcd_pos (t := t) h1
  have hs := gcd_small (t := t) h1 h3
  unfold t_law_low
  walk_at "nx"
  refine s_asg (K := K) (d := .int (t.natAbs : Int)) (ev_is (ev_abs (ev_intI (by walk_at "ev"))) (by rw [abs_nat])) pi0 fun v3 H1 r1 k3 => ?_
  have e3 : v3 = .int (t.natAbs : Int) := dp_int k3
  subst e3
  walk_at "nx"
  refine s_asg (K := K) (d := .int (b.natAbs : Int)) (ev_is (ev_abs (ev_intI (by walk_at "ev"))) (by rw [abs_nat])) pi0 fun v4 H2 r2 k4 => ?_
  have e4 : v4 = .int (b.natAbs : Int) := dp_int k4
  subst e4
  walk_at "nx"
  generalize hB : Builtin.Int.intBits (if (b.natAbs : Int) > (t.natAbs : Int) then (b.natAbs : Int) else (t.natAbs : Int)) = B
  have hB1 : t.natAbs < 2 ^ B ∧ b.natAbs < 2 ^ B := by
    have := bits_lt (i := if (b.natAbs : Int) > (t.natAbs : Int) then (b.natAbs : Int) else (t.natAbs : Int))
    rw [hB] at this
    split at this <;> omega
  have hB2 : B ≤ 8000 := by
    rw [← hB]
    refine bits_le ?_
    unfold Sm at h2 h3 ⊢
    split <;> omega
  have hX : t.natAbs * b.natAbs ≤ 2 ^ (2 * B) - 1 := by
    have := Nat.mul_lt_mul'' hB1.1 hB1.2
    rw [← Nat.pow_add] at this
    rw [Nat.two_mul]
    omega
  have fin : ∀ (x y z : Option V) (σ' : L2.St) (H3 : Hp), σ' = [some (.int t), some (.int b), some (.int ((Nat.gcd t.natAbs b.natAbs : Nat) : Int)), x, y, z] → Rl p0 H H3 →
      tRet (tTup (tCons (tOp (rI CDivW fun i j => .int (i / j)) (tCB (rInt1) (tCons (tVar 0) tNil)) (tVar 2)) (tCons (tOp (rI CDivW fun i j => .int (i / j)) (tCB (rInt1) (tCons (tVar 1) tNil)) (tVar 2)) tNil))) { nx := fun x H' => Q .non H', rt := Q } σ' H3 := by
    rintro x y z σ' H3 rfl r3
    refine s_ret (en_tup (ds := [.int (t / (Nat.gcd t.natAbs b.natAbs : Nat)), .int (b / (Nat.gcd t.natAbs b.natAbs : Nat))]) ?_ rfl (by simp)) r3.e0 hq
    walk_at "ev"
    · exact wide_div (by omega) hs (by decide) (by decide)
    · exact wide_div (by omega) hs (by decide) (by decide)
  refine s_forR (K := K) (n := ((2 * B + 2 : Nat) : Int)) ?_ (by omega) (by omega) pi0 (fun i σ' _ => ∃ (x y : Nat) (u z : Option V), σ' = [some (.int t), some (.int b), some (.int (x : Int)), some (.int (y : Int)), u, z] ∧ Euc (Nat.gcd t.natAbs b.natAbs) (2 ^ (2 * B) - 1) i x y) (fun H3 r3 => ⟨_, _, none, none, rfl, rfl, fun _ => ⟨by omega, hX⟩, fun z => by omega⟩) ?_ ?_
  · refine ev_is (ev_I0 (f := fun i j => i + j) (j := 2) (ev_IC (f := fun i j => i * j) (i := 2) (j := (B : Int)) ev_int (ev_is (ev_bits (ev_max (by walk_at "ev") (by walk_at "ev"))) (by rw [hB])) (sm_mul (n := 2) (m := 14) (by unfold Sm; decide) (by unfold Sm; show (B : Int).natAbs < 16384; omega) (by decide) (by decide) (by decide))) ev_int) ?_
    congr 1
  · rintro H3 r3 i σ' H4 hi r4 ⟨x, y, u, z, rfl, eu⟩
    walk_at "nx"
    by_cases hy : y = 0
    · subst hy
      refine s_yes (b := true) (et_is (by walk_at "ev") (by rfl)) rfl pi0 fun H5 r5 => ?_
      have hx : x = Nat.gcd t.natAbs b.natAbs := by
        have := eu.g
        rw [Nat.gcd_zero_right] at this
        exact this
      subst hx
      exact fin _ _ _ _ H5 rfl (((r1.trans r2).trans (r3.trans r4)).trans r5)
    · refine s_no (b := false) (et_is (by walk_at "ev") (by rw [eqv_int]; exact decide_eq_false (by omega))) rfl pi0 fun H5 r5 => ?_
      walk_at "nx"
      refine s_asg (K := K) (d := .int ((x % y : Nat) : Int)) (ev_is (ev_IC (f := fun i j => i.fmod j) (i := (x : Int)) (j := (y : Int)) (ev_intI (by walk_at "ev")) (by walk_at "ev") (by omega)) (by rw [fmod_nat])) pi0 fun v6 H6 r6 k6 => ?_
      have e6 := dp_int k6
      subst e6
      walk_at "nx"
      refine s_asg (K := K) (d := .int (y : Int)) (by walk_at "ev") pi0 fun v7 H7 r7 k7 => ?_
      have e7 := dp_int k7
      subst e7
      walk_at "nx"
      refine s_asg (K := K) (d := .int ((x % y : Nat) : Int)) (by walk_at "ev") pi0 fun v8 H8 r8 k8 => ?_
      have e8 := dp_int k8
      subst e8
      exact ⟨((r4.trans r5).trans (r6.trans r7)).trans r8, _, _, _, _, rfl, eu.next (by omega)⟩
  · rintro σ' H4 r4 ⟨x, y, u, z, rfl, eu⟩
    obtain ⟨_, rfl⟩ := eu.done (by omega)
    walk_at "nx"
    exact fin _ _ _ _ H4 rfl ((r1.trans r2).trans r4)
theorem ok_law_raised (FR : Free mg) (A : At K mg "_law_raised" s_law_raised P_law_raised f fd) : Prm P w K mg base CX0 1 "_law_raised" P_law_raised (SpR K Rraised) := by
  refine mk_prm A sc_law_raised (fun ds d ⟨a, b, z, _⟩ => by rw [z]; rfl) (dv_law_raised FR) ?_
  rintro vs ds d H Q hv ⟨b, n, rfl, h0, h1, h2, rfl⟩ hq
  obtain ⟨v, v2, rfl, k, k2⟩ := dpa2 hv
  have e1 : v = .int b := dp_int k
  have e2 : v2 = .int n := dp_int k2
  subst e1 e2
  unfold t_law_raised
  walk_at "nx"
  refine s_asg (K := K) (by walk_at "ev") pi0 fun v3 H3 r3 k3 => ?_
  have e3 : v3 = .int 1 := dp_int k3
  subst e3
  walk_at "nx"
  refine s_forR (n := n) (by walk_at "ev") (by omega) (by omega) pi0 (fun i σ' _ => ∃ y, σ' = [some (.int b), some (.int n), some (.int (b ^ i)), y]) (fun H4 r4 => ⟨none, by rw [Int.pow_zero]; rfl⟩) ?_ ?_
  · rintro H4 r4 i σ' H' hi r5 ⟨y, rfl⟩
    refine s_asg (K := K) (d := .int (b ^ (i + 1))) (ev_is (ev_IC (f := fun i j => i * j) (i := b ^ i) (j := b) (by walk_at "ev") (by walk_at "ev") (.inr ?_)) (by rw [Int.pow_succ])) pi0 fun v6 H6 r6 k6 => ?_
    · unfold Sm at h2
      omega
    · rw [dp_int k6]
      exact ⟨r5.trans r6, _, rfl⟩
  · rintro σ' H' r4 ⟨y, rfl⟩
    walk_at "nx"
    refine s_ret (en_flat ?_ rfl) (r3.trans r4).e0 hq
    walk_at "ev"
end

end Ky
set_option Elab.async false
set_option linter.all false
set_option maxRecDepth 4000
set_option maxHeartbeats 4000000
namespace Ky
open PySem PySem.Spec PyProof.Rows L2
local macro_rules | `(tactic| walk_at "rl") => `(tactic| first | assumption | exact Rl.refl pi0 | exact Rl.refl (by assumption) | exact Rl.refl (Rl.pi (by assumption)) | (refine Rl.trans (by assumption) ?_; walk_at "rl"))
local macro_rules | `(tactic| walk_at "ev") => `(tactic| first
  | with_reducible exact ev_int | with_reducible exact ev_bl | with_reducible exact ev_str | with_reducible exact ev_non
  | ((with_reducible apply ev_var); (focus exact rfl); (focus assumption); (focus walk_at "rl"))
  | ((with_reducible apply ev_slot); (focus exact rfl); (focus first | exact fun _ => Dp.int _ | exact fun _ => Dp.bl _ | exact fun _ => Dp.str _ | exact fun _ => Dp.non))
  | with_reducible exact ea_nil | with_reducible exact eo_none | with_reducible exact et_yes
  | with_reducible exact sh_int | with_reducible exact sh_bool | with_reducible exact sh_non
  | ((with_reducible apply ea_cons) <;> try walk_at "ev")
  | ((with_reducible apply ev_I0) <;> try walk_at "ev")
  | ((with_reducible apply ev_B0) <;> try walk_at "ev")
  | ((with_reducible apply ev_IC) <;> try walk_at "ev")
  | ((with_reducible apply ev_neg) <;> try walk_at "ev")
  | ((with_reducible apply ev_chain) <;> try walk_at "ev")
  | ((with_reducible apply ev_isTup) <;> try walk_at "ev")
  | ((with_reducible apply ev_isInt) <;> try walk_at "ev")
  | ((with_reducible apply ev_isBool) <;> try walk_at "ev")
  | ((with_reducible apply ev_isStr) <;> try walk_at "ev")
  | ((with_reducible apply ev_isLst) <;> try walk_at "ev")
  | ((with_reducible apply ev_isN) <;> try walk_at "ev")
  | ((with_reducible apply ev_notN) <;> try walk_at "ev")
  | ((with_reducible apply ev_notB) <;> try walk_at "ev")
  | ((with_reducible apply ev_eq) <;> try walk_at "ev")
  | ((with_reducible apply ev_ne) <;> try walk_at "ev")
  | ((with_reducible apply ev_abs) <;> try walk_at "ev")
  | ((with_reducible apply ev_max) <;> try walk_at "ev")
  | ((with_reducible apply ev_bits) <;> try walk_at "ev")
  | ((with_reducible apply ev_gcd) <;> try walk_at "ev")
  | ((with_reducible apply ev_list) <;> try walk_at "ev")
  | ((with_reducible apply ev_tuple) <;> try walk_at "ev")
  | ((with_reducible apply ev_tup) <;> try walk_at "ev")
  | ((with_reducible apply ev_lst) <;> try walk_at "ev")
  | ((with_reducible apply ev_catT) <;> try walk_at "ev")
  | ((with_reducible apply ev_slice) <;> try walk_at "ev")
  | ((with_reducible apply eo_some) <;> try walk_at "ev")
  | ((with_reducible apply ev_notV) <;> try walk_at "ev")
  | ((with_reducible apply et_test) <;> try walk_at "ev")
  | ((with_reducible apply et_B) <;> try walk_at "ev")
  | ((with_reducible apply et_not) <;> try walk_at "ev")
  | ((with_reducible apply ev_lenT); (focus (walk_at "ev"; done)))
  | ((with_reducible apply ev_lenL); (focus (walk_at "ev"; done)))
  | ((with_reducible apply ev_intI); (focus (walk_at "ev"; done)))
  | ((with_reducible apply ev_intB); (focus (walk_at "ev"; done)))
  | ((with_reducible apply ev_ixT); (focus (walk_at "ev"; done)); (focus (walk_at "ev"; done)); (try first | rfl | assumption))
  | ((with_reducible apply ev_ixL); (focus (walk_at "ev"; done)); (focus (walk_at "ev"; done)); (try first | rfl | assumption))
  | ((with_reducible apply ev_call); (focus (walk_at "ev"; done))))
local macro_rules | `(tactic| walk_at "nx") => `(tactic| ((try dsimp only); (try ((with_reducible refine st_next ?_); (try dsimp only))); (try with_reducible refine st_seq ?_)))
section
variable {P : Program} {w : World} {K : PySem.W.Frag} {mg : Str → Option Value} {base : Heap} {f : Addr} {fd : FuncData}
theorem shaped_flat {d : D} (h : flatD d = true) (o : d.canLay0 = true) : SeqAt.shaped d = true := by
  unfold SeqAt.shaped
  cases d with
  | none => rfl
  | bool b => rfl
  | int i => rfl
  | str x => rw [o]; simp [PyData.depth]
  | _ => cases h
theorem canAll : ∀ {ds : List D}, (∀ d, d ∈ ds → flatD d = true ∧ d.canLay0 = true) → PyData.canLayAll0 ds = true
  | [], _ => by simp [PyData.canLayAll0]
  | d :: ds, h => by
    simp only [PyData.canLayAll0, (h d List.mem_cons_self).2, Bool.true_and]
    exact canAll fun e he => h e (List.mem_cons_of_mem _ he)
theorem depAll : ∀ {ds : List D}, (∀ d, d ∈ ds → flatD d = true ∧ d.canLay0 = true) → PyData.depthAll ds ≤ 1
  | [], _ => by simp [PyData.depthAll]
  | d :: ds, h => by
    have h1 := depAll fun e he => h e (List.mem_cons_of_mem _ he)
    have h2 : PyData.depth d ≤ 1 := by
      have := (h d List.mem_cons_self).1
      cases d with
      | none | bool _ | int _ | str _ => simp [PyData.depth]
      | _ => cases this
    simp only [PyData.depthAll]
    omega
theorem Lo.sh {d : D} (h : Lo d) : SeqAt.shaped d = true := by
  cases h with
  | flat h o => exact shaped_flat h o
  | tup h l =>
    unfold SeqAt.shaped
    have := depAll h
    rw [Bool.and_eq_true, decide_eq_true_eq]
    exact ⟨by simp only [PyData.canLay0]; exact canAll h, by simp only [PyData.depth]; omega⟩
  | lst h l =>
    unfold SeqAt.shaped
    have := depAll h
    rw [Bool.and_eq_true, decide_eq_true_eq]
    exact ⟨by simp only [PyData.canLay0]; exact canAll h, by simp only [PyData.depth]; omega⟩
theorem eqv_non {x : D} : PyData.eqv x .none = isNoneD x := by cases x <;> rfl
theorem same_bool {x : D} {c b : Bool} (hb : b = true ↔ x = .bool c) : (decide (isBool x = true) && PyData.eqv x (.bool c)) = b := by
  rw [Bool.eq_iff_iff, hb]
  cases x <;> simp [isBool, PyData.eqv]
theorem same_int {x : D} {i : Int} {b : Bool} (hx : isBool x = false) (hb : b = true ↔ x = .int i) : (isIntB x && PyData.eqv x (.int i)) = b := by
  rw [Bool.eq_iff_iff, hb]
  cases x with
  | bool => cases hx
  | _ => simp [isIntB, PyData.eqv]
theorem same_str {x : D} {i : Str} {b : Bool} (hb : b = true ↔ x = .str i) : (isStr x && PyData.eqv x (.str i)) = b := by
  rw [Bool.eq_iff_iff, hb]
  cases x <;> simp [isStr, PyData.eqv]
theorem eqv_b {a b : Bool} : PyData.eqv (.bool a) (.bool b) = decide (a = b) := by cases a <;> cases b <;> rfl
/-- the flat part of _law_same, whatever it calls -/
theorem same_flat {spS : Sp} {x y : D} {b : Bool} {v v2 : V} {H : Hp} {Q : VK} (lx : Lo x) (ly : Lo y) (hy : flatD y = true) (hb : b = true ↔ x = y) (k : Dp K H v x) (k2 : Dp K H v2 y)
    (hq : ∀ v H', Ex H H' → Dp K (nw H H') v (.bool b) → Q v H') : t_law_same K spS { nx := fun _ H' => Q .non H', rt := Q } [some v, some v2, none] H := by
  have sx := lx.sh
  have sy := ly.sh
  unfold t_law_same
  walk_at "nx"
  refine s_no (b := isTup y) (et_B (ev_isTup (by walk_at "ev"))) (by cases y <;> first | rfl | cases hy) pi0 fun H1 r1 => ?_
  walk_at "nx"
  have heq : ∀ H2, Rl p0 H H2 → EvD K p0 (tOp (rEqD K) (tVar 0) (tVar 1)) [some v, some v2, none] H2 (.bool (PyData.eqv x y)) := fun H2 r2 => ev_eq (ev_var rfl k r2) (ev_var rfl k2 r2) sx sy
  refine s_if (b := isNoneD y || (isBool y || isBool x)) (et_or (et_test (K := K) (ev_isN (by walk_at "ev"))) fun _ => et_or (et_B (K := K) (ev_isBool (by walk_at "ev"))) fun _ => et_B (K := K) (ev_isBool (by walk_at "ev"))) pi0 (fun e H2 r2 => ?_) fun e H2 r2 => ?_
  · refine s_ret (en_flat (d := .bool b) ?_ rfl) (r1.trans r2).e0 hq
    refine ev_is (ev_andV (a := decide (isBool x = isBool y)) (b := PyData.eqv x y) (ev_is (ev_eq (ev_isBool (by walk_at "ev")) (ev_isBool (by walk_at "ev")) sh_bool sh_bool) (by rw [eqv_b])) fun _ => heq _ (r1.trans r2)) ?_
    congr 1
    cases y with
    | none =>
      rw [Bool.eq_iff_iff, hb, eqv_non]
      cases x <;> simp [isBool, isNoneD]
    | bool c => exact same_bool hb
    | int i =>
      rw [Bool.eq_iff_iff, hb]
      have : isBool x = true := by simpa [isNoneD, isBool] using e
      cases x <;> simp_all [isBool, PyData.eqv]
    | str s =>
      rw [Bool.eq_iff_iff, hb]
      have : isBool x = true := by simpa [isNoneD, isBool] using e
      cases x <;> simp_all [isBool, PyData.eqv]
    | _ => cases hy
  · have hx : isBool x = false := by
      cases q : isBool x with
      | false => rfl
      | true => rw [q] at e; simp at e
    walk_at "nx"
    refine s_if (b := isIntB y) (et_B (K := K) (ev_isInt (by walk_at "ev"))) pi0 (fun e2 H3 r3 => ?_) fun e2 H3 r3 => ?_
    · refine s_ret (en_flat (d := .bool b) ?_ rfl) ((r1.trans r2).trans r3).e0 hq
      refine ev_is (ev_andV (a := isIntB x) (b := PyData.eqv x y) (ev_isInt (by walk_at "ev")) fun _ => heq _ ((r1.trans r2).trans r3)) ?_
      congr 1
      cases y with
      | int i => exact same_int hx hb
      | bool c => simp [isNoneD, isBool] at e
      | _ => cases e2
    · walk_at "nx"
      refine s_ret (en_flat (d := .bool b) ?_ rfl) ((r1.trans r2).trans r3).e0 hq
      refine ev_is (ev_andV (a := isStr y) (b := isStr x && PyData.eqv x y) (ev_isStr (by walk_at "ev")) fun _ => ev_andV (a := isStr x) (b := PyData.eqv x y) (ev_isStr (by walk_at "ev")) fun _ => heq _ ((r1.trans r2).trans r3)) ?_
      congr 1
      cases y with
      | str s =>
        show (true && _) = _
        rw [Bool.true_and]
        exact same_str hb
      | none => simp [isNoneD] at e
      | bool c => simp [isNoneD, isBool] at e
      | int i => cases e2
      | _ => cases hy
theorem prm_no (A : At K mg "_law_same" s_law_same P_law_same f fd) : Prm P w K mg base CX0 1 "_law_same" P_law_same (fun _ _ _ _ => False) :=
  ⟨f, fd, A.g, A.fn.kp, A.b, A.fn.ok sc_law_same (fun _ _ _ _ h => h.elim) fun _ _ _ _ _ _ _ _ _ h => h.elim⟩
theorem ok_same0 (FR : Free mg) (A : At K mg "_law_same" s_law_same P_law_same f fd) : Prm P w K mg base CX0 2 "_law_same" P_law_same (SpR K Rsame0) := by
  refine mk_prm A sc_law_same (fun ds d ⟨x, y, b, e, _⟩ => by rw [e]; rfl) (fun hr => dv_law_same FR (prm_no A) hr) ?_
  rintro vs ds d H Q hv ⟨x, y, b, rfl, lx, ly, hy, rfl, hb⟩ hq
  obtain ⟨v, v2, rfl, k, k2⟩ := dpa2 hv
  exact same_flat lx ly hy hb k k2 hq
theorem evp_lenL {p : Pw} {σ : L2.St} {H : Hp} {ta : TE} {A : List D → Prop} (ha : EvP K p ta σ H fun d => ∃ ds, d = .list ds ∧ A ds) : EvP K p (tCB (Evl.rLenS K) (tCons ta tNil)) σ H fun d => ∃ ds, d = .int (ds.length : Int) ∧ A ds := fun H1 r1 Q q =>
  ha H1 r1 _ fun x d H2 r2 ⟨ds, ed, pd⟩ kd => by
    subst ed
    cases kd with
    | lst hs hv =>
      refine ⟨_, _, rfl, .inl (Evl.ex_l vw_sub hs), ?_⟩
      rw [dpa_len hv]
      exact q _ _ H2 r2 ⟨_, rfl, pd⟩ (.int _)
theorem evp_eqI {p : Pw} {σ : L2.St} {H : Hp} {ta tb : TE} {j : Int} {A : Int → Prop} (ha : EvP K p ta σ H fun d => ∃ i, d = .int i ∧ A i) (hb : EvD K p tb σ H (.int j)) : EvP K p (tOp (rEqD K) ta tb) σ H fun d => ∃ i, d = .bool (decide (i = j)) ∧ A i :=
  evp_op ha hb fun H1 r1 x y d' e' ⟨i, hd, pi⟩ he kx ky Q q => by
    subst hd he
    exact ⟨_, _, dp_ex vw_sub kx, dp_ex vw_sub ky, sh_int, sh_int, q _ _ H1 (Rl.refl r1.pi) ⟨i, by rw [eqv_int], pi⟩ (.bl _)⟩
theorem evp_B0 {p : Pw} {σ : L2.St} {H : Hp} {ta tb : TE} {j : Int} {g : Int → Int → Bool} {A : Int → Prop} (ha : EvP K p ta σ H fun d => ∃ i, d = .int i ∧ A i) (hb : EvD K p tb σ H (.int j)) : EvP K p (tOp (rI0 fun i j => .bl (g i j)) ta tb) σ H fun d => ∃ i, d = .bool (g i j) ∧ A i :=
  evp_op ha hb fun H1 r1 x y d' e' ⟨i, hd, pi⟩ he kx ky Q q => by
    subst hd he
    exact ⟨i, j, dp_int kx, dp_int ky, q _ _ H1 (Rl.refl r1.pi) ⟨i, rfl, pi⟩ (.bl _)⟩
theorem Lo.mem {ds : List D} {d : D} (h : Lo (.tuple ds)) (m : d ∈ ds) : flatD d = true ∧ d.canLay0 = true := by
  cases h with
  | flat h _ => cases h
  | tup h _ => exact h d m
theorem Lo.len {ds : List D} (h : Lo (.tuple ds)) : ds.length ≤ 1000 := by
  cases h with
  | flat h _ => cases h
  | tup _ h => exact h
theorem ok_law_same (FR : Free mg) (A : At K mg "_law_same" s_law_same P_law_same f fd) : Prm P w K mg base CX0 3 "_law_same" P_law_same (SpR K Rsame) := by
  refine mk_prm A sc_law_same (fun ds d ⟨x, y, b, e, _⟩ => by rw [e]; rfl) (fun hr => dv_law_same FR (ok_same0 FR A) hr) ?_
  rintro vs ds d H Q hv ⟨x, y, b, rfl, lx, ly, hy, rfl, hb⟩ hq
  obtain ⟨v, v2, rfl, k, k2⟩ := dpa2 hv
  by_cases fy : flatD y = true
  · exact same_flat lx ly fy hb k k2 hq
  obtain ⟨ys, rfl⟩ : ∃ ys, y = .tuple ys := by
    cases ly with
    | flat h _ => exact absurd h fy
    | tup h l => exact ⟨_, rfl⟩
    | lst h l => cases hy
  show t_law_same K (SpR K Rsame0) _ [some v, some v2, none] H
  unfold t_law_same
  walk_at "nx"
  refine s_yes (b := true) (et_B (K := K) (ev_isTup (d := .tuple ys) (by walk_at "ev"))) rfl pi0 fun H1 r1 => ?_
  refine s_if (et_tupn (d := x) (n := ys.length) (by walk_at "ev") (ev_lenT (by walk_at "ev"))) pi0 (fun h H2 r2 => ?_) (fun h H2 r2 => ?_)
  · have : b = false := by
      cases b with
      | false => rfl
      | true =>
        rw [hb.mp rfl] at h
        simp [tupN] at h
    subst this
    exact s_ret (en_flat ev_bl rfl) (r1.trans r2).e0 hq
  · obtain ⟨xs, rfl, hl⟩ := tupN_t (by simpa using h : tupN ys.length x = true)
    walk_at "nx"
    have rA := r1.trans r2
    refine s_ret (en_flat (d := .bool b) ?_ rfl) rA.e0 hq
    have hc := evp_lcR (K := K) (p := p0) (H := H2) (σ := [some v, some v2, none]) (tl := (tCB (Evl.rLenS K) (tCons (tVar 1) tNil))) (j := 2) (vs := [2]) (t := (tNot (tB (tCall (SpR K Rsame0) [] E0 (tCons (tOp (rIx K) (tVar 0) (tVar 2)) (tCons (tOp (rIx K) (tVar 1) (tVar 2)) tNil)))))) (te := tVar 2) (n := (ys.length : Int))
      (fun i es => (es.length = 0 ↔ ∀ j, j < i → xs[j]? = ys[j]?)) (ev_lenT (by walk_at "ev")) (by have := ly.len; omega) (by omega) (wipe_one _) ⟨fun _ j hj => absurd hj (Nat.not_lt_zero j), fun _ => rfl⟩ ?_
    · refine (evp_eqI (j := 0) (A := fun i => i = 0 ↔ (PyData.tuple xs = PyData.tuple ys)) ((evp_lenL hc).imp ?_) ev_int).imp ?_
      · rintro d ⟨es, rfl, he⟩
        refine ⟨_, rfl, ?_⟩
        rw [Int.toNat_natCast] at he
        constructor
        · intro h0
          have h1 := he.mp (by omega)
          congr 1
          apply List.ext_getElem? 
          intro j
          by_cases hj : j < ys.length
          · exact h1 j hj
          · rw [List.getElem?_eq_none (by omega), List.getElem?_eq_none (by omega)]
        · intro h0
          cases h0
          have := he.mpr fun j _ => rfl
          omega
      · rintro d ⟨i, rfl, hi⟩
        congr 1
        rw [Bool.eq_iff_iff, hb, decide_eq_true_eq]
        exact hi
    · rintro H0 r0 i hi p' H' hp w' up kd acc hacc
      obtain ⟨xi, hxi⟩ := get_lt (l := xs) (i := i) (by omega)
      obtain ⟨yi, hyi⟩ := get_lt (l := ys) (i := i) (by omega)
      have fx := lx.mem (List.mem_of_getElem? hxi)
      have fy := ly.mem (List.mem_of_getElem? hyi)
      have kx' : Dp K (vw p' H') v (.tuple xs) := dp_ex (Ex.trans (rA.trans r0).ex up) k
      have ky' : Dp K (vw p' H') v2 (.tuple ys) := dp_ex (Ex.trans (rA.trans r0).ex up) k2
      have : ∃ b, (b = true ↔ xi = yi) := by
        by_cases z : xi = yi
        · exact ⟨true, by simp [z]⟩
        · exact ⟨false, by simp [z]⟩
      obtain ⟨b', hb'⟩ := this
      have rf := Rl.refl w'
      refine ⟨!b', et_not (et_B (ev_call (ds := [xi, yi]) (ea_cons (ev_ixT (ev_var rfl kx' rf) (ev_slot rfl fun _ => .int (i : Int)) (atI_nat hxi)) (ea_cons (ev_ixT (ev_var rfl ky' rf) (ev_slot rfl fun _ => .int (i : Int)) (atI_nat hyi)) ea_nil)) ⟨xi, yi, b', rfl, .flat fx.1 fx.2, .flat fy.1 fy.2, fy.1, rfl, hb'⟩)), fun e => ⟨fun d => d = .int (i : Int), ev_slot rfl fun _ => .int (i : Int), fun d _ => ?_⟩, fun e => ?_⟩
      · constructor
        · intro h0; rw [List.length_append] at h0; simp at h0
        · intro h0
          have := h0 i (by omega)
          rw [hxi, hyi] at this
          have := hb'.mpr (Option.some.inj this)
          rw [this] at e
          cases e
      · have hxy : xi = yi := hb'.mp (by simpa using e)
        show acc.length = 0 ↔ _
        rw [hacc]
        constructor
        · intro h0 j hj
          by_cases q : j = i
          · rw [q, hxi, hyi, hxy]
          · exact h0 j (by omega)
        · intro h0 j hj
          exact h0 j (by omega)
end

end Ky
set_option Elab.async false
set_option linter.all false
set_option maxRecDepth 4000
set_option maxHeartbeats 4000000
namespace Ky
open PySem PySem.Spec PyProof.Rows L2
local macro_rules | `(tactic| walk_at "rl") => `(tactic| first | assumption | exact Rl.refl pi0 | exact Rl.refl (by assumption) | exact Rl.refl (Rl.pi (by assumption)) | (refine Rl.trans (by assumption) ?_; walk_at "rl"))
local macro_rules | `(tactic| walk_at "ev") => `(tactic| first
  | with_reducible exact ev_int | with_reducible exact ev_bl | with_reducible exact ev_str | with_reducible exact ev_non
  | ((with_reducible apply ev_var); (focus exact rfl); (focus assumption); (focus walk_at "rl"))
  | ((with_reducible apply ev_slot); (focus exact rfl); (focus first | exact fun _ => Dp.int _ | exact fun _ => Dp.bl _ | exact fun _ => Dp.str _ | exact fun _ => Dp.non))
  | with_reducible exact ea_nil | with_reducible exact eo_none | with_reducible exact et_yes
  | with_reducible exact sh_int | with_reducible exact sh_bool | with_reducible exact sh_non
  | ((with_reducible apply ea_cons) <;> try walk_at "ev")
  | ((with_reducible apply ev_I0) <;> try walk_at "ev")
  | ((with_reducible apply ev_B0) <;> try walk_at "ev")
  | ((with_reducible apply ev_IC) <;> try walk_at "ev")
  | ((with_reducible apply ev_neg) <;> try walk_at "ev")
  | ((with_reducible apply ev_chain) <;> try walk_at "ev")
  | ((with_reducible apply ev_isTup) <;> try walk_at "ev")
  | ((with_reducible apply ev_isInt) <;> try walk_at "ev")
  | ((with_reducible apply ev_isBool) <;> try walk_at "ev")
  | ((with_reducible apply ev_isStr) <;> try walk_at "ev")
  | ((with_reducible apply ev_isLst) <;> try walk_at "ev")
  | ((with_reducible apply ev_isN) <;> try walk_at "ev")
  | ((with_reducible apply ev_notN) <;> try walk_at "ev")
  | ((with_reducible apply ev_notB) <;> try walk_at "ev")
  | ((with_reducible apply ev_eq) <;> try walk_at "ev")
  | ((with_reducible apply ev_ne) <;> try walk_at "ev")
  | ((with_reducible apply ev_abs) <;> try walk_at "ev")
  | ((with_reducible apply ev_max) <;> try walk_at "ev")
  | ((with_reducible apply ev_bits) <;> try walk_at "ev")
  | ((with_reducible apply ev_gcd) <;> try walk_at "ev")
  | ((with_reducible apply ev_list) <;> try walk_at "ev")
  | ((with_reducible apply ev_tuple) <;> try walk_at "ev")
  | ((with_reducible apply ev_tup) <;> try walk_at "ev")
  | ((with_reducible apply ev_lst) <;> try walk_at "ev")
  | ((with_reducible apply ev_catT) <;> try walk_at "ev")
  | ((with_reducible apply ev_slice) <;> try walk_at "ev")
  | ((with_reducible apply eo_some) <;> try walk_at "ev")
  | ((with_reducible apply ev_notV) <;> try walk_at "ev")
  | ((with_reducible apply et_test) <;> try walk_at "ev")
  | ((with_reducible apply et_B) <;> try walk_at "ev")
  | ((with_reducible apply et_not) <;> try walk_at "ev")
  | ((with_reducible apply ev_lenT); (focus (walk_at "ev"; done)))
  | ((with_reducible apply ev_lenL); (focus (walk_at "ev"; done)))
  | ((with_reducible apply ev_intI); (focus (walk_at "ev"; done)))
  | ((with_reducible apply ev_intB); (focus (walk_at "ev"; done)))
  | ((with_reducible apply ev_ixT); (focus (walk_at "ev"; done)); (focus (walk_at "ev"; done)); (try first | rfl | assumption))
  | ((with_reducible apply ev_ixL); (focus (walk_at "ev"; done)); (focus (walk_at "ev"; done)); (try first | rfl | assumption))
  | ((with_reducible apply ev_call); (focus (walk_at "ev"; done))))
local macro_rules | `(tactic| walk_at "nx") => `(tactic| ((try dsimp only); (try ((with_reducible refine st_next ?_); (try dsimp only))); (try with_reducible refine st_seq ?_)))
section
variable {P : Program} {w : World} {K : PySem.W.Frag} {mg : Str → Option Value} {base : Heap} {f : Addr} {fd : FuncData}
theorem ok_law_is_number (FR : Free mg) (A : At K mg "_law_is_number" s_law_is_number P_law_is_number f fd) : Prm P w K mg base CX0 1 "_law_is_number" P_law_is_number (SpR K (R1B isI)) := by
  refine mk_prm A sc_law_is_number (fun ds d ⟨x, e, _⟩ => by rw [e]; rfl) (dv_law_is_number FR) ?_
  rintro vs ds d H Q hv ⟨x, rfl, rfl⟩ hq
  obtain ⟨v, rfl, k⟩ := dpa1 hv
  unfold t_law_is_number
  walk_at "nx"
  refine s_ret (en_flat (d := .bool (isI x)) ?_ rfl) (Ex.refl _) hq
  refine ev_is (ev_andV (a := isIntB x) (b := !isBool x) (ev_isInt (by walk_at "ev")) fun _ => ev_notV (ev_isBool (by walk_at "ev"))) ?_
  cases x <;> rfl
theorem ok_law_is_ground (FR : Free mg) (A : At K mg "_law_is_ground" s_law_is_ground P_law_is_ground f fd) (c : Prm P w K mg base CX0 1 "_law_is_number" P_law_is_number (SpR K (R1B isI))) : Prm P w K mg base CX0 2 "_law_is_ground" P_law_is_ground (SpR K (R1B isBase)) := by
  refine mk_prm A sc_law_is_ground (fun ds d ⟨x, e, _⟩ => by rw [e]; rfl) (dv_law_is_ground FR c) ?_
  rintro vs ds d H Q hv ⟨x, rfl, rfl⟩ hq
  obtain ⟨v, rfl, k⟩ := dpa1 hv
  unfold t_law_is_ground
  walk_at "nx"
  refine s_ret (en_flat (d := .bool (isBase x)) ?_ rfl) (Ex.refl _) hq
  have h1 : EvD K p0 (tCall (SpR K (R1B isI)) [] E0 (tCons (tVar 0) tNil)) (start N_law_is_ground [v]) H (.bool (isI x)) := ev_call (by walk_at "ev") ⟨x, rfl, rfl⟩
  cases hx : isI x with
  | false =>
    rw [hx] at h1
    exact ev_is (ev_andV (b := true) h1 fun z => nomatch z) (by cases x <;> first | rfl | cases hx)
  | true =>
    obtain ⟨i, rfl⟩ := isI_int hx
    exact ev_is (ev_andV (a := true) (b := decide (2 ≤ i)) h1 fun _ => ev_B0 (i := i) (j := 2) (by walk_at "ev") ev_int) rfl
theorem sh_qd {q : Int × Int} : SeqAt.shaped (qD q) = true := rfl
theorem sh_low {t b : Int} : SeqAt.shaped (lowD t b) = true := rfl
theorem eqv_pair {a b c d : Int} : PyData.eqv (.tuple [.int a, .int b]) (.tuple [.int c, .int d]) = (decide (a = c) && decide (b = d)) := by
  simp only [PyData.eqv, PyData.eqvAll, Bool.and_true]
  rfl
theorem low_self {a b : Int} (h : 0 < b) : PyData.eqv (lowD a b) (qD (a, b)) = decide (Nat.gcd a.natAbs b.natAbs = 1) := by
  unfold lowD qD
  rw [eqv_pair, Bool.eq_iff_iff, Bool.and_eq_true, decide_eq_true_eq, decide_eq_true_eq, decide_eq_true_eq]
  have hg := gcd_pos (t := a) h
  generalize Nat.gcd a.natAbs b.natAbs = g at hg ⊢
  constructor
  · intro ⟨_, h2⟩
    apply Decidable.byContradiction
    intro hne
    have hlt : b / (g : Int) < b := Int.ediv_lt_self_of_pos_of_ne_one h (by omega) |> fun z => z
    omega
  · intro e
    subst e
    exact ⟨Int.ediv_one _, Int.ediv_one _⟩
theorem isQ_two {a b : D} (h : isI a = false ∨ isI b = false) : isQ (.tuple [a, b]) = false := by
  cases a <;> cases b <;> first | rfl | (rcases h with h | h <;> cases h)
theorem isQ_tup {d : D} (h : tupN 2 d = false) : isQ d = false := by
  cases q : isQ d with
  | false => rfl
  | true =>
    obtain ⟨a, b, rfl, _⟩ := isQf_q q
    cases h
theorem Bd.mem {ds : List D} {d : D} (h : Bd (.tuple ds)) (m : d ∈ ds) : Bd d := by
  cases h with
  | tup h _ => exact h d m
theorem Bd.len {ds : List D} (h : Bd (.tuple ds)) : ds.length ≤ 1000 := by
  cases h with
  | tup _ h => exact h
theorem Bd.sm {i : Int} (h : Bd (.int i)) : Sm 1000 i := by
  cases h with
  | int h => exact h
theorem ok_law_is_ratio (FR : Free mg) (A : At K mg "_law_is_ratio" s_law_is_ratio P_law_is_ratio f fd) (c1 : Prm P w K mg base CX0 1 "_law_is_number" P_law_is_number (SpR K (R1B isI))) (c2 : Prm P w K mg base CX0 1 "_law_low" P_law_low (SpR K Rlowest)) :
    Prm P w K mg base CX0 2 "_law_is_ratio" P_law_is_ratio (SpR K Rratio) := by
  refine mk_prm A sc_law_is_ratio (fun ds d ⟨x, e, _⟩ => by rw [e]; rfl) (dv_law_is_ratio FR c1 c2) ?_
  rintro vs ds d H Q hv ⟨x, rfl, bx, rfl⟩ hq
  obtain ⟨v, rfl, k⟩ := dpa1 hv
  show t_law_is_ratio K _ [some v, none] H
  unfold t_law_is_ratio
  walk_at "nx"
  cases ht : tupN 2 x with
  | false =>
    rw [isQ_tup ht] at hq
    have hT : EvT p0 (tOr (tNot (tB (tCB (rIsi K) (tCons (tVar 0) (tCons (tC (.ty "tuple")) tNil))))) (tOr (tTest (tOp (rNeD K) (tCB (Evl.rLenS K) (tCons (tVar 0) tNil)) (tC (.int 2)))) (tTest (tOp (rI0 fun i j => .bl (decide (j < i))) (tCB (Evl.rLenS K) (tCons (tLc (iTup K (tVar 0)) (gName 1) (tNot (tB (tCall (SpR K (R1B isI)) [] E0 (tCons (tVar 1) tNil)))) (tVar 1) [1]) tNil)) (tC (.int 0)))))) [some v, none] H true := by
      cases hx : isTup x with
      | false => exact et_is (et_or (a := true) (b := true) (et_is (et_not (et_B (ev_isTup (by walk_at "ev")))) (by rw [hx]; rfl)) fun z => nomatch z) rfl
      | true =>
        obtain ⟨es, rfl⟩ : ∃ es, x = .tuple es := by cases x <;> first | exact ⟨_, rfl⟩ | cases hx
        have hl : es.length ≠ 2 := by simpa [tupN] using ht
        refine et_is (et_or (a := false) (b := true) (et_is (et_not (et_B (ev_isTup (by walk_at "ev")))) rfl) fun _ => et_is (et_or (a := true) (b := true) (et_is (et_test (ev_ne (ev_lenT (by walk_at "ev")) ev_int sh_int sh_int)) ?_) fun z => nomatch z) rfl) rfl
        rw [eqv_int, decide_eq_false (by omega)]
        rfl
    refine s_yes hT rfl pi0 fun H1 r1 => ?_
    exact s_ret (en_flat ev_bl rfl) r1.e0 hq
  | true =>
    obtain ⟨es, rfl, hl⟩ := tupN_t ht
    match es, hl with
    | [a, b], _ =>
      have hlc : EvP K p0 (tOp (rI0 fun i j => .bl (decide (j < i))) (tCB (Evl.rLenS K) (tCons (tLc (iTup K (tVar 0)) (gName 1) (tNot (tB (tCall (SpR K (R1B isI)) [] E0 (tCons (tVar 1) tNil)))) (tVar 1) [1]) tNil)) (tC (.int 0))) [some v, none] H (fun d => d = .bool (!(isI a && isI b))) := by
        refine (evp_B0 (g := fun i j => decide (j < i)) (j := 0) (A := fun i => i = (([a, b].filter fun z => !isI z).length : Int)) ((evp_lenL (evp_lcT (K := K) (ds := [a, b]) (fun i es => es.length = (([a, b].take i).filter fun z => !isI z).length) (by walk_at "ev") (by simp) (wipe_one _) rfl ?_)).imp fun d ⟨es, h1, h2⟩ => ⟨_, h1, by rw [h2]; rfl⟩) ev_int).imp fun d ⟨i, h1, h2⟩ => ?_
        · rintro H0 r0 i x d hd p' H' hp w' up kd acc hacc
          refine ⟨!isI d, et_not (et_B (ev_call (ea_cons (ev_var rfl kd (Rl.refl w')) ea_nil) ⟨d, rfl, rfl⟩)), fun e => ⟨fun z => z = d, ev_var rfl kd (Rl.refl w'), fun z _ => ?_⟩, fun e => ?_⟩
          · show (acc ++ [z]).length = ((List.take (i + 1) [a, b]).filter fun z => !isI z).length
            rw [List.length_append, hacc, List.take_add_one, hd]
            simp [e]
          · show acc.length = ((List.take (i + 1) [a, b]).filter fun z => !isI z).length
            rw [hacc, List.take_add_one, hd]
            simp [e]
        · rw [h1, h2]
          cases ha : isI a <;> cases hb : isI b <;> simp [List.filter, ha, hb]
      refine s_if (b := !(isI a && isI b)) (et_is (et_or (a := false) (b := !(isI a && isI b)) (et_is (et_not (et_B (ev_isTup (d := .tuple [a, b]) (by walk_at "ev")))) rfl) fun _ => et_is (et_or (a := false) (b := !(isI a && isI b)) (et_is (et_test (ev_ne (d := .int 2) (ev_lenT (ds := [a, b]) (by walk_at "ev")) ev_int sh_int sh_int)) (by rfl)) fun _ => et_test hlc) (by simp)) (by simp)) pi0 (fun e H1 r1 => ?_) fun e H1 r1 => ?_
      · rw [isQ_two (by cases ha : isI a <;> cases hb : isI b <;> simp [ha, hb] at e ⊢)] at hq
        exact s_ret (en_flat ev_bl rfl) r1.e0 hq
      · have hab : isI a = true ∧ isI b = true := by cases ha : isI a <;> cases hb : isI b <;> simp [ha, hb] at e ⊢
        obtain ⟨a, rfl⟩ := isI_int hab.1
        obtain ⟨b, rfl⟩ := isI_int hab.2
        have sa := (bx.mem (d := .int a) (by simp)).sm
        have sb := (bx.mem (d := .int b) (by simp)).sm
        walk_at "nx"
        refine s_ret (en_flat (d := .bool (isQ (qD (a, b)))) ?_ rfl) r1.e0 hq
        refine ev_is (ev_andV (a := decide (0 < b)) (b := decide (Nat.gcd a.natAbs b.natAbs = 1)) (ev_B0 (i := b) (j := 0) (by walk_at "ev") ev_int) fun hb => ?_) ?_
        · have hb' : 0 < b := by simpa using hb
          refine ev_is (ev_eq (d := lowD a b) (e := qD (a, b)) (ev_call (by walk_at "ev") ⟨a, b, rfl, hb', sm_mono sa (by decide), sm_mono sb (by decide), rfl⟩) ?_ sh_low sh_qd) (by rw [low_self hb'])
          unfold qD
          walk_at "ev"
        · unfold isQ
          rw [isQf_ok, Bool.and_true]
          rfl
theorem ok_law_are_ratios (FR : Free mg) (A : At K mg "_law_are_ratios" s_law_are_ratios P_law_are_ratios f fd) (c : Prm P w K mg base CX0 2 "_law_is_ratio" P_law_is_ratio (SpR K Rratio)) : Prm P w K mg base CX0 3 "_law_are_ratios" P_law_are_ratios (SpR K Rratios) := by
  refine mk_prm A sc_law_are_ratios (fun ds d ⟨x, n, e, _⟩ => by rw [e]; rfl) (dv_law_are_ratios FR c) ?_
  rintro vs ds d H Q hv ⟨x, n, rfl, bx, rfl⟩ hq
  obtain ⟨v, v2, rfl, k, k2⟩ := dpa2 hv
  unfold t_law_are_ratios
  walk_at "nx"
  refine s_if (et_tupn (d := x) (n := n) (by walk_at "ev") (by walk_at "ev")) pi0 (fun h H1 r1 => ?_) (fun h H1 r1 => ?_)
  · rw [areQ_no (by simpa using h)] at hq
    exact s_ret (en_flat ev_bl rfl) r1.e0 hq
  · obtain ⟨es, rfl, hl⟩ := tupN_t (by simpa using h : tupN n x = true)
    have ha : areQ (fun _ _ => true) n (.tuple es) = es.all isQ := by
      show (decide (es.length = n) && _) = _
      rw [decide_eq_true hl, Bool.true_and]
      rfl
    rw [ha] at hq
    walk_at "nx"
    refine s_all isQ (by walk_at "ev") (fun y d H2 hm r2 kd => ?_) (fun e H2 r2 => ?_) (fun e σ' H2 r2 => ?_)
    · have kd' : Dp K (vw p0 H2) y d := kd
      have h1 : EvD K p0 (tCall (SpR K Rratio) [] E0 (tCons (tVar 2) tNil)) ((start N_law_are_ratios [v, v2]).set 2 (some y)) H2 (.bool (isQ d)) := by
        walk_at "ev"
        exact ⟨d, rfl, bx.mem hm, rfl⟩
      exact et_not (et_B h1)
    · rw [e] at hq
      exact hq _ _ (r1.trans r2).e0 (.bl _)
    · rw [e] at hq
      walk_at "nx"
      exact s_ret (en_flat ev_bl rfl) (r1.trans r2).e0 hq
end

end Ky
set_option Elab.async false
set_option linter.all false
set_option maxRecDepth 4000
set_option maxHeartbeats 4000000
namespace Ky
open PySem PySem.Spec PyProof.Rows L2
local macro_rules | `(tactic| walk_at "rl") => `(tactic| first | assumption | exact Rl.refl pi0 | exact Rl.refl (by assumption) | exact Rl.refl (Rl.pi (by assumption)) | (refine Rl.trans (by assumption) ?_; walk_at "rl"))
local macro_rules | `(tactic| walk_at "ev") => `(tactic| first
  | with_reducible exact ev_int | with_reducible exact ev_bl | with_reducible exact ev_str | with_reducible exact ev_non
  | ((with_reducible apply ev_var); (focus exact rfl); (focus assumption); (focus walk_at "rl"))
  | ((with_reducible apply ev_slot); (focus exact rfl); (focus first | exact fun _ => Dp.int _ | exact fun _ => Dp.bl _ | exact fun _ => Dp.str _ | exact fun _ => Dp.non))
  | with_reducible exact ea_nil | with_reducible exact eo_none | with_reducible exact et_yes
  | with_reducible exact sh_int | with_reducible exact sh_bool | with_reducible exact sh_non
  | ((with_reducible apply ea_cons) <;> try walk_at "ev")
  | ((with_reducible apply ev_I0) <;> try walk_at "ev")
  | ((with_reducible apply ev_B0) <;> try walk_at "ev")
  | ((with_reducible apply ev_IC) <;> try walk_at "ev")
  | ((with_reducible apply ev_neg) <;> try walk_at "ev")
  | ((with_reducible apply ev_chain) <;> try walk_at "ev")
  | ((with_reducible apply ev_isTup) <;> try walk_at "ev")
  | ((with_reducible apply ev_isInt) <;> try walk_at "ev")
  | ((with_reducible apply ev_isBool) <;> try walk_at "ev")
  | ((with_reducible apply ev_isStr) <;> try walk_at "ev")
  | ((with_reducible apply ev_isLst) <;> try walk_at "ev")
  | ((with_reducible apply ev_isN) <;> try walk_at "ev")
  | ((with_reducible apply ev_notN) <;> try walk_at "ev")
  | ((with_reducible apply ev_notB) <;> try walk_at "ev")
  | ((with_reducible apply ev_eq) <;> try walk_at "ev")
  | ((with_reducible apply ev_ne) <;> try walk_at "ev")
  | ((with_reducible apply ev_abs) <;> try walk_at "ev")
  | ((with_reducible apply ev_max) <;> try walk_at "ev")
  | ((with_reducible apply ev_bits) <;> try walk_at "ev")
  | ((with_reducible apply ev_gcd) <;> try walk_at "ev")
  | ((with_reducible apply ev_list) <;> try walk_at "ev")
  | ((with_reducible apply ev_tuple) <;> try walk_at "ev")
  | ((with_reducible apply ev_tup) <;> try walk_at "ev")
  | ((with_reducible apply ev_lst) <;> try walk_at "ev")
  | ((with_reducible apply ev_catT) <;> try walk_at "ev")
  | ((with_reducible apply ev_slice) <;> try walk_at "ev")
  | ((with_reducible apply eo_some) <;> try walk_at "ev")
  | ((with_reducible apply ev_notV) <;> try walk_at "ev")
  | ((with_reducible apply et_test) <;> try walk_at "ev")
  | ((with_reducible apply et_B) <;> try walk_at "ev")
  | ((with_reducible apply et_not) <;> try walk_at "ev")
  | ((with_reducible apply ev_lenT); (focus (walk_at "ev"; done)))
  | ((with_reducible apply ev_lenL); (focus (walk_at "ev"; done)))
  | ((with_reducible apply ev_intI); (focus (walk_at "ev"; done)))
  | ((with_reducible apply ev_intB); (focus (walk_at "ev"; done)))
  | ((with_reducible apply ev_ixT); (focus (walk_at "ev"; done)); (focus (walk_at "ev"; done)); (try first | rfl | assumption))
  | ((with_reducible apply ev_ixL); (focus (walk_at "ev"; done)); (focus (walk_at "ev"; done)); (try first | rfl | assumption))
  | ((with_reducible apply ev_call); (focus (walk_at "ev"; done))))
local macro_rules | `(tactic| walk_at "nx") => `(tactic| ((try dsimp only); (try ((with_reducible refine st_next ?_); (try dsimp only))); (try with_reducible refine st_seq ?_)))
section
variable {P : Program} {w : World} {K : PySem.W.Frag} {mg : Str → Option Value} {base : Heap} {f : Addr} {fd : FuncData}
theorem s_allS {σ : L2.St} {H : Hp} {tl : TE} {T : TT} {F : Ends} {ds : List D} {j : Nat} (g : D → Bool) (h : EvD K p0 tl σ H (.tuple ds))
    (hT : ∀ x d H1, d ∈ ds → Rl p0 H H1 → Dp K H1 x d → EvT p0 T (σ.set j (some x)) H1 (!g d)) (hF : ds.all g = false → ∀ H1, Rl p0 H H1 → F.rt (.bl false) H1) (hN : ds.all g = true → ∀ σ' H1, (σ' = σ ∨ ∃ x, σ' = σ.set j (some x)) → Rl p0 H H1 → F.nx σ' H1) :
    tFor (iTup K tl) (gName j) (tIfS T (tRet (tC (.bl false))) tNext) F σ H := by
  refine s_forT h pi0 (fun i σ' _ => (σ' = σ ∨ ∃ x, σ' = σ.set j (some x)) ∧ (ds.take i).all g = true) (fun H1 r1 => ⟨.inl rfl, by simp⟩) ?_ ?_
  · rintro H1 r1 i x d σ' H' hd kd r2 ⟨hσ, hg⟩
    show tIfS T (tRet (tC (.bl false))) tNext _ (σ'.set j (some x)) H'
    have e : σ'.set j (some x) = σ.set j (some x) := by
      rcases hσ with rfl | ⟨y, rfl⟩
      · rfl
      · rw [List.set_set]
    rw [e]
    have r12 := r1.trans r2
    have hm : d ∈ ds := List.mem_of_getElem? hd
    refine s_if (hT x d H' hm r12 kd) pi0 (fun e H3 r3 => ?_) (fun e H3 r3 => ?_)
    · refine hF ?_ H3 (r12.trans r3)
      cases q : ds.all g with
      | false => rfl
      | true =>
        rw [List.all_eq_true.mp q d hm] at e
        cases e
    · refine ⟨r2.trans r3, .inr ⟨x, rfl⟩, ?_⟩
      have hlt : i < ds.length := (List.getElem?_eq_some_iff.mp hd).1
      rw [List.take_add_one, List.all_append, hg, hd]
      have : g d = true := by
        cases q : g d with
        | true => rfl
        | false => rw [q] at e; cases e
      simp [this]
  · rintro σ' H' r2 ⟨hσ, hg⟩
    rw [List.take_length] at hg
    exact hN hg σ' H' hσ r2
theorem areQ_t {f : Int → Int → Bool} {n : Nat} {ds : List D} : areQ f n (.tuple ds) = (decide (ds.length = n) && ds.all (isQf f)) := rfl
theorem areQ_of {f : Int → Int → Bool} {n : Nat} {d : D} (h : areQ (fun _ _ => true) n d = false) : areQ f n d = false := by
  cases d with
  | tuple ds =>
    rw [areQ_t] at h ⊢
    cases q : decide (ds.length = n) with
    | false => rfl
    | true =>
      rw [q, Bool.true_and] at h
      rw [Bool.true_and]
      cases q2 : ds.all (isQf f) with
      | false => rfl
      | true =>
        rw [← h]
        symm
        rw [List.all_eq_true] at q2 ⊢
        intro z hz
        cases q3 : isQf (fun _ _ => true) z with
        | true => rfl
        | false => have := q2 z hz; rw [isQf_f q3] at this; cases this
  | _ => rfl
theorem areQ_yes {f : Int → Int → Bool} {n : Nat} {d : D} (h : areQ (fun _ _ => true) n d = true) : ∃ ds, d = .tuple ds ∧ (∀ z, z ∈ ds → isQ z = true) ∧ areQ f n d = ds.all (isQf f) := by
  cases d with
  | tuple ds =>
    rw [areQ_t] at h
    rw [Bool.and_eq_true] at h
    refine ⟨ds, rfl, List.all_eq_true.mp h.2, ?_⟩
    show (decide (ds.length = n) && _) = _
    rw [h.1, Bool.true_and]
  | _ => cases h
theorem ok_law_is_earth (FR : Free mg) (A : At K mg "_law_is_earth" s_law_is_earth P_law_is_earth f fd) (c1 : Prm P w K mg base CX0 2 "_law_is_ground" P_law_is_ground (SpR K (R1B isBase))) (c2 : Prm P w K mg base CX0 3 "_law_are_ratios" P_law_are_ratios (SpR K Rratios)) :
    Prm P w K mg base CX0 4 "_law_is_earth" P_law_is_earth (SpR K Rearth) := by
  refine mk_prm A sc_law_is_earth (fun ds d ⟨c, x, e, _⟩ => by rw [e]; rfl) (dv_law_is_earth FR c1 c2) ?_
  rintro vs ds d H Q hv ⟨c, x, rfl, bx, rfl⟩ hq
  obtain ⟨v, v2, rfl, k, k2⟩ := dpa2 hv
  show t_law_is_earth K _ [some v, some v2, none, none] H
  unfold t_law_is_earth
  walk_at "nx"
  cases ht : tupN 4 x with
  | false =>
    rw [worldOk_no ht] at hq
    have hT : EvT p0 (tOr (tNot (tB (tCB (rIsi K) (tCons (tVar 1) (tCons (tC (.ty "tuple")) tNil))))) (tOr (tTest (tOp (rNeD K) (tCB (Evl.rLenS K) (tCons (tVar 1) tNil)) (tC (.int 4)))) (tNot (tB (tCall (SpR K (R1B isBase)) [] E0 (tCons (tOp (rIx K) (tVar 1) (tC (.int 0))) tNil)))))) [some v, some v2, none, none] H true := by
      cases hx : isTup x with
      | false => exact et_is (et_or (a := true) (b := true) (et_is (et_not (et_B (ev_isTup (by walk_at "ev")))) (by rw [hx]; rfl)) fun z => nomatch z) rfl
      | true =>
        obtain ⟨es, rfl⟩ : ∃ es, x = .tuple es := by cases x <;> first | exact ⟨_, rfl⟩ | cases hx
        have hl : es.length ≠ 4 := by simpa [tupN] using ht
        refine et_is (et_or (a := false) (b := true) (et_is (et_not (et_B (ev_isTup (by walk_at "ev")))) rfl) fun _ => et_is (et_or (a := true) (b := true) (et_is (et_test (ev_ne (ev_lenT (by walk_at "ev")) ev_int sh_int sh_int)) ?_) fun z => nomatch z) rfl) rfl
        rw [eqv_int, decide_eq_false (by omega)]
        rfl
    refine s_yes hT rfl pi0 fun H1 r1 => ?_
    exact s_ret (en_flat ev_bl rfl) r1.e0 hq
  | true =>
    obtain ⟨es, rfl, hl⟩ := tupN_t ht
    match es, hl with
    | [b, fl, rm, ch], _ =>
      have b1 := bx.mem (d := fl) (by simp)
      have b2 := bx.mem (d := rm) (by simp)
      have b3 := bx.mem (d := ch) (by simp)
      refine s_if (b := !isBase b) (et_is (et_or (a := false) (b := !isBase b) (et_is (et_not (et_B (ev_isTup (d := .tuple [b, fl, rm, ch]) (by walk_at "ev")))) rfl) fun _ => et_is (et_or (a := false) (b := !isBase b) (et_is (et_test (ev_ne (d := .int 4) (ev_lenT (ds := [b, fl, rm, ch]) (by walk_at "ev")) ev_int sh_int sh_int)) (by rfl)) fun _ => et_not (et_B (ev_call (ds := [b]) (by walk_at "ev") ⟨b, rfl, rfl⟩))) (by simp)) (by simp)) pi0 (fun e H1 r1 => ?_) fun e H1 r1 => ?_
      · have : worldOk c (.tuple [b, fl, rm, ch]) = false := by
          show (isBase b && _ && _ && _) = false
          rw [show isBase b = false by simpa using e]
          rfl
        rw [this] at hq
        exact s_ret (en_flat ev_bl rfl) r1.e0 hq
      have hb : isBase b = true := by simpa using e
      walk_at "nx"
      refine s_asg (K := K) (d := .int (c.tanks.length : Int)) (ev_net1 (by walk_at "ev")) pi0 fun v3 H2 r2 k3 => ?_
      have e3 := dp_int k3
      subst e3
      walk_at "nx"
      have hf : EvD K p0 (tCall (SpR K Rratios) [] E0 (tCons (tOp (rIx K) (tVar 1) (tC (.int 1))) (tCons (tCB (Evl.rLenS K) (tCons (tOp (rIx K) (tVar 0) (tC (.int 2))) tNil)) tNil))) [some v, some v2, some (.int (c.tanks.length : Int)), none] H2 (.bool (areQ (fun _ _ => true) c.sws.length fl)) := ev_call (ds := [fl, .int (c.sws.length : Int)]) (ea_cons (by walk_at "ev") (ea_cons (ev_net2 (by walk_at "ev")) ea_nil)) ⟨fl, _, rfl, b1, rfl⟩
      have hr : EvD K p0 (tCall (SpR K Rratios) [] E0 (tCons (tOp (rIx K) (tVar 1) (tC (.int 2))) (tCons (tVar 2) tNil))) [some v, some v2, some (.int (c.tanks.length : Int)), none] H2 (.bool (areQ (fun _ _ => true) c.tanks.length rm)) := ev_call (ds := [rm, .int (c.tanks.length : Int)]) (by walk_at "ev") ⟨rm, _, rfl, b2, rfl⟩
      refine s_if (et_or (et_not (et_B hf)) fun _ => et_not (et_B hr)) pi0 (fun e H3 r3 => ?_) fun e H3 r3 => ?_
      · have : worldOk c (.tuple [b, fl, rm, ch]) = false := by
          show (isBase b && areQ _ _ _ && areQ _ _ _ && _) = false
          cases q1 : areQ (fun _ _ => true) c.sws.length fl with
          | false => rw [areQ_of q1]; simp
          | true =>
            cases q2 : areQ (fun _ _ => true) c.tanks.length rm with
            | false => rw [areQ_of q2]; simp
            | true => rw [q1, q2] at e; cases e
        rw [this] at hq
        exact s_ret (en_flat ev_bl rfl) ((r1.trans r2).trans r3).e0 hq
      have q1 : areQ (fun _ _ => true) c.sws.length fl = true := by
        cases q1 : areQ (fun _ _ => true) c.sws.length fl with
        | true => rfl
        | false => rw [q1] at e; cases e
      have q2 : areQ (fun _ _ => true) c.tanks.length rm = true := by
        cases q2 : areQ (fun _ _ => true) c.tanks.length rm with
        | true => rfl
        | false => rw [q1, q2] at e; cases e
      walk_at "nx"
      have hc : EvD K p0 (tCall (SpR K Rratios) [] E0 (tCons (tOp (rIx K) (tVar 1) (tC (.int 3))) (tCons (tOp (rI0 fun i j => .int (i + j)) (tVar 2) (tCB (Evl.rLenS K) (tCons (tOp (rIx K) (tVar 0) (tC (.int 0))) tNil))) tNil))) [some v, some v2, some (.int (c.tanks.length : Int)), none] H3 (.bool (areQ (fun _ _ => true) c.n ch)) :=
        ev_call (ds := [ch, .int (c.n : Int)]) (ea_cons (by walk_at "ev") (ea_cons (ev_is (ev_I0 (f := fun i j => i + j) (i := (c.tanks.length : Int)) (by walk_at "ev") (ev_net0 (by walk_at "ev"))) (by show PyData.int _ = _; congr 1; unfold Net.n; omega)) ea_nil)) ⟨ch, _, rfl, b3, rfl⟩
      refine s_if (et_not (et_B hc)) pi0 (fun e H4 r4 => ?_) fun e H4 r4 => ?_
      · have : worldOk c (.tuple [b, fl, rm, ch]) = false := by
          show (isBase b && areQ _ _ _ && areQ _ _ _ && areQ _ _ _) = false
          rw [areQ_of (f := fun a b => decide (0 ≤ a) && decide (a ≤ b)) (show areQ (fun _ _ => true) c.n ch = false by simpa using e), Bool.and_false]
        rw [this] at hq
        exact s_ret (en_flat ev_bl rfl) (((r1.trans r2).trans r3).trans r4).e0 hq
      have q3 : areQ (fun _ _ => true) c.n ch = true := by simpa using e
      obtain ⟨fs, rfl, iF, eF⟩ := areQ_yes (f := fun a _ => decide (0 ≤ a)) q1
      obtain ⟨rs, rfl, iR, eR⟩ := areQ_yes (f := fun a _ => decide (0 < a)) q2
      obtain ⟨cs, rfl, iC, eC⟩ := areQ_yes (f := fun a b => decide (0 ≤ a) && decide (a ≤ b)) q3
      have hW : worldOk c (.tuple [b, .tuple fs, .tuple rs, .tuple cs]) = (fs.all (isQf fun a _ => decide (0 ≤ a)) && rs.all (isQf fun a _ => decide (0 < a)) && cs.all (isQf fun a b => decide (0 ≤ a) && decide (a ≤ b))) := by
        show (isBase b && areQ _ _ _ && areQ _ _ _ && areQ _ _ _) = _
        rw [hb, eF, eR, eC, Bool.true_and]
      rw [hW] at hq
      have rA := (r1.trans r2).trans (r3.trans r4)
      have k2A := dp_ex rA.ex k2
      walk_at "nx"
      refine s_allS (K := K) (isQf fun a _ => decide (0 ≤ a)) (ds := fs) (by walk_at "ev") (fun y d H5 hm r5 kd => ?_) (fun e H5 r5 => ?_) (fun e σ' H5 hσ r5 => ?_)
      · have kd' : Dp K (vw p0 H5) y d := kd
        obtain ⟨t, u, rfl, h2, h3, _⟩ := isQf_q (iF d hm)
        unfold qD at kd'
        refine et_is (et_test (K := K) (ev_B0 (i := t) (j := 0) (by walk_at "ev") ev_int)) ?_
        rw [isQf_ok, decide_eq_true h2, decide_eq_true h3, Bool.true_and, Bool.true_and]
        by_cases q : t < 0 <;> simp [q] <;> omega
      · rw [e] at hq
        exact hq _ _ (rA.trans r5).e0 (.bl _)
      rw [e] at hq
      obtain ⟨a0, rfl⟩ : ∃ a0, σ' = [some v, some v2, some (.int (c.tanks.length : Int)), a0] := by
        rcases hσ with rfl | ⟨x, rfl⟩
        · exact ⟨_, rfl⟩
        · exact ⟨_, rfl⟩
      walk_at "nx"
      refine s_allS (K := K) (isQf fun a _ => decide (0 < a)) (ds := rs) (by walk_at "ev") (fun y d H6 hm r6 kd => ?_) (fun e H6 r6 => ?_) (fun e σ' H6 hσ r6 => ?_)
      · have kd' : Dp K (vw p0 H6) y d := kd
        obtain ⟨t, u, rfl, h2, h3, _⟩ := isQf_q (iR d hm)
        unfold qD at kd'
        refine et_is (et_test (K := K) (ev_B0 (i := t) (j := 1) (by walk_at "ev") ev_int)) ?_
        rw [isQf_ok, decide_eq_true h2, decide_eq_true h3, Bool.true_and, Bool.true_and]
        by_cases q : t < 1 <;> simp [q] <;> omega
      · rw [e] at hq
        exact hq _ _ ((rA.trans r5).trans r6).e0 (.bl _)
      rw [e] at hq
      obtain ⟨a1, rfl⟩ : ∃ a0, σ' = [some v, some v2, some (.int (c.tanks.length : Int)), a0] := by
        rcases hσ with rfl | ⟨x, rfl⟩
        · exact ⟨_, rfl⟩
        · exact ⟨_, rfl⟩
      walk_at "nx"
      refine s_allS (K := K) (isQf fun a b => decide (0 ≤ a) && decide (a ≤ b)) (ds := cs) (by walk_at "ev") (fun y d H7 hm r7 kd => ?_) (fun e H7 r7 => ?_) (fun e σ' H7 hσ r7 => ?_)
      · have kd' : Dp K (vw p0 H7) y d := kd
        obtain ⟨t, u, rfl, h2, h3, _⟩ := isQf_q (iC d hm)
        unfold qD at kd'
        refine et_is (et_or (a := decide (t < 0)) (b := decide (u < t)) (et_test (K := K) (ev_B0 (i := t) (j := 0) (by walk_at "ev") ev_int)) fun _ => et_test (K := K) (ev_B0 (f := fun i j => decide (j < i)) (i := t) (j := u) (by walk_at "ev") (by walk_at "ev"))) ?_
        rw [isQf_ok, decide_eq_true h2, decide_eq_true h3, Bool.true_and, Bool.true_and]
        by_cases q : t < 0 <;> by_cases q' : u < t <;> simp [q, q'] <;> omega
      · rw [e] at hq
        exact hq _ _ ((rA.trans r5).trans (r6.trans r7)).e0 (.bl _)
      rw [e] at hq
      walk_at "nx"
      exact s_ret (en_flat ev_bl rfl) ((rA.trans r5).trans (r6.trans r7)).e0 hq
end

end Ky
set_option Elab.async false
set_option linter.all false
set_option maxRecDepth 4000
set_option maxHeartbeats 4000000
namespace Ky
open PySem PySem.Spec PyProof.Rows L2
local macro_rules | `(tactic| walk_at "rl") => `(tactic| first | assumption | exact Rl.refl pi0 | exact Rl.refl (by assumption) | exact Rl.refl (Rl.pi (by assumption)) | (refine Rl.trans (by assumption) ?_; walk_at "rl"))
local macro_rules | `(tactic| walk_at "ev") => `(tactic| first
  | with_reducible exact ev_int | with_reducible exact ev_bl | with_reducible exact ev_str | with_reducible exact ev_non
  | ((with_reducible apply ev_var); (focus exact rfl); (focus assumption); (focus walk_at "rl"))
  | ((with_reducible apply ev_slot); (focus exact rfl); (focus first | exact fun _ => Dp.int _ | exact fun _ => Dp.bl _ | exact fun _ => Dp.str _ | exact fun _ => Dp.non))
  | with_reducible exact ea_nil | with_reducible exact eo_none | with_reducible exact et_yes
  | with_reducible exact sh_int | with_reducible exact sh_bool | with_reducible exact sh_non
  | ((with_reducible apply ea_cons) <;> try walk_at "ev")
  | ((with_reducible apply ev_I0) <;> try walk_at "ev")
  | ((with_reducible apply ev_B0) <;> try walk_at "ev")
  | ((with_reducible apply ev_IC) <;> try walk_at "ev")
  | ((with_reducible apply ev_neg) <;> try walk_at "ev")
  | ((with_reducible apply ev_chain) <;> try walk_at "ev")
  | ((with_reducible apply ev_isTup) <;> try walk_at "ev")
  | ((with_reducible apply ev_isInt) <;> try walk_at "ev")
  | ((with_reducible apply ev_isBool) <;> try walk_at "ev")
  | ((with_reducible apply ev_isStr) <;> try walk_at "ev")
  | ((with_reducible apply ev_isLst) <;> try walk_at "ev")
  | ((with_reducible apply ev_isN) <;> try walk_at "ev")
  | ((with_reducible apply ev_notN) <;> try walk_at "ev")
  | ((with_reducible apply ev_notB) <;> try walk_at "ev")
  | ((with_reducible apply ev_eq) <;> try walk_at "ev")
  | ((with_reducible apply ev_ne) <;> try walk_at "ev")
  | ((with_reducible apply ev_abs) <;> try walk_at "ev")
  | ((with_reducible apply ev_max) <;> try walk_at "ev")
  | ((with_reducible apply ev_bits) <;> try walk_at "ev")
  | ((with_reducible apply ev_gcd) <;> try walk_at "ev")
  | ((with_reducible apply ev_list) <;> try walk_at "ev")
  | ((with_reducible apply ev_tuple) <;> try walk_at "ev")
  | ((with_reducible apply ev_tup) <;> try walk_at "ev")
  | ((with_reducible apply ev_lst) <;> try walk_at "ev")
  | ((with_reducible apply ev_catT) <;> try walk_at "ev")
  | ((with_reducible apply ev_slice) <;> try walk_at "ev")
  | ((with_reducible apply eo_some) <;> try walk_at "ev")
  | ((with_reducible apply ev_notV) <;> try walk_at "ev")
  | ((with_reducible apply et_test) <;> try walk_at "ev")
  | ((with_reducible apply et_B) <;> try walk_at "ev")
  | ((with_reducible apply et_not) <;> try walk_at "ev")
  | ((with_reducible apply ev_lenT); (focus (walk_at "ev"; done)))
  | ((with_reducible apply ev_lenL); (focus (walk_at "ev"; done)))
  | ((with_reducible apply ev_intI); (focus (walk_at "ev"; done)))
  | ((with_reducible apply ev_intB); (focus (walk_at "ev"; done)))
  | ((with_reducible apply ev_ixT); (focus (walk_at "ev"; done)); (focus (walk_at "ev"; done)); (try first | rfl | assumption))
  | ((with_reducible apply ev_ixL); (focus (walk_at "ev"; done)); (focus (walk_at "ev"; done)); (try first | rfl | assumption))
  | ((with_reducible apply ev_call); (focus (walk_at "ev"; done))))
local macro_rules | `(tactic| walk_at "nx") => `(tactic| ((try dsimp only); (try ((with_reducible refine st_next ?_); (try dsimp only))); (try with_reducible refine st_seq ?_)))
section
variable {P : Program} {w : World} {K : PySem.W.Frag} {mg : Str → Option Value} {base : Heap} {f : Addr} {fd : FuncData}
theorem s_ifD {p : Pw} {σ : L2.St} {H : Hp} {t : TT} {tu : TS} {F : Ends} {b : Bool} (G : L2.St → Prop) (h : EvT p t σ H b) (pi : Wl p H) (k : ∀ σ' H', Rl p H H' → G σ' → F.nx σ' H') (h1 : b = true → ∀ H1, Rl p H H1 → (∀ σ' H', Rl p H H' → G σ' → F.nx σ' H') → tu F σ H1) (h2 : b = false → G σ) : tIfS t tu tNext F σ H :=
  s_if h pi (fun e H1 r1 => h1 e H1 r1 k) fun e H1 r1 => k σ H1 r1 (h2 e)
theorem lpow {b s : Int} (h : Sm 64 b) (h0 : 0 ≤ s) (h6 : s ≤ 6) : Sm 800 (b ^ (2 * s).toNat) := sm_lo h h0 h6
theorem ok_law_fault (FR : Free mg) (A : At K mg "_law_fault" s_law_fault P_law_fault f fd) (c1 : Prm P w K mg base CX0 1 "_law_raised" P_law_raised (SpR K Rraised)) : Prm P w K mg base CX0 2 "_law_fault" P_law_fault (SpR K Rfault) := by
  refine mk_prm A sc_law_fault (fun ds d ⟨c, ps, hs, b, fl, rm, ch, sl, e, _⟩ => by rw [e]; rfl) (dv_law_fault FR c1) ?_
  rintro vs ds d H Q hv ⟨c, ps, hs, b, fl, rm, ch, sl, rfl, L, S, rfl⟩ hq
  have gd := L.good
  obtain ⟨v, v1, v2, v3, v4, rfl, k, k1, k2, k3, k4⟩ := dpa5 hv
  obtain ⟨b2, lf, lr, lc, qc⟩ := wd_parts S.world
  have lp := pos_len S.pos
  have lh := held_len S.held
  unfold wdD qs at k3
  unfold netD at k
  unfold nums at k1 k2
  unfold qD at k4
  show t_law_fault K _ [some v, some v1, some v2, some v3, some v4, none, none, none, none, none, none] H
  unfold t_law_fault
  walk_at "nx"
  refine s_forR (K := K) (n := (c.sws.length : Int)) (ev_net2 (c := c) (by unfold netD; walk_at "ev")) (by have := L.s6; omega) (by omega) pi0 (fun i σ' _ => (∃ a5 a6 a7 a8, σ' = [some v, some v1, some v2, some v3, some v4, a5, a6, a7, a8, none, none]) ∧ ∀ j, j < i → lflow b ((c.sws[j]?.map Sw.strength).getD 1) (ps.getD j 0) (fl.getD j (0, 1)) = false)
    (fun H6 r6 => ⟨⟨none, none, none, none, rfl⟩, fun j hj => absurd hj (Nat.not_lt_zero j)⟩) ?_ ?_
  · rintro H1 r1 i σ' H2 hi r2 ⟨⟨a5, a6, a7, a8, rfl⟩, inv⟩
    have hi' : i < c.sws.length := by omega
    obtain ⟨sw, hsw⟩ := get_lt hi'
    obtain ⟨p, hp⟩ := get_lt (l := ps) (i := i) (by omega)
    obtain ⟨q, hqq⟩ := get_lt (l := fl) (i := i) (by omega)
    have sm := S.smF q (List.mem_of_getElem? hqq)
    have gs := gd.sw sw (List.mem_of_getElem? hsw)
    have hbad : lflow b ((c.sws[i]?.map Sw.strength).getD 1) (ps.getD i 0) (fl.getD i (0, 1)) = lflow b sw.strength p q := by rw [hsw, getD_of hp, getD_of hqq]; rfl
    have hlo := lpow S.smB (by omega : 0 ≤ sw.strength) gs.2
    have hret : lflow b sw.strength p q = true → ∀ (σ3 : L2.St) (H3 : Hp), σ3[5]? = some (some (.int (i : Int))) → Rl p0 H H3 → tRet (tTup (tCons (tC (.str "flow")) (tCons (tVar 5) tNil))) { nx := fun x H' => Q .non H', rt := Q } σ3 H3 := by
      intro hb σ3 H3 h5 r3
      have : faultL c ps hs b fl rm ch sl = some (("flow" : Str), i) := by
        unfold faultL
        rw [firstAt_some hi' (by rw [hbad]; exact hb) inv]
        rfl
      rw [this] at hq
      exact s_ret (en_tup (ds := [.str "flow", .int (i : Int)]) (ea_cons ev_str (ea_cons (ev_slot h5 fun _ => .int _) ea_nil)) rfl (by simp)) r3.e0 hq
    walk_at "nx"
    refine s_asg (K := K) (d := .int q.1) (ev_ixT (ds := [.int q.1, .int q.2]) (ev_ixT (ds := fl.map qD) (i := (i : Int)) (ev_ixT (by walk_at "ev") ev_int rfl) (by walk_at "ev") (at_map hqq)) ev_int rfl) pi0 fun x6 H3 r3 k6 => ?_
    have e6 := dp_int k6
    subst e6
    walk_at "nx"
    refine s_asg (K := K) (d := .int q.2) (ev_ixT (ds := [.int q.1, .int q.2]) (ev_ixT (ds := fl.map qD) (i := (i : Int)) (ev_ixT (by walk_at "ev") ev_int rfl) (by walk_at "ev") (at_map hqq)) ev_int rfl) pi0 fun x7 H4 r4 k7 => ?_
    have e7 := dp_int k7
    subst e7
    walk_at "nx"
    refine s_asg (K := K) (d := .int (b ^ (2 * sw.strength).toNat)) (ev_call (ds := [.int b, .int (2 * sw.strength)]) (ea_cons (ev_ixT (by walk_at "ev") ev_int rfl) (ea_cons (ev_IC (f := fun i j => i * j) (i := 2) (j := sw.strength) ev_int (ev_ixT (ds := [.str sw.kind, .int sw.strength, .int sw.gate, .int sw.left, .int sw.right]) (ev_ixT (ds := c.sws.map swD) (i := (i : Int)) (ev_ixT (by walk_at "ev") ev_int rfl) (by walk_at "ev") (at_map hsw)) ev_int rfl) (.inl ⟨by decide, by decide⟩)) ea_nil)) ⟨b, 2 * sw.strength, rfl, by omega, by omega, S.smB, rfl⟩) pi0 fun x8 H5 r5 k8 => ?_
    have e8 := dp_int k8
    subst e8
    have rB := (r1.trans r2).trans ((r3.trans r4).trans r5)
    have hix : EvD K p0 (tOp (rIx K) (tVar 1) (tVar 5)) [some v, some v1, some v2, some v3, some v4, some (.int (i : Int)), some (.int q.1), some (.int q.2), some (.int (b ^ (2 * sw.strength).toNat)), none, none] H5 (.int p) := ev_ixT (ds := ps.map PyData.int) (i := (i : Int)) (by walk_at "ev") (by walk_at "ev") (at_map hp)
    walk_at "nx"
    refine s_if (b := decide (p = 0) && !decide (q.1 = 0)) (et_and (et_is (et_test (ev_eq (hix.mono (Rl.refl pi0)) ev_int sh_int sh_int)) (by rw [eqv_int])) fun _ => et_is (et_test (K := K) (ev_ne (d := .int q.1) (by walk_at "ev") ev_int sh_int sh_int)) (by rw [eqv_int])) pi0 (fun e H6 r6 => ?_) fun e H6 r6 => ?_
    · exact hret (by unfold lflow; rw [e]; rfl) _ H6 rfl (rB.trans r6)
    walk_at "nx"
    refine s_if (b := (decide (p = 1) && decide (q.1 < b ^ (2 * sw.strength).toNat * q.2)) || decide (b ^ (2 * sw.strength).toNat * b * q.2 < q.1)) (et_or (et_and (et_is (et_test (ev_eq (hix.mono r6) ev_int sh_int sh_int)) (by rw [eqv_int])) fun _ => et_test (K := K) (ev_B0 (f := fun i j => decide (i < j)) (i := q.1) (by walk_at "ev") (ev_IC (f := fun i j => i * j) (i := b ^ (2 * sw.strength).toNat) (j := q.2) (by walk_at "ev") (by walk_at "ev") (sm_mul hlo sm.2 (by decide) (by decide) (by decide))))) fun _ => et_test (K := K) (ev_B0 (f := fun i j => decide (j < i)) (i := q.1) (by walk_at "ev") (ev_IC (f := fun i j => i * j) (i := b ^ (2 * sw.strength).toNat * b) (j := q.2) (ev_IC (f := fun i j => i * j) (i := b ^ (2 * sw.strength).toNat) (j := b) (by walk_at "ev") (ev_ixT (by walk_at "ev") ev_int rfl) (sm_mul hlo S.smB (by decide) (by decide) (by decide))) (by walk_at "ev") (sm_mul (sm_two hlo S.smB) sm.2 (by decide) (by decide) (by decide))))) pi0 (fun e2 H7 r7 => ?_) fun e2 H7 r7 => ?_
    · exact hret (by unfold lflow; rw [e, e2]; rfl) _ H7 rfl ((rB.trans r6).trans r7)
    · exact ⟨(((r2.trans r3).trans (r4.trans r5)).trans r6).trans r7, ⟨_, _, _, _, rfl⟩, below_next inv (by rw [hbad]; unfold lflow; rw [e, e2]; rfl)⟩
  rintro σ' H1 r1 ⟨⟨a5, a6, a7, a8, rfl⟩, inv⟩
  rw [Int.toNat_natCast] at inv
  have f1 := firstAt_none inv
  clear inv
  walk_at "nx"
  refine s_forR (K := K) (n := (c.tanks.length : Int)) (ev_net1 (c := c) (by unfold netD; walk_at "ev")) (by have := gd.small; unfold Net.n at this; omega) (by omega) pi0 (fun i σ' _ => (∃ a5 a8, σ' = [some v, some v1, some v2, some v3, some v4, a5, a6, a7, a8, none, none]) ∧ ∀ j, j < i → lroom b ((c.tanks[j]?.map Prod.snd).getD 1) (rm.getD j (0, 1)) = false)
    (fun H6 r6 => ⟨⟨_, _, rfl⟩, fun j hj => absurd hj (Nat.not_lt_zero j)⟩) ?_ ?_
  · rintro H1' r1' i σ' H2 hi r2 ⟨⟨a5, a8, rfl⟩, inv⟩
    have hi' : i < c.tanks.length := by omega
    obtain ⟨t, ht⟩ := get_lt hi'
    obtain ⟨q, hqq⟩ := get_lt (l := rm) (i := i) (by omega)
    have sm := S.smR q (List.mem_of_getElem? hqq)
    have gs := gd.tk t (List.mem_of_getElem? ht)
    have hbad : lroom b ((c.tanks[i]?.map Prod.snd).getD 1) (rm.getD i (0, 1)) = lroom b t.2 q := by rw [ht, getD_of hqq]; rfl
    have hlo := lpow S.smB (by omega : 0 ≤ t.2) (by omega)
    walk_at "nx"
    refine s_asg (K := K) (d := .int (b ^ (2 * t.2).toNat * q.2)) (ev_IC (f := fun i j => i * j) (i := b ^ (2 * t.2).toNat) (j := q.2) (ev_call (ds := [.int b, .int (2 * t.2)]) (ea_cons (ev_ixT (by walk_at "ev") ev_int rfl) (ea_cons (ev_IC (f := fun i j => i * j) (i := 2) (j := t.2) ev_int (ev_ixT (ds := [.str t.1, .int t.2]) (ev_ixT (ds := c.tanks.map tkD) (i := (i : Int)) (ev_ixT (by walk_at "ev") ev_int rfl) (by walk_at "ev") (at_map ht)) ev_int rfl) (.inl ⟨by decide, by decide⟩)) ea_nil)) ⟨b, 2 * t.2, rfl, by omega, by omega, S.smB, rfl⟩) (ev_ixT (ds := [.int q.1, .int q.2]) (ev_ixT (ds := rm.map qD) (i := (i : Int)) (ev_ixT (by walk_at "ev") ev_int rfl) (by walk_at "ev") (at_map hqq)) ev_int rfl) (sm_mul hlo sm.2 (by decide) (by decide) (by decide))) pi0 fun x8 H5 r5 k8 => ?_
    have e8 := dp_int k8
    subst e8
    walk_at "nx"
    have htop : EvD K p0 (tOp (rIx K) (tOp (rIx K) (tOp (rIx K) (tVar 3) (tC (.int 2))) (tVar 5)) (tC (.int 0))) [some v, some v1, some v2, some v3, some v4, some (.int (i : Int)), a6, a7, some (.int (b ^ (2 * t.2).toNat * q.2)), none, none] H5 (.int q.1) := ev_ixT (ds := [.int q.1, .int q.2]) (ev_ixT (ds := rm.map qD) (i := (i : Int)) (ev_ixT (by walk_at "ev") ev_int rfl) (by walk_at "ev") (at_map hqq)) ev_int rfl
    refine s_if (b := lroom b t.2 q) (et_or (et_test (ev_B0 (f := fun i j => decide (i < j)) (i := q.1) htop (by walk_at "ev"))) fun _ => et_test (ev_B0 (f := fun i j => decide (j < i)) (i := q.1) htop (ev_IC (f := fun i j => i * j) (i := b ^ (2 * t.2).toNat * q.2) (j := b) (by walk_at "ev") (ev_ixT (by walk_at "ev") ev_int rfl) (sm_mul (sm_two hlo sm.2) S.smB (by decide) (by decide) (by decide))))) pi0 (fun e H6 r6 => ?_) fun e H6 r6 => ?_
    · have : faultL c ps hs b fl rm ch sl = some (("room" : Str), i) := by
        unfold faultL
        rw [f1, firstAt_some hi' (by rw [hbad]; exact e) inv]
        rfl
      rw [this] at hq
      exact s_ret (en_tup (ds := [.str "room", .int (i : Int)]) (ea_cons ev_str (ea_cons (ev_slot rfl fun _ => .int _) ea_nil)) rfl (by simp)) ((r1.trans r1').trans ((r2.trans r5).trans r6)).e0 hq
    · exact ⟨(r2.trans r5).trans r6, ⟨_, _, rfl⟩, below_next inv (by rw [hbad]; exact e)⟩
  rintro σ' H2 r2 ⟨⟨a5, a8, rfl⟩, inv⟩
  rw [Int.toNat_natCast] at inv
  have f2 := firstAt_none inv
  clear inv
  walk_at "nx"
  have rC := r1.trans r2
  refine s_forR (K := K) (n := (c.n : Int)) (ev_is (ev_lenT (ds := hs.map PyData.int) (by walk_at "ev")) (by rw [List.length_map, lh])) (by have := gd.small; omega) (by omega) pi0 (fun i σ' _ => (∃ a5 a9 a10, σ' = [some v, some v1, some v2, some v3, some v4, a5, a6, a7, a8, a9, a10]) ∧ ∀ j, j < i → lcharge (hs.getD j 0) (ch.getD j (0, 1)) sl (decide (c.feeds.length ≤ j)) = false)
    (fun H6 r6 => ⟨⟨_, none, none, rfl⟩, fun j hj => absurd hj (Nat.not_lt_zero j)⟩) ?_ ?_
  · rintro H3 r3 i σ' H4 hi r4 ⟨⟨a5, a9, a10, rfl⟩, inv⟩
    have hi' : i < c.n := by omega
    obtain ⟨h, hh1⟩ := get_lt (l := hs) (i := i) (by omega)
    obtain ⟨q, hqq⟩ := get_lt (l := ch) (i := i) (by omega)
    have sm := S.smC q (List.mem_of_getElem? hqq)
    have hbad : lcharge (hs.getD i 0) (ch.getD i (0, 1)) sl (decide (c.feeds.length ≤ i)) = lcharge h q sl (decide (c.feeds.length ≤ i)) := by rw [getD_of hh1, getD_of hqq]
    have hA : ∀ (a9 a10 : Option V) (H5 : Hp), Rl p0 H H5 → EvD K p0 (tOp (rIx K) (tOp (rIx K) (tVar 3) (tC (.int 3))) (tVar 5)) [some v, some v1, some v2, some v3, some v4, some (.int (i : Int)), a6, a7, a8, a9, a10] H5 (.tuple [.int q.1, .int q.2]) := fun a9 a10 H5 r5 =>
      ev_ixT (ds := ch.map qD) (i := (i : Int)) (ev_ixT (ev_var rfl k3 r5) ev_int rfl) (ev_slot rfl fun _ => .int _) (at_map hqq)
    have hB : ∀ (a9 a10 : Option V) (H5 : Hp), Rl p0 H H5 → EvD K p0 (tOp (rIx K) (tVar 2) (tVar 5)) [some v, some v1, some v2, some v3, some v4, some (.int (i : Int)), a6, a7, a8, a9, a10] H5 (.int h) := fun a9 a10 H5 r5 =>
      ev_ixT (ds := hs.map PyData.int) (i := (i : Int)) (ev_var rfl k2 r5) (ev_slot rfl fun _ => .int _) (at_map hh1)
    have rD := (rC.trans r3).trans r4
    walk_at "nx"
    refine s_asg (K := K) (d := .int q.1) (ev_ixT (hA _ _ _ rD) ev_int rfl) pi0 fun x9 H5 r5 k9 => ?_
    have e9 := dp_int k9
    subst e9
    walk_at "nx"
    refine s_ifD (fun σ' => σ' = [some v, some v1, some v2, some v3, some v4, some (.int (i : Int)), a6, a7, a8, some (.int (if h = 1 then q.2 - q.1 else q.1)), a10]) (b := decide (h = 1)) (et_is (et_test (ev_eq (hB _ _ _ (rD.trans r5)) ev_int sh_int sh_int)) (by rw [eqv_int])) pi0 ?_ (fun e H6 r6 kk => ?_) fun e => ?_
    · rintro _ H6 r6 rfl
      have r56 := rD.trans (r5.trans r6)
      walk_at "nx"
      refine s_asg (K := K) (d := .int 0) ev_int pi0 fun x10 H7 r7 k10 => ?_
      have e10 := dp_int k10
      subst e10
      walk_at "nx"
      refine s_ifD (fun σ' => σ' = [some v, some v1, some v2, some v3, some v4, some (.int (i : Int)), a6, a7, a8, some (.int (if h = 1 then q.2 - q.1 else q.1)), some (.int (if decide (c.feeds.length ≤ i) then sl.1 * q.2 else 0))]) (b := decide (c.feeds.length ≤ i)) (et_is (et_test (K := K) (ev_B0 (f := fun i j => decide (j ≤ i)) (i := (i : Int)) (by walk_at "ev") (ev_net0 (c := c) (by unfold netD; walk_at "ev")))) (by simp)) pi0 ?_ (fun e H8 r8 kk => ?_) fun e => by rw [e]; rfl
      · rintro _ H8 r8 rfl
        have r78 := r56.trans (r7.trans r8)
        walk_at "nx"
        have sg : Sm 1001 (if h = 1 then q.2 - q.1 else q.1) := by
          split
          · exact sm_sub sm.2 sm.1
          · exact sm_mono sm.1 (by decide)
        refine s_if (b := lcharge h q sl (decide (c.feeds.length ≤ i))) (et_is (et_and (et_is (et_test (ev_ne (hB _ _ _ r78) ev_int sh_int sh_int)) (by rw [eqv_int])) fun _ => et_test (K := K) (ev_B0 (f := fun i j => decide (j < i)) (ev_IC (f := fun i j => i * j) (i := if h = 1 then q.2 - q.1 else q.1) (j := sl.2) (by walk_at "ev") (ev_ixT (by walk_at "ev") ev_int rfl) (sm_mul sg S.smS.2 (by decide) (by decide) (by decide))) (by walk_at "ev"))) rfl) pi0 (fun e H9 r9 => ?_) fun e H9 r9 => ?_
        · have : faultL c ps hs b fl rm ch sl = some (("charge" : Str), i) := by
            unfold faultL
            rw [f1, f2, firstAt_some hi' (by rw [hbad]; exact e) inv]
            rfl
          rw [this] at hq
          exact s_ret (en_tup (ds := [.str "charge", .int (i : Int)]) (ea_cons ev_str (ea_cons (ev_slot rfl fun _ => .int _) ea_nil)) rfl (by simp)) (r78.trans r9).e0 hq
        · exact ⟨((r4.trans (r5.trans r6)).trans (r7.trans r8)).trans r9, ⟨_, _, _, rfl⟩, below_next inv (by rw [hbad]; exact e)⟩
      · refine s_asg (K := K) (d := .int (sl.1 * q.2)) (ev_IC (f := fun i j => i * j) (i := sl.1) (j := q.2) (ev_ixT (by walk_at "ev") ev_int rfl) (ev_ixT (hA _ _ _ ((r56.trans r7).trans r8)) ev_int rfl) (sm_mul S.smS.1 sm.2 (by decide) (by decide) (by decide))) pi0 fun x11 H9 r9 k11 => ?_
        have e11 := dp_int k11
        subst e11
        exact kk _ H9 (r8.trans r9) (by rw [e]; rfl)
    · have e1 : h = 1 := by simpa using e
      refine s_asg (K := K) (d := .int (q.2 - q.1)) (ev_I0 (f := fun i j => i - j) (ev_ixT (hA _ _ _ ((rD.trans r5).trans r6)) ev_int rfl) (ev_ixT (hA _ _ _ ((rD.trans r5).trans r6)) ev_int rfl)) pi0 fun x11 H9 r9 k11 => ?_
      have e11 := dp_int k11
      subst e11
      exact kk _ H9 (r6.trans r9) (by rw [if_pos e1]; rfl)
    · rw [if_neg (by simpa using e)]
      rfl
  rintro σ' H3 r3 ⟨⟨a5, a9, a10, rfl⟩, inv⟩
  rw [Int.toNat_natCast] at inv
  have f3 := firstAt_none inv
  have : faultL c ps hs b fl rm ch sl = none := by
    unfold faultL
    rw [f1, f2, f3]
    rfl
  rw [this] at hq
  walk_at "nx"
  exact s_ret (en_flat ev_non rfl) (rC.trans r3).e0 hq
end

end Ky
set_option Elab.async false
set_option linter.all false
set_option maxRecDepth 4000
set_option maxHeartbeats 4000000
namespace Ky
open PySem PySem.Spec PyProof.Rows L2
section
variable {K : PySem.W.Frag} {p : Pw} {σ : L2.St} {H : Hp} {ta tb te tl : TE} {t u : TT} {tu tw : TS} {F : Ends} {P A B : D → Prop}
/-- a test, whatever it says -/
def EvTA (p : Pw) (t : TT) (σ : L2.St) (H : Hp) : Prop := ∀ H1, Rl p H H1 → ∀ Q : Bool → Hp → Prop, (∀ b H2, Rl p H1 H2 → Q b H2) → t σ H1 Q
theorem eta_of {b : Bool} (h : EvT p t σ H b) : EvTA p t σ H := fun H1 r1 Q q => h H1 r1 Q fun H2 r2 => q b H2 r2
theorem eta_test (h : EvP K p te σ H fun d => ∃ b, d = .bool b) : EvTA p (tTest te) σ H := fun H1 r1 Q q =>
  h H1 r1 _ fun v d H2 r2 ⟨b, ed⟩ kd => by
    subst ed
    exact ⟨b, dp_bool kd, q b H2 r2⟩
theorem eta_and (h1 : EvTA p t σ H) (h2 : EvTA p u σ H) : EvTA p (tAnd t u) σ H := fun H1 r1 Q q => h1 H1 r1 _ fun b H2 r2 => by
  cases b with
  | false => exact q false H2 r2
  | true => exact h2 H2 (r1.trans r2) _ fun b H3 r3 => q b H3 (r2.trans r3)
theorem eta_or (h1 : EvTA p t σ H) (h2 : EvTA p u σ H) : EvTA p (tOr t u) σ H := fun H1 r1 Q q => h1 H1 r1 _ fun b H2 r2 => by
  cases b with
  | true => exact q true H2 r2
  | false => exact h2 H2 (r1.trans r2) _ fun b H3 r3 => q b H3 (r2.trans r3)
theorem s_ifA (h : EvTA p t σ H) (pi : Wl p H) (h1 : ∀ H1, Rl p H H1 → tu F σ H1) (h2 : ∀ H1, Rl p H H1 → tw F σ H1) : tIfS t tu tw F σ H := h H (Rl.refl pi) _ fun b H1 r1 => by
  cases b with
  | true => exact h1 H1 r1
  | false => exact h2 H1 r1
theorem s_ifG (G : L2.St → Hp → Prop) {b : Bool} (h : EvT p t σ H b) (pi : Wl p H) (k : ∀ σ' H', Rl p H H' → G σ' H' → F.nx σ' H') (h1 : b = true → ∀ H1, Rl p H H1 → (∀ σ' H', Rl p H H' → G σ' H' → F.nx σ' H') → tu F σ H1) (h2 : b = false → ∀ H1, Rl p H H1 → G σ H1) : tIfS t tu tNext F σ H :=
  s_if h pi (fun e H1 r1 => h1 e H1 r1 k) fun e H1 r1 => k σ H1 r1 (h2 e H1 r1)
theorem s_ifGA (G : L2.St → Hp → Prop) (h : EvTA p t σ H) (pi : Wl p H) (k : ∀ σ' H', Rl p H H' → G σ' H' → F.nx σ' H') (h1 : ∀ H1, Rl p H H1 → (∀ σ' H', Rl p H H' → G σ' H' → F.nx σ' H') → tu F σ H1) (h2 : ∀ H1, Rl p H H1 → G σ H1) : tIfS t tu tNext F σ H :=
  s_ifA h pi (fun H1 r1 => h1 H1 r1 k) fun H1 r1 => k σ H1 r1 (h2 H1 r1)
theorem evp_I0 {f : Int → Int → Int} {A B : Int → Prop} (ha : EvP K p ta σ H fun d => ∃ i, d = .int i ∧ A i) (hb : EvP K p tb σ H fun d => ∃ i, d = .int i ∧ B i) : EvP K p (tOp (rI0 fun i j => .int (f i j)) ta tb) σ H fun d => ∃ i j, d = .int (f i j) ∧ A i ∧ B j :=
  evp_op ha hb fun H1 r1 x y d' e' ⟨i, hd, pi⟩ ⟨j, he, pj⟩ kx ky Q q => by
    subst hd he
    exact ⟨i, j, dp_int kx, dp_int ky, q _ _ H1 (Rl.refl r1.pi) ⟨i, j, rfl, pi, pj⟩ (.int _)⟩
theorem evp_IC {f : Int → Int → Int} {C : Int → Int → Prop} {A B : Int → Prop} (ha : EvP K p ta σ H fun d => ∃ i, d = .int i ∧ A i) (hb : EvP K p tb σ H fun d => ∃ i, d = .int i ∧ B i) (hc : ∀ i j, A i → B j → C i j) : EvP K p (tOp (rI C fun i j => .int (f i j)) ta tb) σ H fun d => ∃ i j, d = .int (f i j) ∧ A i ∧ B j :=
  evp_op ha hb fun H1 r1 x y d' e' ⟨i, hd, pi⟩ ⟨j, he, pj⟩ kx ky Q q => by
    subst hd he
    exact ⟨i, j, dp_int kx, dp_int ky, hc i j pi pj, q _ _ H1 (Rl.refl r1.pi) ⟨i, j, rfl, pi, pj⟩ (.int _)⟩
theorem evp_B {f : Int → Int → Bool} {A B : Int → Prop} (ha : EvP K p ta σ H fun d => ∃ i, d = .int i ∧ A i) (hb : EvP K p tb σ H fun d => ∃ i, d = .int i ∧ B i) : EvP K p (tOp (rI0 fun i j => .bl (f i j)) ta tb) σ H fun d => ∃ b, d = .bool b :=
  evp_op ha hb fun H1 r1 x y d' e' ⟨i, hd, pi⟩ ⟨j, he, pj⟩ kx ky Q q => by
    subst hd he
    exact ⟨i, j, dp_int kx, dp_int ky, q _ _ H1 (Rl.refl r1.pi) ⟨_, rfl⟩ (.bl _)⟩
theorem evp_intI {A : Int → Prop} (ha : EvP K p ta σ H fun d => ∃ i, d = .int i ∧ A i) : EvP K p (tCB rInt1 (tCons ta tNil)) σ H fun d => ∃ i, d = .int i ∧ A i := fun H1 r1 Q q =>
  ha H1 r1 _ fun v d H2 r2 ⟨i, hd, pi⟩ k => by
    subst hd
    exact .inl ⟨i, by rw [dp_int k], q _ _ H2 r2 ⟨i, rfl, pi⟩ (.int _)⟩
theorem ev_in {i : Int} (h : EvD K p te σ H (.int i)) : EvP K p te σ H fun d => ∃ j, d = .int j ∧ j = i := h.imp fun d e => ⟨i, e, rfl⟩
/-- all items of a row keep P -/
theorem eall_nil : EvAP K p tNil σ H (fun ds => ds.length = 0 ∧ ∀ d, d ∈ ds → P d) := eap_imp eap_nil fun ds e => by rw [e]; exact ⟨rfl, fun _ h => nomatch h⟩
theorem eall_cons {tr : TA} {n : Nat} (h : EvP K p ta σ H P) (hr : EvAP K p tr σ H (fun ds => ds.length = n ∧ ∀ d, d ∈ ds → P d)) : EvAP K p (tCons ta tr) σ H (fun ds => ds.length = n + 1 ∧ ∀ d, d ∈ ds → P d) :=
  eap_imp (eap_cons h hr) fun ds ⟨d, r, e, pd, hl, pr⟩ => by
    rw [e]
    refine ⟨by rw [List.length_cons, hl], fun z hz => ?_⟩
    rcases List.mem_cons.mp hz with h | h
    · rw [h]; exact pd
    · exact pr z h
theorem evp_ixP {A : List D → Prop} {n : Nat} (ha : EvP K p ta σ H fun d => ∃ ds, d = .tuple ds ∧ ds.length = n ∧ A ds) (hb : EvP K p tb σ H fun e => ∃ j : Nat, e = .int (j : Int) ∧ j < n) : EvP K p (tOp (rIx K) ta tb) σ H fun d => ∃ ds, A ds ∧ d ∈ ds :=
  evp_op ha hb fun H1 r1 x y d' e' ⟨ds, hd, hl, pa⟩ he kx ky Q q => by
    subst hd
    obtain ⟨j, rfl, hj⟩ := he
    cases kx with
    | tup hs hv =>
      have hj : j < ds.length := by omega
      obtain ⟨v, hv1, kv⟩ := dpa_get hv (List.getElem?_eq_getElem hj)
      exact .inr (.inl ⟨_, _, _, v, rfl, dp_int ky, Evl.ex_t vw_sub hs, atI_nat hv1, q _ _ H1 (Rl.refl r1.pi) ⟨ds, pa, List.getElem_mem hj⟩ kv⟩)
theorem evp_choice {n : Nat} {tr : TA} (h : EvAP K p tr σ H (fun ds => ds.length = n ∧ ∀ d, d ∈ ds → P d)) (hn : n ≤ 1000) (hb : EvP K p tb σ H fun e => ∃ j : Nat, e = .int (j : Int) ∧ j < n) : EvP K p (tOp (rIx K) (tTup tr) tb) σ H P :=
  (evp_ixP (A := fun ds => ∀ d, d ∈ ds → P d) (evp_tup h fun ds e => by omega) hb).imp fun d ⟨ds, h1, h2⟩ => h1 d h2
theorem evp_callR {R : List D → D → Prop} {A : List D → Prop} {E : XK} {tr : TA} (h : EvAP K p tr σ H A) (r : ∀ ds, A ds → ∃ d, R ds d ∧ P d) : EvP K p (tCall (SpR K R) [] E tr) σ H P := fun H1 r1 Q q =>
  h H1 r1 _ fun vs ds H2 r2 pa ka => by
    obtain ⟨d, hr, pd⟩ := r ds pa
    exact ⟨ds, d, by rw [List.append_nil]; exact dpa_ex vw_sub ka, hr, fun v H' e k => q v d H' (r2.trans (Rl.of r2.pi e)) pd (dp_ex (nw_vw r2.pi) k)⟩
/-- a draw below n -/
theorem evp_pick {n i : Nat} {q : Addr × Addr × Addr} {tm : TE} {E : XK} (hp : p.pl = some q) (hσ : σ[i]? = some (some (.ref q.1))) (hm : EvD K p tm σ H (.int (n : Int))) (h0 : 0 < n) (h1 : n < 1073741824) :
    EvP K p (tCall (SpG K PrePick PostPick) [] E (tCons (tVar i) (tCons tm tNil))) σ H fun d => ∃ j : Nat, d = .int (j : Int) ∧ j < n := by
  refine (evp_callG (A := fun ds => ds = [.int (n : Int)]) hp hσ (ea_cons hm ea_nil) fun ds e => ⟨n, e, by omega, by omega⟩).imp ?_
  rintro d ⟨ds, rfl, m, r, e, rfl, a, b⟩
  cases e
  obtain ⟨j, rfl⟩ := Int.eq_ofNat_of_zero_le a
  exact ⟨j, rfl, by omega⟩
end
end Ky
set_option Elab.async false
set_option linter.all false
set_option maxRecDepth 4000
set_option maxHeartbeats 4000000
namespace Ky
open PySem PySem.Spec PyProof.Rows L2
local macro_rules | `(tactic| walk_at "rl") => `(tactic| first | assumption | exact Rl.refl pi0 | exact Rl.refl (by assumption) | exact Rl.refl (Rl.pi (by assumption)) | (refine Rl.trans (by assumption) ?_; walk_at "rl"))
local macro_rules | `(tactic| walk_at "ev") => `(tactic| first
  | with_reducible exact ev_int | with_reducible exact ev_bl | with_reducible exact ev_str | with_reducible exact ev_non
  | ((with_reducible apply ev_var); (focus exact rfl); (focus assumption); (focus walk_at "rl"))
  | ((with_reducible apply ev_slot); (focus exact rfl); (focus first | exact fun _ => Dp.int _ | exact fun _ => Dp.bl _ | exact fun _ => Dp.str _ | exact fun _ => Dp.non))
  | with_reducible exact ea_nil | with_reducible exact eo_none | with_reducible exact et_yes
  | with_reducible exact sh_int | with_reducible exact sh_bool | with_reducible exact sh_non
  | ((with_reducible apply ea_cons) <;> try walk_at "ev")
  | ((with_reducible apply ev_I0) <;> try walk_at "ev")
  | ((with_reducible apply ev_B0) <;> try walk_at "ev")
  | ((with_reducible apply ev_IC) <;> try walk_at "ev")
  | ((with_reducible apply ev_neg) <;> try walk_at "ev")
  | ((with_reducible apply ev_chain) <;> try walk_at "ev")
  | ((with_reducible apply ev_isTup) <;> try walk_at "ev")
  | ((with_reducible apply ev_isInt) <;> try walk_at "ev")
  | ((with_reducible apply ev_isBool) <;> try walk_at "ev")
  | ((with_reducible apply ev_isStr) <;> try walk_at "ev")
  | ((with_reducible apply ev_isLst) <;> try walk_at "ev")
  | ((with_reducible apply ev_isN) <;> try walk_at "ev")
  | ((with_reducible apply ev_notN) <;> try walk_at "ev")
  | ((with_reducible apply ev_notB) <;> try walk_at "ev")
  | ((with_reducible apply ev_eq) <;> try walk_at "ev")
  | ((with_reducible apply ev_ne) <;> try walk_at "ev")
  | ((with_reducible apply ev_abs) <;> try walk_at "ev")
  | ((with_reducible apply ev_max) <;> try walk_at "ev")
  | ((with_reducible apply ev_bits) <;> try walk_at "ev")
  | ((with_reducible apply ev_gcd) <;> try walk_at "ev")
  | ((with_reducible apply ev_list) <;> try walk_at "ev")
  | ((with_reducible apply ev_tuple) <;> try walk_at "ev")
  | ((with_reducible apply ev_tup) <;> try walk_at "ev")
  | ((with_reducible apply ev_lst) <;> try walk_at "ev")
  | ((with_reducible apply ev_catT) <;> try walk_at "ev")
  | ((with_reducible apply ev_slice) <;> try walk_at "ev")
  | ((with_reducible apply eo_some) <;> try walk_at "ev")
  | ((with_reducible apply ev_notV) <;> try walk_at "ev")
  | ((with_reducible apply et_test) <;> try walk_at "ev")
  | ((with_reducible apply et_B) <;> try walk_at "ev")
  | ((with_reducible apply et_not) <;> try walk_at "ev")
  | ((with_reducible apply ev_lenT); (focus (walk_at "ev"; done)))
  | ((with_reducible apply ev_lenL); (focus (walk_at "ev"; done)))
  | ((with_reducible apply ev_intI); (focus (walk_at "ev"; done)))
  | ((with_reducible apply ev_intB); (focus (walk_at "ev"; done)))
  | ((with_reducible apply ev_ixT); (focus (walk_at "ev"; done)); (focus (walk_at "ev"; done)); (try first | rfl | assumption))
  | ((with_reducible apply ev_ixL); (focus (walk_at "ev"; done)); (focus (walk_at "ev"; done)); (try first | rfl | assumption))
  | ((with_reducible apply ev_call); (focus (walk_at "ev"; done))))
local macro_rules | `(tactic| walk_at "nx") => `(tactic| ((try dsimp only); (try ((with_reducible refine st_next ?_); (try dsimp only))); (try with_reducible refine st_seq ?_)))
section
variable {P : Program} {w : World} {K : PySem.W.Frag} {mg : Str → Option Value} {base : Heap} {f : Addr} {fd : FuncData}
theorem sm_lit {n : Nat} {i : Int} (h : i.natAbs < 1048576) (hn : 20 ≤ n) : Sm n i := sm_mono (n := 20) (by unfold Sm; exact h) hn
theorem pick_lt {n : Nat} {d : D} (h : ∃ j : Nat, d = .int (j : Int) ∧ j < n) : ∃ i : Int, d = .int i ∧ (0 ≤ i ∧ i < n) := by
  obtain ⟨j, e, h⟩ := h
  exact ⟨j, e, by omega, by omega⟩
theorem ok_law_ground (FR : Free mg) (A : At K mg "_law_ground" s_law_ground P_law_ground f fd) (c1 : Prm P w K mg base CX0 1 "_law_pick" P_law_pick (SpG K PrePick PostPick)) : Prm P w K mg base CX0 2 "_law_ground" P_law_ground (SpG K Pre0 PostGround) := by
  refine mk_prmG A sc_law_ground (fun ds e => by rw [e]; rfl) (dv_law_ground FR c1) ?_
  rintro p q vs ds H Q hp hw hv rfl hq
  cases hv
  show t_law_ground K _ [some (.ref q.1), none] H
  unfold t_law_ground
  walk_at "nx"
  refine s_asgP (evp_pick hp rfl (ev_int (i := (8 : Nat))) (by decide) (by decide)) hw fun v d H1 r1 ⟨j, ed, hj⟩ kd => ?_
  subst ed
  have e1 := dp_int kd
  subst e1
  walk_at "nx"
  refine s_if (b := decide ((j : Int) < 5)) (et_test (K := K) (ev_B0 (f := fun i j => decide (i < j)) (by walk_at "ev") ev_int)) r1.pi (fun e H2 r2 => ?_) fun e H2 r2 => ?_
  · refine s_retP (evp_I0 (f := fun i j => i + j) (ev_in (ev_int (i := 2))) ((evp_pick hp rfl (ev_int (i := (4 : Nat))) (by decide) (by decide)).imp fun d => pick_lt)) r2.pi fun v d H3 r3 pd kd => hq v d H3 ((r1.trans r2).trans r3) ?_ kd
    obtain ⟨a, b, rfl, rfl, h1, h2⟩ := pd
    exact ⟨_, rfl, by omega, by omega⟩
  · walk_at "nx"
    have hj5 : ¬ (j : Int) < 5 := by simpa using e
    refine s_retP (evp_choice (n := 3) (P := fun d => ∃ b : Int, d = .int b ∧ 2 ≤ b ∧ b ≤ 1000000000) (eall_cons ?_ (eall_cons ?_ (eall_cons ?_ eall_nil))) (by decide) ?_) r2.pi fun v d H3 r3 pd kd => hq v d H3 ((r1.trans r2).trans r3) pd kd
    · refine (evp_I0 (f := fun i j => i + j) (ev_in (ev_int (i := 2))) ((evp_pick hp rfl (ev_int (i := (60 : Nat))) (by decide) (by decide)).imp fun d => pick_lt)).imp fun d pd => ?_
      obtain ⟨a, b, rfl, rfl, h1, h2⟩ := pd
      exact ⟨_, rfl, by omega, by omega⟩
    · refine (evp_I0 (f := fun i j => i - j) (ev_in (ev_IC (f := fun i j => i ^ j.toNat) (i := 10) (j := 9) ev_int ev_int ⟨by decide, by decide, by decide⟩)) ((evp_pick hp rfl (ev_int (i := (3 : Nat))) (by decide) (by decide)).imp fun d => pick_lt)).imp fun d pd => ?_
      obtain ⟨a, b, rfl, rfl, h1, h2⟩ := pd
      have : (10 : Int) ^ (9 : Int).toNat = 1000000000 := by decide
      exact ⟨_, rfl, by show 2 ≤ (10 : Int) ^ (9 : Int).toNat - b; omega, by show (10 : Int) ^ (9 : Int).toNat - b ≤ _; omega⟩
    · refine (evp_I0 (f := fun i j => i + j) (ev_in (ev_int (i := 1000))) ((evp_pick hp rfl (ev_int (i := (1000000 : Nat))) (by decide) (by decide)).imp fun d => pick_lt)).imp fun d pd => ?_
      obtain ⟨a, b, rfl, rfl, h1, h2⟩ := pd
      exact ⟨_, rfl, by omega, by omega⟩
    · refine (ev_I0 (f := fun i j => i - j) (i := (j : Int)) (j := 5) (by walk_at "ev") ev_int).imp fun d e => ⟨j - 5, by rw [e]; show PyData.int _ = _; congr 1; omega, by omega⟩
/-! ### quotients of bounded size -/
theorem low_ok {t b : Int} (hb : 0 < b) (ht : 0 ≤ t) (s1 : Sm 600 t) (s2 : Sm 600 b) : ∃ q : Int × Int, lowD t b = qD q ∧ QOk q ∧ 0 ≤ q.1 ∧ (0 < t → 0 < q.1) ∧ (t ≤ b → q.1 ≤ q.2) := by
  have hl := low_q (t := t) hb
  have hg := gcd_pos (t := t) hb
  refine ⟨(t / (Nat.gcd t.natAbs b.natAbs : Nat), b / (Nat.gcd t.natAbs b.natAbs : Nat)), rfl, ⟨hl.1, hl.2, sm_div s1, sm_div s2⟩, Int.ediv_nonneg ht (by omega), fun h => ?_, fun h => Int.ediv_le_ediv (by omega) h⟩
  refine Int.ediv_pos_of_pos_of_dvd h (by omega) (Int.ofNat_dvd_left.mpr (Nat.gcd_dvd_left _ _))
theorem qok {a b : Int} (h1 : 1 ≤ b) (h2 : Nat.gcd a.natAbs b.natAbs = 1) (h3 : a.natAbs < 1048576) (h4 : b.natAbs < 1048576) : QOk (a, b) := ⟨h1, h2, sm_lit h3 (by decide), sm_lit h4 (by decide)⟩
theorem ok_law_wide (FR : Free mg) (A : At K mg "_law_wide" s_law_wide P_law_wide f fd) (c1 : Prm P w K mg base CX0 1 "_law_pick" P_law_pick (SpG K PrePick PostPick)) (c2 : Prm P w K mg base CX0 1 "_law_low" P_law_low (SpR K Rlowest)) : Prm P w K mg base CX0 2 "_law_wide" P_law_wide (SpG K Pre0 PostWide) := by
  refine mk_prmG A sc_law_wide (fun ds e => by rw [e]; rfl) (dv_law_wide FR c1 c2) ?_
  rintro p q vs ds H Q hp hw hv rfl hq
  cases hv
  show t_law_wide K _ [some (.ref q.1), none] H
  unfold t_law_wide
  have cst : ∀ {σ : L2.St} {H : Hp} (a b : Int), 1 ≤ b → Nat.gcd a.natAbs b.natAbs = 1 → 0 ≤ a → a.natAbs < 1048576 → b.natAbs < 1048576 → EvP K p (tTup (tCons (tC (.int a)) (tCons (tC (.int b)) tNil))) σ H (fun d => ∃ w : Int × Int, d = qD w ∧ WideOk w) := fun a b h1 h2 h3 h4 h5 =>
    (ev_tup (ds := [.int a, .int b]) (ea_cons ev_int (ea_cons ev_int ea_nil)) (by simp)).imp fun d e => ⟨(a, b), e, qok h1 h2 h4 h5, sm_lit h4 (by decide), sm_lit h5 (by decide), h3⟩
  walk_at "nx"
  refine s_asgP (evp_pick hp rfl (ev_int (i := (6 : Nat))) (by decide) (by decide)) hw fun v d H1 r1 ⟨j, ed, hj⟩ kd => ?_
  subst ed
  have e1 := dp_int kd
  subst e1
  walk_at "nx"
  refine s_if (b := decide ((j : Int) < 2)) (et_test (K := K) (ev_B0 (f := fun i j => decide (i < j)) (by walk_at "ev") ev_int)) r1.pi (fun e H2 r2 => ?_) fun e H2 r2 => ?_
  · have hj2 : (j : Int) < 2 := by simpa using e
    exact s_retP (evp_choice (n := 2) (eall_cons (cst 0 1 (by decide) (by decide) (by decide) (by decide) (by decide)) (eall_cons (cst 1 12 (by decide) (by decide) (by decide) (by decide) (by decide)) eall_nil)) (by decide) (EvP.imp (P := fun d => d = .int (j : Int)) (by walk_at "ev") fun d e => ⟨j, e, by omega⟩)) r2.pi fun v d H3 r3 pd kd => hq v d H3 ((r1.trans r2).trans r3) pd kd
  walk_at "nx"
  refine s_if (b := decide ((j : Int) < 4)) (et_test (K := K) (ev_B0 (f := fun i j => decide (i < j)) (by walk_at "ev") ev_int)) r2.pi (fun e H3 r3 => ?_) fun e H3 r3 => ?_
  · refine s_retP (evp_callR (P := fun d => ∃ w : Int × Int, d = qD w ∧ WideOk w) (eap_cons (evp_I0 (f := fun i j => i + j) (ev_in (ev_int (i := 1))) ((evp_pick hp rfl (ev_int (i := (9 : Nat))) (by decide) (by decide)).imp fun d => pick_lt)) (eap_cons (evp_I0 (f := fun i j => i + j) (ev_in (ev_int (i := 2))) ((evp_pick hp rfl (ev_int (i := (30 : Nat))) (by decide) (by decide)).imp fun d => pick_lt)) eap_nil)) fun ds pd => ?_) r3.pi fun v d H4 r4 pd kd => hq v d H4 (((r1.trans r2).trans r3).trans r4) pd kd
    obtain ⟨_, _, rfl, ⟨_, a, rfl, rfl, a1, a2⟩, _, _, rfl, ⟨_, b, rfl, rfl, b1, b2⟩, rfl⟩ := pd
    obtain ⟨q', e1, e2, e3, _⟩ := low_ok (t := 1 + a) (b := 2 + b) (by omega) (by omega) (sm_lit (by omega) (by decide)) (sm_lit (by omega) (by decide))
    have e1' := e1
    unfold lowD qD at e1'
    injection e1' with e1'
    injection e1' with h1 h2
    injection h1 with h1
    injection h2 with h2 _
    injection h2 with h2
    exact ⟨_, ⟨1 + a, 2 + b, rfl, by omega, sm_lit (by omega) (by decide), sm_lit (by omega) (by decide), rfl⟩, q', e1, e2, by rw [← h1]; exact sm_div (sm_lit (by omega) (by decide)), by rw [← h2]; exact sm_div (sm_lit (by omega) (by decide)), e3⟩
  walk_at "nx"
  have hj4 : ¬ (j : Int) < 4 := by simpa using e
  refine s_retP (evp_choice (n := 2) (eall_cons (cst 1 4 (by decide) (by decide) (by decide) (by decide) (by decide)) (eall_cons (cst 5 2 (by decide) (by decide) (by decide) (by decide) (by decide)) eall_nil)) (by decide) ?_) r3.pi fun v d H4 r4 pd kd => hq v d H4 (((r1.trans r2).trans r3).trans r4) pd kd
  exact (ev_I0 (f := fun i j => i - j) (i := (j : Int)) (j := 4) (by walk_at "ev") ev_int).imp fun d e => ⟨j - 4, by rw [e]; show PyData.int _ = _; congr 1; omega, by omega⟩
theorem ok_law_between (FR : Free mg) (A : At K mg "_law_between" s_law_between P_law_between f fd) (c1 : Prm P w K mg base CX0 1 "_law_pick" P_law_pick (SpG K PrePick PostPick)) (c2 : Prm P w K mg base CX0 1 "_law_low" P_law_low (SpR K Rlowest)) : Prm P w K mg base CX0 2 "_law_between" P_law_between (SpG K PreBetween PostBetween) := by
  refine mk_prmG A sc_law_between (fun ds ⟨l, m, s, e, _⟩ => by rw [e]; rfl) (dv_law_between FR c1 c2) ?_
  rintro p q vs ds H Q hp hw hv ⟨l, m, s, rfl, l0, m0, sl, sm⟩ hq
  obtain ⟨v1, v2, v3, rfl, k1, k2, k3⟩ := dpa3 hv
  have e1 := dp_int k1
  have e2 := dp_int k2
  have e3 := dp_int k3
  subst e1 e2 e3
  have hq' : ∀ v d H', Rl p H H' → (∃ q : Int × Int, d = qD q ∧ QOk q ∧ 0 ≤ q.1 ∧ (0 < l → 0 < m → 0 < q.1)) → Dp K (vw p H') v d → Q v H' := fun v d H' r ⟨q', a, b, c, d'⟩ k => hq v d H' r ⟨l, m, s, q', rfl, a, b, c, d'⟩ k
  show t_law_between K _ [some (.ref q.1), some (.int l), some (.int m), some (.int s), none, none] H
  unfold t_law_between
  unfold Sm at sl sm
  obtain ⟨X, Y, hX, hY, p500⟩ : ∃ X Y : Nat, (2 : Nat) ^ 500 = X ∧ (2 : Nat) ^ 600 = Y ∧ X * 1048576 ≤ Y := ⟨_, _, rfl, rfl, by decide +kernel⟩
  have X0 : 0 < X := by rw [← hX]; exact Nat.pow_pos (by decide)
  have y6 : ∀ i : Int, i.natAbs < Y → Sm 600 i := fun i h => by rw [← hY] at h; exact h
  rw [hX] at sl sm
  clear hX hY
  have pair : ∀ {σ : L2.St} {H : Hp} {ta : TE} (a b : Int), EvD K p ta σ H (.int a) → 1 ≤ b → Nat.gcd a.natAbs b.natAbs = 1 → 0 ≤ a → a.natAbs < Y → b.natAbs < 1048576 → (0 < l → 0 < m → 0 < a) → EvP K p (tTup (tCons ta (tCons (tC (.int b)) tNil))) σ H (fun d => ∃ q : Int × Int, d = qD q ∧ QOk q ∧ 0 ≤ q.1 ∧ (0 < l → 0 < m → 0 < q.1)) := fun a b ha h1 h2 h3 h4 h5 h6 =>
    (ev_tup (ds := [.int a, .int b]) (ea_cons ha (ea_cons ev_int ea_nil)) (by simp)).imp fun d e => ⟨(a, b), e, ⟨h1, h2, y6 _ h4, sm_lit h5 (by decide)⟩, h3, h6⟩
  have lowp : ∀ {σ : L2.St} {H : Hp} {ta : TE} (a b : Int), EvD K p ta σ H (.int a) → 0 < b → 0 ≤ a → a.natAbs < Y → b.natAbs < 1048576 → (0 < l → 0 < m → 0 < a) → EvP K p (tCall (SpR K Rlowest) [] E0 (tCons ta (tCons (tC (.int b)) tNil))) σ H (fun d => ∃ q : Int × Int, d = qD q ∧ QOk q ∧ 0 ≤ q.1 ∧ (0 < l → 0 < m → 0 < q.1)) := fun a b ha h1 h3 h4 h5 h6 => by
    obtain ⟨q', e1, e2, e3, e4, _⟩ := low_ok (t := a) (b := b) h1 h3 (y6 _ h4) (sm_lit h5 (by decide))
    exact (ev_call (ds := [.int a, .int b]) (d := lowD a b) (ea_cons ha (ea_cons ev_int ea_nil)) ⟨a, b, rfl, h1, sm_mono (n := 600) (y6 _ h4) (by decide), sm_lit h5 (by decide), rfl⟩).imp fun d e => ⟨q', by rw [e, e1], e2, e3, fun z1 z2 => e4 (h6 z1 z2)⟩
  have g1 : ∀ a : Int, Nat.gcd a.natAbs (1 : Int).natAbs = 1 := fun a => Nat.gcd_one_right _
  walk_at "nx"
  refine s_asgP (evp_pick hp rfl (ev_int (i := (4 : Nat))) (by decide) (by decide)) hw fun v d H1 r1 ⟨j, ed, hj⟩ kd => ?_
  subst ed
  have e1 := dp_int kd
  subst e1
  walk_at "nx"
  refine s_ifA (eta_or (eta_of (b := decide (s = 0)) (et_is (et_test (K := K) (ev_eq (d := .int s) (by walk_at "ev") ev_int sh_int sh_int)) (by rw [eqv_int]))) (eta_test (evp_B ((evp_pick hp rfl (ev_int (i := (3 : Nat))) (by decide) (by decide)).imp fun d => pick_lt) (ev_in (ev_int (i := 0)))))) r1.pi (fun H2 r2 => ?_) fun H2 r2 => ?_
  · refine s_retP (evp_choice (n := 4) (eall_cons (pair l 1 (by walk_at "ev") (by decide) (g1 l) l0 (by omega) (by decide) (fun a _ => a)) (eall_cons (pair m 1 (by walk_at "ev") (by decide) (g1 m) m0 (by omega) (by decide) (fun _ a => a)) (eall_cons (lowp (3 * l + 6 * m) 9 ?_ (by decide) (by omega) (by omega) (by decide) (by omega)) (eall_cons (lowp (4 * l + 5 * m) 9 ?_ (by decide) (by omega) (by omega) (by decide) (by omega)) eall_nil)))) (by decide) (EvP.imp (P := fun d => d = .int (j : Int)) (by walk_at "ev") fun d e => ⟨j, e, by omega⟩)) r2.pi fun v d H3 r3 pd kd => hq' v d H3 ((r1.trans r2).trans r3) pd kd
    · exact ev_I0 (f := fun i j => i + j) (ev_IC (f := fun i j => i * j) (i := 3) ev_int (by walk_at "ev") (.inl ⟨by decide, by decide⟩)) (ev_IC (f := fun i j => i * j) (i := 6) ev_int (by walk_at "ev") (.inl ⟨by decide, by decide⟩))
    · exact ev_I0 (f := fun i j => i + j) (ev_IC (f := fun i j => i * j) (i := 4) ev_int (by walk_at "ev") (.inl ⟨by decide, by decide⟩)) (ev_IC (f := fun i j => i * j) (i := 5) ev_int (by walk_at "ev") (.inl ⟨by decide, by decide⟩))
  · walk_at "nx"
    refine s_asgP (evp_tup (eall_cons (pair (3 * m + 1) 3 ?_ (by decide) ?_ (by omega) (by omega) (by decide) (by omega)) (eall_cons (pair (2 * m + 1) 1 ?_ (by decide) (g1 _) (by omega) (by omega) (by decide) (by omega)) (eall_cons (pair 1 1000 ev_int (by decide) (by decide) (by decide) (by show 1 < _; omega) (by decide) (by omega)) (eall_cons (pair (m + 1) 1 ?_ (by decide) (g1 _) (by omega) (by omega) (by decide) (by omega)) (eall_cons (lowp (if 3 * l - 1 > 0 then 3 * l - 1 else 0) 3 ?_ (by decide) (by split <;> omega) (by split <;> omega) (by decide) (by intro a _; split <;> omega)) eall_nil))))) fun ds h => by omega) r2.pi fun v5 d H3 r3 ⟨ds, ed, hl, hd⟩ k5 => ?_
    · exact ev_I0 (f := fun i j => i + j) (ev_IC (f := fun i j => i * j) (i := 3) ev_int (by walk_at "ev") (.inl ⟨by decide, by decide⟩)) ev_int
    · have : ((3 * m + 1 : Int)).natAbs = 3 * m.natAbs + 1 := by omega
      rw [this]
      show Nat.gcd (3 * m.natAbs + 1) 3 = 1
      rw [Nat.gcd_comm, Nat.gcd_rec]
      have : (3 * m.natAbs + 1) % 3 = 1 := by omega
      rw [this]
      rfl
    · exact ev_I0 (f := fun i j => i + j) (ev_IC (f := fun i j => i * j) (i := 2) ev_int (by walk_at "ev") (.inl ⟨by decide, by decide⟩)) ev_int
    · exact ev_I0 (f := fun i j => i + j) (by walk_at "ev") ev_int
    · exact ev_max (i := 0) (j := 3 * l - 1) ev_int (ev_I0 (f := fun i j => i - j) (ev_IC (f := fun i j => i * j) (i := 3) ev_int (by walk_at "ev") (.inl ⟨by decide, by decide⟩)) ev_int)
    subst ed
    walk_at "nx"
    refine s_retP (evp_ixT (ds := ds) (by walk_at "ev") ((evp_pick hp rfl (ev_int (i := (5 : Nat))) (by decide) (by decide)).imp fun d ⟨j, e, h⟩ => ⟨j, e, by omega⟩)) r3.pi fun v d H4 r4 pd kd => hq' v d H4 (((r1.trans r2).trans r3).trans r4) (hd d pd) kd
end

end Ky
set_option Elab.async false
set_option linter.all false
set_option maxRecDepth 4000
set_option maxHeartbeats 4000000
namespace Ky
open PySem PySem.Spec PyProof.Rows L2
local macro_rules | `(tactic| walk_at "rl") => `(tactic| first | assumption | exact Rl.refl pi0 | exact Rl.refl (by assumption) | exact Rl.refl (Rl.pi (by assumption)) | (refine Rl.trans (by assumption) ?_; walk_at "rl"))
local macro_rules | `(tactic| walk_at "ev") => `(tactic| first
  | with_reducible exact ev_int | with_reducible exact ev_bl | with_reducible exact ev_str | with_reducible exact ev_non
  | ((with_reducible apply ev_var); (focus exact rfl); (focus assumption); (focus walk_at "rl"))
  | ((with_reducible apply ev_slot); (focus exact rfl); (focus first | exact fun _ => Dp.int _ | exact fun _ => Dp.bl _ | exact fun _ => Dp.str _ | exact fun _ => Dp.non))
  | with_reducible exact ea_nil | with_reducible exact eo_none | with_reducible exact et_yes
  | with_reducible exact sh_int | with_reducible exact sh_bool | with_reducible exact sh_non
  | ((with_reducible apply ea_cons) <;> try walk_at "ev")
  | ((with_reducible apply ev_I0) <;> try walk_at "ev")
  | ((with_reducible apply ev_B0) <;> try walk_at "ev")
  | ((with_reducible apply ev_IC) <;> try walk_at "ev")
  | ((with_reducible apply ev_neg) <;> try walk_at "ev")
  | ((with_reducible apply ev_chain) <;> try walk_at "ev")
  | ((with_reducible apply ev_isTup) <;> try walk_at "ev")
  | ((with_reducible apply ev_isInt) <;> try walk_at "ev")
  | ((with_reducible apply ev_isBool) <;> try walk_at "ev")
  | ((with_reducible apply ev_isStr) <;> try walk_at "ev")
  | ((with_reducible apply ev_isLst) <;> try walk_at "ev")
  | ((with_reducible apply ev_isN) <;> try walk_at "ev")
  | ((with_reducible apply ev_notN) <;> try walk_at "ev")
  | ((with_reducible apply ev_notB) <;> try walk_at "ev")
  | ((with_reducible apply ev_eq) <;> try walk_at "ev")
  | ((with_reducible apply ev_ne) <;> try walk_at "ev")
  | ((with_reducible apply ev_abs) <;> try walk_at "ev")
  | ((with_reducible apply ev_max) <;> try walk_at "ev")
  | ((with_reducible apply ev_bits) <;> try walk_at "ev")
  | ((with_reducible apply ev_gcd) <;> try walk_at "ev")
  | ((with_reducible apply ev_list) <;> try walk_at "ev")
  | ((with_reducible apply ev_tuple) <;> try walk_at "ev")
  | ((with_reducible apply ev_tup) <;> try walk_at "ev")
  | ((with_reducible apply ev_lst) <;> try walk_at "ev")
  | ((with_reducible apply ev_catT) <;> try walk_at "ev")
  | ((with_reducible apply ev_slice) <;> try walk_at "ev")
  | ((with_reducible apply eo_some) <;> try walk_at "ev")
  | ((with_reducible apply ev_notV) <;> try walk_at "ev")
  | ((with_reducible apply et_test) <;> try walk_at "ev")
  | ((with_reducible apply et_B) <;> try walk_at "ev")
  | ((with_reducible apply et_not) <;> try walk_at "ev")
  | ((with_reducible apply ev_lenT); (focus (walk_at "ev"; done)))
  | ((with_reducible apply ev_lenL); (focus (walk_at "ev"; done)))
  | ((with_reducible apply ev_intI); (focus (walk_at "ev"; done)))
  | ((with_reducible apply ev_intB); (focus (walk_at "ev"; done)))
  | ((with_reducible apply ev_ixT); (focus (walk_at "ev"; done)); (focus (walk_at "ev"; done)); (try first | rfl | assumption))
  | ((with_reducible apply ev_ixL); (focus (walk_at "ev"; done)); (focus (walk_at "ev"; done)); (try first | rfl | assumption))
  | ((with_reducible apply ev_call); (focus (walk_at "ev"; done))))
local macro_rules | `(tactic| walk_at "nx") => `(tactic| ((try dsimp only); (try ((with_reducible refine st_next ?_); (try dsimp only))); (try with_reducible refine st_seq ?_)))
section
variable {P : Program} {w : World} {K : PySem.W.Frag} {mg : Str → Option Value} {base : Heap} {f : Addr} {fd : FuncData}
theorem ok_law_load (FR : Free mg) (A : At K mg "_law_load" s_law_load P_law_load f fd) (c1 : Prm P w K mg base CX0 1 "_law_pick" P_law_pick (SpG K PrePick PostPick)) (c2 : Prm P w K mg base CX0 1 "_law_low" P_law_low (SpR K Rlowest)) : Prm P w K mg base CX0 2 "_law_load" P_law_load (SpG K PreLoad PostLoad) := by
  refine mk_prmG A sc_law_load (fun ds ⟨l, m, s, e, _⟩ => by rw [e]; rfl) (dv_law_load FR c1 c2) ?_
  rintro p q vs ds H Q hp hw hv ⟨h, s, wd, rfl, wq, sw1, sw2, w0⟩ hq
  obtain ⟨v1, v2, v3, rfl, k1, k2, k3⟩ := dpa3 hv
  have e1 := dp_int k1
  have e3 := dp_int k3
  subst e1 e3
  show t_law_load K _ [some (.ref q.1), some (.int h), some v2, some (.int s), none] H
  unfold t_law_load
  unfold qD at k2
  have w1 := wq.b1
  have cst : ∀ {σ : L2.St} {H : Hp} (a b : Int), 1 ≤ b → Nat.gcd a.natAbs b.natAbs = 1 → 0 ≤ a → a ≤ b → b.natAbs < 1048576 → EvP K p (tTup (tCons (tC (.int a)) (tCons (tC (.int b)) tNil))) σ H (fun d => ∃ q : Int × Int, d = qD q ∧ QOk q ∧ 0 ≤ q.1 ∧ q.1 ≤ q.2) := fun a b h1 h2 h3 h4 h5 =>
    (ev_tup (ds := [.int a, .int b]) (ea_cons ev_int (ea_cons ev_int ea_nil)) (by simp)).imp fun d e => ⟨(a, b), e, qok h1 h2 (by omega) h5, h3, h4⟩
  obtain ⟨X, Y, hX, hY, p100⟩ : ∃ X Y : Nat, (2 : Nat) ^ 100 = X ∧ (2 : Nat) ^ 600 = Y ∧ X * 1048576 ≤ Y := ⟨_, _, rfl, rfl, by decide +kernel⟩
  have y6 : ∀ i : Int, i.natAbs < Y → Sm 600 i := fun i h => by rw [← hY] at h; exact h
  have sm1 : wd.1.natAbs < X := by rw [← hX]; exact sw1
  have sm2 : wd.2.natAbs < X := by rw [← hX]; exact sw2
  clear hX
  walk_at "nx"
  by_cases h2 : h = 2
  · subst h2
    refine s_yes (b := true) (et_is (by walk_at "ev") (by rfl)) rfl hw fun H1 r1 => ?_
    exact s_retP (evp_choice (n := 4) (eall_cons (cst 0 1 (by decide) (by decide) (by decide) (by decide) (by decide)) (eall_cons (cst 1 1 (by decide) (by decide) (by decide) (by decide) (by decide)) (eall_cons (cst 1 2 (by decide) (by decide) (by decide) (by decide) (by decide)) (eall_cons (cst 3 7 (by decide) (by decide) (by decide) (by decide) (by decide)) eall_nil)))) (by decide) (evp_pick hp rfl (ev_int (i := (4 : Nat))) (by decide) (by decide))) r1.pi fun v d H3 r3 pd kd => hq v d H3 (r1.trans r3) pd kd
  refine s_no (b := false) (et_is (by walk_at "ev") (by simp [eqv_int, h2])) rfl hw fun H1 r1 => ?_
  walk_at "nx"
  refine s_asgP (cst 0 1 (by decide) (by decide) (by decide) (by decide) (by decide)) r1.pi fun v4 d H2 r2 pd kd => ?_
  walk_at "nx"
  -- the state: a step that lies as it should
  refine s_ifG (fun σ' H' => ∃ v4 d, σ' = [some (.ref q.1), some (.int h), some v2, some (.int s), some v4] ∧ Dp K (vw p H') v4 d ∧ ∃ q : Int × Int, d = qD q ∧ QOk q ∧ 0 ≤ q.1 ∧ q.1 ≤ q.2) (b := decide (wd.1 ≤ wd.2)) (et_test (K := K) (ev_B0 (f := fun i j => decide (i ≤ j)) (i := wd.1) (j := wd.2) (by walk_at "ev") (by walk_at "ev"))) r2.pi ?_ (fun e H3 r3 kk => ?_) fun e H3 r3 => ⟨_, d, rfl, dp_ex r3.ex kd, pd⟩
  · clear kd pd
    rintro _ H3 r3 ⟨v4, d, rfl, kd, pd⟩
    walk_at "nx"
    have rA := (r1.trans r2).trans r3
    refine s_ifGA (fun σ' H' => ∃ v4 d, σ' = [some (.ref q.1), some (.int h), some v2, some (.int s), some v4] ∧ Dp K (vw p H') v4 d ∧ ∃ q : Int × Int, d = qD q ∧ QOk q ∧ 0 ≤ q.1 ∧ q.1 ≤ q.2) (eta_and (eta_of (b := decide (0 < s)) (et_test (K := K) (ev_B0 (f := fun i j => decide (j < i)) (i := s) (j := 0) (by walk_at "ev") ev_int))) (eta_test ((evp_eqI ((evp_pick hp rfl (ev_int (i := (3 : Nat))) (by decide) (by decide)).imp fun d => pick_lt) ev_int).imp fun d ⟨i, e, _⟩ => ⟨_, e⟩))) r3.pi ?_ (fun H4 r4 kk => ?_) fun H4 r4 => ⟨_, d, rfl, dp_ex r4.ex kd, pd⟩
    · clear kd pd
      rintro _ H4 r4 ⟨v4, d, rfl, kd, q', rfl, qk, q0, q1⟩
      walk_at "nx"
      by_cases h0 : h = 0
      · subst h0
        refine s_yes (b := true) (et_is (by walk_at "ev") (by rfl)) rfl r4.pi fun H5 r5 => ?_
        exact s_retP (P := fun d => d = qD q') (by walk_at "ev") r5.pi fun v d H6 r6 pd kd => hq v d H6 ((rA.trans r4).trans (r5.trans r6)) ⟨q', pd, qk, q0, q1⟩ kd
      · refine s_no (b := false) (et_is (by walk_at "ev") (by simp [eqv_int, h0])) rfl r4.pi fun H5 r5 => ?_
        walk_at "nx"
        unfold qD at kd
        have y1 : q'.2.natAbs < Y := by rw [← hY]; exact qk.sm2
        have y2 : q'.1.natAbs < Y := by rw [← hY]; exact qk.sm1
        have qb := qk.b1
        obtain ⟨q2, f1, f2, f3, _, f5⟩ := low_ok (t := q'.2 - q'.1) (b := q'.2) (by omega) (by omega) (y6 _ (by omega)) qk.sm2
        refine s_retP (P := fun d => d = qD q2) ?_ r5.pi fun v d H6 r6 pd kd => hq v d H6 ((rA.trans r4).trans (r5.trans r6)) ⟨q2, pd, f2, f3, f5 (by omega)⟩ kd
        rw [← f1]
        exact ev_call (ds := [.int (q'.2 - q'.1), .int q'.2]) (ea_cons (ev_I0 (f := fun i j => i - j) (ev_ixT (by walk_at "ev") ev_int rfl) (ev_ixT (by walk_at "ev") ev_int rfl)) (ea_cons (ev_ixT (by walk_at "ev") ev_int rfl) ea_nil)) ⟨_, _, rfl, by omega, sm_mono (y6 _ (by omega)) (by decide), sm_mono qk.sm2 (by decide), rfl⟩
    · walk_at "nx"
      have cst2 : ∀ {σ : L2.St} {H : Hp} (a b : Int), 1 ≤ b → Nat.gcd a.natAbs b.natAbs = 1 → 0 ≤ a → a ≤ b → b.natAbs < 1048576 → EvP K p (tTup (tCons (tC (.int a)) (tCons (tC (.int b)) tNil))) σ H (fun d => ∃ q : Int × Int, d = qD q ∧ QOk q ∧ 0 ≤ q.1) := fun a b h1 h2 h3 h4 h5 =>
        (cst a b h1 h2 h3 h4 h5).imp fun d ⟨q, a, b, c, _⟩ => ⟨q, a, b, c⟩
      have hlow : EvP K p (tCall (SpR K Rlowest) [] E0 (tCons (tOp (rI0 fun i j => .int (i + j)) (tOp (rI CMul fun i j => .int (i * j)) (tC (.int 1000)) (tOp (rIx K) (tVar 2) (tC (.int 0)))) (tOp (rIx K) (tVar 2) (tC (.int 1)))) (tCons (tOp (rI CMul fun i j => .int (i * j)) (tC (.int 1000)) (tOp (rIx K) (tVar 2) (tC (.int 1)))) tNil))) [some (.ref q.1), some (.int h), some v2, some (.int s), some v4] H4 (fun d => ∃ q : Int × Int, d = qD q ∧ QOk q ∧ 0 ≤ q.1) := by
        obtain ⟨q2, f1, f2, f3, _, f5⟩ := low_ok (t := 1000 * wd.1 + wd.2) (b := 1000 * wd.2) (by omega) (by omega) (y6 _ (by omega)) (y6 _ (by omega))
        refine (ev_call (ds := [.int (1000 * wd.1 + wd.2), .int (1000 * wd.2)]) (d := lowD (1000 * wd.1 + wd.2) (1000 * wd.2)) (ea_cons (ev_I0 (f := fun i j => i + j) (ev_IC (f := fun i j => i * j) (i := 1000) (j := wd.1) ev_int (ev_ixT (by walk_at "ev") ev_int rfl) (.inl ⟨by decide, by decide⟩)) (ev_ixT (by walk_at "ev") ev_int rfl)) (ea_cons (ev_IC (f := fun i j => i * j) (i := 1000) (j := wd.2) ev_int (ev_ixT (by walk_at "ev") ev_int rfl) (.inl ⟨by decide, by decide⟩)) ea_nil)) ⟨_, _, rfl, by omega, sm_mono (y6 _ (by omega)) (by decide), sm_mono (y6 _ (by omega)) (by decide), rfl⟩).imp fun d e => ⟨q2, by rw [e, f1], f2, f3⟩
      refine s_asgP (evp_choice (n := 3) (eall_cons (cst2 1 1 (by decide) (by decide) (by decide) (by decide) (by decide)) (eall_cons (cst2 1 100 (by decide) (by decide) (by decide) (by decide) (by decide)) (eall_cons hlow eall_nil))) (by decide) (evp_pick hp rfl (ev_int (i := (3 : Nat))) (by decide) (by decide))) r4.pi fun v5 d5 H5 r5 ⟨q', ed, qk, q0⟩ k5 => ?_
      subst ed
      walk_at "nx"
      have k5' := k5
      unfold qD at k5'
      refine s_if (b := decide (q'.2 < q'.1)) (et_test (K := K) (ev_B0 (f := fun i j => decide (j < i)) (i := q'.1) (j := q'.2) (ev_ixT (by walk_at "ev") ev_int rfl) (ev_ixT (by walk_at "ev") ev_int rfl))) r5.pi (fun e H6 r6 => ?_) fun e H6 r6 => ?_
      · refine s_asgP (cst 1 1 (by decide) (by decide) (by decide) (by decide) (by decide)) r6.pi fun v6 d6 H7 r7 pd6 k6 => ?_
        exact kk _ _ ((r4.trans r5).trans (r6.trans r7)) ⟨v6, d6, rfl, k6, pd6⟩
      · exact kk _ _ ((r4.trans r5).trans r6) ⟨v5, qD q', rfl, dp_ex r6.ex k5, q', rfl, qk, q0, by have : ¬ q'.2 < q'.1 := by simpa using e
                                                                                                   omega⟩
  · have hle : wd.1 ≤ wd.2 := by simpa using e
    have hwd : EvP K p (tVar 2) [some (.ref q.1), some (.int h), some v2, some (.int s), some v4] H3 (fun d => ∃ q : Int × Int, d = qD q ∧ QOk q ∧ 0 ≤ q.1 ∧ q.1 ≤ q.2) :=
      EvP.imp (P := fun d => d = .tuple [.int wd.1, .int wd.2]) (by walk_at "ev") fun d e => ⟨wd, e, wq, w0, hle⟩
    have hlow : EvP K p (tCall (SpR K Rlowest) [] E0 (tCons (tOp (rIx K) (tVar 2) (tC (.int 0))) (tCons (tOp (rI CMul fun i j => .int (i * j)) (tC (.int 2)) (tOp (rIx K) (tVar 2) (tC (.int 1)))) tNil))) [some (.ref q.1), some (.int h), some v2, some (.int s), some v4] H3 (fun d => ∃ q : Int × Int, d = qD q ∧ QOk q ∧ 0 ≤ q.1 ∧ q.1 ≤ q.2) := by
      obtain ⟨q2, f1, f2, f3, _, f5⟩ := low_ok (t := wd.1) (b := 2 * wd.2) (by omega) (by omega) (y6 _ (by omega)) (y6 _ (by omega))
      refine (ev_call (ds := [.int wd.1, .int (2 * wd.2)]) (d := lowD wd.1 (2 * wd.2)) (ea_cons (ev_ixT (by walk_at "ev") ev_int rfl) (ea_cons (ev_IC (f := fun i j => i * j) (i := 2) (j := wd.2) ev_int (ev_ixT (by walk_at "ev") ev_int rfl) (.inl ⟨by decide, by decide⟩)) ea_nil)) ⟨_, _, rfl, by omega, sm_mono (y6 _ (by omega)) (by decide), sm_mono (y6 _ (by omega)) (by decide), rfl⟩).imp fun d e => ⟨q2, by rw [e, f1], f2, f3, f5 (by omega)⟩
    refine s_asgP (evp_choice (n := 3) (eall_cons (cst 0 1 (by decide) (by decide) (by decide) (by decide) (by decide)) (eall_cons hwd (eall_cons hlow eall_nil))) (by decide) (evp_pick hp rfl (ev_int (i := (3 : Nat))) (by decide) (by decide))) r3.pi fun v5 d5 H5 r5 pd5 k5 => ?_
    exact kk _ _ (r3.trans r5) ⟨v5, d5, rfl, k5, pd5⟩
end

end Ky
set_option Elab.async false
set_option linter.all false
set_option maxRecDepth 4000
set_option maxHeartbeats 4000000
namespace Ky
open PySem PySem.Spec PyProof.Rows L2
local macro_rules | `(tactic| walk_at "rl") => `(tactic| first | assumption | exact Rl.refl pi0 | exact Rl.refl (by assumption) | exact Rl.refl (Rl.pi (by assumption)) | (refine Rl.trans (by assumption) ?_; walk_at "rl"))
local macro_rules | `(tactic| walk_at "ev") => `(tactic| first
  | with_reducible exact ev_int | with_reducible exact ev_bl | with_reducible exact ev_str | with_reducible exact ev_non
  | ((with_reducible apply ev_var); (focus exact rfl); (focus assumption); (focus walk_at "rl"))
  | ((with_reducible apply ev_slot); (focus exact rfl); (focus first | exact fun _ => Dp.int _ | exact fun _ => Dp.bl _ | exact fun _ => Dp.str _ | exact fun _ => Dp.non))
  | with_reducible exact ea_nil | with_reducible exact eo_none | with_reducible exact et_yes
  | with_reducible exact sh_int | with_reducible exact sh_bool | with_reducible exact sh_non
  | ((with_reducible apply ea_cons) <;> try walk_at "ev")
  | ((with_reducible apply ev_I0) <;> try walk_at "ev")
  | ((with_reducible apply ev_B0) <;> try walk_at "ev")
  | ((with_reducible apply ev_IC) <;> try walk_at "ev")
  | ((with_reducible apply ev_neg) <;> try walk_at "ev")
  | ((with_reducible apply ev_chain) <;> try walk_at "ev")
  | ((with_reducible apply ev_isTup) <;> try walk_at "ev")
  | ((with_reducible apply ev_isInt) <;> try walk_at "ev")
  | ((with_reducible apply ev_isBool) <;> try walk_at "ev")
  | ((with_reducible apply ev_isStr) <;> try walk_at "ev")
  | ((with_reducible apply ev_isLst) <;> try walk_at "ev")
  | ((with_reducible apply ev_isN) <;> try walk_at "ev")
  | ((with_reducible apply ev_notN) <;> try walk_at "ev")
  | ((with_reducible apply ev_notB) <;> try walk_at "ev")
  | ((with_reducible apply ev_eq) <;> try walk_at "ev")
  | ((with_reducible apply ev_ne) <;> try walk_at "ev")
  | ((with_reducible apply ev_abs) <;> try walk_at "ev")
  | ((with_reducible apply ev_max) <;> try walk_at "ev")
  | ((with_reducible apply ev_bits) <;> try walk_at "ev")
  | ((with_reducible apply ev_gcd) <;> try walk_at "ev")
  | ((with_reducible apply ev_list) <;> try walk_at "ev")
  | ((with_reducible apply ev_tuple) <;> try walk_at "ev")
  | ((with_reducible apply ev_tup) <;> try walk_at "ev")
  | ((with_reducible apply ev_lst) <;> try walk_at "ev")
  | ((with_reducible apply ev_catT) <;> try walk_at "ev")
  | ((with_reducible apply ev_slice) <;> try walk_at "ev")
  | ((with_reducible apply eo_some) <;> try walk_at "ev")
  | ((with_reducible apply ev_notV) <;> try walk_at "ev")
  | ((with_reducible apply et_test) <;> try walk_at "ev")
  | ((with_reducible apply et_B) <;> try walk_at "ev")
  | ((with_reducible apply et_not) <;> try walk_at "ev")
  | ((with_reducible apply ev_lenT); (focus (walk_at "ev"; done)))
  | ((with_reducible apply ev_lenL); (focus (walk_at "ev"; done)))
  | ((with_reducible apply ev_intI); (focus (walk_at "ev"; done)))
  | ((with_reducible apply ev_intB); (focus (walk_at "ev"; done)))
  | ((with_reducible apply ev_ixT); (focus (walk_at "ev"; done)); (focus (walk_at "ev"; done)); (try first | rfl | assumption))
  | ((with_reducible apply ev_ixL); (focus (walk_at "ev"; done)); (focus (walk_at "ev"; done)); (try first | rfl | assumption))
  | ((with_reducible apply ev_call); (focus (walk_at "ev"; done))))
local macro_rules | `(tactic| walk_at "nx") => `(tactic| ((try dsimp only); (try ((with_reducible refine st_next ?_); (try dsimp only))); (try with_reducible refine st_seq ?_)))
section
variable {P : Program} {w : World} {K : PySem.W.Frag} {mg : Str → Option Value} {base : Heap} {f : Addr} {fd : FuncData}
theorem s_forRP {p : Pw} {σ : L2.St} {H : Hp} {te : TE} {tu : TS} {F : Ends} {N j : Nat} (h : EvP K p te σ H fun d => ∃ n : Nat, d = .int (n : Int) ∧ n < N) (hN : N ≤ 100000) (pi : Wl p H) (Pv : Nat → L2.St → Hp → Prop) (h0 : ∀ H1, Rl p H H1 → Pv 0 σ H1)
    (hs : ∀ H1, Rl p H H1 → ∀ (i : Nat) (σ' : L2.St) (H' : Hp), i < N → Rl p H1 H' → Pv i σ' H' → tu (nxt F p H1 (Pv (i + 1))) (σ'.set j (some (.int (i : Int)))) H')
    (hd : ∀ n, n < N → ∀ σ' H', Rl p H H' → Pv n σ' H' → F.nx σ' H') : tFor (iRng1 (tCons te tNil)) (gName j) tu F σ H :=
  h H (Rl.refl pi) _ fun x d H1 r1 ⟨n, ed, hn⟩ kd => by
    subst ed
    refine ⟨n, by rw [dp_int kd], by omega, by omega, ?_⟩
    refine for_range (lo := 0) (n := (n : Int).toNat) (fun i σ' H' => Rl p H1 H' ∧ Pv i σ' H') ⟨Rl.refl r1.pi, h0 H1 r1⟩ ?_ ?_
    · rintro i σ' H' hi ⟨r2, pv⟩
      have e0 : (0 : Int) + (i : Int) = (i : Int) := Int.zero_add _
      show tu (nxt F p H1 (Pv (i + 1))) (σ'.set j (some (.int ((0 : Int) + (i : Int))))) H'
      rw [e0]
      exact hs H1 r1 i σ' H' (by omega) r2 pv
    · rintro σ' H' ⟨r2, pv⟩
      exact hd n hn σ' H' (r1.trans r2) (by rw [Int.toNat_natCast] at pv; exact pv)
theorem app_map {α : Type} {g : α → D} {l : List α} {a : α} : l.map g ++ [g a] = (l ++ [a]).map g := by simp
theorem get_app {α : Type} {l : List α} {a x : α} {i : Nat} (h : (l ++ [a])[i]? = some x) : (i < l.length ∧ l[i]? = some x) ∨ (i = l.length ∧ x = a) := by
  by_cases q : i < l.length
  · rw [List.getElem?_append_left q] at h
    exact .inl ⟨q, h⟩
  · rw [List.getElem?_append_right (by omega)] at h
    have : i - l.length < 1 := (List.getElem?_eq_some_iff.mp h).1
    have e : i - l.length = 0 := by omega
    rw [e] at h
    cases h
    exact .inr ⟨by omega, rfl⟩
/-- a small value drawn from constants -/
theorem evp_vals {p : Pw} {σ : L2.St} {H : Hp} {i n : Nat} {q : Addr × Addr × Addr} {tr : TA} (hp : p.pl = some q) (hσ : σ[i]? = some (some (.ref q.1))) (h : EvAP K p tr σ H (fun ds => ds.length = n ∧ ∀ d, d ∈ ds → ∃ x : Int, d = .int x ∧ 0 ≤ x ∧ x ≤ 2)) (h0 : 0 < n) (h1 : n ≤ 1000) :
    EvP K p (tOp (rIx K) (tTup tr) (tCall (SpG K PrePick PostPick) [] E0 (tCons (tVar i) (tCons (tC (.int (n : Nat))) tNil)))) σ H fun d => ∃ x : Int, d = .int x ∧ 0 ≤ x ∧ x ≤ 2 :=
  evp_choice h h1 (evp_pick hp hσ ev_int h0 (by omega))
theorem ev_val {p : Pw} {σ : L2.St} {H : Hp} (i : Int) (h : 0 ≤ i ∧ i ≤ 2) : EvP K p (tC (.int i)) σ H fun d => ∃ x : Int, d = .int x ∧ 0 ≤ x ∧ x ≤ 2 := ev_int.imp fun d e => ⟨i, e, h⟩
theorem ok_law_stands (FR : Free mg) (A : At K mg "_law_stands" s_law_stands P_law_stands f fd) (c1 : Prm P w K mg base CX0 1 "_law_pick" P_law_pick (SpG K PrePick PostPick)) : Prm P w K mg base CX0 2 "_law_stands" P_law_stands (SpG K PreNet PostStands) := by
  refine mk_prmG A sc_law_stands (fun ds ⟨c, _, e⟩ => by rw [e]; rfl) (dv_law_stands FR c1) ?_
  rintro p q vs ds H Q hp hw hv ⟨c, L, rfl⟩ hq
  obtain ⟨v, rfl, k⟩ := dpa1 hv
  have k' := k
  unfold netD at k'
  show t_law_stands K _ [some (.ref q.1), some v, none] H
  unfold t_law_stands
  walk_at "nx"
  refine s_retP (evp_tuple (evp_lcT (K := K) (p := p) (ds := c.sws.map swD) (fun i es => ∃ ps : List Int, es = ps.map PyData.int ∧ ps.length = i ∧ ∀ (j : Nat) (x : Int) (s : Sw), ps[j]? = some x → c.sws[j]? = some s → 0 ≤ x ∧ x ≤ 2 ∧ (s.kind = "tie" → x = 1)) (ev_ixT (by walk_at "ev") ev_int rfl) (by rw [List.length_map]; have := L.s6; omega) (wipe_one _) ⟨[], rfl, rfl, fun j x s h => by simp at h⟩ ?_)) hw fun v d H1 r1 pd kd => ?_
  · rintro H0 r0 i x d hd p' H' hp' w' up kx acc ⟨ps, rfl, hl, hps⟩
    obtain ⟨sw, hsw, rfl⟩ := get_map hd
    have hk := L.good.kinds sw (List.mem_of_getElem? hsw)
    unfold swD at kx
    refine ⟨true, et_yes, fun _ => ⟨fun d => ∃ x : Int, d = .int x ∧ 0 ≤ x ∧ x ≤ 2 ∧ (sw.kind = "tie" → x = 1), ?_, ?_⟩, fun z => nomatch z⟩
    · refine evp_if (b := decide (sw.kind = "tie")) (et_is (et_test (K := K) (ev_eq (d := .str sw.kind) (ev_ixT (ev_var rfl kx (Rl.refl w')) ev_int rfl) ev_str (by unfold SeqAt.shaped; simp [PyData.canLay0, PyData.depth, hk]) (by decide +kernel))) (by rw [eqv_str])) (fun e => ev_int.imp fun d e => ⟨1, e, by decide, by decide, fun _ => rfl⟩) fun e => ?_
      refine (evp_vals (n := 4) (hp'.trans hp) rfl (eall_cons (ev_val 0 (by decide)) (eall_cons (ev_val 1 (by decide)) (eall_cons (ev_val 2 (by decide)) (eall_cons (ev_val 0 (by decide)) eall_nil)))) (by decide) (by decide)).imp fun d ⟨x, h1, h2, h3⟩ => ⟨x, h1, h2, h3, fun z => ?_⟩
      rw [decide_eq_true z] at e
      cases e
    · rintro d ⟨x, rfl, h1, h2, h3⟩
      refine ⟨ps ++ [x], app_map, by rw [List.length_append, hl]; rfl, fun j y s hj hs => ?_⟩
      rcases get_app hj with ⟨_, h⟩ | ⟨e1, e2⟩
      · exact hps j y s h hs
      · rw [e1, hl, hsw] at hs
        cases hs
        rw [e2]
        exact ⟨h1, h2, h3⟩
  · obtain ⟨ds, rfl, ps, rfl, hl, hps⟩ := pd
    rw [List.length_map] at hl
    exact hq v _ H1 r1 ⟨c, ps, rfl, ⟨hl, hps⟩, rfl⟩ kd
theorem ok_law_holds (FR : Free mg) (A : At K mg "_law_holds" s_law_holds P_law_holds f fd) (c1 : Prm P w K mg base CX0 1 "_law_pick" P_law_pick (SpG K PrePick PostPick)) : Prm P w K mg base CX0 2 "_law_holds" P_law_holds (SpG K PreNet PostHolds) := by
  refine mk_prmG A sc_law_holds (fun ds ⟨c, _, e⟩ => by rw [e]; rfl) (dv_law_holds FR c1) ?_
  rintro p q vs ds H Q hp hw hv ⟨c, L, rfl⟩ hq
  obtain ⟨v, rfl, k⟩ := dpa1 hv
  have k' := k
  unfold netD at k'
  show t_law_holds K _ [some (.ref q.1), some v, none] H
  unfold t_law_holds
  walk_at "nx"
  have h2 := L.good.two
  have hsm := L.good.small
  have hn : c.n = c.feeds.length + c.tanks.length := rfl
  refine s_retP (evp_tuple (evp_ofL (evl_cat (A := fun ds => ds = [.int 0, .int 1]) (B := fun es => ∃ hs : List Int, es = hs.map PyData.int ∧ hs.length = c.n - 2 ∧ ∀ x, x ∈ hs → 0 ≤ x ∧ x ≤ 2) (evl_lst (ea_cons ev_int (ea_cons ev_int ea_nil)) fun ds e => by rw [e]; simp) ?_ ?_))) hw fun v d H1 r1 pd kd => ?_
  · refine evl_imp (evl_lcR (K := K) (p := p) (n := ((c.n - 2 : Nat) : Int)) (fun i es => ∃ hs : List Int, es = hs.map PyData.int ∧ hs.length = i ∧ ∀ x, x ∈ hs → 0 ≤ x ∧ x ≤ 2) ?_ (by omega) (by omega) (wipe_one _) ⟨[], rfl, rfl, fun _ h => nomatch h⟩ ?_) fun es ⟨hs, h1, h2, h3⟩ => ⟨hs, h1, by rw [h2, Int.toNat_natCast], h3⟩
    · refine ev_is (ev_I0 (f := fun i j => i - j) (j := 2) (ev_I0 (f := fun i j => i + j) (i := ((c.feeds.map PyData.str).length : Int)) (j := ((c.tanks.map tkD).length : Int)) (ev_lenT (ev_ixT (by walk_at "ev") ev_int rfl)) (ev_lenT (ev_ixT (by walk_at "ev") ev_int rfl))) ev_int) ?_
      show PyData.int _ = _
      congr 1
      rw [List.length_map, List.length_map]
      omega
    · rintro H0 r0 i hi p' H' hp' w' up kx acc ⟨hs, rfl, hl, hhs⟩
      refine ⟨true, et_yes, fun _ => ⟨fun d => ∃ x : Int, d = .int x ∧ 0 ≤ x ∧ x ≤ 2, evp_vals (n := 5) (hp'.trans hp) rfl (eall_cons (ev_val 0 (by decide)) (eall_cons (ev_val 1 (by decide)) (eall_cons (ev_val 2 (by decide)) (eall_cons (ev_val 0 (by decide)) (eall_cons (ev_val 1 (by decide)) eall_nil))))) (by decide) (by decide), ?_⟩, fun z => nomatch z⟩
      rintro d ⟨x, rfl, h1, h2⟩
      refine ⟨hs ++ [x], app_map, by rw [List.length_append, hl]; rfl, fun y hy => ?_⟩
      rcases List.mem_append.mp hy with h | h
      · exact hhs y h
      · have : y = x := by simpa using h
        rw [this]; exact ⟨h1, h2⟩
  · rintro ds es rfl ⟨hs, rfl, hl, _⟩
    rw [List.length_map]
    show 2 + _ ≤ _
    omega
  · obtain ⟨ds, rfl, _, _, rfl, rfl, hs, rfl, hl, hhs⟩ := pd
    refine hq v _ H1 r1 ⟨c, 0 :: 1 :: hs, rfl, ⟨by show hs.length + 1 + 1 = _; omega, rfl, rfl, fun i x hx => ?_⟩, rfl⟩ kd
    have hm := List.mem_of_getElem? hx
    rcases List.mem_cons.mp hm with h | h
    · rw [h]; decide
    · rcases List.mem_cons.mp h with h | h
      · rw [h]; decide
      · exact hhs x h
end

end Ky
set_option Elab.async false
set_option linter.all false
set_option maxRecDepth 4000
set_option maxHeartbeats 4000000
namespace Ky
open PySem PySem.Spec PyProof.Rows L2
local macro_rules | `(tactic| walk_at "rl") => `(tactic| first | assumption | exact Rl.refl pi0 | exact Rl.refl (by assumption) | exact Rl.refl (Rl.pi (by assumption)) | (refine Rl.trans (by assumption) ?_; walk_at "rl"))
local macro_rules | `(tactic| walk_at "ev") => `(tactic| first
  | with_reducible exact ev_int | with_reducible exact ev_bl | with_reducible exact ev_str | with_reducible exact ev_non
  | ((with_reducible apply ev_var); (focus exact rfl); (focus assumption); (focus walk_at "rl"))
  | ((with_reducible apply ev_slot); (focus exact rfl); (focus first | exact fun _ => Dp.int _ | exact fun _ => Dp.bl _ | exact fun _ => Dp.str _ | exact fun _ => Dp.non))
  | with_reducible exact ea_nil | with_reducible exact eo_none | with_reducible exact et_yes
  | with_reducible exact sh_int | with_reducible exact sh_bool | with_reducible exact sh_non
  | ((with_reducible apply ea_cons) <;> try walk_at "ev")
  | ((with_reducible apply ev_I0) <;> try walk_at "ev")
  | ((with_reducible apply ev_B0) <;> try walk_at "ev")
  | ((with_reducible apply ev_IC) <;> try walk_at "ev")
  | ((with_reducible apply ev_neg) <;> try walk_at "ev")
  | ((with_reducible apply ev_chain) <;> try walk_at "ev")
  | ((with_reducible apply ev_isTup) <;> try walk_at "ev")
  | ((with_reducible apply ev_isInt) <;> try walk_at "ev")
  | ((with_reducible apply ev_isBool) <;> try walk_at "ev")
  | ((with_reducible apply ev_isStr) <;> try walk_at "ev")
  | ((with_reducible apply ev_isLst) <;> try walk_at "ev")
  | ((with_reducible apply ev_isN) <;> try walk_at "ev")
  | ((with_reducible apply ev_notN) <;> try walk_at "ev")
  | ((with_reducible apply ev_notB) <;> try walk_at "ev")
  | ((with_reducible apply ev_eq) <;> try walk_at "ev")
  | ((with_reducible apply ev_ne) <;> try walk_at "ev")
  | ((with_reducible apply ev_abs) <;> try walk_at "ev")
  | ((with_reducible apply ev_max) <;> try walk_at "ev")
  | ((with_reducible apply ev_bits) <;> try walk_at "ev")
  | ((with_reducible apply ev_gcd) <;> try walk_at "ev")
  | ((with_reducible apply ev_list) <;> try walk_at "ev")
  | ((with_reducible apply ev_tuple) <;> try walk_at "ev")
  | ((with_reducible apply ev_tup) <;> try walk_at "ev")
  | ((with_reducible apply ev_lst) <;> try walk_at "ev")
  | ((with_reducible apply ev_catT) <;> try walk_at "ev")
  | ((with_reducible apply ev_slice) <;> try walk_at "ev")
  | ((with_reducible apply eo_some) <;> try walk_at "ev")
  | ((with_reducible apply ev_notV) <;> try walk_at "ev")
  | ((with_reducible apply et_test) <;> try walk_at "ev")
  | ((with_reducible apply et_B) <;> try walk_at "ev")
  | ((with_reducible apply et_not) <;> try walk_at "ev")
  | ((with_reducible apply ev_lenT); (focus (walk_at "ev"; done)))
  | ((with_reducible apply ev_lenL); (focus (walk_at "ev"; done)))
  | ((with_reducible apply ev_intI); (focus (walk_at "ev"; done)))
  | ((with_reducible apply ev_intB); (focus (walk_at "ev"; done)))
  | ((with_reducible apply ev_ixT); (focus (walk_at "ev"; done)); (focus (walk_at "ev"; done)); (try first | rfl | assumption))
  | ((with_reducible apply ev_ixL); (focus (walk_at "ev"; done)); (focus (walk_at "ev"; done)); (try first | rfl | assumption))
  | ((with_reducible apply ev_call); (focus (walk_at "ev"; done))))
local macro_rules | `(tactic| walk_at "nx") => `(tactic| ((try dsimp only); (try ((with_reducible refine st_next ?_); (try dsimp only))); (try with_reducible refine st_seq ?_)))
section
variable {P : Program} {w : World} {K : PySem.W.Frag} {mg : Str → Option Value} {base : Heap} {f : Addr} {fd : FuncData}
theorem s_forX {p1 p : Pw} {σ : L2.St} {H : Hp} {te : TE} {tu : TS} {F : Ends} {B : Nat → Prop} {j : Nat} (h : EvP K p1 te σ H fun d => ∃ n : Nat, d = .int (n : Int) ∧ B n) (hB : ∀ n, B n → n ≤ 100000) (pi : Wl p1 H) (cv : ∀ H1, Rl p1 H H1 → Rl p H H1) (Pv : Nat → L2.St → Hp → Prop) (h0 : ∀ H1, Rl p1 H H1 → Pv 0 σ H1)
    (hs : ∀ n, B n → ∀ H1, Rl p H H1 → ∀ (i : Nat) (σ' : L2.St) (H' : Hp), i < n → Rl p H1 H' → Pv i σ' H' → tu (nxt F p H1 (Pv (i + 1))) (σ'.set j (some (.int (i : Int)))) H')
    (hd : ∀ n, B n → ∀ σ' H', Rl p H H' → Pv n σ' H' → F.nx σ' H') : tFor (iRng1 (tCons te tNil)) (gName j) tu F σ H :=
  h H (Rl.refl pi) _ fun x d H1 r1 ⟨n, ed, hn⟩ kd => by
    subst ed
    have hl := hB n hn
    refine ⟨n, by rw [dp_int kd], by omega, by omega, ?_⟩
    refine for_range (lo := 0) (n := (n : Int).toNat) (fun i σ' H' => Rl p H1 H' ∧ Pv i σ' H') ⟨Rl.refl (cv H1 r1).pi, h0 H1 r1⟩ ?_ ?_
    · rintro i σ' H' hi ⟨r2, pv⟩
      have e0 : (0 : Int) + (i : Int) = (i : Int) := Int.zero_add _
      show tu (nxt F p H1 (Pv (i + 1))) (σ'.set j (some (.int ((0 : Int) + (i : Int))))) H'
      rw [e0]
      exact hs n hn H1 (cv H1 r1) i σ' H' (by omega) r2 pv
    · rintro σ' H' ⟨r2, pv⟩
      exact hd n hn σ' H' ((cv H1 r1).trans r2) (by rw [Int.toNat_natCast] at pv; exact pv)
theorem s_forTX {p1 p : Pw} {σ : L2.St} {H : Hp} {tl : TE} {tu : TS} {F : Ends} {ds : List D} {j : Nat} (h : EvD K p1 tl σ H (.tuple ds)) (pi : Wl p1 H) (cv : ∀ H1, Rl p1 H H1 → Rl p H H1) (cx : ∀ H1, Ex (vw p1 H1) (vw p H1)) (Pv : Nat → L2.St → Hp → Prop) (h0 : ∀ H1, Rl p1 H H1 → Pv 0 σ H1)
    (hs : ∀ H1, Rl p H H1 → ∀ (i : Nat) (x : V) (d : D) (σ' : L2.St) (H' : Hp), ds[i]? = some d → Dp K (vw p H') x d → Rl p H1 H' → Pv i σ' H' → tu (nxt F p H1 (Pv (i + 1))) (σ'.set j (some x)) H')
    (hd : ∀ σ' H', Rl p H H' → Pv ds.length σ' H' → F.nx σ' H') : tFor (iTup K tl) (gName j) tu F σ H :=
  h H (Rl.refl pi) _ fun x d H1 r1 ed kd => by
    subst ed
    replace kd := dp_ex (cx H1) kd
    cases kd with
    | @tup a xs _ hsq hv =>
      refine ⟨a, rfl, ⟨xs, Evl.ex_t vw_sub hsq⟩, ?_⟩
      refine for_tup (xs := xs) (fun i σ' H' => Rl p H1 H' ∧ Pv i σ' H') ⟨Rl.refl (cv H1 r1).pi, h0 H1 r1⟩ (fun i σ' H' _ q => sqt_rl q.1 hsq) ?_ ?_
      · rintro i x σ' H' hx ⟨r2, pv⟩
        obtain ⟨d, hd1, kd⟩ := dpa_getv hv hx
        exact hs H1 (cv H1 r1) i x d σ' H' hd1 (dp_ex r2.ex kd) r2 pv
      · rintro σ' H' ⟨r2, pv⟩
        rw [dpa_len hv] at pv
        exact hd σ' H' ((cv H1 r1).trans r2) pv
theorem cut_take {ds : List D} {n : Nat} (h : n ≤ ds.length) : cutD ds none (some (n : Int)) = ds.take n := by
  unfold cutD
  have h1 : HT.sIx ds.length 0 none = 0 := rfl
  have h2 : HT.sIx ds.length ds.length (some (n : Int)) = n := by rw [HT.sIx_nat]; omega
  rw [h1, h2]
  simp
theorem map_take {α : Type} {g : α → D} {l : List α} {n : Nat} : (l.map g).take n = (l.take n).map g := (List.map_take).symm
theorem ok_law_circuit (FR : Free mg) (A : At K mg "_law_circuit" s_law_circuit P_law_circuit f fd) (c1 : Prm P w K mg base CX0 1 "_law_pick" P_law_pick (SpG K PrePick PostPick)) : Prm P w K mg base CX0 2 "_law_circuit" P_law_circuit (SpG K Pre0 PostCircuit) := by
  refine mk_prmG A sc_law_circuit (fun ds e => by rw [e]; rfl) (dv_law_circuit FR c1) ?_
  rintro p q vs ds H Q hp hw hv rfl hq
  cases hv
  show t_law_circuit K _ [some (.ref q.1), none, none, none, none, none, none, none, none, none, none] H
  unfold t_law_circuit
  walk_at "nx"
  refine s_asgP (K := K) (P := fun d => ∃ fs : List Str, d = .tuple (fs.map PyData.str) ∧ 2 ≤ fs.length ∧ fs.length ≤ 4) ?_ hw fun v1 d1 H1 r1 ⟨fs, e1, f2, f4⟩ k1 => ?_
  · refine (evp_slice (A := fun ds => ds = [.str "low", .str "high", .str "a", .str "bus[3]"]) ((ev_tup (ds := [.str "low", .str "high", .str "a", .str "bus[3]"]) (ea_cons ev_str (ea_cons ev_str (ea_cons ev_str (ea_cons ev_str ea_nil)))) (by simp)).imp fun d e => ⟨_, e, rfl⟩) eo_none (eop_some (K := K) (A := fun i => ∃ j : Nat, i = 2 + (j : Int) ∧ j < 3) ?_)).imp ?_
    · exact (evp_I0 (f := fun i j => i + j) (B := fun i => ∃ j : Nat, i = (j : Int) ∧ j < 3) (ev_in (ev_int (i := 2))) ((evp_pick hp rfl (ev_int (i := (3 : Nat))) (by decide) (by decide)).imp fun d ⟨j, e, h⟩ => ⟨(j : Int), e, (⟨j, rfl, h⟩ : ∃ j' : Nat, (j : Int) = j' ∧ j' < 3)⟩)).imp fun d ⟨a, b, e, ea, j, eb, h⟩ => ⟨_, e, j, by rw [ea, eb], h⟩
    · rintro d ⟨ds, lo, hi, rfl, rfl, rfl, i, rfl, j, rfl, hj⟩
      refine ⟨(["low", "high", "a", "bus[3]"] : List Str).take (2 + j), ?_, by rw [List.length_take]; show 2 ≤ min _ 4; omega, by rw [List.length_take]; show min _ 4 ≤ 4; omega⟩
      have : cutD [.str "low", .str "high", .str "a", .str "bus[3]"] none (some (2 + (j : Int))) = List.take (2 + j) [.str "low", .str "high", .str "a", .str "bus[3]"] := cut_take (n := 2 + j) (by show _ ≤ 4; omega)
      rw [this, ← map_take]
      rfl
  subst e1
  walk_at "nx"
  refine s_asgP (K := K) (P := fun d => ∃ bs : List Str, d = .tuple (bs.map PyData.str) ∧ bs.length ≤ 4) ?_ r1.pi fun v2 d2 H2 r2 ⟨bs, e2, b4⟩ k2 => ?_
  · refine (evp_slice (A := fun ds => ds = [.str "q", .str "mem.s[0]", .str "r", .str "z1"]) ((ev_tup (ds := [.str "q", .str "mem.s[0]", .str "r", .str "z1"]) (ea_cons ev_str (ea_cons ev_str (ea_cons ev_str (ea_cons ev_str ea_nil)))) (by simp)).imp fun d e => ⟨_, e, rfl⟩) eo_none (eop_some (K := K) (A := fun i => ∃ j : Nat, i = (j : Int) ∧ j < 5) ?_)).imp ?_
    · exact (evp_pick hp rfl (ev_int (i := (5 : Nat))) (by decide) (by decide)).imp fun d ⟨j, e, h⟩ => ⟨(j : Int), e, j, rfl, h⟩
    · rintro d ⟨ds, lo, hi, rfl, rfl, rfl, i, rfl, j, rfl, hj⟩
      refine ⟨(["q", "mem.s[0]", "r", "z1"] : List Str).take j, ?_, by rw [List.length_take]; show min _ 4 ≤ 4; omega⟩
      rw [cut_take (n := j) (by show _ ≤ 4; omega), ← map_take]
      rfl
  subst e2
  walk_at "nx"
  refine s_asgP (K := K) (P := fun d => ∃ ts : List (Str × Int), d = .tuple (ts.map tkD) ∧ ts.length = bs.length ∧ ∀ t, t ∈ ts → 1 ≤ t.2 ∧ t.2 ≤ 4) ?_ r2.pi fun v3 d3 H3 r3 ⟨ts, e3, t4, tk⟩ k3 => ?_
  · refine (evp_tuple (evp_lcT (K := K) (p := p) (ds := bs.map PyData.str) (fun i es => ∃ ts : List (Str × Int), es = ts.map tkD ∧ ts.length = i ∧ ∀ t, t ∈ ts → 1 ≤ t.2 ∧ t.2 ≤ 4) (by walk_at "ev") (by rw [List.length_map]; omega) (wipe_one _) ⟨[], rfl, rfl, fun _ h => nomatch h⟩ ?_)).imp ?_
    · rintro H0 r0 i x d hd p' H' hp' w' up kx acc ⟨ts, rfl, hl, hts⟩
      obtain ⟨nm, _, rfl⟩ := get_map hd
      refine ⟨true, et_yes, fun _ => ⟨fun d => ∃ t : Str × Int, d = tkD t ∧ 1 ≤ t.2 ∧ t.2 ≤ 4, ?_, ?_⟩, fun z => nomatch z⟩
      · refine (evp_tup (eap_cons (P := fun r => ∃ d r', r = d :: r' ∧ (∃ i j, d = .int (i + j) ∧ i = 1 ∧ (0 ≤ j ∧ j < 4)) ∧ r' = []) (ev_var rfl kx (Rl.refl w')) (eap_cons (evp_I0 (f := fun i j => i + j) (ev_in (ev_int (i := 1))) ((evp_pick (hp'.trans hp) rfl (ev_int (i := (4 : Nat))) (by decide) (by decide)).imp fun d => pick_lt)) eap_nil)) ?_).imp ?_
        · rintro ds ⟨_, _, rfl, rfl, _, _, rfl, _, rfl⟩
          simp
        · rintro d ⟨ds, rfl, _, _, rfl, rfl, _, _, rfl, ⟨i, j, rfl, rfl, h1, h2⟩, rfl⟩
          exact ⟨(nm, 1 + j), rfl, by omega, by omega⟩
      · rintro d ⟨t, rfl, h1, h2⟩
        refine ⟨ts ++ [t], app_map, by rw [List.length_append, hl]; rfl, fun y hy => ?_⟩
        rcases List.mem_append.mp hy with h | h
        · exact hts y h
        · have : y = t := by simpa using h
          rw [this]; exact ⟨h1, h2⟩
    · rintro d ⟨ds, rfl, ts, rfl, hl, h⟩
      rw [List.length_map] at hl
      exact ⟨ts, rfl, hl, h⟩
  subst e3
  walk_at "nx"
  refine s_asg (d := .int ((fs.length + ts.length : Nat) : Int)) (ev_is (ev_I0 (f := fun i j => i + j) (i := ((fs.map PyData.str).length : Int)) (j := ((ts.map tkD).length : Int)) (ev_lenT (by walk_at "ev")) (ev_lenT (by walk_at "ev"))) (by show PyData.int _ = _; congr 1; rw [List.length_map, List.length_map]; omega)) r3.pi fun v4 H4 r4 k4 => ?_
  have e4 := dp_int k4
  subst e4
  generalize hm : fs.length + ts.length = m
  have m2 : 2 ≤ m := by omega
  have m8 : m ≤ 8 := by omega
  walk_at "nx"
  refine s_new r4.pi fun a hn r5 r5m => ?_
  walk_at "nx"
  have pG : Wl p H4 := r4.pi
  refine s_forX (K := K) (p1 := p.hide a) (p := p.mut a) (B := fun n => n < 7) (evp_pick (show (p.hide a).pl = some q from hp) rfl (ev_int (i := (7 : Nat))) (by decide) (by decide)) (fun n h => by omega) (wl_hide r5.pi upd_same) (fun H1 r => rl_h2m r)
    (fun i σ' H' => (∃ a5 a6 a7 a8 a9, σ' = [some (.ref q.1), some v1, some v3, some (.int (m : Int)), some (.ref a), a5, a6, a7, a8, a9, none]) ∧ Rl (p.mut a) H4 H' ∧ ∃ (xs : List V) (sws : List Sw), H' a = some (.lst xs) ∧ xs.length = i ∧ DpAll K (vw (p.mut a) H') xs (sws.map swD) ∧ sws.length = i ∧ ∀ s, s ∈ sws → PySem.PyData.strOk s.kind = true ∧ 1 ≤ s.strength ∧ s.strength ≤ 6) ?_ ?_ ?_
  · intro H6 r6
    exact ⟨⟨_, _, _, _, _, rfl⟩, r5m.trans (rl_h2m r6), [], [], r6.keep upd_same (vw_at pG hn).1, rfl, .nil, rfl, fun _ h => nomatch h⟩
  · rintro n hn7 H6 r6 i σ' H7 hi r7 ⟨⟨a5, a6, a7, a8, a9, rfl⟩, rG, xs, sws, ea, hl, kx, hl2, hs⟩
    have wh : Wl (p.hide a) H7 := wl_hide (wl_unmut rG.pi) ea
    walk_at "nx"
    refine s_asgP (p := p.hide a) (K := K) (P := fun d => ∃ s : Str, d = .str s ∧ PySem.PyData.strOk s = true) (evp_choice (n := 4) (eall_cons (ev_str.imp fun d e => ⟨_, e, by decide +kernel⟩) (eall_cons (ev_str.imp fun d e => ⟨_, e, by decide +kernel⟩) (eall_cons (ev_str.imp fun d e => ⟨_, e, by decide +kernel⟩) (eall_cons (ev_str.imp fun d e => ⟨_, e, by decide +kernel⟩) eall_nil)))) (by decide) (evp_pick (show (p.hide a).pl = some q from hp) rfl (ev_int (i := (4 : Nat))) (by decide) (by decide))) wh fun v6 d6 H8 r8 ⟨kd, e6, ok6⟩ k6 => ?_
    subst e6
    have e6 := dp_strv k6
    subst e6
    walk_at "nx"
    refine s_asgP (p := p.hide a) (K := K) (P := fun d => ∃ g : Int, d = .int g) (evp_if (b := decide (kd = "tie")) (et_is (et_test (K := K) (ev_eq (d := .str kd) (ev_slot rfl fun _ => .str kd) ev_str (by unfold SeqAt.shaped; simp [PyData.canLay0, PyData.depth, ok6]) (by decide +kernel))) (by rw [eqv_str])) (fun _ => (ev_neg ev_int).imp fun d e => ⟨_, e⟩) fun _ => (evp_pick (n := m) (show (p.hide a).pl = some q from hp) rfl (ev_slot rfl fun _ => .int (m : Int)) (by omega) (by omega)).imp fun d ⟨j, e, _⟩ => ⟨_, e⟩) r8.pi fun v7 d7 H9 r9 ⟨gt, e7⟩ k7 => ?_
    subst e7
    have e7 := dp_int k7
    subst e7
    walk_at "nx"
    refine s_asgP (p := p.hide a) (K := K) (evp_pick (n := m) (show (p.hide a).pl = some q from hp) rfl (ev_slot rfl fun _ => .int (m : Int)) (by omega) (by omega)) r9.pi fun v8 d8 H10 r10 ⟨lf, e8, _⟩ k8 => ?_
    subst e8
    have e8 := dp_int k8
    subst e8
    walk_at "nx"
    refine s_asgP (p := p.hide a) (K := K) (P := fun d => ∃ g : Int, d = .int g) ((evp_IC (f := fun i j => i.fmod j) (A := fun _ => True) (B := fun j => j = (m : Int)) (evp_intI ((evp_I0 (f := fun i j => i + j) (ev_in (ev_I0 (f := fun i j => i + j) (i := (lf : Int)) (j := 1) (ev_slot rfl fun _ => .int _) ev_int)) ((evp_pick (n := m - 1) (show (p.hide a).pl = some q from hp) rfl (ev_is (ev_I0 (f := fun i j => i - j) (i := (m : Int)) (j := 1) (ev_slot rfl fun _ => .int _) ev_int) (by show PyData.int _ = _; congr 1; omega)) (by omega) (by omega)).imp fun d => pick_lt)).imp fun d ⟨i, j, e, _⟩ => ⟨_, e, trivial⟩)) (ev_in (ev_slot rfl fun _ => .int (m : Int))) (fun i j _ e => by rw [e]; omega)).imp fun d ⟨i, j, e, _⟩ => ⟨_, e⟩) r10.pi fun v9 d9 H11 r11 ⟨rt, e9⟩ k9 => ?_
    subst e9
    have e9 := dp_int k9
    subst e9
    have rh := (r8.trans r9).trans (r10.trans r11)
    have ea2 : H11 a = some (.lst xs) := rh.keep ea (vw_at pG hn).1
    have rG2 : Rl (p.mut a) H4 H11 := rG.trans (rl_h2m rh)
    refine s_app (P := fun d => ∃ s : Sw, d = swD s ∧ PySem.PyData.strOk s.kind = true ∧ 1 ≤ s.strength ∧ s.strength ≤ 6) rfl hn pG rG2 ea2 (by omega) (dpa_ex (rl_h2m rh).ex kx) (fun w2 => ?_) fun e ys H12 r12 rG3 pe ey hy ky => ?_
    · refine (evp_tup (eap_cons (ev_slot rfl fun _ => .str kd) (eap_cons (evp_I0 (f := fun i j => i + j) (ev_in (ev_int (i := 1))) ((evp_pick (show (p.hide a).pl = some q from hp) rfl (ev_int (i := (6 : Nat))) (by decide) (by decide)).imp fun d => pick_lt)) (eap_cons (ev_slot rfl fun _ => .int gt) (eap_cons (ev_slot rfl fun _ => .int (lf : Int)) (eap_cons (ev_slot rfl fun _ => .int rt) eap_nil))))) ?_).imp ?_
      · rintro ds ⟨_, _, rfl, rfl, _, _, rfl, _, _, _, rfl, rfl, _, _, rfl, rfl, _, _, rfl, rfl, rfl⟩
        simp
      · rintro d ⟨ds, rfl, _, _, rfl, rfl, _, _, rfl, ⟨i, j, rfl, rfl, h1, h2⟩, _, _, rfl, rfl, _, _, rfl, rfl, _, _, rfl, rfl, rfl⟩
        exact ⟨⟨kd, 1 + j, gt, lf, rt⟩, rfl, ok6, by show 1 ≤ 1 + j; omega, by show 1 + j ≤ 6; omega⟩
    · obtain ⟨s, rfl, h1, h2, h3⟩ := pe
      refine ⟨(r7.trans (rl_h2m rh)).trans r12, ⟨_, _, _, _, _, rfl⟩, rG3, ys, sws ++ [s], ey, by omega, by rw [← app_map]; exact ky, by rw [List.length_append, hl2]; rfl, fun y hy => ?_⟩
      rcases List.mem_append.mp hy with h | h
      · exact hs y h
      · have : y = s := by simpa using h
        rw [this]; exact ⟨h1, h2, h3⟩
  · rintro n hn7 σ' H7 r7 ⟨⟨a5, a6, a7, a8, a9, rfl⟩, rG, xs, sws, ea, hl, kx, hl2, hs⟩
    have rp : Rl p H4 H7 := rl_unmut hn rG
    have k1' : Dp K (vw p H7) v1 (.tuple (fs.map PyData.str)) := dp_ex (((r2.trans r3).trans r4).trans rp).ex k1
    have k3' : Dp K (vw p H7) v3 (.tuple (ts.map tkD)) := dp_ex (r4.trans rp).ex k3
    have ka : Dp K (vw p H7) (.ref a) (.list (sws.map swD)) := .lst (SqL.of (vw_of (vw_at pG hn) ea)) (dpa_ex vw_unmut kx)
    walk_at "nx"
    refine s_retP (P := fun d => d = netD ⟨fs, ts, sws⟩) (ev_tup (ds := [.tuple (fs.map PyData.str), .tuple (ts.map tkD), .tuple (sws.map swD)]) (ea_cons (ev_var rfl k1' (Rl.refl rp.pi)) (ea_cons (ev_var rfl k3' (Rl.refl rp.pi)) (ea_cons (ev_tuple (ev_var rfl ka (Rl.refl rp.pi))) ea_nil))) (by simp)) rp.pi fun v d H8 r8 e kd => hq v d H8 ((((r1.trans r2).trans r3).trans r4).trans (rp.trans r8)) ⟨⟨fs, ts, sws⟩, ⟨⟨fun s h => (hs s h).1, f2, ?_, fun s h => (hs s h).2, tk⟩, f4, by show ts.length ≤ 4; omega, by show sws.length ≤ 6; omega⟩, e⟩ kd
    show fs.length + ts.length ≤ 1000
    omega
end

end Ky
set_option Elab.async false
set_option linter.all false
set_option maxRecDepth 4000
set_option maxHeartbeats 4000000
namespace Ky
open PySem PySem.Spec PyProof.Rows L2
local macro_rules | `(tactic| walk_at "rl") => `(tactic| first | assumption | exact Rl.refl pi0 | exact Rl.refl (by assumption) | exact Rl.refl (Rl.pi (by assumption)) | (refine Rl.trans (by assumption) ?_; walk_at "rl"))
local macro_rules | `(tactic| walk_at "ev") => `(tactic| first
  | with_reducible exact ev_int | with_reducible exact ev_bl | with_reducible exact ev_str | with_reducible exact ev_non
  | ((with_reducible apply ev_var); (focus exact rfl); (focus assumption); (focus walk_at "rl"))
  | ((with_reducible apply ev_slot); (focus exact rfl); (focus first | exact fun _ => Dp.int _ | exact fun _ => Dp.bl _ | exact fun _ => Dp.str _ | exact fun _ => Dp.non))
  | with_reducible exact ea_nil | with_reducible exact eo_none | with_reducible exact et_yes
  | with_reducible exact sh_int | with_reducible exact sh_bool | with_reducible exact sh_non
  | ((with_reducible apply ea_cons) <;> try walk_at "ev")
  | ((with_reducible apply ev_I0) <;> try walk_at "ev")
  | ((with_reducible apply ev_B0) <;> try walk_at "ev")
  | ((with_reducible apply ev_IC) <;> try walk_at "ev")
  | ((with_reducible apply ev_neg) <;> try walk_at "ev")
  | ((with_reducible apply ev_chain) <;> try walk_at "ev")
  | ((with_reducible apply ev_isTup) <;> try walk_at "ev")
  | ((with_reducible apply ev_isInt) <;> try walk_at "ev")
  | ((with_reducible apply ev_isBool) <;> try walk_at "ev")
  | ((with_reducible apply ev_isStr) <;> try walk_at "ev")
  | ((with_reducible apply ev_isLst) <;> try walk_at "ev")
  | ((with_reducible apply ev_isN) <;> try walk_at "ev")
  | ((with_reducible apply ev_notN) <;> try walk_at "ev")
  | ((with_reducible apply ev_notB) <;> try walk_at "ev")
  | ((with_reducible apply ev_eq) <;> try walk_at "ev")
  | ((with_reducible apply ev_ne) <;> try walk_at "ev")
  | ((with_reducible apply ev_abs) <;> try walk_at "ev")
  | ((with_reducible apply ev_max) <;> try walk_at "ev")
  | ((with_reducible apply ev_bits) <;> try walk_at "ev")
  | ((with_reducible apply ev_gcd) <;> try walk_at "ev")
  | ((with_reducible apply ev_list) <;> try walk_at "ev")
  | ((with_reducible apply ev_tuple) <;> try walk_at "ev")
  | ((with_reducible apply ev_tup) <;> try walk_at "ev")
  | ((with_reducible apply ev_lst) <;> try walk_at "ev")
  | ((with_reducible apply ev_catT) <;> try walk_at "ev")
  | ((with_reducible apply ev_slice) <;> try walk_at "ev")
  | ((with_reducible apply eo_some) <;> try walk_at "ev")
  | ((with_reducible apply ev_notV) <;> try walk_at "ev")
  | ((with_reducible apply et_test) <;> try walk_at "ev")
  | ((with_reducible apply et_B) <;> try walk_at "ev")
  | ((with_reducible apply et_not) <;> try walk_at "ev")
  | ((with_reducible apply ev_lenT); (focus (walk_at "ev"; done)))
  | ((with_reducible apply ev_lenL); (focus (walk_at "ev"; done)))
  | ((with_reducible apply ev_intI); (focus (walk_at "ev"; done)))
  | ((with_reducible apply ev_intB); (focus (walk_at "ev"; done)))
  | ((with_reducible apply ev_ixT); (focus (walk_at "ev"; done)); (focus (walk_at "ev"; done)); (try first | rfl | assumption))
  | ((with_reducible apply ev_ixL); (focus (walk_at "ev"; done)); (focus (walk_at "ev"; done)); (try first | rfl | assumption))
  | ((with_reducible apply ev_call); (focus (walk_at "ev"; done))))
local macro_rules | `(tactic| walk_at "nx") => `(tactic| ((try dsimp only); (try ((with_reducible refine st_next ?_); (try dsimp only))); (try with_reducible refine st_seq ?_)))
section
variable {P : Program} {w : World} {K : PySem.W.Frag} {mg : Str → Option Value} {base : Heap} {f : Addr} {fd : FuncData}
theorem sm_ground {b : Int} (h : b ≤ 1000000000) (h2 : 2 ≤ b) : Sm 30 b := by
  unfold Sm
  show b.natAbs < 1073741824
  omega
theorem pow_p {b : Int} (h : 2 ≤ b) (n : Nat) : 0 < b ^ n := Int.pow_pos (by omega)
theorem least_ok {b s : Int} (hb : b ≤ 1000000000) (h2 : 2 ≤ b) (h0 : 0 ≤ s) (h6 : s ≤ 6) : Sm 400 (b ^ (2 * s).toNat) ∧ Sm 500 (b ^ (2 * s).toNat * b) := by
  have h1 := sm_pow (sm_ground hb h2) (2 * s).toNat
  have hn := nat2 h0 h6
  have : Sm 400 (b ^ (2 * s).toNat) := sm_mono h1 (by omega)
  exact ⟨this, sm_mono (sm_two this (sm_ground hb h2)) (by decide)⟩
theorem up_hide {p : Pw} {a : Addr} {H0 H : Hp} {v : V} {d : D} (hn : H0 a = none) (r : Rl (p.mut a) H0 H) (k : Dp K (vw p H0) v d) : Dp K (vw (p.hide a) H) v d := dp_ex (Ex.trans (vw_behind hn (rl_unmut hn r).ex) vw_m2h) k
theorem ok_law_earth (FR : Free mg) (A : At K mg "_law_earth" s_law_earth P_law_earth f fd) (c1 : Prm P w K mg base CX0 2 "_law_ground" P_law_ground (SpG K Pre0 PostGround)) (c2 : Prm P w K mg base CX0 1 "_law_pick" P_law_pick (SpG K PrePick PostPick)) (c3 : Prm P w K mg base CX0 1 "_law_raised" P_law_raised (SpR K Rraised))
    (c4 : Prm P w K mg base CX0 2 "_law_between" P_law_between (SpG K PreBetween PostBetween)) (c5 : Prm P w K mg base CX0 2 "_law_load" P_law_load (SpG K PreLoad PostLoad)) : Prm P w K mg base CX0 3 "_law_earth" P_law_earth (SpG K PreEarth PostEarth) := by
  refine mk_prmG A sc_law_earth (fun ds ⟨c, ps, hs, w, _, _, _, _, e⟩ => by rw [e]; rfl) (dv_law_earth FR c1 c2 c3 c4 c5) ?_
  rintro p q vs ds H Q hp hw hv ⟨c, ps, hs, wd, L, hps, hhs, hwd, rfl⟩ hq
  obtain ⟨v1, v2, v3, v4, rfl, k1, k2, k3, k4⟩ := dpa4 hv
  have k1' := k1
  unfold netD at k1'
  unfold nums at k2 k3
  unfold qD at k4
  show t_law_earth K _ [some (.ref q.1), some v1, some v2, some v3, some v4, none, none, none, none, none, none, none, none, none, none] H
  unfold t_law_earth
  walk_at "nx"
  refine s_asgP (K := K) (P := fun d => ∃ b : Int, d = .int b ∧ 2 ≤ b ∧ b ≤ 1000000000) ((evp_callG (A := fun ds => ds = []) hp rfl ea_nil fun ds e => e).imp fun d ⟨ds, _, h⟩ => h) hw fun v5 d5 H1 r1 ⟨b, e5, b2, bm⟩ k5 => ?_
  subst e5
  have e5 := dp_int k5
  subst e5
  have sb64 : Sm 64 b := sm_mono (sm_ground bm b2) (by decide)
  walk_at "nx"
  refine s_asgP (evp_pick hp rfl (ev_int (i := (5 : Nat))) (by decide) (by decide)) r1.pi fun v6 d6 H2 r2 ⟨sp, e6, _⟩ k6 => ?_
  subst e6
  have e6 := dp_int k6
  subst e6
  have rA := r1.trans r2
  replace k1' := dp_ex rA.ex k1'
  replace k2 := dp_ex rA.ex k2
  replace k3 := dp_ex rA.ex k3
  replace k4 := dp_ex rA.ex k4
  walk_at "nx"
  refine s_new r2.pi fun a hn r5 r5m => ?_
  walk_at "nx"
  have pG : Wl p H2 := r2.pi
  refine s_forX (K := K) (p1 := p.hide a) (p := p.mut a) (B := fun n => n = c.sws.length) (EvP.imp (P := fun d => d = .int ((c.sws.map swD).length : Int)) (ev_lenT (ev_ixT (ev_var rfl (up_hide hn r5m k1') (Rl.refl (wl_hide r5.pi upd_same))) ev_int rfl)) fun d e => ⟨c.sws.length, by rw [e, List.length_map], rfl⟩) (fun n h => by have := L.s6; omega) (wl_hide r5.pi upd_same) (fun H1 r => rl_h2m r)
    (fun i σ' H' => (∃ a8 a12 a13, σ' = [some (.ref q.1), some v1, some v2, some v3, some v4, some (.int b), some (.int (sp : Int)), some (.ref a), a8, none, none, none, a12, a13, none]) ∧ Rl (p.mut a) H2 H' ∧ ∃ (xs : List V) (fl : List (Int × Int)), H' a = some (.lst xs) ∧ xs.length = i ∧ DpAll K (vw (p.mut a) H') xs (fl.map qD) ∧ fl.length = i ∧ ∀ q, q ∈ fl → QOk q ∧ 0 ≤ q.1) ?_ ?_ ?_
  · intro H6 r6
    exact ⟨⟨_, _, _, rfl⟩, r5m.trans (rl_h2m r6), [], [], r6.keep upd_same (vw_at pG hn).1, rfl, .nil, rfl, fun _ h => nomatch h⟩
  · rintro n rfl H6 r6 i σ' H7 hi r7 ⟨⟨a8, a12, a13, rfl⟩, rG, xs, fl, ea, hl, kx, hl2, hfl⟩
    have wh : Wl (p.hide a) H7 := wl_hide (wl_unmut rG.pi) ea
    have j1 := up_hide hn rG k1'
    have j2 := up_hide hn rG k2
    obtain ⟨sw, hsw⟩ := get_lt hi
    obtain ⟨x, hx⟩ := get_lt (l := ps) (i := i) (by have := hps.1; omega)
    have gs := L.good.sw sw (List.mem_of_getElem? hsw)
    have lo := least_ok bm b2 (by omega : 0 ≤ sw.strength) gs.2
    have lp := pow_p b2 (2 * sw.strength).toNat
    generalize hL : b ^ (2 * sw.strength).toNat = L0 at lo lp
    have mp : 0 < L0 * b := Int.mul_pos lp (by omega)
    walk_at "nx"
    refine s_asg (K := K) (p := p.hide a) (d := .int L0) (ev_call (ds := [.int b, .int (2 * sw.strength)]) (ea_cons (ev_slot rfl fun _ => .int b) (ea_cons (ev_IC (f := fun i j => i * j) (i := 2) (j := sw.strength) ev_int (ev_ixT (ds := [.str sw.kind, .int sw.strength, .int sw.gate, .int sw.left, .int sw.right]) (ev_ixT (ds := c.sws.map swD) (i := (i : Int)) (ev_ixT (by walk_at "ev") ev_int rfl) (ev_slot rfl fun _ => .int _) (at_map hsw)) ev_int rfl) (.inl ⟨by decide, by decide⟩)) ea_nil)) ⟨b, 2 * sw.strength, rfl, by omega, by omega, sb64, by rw [hL]⟩) wh fun v12 H8 r8 k12 => ?_
    have e12 := dp_int k12
    subst e12
    walk_at "nx"
    refine s_asg (K := K) (p := p.hide a) (d := .int (L0 * b)) (ev_IC (f := fun i j => i * j) (i := L0) (j := b) (ev_slot rfl fun _ => .int _) (ev_slot rfl fun _ => .int _) (.inr ⟨by omega, by omega⟩)) r8.pi fun v13 H9 r9 k13 => ?_
    have e13 := dp_int k13
    subst e13
    walk_at "nx"
    have hix : ∀ (σ : L2.St) (H : Hp), σ[2]? = some (some v2) → σ[8]? = some (some (.int (i : Int))) → Rl (p.hide a) H7 H → EvD K (p.hide a) (tOp (rIx K) (tVar 2) (tVar 8)) σ H (.int x) := fun σ H h2 h8 r => ev_ixT (ds := ps.map PyData.int) (i := (i : Int)) (ev_var h2 j2 r) (ev_slot h8 fun _ => .int _) (at_map hx)
    refine s_ifG (p := p.hide a) (fun σ' H' => ∃ l : Int, (l = 0 ∨ l = L0) ∧ σ' = [some (.ref q.1), some v1, some v2, some v3, some v4, some (.int b), some (.int (sp : Int)), some (.ref a), some (.int (i : Int)), none, none, none, some (.int l), some (.int (L0 * b)), none]) (et_test (K := K) (ev_ne (d := .int x) (hix _ _ rfl rfl (r8.trans r9)) ev_int sh_int sh_int)) r9.pi ?_ (fun e H10 r10 kk => ?_) fun e H10 r10 => ⟨L0, .inr rfl, rfl⟩
    · rintro _ H10 r10 ⟨l, hl0, rfl⟩
      walk_at "nx"
      refine s_ifG (p := p.hide a) (fun σ' H' => ∃ m : Int, (m = 0 ∨ m = L0 * b) ∧ σ' = [some (.ref q.1), some v1, some v2, some v3, some v4, some (.int b), some (.int (sp : Int)), some (.ref a), some (.int (i : Int)), none, none, none, some (.int l), some (.int m), none]) (et_test (K := K) (ev_eq (d := .int x) (hix _ _ rfl rfl ((r8.trans r9).trans r10)) ev_int sh_int sh_int)) r10.pi ?_ (fun e H11 r11 kk => ?_) fun e H11 r11 => ⟨L0 * b, .inr rfl, rfl⟩
      · rintro _ H11 r11 ⟨m, hm0, rfl⟩
        walk_at "nx"
        have rh := ((r8.trans r9).trans r10).trans r11
        have ea2 : H11 a = some (.lst xs) := rh.keep ea (vw_at pG hn).1
        have rG2 : Rl (p.mut a) H2 H11 := rG.trans (rl_h2m rh)
        refine s_app (P := fun d => ∃ q : Int × Int, d = qD q ∧ QOk q ∧ 0 ≤ q.1) rfl hn pG rG2 ea2 (by have := L.s6; omega) (dpa_ex (rl_h2m rh).ex kx) (fun w2 => ?_) fun e ys H12 r12 rG3 pe ey hy ky => ?_
        · refine (evp_callG (A := fun ds => ∃ s, ds = [.int l, .int m, .int s]) (show (p.hide a).pl = some q from hp) rfl (eap_imp (ea_cons (ev_slot rfl fun _ => .int l) (ea_cons (ev_slot rfl fun _ => .int m) (ea_cons (ev_intB (ev_orV (ev_eq (d := .int (sp : Int)) (ev_slot rfl fun _ => .int _) (ev_int (i := 1)) sh_int sh_int) fun _ => ev_eq (d := .int (sp : Int)) (ev_slot rfl fun _ => .int _) (ev_int (i := 4)) sh_int sh_int)) ea_nil))) fun ds e => ⟨_, e⟩) ?_).imp ?_
          · rintro ds ⟨s, rfl⟩
            refine ⟨l, m, s, rfl, by omega, by omega, ?_, ?_⟩
            · rcases hl0 with rfl | rfl
              · exact sm_zero (by decide)
              · exact sm_mono lo.1 (by decide)
            · rcases hm0 with rfl | rfl
              · exact sm_zero (by decide)
              · exact lo.2
          · rintro d ⟨ds, _, l', m', s', q', _, rfl, h1, h2, _⟩
            exact ⟨q', rfl, h1, h2⟩
        · obtain ⟨q', rfl, h1, h2⟩ := pe
          refine ⟨(r7.trans (rl_h2m rh)).trans r12, ⟨_, _, _, rfl⟩, rG3, ys, fl ++ [q'], ey, by omega, by rw [← app_map]; exact ky, by rw [List.length_append, hl2]; rfl, fun y hy => ?_⟩
          rcases List.mem_append.mp hy with h | h
          · exact hfl y h
          · have : y = q' := by simpa using h
            rw [this]; exact ⟨h1, h2⟩
      · refine s_asg (K := K) (p := p.hide a) (d := .int 0) ev_int r11.pi fun v14 H12 r12 k14 => ?_
        have e14 := dp_int k14
        subst e14
        exact kk _ _ (r11.trans r12) ⟨0, .inl rfl, rfl⟩
    · refine s_asg (K := K) (p := p.hide a) (d := .int 0) ev_int r10.pi fun v14 H12 r12 k14 => ?_
      have e14 := dp_int k14
      subst e14
      exact kk _ _ (r10.trans r12) ⟨0, .inl rfl, rfl⟩
  rintro n rfl σ' H3 r3 ⟨⟨a8, a12, a13, rfl⟩, rG, xs, fl, ea, hl, kx, fl2, hfl⟩
  have rB : Rl p H2 H3 := rl_unmut hn rG
  have kF : Dp K (vw p H3) (.ref a) (.list (fl.map qD)) := .lst (SqL.of (vw_of (vw_at pG hn) ea)) (dpa_ex vw_unmut kx)
  replace rA := rA.trans rB
  replace k1' := dp_ex rB.ex k1'
  replace k2 := dp_ex rB.ex k2
  replace k3 := dp_ex rB.ex k3
  replace k4 := dp_ex rB.ex k4
  clear rG ea kx hl hn pG r5 r5m r3 r2 r1 xs
  walk_at "nx"
  refine s_new rB.pi fun a' hn r5 r5m => ?_
  walk_at "nx"
  have pG : Wl p H3 := rB.pi
  refine s_forTX (K := K) (p1 := p.hide a') (p := p.mut a') (ds := c.tanks.map tkD) (ev_ixT (ev_var rfl (up_hide hn r5m k1') (Rl.refl (wl_hide r5.pi upd_same))) ev_int rfl) (wl_hide r5.pi upd_same) (fun H1 r => rl_h2m r) (fun H1 => vw_h2m)
    (fun i σ' H' => (∃ a10 a12, σ' = [some (.ref q.1), some v1, some v2, some v3, some v4, some (.int b), some (.int (sp : Int)), some (.ref a), a8, some (.ref a'), a10, none, a12, a13, none]) ∧ Rl (p.mut a') H3 H' ∧ ∃ (xs : List V) (rm : List (Int × Int)), H' a' = some (.lst xs) ∧ xs.length = i ∧ DpAll K (vw (p.mut a') H') xs (rm.map qD) ∧ rm.length = i ∧ ∀ q, q ∈ rm → QOk q ∧ 0 < q.1) ?_ ?_ ?_
  · intro H6 r6
    exact ⟨⟨_, _, rfl⟩, r5m.trans (rl_h2m r6), [], [], r6.keep upd_same (vw_at pG hn).1, rfl, .nil, rfl, fun _ h => nomatch h⟩
  · rintro H6 r6 i x d σ' H7 hd kd r7 ⟨⟨a10, a12, rfl⟩, rG, xs, rm, ea, hl, kx, hl2, hrm⟩
    have wh : Wl (p.hide a') H7 := wl_hide (wl_unmut rG.pi) ea
    obtain ⟨t, ht, rfl⟩ := get_map hd
    have hi := lt_get ht
    have gs := L.good.tk t (List.mem_of_getElem? ht)
    have lo := least_ok bm b2 (by omega : 0 ≤ t.2) (by omega)
    have lp := pow_p b2 (2 * t.2).toNat
    generalize hL : b ^ (2 * t.2).toNat = L0 at lo lp
    have mp : 0 < L0 * b := Int.mul_pos lp (by omega)
    have jx : Dp K (vw (p.hide a') H7) x (.tuple [.str t.1, .int t.2]) := dp_ex vw_m2h kd
    walk_at "nx"
    refine s_asg (K := K) (p := p.hide a') (d := .int L0) (ev_call (ds := [.int b, .int (2 * t.2)]) (ea_cons (ev_slot rfl fun _ => .int b) (ea_cons (ev_IC (f := fun i j => i * j) (i := 2) (j := t.2) ev_int (ev_ixT (ds := [.str t.1, .int t.2]) (ev_var rfl jx (Rl.refl wh)) ev_int rfl) (.inl ⟨by decide, by decide⟩)) ea_nil)) ⟨b, 2 * t.2, rfl, by omega, by omega, sb64, by rw [hL]⟩) wh fun v12 H8 r8 k12 => ?_
    have e12 := dp_int k12
    subst e12
    walk_at "nx"
    have ea2 : H8 a' = some (.lst xs) := r8.keep ea (vw_at pG hn).1
    have rG2 : Rl (p.mut a') H3 H8 := rG.trans (rl_h2m r8)
    refine s_app (P := fun d => ∃ q : Int × Int, d = qD q ∧ QOk q ∧ 0 < q.1) rfl hn pG rG2 ea2 (by have := L.t4; omega) (dpa_ex (rl_h2m r8).ex kx) (fun w2 => ?_) fun e ys H12 r12 rG3 pe ey hy ky => ?_
    · refine (evp_callG (A := fun ds => ∃ s, ds = [.int L0, .int (L0 * b), .int s]) (show (p.hide a').pl = some q from hp) rfl (eap_imp (ea_cons (ev_slot rfl fun _ => .int L0) (ea_cons (ev_IC (f := fun i j => i * j) (i := L0) (j := b) (ev_slot rfl fun _ => .int _) (ev_slot rfl fun _ => .int _) (.inr ⟨by omega, by omega⟩)) (ea_cons (ev_intB (ev_orV (ev_eq (d := .int (sp : Int)) (ev_slot rfl fun _ => .int _) (ev_int (i := 2)) sh_int sh_int) fun _ => ev_eq (d := .int (sp : Int)) (ev_slot rfl fun _ => .int _) (ev_int (i := 4)) sh_int sh_int)) ea_nil))) fun ds e => ⟨_, e⟩) ?_).imp ?_
      · rintro ds ⟨s, rfl⟩
        exact ⟨L0, L0 * b, s, rfl, by omega, by omega, sm_mono lo.1 (by decide), lo.2⟩
      · rintro d ⟨ds, ⟨s, rfl⟩, l', m', s', q', e', rfl, h1, h2, h3⟩
        injection e' with e1 e'
        injection e' with e2 e'
        injection e1 with e1
        injection e2 with e2
        exact ⟨q', rfl, h1, h3 (by omega) (by omega)⟩
    · obtain ⟨q', rfl, h1, h2⟩ := pe
      refine ⟨(r7.trans (rl_h2m r8)).trans r12, ⟨_, _, rfl⟩, rG3, ys, rm ++ [q'], ey, by omega, by rw [← app_map]; exact ky, by rw [List.length_append, hl2]; rfl, fun y hy => ?_⟩
      rcases List.mem_append.mp hy with h | h
      · exact hrm y h
      · have : y = q' := by simpa using h
        rw [this]; exact ⟨h1, h2⟩
  rintro σ' H4 r4 ⟨⟨a10, a12, rfl⟩, rG, xs, rm, ea, hl, kx, rm2, hrm⟩
  rw [List.length_map] at rm2
  replace rB : Rl p H3 H4 := rl_unmut hn rG
  have kR : Dp K (vw p H4) (.ref a') (.list (rm.map qD)) := .lst (SqL.of (vw_of (vw_at pG hn) ea)) (dpa_ex vw_unmut kx)
  replace rA := rA.trans rB
  replace k1' := dp_ex rB.ex k1'
  replace k2 := dp_ex rB.ex k2
  replace k3 := dp_ex rB.ex k3
  replace k4 := dp_ex rB.ex k4
  replace kF := dp_ex rB.ex kF
  clear rG ea kx hl hn pG r5 r5m r4 xs
  walk_at "nx"
  refine s_new rB.pi fun a2 hn r5 r5m => ?_
  walk_at "nx"
  have pG : Wl p H4 := rB.pi
  have hn1000 := L.good.small
  refine s_forX (K := K) (p1 := p.hide a2) (p := p.mut a2) (B := fun n => n = c.n) (EvP.imp (P := fun d => d = .int ((hs.map PyData.int).length : Int)) (ev_lenT (ev_var rfl (up_hide hn r5m k3) (Rl.refl (wl_hide r5.pi upd_same)))) fun d e => ⟨c.n, by rw [e, List.length_map, hhs.1], rfl⟩) (fun n h => by omega) (wl_hide r5.pi upd_same) (fun H1 r => rl_h2m r)
    (fun i σ' H' => (∃ a8 a14, σ' = [some (.ref q.1), some v1, some v2, some v3, some v4, some (.int b), some (.int (sp : Int)), some (.ref a), a8, some (.ref a'), a10, some (.ref a2), a12, a13, a14]) ∧ Rl (p.mut a2) H4 H' ∧ ∃ (xs : List V) (ch : List (Int × Int)), H' a2 = some (.lst xs) ∧ xs.length = i ∧ DpAll K (vw (p.mut a2) H') xs (ch.map qD) ∧ ch.length = i ∧ ∀ q, q ∈ ch → QOk q ∧ 0 ≤ q.1 ∧ q.1 ≤ q.2) ?_ ?_ ?_
  · intro H6 r6
    exact ⟨⟨_, _, rfl⟩, r5m.trans (rl_h2m r6), [], [], r6.keep upd_same (vw_at pG hn).1, rfl, .nil, rfl, fun _ h => nomatch h⟩
  · rintro n rfl H6 r6 i σ' H7 hi r7 ⟨⟨a8, a14, rfl⟩, rG, xs, ch, ea, hl, kx, hl2, hch⟩
    have wh : Wl (p.hide a2) H7 := wl_hide (wl_unmut rG.pi) ea
    have j1 := up_hide hn rG k1'
    have j3 := up_hide hn rG k3
    have j4 := up_hide hn rG k4
    obtain ⟨h, hh⟩ := get_lt (l := hs) (i := i) (by have := hhs.1; omega)
    walk_at "nx"
    refine s_asg (K := K) (p := p.hide a2) (d := qD (0, 1)) (ev_tup (ds := [.int 0, .int 1]) (ea_cons ev_int (ea_cons ev_int ea_nil)) (by simp)) wh fun v14 H8 r8 k14 => ?_
    walk_at "nx"
    refine s_ifGA (p := p.hide a2) (fun σ' H' => ∃ v14 o, σ' = [some (.ref q.1), some v1, some v2, some v3, some v4, some (.int b), some (.int (sp : Int)), some (.ref a), some (.int (i : Int)), some (.ref a'), a10, some (.ref a2), a12, a13, some v14] ∧ Dp K (vw (p.hide a2) H') v14 (qD o) ∧ WideOk o) (eta_or (eta_of (et_test (K := K) (ev_B0 (f := fun i j => decide (j ≤ i)) (i := (i : Int)) (j := ((c.feeds.map PyData.str).length : Int)) (ev_slot rfl fun _ => .int _) (ev_lenT (ev_ixT (by walk_at "ev") ev_int rfl))))) (eta_and (eta_test ((evp_eqI ((evp_pick (show (p.hide a2).pl = some q from hp) rfl (ev_int (i := (6 : Nat))) (by decide) (by decide)).imp fun d => pick_lt) ev_int).imp fun d ⟨i, e, _⟩ => ⟨_, e⟩)) (eta_of (et_test (K := K) (ev_B0 (f := fun i j => decide (j < i)) (i := (sp : Int)) (j := 2) (ev_slot rfl fun _ => .int _) ev_int))))) r8.pi ?_ (fun H9 r9 kk => ?_) fun H9 r9 => ⟨v14, (0, 1), rfl, dp_ex r9.ex k14, qok (by decide) (by decide) (by decide) (by decide), sm_zero (by decide), sm_one (by decide), by decide⟩
    · clear k14
      rintro _ H9 r9 ⟨v14, o, rfl, k14, ho⟩
      walk_at "nx"
      have rh := r8.trans r9
      have ea2 : H9 a2 = some (.lst xs) := rh.keep ea (vw_at pG hn).1
      have rG2 : Rl (p.mut a2) H4 H9 := rG.trans (rl_h2m rh)
      refine s_app (P := fun d => ∃ q : Int × Int, d = qD q ∧ QOk q ∧ 0 ≤ q.1 ∧ q.1 ≤ q.2) rfl hn pG rG2 ea2 (by omega) (dpa_ex (rl_h2m rh).ex kx) (fun w2 => ?_) fun e ys H12 r12 rG3 pe ey hy ky => ?_
      · refine (evp_callG (A := fun ds => ∃ s, ds = [.int h, qD o, .int s]) (show (p.hide a2).pl = some q from hp) rfl (eap_imp (ea_cons (ev_ixT (ds := hs.map PyData.int) (i := (i : Int)) (ev_var rfl j3 rh) (ev_slot rfl fun _ => .int _) (at_map hh)) (ea_cons (ev_var rfl k14 (Rl.refl w2)) (ea_cons (ev_intB (ev_andV (ev_B0 (f := fun i j => decide (j < i)) (i := (sp : Int)) (j := 2) (ev_slot rfl fun _ => .int _) ev_int) fun _ => ev_B0 (f := fun i j => decide (j < i)) (i := (i : Int)) (ev_slot rfl fun _ => .int _) (ev_I0 (f := fun i j => i - j) ev_int (ev_intB (ev_eq (d := .int (sp : Int)) (ev_slot rfl fun _ => .int _) (ev_int (i := 4)) sh_int sh_int))))) ea_nil))) fun ds e => ⟨_, e⟩) ?_).imp ?_
        · rintro ds ⟨s, rfl⟩
          exact ⟨h, s, o, rfl, ho⟩
        · rintro d ⟨ds, _, q', h1⟩
          exact ⟨q', h1⟩
      · obtain ⟨q', rfl, h1⟩ := pe
        refine ⟨(r7.trans (rl_h2m rh)).trans r12, ⟨_, _, rfl⟩, rG3, ys, ch ++ [q'], ey, by omega, by rw [← app_map]; exact ky, by rw [List.length_append, hl2]; rfl, fun y hy => ?_⟩
        rcases List.mem_append.mp hy with h | h
        · exact hch y h
        · have : y = q' := by simpa using h
          rw [this]; exact h1
    · refine s_asg (K := K) (p := p.hide a2) (d := qD wd) (ev_var rfl j4 (r8.trans r9)) r9.pi fun v15 H10 r10 k15 => ?_
      exact kk _ _ (r9.trans r10) ⟨v15, wd, rfl, k15, hwd⟩
  rintro n rfl σ' H5 r5' ⟨⟨a8', a14, rfl⟩, rG, xs, ch, ea, hl, kx, ch2, hch⟩
  replace rB : Rl p H4 H5 := rl_unmut hn rG
  have kC : Dp K (vw p H5) (.ref a2) (.list (ch.map qD)) := .lst (SqL.of (vw_of (vw_at pG hn) ea)) (dpa_ex vw_unmut kx)
  replace kF := dp_ex rB.ex kF
  replace kR := dp_ex rB.ex kR
  walk_at "nx"
  refine s_retP (P := fun d => d = wdD b fl rm ch) (ev_tup (ds := [.int b, .tuple (fl.map qD), .tuple (rm.map qD), .tuple (ch.map qD)]) (ea_cons (ev_slot rfl fun _ => .int b) (ea_cons (ev_tuple (ev_var rfl kF (Rl.refl rB.pi))) (ea_cons (ev_tuple (ev_var rfl kR (Rl.refl rB.pi))) (ea_cons (ev_tuple (ev_var rfl kC (Rl.refl rB.pi))) ea_nil)))) (by simp)) rB.pi fun v d H6 r6 e kd => hq v d H6 (rA.trans (rB.trans r6)) ⟨c, _, _, _, b, fl, rm, ch, rfl, ⟨b2, bm, fl2, rm2, ch2, hfl, hrm, hch⟩, e⟩ kd
end

end Ky
set_option Elab.async false
set_option linter.all false
set_option maxRecDepth 4000
set_option maxHeartbeats 4000000
namespace Ky
open PySem PySem.Spec PyProof.Rows L2
local macro_rules | `(tactic| walk_at "rl") => `(tactic| first | assumption | exact Rl.refl pi0 | exact Rl.refl (by assumption) | exact Rl.refl (Rl.pi (by assumption)) | (refine Rl.trans (by assumption) ?_; walk_at "rl"))
local macro_rules | `(tactic| walk_at "ev") => `(tactic| first
  | with_reducible exact ev_int | with_reducible exact ev_bl | with_reducible exact ev_str | with_reducible exact ev_non
  | ((with_reducible apply ev_var); (focus exact rfl); (focus assumption); (focus walk_at "rl"))
  | ((with_reducible apply ev_slot); (focus exact rfl); (focus first | exact fun _ => Dp.int _ | exact fun _ => Dp.bl _ | exact fun _ => Dp.str _ | exact fun _ => Dp.non))
  | with_reducible exact ea_nil | with_reducible exact eo_none | with_reducible exact et_yes
  | with_reducible exact sh_int | with_reducible exact sh_bool | with_reducible exact sh_non
  | ((with_reducible apply ea_cons) <;> try walk_at "ev")
  | ((with_reducible apply ev_I0) <;> try walk_at "ev")
  | ((with_reducible apply ev_B0) <;> try walk_at "ev")
  | ((with_reducible apply ev_IC) <;> try walk_at "ev")
  | ((with_reducible apply ev_neg) <;> try walk_at "ev")
  | ((with_reducible apply ev_chain) <;> try walk_at "ev")
  | ((with_reducible apply ev_isTup) <;> try walk_at "ev")
  | ((with_reducible apply ev_isInt) <;> try walk_at "ev")
  | ((with_reducible apply ev_isBool) <;> try walk_at "ev")
  | ((with_reducible apply ev_isStr) <;> try walk_at "ev")
  | ((with_reducible apply ev_isLst) <;> try walk_at "ev")
  | ((with_reducible apply ev_isN) <;> try walk_at "ev")
  | ((with_reducible apply ev_notN) <;> try walk_at "ev")
  | ((with_reducible apply ev_notB) <;> try walk_at "ev")
  | ((with_reducible apply ev_eq) <;> try walk_at "ev")
  | ((with_reducible apply ev_ne) <;> try walk_at "ev")
  | ((with_reducible apply ev_abs) <;> try walk_at "ev")
  | ((with_reducible apply ev_max) <;> try walk_at "ev")
  | ((with_reducible apply ev_bits) <;> try walk_at "ev")
  | ((with_reducible apply ev_gcd) <;> try walk_at "ev")
  | ((with_reducible apply ev_list) <;> try walk_at "ev")
  | ((with_reducible apply ev_tuple) <;> try walk_at "ev")
  | ((with_reducible apply ev_tup) <;> try walk_at "ev")
  | ((with_reducible apply ev_lst) <;> try walk_at "ev")
  | ((with_reducible apply ev_catT) <;> try walk_at "ev")
  | ((with_reducible apply ev_slice) <;> try walk_at "ev")
  | ((with_reducible apply eo_some) <;> try walk_at "ev")
  | ((with_reducible apply ev_notV) <;> try walk_at "ev")
  | ((with_reducible apply et_test) <;> try walk_at "ev")
  | ((with_reducible apply et_B) <;> try walk_at "ev")
  | ((with_reducible apply et_not) <;> try walk_at "ev")
  | ((with_reducible apply ev_lenT); (focus (walk_at "ev"; done)))
  | ((with_reducible apply ev_lenL); (focus (walk_at "ev"; done)))
  | ((with_reducible apply ev_intI); (focus (walk_at "ev"; done)))
  | ((with_reducible apply ev_intB); (focus (walk_at "ev"; done)))
  | ((with_reducible apply ev_ixT); (focus (walk_at "ev"; done)); (focus (walk_at "ev"; done)); (try first | rfl | assumption))
  | ((with_reducible apply ev_ixL); (focus (walk_at "ev"; done)); (focus (walk_at "ev"; done)); (try first | rfl | assumption))
  | ((with_reducible apply ev_call); (focus (walk_at "ev"; done))))
local macro_rules | `(tactic| walk_at "nx") => `(tactic| ((try dsimp only); (try ((with_reducible refine st_next ?_); (try dsimp only))); (try with_reducible refine st_seq ?_)))
section
variable {P : Program} {w : World} {K : PySem.W.Frag} {mg : Str → Option Value} {base : Heap} {f : Addr} {fd : FuncData} {p : Pw} {σ : L2.St} {H : Hp} {ta te : TE}
theorem bi_int {i : Int} (h : i.natAbs < 1048576 := by decide) : EvP K p (tC (.int i)) σ H BdI := ev_int.imp fun d e => by
  rw [e]
  exact ⟨.int (sm_lit h (by decide)), fun j e => by cases e; exact sm_lit h (by decide)⟩
theorem bi_neg {i : Int} (h : i.natAbs < 1048576 := by decide) : EvP K p (tUn (rU fun i => .int (-i)) (tC (.int i))) σ H BdI := (ev_neg ev_int).imp fun d e => by
  rw [e]
  exact ⟨.int (sm_lit (by omega) (by decide)), fun j e => by cases e; exact sm_lit (by omega) (by decide)⟩
theorem bi_bl {b : Bool} : EvP K p (tC (.bl b)) σ H BdI := ev_bl.imp fun d e => by rw [e]; exact ⟨.bl b, fun j e => nomatch e⟩
theorem bi_non : EvP K p (tC .non) σ H BdI := ev_non.imp fun d e => by rw [e]; exact ⟨.non, fun j e => nomatch e⟩
theorem bi_str {x : Str} (h : PySem.PyData.strOk x = true := by decide +kernel) : EvP K p (tC (.str x)) σ H BdI := ev_str.imp fun d e => by rw [e]; exact ⟨.str h, fun j e => nomatch e⟩
theorem bdi_tup {ds : List D} (h : ∀ d, d ∈ ds → BdI d) (l : ds.length ≤ 1000) : BdI (.tuple ds) := ⟨.tup (fun d m => (h d m).1) l, fun j e => nomatch e⟩
theorem bdi_lst {ds : List D} (h : ∀ d, d ∈ ds → BdI d) (l : ds.length ≤ 1000) : BdI (.list ds) := ⟨.lst (fun d m => (h d m).1) l, fun j e => nomatch e⟩
theorem bdw_tup {ds : List D} (h : ∀ d, d ∈ ds → BdI d) (l : ds.length ≤ 1000) : BdW (.tuple ds) := ⟨(bdi_tup h l).1, fun b r e => by cases e; exact (h _ List.mem_cons_self).2 b rfl⟩
theorem bi_tup {tr : TA} {n : Nat} (h : EvAP K p tr σ H (fun ds => ds.length = n ∧ ∀ d, d ∈ ds → BdI d)) (hn : n ≤ 1000 := by decide) : EvP K p (tTup tr) σ H BdI :=
  (evp_tup h fun ds e => by omega).imp fun d ⟨ds, e, h1, h2⟩ => by rw [e]; exact bdi_tup h2 (by omega)
theorem bi_lst {tr : TA} {n : Nat} (h : EvAP K p tr σ H (fun ds => ds.length = n ∧ ∀ d, d ∈ ds → BdI d)) (hn : n ≤ 1000 := by decide) : EvP K p (tLst tr) σ H BdI :=
  (evp_lst h fun ds e => by omega).imp fun d ⟨ds, e, h1, h2⟩ => by rw [e]; exact bdi_lst h2 (by omega)
theorem bi1 {n : Nat} {tr : TA} (a : EvP K p ta σ H BdI) (h : EvAP K p tr σ H (fun ds => ds.length = n ∧ ∀ d, d ∈ ds → BdI d)) : EvAP K p (tCons ta tr) σ H (fun ds => ds.length = n + 1 ∧ ∀ d, d ∈ ds → BdI d) := eall_cons a h
/-- a pair of constants -/
theorem bi_p {i j : Int} (h : i.natAbs < 1048576 := by decide) (h' : j.natAbs < 1048576 := by decide) : EvP K p (tTup (tCons (tC (.int i)) (tCons (tC (.int j)) tNil))) σ H BdI := bi_tup (bi1 (bi_int h) (bi1 (bi_int h') eall_nil))
theorem cut_mem {ds : List D} {lo hi : Option Int} {d : D} (h : d ∈ cutD ds lo hi) : d ∈ ds := List.mem_of_mem_drop (List.mem_of_mem_take h)
theorem cut_len {ds : List D} {lo hi : Option Int} : (cutD ds lo hi).length ≤ ds.length := by
  unfold cutD
  rw [List.length_take, List.length_drop]
  omega
theorem Bd.i {d : D} (h : Bd d) (n : ∀ i, d ≠ .int i) : BdI d := ⟨h, fun i e => absurd e (n i)⟩
/-- t[:i] + (x,) + t[j:] -/
theorem evp_put {es : List D} {ti tx : TE} {tj : TO} {i : Int} {lo : Option Int} (h : EvD K p ta σ H (.tuple es)) (hi : EvD K p ti σ H (.int i)) (hx : EvP K p tx σ H BdI) (hj : EvO p tj σ H fun o => o = lo) (he : ∀ d, d ∈ es → BdI d) (hl : es.length ≤ 20) :
    EvP K p (tOp (rCatA K) (tOp (rCatA K) (tSl (rSlA K) ta tNoPart (tPart ti)) (tTup (tCons tx tNil))) (tSl (rSlA K) ta tj tNoPart)) σ H fun d => ∃ ds, d = .tuple ds ∧ ds.length ≤ 50 ∧ ∀ d, d ∈ ds → BdI d := by
  have c1 := cut_len (ds := es) (lo := none) (hi := some i)
  have c2 := cut_len (ds := es) (lo := lo) (hi := none)
  refine (evp_catT (A := fun ds => ds.length ≤ 21 ∧ ∀ d, d ∈ ds → BdI d) (B := fun ds => ds.length ≤ 20 ∧ ∀ d, d ∈ ds → BdI d) ((evp_catT (A := fun ds => ds = cutD es none (some i)) (B := fun ds => ∃ d r, ds = d :: r ∧ BdI d ∧ r = []) ((ev_slice h eo_none (eo_some hi)).imp fun d e => ⟨_, e, rfl⟩) (evp_tup (eap_cons hx eap_nil) ?_) ?_).imp ?_) ((ev_slice h hj eo_none).imp fun d e => ⟨_, e, by omega, fun d m => he d (cut_mem m)⟩) ?_).imp ?_
  · rintro ds ⟨d, r, rfl, _, rfl⟩
    simp
  · rintro ds fs rfl ⟨d, r, rfl, _, rfl⟩
    show _ + 1 ≤ _
    omega
  · rintro d ⟨ds, fs, rfl, rfl, d, r, rfl, hb, rfl⟩
    refine ⟨_, rfl, by rw [List.length_append]; show _ + 1 ≤ _; omega, fun z hz => ?_⟩
    rcases List.mem_append.mp hz with h | h
    · exact he z (cut_mem h)
    · have : z = d := by simpa using h
      rw [this]; exact hb
  · rintro ds fs ⟨h1, _⟩ ⟨h2, _⟩
    omega
  · rintro d ⟨ds, fs, rfl, ⟨h1, h2⟩, h3, h4⟩
    refine ⟨_, rfl, by rw [List.length_append]; omega, fun z hz => ?_⟩
    rcases List.mem_append.mp hz with h | h
    · exact h2 z h
    · exact h4 z h
theorem ok_law_bent_row (FR : Free mg) (A : At K mg "_law_bent_row" s_law_bent_row P_law_bent_row f fd) (c1 : Prm P w K mg base CX0 1 "_law_pick" P_law_pick (SpG K PrePick PostPick)) : Prm P w K mg base CX0 2 "_law_bent_row" P_law_bent_row (SpG K PreRow PostRow) := by
  refine mk_prmG A sc_law_bent_row (fun ds ⟨es, e, _⟩ => by rw [e]; rfl) (dv_law_bent_row FR c1) ?_
  rintro p q vs ds H Q hp hw hv ⟨es, rfl, ie, le⟩ hq
  obtain ⟨v1, rfl, k1⟩ := dpa1 hv
  have hq' : ∀ v d H', Rl p H H' → BdI d → Dp K (vw p H') v d → Q v H' := hq
  show t_law_bent_row K _ [some (.ref q.1), some v1, none, none, none, none] H
  unfold t_law_bent_row
  walk_at "nx"
  refine s_asgP (K := K) (P := fun d => ∃ ds, d = .tuple ds ∧ ds.length = 13 ∧ ∀ d, d ∈ ds → BdI d) (evp_tup (bi1 (bi_tup (bi1 bi_neg (bi1 bi_int eall_nil))) (bi1 bi_p (bi1 bi_p (bi1 bi_p (bi1 bi_p (bi1 (bi_tup (bi1 bi_int (bi1 bi_neg eall_nil))) (bi1 bi_bl (bi1 bi_int (bi1 bi_non (bi1 bi_str (bi1 (bi_lst (bi1 bi_int (bi1 bi_int eall_nil))) (bi1 (bi_tup (bi1 bi_int eall_nil)) (bi1 (bi_tup (bi1 bi_int (bi1 bi_int (bi1 bi_int eall_nil)))) eall_nil))))))))))))) fun ds h => by omega) hw fun v2 d2 H1 r1 ⟨ds, e2, l2, h2⟩ k2 => ?_
  subst e2
  walk_at "nx"
  refine s_asgP (K := K) (P := fun d => ∃ ds, d = .tuple ds ∧ ds.length = 20 ∧ ∀ d, d ∈ ds → BdI d) ((evp_catT (A := fun es => es = ds) (B := fun ds => ds.length = 7 ∧ ∀ d, d ∈ ds → BdI d) (EvP.imp (P := fun d => d = .tuple ds) (by walk_at "ev") fun d e => ⟨_, e, rfl⟩) (evp_tup (bi1 (bi_tup (bi1 bi_bl (bi1 bi_int eall_nil))) (bi1 (bi_tup (bi1 bi_int (bi1 bi_bl eall_nil))) (bi1 bi_p (bi1 bi_p (bi1 bi_p (bi1 (bi_tup (bi1 bi_int (bi1 bi_bl eall_nil))) (bi1 (bi_tup (bi1 bi_p (bi1 bi_int eall_nil))) eall_nil))))))) fun ds h => by omega) fun ds es h1 h2 => by rw [h1]; omega).imp ?_) r1.pi fun v3 d3 H2 r2 ⟨ds', e3, l3, h3⟩ k3 => ?_
  · rintro d ⟨_, fs, rfl, rfl, h4, h5⟩
    refine ⟨_, rfl, by rw [List.length_append]; omega, fun z hz => ?_⟩
    rcases List.mem_append.mp hz with h | h
    · exact h2 z h
    · exact h5 z h
  subst e3
  walk_at "nx"
  refine s_asgP (K := K) (P := BdI) ((evp_ixT (ds := ds') (by walk_at "ev") (evp_pick (n := ds'.length) hp rfl (ev_lenT (by walk_at "ev")) (by omega) (by omega))).imp h3) r2.pi fun v4 d4 H3 r3 h4 k4 => ?_
  walk_at "nx"
  refine s_ifGA (fun σ' H' => ∃ v4 d4, σ' = [some (.ref q.1), some v1, some v3, some v4, none, none] ∧ Dp K (vw p H') v4 d4 ∧ BdI d4) (eta_test ((evp_eqI ((evp_pick hp rfl (ev_int (i := (2 : Nat))) (by decide) (by decide)).imp fun d => pick_lt) ev_int).imp fun d ⟨i, e, _⟩ => ⟨_, e⟩)) r3.pi ?_ (fun H4 r4 kk => ?_) fun H4 r4 => ⟨v4, d4, rfl, dp_ex r4.ex k4, h4⟩
  · clear k4 h4
    rintro _ H4 r4 ⟨v4, d4, rfl, k4, h4⟩
    walk_at "nx"
    refine s_asgP (evp_pick hp rfl (ev_int (i := (8 : Nat))) (by decide) (by decide)) r4.pi fun v5 d5 H5 r5 ⟨j, e5, _⟩ k5 => ?_
    subst e5
    have e5 := dp_int k5
    subst e5
    have rA := ((r1.trans r2).trans (r3.trans r4)).trans r5
    walk_at "nx"
    refine s_if (et_test (K := K) (ev_eq (d := .int (j : Int)) (ev_slot rfl fun _ => .int _) ev_int sh_int sh_int)) rA.pi (fun e H6 r6 => ?_) fun e H6 r6 => ?_
    · refine s_retP (P := BdI) ((ev_list (ds := es) (by walk_at "ev")).imp fun d e => by rw [e]; exact bdi_lst ie (by omega)) r6.pi fun v d H7 r7 pd kd => hq' v d H7 ((rA.trans r6).trans r7) pd kd
    walk_at "nx"
    refine s_if (et_test (K := K) (ev_eq (d := .int (j : Int)) (ev_slot rfl fun _ => .int _) ev_int sh_int sh_int)) r6.pi (fun e H7 r7 => ?_) fun e H7 r7 => ?_
    · refine s_retP (P := BdI) ((ev_slice (ds := es) (by walk_at "ev") eo_none (eo_some (K := K) (ev_max (i := 0) ev_int (ev_I0 (f := fun i j => i - j) (i := (es.length : Int)) (j := 1) (ev_lenT (by walk_at "ev")) ev_int)))).imp fun d e => by
        rw [e]
        exact bdi_tup (fun d m => ie d (cut_mem m)) (by have := cut_len (ds := es) (lo := none) (hi := some (if (es.length : Int) - 1 > 0 then (es.length : Int) - 1 else 0)); omega)) r7.pi fun v d H8 r8 pd kd => hq' v d H8 (((rA.trans r6).trans r7).trans r8) pd kd
    walk_at "nx"
    refine s_if (et_or (et_test (K := K) (ev_eq (d := .int (j : Int)) (e := .int 2) (ev_slot rfl fun _ => .int _) ev_int sh_int sh_int)) fun _ => et_test (K := K) (ev_eq (d := .int (es.length : Int)) (e := .int 0) (ev_lenT (by walk_at "ev")) ev_int sh_int sh_int)) r7.pi (fun e H8 r8 => ?_) fun e H8 r8 => ?_
    · refine s_retP (P := BdI) ((evp_catT (A := fun ds => ds = es) (B := fun ds => ∃ d r, ds = d :: r ∧ BdI d ∧ r = []) (EvP.imp (P := fun d => d = .tuple es) (by walk_at "ev") fun d e => ⟨_, e, rfl⟩) (evp_tup (eap_cons ((ev_var rfl k4 (((r5.trans r6).trans r7).trans r8)).imp fun d e => by rw [e]; exact h4) eap_nil) ?_) ?_).imp ?_) r8.pi fun v d H9 r9 pd kd => hq' v d H9 (((rA.trans r6).trans (r7.trans r8)).trans r9) pd kd
      · rintro ds ⟨d, r, rfl, _, rfl⟩
        simp
      · rintro ds fs rfl ⟨d, r, rfl, _, rfl⟩
        show _ + 1 ≤ _
        omega
      · rintro d ⟨ds, fs, rfl, rfl, d, r, rfl, hb, rfl⟩
        refine bdi_tup (fun z hz => ?_) (by rw [List.length_append]; show _ + 1 ≤ _; omega)
        rcases List.mem_append.mp hz with h | h
        · exact ie z h
        · have : z = d := by simpa using h
          rw [this]; exact hb
    have l0 : es.length ≠ 0 := by
      intro z
      rw [eqv_int, eqv_int, z] at e
      simp at e
    walk_at "nx"
    refine s_asgP (K := K) (evp_pick (n := es.length) hp rfl (ev_lenT (by walk_at "ev")) (by omega) (by omega)) r8.pi fun v6 d6 H9 r9 ⟨g, e6, _⟩ k6 => ?_
    subst e6
    have e6 := dp_int k6
    subst e6
    walk_at "nx"
    refine s_retP (P := BdI) ((evp_put (es := es) (i := (g : Int)) (lo := some ((g : Int) + 1)) (by walk_at "ev") (ev_slot rfl fun _ => .int _) ((ev_var rfl k4 ((((r5.trans r6).trans r7).trans r8).trans r9)).imp fun d e => by rw [e]; exact h4) (eo_some (K := K) (ev_I0 (f := fun i j => i + j) (ev_slot rfl fun _ => .int _) ev_int)) ie le).imp fun d ⟨ds, e, h1, h2⟩ => by rw [e]; exact bdi_tup h2 (by omega)) r9.pi fun v d H10 r10 pd kd => hq' v d H10 (((rA.trans r6).trans (r7.trans r8)).trans (r9.trans r10)) pd kd
  · refine s_asgP (K := K) (P := BdI) (evp_choice (n := 6) (bi1 (bi_tup (bi1 bi_neg (bi1 bi_int eall_nil))) (bi1 bi_p (bi1 bi_p (bi1 (bi_tup (bi1 bi_neg (bi1 bi_int eall_nil))) (bi1 bi_p (bi1 bi_p eall_nil)))))) (by decide) (evp_pick hp rfl (ev_int (i := (6 : Nat))) (by decide) (by decide))) r4.pi fun v5 d5 H5 r5 h5 k5 => ?_
    exact kk _ _ (r4.trans r5) ⟨v5, d5, rfl, k5, h5⟩
theorem qbd {q : Int × Int} (h : QOk q) : BdI (qD q) := ⟨.tup (fun d m => by
  rcases List.mem_cons.mp m with e | m
  · rw [e]; exact .int (sm_mono h.sm1 (by decide))
  · rcases List.mem_cons.mp m with e | m
    · rw [e]; exact .int (sm_mono h.sm2 (by decide))
    · cases m) (by simp), fun j e => nomatch e⟩
theorem rowbd {l : List (Int × Int)} (h : ∀ q, q ∈ l → QOk q) : ∀ d, d ∈ l.map qD → BdI d := fun d m => by
  obtain ⟨q, hq, rfl⟩ := List.mem_map.mp m
  exact qbd (h q hq)
theorem qsbd {l : List (Int × Int)} (h : ∀ q, q ∈ l → QOk q) (hl : l.length ≤ 20) : BdI (qs l) := bdi_tup (rowbd h) (by rw [List.length_map]; omega)
structure RowsOk (b : Int) (fl rm ch : List (Int × Int)) : Prop where
  b2 : 2 ≤ b
  bm : b ≤ 1000000000
  lf : fl.length ≤ 20
  lr : rm.length ≤ 20
  lc : ch.length ≤ 20
  f : ∀ q, q ∈ fl → QOk q
  r : ∀ q, q ∈ rm → QOk q
  c : ∀ q, q ∈ ch → QOk q
theorem WorldOk.rows {c : Net} {b : Int} {fl rm ch : List (Int × Int)} (L : c.Law) (h : WorldOk c b fl rm ch) : RowsOk b fl rm ch := ⟨h.b2, h.bm, by have := h.nf; have := L.s6; omega, by have := h.nr; have := L.t4; omega, by have := h.nc; have := L.t4; have := L.f4; unfold Net.n at this; have : c.n = c.feeds.length + c.tanks.length := rfl; omega, fun q m => (h.f q m).1, fun q m => (h.r q m).1, fun q m => (h.q q m).1⟩
theorem RowsOk.bd {b : Int} {fl rm ch : List (Int × Int)} (h : RowsOk b fl rm ch) : ∀ d, d ∈ [PyData.int b, qs fl, qs rm, qs ch] → BdI d := fun d m => by
  have hb := h.b2
  have hb' := h.bm
  rcases List.mem_cons.mp m with e | m
  · rw [e]
    have : Sm 30 b := sm_ground hb' hb
    exact ⟨.int (sm_mono this (by decide)), fun j e => by cases e; exact sm_mono this (by decide)⟩
  · rcases List.mem_cons.mp m with e | m
    · rw [e]; exact qsbd h.f h.lf
    · rcases List.mem_cons.mp m with e | m
      · rw [e]; exact qsbd h.r h.lr
      · rcases List.mem_cons.mp m with e | m
        · rw [e]; exact qsbd h.c h.lc
        · cases m
theorem bdi_w {d : D} (h : BdI d) (n : ∀ ds, d ≠ .tuple ds) : BdW d := ⟨h.1, fun b r e => absurd e (n _)⟩
theorem ok_law_bent (FR : Free mg) (A : At K mg "_law_bent" s_law_bent P_law_bent f fd) (c1 : Prm P w K mg base CX0 1 "_law_pick" P_law_pick (SpG K PrePick PostPick)) (c2 : Prm P w K mg base CX0 2 "_law_bent_row" P_law_bent_row (SpG K PreRow PostRow)) : Prm P w K mg base CX0 3 "_law_bent" P_law_bent (SpG K PreBent PostBent) := by
  refine mk_prmG A sc_law_bent (fun ds ⟨c, b, fl, rm, ch, _, _, e⟩ => by rw [e]; rfl) (dv_law_bent FR c1 c2) ?_
  rintro p q vs ds H Q hp hw hv ⟨c, b, fl, rm, ch, L, W, rfl⟩ hq
  obtain ⟨v1, rfl, k1⟩ := dpa1 hv
  have hq' : ∀ v d H', Rl p H H' → BdW d → Dp K (vw p H') v d → Q v H' := hq
  have R := W.rows L
  have ie := R.bd
  unfold wdD at k1
  show t_law_bent K _ [some (.ref q.1), some v1, none, none, none] H
  unfold t_law_bent
  walk_at "nx"
  refine s_asgP (evp_pick hp rfl (ev_int (i := (12 : Nat))) (by decide) (by decide)) hw fun v5 d5 H1 r1 ⟨j, e5, hj⟩ k5 => ?_
  subst e5
  have e5 := dp_int k5
  subst e5
  have hcut : ∀ {σ : L2.St} {H' : Hp} {lo hi : Option Int} {tl th : TO}, σ[1]? = some (some v1) → Rl p H H' → EvO p tl σ H' (fun o => o = lo) → EvO p th σ H' (fun o => o = hi) → EvP K p (tSl (rSlA K) (tVar 1) tl th) σ H' fun d => ∃ ds, d = .tuple ds ∧ ds.length ≤ 4 ∧ ∀ d, d ∈ ds → BdI d := fun {σ H' lo hi tl th} h1 r hl hh =>
    (ev_slice (ds := [.int b, qs fl, qs rm, qs ch]) (ev_var h1 k1 r) hl hh).imp fun d e => ⟨_, e, cut_len, fun d m => ie d (cut_mem m)⟩
  walk_at "nx"
  refine s_if (b := decide ((j : Int) < 6)) (et_test (K := K) (ev_B0 (f := fun i j => decide (i < j)) (ev_slot rfl fun _ => .int _) ev_int)) r1.pi (fun e H2 r2 => ?_) fun e H2 r2 => ?_
  · walk_at "nx"
    obtain ⟨g, hg, hg3⟩ : ∃ g : Nat, (1 : Int) + (j : Int).fmod 3 = (g : Int) ∧ 1 ≤ g ∧ g ≤ 3 := ⟨1 + j % 3, by rw [show ((3 : Int)) = ((3 : Nat) : Int) from rfl, fmod_nat]; omega, by omega, by omega⟩
    refine s_asg (K := K) (d := .int (g : Int)) (ev_is (ev_I0 (f := fun i j => i + j) (i := 1) (j := (j : Int).fmod 3) ev_int (ev_IC (f := fun i j => i.fmod j) (i := (j : Int)) (j := 3) (ev_intI (ev_slot rfl fun _ => .int _)) ev_int (by decide))) (by rw [hg])) r2.pi fun v6 H3 r3 k6 => ?_
    have e6 := dp_int k6
    subst e6
    walk_at "nx"
    have hrow : ∃ row : List (Int × Int), atI [PyData.int b, qs fl, qs rm, qs ch] (g : Int) = some (qs row) ∧ row.length ≤ 20 ∧ ∀ q, q ∈ row → QOk q := by
      have : g = 1 ∨ g = 2 ∨ g = 3 := by omega
      rcases this with rfl | rfl | rfl
      · exact ⟨fl, rfl, R.lf, R.f⟩
      · exact ⟨rm, rfl, R.lr, R.r⟩
      · exact ⟨ch, rfl, R.lc, R.c⟩
    obtain ⟨row, hat, hl, hrow⟩ := hrow
    refine s_retP (P := BdW) ((evp_put (es := [.int b, qs fl, qs rm, qs ch]) (i := (g : Int)) (lo := some ((g : Int) + 1)) (by walk_at "ev") (ev_slot rfl fun _ => .int _) ?_ (eo_some (K := K) (ev_I0 (f := fun i j => i + j) (ev_slot rfl fun _ => .int _) ev_int)) ie (by simp)).imp fun d ⟨ds, e, h1, h2⟩ => by rw [e]; exact bdw_tup h2 (by omega)) r3.pi fun v d H10 r10 pd kd => hq' v d H10 ((r1.trans r2).trans (r3.trans r10)) pd kd
    refine (evp_callG (A := fun ds => ds = [qs row]) hp rfl (ea_cons (ev_ixT (ds := [.int b, qs fl, qs rm, qs ch]) (by walk_at "ev") (ev_slot rfl fun _ => .int _) hat) ea_nil) fun ds e => ⟨row.map qD, e, rowbd hrow, by rw [List.length_map]; exact hl⟩).imp fun d ⟨ds, _, h⟩ => h
  walk_at "nx"
  refine s_if (b := decide ((j : Int) < 8)) (et_test (K := K) (ev_B0 (f := fun i j => decide (i < j)) (ev_slot rfl fun _ => .int _) ev_int)) r2.pi (fun e H3 r3 => ?_) fun e H3 r3 => ?_
  · walk_at "nx"
    refine s_asgP (K := K) (P := fun d => ∃ ds, d = .tuple ds ∧ ds.length = 9 ∧ ∀ d, d ∈ ds → BdI d) (evp_tup (bi1 bi_int (bi1 bi_int (bi1 bi_neg (bi1 bi_bl (bi1 bi_non (bi1 bi_str (bi1 (bi_tup (bi1 bi_int eall_nil)) (bi1 bi_int (bi1 (bi_lst (bi1 bi_int eall_nil)) eall_nil))))))))) fun ds h => by omega) r3.pi fun v2 d2 H4 r4 ⟨ds, e2, l2, h2⟩ k2 => ?_
    subst e2
    walk_at "nx"
    refine s_retP (P := BdW) ((evp_catT (A := fun ds => ∃ d r, ds = d :: r ∧ BdI d ∧ r = []) (B := fun ds => ds.length ≤ 4 ∧ ∀ d, d ∈ ds → BdI d) (evp_tup (eap_cons ((evp_ixT (ds := ds) (by walk_at "ev") (evp_pick (n := ds.length) hp rfl (ev_lenT (by walk_at "ev")) (by omega) (by omega))).imp h2) eap_nil) ?_) (hcut rfl ((r1.trans r2).trans (r3.trans r4)) (eo_some (K := K) ev_int) eo_none) ?_).imp ?_) r4.pi fun v d H10 r10 pd kd => hq' v d H10 ((r1.trans r2).trans ((r3.trans r4).trans r10)) pd kd
    · rintro ds ⟨d, r, rfl, _, rfl⟩
      simp
    · rintro ds fs ⟨d, r, rfl, _, rfl⟩ ⟨h, _⟩
      show 1 + _ ≤ _
      omega
    · rintro d ⟨_, fs, rfl, ⟨d, r, rfl, hb, rfl⟩, h3, h4⟩
      refine bdw_tup (fun z hz => ?_) (by show _ + 1 ≤ _; show ([] ++ fs).length + 1 ≤ _; simp; omega)
      rcases List.mem_cons.mp hz with h | h
      · rw [h]; exact hb
      · exact h4 z h
  have rA := (r1.trans r2).trans r3
  walk_at "nx"
  refine s_if (et_test (K := K) (ev_eq (d := .int (j : Int)) (ev_slot rfl fun _ => .int _) ev_int sh_int sh_int)) r3.pi (fun e H4 r4 => ?_) fun e H4 r4 => ?_
  · refine s_retP (P := BdW) ((ev_tup (ds := [.int b, qs rm, qs fl, qs ch]) (ea_cons (ev_ixT (by walk_at "ev") ev_int rfl) (ea_cons (ev_ixT (by walk_at "ev") ev_int rfl) (ea_cons (ev_ixT (by walk_at "ev") ev_int rfl) (ea_cons (ev_ixT (by walk_at "ev") ev_int rfl) ea_nil)))) (by simp)).imp fun d e => by
      rw [e]
      refine bdw_tup (fun z hz => ie z ?_) (by simp)
      simp only [List.mem_cons] at hz ⊢
      rcases hz with h | h | h | h | h
      · exact .inl h
      · exact .inr (.inr (.inl h))
      · exact .inr (.inl h)
      · exact .inr (.inr (.inr (.inl h)))
      · cases h) r4.pi fun v d H10 r10 pd kd => hq' v d H10 (rA.trans (r4.trans r10)) pd kd
  walk_at "nx"
  refine s_if (et_test (K := K) (ev_eq (d := .int (j : Int)) (ev_slot rfl fun _ => .int _) ev_int sh_int sh_int)) r4.pi (fun e H5 r5 => ?_) fun e H5 r5 => ?_
  · exact s_retP (P := BdW) ((hcut rfl (rA.trans (r4.trans r5)) eo_none (eo_some (K := K) ev_int)).imp fun d ⟨ds, e, h1, h2⟩ => by rw [e]; exact bdw_tup h2 (by omega)) r5.pi fun v d H10 r10 pd kd => hq' v d H10 ((rA.trans (r4.trans r5)).trans r10) pd kd
  walk_at "nx"
  refine s_if (et_test (K := K) (ev_eq (d := .int (j : Int)) (ev_slot rfl fun _ => .int _) ev_int sh_int sh_int)) r5.pi (fun e H6 r6 => ?_) fun e H6 r6 => ?_
  · refine s_retP (P := BdW) ((ev_list (ds := [.int b, qs fl, qs rm, qs ch]) (by walk_at "ev")).imp fun d e => by
      rw [e]
      exact bdi_w (bdi_lst ie (by simp)) (fun ds e => nomatch e)) r6.pi fun v d H10 r10 pd kd => hq' v d H10 ((rA.trans (r4.trans r5)).trans (r6.trans r10)) pd kd
  walk_at "nx"
  have bw : ∀ {σ : L2.St} {H : Hp} {te : TE} {d : D}, EvD K p te σ H d → BdW d → EvP K p te σ H BdW := fun h h2 => h.imp fun d e => by rw [e]; exact h2
  refine s_retP (P := BdW) (evp_choice (n := 6) (eall_cons (bw (ev_tup ea_nil (by simp)) (bdw_tup (fun _ h => nomatch h) (by simp))) (eall_cons (bw ev_non (bdi_w ⟨.non, fun i e => nomatch e⟩ (fun ds e => nomatch e))) (eall_cons (bw ev_int (bdi_w ⟨.int (sm_lit (by decide) (by decide)), fun i e => by cases e; exact sm_lit (by decide) (by decide)⟩ (fun ds e => nomatch e))) (eall_cons (bw ev_str (bdi_w ⟨.str (by decide +kernel), fun i e => nomatch e⟩ (fun ds e => nomatch e))) (eall_cons (bw (ev_catT (ds := [.int b, qs fl, qs rm, qs ch]) (es := [.none]) (by walk_at "ev") (ev_tup (ea_cons ev_non ea_nil) (by simp)) (by simp)) (bdw_tup (fun z hz => ?_) (by simp))) (eall_cons (bw ev_bl (bdi_w ⟨.bl _, fun i e => nomatch e⟩ (fun ds e => nomatch e))) eall_nil)))))) (by decide) (evp_pick hp rfl (ev_int (i := (6 : Nat))) (by decide) (by decide))) r6.pi fun v d H10 r10 pd kd => hq' v d H10 ((rA.trans (r4.trans r5)).trans (r6.trans r10)) pd kd
  rcases List.mem_append.mp hz with h | h
  · exact ie z h
  · have : z = .none := by simpa using h
    rw [this]; exact ⟨.non, fun i e => nomatch e⟩
theorem ok_law_scale (FR : Free mg) (A : At K mg "_law_scale" s_law_scale P_law_scale f fd) (c1 : Prm P w K mg base CX0 1 "_law_pick" P_law_pick (SpG K PrePick PostPick)) : Prm P w K mg base CX0 2 "_law_scale" P_law_scale (SpG K PreScale PostScale) := by
  refine mk_prmG A sc_law_scale (fun ds ⟨m, e, _⟩ => by rw [e]; rfl) (dv_law_scale FR c1) ?_
  rintro p q vs ds H Q hp hw hv ⟨m, rfl, m1, m2⟩ hq
  obtain ⟨v1, rfl, k1⟩ := dpa1 hv
  have e1 := dp_int k1
  subst e1
  have hq' : ∀ v d H', Rl p H H' → BdI d → Dp K (vw p H') v d → Q v H' := fun v d H' r h k => hq v d H' r h.1 k
  obtain ⟨n, rfl⟩ := Int.eq_ofNat_of_zero_le (show 0 ≤ m by omega)
  have nat : ∀ i : Int, 0 ≤ i → i ≤ 1000 → BdI (.int i) := fun i h1 h2 => ⟨.int (sm_lit (by omega) (by decide)), fun j e => by cases e; exact sm_lit (by omega) (by decide)⟩
  show t_law_scale K _ [some (.ref q.1), some (.int (n : Int)), none, none] H
  unfold t_law_scale
  walk_at "nx"
  refine s_asgP (K := K) (P := fun d => ∃ ds, d = .tuple ds ∧ ds.length = 8 ∧ ∀ d, d ∈ ds → BdI d) (evp_tup (bi1 bi_int (bi1 bi_neg (bi1 ((ev_I0 (f := fun i j => i + j) (i := (n : Int)) (j := 1) (ev_slot rfl fun _ => .int _) ev_int).imp fun d e => by rw [e]; exact nat _ (by omega) (by omega)) (bi1 bi_bl (bi1 bi_non (bi1 bi_str (bi1 (bi_tup (bi1 bi_int eall_nil)) (bi1 (bi_lst (bi1 bi_int eall_nil)) eall_nil)))))))) fun ds h => by omega) hw fun v2 d2 H1 r1 ⟨ds, e2, l2, h2⟩ k2 => ?_
  subst e2
  walk_at "nx"
  refine s_asgP (evp_pick hp rfl (ev_int (i := (6 : Nat))) (by decide) (by decide)) r1.pi fun v5 d5 H2 r2 ⟨j, e5, hj⟩ k5 => ?_
  subst e5
  have e5 := dp_int k5
  subst e5
  walk_at "nx"
  refine s_if (et_test (K := K) (ev_eq (d := .int (j : Int)) (ev_slot rfl fun _ => .int _) ev_int sh_int sh_int)) r2.pi (fun e H3 r3 => ?_) fun e H3 r3 => ?_
  · exact s_retP (P := BdI) ((evp_ixT (ds := ds) (by walk_at "ev") (evp_pick (n := ds.length) hp rfl (ev_lenT (by walk_at "ev")) (by omega) (by omega))).imp h2) r3.pi fun v d H4 r4 pd kd => hq' v d H4 ((r1.trans r2).trans (r3.trans r4)) pd kd
  walk_at "nx"
  refine s_if (et_test (K := K) (ev_eq (d := .int (j : Int)) (ev_slot rfl fun _ => .int _) ev_int sh_int sh_int)) r3.pi (fun e H4 r4 => ?_) fun e H4 r4 => ?_
  · exact s_retP (P := BdI) (EvP.imp (P := fun d => d = .int (n : Int)) (ev_slot rfl fun _ => .int _) fun d e => by rw [e]; exact nat _ (by omega) (by omega)) r4.pi fun v d H5 r5 pd kd => hq' v d H5 ((r1.trans r2).trans ((r3.trans r4).trans r5)) pd kd
  walk_at "nx"
  exact s_retP (P := BdI) ((evp_I0 (f := fun i j => i + j) (ev_in (ev_int (i := 1))) ((evp_pick (n := n) hp rfl (ev_slot rfl fun _ => .int _) (by omega) (by omega)).imp fun d => pick_lt)).imp fun d ⟨a, b, e, ea, h1, h2⟩ => by rw [e, ea]; exact nat _ (by omega) (by omega)) r4.pi fun v d H5 r5 pd kd => hq' v d H5 ((r1.trans r2).trans ((r3.trans r4).trans r5)) pd kd
theorem ok_law_any_ground (FR : Free mg) (A : At K mg "_law_any_ground" s_law_any_ground P_law_any_ground f fd) (c1 : Prm P w K mg base CX0 1 "_law_pick" P_law_pick (SpG K PrePick PostPick)) (c2 : Prm P w K mg base CX0 2 "_law_ground" P_law_ground (SpG K Pre0 PostGround)) : Prm P w K mg base CX0 3 "_law_any_ground" P_law_any_ground (SpG K Pre0 PostAny) := by
  refine mk_prmG A sc_law_any_ground (fun ds e => by rw [e]; rfl) (dv_law_any_ground FR c1 c2) ?_
  rintro p q vs ds H Q hp hw hv rfl hq
  cases hv
  have hq' : ∀ v d H', Rl p H H' → BdI d → Dp K (vw p H') v d → Q v H' := hq
  show t_law_any_ground K _ [some (.ref q.1)] H
  unfold t_law_any_ground
  walk_at "nx"
  refine s_ifA (eta_test ((evp_eqI ((evp_pick hp rfl (ev_int (i := (4 : Nat))) (by decide) (by decide)).imp fun d => pick_lt) ev_int).imp fun d ⟨i, e, _⟩ => ⟨_, e⟩)) hw (fun H1 r1 => ?_) fun H1 r1 => ?_
  · exact s_retP (P := BdI) (evp_choice (n := 9) (bi1 bi_int (bi1 bi_int (bi1 bi_neg (bi1 bi_bl (bi1 bi_non (bi1 bi_str (bi1 (bi_tup (bi1 bi_int eall_nil)) (bi1 (bi_lst (bi1 bi_int eall_nil)) (bi1 bi_int eall_nil))))))))) (by decide) (evp_pick hp rfl (ev_int (i := (9 : Nat))) (by decide) (by decide))) r1.pi fun v d H5 r5 pd kd => hq' v d H5 (r1.trans r5) pd kd
  · walk_at "nx"
    refine s_retP (P := BdI) ((evp_callG (A := fun ds => ds = []) hp rfl ea_nil fun ds e => e).imp fun d ⟨ds, _, b, e, h1, h2⟩ => by
      rw [e]
      have := sm_ground h2 h1
      exact ⟨.int (sm_mono this (by decide)), fun j e => by cases e; exact sm_mono this (by decide)⟩) r1.pi fun v d H5 r5 pd kd => hq' v d H5 (r1.trans r5) pd kd
end

end Ky
set_option Elab.async false
set_option linter.all false
set_option maxRecDepth 4000
set_option maxHeartbeats 4000000
namespace Ky
open PySem PySem.Spec PyProof.Rows L2
local macro_rules | `(tactic| walk_at "rl") => `(tactic| first | assumption | exact Rl.refl pi0 | exact Rl.refl (by assumption) | exact Rl.refl (Rl.pi (by assumption)) | (refine Rl.trans (by assumption) ?_; walk_at "rl"))
local macro_rules | `(tactic| walk_at "ev") => `(tactic| first
  | with_reducible exact ev_int | with_reducible exact ev_bl | with_reducible exact ev_str | with_reducible exact ev_non
  | ((with_reducible apply ev_var); (focus exact rfl); (focus assumption); (focus walk_at "rl"))
  | ((with_reducible apply ev_slot); (focus exact rfl); (focus first | exact fun _ => Dp.int _ | exact fun _ => Dp.bl _ | exact fun _ => Dp.str _ | exact fun _ => Dp.non))
  | with_reducible exact ea_nil | with_reducible exact eo_none | with_reducible exact et_yes
  | with_reducible exact sh_int | with_reducible exact sh_bool | with_reducible exact sh_non
  | ((with_reducible apply ea_cons) <;> try walk_at "ev")
  | ((with_reducible apply ev_I0) <;> try walk_at "ev")
  | ((with_reducible apply ev_B0) <;> try walk_at "ev")
  | ((with_reducible apply ev_IC) <;> try walk_at "ev")
  | ((with_reducible apply ev_neg) <;> try walk_at "ev")
  | ((with_reducible apply ev_chain) <;> try walk_at "ev")
  | ((with_reducible apply ev_isTup) <;> try walk_at "ev")
  | ((with_reducible apply ev_isInt) <;> try walk_at "ev")
  | ((with_reducible apply ev_isBool) <;> try walk_at "ev")
  | ((with_reducible apply ev_isStr) <;> try walk_at "ev")
  | ((with_reducible apply ev_isLst) <;> try walk_at "ev")
  | ((with_reducible apply ev_isN) <;> try walk_at "ev")
  | ((with_reducible apply ev_notN) <;> try walk_at "ev")
  | ((with_reducible apply ev_notB) <;> try walk_at "ev")
  | ((with_reducible apply ev_eq) <;> try walk_at "ev")
  | ((with_reducible apply ev_ne) <;> try walk_at "ev")
  | ((with_reducible apply ev_abs) <;> try walk_at "ev")
  | ((with_reducible apply ev_max) <;> try walk_at "ev")
  | ((with_reducible apply ev_bits) <;> try walk_at "ev")
  | ((with_reducible apply ev_gcd) <;> try walk_at "ev")
  | ((with_reducible apply ev_list) <;> try walk_at "ev")
  | ((with_reducible apply ev_tuple) <;> try walk_at "ev")
  | ((with_reducible apply ev_tup) <;> try walk_at "ev")
  | ((with_reducible apply ev_lst) <;> try walk_at "ev")
  | ((with_reducible apply ev_catT) <;> try walk_at "ev")
  | ((with_reducible apply ev_slice) <;> try walk_at "ev")
  | ((with_reducible apply eo_some) <;> try walk_at "ev")
  | ((with_reducible apply ev_notV) <;> try walk_at "ev")
  | ((with_reducible apply et_test) <;> try walk_at "ev")
  | ((with_reducible apply et_B) <;> try walk_at "ev")
  | ((with_reducible apply et_not) <;> try walk_at "ev")
  | ((with_reducible apply ev_lenT); (focus (walk_at "ev"; done)))
  | ((with_reducible apply ev_lenL); (focus (walk_at "ev"; done)))
  | ((with_reducible apply ev_intI); (focus (walk_at "ev"; done)))
  | ((with_reducible apply ev_intB); (focus (walk_at "ev"; done)))
  | ((with_reducible apply ev_ixT); (focus (walk_at "ev"; done)); (focus (walk_at "ev"; done)); (try first | rfl | assumption))
  | ((with_reducible apply ev_ixL); (focus (walk_at "ev"; done)); (focus (walk_at "ev"; done)); (try first | rfl | assumption))
  | ((with_reducible apply ev_call); (focus (walk_at "ev"; done))))
local macro_rules | `(tactic| walk_at "nx") => `(tactic| ((try dsimp only); (try ((with_reducible refine st_next ?_); (try dsimp only))); (try with_reducible refine st_seq ?_)))
section
variable {P : Program} {w : World} {K : PySem.W.Frag} {mg : Str → Option Value} {base : Heap} {f : Addr} {fd : FuncData} {C fI CO : Addr} {fdI : FuncData}
theorem s_retS {σ : L2.St} {H H0 : Hp} {ta : TA} {F : Ends} {W : WX} {R : List D → Except Str D → Prop} {ds : List D} {r : Except Str D} (h : EvA K p0 ta σ H ds) (hr : R ds r) (e : Ex H0 H) (ok : ∀ d, r = .ok d → ∀ v H', Ex H0 H' → Dp K (nw H0 H') v d → F.rt v H') (er : ∀ w, r = .error w → Exl C H0 (WE W σ) w) :
    tRet (tCallS (SpX K C R) (WE W) ta) F σ H := h H (Rl.refl pi0) _ fun vs ds' H1 r1 ed kd => by
  subst ed
  exact ⟨_, r, dpa_ex vw_sub kd, hr, fun d hd v H' e' k => ok d hd v H' (Ex.trans (Ex.trans e r1.e0) e') (dp_ex (nw_mono (Ex.trans e r1.e0)) k), fun w hw => exl_mono (Ex.trans e r1.e0) (er w hw)⟩
theorem s_retK {σ : L2.St} {H H0 : Hp} {ta : TA} {F : Ends} {W : WX} {R : List D → Except Str D → Prop} {gV : List V → List V} {n : Nat} {ds es : List D} {r : Except Str D} (h : EvA K p0 ta σ H ds) (hn : ds.length = n) (hg : ∀ vs H, DpAll K H vs ds → DpAll K H (gV vs) es) (hr : R es r) (e : Ex H0 H) (ok : ∀ d, r = .ok d → ∀ v H', Ex H0 H' → Dp K (nw H0 H') v d → F.rt v H') (er : ∀ w, r = .error w → Exl C H0 (WE W σ) w) :
    tRet (tCallK0 (SpX K C R) gV (WE W) (tLen n ta)) F σ H := h H (Rl.refl pi0) _ fun vs ds' H1 r1 ed kd => by
  subst ed
  refine ⟨(dpa_len kd).trans hn, es, r, hg _ _ (dpa_ex vw_sub kd), hr, fun d hd v H' e' k => ok d hd v H' (Ex.trans (Ex.trans e r1.e0) e') (dp_ex (nw_mono (Ex.trans e r1.e0)) k), fun w hw => exl_mono (Ex.trans e r1.e0) (er w hw)⟩
theorem heardX (N : Nu K mg C fI CO fdI) {σ : L2.St} {H : Hp} {F : Ends} {wd : Str} (hs : ∀ a, (σ.set 3 (some (.ref a)))[3]? = some (some (.ref a))) (ok : ∀ v H', Ex H H' → Dp K (nw H H') v (.list [.str "refused", .str wd, .int (-1)]) → F.rt v H') :
    Exl C H (WE (wAs K (.ref CO) 3 (ts_heard K C) (fun _ _ _ _ => False) F) σ) wd := fun dx H' e n x => by
  refine ⟨true, N.xO, fun _ a ha => ?_, fun z => nomatch z⟩
  unfold ts_heard
  walk_at "nx"
  refine ⟨_, hs a, rfl, .ref C, .ref C, true, dx, xf wd, rfl, x, rfl, fun u h => by cases h; rfl, N.isC, true, rfl, ?_⟩
  show ite (true = true) _ _
  rw [if_pos rfl]
  refine ⟨_, hs a, rfl, rfl, dx, xf wd, .str wd, rfl, x, rfl, _, hs a, rfl, rfl, dx, xf wd, .int (-1), rfl, x, rfl, by show 3 ≤ _; decide, fun l hl => ?_⟩
  refine ok _ _ (Ex.trans e (Ex.new hl)) (.lst (SqL.of (nw_new (Evl.fresh_back e hl) upd_same)) (.cons (.str _) (.cons (.str _) (.cons (.int _) .nil))))
theorem row_ix {σ : L2.St} {H H0 : Hp} {i : Nat} {v : V} {x d : D} {es : List D} {j : Nat} (hx : x = .tuple es ∨ x = .list es) (hσ : σ[i]? = some (some v)) (k : Dp K H0 v x) (r : Rl p0 H0 H) (h : es[j]? = some d) : EvD K p0 (tOp (rIx K) (tVar i) (tC (.int (j : Nat)))) σ H d := by
  rcases hx with rfl | rfl
  · exact ev_ixT (ev_var hσ k r) ev_int (atI_nat h)
  · exact ev_ixL (ev_var hσ k r) ev_int (atI_nat h)
theorem take2 {es : List D} {b g : D} (h : es.take 2 = [b, g]) : es[0]? = some b ∧ es[1]? = some g := by
  match es, h with
  | _ :: _ :: _, h => cases h; exact ⟨rfl, rfl⟩
theorem dpa_rev2 {vs : List V} {H : Hp} {a b : D} (h : DpAll K H vs [a, b]) : DpAll K H [vs.getD 1 .non, vs.getD 0 .non] [b, a] := by
  obtain ⟨v, v2, rfl, k, k2⟩ := dpa2 h
  exact .cons k2 (.cons k .nil)
theorem dpa_rev5 {vs : List V} {H : Hp} {a b c d e : D} (h : DpAll K H vs [a, b, c, d, e]) : DpAll K H [vs.getD 4 .non, vs.getD 3 .non, vs.getD 2 .non, vs.getD 1 .non, vs.getD 0 .non] [e, d, c, b, a] := by
  obtain ⟨v, v2, v3, v4, v5, rfl, k, k2, k3, k4, k5⟩ := dpa5 h
  exact .cons k5 (.cons k4 (.cons k3 (.cons k2 (.cons k .nil))))
theorem ok_law_heard (FR : Free mg) (NU : Nu K mg C fI CO fdI) (A : At K mg "_law_heard" s_law_heard P_law_heard f fd) (c1 : Prm P w K mg base (L2.CX P w) 5 "flow_bounds" P_flow_bounds (SpX K C Rfb)) (c2 : Prm P w K mg base (L2.CX P w) 5 "room_bounds" P_room_bounds (SpX K C Rrb)) (c3 : Prm P w K mg base (L2.CX P w) 6 "world_fault" P_world_fault (SpX K C Rwf))
    (k1 : PrmK P w K mg base (L2.CX P w) 5 "flow_bounds" P_flow_bounds ["strength", "base"] (SpX K C Rfb) (fun ws => [ws.getD 1 .none, ws.getD 0 .none]) (fun zs => [zs.getD 1 .non, zs.getD 0 .non])) (k2 : PrmK P w K mg base (L2.CX P w) 5 "room_bounds" P_room_bounds ["size", "base"] (SpX K C Rrb) (fun ws => [ws.getD 1 .none, ws.getD 0 .none]) (fun zs => [zs.getD 1 .non, zs.getD 0 .non]))
    (k3 : PrmK P w K mg base (L2.CX P w) 6 "world_fault" P_world_fault ["slack", "world", "held", "positions", "net"] (SpX K C Rwf) (fun ws => [ws.getD 4 .none, ws.getD 3 .none, ws.getD 2 .none, ws.getD 1 .none, ws.getD 0 .none]) (fun zs => [zs.getD 4 .non, zs.getD 3 .non, zs.getD 2 .non, zs.getD 1 .non, zs.getD 0 .non])) :
    Prm P w K mg base CX0 7 "_law_heard" P_law_heard (SpR K Rheard) := by
  refine mk_prm A sc_law_heard (fun ds d ⟨k, c, es, x, r, e, _⟩ => by rw [e]; rfl) (dv_law_heard FR NU c1 c2 c3 k1 k2 k3) ?_
  rintro vs ds d H Q hv ⟨kk, c, es, x, r, rfl, hx, hl, rfl, hR⟩ hq
  obtain ⟨v, v2, v3, rfl, j1, j2, j3⟩ := dpa3 hv
  have e1 := dp_int j1
  subst e1
  show t_law_heard K C CO _ [some (.int kk), some v2, some v3, none] H
  unfold t_law_heard
  have fok : ∀ d, r = .ok d → ∀ v H', Ex H H' → Dp K (nw H H') v d → Q v H' := fun d e v H' e' k => hq v H' e' (by rw [e]; exact k)
  have fer : ∀ w, r = .error w → ∀ v H', Ex H H' → Dp K (nw H H') v (.list [.str "refused", .str w, .int (-1)]) → Q v H' := fun w e v H' e' k => hq v H' e' (by rw [e]; exact k)
  have ix : ∀ {H1 : Hp} {j : Nat} {d : D}, Rl p0 H H1 → es[j]? = some d → EvD K p0 (tOp (rIx K) (tVar 2) (tC (.int (j : Nat)))) [some (.int kk), some v2, some v3, none] H1 d := fun r h => row_ix hx rfl j3 r h
  have vc : ∀ {H1 : Hp}, Rl p0 H H1 → EvD K p0 (tVar 1) [some (.int kk), some v2, some v3, none] H1 (netD c) := fun r => ev_var rfl j2 r
  clear hq j1 j2 j3 hv
  walk_at "nx"
  rcases hR with ⟨hk | hk, hR⟩ | ⟨hk | hk, hR⟩ | ⟨hk | hk, hR⟩
  · subst hk
    obtain ⟨b, g, e2, hR1⟩ := hR
    have hR : Rfb [b, g] r := ⟨b, g, rfl, hR1⟩
    refine s_yes (b := true) (et_is (by walk_at "ev") (by rfl)) rfl pi0 fun H1 r1 => ?_
    obtain ⟨a0, a1⟩ := take2 e2
    exact s_retS (ea_cons (ix (j := 0) r1 a0) (ea_cons (ix (j := 1) r1 a1) ea_nil)) hR r1.e0 fok fun w hw => heardX NU (fun _ => rfl) (fer w hw)
  · subst hk
    obtain ⟨b, g, e2, hR1⟩ := hR
    have hR : Rfb [b, g] r := ⟨b, g, rfl, hR1⟩
    refine s_no (b := false) (et_is (by walk_at "ev") (by rfl)) rfl pi0 fun H1 r1 => ?_
    walk_at "nx"
    refine s_no (b := false) (et_is (by walk_at "ev") (by rfl)) rfl pi0 fun H2 r2 => ?_
    walk_at "nx"
    refine s_no (b := false) (et_is (by walk_at "ev") (by rfl)) rfl pi0 fun H3 r3 => ?_
    walk_at "nx"
    refine s_yes (b := true) (et_is (by walk_at "ev") (by rfl)) rfl pi0 fun H4 r4 => ?_
    obtain ⟨a0, a1⟩ := take2 e2
    exact s_retK (ea_cons (ix (j := 1) (((r1.trans r2).trans r3).trans r4) a1) (ea_cons (ix (j := 0) (((r1.trans r2).trans r3).trans r4) a0) ea_nil)) rfl (fun _ _ h => dpa_rev2 h) hR (((r1.trans r2).trans r3).trans r4).e0 fok fun w hw => heardX NU (fun _ => rfl) (fer w hw)
  · subst hk
    obtain ⟨b, g, e2, hR1⟩ := hR
    have hR : Rrb [b, g] r := ⟨b, g, rfl, hR1⟩
    refine s_no (b := false) (et_is (by walk_at "ev") (by rfl)) rfl pi0 fun H1 r1 => ?_
    walk_at "nx"
    refine s_yes (b := true) (et_is (by walk_at "ev") (by rfl)) rfl pi0 fun H2 r2 => ?_
    obtain ⟨a0, a1⟩ := take2 e2
    exact s_retS (ea_cons (ix (j := 0) (r1.trans r2) a0) (ea_cons (ix (j := 1) (r1.trans r2) a1) ea_nil)) hR (r1.trans r2).e0 fok fun w hw => heardX NU (fun _ => rfl) (fer w hw)
  · subst hk
    obtain ⟨b, g, e2, hR1⟩ := hR
    have hR : Rrb [b, g] r := ⟨b, g, rfl, hR1⟩
    refine s_no (b := false) (et_is (by walk_at "ev") (by rfl)) rfl pi0 fun H1 r1 => ?_
    walk_at "nx"
    refine s_no (b := false) (et_is (by walk_at "ev") (by rfl)) rfl pi0 fun H2 r2 => ?_
    walk_at "nx"
    refine s_no (b := false) (et_is (by walk_at "ev") (by rfl)) rfl pi0 fun H3 r3 => ?_
    walk_at "nx"
    refine s_no (b := false) (et_is (by walk_at "ev") (by rfl)) rfl pi0 fun H4 r4 => ?_
    walk_at "nx"
    refine s_yes (b := true) (et_is (by walk_at "ev") (by rfl)) rfl pi0 fun H5 r5 => ?_
    obtain ⟨a0, a1⟩ := take2 e2
    exact s_retK (ea_cons (ix (j := 1) ((((r1.trans r2).trans r3).trans r4).trans r5) a1) (ea_cons (ix (j := 0) ((((r1.trans r2).trans r3).trans r4).trans r5) a0) ea_nil)) rfl (fun _ _ h => dpa_rev2 h) hR ((((r1.trans r2).trans r3).trans r4).trans r5).e0 fok fun w hw => heardX NU (fun _ => rfl) (fer w hw)
  · subst hk
    obtain ⟨d0, d1, d2, d3, rfl⟩ : ∃ d0 d1 d2 d3, es = [d0, d1, d2, d3] := by
      obtain ⟨_, ps, hs, wd, sl, e, _⟩ := hR
      injection e with e1 e2
      exact ⟨_, _, _, _, e2⟩
    refine s_no (b := false) (et_is (by walk_at "ev") (by rfl)) rfl pi0 fun H1 r1 => ?_
    walk_at "nx"
    refine s_no (b := false) (et_is (by walk_at "ev") (by rfl)) rfl pi0 fun H2 r2 => ?_
    walk_at "nx"
    refine s_yes (b := true) (et_is (by walk_at "ev") (by rfl)) rfl pi0 fun H3 r3 => ?_
    exact s_retS (ea_cons (vc ((r1.trans r2).trans r3)) (ea_cons (ix (j := 0) ((r1.trans r2).trans r3) rfl) (ea_cons (ix (j := 1) ((r1.trans r2).trans r3) rfl) (ea_cons (ix (j := 2) ((r1.trans r2).trans r3) rfl) (ea_cons (ix (j := 3) ((r1.trans r2).trans r3) rfl) ea_nil))))) hR ((r1.trans r2).trans r3).e0 fok fun w hw => heardX NU (fun _ => rfl) (fer w hw)
  · subst hk
    obtain ⟨d0, d1, d2, d3, rfl⟩ : ∃ d0 d1 d2 d3, es = [d0, d1, d2, d3] := by
      obtain ⟨_, ps, hs, wd, sl, e, _⟩ := hR
      injection e with e1 e2
      exact ⟨_, _, _, _, e2⟩
    refine s_no (b := false) (et_is (by walk_at "ev") (by rfl)) rfl pi0 fun H1 r1 => ?_
    walk_at "nx"
    refine s_no (b := false) (et_is (by walk_at "ev") (by rfl)) rfl pi0 fun H2 r2 => ?_
    walk_at "nx"
    refine s_no (b := false) (et_is (by walk_at "ev") (by rfl)) rfl pi0 fun H3 r3 => ?_
    walk_at "nx"
    refine s_no (b := false) (et_is (by walk_at "ev") (by rfl)) rfl pi0 fun H4 r4 => ?_
    walk_at "nx"
    refine s_no (b := false) (et_is (by walk_at "ev") (by rfl)) rfl pi0 fun H5 r5 => ?_
    walk_at "nx"
    exact s_retK (ea_cons (ix (j := 3) ((((r1.trans r2).trans r3).trans r4).trans r5) rfl) (ea_cons (ix (j := 2) ((((r1.trans r2).trans r3).trans r4).trans r5) rfl) (ea_cons (ix (j := 1) ((((r1.trans r2).trans r3).trans r4).trans r5) rfl) (ea_cons (ix (j := 0) ((((r1.trans r2).trans r3).trans r4).trans r5) rfl) (ea_cons (vc ((((r1.trans r2).trans r3).trans r4).trans r5)) ea_nil))))) rfl (fun _ _ h => dpa_rev5 h) hR ((((r1.trans r2).trans r3).trans r4).trans r5).e0 fok fun w hw => heardX NU (fun _ => rfl) (fer w hw)
theorem Lo.str {x : Str} (h : PySem.PyData.canLay0 (.str x) = true) : Lo (.str x) := .flat rfl h
theorem Lo.ref {w : Str} (h : PySem.PyData.canLay0 (.str w) = true) : Lo (.tuple [.str "refused", .str w, .int (-1)]) := .tup (fun d m => by
  rcases List.mem_cons.mp m with e | m
  · rw [e]; exact ⟨rfl, by decide +kernel⟩
  · rcases List.mem_cons.mp m with e | m
    · rw [e]; exact ⟨rfl, h⟩
    · rcases List.mem_cons.mp m with e | m
      · rw [e]; exact ⟨rfl, rfl⟩
      · cases m) (by simp)
theorem ok_law_meets (FR : Free mg) (A : At K mg "_law_meets" s_law_meets P_law_meets f fd) (c1 : Prm P w K mg base CX0 3 "_law_same" P_law_same (SpR K Rsame)) : Prm P w K mg base CX0 4 "_law_meets" P_law_meets (SpR K Rmeets) := by
  refine mk_prm A sc_law_meets (fun ds d ⟨w, r, u, e, _⟩ => by rw [e]; rfl) (dv_law_meets FR c1) ?_
  rintro vs ds d H Q hv ⟨wd, r, u, rfl, hw, hR, rfl⟩ hq
  obtain ⟨v, v2, v3, rfl, k1, k2, k3⟩ := dpa3 hv
  have e2 := dp_strv k2
  subst e2
  show t_law_meets K _ [some v, some (.str wd), some v3] H
  unfold t_law_meets
  walk_at "nx"
  have ht : EvT p0 (tTest (tOp (rNeD K) (tVar 1) (tC (.str "")))) [some v, some (.str wd), some v3] H (!decide (wd = "")) := et_is (et_test (K := K) (ev_ne (d := .str wd) (ev_slot rfl fun _ => .str _) ev_str (Lo.str hw).sh (by decide +kernel))) (by rw [eqv_str])
  rcases hR with ⟨h1, rfl⟩ | ⟨rfl, rfl, lo, nl⟩
  · refine s_yes ht (by simp [h1]) pi0 fun H1 r1 => ?_
    have k1' : Dp K (vw p0 H) v (.list [.str "refused", .str wd, .int (-1)]) := k1
    refine s_ret (en_flat (d := .bool true) ?_ rfl) r1.e0 hq
    refine ev_is (ev_andV (a := true) (b := true) (ev_is (ev_isLst (d := .list [.str "refused", .str wd, .int (-1)]) (by walk_at "ev")) rfl) fun _ => ev_call (ds := [.tuple [.str "refused", .str wd, .int (-1)], .tuple [.str "refused", .str wd, .int (-1)]]) (ea_cons (ev_tuple (by walk_at "ev")) (ea_cons (ev_tup (ea_cons ev_str (ea_cons (ev_slot rfl fun _ => .str _) (ea_cons (ev_neg ev_int) ea_nil))) (by simp)) ea_nil)) ⟨_, _, true, rfl, Lo.ref hw, Lo.ref hw, rfl, rfl, by simp⟩) rfl
  · refine s_no ht (by decide) pi0 fun H1 r1 => ?_
    walk_at "nx"
    have k1' : Dp K (vw p0 H) v u := k1
    exact s_ret (en_flat (d := .bool true) (ev_call (ds := [u, u]) (by walk_at "ev") ⟨u, u, true, rfl, lo, lo, nl, rfl, by simp⟩) rfl) r1.e0 hq
end

end Ky
set_option Elab.async false
set_option linter.all false
set_option maxRecDepth 4000
set_option maxHeartbeats 4000000
namespace Ky
open PySem PySem.Spec PyProof.Rows L2
local macro_rules | `(tactic| walk_at "rl") => `(tactic| first | assumption | exact Rl.refl pi0 | exact Rl.refl (by assumption) | exact Rl.refl (Rl.pi (by assumption)) | (refine Rl.trans (by assumption) ?_; walk_at "rl"))
local macro_rules | `(tactic| walk_at "ev") => `(tactic| first
  | with_reducible exact ev_int | with_reducible exact ev_bl | with_reducible exact ev_str | with_reducible exact ev_non
  | ((with_reducible apply ev_var); (focus exact rfl); (focus assumption); (focus walk_at "rl"))
  | ((with_reducible apply ev_slot); (focus exact rfl); (focus first | exact fun _ => Dp.int _ | exact fun _ => Dp.bl _ | exact fun _ => Dp.str _ | exact fun _ => Dp.non))
  | with_reducible exact ea_nil | with_reducible exact eo_none | with_reducible exact et_yes
  | with_reducible exact sh_int | with_reducible exact sh_bool | with_reducible exact sh_non
  | ((with_reducible apply ea_cons) <;> try walk_at "ev")
  | ((with_reducible apply ev_I0) <;> try walk_at "ev")
  | ((with_reducible apply ev_B0) <;> try walk_at "ev")
  | ((with_reducible apply ev_IC) <;> try walk_at "ev")
  | ((with_reducible apply ev_neg) <;> try walk_at "ev")
  | ((with_reducible apply ev_chain) <;> try walk_at "ev")
  | ((with_reducible apply ev_isTup) <;> try walk_at "ev")
  | ((with_reducible apply ev_isInt) <;> try walk_at "ev")
  | ((with_reducible apply ev_isBool) <;> try walk_at "ev")
  | ((with_reducible apply ev_isStr) <;> try walk_at "ev")
  | ((with_reducible apply ev_isLst) <;> try walk_at "ev")
  | ((with_reducible apply ev_isN) <;> try walk_at "ev")
  | ((with_reducible apply ev_notN) <;> try walk_at "ev")
  | ((with_reducible apply ev_notB) <;> try walk_at "ev")
  | ((with_reducible apply ev_eq) <;> try walk_at "ev")
  | ((with_reducible apply ev_ne) <;> try walk_at "ev")
  | ((with_reducible apply ev_abs) <;> try walk_at "ev")
  | ((with_reducible apply ev_max) <;> try walk_at "ev")
  | ((with_reducible apply ev_bits) <;> try walk_at "ev")
  | ((with_reducible apply ev_gcd) <;> try walk_at "ev")
  | ((with_reducible apply ev_list) <;> try walk_at "ev")
  | ((with_reducible apply ev_tuple) <;> try walk_at "ev")
  | ((with_reducible apply ev_tup) <;> try walk_at "ev")
  | ((with_reducible apply ev_lst) <;> try walk_at "ev")
  | ((with_reducible apply ev_catT) <;> try walk_at "ev")
  | ((with_reducible apply ev_slice) <;> try walk_at "ev")
  | ((with_reducible apply eo_some) <;> try walk_at "ev")
  | ((with_reducible apply ev_notV) <;> try walk_at "ev")
  | ((with_reducible apply et_test) <;> try walk_at "ev")
  | ((with_reducible apply et_B) <;> try walk_at "ev")
  | ((with_reducible apply et_not) <;> try walk_at "ev")
  | ((with_reducible apply ev_lenT); (focus (walk_at "ev"; done)))
  | ((with_reducible apply ev_lenL); (focus (walk_at "ev"; done)))
  | ((with_reducible apply ev_intI); (focus (walk_at "ev"; done)))
  | ((with_reducible apply ev_intB); (focus (walk_at "ev"; done)))
  | ((with_reducible apply ev_ixT); (focus (walk_at "ev"; done)); (focus (walk_at "ev"; done)); (try first | rfl | assumption))
  | ((with_reducible apply ev_ixL); (focus (walk_at "ev"; done)); (focus (walk_at "ev"; done)); (try first | rfl | assumption))
  | ((with_reducible apply ev_call); (focus (walk_at "ev"; done))))
local macro_rules | `(tactic| walk_at "nx") => `(tactic| ((try dsimp only); (try ((with_reducible refine st_next ?_); (try dsimp only))); (try with_reducible refine st_seq ?_)))
section
variable {P : Program} {w : World} {K : PySem.W.Frag} {mg : Str → Option Value} {base : Heap} {f : Addr} {fd : FuncData} {C fI CO : Addr} {fdI : FuncData}
theorem ev_callX {p : Pw} {σ : L2.St} {H : Hp} {R : List D → Except Str D → Prop} {ds : List D} {d : D} {E : XK} {ta : TA} (h : EvA K p ta σ H ds) (r : R ds (.ok d)) : EvD K p (tCall (SpX K C R) [] E ta) σ H d := fun H1 r1 Q q =>
  h H1 r1 _ fun vs ds' H2 r2 ed kd => by
    subst ed
    refine ⟨ds', .ok d, by rw [List.append_nil]; exact dpa_ex vw_sub kd, r, fun d' hd v H' e k => ?_, fun w hw => nomatch hw⟩
    cases hd
    exact q v d H' (r2.trans (Rl.of r2.pi e)) rfl (dp_ex (nw_vw r2.pi) k)
theorem lo_ints {is : List Int} (h : is.length ≤ 1000) : Lo (nums is) := .tup (fun d m => by
  obtain ⟨i, _, rfl⟩ := List.mem_map.mp m
  exact ⟨rfl, rfl⟩) (by rw [List.length_map]; exact h)
theorem lo_word {x : Str} {i : Int} (h : PySem.PyData.canLay0 (.str x) = true) : Lo (.tuple [.str x, .int i]) := .tup (fun d m => by
  rcases List.mem_cons.mp m with e | m
  · rw [e]; exact ⟨rfl, h⟩
  · rcases List.mem_cons.mp m with e | m
    · rw [e]; exact ⟨rfl, rfl⟩
    · cases m) (by simp)
theorem lo_non : Lo .none := .flat rfl rfl
theorem lo_bool {b : Bool} : Lo (.bool b) := .flat rfl rfl
theorem ok_law_bounds_hold (FR : Free mg) (A : At K mg "_law_bounds_hold" s_law_bounds_hold P_law_bounds_hold f fd) (c1 : Prm P w K mg base CX0 3 "_law_any_ground" P_law_any_ground (SpG K Pre0 PostAny)) (c2 : Prm P w K mg base CX0 1 "_law_pick" P_law_pick (SpG K PrePick PostPick)) (c3 : Prm P w K mg base CX0 2 "_law_scale" P_law_scale (SpG K PreScale PostScale))
    (c4 : Prm P w K mg base CX0 2 "_law_is_ground" P_law_is_ground (SpR K (R1B isBase))) (c5 : Prm P w K mg base CX0 1 "_law_is_number" P_law_is_number (SpR K (R1B isI))) (c6 : Prm P w K mg base CX0 1 "_law_raised" P_law_raised (SpR K Rraised)) (c7 : Prm P w K mg base CX0 4 "_law_meets" P_law_meets (SpR K Rmeets)) (c8 : Prm P w K mg base CX0 7 "_law_heard" P_law_heard (SpR K Rheard)) :
    Prm P w K mg base CX0 8 "_law_bounds_hold" P_law_bounds_hold (SpG K PreNet PostTrue) := by
  refine mk_prmG A sc_law_bounds_hold (fun ds ⟨c, _, e⟩ => by rw [e]; rfl) (dv_law_bounds_hold FR c1 c2 c3 c4 c5 c6 c7 c8) ?_
  rintro p q vs ds H Q hp hw hv ⟨c, L, rfl⟩ hq
  obtain ⟨v1, rfl, k1⟩ := dpa1 hv
  show t_law_bounds_hold K _ [some (.ref q.1), some v1, none, none, none, none, none, none, none] H
  unfold t_law_bounds_hold
  walk_at "nx"
  refine s_asgP (K := K) (P := BdI) ((evp_callG (A := fun ds => ds = []) hp rfl ea_nil fun ds e => e).imp fun d ⟨ds, _, h⟩ => h) hw fun v2 gd H1 r1 hg k2 => ?_
  walk_at "nx"
  refine s_asgP (evp_pick hp rfl (ev_int (i := (2 : Nat))) (by decide) (by decide)) r1.pi fun v3 d3 H2 r2 ⟨j, e3, hj⟩ k3 => ?_
  subst e3
  have e3 := dp_int k3
  subst e3
  obtain ⟨m, w0, hm, hw0, hat, hR⟩ : ∃ (m : Int) (w0 : Str), (6 - 2 * (j : Int) = m ∧ 1 ≤ m ∧ m ≤ 6) ∧ (w0 ≠ "" ∧ PySem.PyData.canLay0 (.str w0) = true) ∧ atI [PyData.str "strength", PyData.str "size"] (j : Int) = some (.str w0) ∧ (∀ (t : Nat) (g s : D), (t = 0 ∨ t = 5) → (∀ i, g = .int i → Sm 64 i) → Rheard [.int ((j : Int) + (t : Int)), netD c, .tuple [g, s]] (heardD (bnd w0 m g s))) := by
    have : j = 0 ∨ j = 1 := by omega
    rcases this with rfl | rfl
    · refine ⟨6, "strength", ⟨by decide, by decide, by decide⟩, ⟨by decide, by decide +kernel⟩, rfl, fun t g s ht hg => ⟨_, c, [g, s], _, _, rfl, .inl rfl, by simp, rfl, .inl ⟨?_, g, s, rfl, hg, rfl⟩⟩⟩
      rcases ht with rfl | rfl
      · exact .inl rfl
      · exact .inr rfl
    · refine ⟨4, "size", ⟨by decide, by decide, by decide⟩, ⟨by decide, by decide +kernel⟩, rfl, fun t g s ht hg => ⟨_, c, [g, s], _, _, rfl, .inl rfl, by simp, rfl, .inr (.inl ⟨?_, g, s, rfl, hg, rfl⟩)⟩⟩
      rcases ht with rfl | rfl
      · exact .inl rfl
      · exact .inr rfl
  walk_at "nx"
  refine s_asg (K := K) (d := .int m) (ev_is (ev_I0 (f := fun i j => i - j) (i := 6) (j := 2 * (j : Int)) ev_int (ev_IC (f := fun i j => i * j) (i := 2) (j := (j : Int)) ev_int (ev_slot rfl fun _ => .int _) (.inl ⟨by decide, by decide⟩))) (by show PyData.int _ = _; rw [hm.1])) r2.pi fun v4 H3 r3 k4 => ?_
  have e4 := dp_int k4
  subst e4
  walk_at "nx"
  refine s_asgP (K := K) (P := Bd) ((evp_callG (A := fun ds => ds = [.int m]) hp rfl (ea_cons (ev_slot rfl fun _ => .int _) ea_nil) fun ds e => ⟨m, e, hm.2.1, by omega⟩).imp fun d ⟨ds, _, h⟩ => h) r3.pi fun v5 sd H4 r4 hs k5 => ?_
  walk_at "nx"
  refine s_asg (K := K) (d := .str "") ev_str r4.pi fun v6 H5 r5 k6 => ?_
  have e6 := dp_strv k6
  subst e6
  walk_at "nx"
  refine s_asg (K := K) (d := .none) ev_non r5.pi fun v7 H6 r6 k7 => ?_
  have e7 := dp_nonv k7
  subst e7
  have rA := ((r1.trans r2).trans (r3.trans r4)).trans (r5.trans r6)
  have rG := (((r2.trans r3).trans r4).trans r5).trans r6
  have rS := r5.trans r6
  have fin : ∀ (wd : Str) (u : D) (v7 : V) (H7 : Hp), Rl p H6 H7 → Dp K (vw p H7) v7 u → PySem.PyData.canLay0 (.str wd) = true → ((wd ≠ "" ∧ bnd w0 m gd sd = .error wd) ∨ (wd = "" ∧ bnd w0 m gd sd = .ok u ∧ Lo u ∧ isLst u = false)) →
      tSeq (tFor (iTup K (tTup (tCons (tC (.int 0)) (tCons (tC (.int 5)) tNil)))) (gName 8) (tIfS (tNot (tB (tCall (SpR K Rmeets) [] E0 (tCons (tCall (SpR K Rheard) [] E0 (tCons (tOp (rI0 fun i j => .int (i + j)) (tVar 3) (tVar 8)) (tCons (tVar 1) (tCons (tTup (tCons (tVar 2) (tCons (tVar 5) tNil))) tNil)))) (tCons (tVar 6) (tCons (tVar 7) tNil)))))) (tRet (tC (.bl false))) tNext)) (tRet (tC (.bl true))) { nx := fun x H' => Q .non H', rt := Q } [some (.ref q.1), some v1, some v2, some (.int (j : Int)), some (.int m), some v5, some (.str wd), some v7, none] H7 := by
    intro wd u v7 H7 r7 k7 hwd hok
    walk_at "nx"
    refine s_forT (K := K) (ds := [.int 0, .int 5]) (ev_tup (ea_cons ev_int (ea_cons ev_int ea_nil)) (by simp)) r7.pi (fun i σ' _ => ∃ a8, σ' = [some (.ref q.1), some v1, some v2, some (.int (j : Int)), some (.int m), some v5, some (.str wd), some v7, a8]) (fun H8 r8 => ⟨_, rfl⟩) ?_ ?_
    · rintro H8 r8 i x d σ' H9 hd kd r9 ⟨a8, rfl⟩
      obtain ⟨t, rfl, ht⟩ : ∃ t : Nat, d = .int (t : Int) ∧ (t = 0 ∨ t = 5) := by
        have := List.mem_of_getElem? hd
        rcases List.mem_cons.mp this with e | m
        · exact ⟨0, e, .inl rfl⟩
        · rcases List.mem_cons.mp m with e | m
          · exact ⟨5, e, .inr rfl⟩
          · cases m
      have ex := dp_int kd
      subst ex
      have r79 := r8.trans r9
      have kk2 := dp_ex ((rG.trans r7).trans r79).ex k2
      have kk5 := dp_ex ((rS.trans r7).trans r79).ex k5
      have kk1 := dp_ex ((rA.trans r7).trans r79).ex k1
      have kk7 := dp_ex r79.ex k7
      have hh := hR t gd sd ht hg.2
      show tIfS _ _ _ _ _ _
      refine s_no (b := false) (et_not (a := true) (et_B (ev_call (ds := [heardD (bnd w0 m gd sd), .str wd, u]) (ea_cons (ev_call (ds := [.int ((j : Int) + (t : Int)), netD c, .tuple [gd, sd]]) (ea_cons (ev_I0 (f := fun i j => i + j) (ev_slot rfl fun _ => .int _) (ev_slot rfl fun _ => .int _)) (ea_cons (ev_var rfl kk1 (Rl.refl r9.pi)) (ea_cons (ev_tup (ds := [gd, sd]) (ea_cons (ev_var rfl kk2 (Rl.refl r9.pi)) (ea_cons (ev_var rfl kk5 (Rl.refl r9.pi)) ea_nil)) (by simp)) ea_nil))) hh) (ea_cons (ev_slot rfl fun _ => .str _) (ea_cons (ev_var rfl kk7 (Rl.refl r9.pi)) ea_nil))) ⟨wd, _, u, rfl, hwd, hok, rfl⟩))) rfl r9.pi fun H10 r10 => ?_
      exact ⟨r9.trans r10, _, rfl⟩
    · rintro σ' H8 r8 ⟨a8, rfl⟩
      walk_at "nx"
      exact s_retP (P := fun d => d = .bool true) ev_bl r8.pi fun v d H9 r9 e kd => hq v d H9 ((rA.trans r7).trans (r8.trans r9)) e kd
  walk_at "nx"
  refine s_if (b := !isBase gd) (et_not (et_B (ev_call (ds := [gd]) (ea_cons (ev_var rfl k2 rG) ea_nil) ⟨gd, rfl, rfl⟩))) r6.pi (fun e H7 r7 => ?_) fun e H7 r7 => ?_
  · refine s_asg (K := K) (d := .str "base") ev_str r7.pi fun v8 H8 r8 k8 => ?_
    have e8 := dp_strv k8
    subst e8
    exact fin "base" .none .non H8 (r7.trans r8) .non (by decide +kernel) (.inl ⟨by decide, bnd_base (by simpa using e)⟩)
  · obtain ⟨b, rfl, b2⟩ := isBase_int (by simpa using e : isBase gd = true)
    have sb := hg.2 b rfl
    have hnum : EvD K p (tCall (SpR K (R1B isI)) [] E0 (tCons (tVar 5) tNil)) [some (.ref q.1), some v1, some v2, some (.int (j : Int)), some (.int m), some v5, some (.str ""), some .non, none] H7 (.bool (isI sd)) := ev_call (ds := [sd]) (ea_cons (ev_var rfl k5 (rS.trans r7)) ea_nil) ⟨sd, rfl, rfl⟩
    have bad : (∀ s, sd = .int s → ¬ (1 ≤ s ∧ s ≤ m)) → ∀ H8, Rl p H7 H8 → tAsg (tOp (rIx K) (tTup (tCons (tC (.str "strength")) (tCons (tC (.str "size")) tNil))) (tVar 3)) (gName 6) { nx := fun σ' H' => tSeq (tFor (iTup K (tTup (tCons (tC (.int 0)) (tCons (tC (.int 5)) tNil)))) (gName 8) (tIfS (tNot (tB (tCall (SpR K Rmeets) [] E0 (tCons (tCall (SpR K Rheard) [] E0 (tCons (tOp (rI0 fun i j => .int (i + j)) (tVar 3) (tVar 8)) (tCons (tVar 1) (tCons (tTup (tCons (tVar 2) (tCons (tVar 5) tNil))) tNil)))) (tCons (tVar 6) (tCons (tVar 7) tNil)))))) (tRet (tC (.bl false))) tNext)) (tRet (tC (.bl true))) { nx := fun x H' => Q .non H', rt := Q } σ' H', rt := Q } [some (.ref q.1), some v1, some v2, some (.int (j : Int)), some (.int m), some v5, some (.str ""), some .non, none] H8 := by
      intro hbad H8 r8
      refine s_asg (K := K) (d := .str w0) (ev_ixT (ds := [.str "strength", .str "size"]) (ev_tup (ea_cons ev_str (ea_cons ev_str ea_nil)) (by simp)) (ev_slot rfl fun _ => .int _) hat) r8.pi fun v8 H9 r9 k8 => ?_
      have e8 := dp_strv k8
      subst e8
      exact fin w0 .none .non H9 ((r7.trans r8).trans r9) .non hw0.2 (.inl ⟨hw0.1, bnd_wd b2 hbad⟩)
    cases hI : isI sd with
    | false =>
      rw [hI] at hnum
      refine s_yes (et_or (a := true) (b := true) (et_not (et_B hnum)) fun z => nomatch z) rfl r7.pi fun H8 r8 => ?_
      exact bad (fun s e => by rw [e] at hI; cases hI) H8 r8
    | true =>
      obtain ⟨s, rfl⟩ := isI_int hI
      rw [hI] at hnum
      have e5 := dp_int k5
      subst e5
      refine s_if (b := decide (s < 1) || decide (m < s)) (et_is (et_or (a := false) (et_is (et_not (et_B hnum)) rfl) fun _ => et_or (et_test (K := K) (ev_B0 (f := fun i j => decide (i < j)) (i := s) (j := 1) (ev_slot rfl fun _ => .int _) ev_int)) fun _ => et_test (K := K) (ev_B0 (f := fun i j => decide (j < i)) (i := s) (j := m) (ev_slot rfl fun _ => .int _) (ev_slot rfl fun _ => .int _))) (by simp)) r7.pi (fun e H8 r8 => ?_) fun e H8 r8 => ?_
      · refine bad (fun s' e' => ?_) H8 r8
        cases e'
        simp at e
        omega
      · have hs1 : 1 ≤ s ∧ s ≤ m := by
          simp at e
          omega
        walk_at "nx"
        refine s_asg (K := K) (d := .int (b ^ (2 * s).toNat)) (ev_call (ds := [.int b, .int (2 * s)]) (ea_cons (ev_var rfl k2 ((rG.trans r7).trans r8)) (ea_cons (ev_IC (f := fun i j => i * j) (i := 2) (j := s) ev_int (ev_slot rfl fun _ => .int _) (.inl ⟨by decide, by decide⟩)) ea_nil)) ⟨b, 2 * s, rfl, by omega, by omega, sb, rfl⟩) r8.pi fun v8 H9 r9 k8 => ?_
        have e8 := dp_int k8
        subst e8
        walk_at "nx"
        refine s_asg (K := K) (d := spanD b s) (ev_tup (ds := [.int (b ^ (2 * s).toNat), .int (b ^ (2 * s).toNat * b)]) (ea_cons (ev_slot rfl fun _ => .int _) (ea_cons (ev_IC (f := fun i j => i * j) (i := b ^ (2 * s).toNat) (j := b) (ev_slot rfl fun _ => .int _) (ev_var rfl k2 (((rG.trans r7).trans r8).trans r9)) (.inr (by unfold Sm at sb; omega))) ea_nil)) (by simp)) r9.pi fun v9 H10 r10 k9 => ?_
        refine fin "" (spanD b s) v9 H10 ((r7.trans r8).trans (r9.trans r10)) k9 (by decide +kernel) (.inr ⟨rfl, ?_, lo_ints (is := [b ^ (2 * s).toNat, b ^ (2 * s).toNat * b]) (by simp), rfl⟩)
        simp only [bnd]
        rw [if_pos b2, if_pos hs1]
end

end Ky
set_option Elab.async false
set_option linter.all false
set_option maxRecDepth 4000
set_option maxHeartbeats 4000000
namespace Ky
open PySem PySem.Spec PyProof.Rows L2
local macro_rules | `(tactic| walk_at "rl") => `(tactic| first | assumption | exact Rl.refl pi0 | exact Rl.refl (by assumption) | exact Rl.refl (Rl.pi (by assumption)) | (refine Rl.trans (by assumption) ?_; walk_at "rl"))
local macro_rules | `(tactic| walk_at "ev") => `(tactic| first
  | with_reducible exact ev_int | with_reducible exact ev_bl | with_reducible exact ev_str | with_reducible exact ev_non
  | ((with_reducible apply ev_var); (focus exact rfl); (focus assumption); (focus walk_at "rl"))
  | ((with_reducible apply ev_slot); (focus exact rfl); (focus first | exact fun _ => Dp.int _ | exact fun _ => Dp.bl _ | exact fun _ => Dp.str _ | exact fun _ => Dp.non))
  | with_reducible exact ea_nil | with_reducible exact eo_none | with_reducible exact et_yes
  | with_reducible exact sh_int | with_reducible exact sh_bool | with_reducible exact sh_non
  | ((with_reducible apply ea_cons) <;> try walk_at "ev")
  | ((with_reducible apply ev_I0) <;> try walk_at "ev")
  | ((with_reducible apply ev_B0) <;> try walk_at "ev")
  | ((with_reducible apply ev_IC) <;> try walk_at "ev")
  | ((with_reducible apply ev_neg) <;> try walk_at "ev")
  | ((with_reducible apply ev_chain) <;> try walk_at "ev")
  | ((with_reducible apply ev_isTup) <;> try walk_at "ev")
  | ((with_reducible apply ev_isInt) <;> try walk_at "ev")
  | ((with_reducible apply ev_isBool) <;> try walk_at "ev")
  | ((with_reducible apply ev_isStr) <;> try walk_at "ev")
  | ((with_reducible apply ev_isLst) <;> try walk_at "ev")
  | ((with_reducible apply ev_isN) <;> try walk_at "ev")
  | ((with_reducible apply ev_notN) <;> try walk_at "ev")
  | ((with_reducible apply ev_notB) <;> try walk_at "ev")
  | ((with_reducible apply ev_eq) <;> try walk_at "ev")
  | ((with_reducible apply ev_ne) <;> try walk_at "ev")
  | ((with_reducible apply ev_abs) <;> try walk_at "ev")
  | ((with_reducible apply ev_max) <;> try walk_at "ev")
  | ((with_reducible apply ev_bits) <;> try walk_at "ev")
  | ((with_reducible apply ev_gcd) <;> try walk_at "ev")
  | ((with_reducible apply ev_list) <;> try walk_at "ev")
  | ((with_reducible apply ev_tuple) <;> try walk_at "ev")
  | ((with_reducible apply ev_tup) <;> try walk_at "ev")
  | ((with_reducible apply ev_lst) <;> try walk_at "ev")
  | ((with_reducible apply ev_catT) <;> try walk_at "ev")
  | ((with_reducible apply ev_slice) <;> try walk_at "ev")
  | ((with_reducible apply eo_some) <;> try walk_at "ev")
  | ((with_reducible apply ev_notV) <;> try walk_at "ev")
  | ((with_reducible apply et_test) <;> try walk_at "ev")
  | ((with_reducible apply et_B) <;> try walk_at "ev")
  | ((with_reducible apply et_not) <;> try walk_at "ev")
  | ((with_reducible apply ev_lenT); (focus (walk_at "ev"; done)))
  | ((with_reducible apply ev_lenL); (focus (walk_at "ev"; done)))
  | ((with_reducible apply ev_intI); (focus (walk_at "ev"; done)))
  | ((with_reducible apply ev_intB); (focus (walk_at "ev"; done)))
  | ((with_reducible apply ev_ixT); (focus (walk_at "ev"; done)); (focus (walk_at "ev"; done)); (try first | rfl | assumption))
  | ((with_reducible apply ev_ixL); (focus (walk_at "ev"; done)); (focus (walk_at "ev"; done)); (try first | rfl | assumption))
  | ((with_reducible apply ev_call); (focus (walk_at "ev"; done))))
local macro_rules | `(tactic| walk_at "nx") => `(tactic| ((try dsimp only); (try ((with_reducible refine st_next ?_); (try dsimp only))); (try with_reducible refine st_seq ?_)))
section
variable {P : Program} {w : World} {K : PySem.W.Frag} {mg : Str → Option Value} {base : Heap} {f : Addr} {fd : FuncData} {C fI CO : Addr} {fdI : FuncData}
def c0 : Net := ⟨["low", "high"], [("p", 2)], [⟨"tie", 1, -1, 1, 2⟩]⟩
def ch0 : List (Int × Int) := [(0, 1), (1, 1), (1, 2)]
theorem one_mem {α : Type} {a : α} {p : α → Prop} (h : p a) : ∀ x, x ∈ [a] → p x := fun x m => by
  rcases List.mem_cons.mp m with e | m
  · rw [e]; exact h
  · cases m
theorem c0_good : c0.Good := ⟨one_mem (by decide +kernel), by decide, by decide, one_mem ⟨by decide, by decide⟩, one_mem ⟨by decide, by decide⟩⟩
theorem sm_q {i j : Int} (h : i.natAbs < 1048576 := by decide) (h' : j.natAbs < 1048576 := by decide) : Sm 1000 (i, j).1 ∧ Sm 1000 (i, j).2 := ⟨sm_lit h (by decide), sm_lit h' (by decide)⟩
theorem hand_st {h a b s t : Int} (h1 : posOk c0 (nums [1]) = true) (h2 : heldOk c0.n (nums [0, 1, h]) = true) (h3 : worldOk c0 (wdD 3 [(a, 1)] [(b, 1)] ch0) = true) (h4 : slackOk (qD (s, t)) = true) (ha : a.natAbs < 1048576 := by decide) (hb : b.natAbs < 1048576 := by decide) (hs : s.natAbs < 1048576 := by decide) (ht : t.natAbs < 1048576 := by decide) :
    Stated c0 [1] [0, 1, h] 3 [(a, 1)] [(b, 1)] ch0 (s, t) :=
  ⟨h1, h2, h3, h4, sm_lit (by decide) (by decide), one_mem (sm_q ha), one_mem (sm_q hb), (fun q m => by
    rcases List.mem_cons.mp m with e | m
    · rw [e]; exact sm_q
    · rcases List.mem_cons.mp m with e | m
      · rw [e]; exact sm_q
      · rcases List.mem_cons.mp m with e | m
        · rw [e]; exact sm_q
        · cases m), sm_q hs ht⟩
theorem hand_args {σ : L2.St} {H : Hp} {h a b s t : Int} (k0 : EvD K p0 (tVar 0) σ H (netD c0)) (k1 : EvD K p0 (tVar 1) σ H (qs ch0)) :
    EvA K p0 (tCons (tVar 0) (tCons (tTup (tCons (tC (.int 1)) tNil)) (tCons (tTup (tCons (tC (.int 0)) (tCons (tC (.int 1)) (tCons (tC (.int h)) tNil)))) (tCons (tTup (tCons (tC (.int 3)) (tCons (tTup (tCons (tTup (tCons (tC (.int a)) (tCons (tC (.int 1)) tNil))) tNil)) (tCons (tTup (tCons (tTup (tCons (tC (.int b)) (tCons (tC (.int 1)) tNil))) tNil)) (tCons (tVar 1) tNil))))) (tCons (tTup (tCons (tC (.int s)) (tCons (tC (.int t)) tNil))) tNil))))) σ H
      [netD c0, nums [1], nums [0, 1, h], wdD 3 [(a, 1)] [(b, 1)] ch0, qD (s, t)] :=
  ea_cons k0 (ea_cons (ev_tup (ds := [.int 1]) (ea_cons ev_int ea_nil) (by simp)) (ea_cons (ev_tup (ds := [.int 0, .int 1, .int h]) (ea_cons ev_int (ea_cons ev_int (ea_cons ev_int ea_nil))) (by simp)) (ea_cons
    (ev_tup (ds := [.int 3, qs [(a, 1)], qs [(b, 1)], qs ch0]) (ea_cons ev_int (ea_cons (ev_tup (ds := [qD (a, 1)]) (ea_cons (ev_tup (ds := [.int a, .int 1]) (ea_cons ev_int (ea_cons ev_int ea_nil)) (by simp)) ea_nil) (by simp)) (ea_cons (ev_tup (ds := [qD (b, 1)]) (ea_cons (ev_tup (ds := [.int b, .int 1]) (ea_cons ev_int (ea_cons ev_int ea_nil)) (by simp)) ea_nil) (by simp)) (ea_cons k1 ea_nil)))) (by simp))
    (ea_cons (ev_tup (ds := [.int s, .int t]) (ea_cons ev_int (ea_cons ev_int ea_nil)) (by simp)) ea_nil))))
theorem hand_wf {h a b s t : Int} {r : Option (Str × Nat)} (S : Stated c0 [1] [0, 1, h] 3 [(a, 1)] [(b, 1)] ch0 (s, t)) (e : faultP c0 [1] [0, 1, h] 3 [(a, 1)] [(b, 1)] ch0 (s, t) = r) : Rwf [netD c0, nums [1], nums [0, 1, h], wdD 3 [(a, 1)] [(b, 1)] ch0, qD (s, t)] (.ok (outD r)) :=
  ⟨c0, _, _, _, _, rfl, c0_good, .inr (.inr (.inr (.inr ⟨_, _, _, _, _, _, _, rfl, rfl, rfl, rfl, S, by rw [e]⟩)))⟩
theorem same_word {σ : L2.St} {H : Hp} {x : Str} {i : Int} {te : TE} (hx : PySem.PyData.canLay0 (.str x) = true) (k : EvD K p0 te σ H (.tuple [.str x, .int i])) : EvD K p0 (tCall (SpR K Rsame) [] E0 (tCons te (tCons (tTup (tCons (tC (.str x)) (tCons (tC (.int i)) tNil))) tNil))) σ H (.bool true) :=
  ev_call (ds := [.tuple [.str x, .int i], .tuple [.str x, .int i]]) (ea_cons k (ea_cons (ev_tup (ea_cons ev_str (ea_cons ev_int ea_nil)) (by simp)) ea_nil)) ⟨_, _, true, rfl, lo_word hx, lo_word hx, rfl, rfl, by simp⟩
theorem ok_law_by_hand (FR : Free mg) (A : At K mg "_law_by_hand" s_law_by_hand P_law_by_hand f fd) (c1 : Prm P w K mg base (L2.CX P w) 6 "world_fault" P_world_fault (SpX K C Rwf)) (c2 : Prm P w K mg base CX0 3 "_law_same" P_law_same (SpR K Rsame)) (c3 : Prm P w K mg base (L2.CX P w) 5 "flow_bounds" P_flow_bounds (SpX K C Rfb)) :
    Prm P w K mg base CX0 7 "_law_by_hand" P_law_by_hand (SpR K Rhand) := by
  refine mk_prm A sc_law_by_hand (fun ds d ⟨e, _⟩ => by rw [e]; rfl) (dv_law_by_hand FR c1 c2 c3) ?_
  rintro vs ds d H Q hv ⟨rfl, rfl⟩ hq
  cases hv
  show t_law_by_hand K C _ [none, none, none] H
  unfold t_law_by_hand
  walk_at "nx"
  refine s_asg (K := K) (d := netD c0) (ev_tup (ds := [.tuple [.str "low", .str "high"], .tuple [.tuple [.str "p", .int 2]], .tuple [.tuple [.str "tie", .int 1, .int (-1), .int 1, .int 2]]]) (ea_cons (ev_tup (ea_cons ev_str (ea_cons ev_str ea_nil)) (by simp)) (ea_cons (ev_tup (ea_cons (ev_tup (ea_cons ev_str (ea_cons ev_int ea_nil)) (by simp)) ea_nil) (by simp)) (ea_cons (ev_tup (ea_cons (ev_tup (ea_cons ev_str (ea_cons ev_int (ea_cons (ev_neg ev_int) (ea_cons ev_int (ea_cons ev_int ea_nil))))) (by simp)) ea_nil) (by simp)) ea_nil))) (by simp)) pi0 fun v0 H1 r1 k0 => ?_
  walk_at "nx"
  refine s_asg (K := K) (d := qs ch0) (ev_tup (ds := [qD (0, 1), qD (1, 1), qD (1, 2)]) (ea_cons (ev_tup (ds := [.int 0, .int 1]) (ea_cons ev_int (ea_cons ev_int ea_nil)) (by simp)) (ea_cons (ev_tup (ds := [.int 1, .int 1]) (ea_cons ev_int (ea_cons ev_int ea_nil)) (by simp)) (ea_cons (ev_tup (ds := [.int 1, .int 2]) (ea_cons ev_int (ea_cons ev_int ea_nil)) (by simp)) ea_nil))) (by simp)) pi0 fun v1 H2 r2 k1 => ?_
  have kk0 : ∀ {v2 : Option V} {H' : Hp}, Rl p0 H2 H' → EvD K p0 (tVar 0) [some v0, some v1, v2] H' (netD c0) := fun r => ev_var rfl k0 (r2.trans r)
  have kk1 : ∀ {v2 : Option V} {H' : Hp}, Rl p0 H2 H' → EvD K p0 (tVar 1) [some v0, some v1, v2] H' (qs ch0) := fun r => ev_var rfl k1 r
  have dd : ∀ {p : Prop} [Decidable p], decide p = true → p := fun h => of_decide_eq_true h
  walk_at "nx"
  refine s_no (b := false) (et_test (K := K) (ev_is (ev_notN (ev_callX (hand_args (kk0 (Rl.refl pi0)) (kk1 (Rl.refl pi0))) (hand_wf (hand_st (by decide +kernel) (by decide +kernel) (by decide +kernel) (by decide +kernel)) (r := none) (by decide +kernel)))) rfl)) rfl pi0 fun H3 r3 => ?_
  walk_at "nx"
  refine s_no (b := false) (et_test (K := K) (ev_is (ev_notN (ev_callX (hand_args (kk0 r3) (kk1 r3)) (hand_wf (hand_st (by decide +kernel) (by decide +kernel) (by decide +kernel) (by decide +kernel)) (r := none) (by decide +kernel)))) rfl)) rfl pi0 fun H4 r4 => ?_
  walk_at "nx"
  refine s_asg (K := K) (d := outD (some ("charge", 2))) (ev_callX (hand_args (kk0 (r3.trans r4)) (kk1 (r3.trans r4))) (hand_wf (hand_st (by decide +kernel) (by decide +kernel) (by decide +kernel) (by decide +kernel)) (r := some ("charge", 2)) (by decide +kernel))) pi0 fun v5 H5 r5 k5 => ?_
  walk_at "nx"
  refine s_no (b := false) (et_not (a := true) (et_B (same_word (x := "charge") (i := 2) (by decide +kernel) (ev_var rfl k5 (Rl.refl pi0))))) rfl pi0 fun H6 r6 => ?_
  walk_at "nx"
  refine s_asg (K := K) (d := outD (some ("flow", 0))) (ev_callX (hand_args (kk0 (((r3.trans r4).trans r5).trans r6)) (kk1 (((r3.trans r4).trans r5).trans r6))) (hand_wf (hand_st (by decide +kernel) (by decide +kernel) (by decide +kernel) (by decide +kernel)) (r := some ("flow", 0)) (by decide +kernel))) pi0 fun v7 H7 r7 k7 => ?_
  walk_at "nx"
  refine s_no (b := false) (et_not (a := true) (et_B (same_word (x := "flow") (i := 0) (by decide +kernel) (ev_var rfl k7 (Rl.refl pi0))))) rfl pi0 fun H8 r8 => ?_
  walk_at "nx"
  refine s_asg (K := K) (d := outD (some ("room", 0))) (ev_callX (hand_args (kk0 (((((r3.trans r4).trans r5).trans r6).trans r7).trans r8)) (kk1 (((((r3.trans r4).trans r5).trans r6).trans r7).trans r8))) (hand_wf (hand_st (by decide +kernel) (by decide +kernel) (by decide +kernel) (by decide +kernel)) (r := some ("room", 0)) (by decide +kernel))) pi0 fun v9 H9 r9 k9 => ?_
  walk_at "nx"
  refine s_ret (en_flat (d := .bool true) ?_ rfl) ((r1.trans r2).trans ((((((r3.trans r4).trans r5).trans r6).trans r7).trans r8).trans r9)).e0 (hq)
  exact ev_andV (a := true) (b := true) (same_word (x := "room") (i := 0) (by decide +kernel) (ev_var rfl k9 (Rl.refl pi0))) fun _ => ev_call (ds := [nums [10000, 100000], nums [10000, 100000]]) (ea_cons (ev_callX (ds := [.int 10, .int 2]) (ea_cons ev_int (ea_cons ev_int ea_nil)) ⟨_, _, rfl, fun i e => by cases e; exact sm_lit (by decide) (by decide), rfl⟩) (ea_cons (ev_tup (ds := [.int 10000, .int 100000]) (ea_cons ev_int (ea_cons ev_int ea_nil)) (by simp)) ea_nil)) ⟨_, _, true, rfl, lo_ints (by simp), lo_ints (by simp), rfl, rfl, by simp⟩
end

end Ky
set_option Elab.async false
set_option linter.all false
set_option maxRecDepth 4000
set_option maxHeartbeats 4000000
namespace Ky
open PySem PySem.Spec PyProof.Rows L2
local macro_rules | `(tactic| walk_at "rl") => `(tactic| first | assumption | exact Rl.refl pi0 | exact Rl.refl (by assumption) | exact Rl.refl (Rl.pi (by assumption)) | (refine Rl.trans (by assumption) ?_; walk_at "rl"))
local macro_rules | `(tactic| walk_at "ev") => `(tactic| first
  | with_reducible exact ev_int | with_reducible exact ev_bl | with_reducible exact ev_str | with_reducible exact ev_non
  | ((with_reducible apply ev_var); (focus exact rfl); (focus assumption); (focus walk_at "rl"))
  | ((with_reducible apply ev_slot); (focus exact rfl); (focus first | exact fun _ => Dp.int _ | exact fun _ => Dp.bl _ | exact fun _ => Dp.str _ | exact fun _ => Dp.non))
  | with_reducible exact ea_nil | with_reducible exact eo_none | with_reducible exact et_yes
  | with_reducible exact sh_int | with_reducible exact sh_bool | with_reducible exact sh_non
  | ((with_reducible apply ea_cons) <;> try walk_at "ev")
  | ((with_reducible apply ev_I0) <;> try walk_at "ev")
  | ((with_reducible apply ev_B0) <;> try walk_at "ev")
  | ((with_reducible apply ev_IC) <;> try walk_at "ev")
  | ((with_reducible apply ev_neg) <;> try walk_at "ev")
  | ((with_reducible apply ev_chain) <;> try walk_at "ev")
  | ((with_reducible apply ev_isTup) <;> try walk_at "ev")
  | ((with_reducible apply ev_isInt) <;> try walk_at "ev")
  | ((with_reducible apply ev_isBool) <;> try walk_at "ev")
  | ((with_reducible apply ev_isStr) <;> try walk_at "ev")
  | ((with_reducible apply ev_isLst) <;> try walk_at "ev")
  | ((with_reducible apply ev_isN) <;> try walk_at "ev")
  | ((with_reducible apply ev_notN) <;> try walk_at "ev")
  | ((with_reducible apply ev_notB) <;> try walk_at "ev")
  | ((with_reducible apply ev_eq) <;> try walk_at "ev")
  | ((with_reducible apply ev_ne) <;> try walk_at "ev")
  | ((with_reducible apply ev_abs) <;> try walk_at "ev")
  | ((with_reducible apply ev_max) <;> try walk_at "ev")
  | ((with_reducible apply ev_bits) <;> try walk_at "ev")
  | ((with_reducible apply ev_gcd) <;> try walk_at "ev")
  | ((with_reducible apply ev_list) <;> try walk_at "ev")
  | ((with_reducible apply ev_tuple) <;> try walk_at "ev")
  | ((with_reducible apply ev_tup) <;> try walk_at "ev")
  | ((with_reducible apply ev_lst) <;> try walk_at "ev")
  | ((with_reducible apply ev_catT) <;> try walk_at "ev")
  | ((with_reducible apply ev_slice) <;> try walk_at "ev")
  | ((with_reducible apply eo_some) <;> try walk_at "ev")
  | ((with_reducible apply ev_notV) <;> try walk_at "ev")
  | ((with_reducible apply et_test) <;> try walk_at "ev")
  | ((with_reducible apply et_B) <;> try walk_at "ev")
  | ((with_reducible apply et_not) <;> try walk_at "ev")
  | ((with_reducible apply ev_lenT); (focus (walk_at "ev"; done)))
  | ((with_reducible apply ev_lenL); (focus (walk_at "ev"; done)))
  | ((with_reducible apply ev_intI); (focus (walk_at "ev"; done)))
  | ((with_reducible apply ev_intB); (focus (walk_at "ev"; done)))
  | ((with_reducible apply ev_ixT); (focus (walk_at "ev"; done)); (focus (walk_at "ev"; done)); (try first | rfl | assumption))
  | ((with_reducible apply ev_ixL); (focus (walk_at "ev"; done)); (focus (walk_at "ev"; done)); (try first | rfl | assumption))
  | ((with_reducible apply ev_call); (focus (walk_at "ev"; done))))
local macro_rules | `(tactic| walk_at "nx") => `(tactic| ((try dsimp only); (try ((with_reducible refine st_next ?_); (try dsimp only))); (try with_reducible refine st_seq ?_)))
section
theorem pos_of {c : Net} {ps : List Int} (h : PsOk c ps) : posOk c (nums ps) = true := by
  unfold nums posOk
  rw [Bool.and_eq_true]
  refine ⟨by rw [List.length_map, h.1]; simp, posAll_iff.mpr fun i d s hd hs => ?_⟩
  obtain ⟨x, hx, rfl⟩ := get_map hd
  obtain ⟨h1, h2, h3⟩ := h.2 i x s hx hs
  unfold pc
  show ((decide (0 ≤ x) && decide (x ≤ 2)) && !(decide (s.kind = "tie") && !decide (x = 1))) = true
  by_cases e : s.kind = "tie"
  · have := h3 e
    subst this
    simp
  · simp [e, h1, h2]
theorem held_of {c : Net} {hs : List Int} (h : HsOk c hs) : heldOk c.n (nums hs) = true := by
  obtain ⟨h1, h2, h3, h4⟩ := h
  unfold nums heldOk
  rw [Bool.and_eq_true, Bool.and_eq_true, Bool.and_eq_true]
  refine ⟨⟨⟨by rw [List.length_map, h1]; simp, List.all_eq_true.mpr fun d m => ?_⟩, ?_⟩, ?_⟩
  · obtain ⟨x, hx, rfl⟩ := List.mem_map.mp m
    obtain ⟨i, hi⟩ := List.getElem?_of_mem hx
    have := h4 i x hi
    show (decide (0 ≤ x) && decide (x ≤ 2)) = true
    simp [this]
  · rw [List.getD_eq_getElem?_getD, List.getElem?_map, h2]
    rfl
  · rw [List.getD_eq_getElem?_getD, List.getElem?_map, h3]
    rfl
theorem areQ_l {f : Int → Int → Bool} {n : Nat} {l : List (Int × Int)} (hl : l.length = n) (h : ∀ q, q ∈ l → QOk q ∧ f q.1 q.2 = true) : areQ f n (qs l) = true := by
  unfold qs
  rw [areQ_t, Bool.and_eq_true]
  refine ⟨by rw [List.length_map, hl]; simp, List.all_eq_true.mpr fun d m => ?_⟩
  obtain ⟨q, hq, rfl⟩ := List.mem_map.mp m
  obtain ⟨h1, h2⟩ := h q hq
  show isQf f (qD (q.1, q.2)) = true
  rw [isQf_ok, h2, decide_eq_true h1.b1, decide_eq_true h1.g1]
  rfl
theorem world_of {c : Net} {b : Int} {fl rm ch : List (Int × Int)} (h : WorldOk c b fl rm ch) : worldOk c (wdD b fl rm ch) = true := by
  show (isBase (.int b) && areQ _ _ (qs fl) && areQ _ _ (qs rm) && areQ _ _ (qs ch)) = true
  rw [areQ_l h.nf fun q m => ⟨(h.f q m).1, by simpa using (h.f q m).2⟩, areQ_l h.nr fun q m => ⟨(h.r q m).1, by simpa using (h.r q m).2⟩, areQ_l h.nc fun q m => ⟨(h.q q m).1, by simpa using (h.q q m).2⟩]
  have := h.b2
  simp [isBase, this]
theorem slack_of {w : Int × Int} (h : WideOk w) : slackOk (qD w) = true := by
  show isQf _ (qD (w.1, w.2)) = true
  rw [isQf_ok, decide_eq_true h.1.b1, decide_eq_true h.1.g1, decide_eq_true h.2.2.2]
  rfl
theorem stated_of {c : Net} {ps hs : List Int} {b : Int} {fl rm ch : List (Int × Int)} {w : Int × Int} (hp : PsOk c ps) (hh : HsOk c hs) (hw : WideOk w) (W : WorldOk c b fl rm ch) : Stated c ps hs b fl rm ch w :=
  ⟨pos_of hp, held_of hh, world_of W, slack_of hw, sm_mono (sm_ground W.bm W.b2) (by decide), fun q m => ⟨sm_mono (W.f q m).1.sm1 (by decide), sm_mono (W.f q m).1.sm2 (by decide)⟩, fun q m => ⟨sm_mono (W.r q m).1.sm1 (by decide), sm_mono (W.r q m).1.sm2 (by decide)⟩, fun q m => ⟨sm_mono (W.q q m).1.sm1 (by decide), sm_mono (W.q q m).1.sm2 (by decide)⟩, sm_mono hw.2.1 (by decide), sm_mono hw.2.2.1 (by decide)⟩
/-! ### the law's fault is the program's -/
theorem find_congr {l : List Nat} {f g : Nat → Bool} (h : ∀ x, x ∈ l → f x = g x) : l.find? f = l.find? g := by
  induction l with
  | nil => rfl
  | cons a l ih =>
    rw [List.find?_cons, List.find?_cons, h a List.mem_cons_self, ih fun x m => h x (List.mem_cons_of_mem _ m)]
theorem first_congr {n : Nat} {f g : Nat → Bool} (h : ∀ i, i < n → f i = g i) : firstAt n f = firstAt n g := find_congr fun x m => h x (List.mem_range.mp m)
theorem bad_flow {b s p : Int} {q : Int × Int} (h0 : 0 ≤ q.1) (hp : p = 0 ∨ p = 1 ∨ p = 2) (hpos : 0 ≤ b ^ (2 * s).toNat * b * q.2) : (!fflow b s p q) = lflow b s p q := by
  unfold fflow lflow fitsB
  rcases hp with rfl | rfl | rfl
  · rw [if_neg (show ¬ (0 : Int) = 1 by decide), if_pos (show (0 : Int) = 0 from rfl)]
    generalize b ^ (2 * s).toNat * b * q.2 = U at hpos ⊢
    generalize b ^ (2 * s).toNat * q.2 = B
    simp
    by_cases e : q.1 = 0 <;> simp [e] <;> omega
  · rw [if_pos (show (1 : Int) = 1 from rfl), if_neg (show ¬ (1 : Int) = 0 by decide)]
    generalize b ^ (2 * s).toNat * b * q.2 = U at hpos ⊢
    generalize b ^ (2 * s).toNat * q.2 = B
    simp
    by_cases e : q.1 < B <;> by_cases e2 : U < q.1 <;> simp [e, e2] <;> omega
  · rw [if_neg (show ¬ (2 : Int) = 1 by decide), if_neg (show ¬ (2 : Int) = 0 by decide)]
    generalize b ^ (2 * s).toNat * b * q.2 = U at hpos ⊢
    generalize b ^ (2 * s).toNat * q.2 = B
    simp
    by_cases e2 : U < q.1 <;> simp [e2, h0] <;> omega
theorem bad_room {b s : Int} {q : Int × Int} : (!froom b s q) = lroom b s q := by
  unfold froom lroom fitsB
  rw [Int.mul_right_comm _ b q.2]
  generalize b ^ (2 * s).toNat * q.2 * b = U
  generalize b ^ (2 * s).toNat * q.2 = B
  by_cases e : q.1 < B <;> by_cases e2 : U < q.1 <;> simp [e, e2] <;> omega
theorem far_lt {t u x y : Int} {g : Nat} (hg : 0 < g) (d1 : (g : Int) ∣ t) (d2 : (g : Int) ∣ u) : (x * (u / (g : Int)) < (t / (g : Int)) * y) ↔ x * u < t * y := by
  obtain ⟨t', rfl⟩ := d1
  obtain ⟨u', rfl⟩ := d2
  have hne : (g : Int) ≠ 0 := by omega
  rw [Int.mul_ediv_cancel_left _ hne, Int.mul_ediv_cancel_left _ hne]
  have e1 : x * ((g : Int) * u') = (g : Int) * (x * u') := by rw [← Int.mul_assoc, Int.mul_comm x, Int.mul_assoc]
  have e2 : (g : Int) * t' * y = (g : Int) * (t' * y) := Int.mul_assoc _ _ _
  rw [e1, e2]
  constructor
  · intro h
    exact Int.mul_lt_mul_of_pos_left h (by omega)
  · intro h
    exact Int.lt_of_mul_lt_mul_left h (by omega)
theorem bad_charge {h : Int} {q sl : Int × Int} {tank : Bool} (hh : h = 0 ∨ h = 1 ∨ h = 2) (hq : 1 ≤ q.2) (hs : 1 ≤ sl.2) : (!fcharge h q (if tank = true then sl else (0, 1))) = lcharge h q sl tank := by
  have key : ∀ t u : Int, u = q.2 → t = (if h = 1 then q.2 - q.1 else q.1) → ((if tank = true then sl else ((0 : Int), (1 : Int))).1 * u < t * (if tank = true then sl else ((0 : Int), (1 : Int))).2 ↔ (if tank = true then sl.1 * q.2 else 0) < (if h = 1 then q.2 - q.1 else q.1) * sl.2) := by
    intro t u hu ht
    subst hu
    rw [← ht]
    cases tank with
    | true => simp
    | false =>
      simp
      constructor
      · intro h; exact Int.mul_pos h (by omega)
      · intro h
        apply Decidable.byContradiction
        intro hn
        have : t * sl.2 ≤ 0 := Int.mul_nonpos_of_nonpos_of_nonneg (by omega) (by omega)
        omega
  unfold fcharge lcharge
  rcases hh with rfl | rfl | rfl
  · have k := key q.1 q.2 rfl (by simp)
    simp only [far, if_pos]
    simp only [show ¬ (0 : Int) = 2 by decide, if_neg, not_false_iff, decide_false, Bool.not_false, Bool.true_and, Bool.not_not]
    exact decide_eq_decide.mpr k
  · have hg := gcd_pos (t := q.2 - q.1) (b := q.2) (by omega)
    have d1 : ((Nat.gcd (q.2 - q.1).natAbs q.2.natAbs : Nat) : Int) ∣ (q.2 - q.1) := Int.ofNat_dvd_left.mpr (Nat.gcd_dvd_left _ _)
    have d2 : ((Nat.gcd (q.2 - q.1).natAbs q.2.natAbs : Nat) : Int) ∣ q.2 := Int.ofNat_dvd_left.mpr (Nat.gcd_dvd_right _ _)
    have k := key (q.2 - q.1) q.2 rfl (by simp)
    unfold far
    simp only [show ¬ (1 : Int) = 2 by decide, show ¬ (1 : Int) = 0 by decide, if_neg, not_false_iff, decide_false, Bool.not_false, Bool.true_and, Bool.not_not]
    exact decide_eq_decide.mpr ((far_lt hg d1 d2).trans k)
  · simp
theorem fault_eq {c : Net} {ps hs : List Int} {b : Int} {fl rm ch : List (Int × Int)} {sl : Int × Int} (S : Stated c ps hs b fl rm ch sl) : faultP c ps hs b fl rm ch sl = faultL c ps hs b fl rm ch sl := by
  obtain ⟨b2, lf, lr, lc, qc⟩ := wd_parts S.world
  have lp := pos_len S.pos
  have lh := held_len S.held
  have hW := S.world
  have hv : ∀ d, d ∈ hs.map PyData.int → isVal d = true := by
    have := S.held
    unfold nums heldOk at this
    rw [Bool.and_eq_true, Bool.and_eq_true, Bool.and_eq_true] at this
    exact List.all_eq_true.mp this.1.1.2
  have hpv : ∀ (i : Nat) (p : Int) (s : Sw), ps[i]? = some p → c.sws[i]? = some s → isVal (.int p) = true := fun i p s h1 h2 => by
    have := S.pos
    unfold nums posOk at this
    rw [Bool.and_eq_true] at this
    have := posAll_iff.mp this.2 i (.int p) s (by rw [List.getElem?_map, h1]; rfl) h2
    unfold pc at this
    exact (Bool.and_eq_true _ _ ▸ this).1
  have hF : ∀ q, q ∈ fl → 1 ≤ q.2 ∧ 0 ≤ q.1 := fun q m => by
    have : areQ (fun a _ => decide (0 ≤ a)) c.sws.length (qs fl) = true := by
      unfold wdD worldOk at hW
      simp only [Bool.and_eq_true] at hW
      exact hW.1.1.2
    unfold qs at this
    rw [areQ_t, Bool.and_eq_true] at this
    have := List.all_eq_true.mp this.2 (qD q) (List.mem_map_of_mem m)
    have : isQf (fun a _ => decide (0 ≤ a)) (qD (q.1, q.2)) = true := this
    rw [isQf_ok] at this
    simp at this
    exact ⟨this.1.1, this.2⟩
  have hs2 : 1 ≤ sl.2 := isQ_b (a := sl.1) (b := sl.2) (slackOk_q S.slack)
  unfold faultP faultL
  congr 1
  · refine first_congr fun i hi => ?_
    obtain ⟨sw, hsw⟩ := get_lt hi
    obtain ⟨p, hp⟩ := get_lt (l := ps) (i := i) (by omega)
    obtain ⟨q, hq⟩ := get_lt (l := fl) (i := i) (by omega)
    rw [flowBad_at hsw hp hq, hsw, getD_of hp, getD_of hq]
    have h1 := hF q (List.mem_of_getElem? hq)
    have h2 := hpv i p sw hp hsw
    refine bad_flow h1.2 ?_ ?_
    · have : 0 ≤ p ∧ p ≤ 2 := by simpa [isVal] using h2
      omega
    · exact Int.mul_nonneg (Int.mul_nonneg (Int.le_of_lt (pow_p b2 _)) (by omega)) (by omega)
  · refine first_congr fun i hi => ?_
    obtain ⟨t, ht⟩ := get_lt hi
    obtain ⟨q, hq⟩ := get_lt (l := rm) (i := i) (by omega)
    rw [roomBad_at ht hq, ht, getD_of hq]
    exact bad_room
  · refine first_congr fun i hi => ?_
    obtain ⟨h, hh⟩ := get_lt (l := hs) (i := i) (by omega)
    obtain ⟨q, hq⟩ := get_lt (l := ch) (i := i) (by omega)
    rw [chBad_at hh hq, getD_of hh, getD_of hq]
    have h2 := hv (.int h) (List.mem_map_of_mem (List.mem_of_getElem? hh))
    have hq1 := qc q (List.mem_of_getElem? hq)
    have := bad_charge (tank := decide (c.feeds.length ≤ i)) (sl := sl) (q := q) (h := h) (by have : 0 ≤ h ∧ h ≤ 2 := by simpa [isVal] using h2
                                                                                              omega) (isQ_b (a := q.1) (b := q.2) hq1) hs2
    simpa using this
/-! ### a world that is_world takes is one of bounded numbers -/
theorem qs_of {f : Int → Int → Bool} : ∀ {ds : List D}, (∀ d, d ∈ ds → isQf f d = true) → ∃ l : List (Int × Int), ds = l.map qD
  | [], _ => ⟨[], rfl⟩
  | d :: ds, h => by
    obtain ⟨a, b, e, _⟩ := isQf_q (h d List.mem_cons_self)
    obtain ⟨l, hl⟩ := qs_of fun x m => h x (List.mem_cons_of_mem _ m)
    exact ⟨(a, b) :: l, by rw [e, hl]; rfl⟩
theorem areQ_q {f : Int → Int → Bool} {n : Nat} {d : D} (h : areQ f n d = true) : ∃ l : List (Int × Int), d = qs l := by
  cases d with
  | tuple ds =>
    rw [areQ_t, Bool.and_eq_true] at h
    obtain ⟨l, hl⟩ := qs_of (List.all_eq_true.mp h.2)
    exact ⟨l, by rw [hl]; rfl⟩
  | _ => cases h
theorem qs_sm {l : List (Int × Int)} (h : Bd (qs l)) : ∀ q, q ∈ l → Sm 1000 q.1 ∧ Sm 1000 q.2 := fun q m => by
  have h1 : Bd (qD q) := Bd.mem h (List.mem_map_of_mem m)
  unfold qD at h1
  exact ⟨(h1.mem (d := .int q.1) (by simp)).sm, (h1.mem (d := .int q.2) (by simp)).sm⟩
theorem world_parts {c : Net} {d : D} (h : worldOk c d = true) (hb : BdW d) : ∃ b fl rm ch, d = wdD b fl rm ch ∧ Sm 64 b ∧ (∀ q, q ∈ fl → Sm 1000 q.1 ∧ Sm 1000 q.2) ∧ (∀ q, q ∈ rm → Sm 1000 q.1 ∧ Sm 1000 q.2) ∧ (∀ q, q ∈ ch → Sm 1000 q.1 ∧ Sm 1000 q.2) := by
  cases ht : tupN 4 d with
  | false => rw [worldOk_no ht] at h; cases h
  | true =>
    obtain ⟨es, rfl, hl⟩ := tupN_t ht
    match es, hl with
    | [x, f, r, q], _ =>
      have h' : (isBase x && areQ _ _ f && areQ _ _ r && areQ _ _ q) = true := h
      simp only [Bool.and_eq_true] at h'
      obtain ⟨⟨⟨h1, h2⟩, h3⟩, h4⟩ := h'
      obtain ⟨b, rfl, _⟩ := isBase_int h1
      obtain ⟨fl, rfl⟩ := areQ_q h2
      obtain ⟨rm, rfl⟩ := areQ_q h3
      obtain ⟨ch, rfl⟩ := areQ_q h4
      have bd := hb.1
      exact ⟨b, fl, rm, ch, rfl, hb.2 b _ rfl, qs_sm (bd.mem (by simp)), qs_sm (bd.mem (by simp)), qs_sm (bd.mem (by simp))⟩
theorem stated_bent {c : Net} {ps hs : List Int} {w : Int × Int} {d : D} (hp : PsOk c ps) (hh : HsOk c hs) (hw : WideOk w) (h : worldOk c d = true) (hb : BdW d) : ∃ b fl rm ch, d = wdD b fl rm ch ∧ Stated c ps hs b fl rm ch w := by
  obtain ⟨b, fl, rm, ch, rfl, h1, h2, h3, h4⟩ := world_parts h hb
  exact ⟨b, fl, rm, ch, rfl, pos_of hp, held_of hh, h, slack_of hw, h1, h2, h3, h4, sm_mono hw.2.1 (by decide), sm_mono hw.2.2.1 (by decide)⟩
theorem wf_ok {c : Net} {ps hs : List Int} {b : Int} {fl rm ch : List (Int × Int)} {w : Int × Int} (g : c.Good) (S : Stated c ps hs b fl rm ch w) : Rwf [netD c, nums ps, nums hs, wdD b fl rm ch, qD w] (.ok (outD (faultL c ps hs b fl rm ch w))) :=
  ⟨c, _, _, _, _, rfl, g, .inr (.inr (.inr (.inr ⟨_, _, _, _, _, _, _, rfl, rfl, rfl, rfl, S, by rw [fault_eq S]⟩)))⟩
theorem three_word {a b d : Option Nat} {w : Str} {i : Nat} (h : three a b d = some (w, i)) : PySem.PyData.canLay0 (.str w) = true := by
  unfold three at h
  cases a with
  | some j => cases h; decide +kernel
  | none =>
    cases b with
    | some j => cases h; decide +kernel
    | none =>
      cases d with
      | some j => cases h; decide +kernel
      | none => cases h
theorem lo_out {c : Net} {ps hs : List Int} {b : Int} {fl rm ch : List (Int × Int)} {w : Int × Int} : Lo (outD (faultL c ps hs b fl rm ch w)) ∧ isLst (outD (faultL c ps hs b fl rm ch w)) = false := by
  cases e : faultL c ps hs b fl rm ch w with
  | none => exact ⟨lo_non, rfl⟩
  | some p => exact ⟨lo_word (three_word (w := p.1) (i := p.2) e), rfl⟩
end

end Ky
set_option Elab.async false
set_option linter.all false
set_option maxRecDepth 4000
set_option maxHeartbeats 4000000
namespace Ky
open PySem PySem.Spec PyProof.Rows L2
local macro_rules | `(tactic| walk_at "rl") => `(tactic| first | assumption | exact Rl.refl pi0 | exact Rl.refl (by assumption) | exact Rl.refl (Rl.pi (by assumption)) | (refine Rl.trans (by assumption) ?_; walk_at "rl"))
local macro_rules | `(tactic| walk_at "ev") => `(tactic| first
  | with_reducible exact ev_int | with_reducible exact ev_bl | with_reducible exact ev_str | with_reducible exact ev_non
  | ((with_reducible apply ev_var); (focus exact rfl); (focus assumption); (focus walk_at "rl"))
  | ((with_reducible apply ev_slot); (focus exact rfl); (focus first | exact fun _ => Dp.int _ | exact fun _ => Dp.bl _ | exact fun _ => Dp.str _ | exact fun _ => Dp.non))
  | with_reducible exact ea_nil | with_reducible exact eo_none | with_reducible exact et_yes
  | with_reducible exact sh_int | with_reducible exact sh_bool | with_reducible exact sh_non
  | ((with_reducible apply ea_cons) <;> try walk_at "ev")
  | ((with_reducible apply ev_I0) <;> try walk_at "ev")
  | ((with_reducible apply ev_B0) <;> try walk_at "ev")
  | ((with_reducible apply ev_IC) <;> try walk_at "ev")
  | ((with_reducible apply ev_neg) <;> try walk_at "ev")
  | ((with_reducible apply ev_chain) <;> try walk_at "ev")
  | ((with_reducible apply ev_isTup) <;> try walk_at "ev")
  | ((with_reducible apply ev_isInt) <;> try walk_at "ev")
  | ((with_reducible apply ev_isBool) <;> try walk_at "ev")
  | ((with_reducible apply ev_isStr) <;> try walk_at "ev")
  | ((with_reducible apply ev_isLst) <;> try walk_at "ev")
  | ((with_reducible apply ev_isN) <;> try walk_at "ev")
  | ((with_reducible apply ev_notN) <;> try walk_at "ev")
  | ((with_reducible apply ev_notB) <;> try walk_at "ev")
  | ((with_reducible apply ev_eq) <;> try walk_at "ev")
  | ((with_reducible apply ev_ne) <;> try walk_at "ev")
  | ((with_reducible apply ev_abs) <;> try walk_at "ev")
  | ((with_reducible apply ev_max) <;> try walk_at "ev")
  | ((with_reducible apply ev_bits) <;> try walk_at "ev")
  | ((with_reducible apply ev_gcd) <;> try walk_at "ev")
  | ((with_reducible apply ev_list) <;> try walk_at "ev")
  | ((with_reducible apply ev_tuple) <;> try walk_at "ev")
  | ((with_reducible apply ev_tup) <;> try walk_at "ev")
  | ((with_reducible apply ev_lst) <;> try walk_at "ev")
  | ((with_reducible apply ev_catT) <;> try walk_at "ev")
  | ((with_reducible apply ev_slice) <;> try walk_at "ev")
  | ((with_reducible apply eo_some) <;> try walk_at "ev")
  | ((with_reducible apply ev_notV) <;> try walk_at "ev")
  | ((with_reducible apply et_test) <;> try walk_at "ev")
  | ((with_reducible apply et_B) <;> try walk_at "ev")
  | ((with_reducible apply et_not) <;> try walk_at "ev")
  | ((with_reducible apply ev_lenT); (focus (walk_at "ev"; done)))
  | ((with_reducible apply ev_lenL); (focus (walk_at "ev"; done)))
  | ((with_reducible apply ev_intI); (focus (walk_at "ev"; done)))
  | ((with_reducible apply ev_intB); (focus (walk_at "ev"; done)))
  | ((with_reducible apply ev_ixT); (focus (walk_at "ev"; done)); (focus (walk_at "ev"; done)); (try first | rfl | assumption))
  | ((with_reducible apply ev_ixL); (focus (walk_at "ev"; done)); (focus (walk_at "ev"; done)); (try first | rfl | assumption))
  | ((with_reducible apply ev_call); (focus (walk_at "ev"; done))))
local macro_rules | `(tactic| walk_at "nx") => `(tactic| ((try dsimp only); (try ((with_reducible refine st_next ?_); (try dsimp only))); (try with_reducible refine st_seq ?_)))
section
variable {P : Program} {w : World} {K : PySem.W.Frag} {mg : Str → Option Value} {base : Heap} {f : Addr} {fd : FuncData} {C fI CO : Addr} {fdI : FuncData}
theorem str_inj {a b : Str} (h : PyData.str a = .str b) : a = b := by cases h; rfl
theorem tkD_inj {a b : Str × Int} (h : tkD a = tkD b) : a = b := by
  obtain ⟨a1, a2⟩ := a
  obtain ⟨b1, b2⟩ := b
  unfold tkD at h
  injection h with h
  injection h with h1 h
  injection h with h2 _
  injection h1 with h1
  injection h2 with h2
  dsimp only at h1 h2
  rw [h1, h2]
theorem swD_inj {a b : Sw} (h : swD a = swD b) : a = b := by
  obtain ⟨a1, a2, a3, a4, a5⟩ := a
  obtain ⟨b1, b2, b3, b4, b5⟩ := b
  unfold swD at h
  injection h with h
  injection h with h1 h
  injection h with h2 h
  injection h with h3 h
  injection h with h4 h
  injection h with h5 _
  injection h1 with h1
  injection h2 with h2
  injection h3 with h3
  injection h4 with h4
  injection h5 with h5
  dsimp only at h1 h2 h3 h4 h5
  rw [h1, h2, h3, h4, h5]
theorem netD_inj {a b : Net} (h : netD a = netD b) : a = b := by
  obtain ⟨a1, a2, a3⟩ := a
  obtain ⟨b1, b2, b3⟩ := b
  unfold netD at h
  injection h with h
  injection h with h1 h
  injection h with h2 h
  injection h with h3 _
  injection h1 with h1
  injection h2 with h2
  injection h3 with h3
  have e1 := (List.map_inj_right (fun x y => str_inj)).mp h1
  have e2 := (List.map_inj_right (fun x y => tkD_inj)).mp h2
  have e3 := (List.map_inj_right (fun x y => swD_inj)).mp h3
  dsimp only at e1 e2 e3
  rw [e1, e2, e3]
theorem ev_callK {p : Pw} {σ : L2.St} {H : Hp} {R : List D → D → Prop} {ds es : List D} {d : D} {E : L2.St → XK} {ta : TA} {gV : List V → List V} {n : Nat} (h : EvA K p ta σ H ds) (hn : ds.length = n) (hg : ∀ vs H, DpAll K H vs ds → DpAll K H (gV vs) es) (r : R es d) : EvD K p (tCallK0 (SpR K R) gV E (tLen n ta)) σ H d := fun H1 r1 Q q =>
  h H1 r1 _ fun vs ds' H2 r2 ed kd => by
    subst ed
    exact ⟨(dpa_len kd).trans hn, es, d, hg _ _ (dpa_ex vw_sub kd), r, fun v H' e k => q v d H' (r2.trans (Rl.of r2.pi e)) rfl (dp_ex (nw_vw r2.pi) k)⟩
theorem ok_law (FR : Free mg) (A : At K mg "law" s_law P_law f fd) (c1 : Prm P w K mg base CX0 7 "_law_by_hand" P_law_by_hand (SpR K Rhand)) (c2 : Prm P w K mg base CX0 1 "_law_pool" P_law_pool (spPool K)) (c3 : Prm P w K mg base CX0 2 "_law_circuit" P_law_circuit (SpG K Pre0 PostCircuit)) (c4 : Prm P w K mg base CX0 2 "_law_stands" P_law_stands (SpG K PreNet PostStands))
    (c5 : Prm P w K mg base CX0 2 "_law_holds" P_law_holds (SpG K PreNet PostHolds)) (c6 : Prm P w K mg base CX0 2 "_law_wide" P_law_wide (SpG K Pre0 PostWide)) (c7 : Prm P w K mg base CX0 3 "_law_earth" P_law_earth (SpG K PreEarth PostEarth)) (c8 : Prm P w K mg base CX0 2 "_law_fault" P_law_fault (SpR K Rfault)) (c9 : Prm P w K mg base CX0 5 "is_world" P_is_world (SpR K Rworld))
    (c10 : Prm P w K mg base CX0 3 "_law_same" P_law_same (SpR K Rsame)) (c11 : Prm P w K mg base (L2.CX P w) 6 "world_fault" P_world_fault (SpX K C Rwf)) (c12 : Prm P w K mg base CX0 3 "_law_bent" P_law_bent (SpG K PreBent PostBent)) (c13 : Prm P w K mg base CX0 4 "_law_is_earth" P_law_is_earth (SpR K Rearth)) (c14 : PrmK P w K mg base CX0 5 "is_world" P_is_world ["thing", "net"] (SpR K Rworld) (fun ws => [ws.getD 1 .none, ws.getD 0 .none]) (fun zs => [zs.getD 1 .non, zs.getD 0 .non]))
    (c15 : Prm P w K mg base CX0 8 "_law_odd_call" P_law_odd_call (SpG K PreCall PostTrue)) (c16 : Prm P w K mg base CX0 8 "_law_odd_alone" P_law_odd_alone (SpR K Ralone)) (c17 : Prm P w K mg base CX0 8 "_law_bounds_hold" P_law_bounds_hold (SpG K PreNet PostTrue)) :
    FnOk P w K mg base CX0 9 f fd P_law (spLaw K) := by
  refine A.fn.ok sc_law (fun vs H Q E h => ?_) fun cdv Ar outer s H vs Q E hr h => ?_
  · obtain ⟨a, ns, rfl, _⟩ := h
    rfl
  obtain ⟨a, ns, rfl, hs, hl, hq⟩ := h
  refine ⟨t_law K C, by apply dv_law FR <;> assumption, ?_⟩
  show t_law K C _ [some (.ref a), none, none, none, none, none, none, none, none, none, none, none] H
  unfold t_law
  walk_at "nx"
  refine s_no (b := false) (et_not (a := true) (et_B (ev_call (K := K) (p := p0) (ds := []) ea_nil ⟨rfl, rfl⟩))) rfl pi0 fun H1 r1 => ?_
  walk_at "nx"
  refine ⟨_, rfl, a, ns, rfl, Evl.ex_l r1.e0 hs, hl, fun q H2 e2 ok n1 n2 n3 => ?_⟩
  show tSeq _ _ _ [some (.ref a), some (.ref q.1), none, none, none, none, none, none, none, none, none, none] H2
  clear hs hl n1 n2 n3 e2 r1
  obtain ⟨p, hp, hw⟩ : ∃ p : Pw, p.pl = some q ∧ Wl p H2 := ⟨⟨some q, [], []⟩, rfl, ok, (fun _ h => nomatch h), (fun _ h => nomatch h)⟩
  have fin : ∀ v d H', Dp K (vw p H') v d → d = .bool true → Q v H' := fun v d H' k e => by
    subst e
    rw [dp_bool k]
    exact hq H'
  clear ok
  walk_at "nx"
  refine s_asgP (K := K) (P := fun d => ∃ c : Net, c.Law ∧ d = netD c) ((evp_callG (A := fun ds => ds = []) hp rfl ea_nil fun ds e => e).imp fun d ⟨ds, _, h⟩ => h) hw fun v2 d2 H3 r3 ⟨c, L, e2⟩ k2 => ?_
  subst e2
  walk_at "nx"
  refine s_asgP (K := K) (P := fun d => ∃ ps, PsOk c ps ∧ d = nums ps) ((evp_callG (A := fun ds => ds = [netD c]) hp rfl (ea_cons (by walk_at "ev") ea_nil) fun ds e => ⟨c, L, e⟩).imp fun d ⟨ds, e, c', ps, e', h1, h2⟩ => by
    rw [e] at e'
    injection e' with e' _
    rw [netD_inj e']
    exact ⟨ps, h1, h2⟩) r3.pi fun v3 d3 H4 r4 ⟨ps, hps, e3⟩ k3 => ?_
  subst e3
  walk_at "nx"
  refine s_asgP (K := K) (P := fun d => ∃ hs, HsOk c hs ∧ d = nums hs) ((evp_callG (A := fun ds => ds = [netD c]) hp rfl (ea_cons (by walk_at "ev") ea_nil) fun ds e => ⟨c, L, e⟩).imp fun d ⟨ds, e, c', ps, e', h1, h2⟩ => by
    rw [e] at e'
    injection e' with e' _
    rw [netD_inj e']
    exact ⟨ps, h1, h2⟩) r4.pi fun v4 d4 H5 r5 ⟨hs, hhs, e4⟩ k4 => ?_
  subst e4
  walk_at "nx"
  refine s_asgP (K := K) (P := fun d => ∃ w : Int × Int, d = qD w ∧ WideOk w) ((evp_callG (A := fun ds => ds = []) hp rfl ea_nil fun ds e => e).imp fun d ⟨ds, _, h⟩ => h) r5.pi fun v5 d5 H6 r6 ⟨wd, e5, hwd⟩ k5 => ?_
  subst e5
  walk_at "nx"
  refine s_asgP (K := K) (P := fun d => ∃ (b : Int) (fl rm ch : List (Int × Int)), WorldOk c b fl rm ch ∧ d = wdD b fl rm ch) ((evp_callG (A := fun ds => ds = [netD c, nums ps, nums hs, qD wd]) hp rfl (by walk_at "ev") fun ds e => ⟨c, ps, hs, wd, L, hps, hhs, hwd, e⟩).imp fun d ⟨ds, e, c', x, y, z, b, fl, rm, ch, e', h1, h2⟩ => by
    rw [e] at e'
    injection e' with e' _
    rw [netD_inj e']
    exact ⟨b, fl, rm, ch, h1, h2⟩) r6.pi fun v6 d6 H7 r7 ⟨b, fl, rm, ch, W, e6⟩ k6 => ?_
  subst e6
  have S := stated_of hps hhs hwd W
  walk_at "nx"
  refine s_asg (K := K) (d := outD (faultL c ps hs b fl rm ch wd)) (ev_call (ds := [netD c, nums ps, nums hs, wdD b fl rm ch, qD wd]) (by walk_at "ev") ⟨c, ps, hs, b, fl, rm, ch, wd, rfl, L, S, rfl⟩) r7.pi fun v7 H8 r8 k7 => ?_
  walk_at "nx"
  refine s_no (b := false) (et_test (K := K) (ev_is (ev_notB (a := worldOk c (wdD b fl rm ch)) (b := true) (ev_call (ds := [netD c, wdD b fl rm ch]) (by walk_at "ev") ⟨c, _, rfl, rfl⟩) ev_bl) (by rw [S.world]; rfl))) rfl r8.pi fun H9 r9 => ?_
  have lo := lo_out (c := c) (ps := ps) (hs := hs) (b := b) (fl := fl) (rm := rm) (ch := ch) (w := wd)
  have again : ∀ {σ : L2.St} {H' : Hp}, σ[2]? = some (some v2) → σ[3]? = some (some v3) → σ[4]? = some (some v4) → σ[5]? = some (some v5) → σ[6]? = some (some v6) → σ[7]? = some (some v7) → Rl p H8 H' → EvT p (tNot (tB (tCall (SpR K Rsame) [] E0 (tCons (tCall (SpX K C Rwf) [] E0 (tCons (tVar 2) (tCons (tVar 3) (tCons (tVar 4) (tCons (tVar 6) (tCons (tVar 5) tNil)))))) (tCons (tVar 7) tNil))))) σ H' false := by
    intro σ H' s2 s3 s4 s5 s6 s7 r
    refine et_not (a := true) (et_B (ev_call (ds := [outD (faultL c ps hs b fl rm ch wd), outD (faultL c ps hs b fl rm ch wd)]) (ea_cons (ev_callX (ds := [netD c, nums ps, nums hs, wdD b fl rm ch, qD wd]) (ea_cons (ev_var s2 k2 ((((r4.trans r5).trans r6).trans (r7.trans r8)).trans r)) (ea_cons (ev_var s3 k3 (((r5.trans r6).trans (r7.trans r8)).trans r)) (ea_cons (ev_var s4 k4 ((r6.trans (r7.trans r8)).trans r)) (ea_cons (ev_var s6 k6 (r8.trans r)) (ea_cons (ev_var s5 k5 ((r7.trans r8).trans r)) ea_nil))))) (wf_ok L.good S)) (ea_cons (ev_var s7 k7 r) ea_nil)) ⟨_, _, true, rfl, lo.1, lo.1, lo.2, rfl, by simp⟩))
  walk_at "nx"
  refine s_no (b := false) (again rfl rfl rfl rfl rfl rfl r9) rfl r9.pi fun H10 r10 => ?_
  walk_at "nx"
  have rA := r9.trans r10
  have q2 := (((r4.trans r5).trans r6).trans (r7.trans r8)).trans rA
  have q3 := ((r5.trans r6).trans (r7.trans r8)).trans rA
  have q4 := (r6.trans (r7.trans r8)).trans rA
  have q5 := (r7.trans r8).trans rA
  have q6 := r8.trans rA
  refine s_forR (K := K) (n := 6) ev_int (by decide) (by decide) r10.pi (fun i σ' _ => ∃ a8 a9 a10 a11, σ' = [some (.ref a), some (.ref q.1), some v2, some v3, some v4, some v5, some v6, some v7, a8, a9, a10, a11]) (fun H11 r11 => ⟨_, _, _, _, rfl⟩) ?_ ?_
  · rintro H11 r11 i σ' H12 hi r12 ⟨a8, a9, a10, a11, rfl⟩
    have rB := r11.trans r12
    walk_at "nx"
    refine s_asgP (K := K) (P := BdW) ((evp_callG (A := fun ds => ds = [wdD b fl rm ch]) hp rfl (ea_cons (ev_var rfl k6 (q6.trans rB)) ea_nil) fun ds e => ⟨c, b, fl, rm, ch, L, W, e⟩).imp fun d ⟨ds, _, h⟩ => h) r12.pi fun v9 d9 H13 r13 h9 k9 => ?_
    walk_at "nx"
    refine s_asg (K := K) (d := .bool (worldOk c d9)) (ev_call (ds := [netD c, d9]) (ea_cons (ev_var rfl k2 ((q2.trans rB).trans r13)) (ea_cons (ev_var rfl k9 (Rl.refl r13.pi)) ea_nil)) ⟨c, d9, rfl, h9.1, rfl⟩) r13.pi fun v10 H14 r14 k10 => ?_
    walk_at "nx"
    refine s_asg (K := K) (d := .bool (worldOk c d9)) (ev_callK (ds := [d9, netD c]) (es := [netD c, d9]) (ea_cons (ev_var rfl k9 r14) (ea_cons (ev_var rfl k2 (((q2.trans rB).trans r13).trans r14)) ea_nil)) rfl (fun _ _ h => dpa_rev2 h) ⟨c, d9, rfl, rfl⟩) r14.pi fun v11 H15 r15 k11 => ?_
    walk_at "nx"
    refine s_no (b := false) (et_not (a := true) (et_B (ev_call (ds := [.bool (worldOk c d9), .bool (worldOk c d9)]) (ea_cons (ev_var rfl k11 (Rl.refl r15.pi)) (ea_cons (ev_var rfl k10 r15) ea_nil)) ⟨_, _, true, rfl, lo_bool, lo_bool, rfl, rfl, by simp⟩))) rfl r15.pi fun H16 r16 => ?_
    exact ⟨((r12.trans r13).trans (r14.trans r15)).trans r16, _, _, _, _, rfl⟩
  rintro σ' H11 r11 ⟨a8, a9, a10, a11, rfl⟩
  walk_at "nx"
  have li : LawItems c [nums ps, nums hs, wdD b fl rm ch, qD wd] := ⟨ps, hs, b, fl, rm, ch, wd, L, hps, hhs, hwd, W, rfl⟩
  have four : ∀ {H' : Hp}, Rl p H11 H' → EvD K p (tTup (tCons (tVar 3) (tCons (tVar 4) (tCons (tVar 6) (tCons (tVar 5) tNil))))) [some (.ref a), some (.ref q.1), some v2, some v3, some v4, some v5, some v6, some v7, a8, a9, a10, a11] H' (.tuple [nums ps, nums hs, wdD b fl rm ch, qD wd]) := fun r =>
    ev_tup (ea_cons (ev_var rfl k3 ((q3.trans r11).trans r)) (ea_cons (ev_var rfl k4 ((q4.trans r11).trans r)) (ea_cons (ev_var rfl k6 ((q6.trans r11).trans r)) (ea_cons (ev_var rfl k5 ((q5.trans r11).trans r)) ea_nil)))) (by simp)
  refine s_no (b := false) (et_not (a := true) (et_B ((evp_callG (A := fun ds => ds = [netD c, .tuple [nums ps, nums hs, wdD b fl rm ch, qD wd]]) hp rfl (ea_cons (ev_var rfl k2 (q2.trans r11)) (ea_cons (four (Rl.refl r11.pi)) ea_nil)) fun ds e => ⟨c, _, e, li⟩).imp fun d ⟨ds, _, h⟩ => h))) rfl r11.pi fun H12 r12 => ?_
  walk_at "nx"
  refine s_no (b := false) (et_not (a := true) (et_B (ev_call (K := K) (ds := [netD c, .tuple [nums ps, nums hs, wdD b fl rm ch, qD wd]]) (ea_cons (ev_var rfl k2 ((q2.trans r11).trans r12)) (ea_cons (four r12) ea_nil)) ⟨c, _, rfl, li, rfl⟩))) rfl r12.pi fun H13 r13 => ?_
  walk_at "nx"
  refine s_no (b := false) (again rfl rfl rfl rfl rfl rfl (((r9.trans r10).trans r11).trans (r12.trans r13))) rfl r13.pi fun H14 r14 => ?_
  walk_at "nx"
  refine s_retP (K := K) (P := fun d => d = .bool true) ((evp_callG (A := fun ds => ds = [netD c]) hp rfl (ea_cons (ev_var rfl k2 ((q2.trans r11).trans ((r12.trans r13).trans r14))) ea_nil) fun ds e => ⟨c, L, e⟩).imp fun d ⟨ds, _, h⟩ => h) r14.pi fun v d H15 r15 pd kd => fin v d H15 kd pd
end

end Ky
set_option Elab.async false
set_option linter.all false
set_option maxRecDepth 4000
set_option maxHeartbeats 4000000
namespace Ky
open PySem PySem.Spec PyProof.Rows L2
local macro_rules | `(tactic| walk_at "rl") => `(tactic| first | assumption | exact Rl.refl pi0 | exact Rl.refl (by assumption) | exact Rl.refl (Rl.pi (by assumption)) | (refine Rl.trans (by assumption) ?_; walk_at "rl"))
local macro_rules | `(tactic| walk_at "ev") => `(tactic| first
  | with_reducible exact ev_int | with_reducible exact ev_bl | with_reducible exact ev_str | with_reducible exact ev_non
  | ((with_reducible apply ev_var); (focus exact rfl); (focus assumption); (focus walk_at "rl"))
  | ((with_reducible apply ev_slot); (focus exact rfl); (focus first | exact fun _ => Dp.int _ | exact fun _ => Dp.bl _ | exact fun _ => Dp.str _ | exact fun _ => Dp.non))
  | with_reducible exact ea_nil | with_reducible exact eo_none | with_reducible exact et_yes
  | with_reducible exact sh_int | with_reducible exact sh_bool | with_reducible exact sh_non
  | ((with_reducible apply ea_cons) <;> try walk_at "ev")
  | ((with_reducible apply ev_I0) <;> try walk_at "ev")
  | ((with_reducible apply ev_B0) <;> try walk_at "ev")
  | ((with_reducible apply ev_IC) <;> try walk_at "ev")
  | ((with_reducible apply ev_neg) <;> try walk_at "ev")
  | ((with_reducible apply ev_chain) <;> try walk_at "ev")
  | ((with_reducible apply ev_isTup) <;> try walk_at "ev")
  | ((with_reducible apply ev_isInt) <;> try walk_at "ev")
  | ((with_reducible apply ev_isBool) <;> try walk_at "ev")
  | ((with_reducible apply ev_isStr) <;> try walk_at "ev")
  | ((with_reducible apply ev_isLst) <;> try walk_at "ev")
  | ((with_reducible apply ev_isN) <;> try walk_at "ev")
  | ((with_reducible apply ev_notN) <;> try walk_at "ev")
  | ((with_reducible apply ev_notB) <;> try walk_at "ev")
  | ((with_reducible apply ev_eq) <;> try walk_at "ev")
  | ((with_reducible apply ev_ne) <;> try walk_at "ev")
  | ((with_reducible apply ev_abs) <;> try walk_at "ev")
  | ((with_reducible apply ev_max) <;> try walk_at "ev")
  | ((with_reducible apply ev_bits) <;> try walk_at "ev")
  | ((with_reducible apply ev_gcd) <;> try walk_at "ev")
  | ((with_reducible apply ev_list) <;> try walk_at "ev")
  | ((with_reducible apply ev_tuple) <;> try walk_at "ev")
  | ((with_reducible apply ev_tup) <;> try walk_at "ev")
  | ((with_reducible apply ev_lst) <;> try walk_at "ev")
  | ((with_reducible apply ev_catT) <;> try walk_at "ev")
  | ((with_reducible apply ev_slice) <;> try walk_at "ev")
  | ((with_reducible apply eo_some) <;> try walk_at "ev")
  | ((with_reducible apply ev_notV) <;> try walk_at "ev")
  | ((with_reducible apply et_test) <;> try walk_at "ev")
  | ((with_reducible apply et_B) <;> try walk_at "ev")
  | ((with_reducible apply et_not) <;> try walk_at "ev")
  | ((with_reducible apply ev_lenT); (focus (walk_at "ev"; done)))
  | ((with_reducible apply ev_lenL); (focus (walk_at "ev"; done)))
  | ((with_reducible apply ev_intI); (focus (walk_at "ev"; done)))
  | ((with_reducible apply ev_intB); (focus (walk_at "ev"; done)))
  | ((with_reducible apply ev_ixT); (focus (walk_at "ev"; done)); (focus (walk_at "ev"; done)); (try first | rfl | assumption))
  | ((with_reducible apply ev_ixL); (focus (walk_at "ev"; done)); (focus (walk_at "ev"; done)); (try first | rfl | assumption))
  | ((with_reducible apply ev_call); (focus (walk_at "ev"; done))))
local macro_rules | `(tactic| walk_at "nx") => `(tactic| ((try dsimp only); (try ((with_reducible refine st_next ?_); (try dsimp only))); (try with_reducible refine st_seq ?_)))
section
variable {P : Program} {w : World} {K : PySem.W.Frag} {mg : Str → Option Value} {base : Heap} {f : Addr} {fd : FuncData} {C fI CO : Addr} {fdI : FuncData}
/-! ### arguments that are not as stated -/
theorem cut_drop {ds : List D} {k : Nat} : cutD ds (some (k : Int)) none = ds.drop k := by
  unfold cutD
  rw [HT.sIx_nat]
  have h2 : HT.sIx ds.length ds.length none = ds.length := rfl
  rw [h2, List.take_of_length_le (by rw [List.length_drop]; omega)]
  by_cases h : k ≤ ds.length
  · rw [Nat.min_eq_left h]
  · rw [Nat.min_eq_right (by omega), List.drop_of_length_le (by omega), List.drop_of_length_le (by omega)]
theorem pos_t {c : Net} {ds : List D} : posOk c (.tuple ds) = (decide (ds.length = c.sws.length) && posAll ds c.sws) := rfl
theorem pos_bad {c : Net} {ds : List D} {i : Nat} {d : D} {s : Sw} (h1 : ds[i]? = some d) (h2 : c.sws[i]? = some s) (h3 : pc d s = false) : posOk c (.tuple ds) = false := by
  rw [pos_t]
  cases q : posAll ds c.sws with
  | false => rw [Bool.and_false]
  | true => rw [posAll_iff.mp q i d s h1 h2] at h3; cases h3
theorem pos_len' {c : Net} {ds : List D} (h : ds.length ≠ c.sws.length) : posOk c (.tuple ds) = false := by
  rw [pos_t, decide_eq_false h, Bool.false_and]
theorem pos_more {c : Net} {ps : List Int} (h : ps.length = c.sws.length) : posOk c (.tuple (ps.map PyData.int ++ [.int 1])) = false := pos_len' (by rw [List.length_append, List.length_map]; show _ + 1 ≠ _; omega)
theorem pos_three {c : Net} {ps : List Int} (h : ps.length = c.sws.length) : posOk c (.tuple (cutD (ps.map PyData.int) none (some (if ((ps.map PyData.int).length : Int) - 1 > 0 then ((ps.map PyData.int).length : Int) - 1 else 0)) ++ [.int 3])) = false := by
  by_cases h0 : ps.length = 0
  · refine pos_len' ?_
    have hc := cut_len (ds := ps.map PyData.int) (lo := none) (hi := some (if ((ps.map PyData.int).length : Int) - 1 > 0 then ((ps.map PyData.int).length : Int) - 1 else 0))
    rw [List.length_map] at hc
    rw [List.length_append]
    show _ + 1 ≠ _
    omega
  · have e : (if ((ps.map PyData.int).length : Int) - 1 > 0 then ((ps.map PyData.int).length : Int) - 1 else 0) = ((ps.length - 1 : Nat) : Int) := by
      rw [List.length_map]
      split <;> omega
    rw [e, cut_take (by rw [List.length_map]; omega)]
    obtain ⟨s, hs⟩ := get_lt (l := c.sws) (i := ps.length - 1) (by omega)
    refine pos_bad (i := ps.length - 1) (d := .int 3) (s := s) ?_ hs (by unfold pc; rfl)
    rw [List.getElem?_append_right (by rw [List.length_take, List.length_map]; omega), List.length_take, List.length_map]
    have : ps.length - 1 - min (ps.length - 1) ps.length = 0 := by omega
    rw [this]
    rfl
theorem pos_tie {c : Net} {ps : List Int} {k : Nat} {s : Sw} {o : Int} (hs : c.sws[k]? = some s) (h : ps.length = c.sws.length) (ht : s.kind = "tie") (ho : o = 0 ∨ o = 2) : posOk c (.tuple (cutD (ps.map PyData.int) none (some (k : Int)) ++ [.int o] ++ cutD (ps.map PyData.int) (some ((k : Int) + 1)) none)) = false := by
  have hk := lt_get hs
  rw [cut_take (by rw [List.length_map]; omega)]
  refine pos_bad (i := k) (d := .int o) (s := s) ?_ hs ?_
  · rw [List.getElem?_append_left (by rw [List.length_append, List.length_take, List.length_map]; show _ < _ + 1; omega), List.getElem?_append_right (by rw [List.length_take, List.length_map]; omega), List.length_take, List.length_map]
    have : k - min k ps.length = 0 := by omega
    rw [this]
    rfl
  · unfold pc
    rw [decide_eq_true ht]
    rcases ho with rfl | rfl <;> rfl
theorem held_t {n : Nat} {ds : List D} : heldOk n (.tuple ds) = (decide (ds.length = n) && ds.all isVal && isAt 0 (ds.getD 0 .none) && isAt 1 (ds.getD 1 .none)) := rfl
theorem held_one {n : Nat} {ds : List D} : heldOk n (.tuple (.int 1 :: ds)) = false := by
  rw [held_t]
  show (_ && _ && false && _) = false
  simp
theorem held_two {n : Nat} {ds : List D} : heldOk n (.tuple (.int 0 :: .int 2 :: ds)) = false := by
  rw [held_t]
  show (_ && _ && _ && false) = false
  simp
theorem held_bool {n : Nat} {ds : List D} {b : Bool} : heldOk n (.tuple (.bool b :: ds)) = false := by
  rw [held_t]
  show (_ && _ && false && _) = false
  simp
theorem held_len' {n : Nat} {ds : List D} (h : ds.length ≠ n) : heldOk n (.tuple ds) = false := by
  rw [held_t, decide_eq_false h]
  rfl
theorem world_base {c : Net} {x : D} {ds : List D} (h : isBase x = false) : worldOk c (.tuple (x :: ds)) = false := by
  cases ht : tupN 4 (.tuple (x :: ds)) with
  | false => exact worldOk_no ht
  | true =>
    obtain ⟨es, e, hl⟩ := tupN_t ht
    injection e with e
    match ds, (e ▸ hl : (x :: ds).length = 4) with
    | [a, b, d], _ =>
      show (isBase x && _ && _ && _) = false
      rw [h]
      rfl
theorem world_ch {c : Net} {b f r : D} {q : List D} {d : D} (hm : d ∈ q) (h : isQf (fun a b => decide (0 ≤ a) && decide (a ≤ b)) d = false) : worldOk c (.tuple [b, f, r, .tuple q]) = false := by
  show (isBase b && _ && _ && areQ _ _ (.tuple q)) = false
  rw [areQ_t]
  have : q.all (isQf fun a b => decide (0 ≤ a) && decide (a ≤ b)) = false := by
    cases e : q.all (isQf fun a b => decide (0 ≤ a) && decide (a ≤ b)) with
    | false => rfl
    | true => rw [List.all_eq_true.mp e d hm] at h; cases h
  rw [this]
  simp
/-! ### the row of cases -/
def CaseOk (c : Net) (d : D) : Prop := ∃ (wd : Str) (d0 d1 d2 d3 : D), d = .tuple [.str wd, .tuple [d0, d1, d2, d3]] ∧ PySem.PyData.canLay0 (.str wd) = true ∧ Rwf [netD c, d0, d1, d2, d3] (.error wd) ∧ (wd = "world" → worldOk c d2 = false)
def St8 (K : PySem.W.Frag) (v1 v2 : V) (a : Addr) (G : Hp) (c : Net) (n : Nat) (σ : L2.St) (H : Hp) : Prop :=
  (∃ a3 a4, σ = [some v1, some v2, some (.ref a), a3, a4, none, none, none]) ∧ Rl (p0.mut a) G H ∧ ∃ (xs : List V) (acc : List D), H a = some (.lst xs) ∧ xs.length ≤ n ∧ DpAll K (vw (p0.mut a) H) xs acc ∧ ∀ d, d ∈ acc → CaseOk c d
section
variable {v1 v2 : V} {a : Addr} {G H H1 : Hp} {c : Net} {n m : Nat} {σ : L2.St} {te tl : TE} {F : Ends}
theorem St8.hide (hn : G a = none) (S : St8 K v1 v2 a G c n σ H) (r : Rl (p0.hide a) H H1) : St8 K v1 v2 a G c n σ H1 := by
  obtain ⟨h1, h2, xs, acc, h3, h4, h5, h6⟩ := S
  exact ⟨h1, h2.trans (rl_h2m r), xs, acc, r.keep h3 (vw_at pi0 hn).1, h4, dpa_ex (rl_h2m r).ex h5, h6⟩
theorem St8.wl (S : St8 K v1 v2 a G c n σ H) : Wl (p0.hide a) H := by
  obtain ⟨h1, h2, xs, acc, h3, _⟩ := S
  exact wl_hide (wl_unmut h2.pi) h3
theorem St8.up (hn : G a = none) (S : St8 K v1 v2 a G c n σ H) {v : V} {d : D} (k : Dp K G v d) : Dp K (vw (p0.hide a) H) v d := up_hide (p := p0) hn S.2.1 k
theorem St8.le (S : St8 K v1 v2 a G c n σ H) (h : n ≤ m) : St8 K v1 v2 a G c m σ H := by
  obtain ⟨h1, h2, xs, acc, h3, h4, h5, h6⟩ := S
  exact ⟨h1, h2, xs, acc, h3, Nat.le_trans h4 h, h5, h6⟩
theorem s_add (hn : G a = none) (S : St8 K v1 v2 a G c n σ H) (hle : n ≤ 1000) (h : EvP K (p0.hide a) te σ H (CaseOk c)) (k : ∀ H1, Rl (p0.mut a) H H1 → St8 K v1 v2 a G c (n + 1) σ H1 → F.nx σ H1) : tDrop (tBM K "list" rAppend (tVar 2) (tCons te tNil)) F σ H := by
  obtain ⟨⟨a3, a4, rfl⟩, h2, xs, acc, h3, h4, h5, h6⟩ := S
  refine s_app (P := CaseOk c) rfl hn pi0 h2 h3 (by omega) h5 (fun _ => h) fun e ys H12 r12 rG3 pe ey hy ky => ?_
  refine k H12 r12 ⟨⟨_, _, rfl⟩, rG3, ys, acc ++ [e], ey, by omega, ky, fun d hd => ?_⟩
  rcases List.mem_append.mp hd with q | q
  · exact h6 d q
  · have : d = e := by simpa using q
    rw [this]; exact pe
theorem s_forTP {p1 p : Pw} {tu : TS} {A : List D → Prop} {j : Nat} (h : EvP K p1 tl σ H fun d => ∃ ds, d = .tuple ds ∧ A ds) (pi : Wl p1 H) (cv : ∀ H1, Rl p1 H H1 → Rl p H H1) (cx : ∀ H1, Ex (vw p1 H1) (vw p H1)) (Pv : Nat → L2.St → Hp → Prop) (h0 : ∀ H1, Rl p1 H H1 → Pv 0 σ H1)
    (hs : ∀ ds, A ds → ∀ H1, Rl p H H1 → ∀ (i : Nat) (x : V) (d : D) (σ' : L2.St) (H' : Hp), ds[i]? = some d → Dp K (vw p H') x d → Rl p H1 H' → Pv i σ' H' → tu (nxt F p H1 (Pv (i + 1))) (σ'.set j (some x)) H')
    (hd : ∀ ds, A ds → ∀ σ' H', Rl p H H' → Pv ds.length σ' H' → F.nx σ' H') : tFor (iTup K tl) (gName j) tu F σ H :=
  h H (Rl.refl pi) _ fun x d H1 r1 ⟨ds, ed, pa⟩ kd => by
    subst ed
    replace kd := dp_ex (cx H1) kd
    cases kd with
    | @tup a xs _ hsq hv =>
      refine ⟨a, rfl, ⟨xs, Evl.ex_t vw_sub hsq⟩, ?_⟩
      refine for_tup (xs := xs) (fun i σ' H' => Rl p H1 H' ∧ Pv i σ' H') ⟨Rl.refl (cv H1 r1).pi, h0 H1 r1⟩ (fun i σ' H' _ q => sqt_rl q.1 hsq) ?_ ?_
      · rintro i x σ' H' hx ⟨r2, pv⟩
        obtain ⟨d, hd1, kd⟩ := dpa_getv hv hx
        exact hs ds pa H1 (cv H1 r1) i x d σ' H' hd1 (dp_ex r2.ex kd) r2 pv
      · rintro σ' H' ⟨r2, pv⟩
        rw [dpa_len hv] at pv
        exact hd ds pa σ' H' ((cv H1 r1).trans r2) pv
/-- for odd in (..): cases.append(te) -/
theorem s_odds {Od : D → Prop} {tr : TA} (hn : G a = none) (S : St8 K v1 v2 a G c n σ H) (hle : n + m ≤ 1000) (hl : EvAP K (p0.hide a) tr σ H fun ds => ds.length = m ∧ ∀ d, d ∈ ds → Od d)
    (hb : ∀ (x : V) (d : D) (k : Nat) (a4 : Option V) (H' : Hp), Od d → Dp K (vw (p0.hide a) H') x d → St8 K v1 v2 a G c k [some v1, some v2, some (.ref a), some x, a4, none, none, none] H' → EvP K (p0.hide a) te [some v1, some v2, some (.ref a), some x, a4, none, none, none] H' (CaseOk c))
    (k : ∀ σ' H', Rl (p0.mut a) H H' → St8 K v1 v2 a G c (n + m) σ' H' → F.nx σ' H') : tFor (iTup K (tTup tr)) (gName 3) (tDrop (tBM K "list" rAppend (tVar 2) (tCons te tNil))) F σ H := by
  refine s_forTP (K := K) (p1 := p0.hide a) (p := p0.mut a) (A := fun ds => ds.length = m ∧ ∀ d, d ∈ ds → Od d) (evp_tup hl fun ds e => by omega) S.wl (fun _ r => rl_h2m r) (fun _ => vw_h2m) (fun i σ' H' => i ≤ m → St8 K v1 v2 a G c (n + i) σ' H') (fun H1 r _ => S.hide hn r) ?_ ?_
  · rintro ds ⟨hl, hd⟩ H1 r1 i x d σ' H' hx kx r2 pv
    have hi : i < m := by have := lt_get hx; omega
    have S' := pv (by omega)
    obtain ⟨⟨a3, a4, rfl⟩, hS⟩ := S'
    have S2 : St8 K v1 v2 a G c (n + i) [some v1, some v2, some (.ref a), some x, a4, none, none, none] H' := ⟨⟨_, _, rfl⟩, hS⟩
    refine s_add hn S2 (by omega) (hb x d _ a4 H' (hd d (List.mem_of_getElem? hx)) (dp_ex vw_m2h kx) S2) fun H3 r3 S3 => ?_
    exact ⟨r2.trans r3, fun _ => S3⟩
  · rintro ds ⟨hl, hd⟩ σ' H' r pv
    exact k σ' H' r (by rw [← hl]; exact pv (by omega))
end
end

end Ky
set_option Elab.async false
set_option linter.all false
set_option maxRecDepth 4000
set_option maxHeartbeats 4000000
namespace Ky
open PySem PySem.Spec PyProof.Rows L2
local macro_rules | `(tactic| walk_at "rl") => `(tactic| first | assumption | exact Rl.refl pi0 | exact Rl.refl (by assumption) | exact Rl.refl (Rl.pi (by assumption)) | (refine Rl.trans (by assumption) ?_; walk_at "rl"))
local macro_rules | `(tactic| walk_at "ev") => `(tactic| first
  | with_reducible exact ev_int | with_reducible exact ev_bl | with_reducible exact ev_str | with_reducible exact ev_non
  | ((with_reducible apply ev_var); (focus exact rfl); (focus assumption); (focus walk_at "rl"))
  | ((with_reducible apply ev_slot); (focus exact rfl); (focus first | exact fun _ => Dp.int _ | exact fun _ => Dp.bl _ | exact fun _ => Dp.str _ | exact fun _ => Dp.non))
  | with_reducible exact ea_nil | with_reducible exact eo_none | with_reducible exact et_yes
  | with_reducible exact sh_int | with_reducible exact sh_bool | with_reducible exact sh_non
  | ((with_reducible apply ea_cons) <;> try walk_at "ev")
  | ((with_reducible apply ev_I0) <;> try walk_at "ev")
  | ((with_reducible apply ev_B0) <;> try walk_at "ev")
  | ((with_reducible apply ev_IC) <;> try walk_at "ev")
  | ((with_reducible apply ev_neg) <;> try walk_at "ev")
  | ((with_reducible apply ev_chain) <;> try walk_at "ev")
  | ((with_reducible apply ev_isTup) <;> try walk_at "ev")
  | ((with_reducible apply ev_isInt) <;> try walk_at "ev")
  | ((with_reducible apply ev_isBool) <;> try walk_at "ev")
  | ((with_reducible apply ev_isStr) <;> try walk_at "ev")
  | ((with_reducible apply ev_isLst) <;> try walk_at "ev")
  | ((with_reducible apply ev_isN) <;> try walk_at "ev")
  | ((with_reducible apply ev_notN) <;> try walk_at "ev")
  | ((with_reducible apply ev_notB) <;> try walk_at "ev")
  | ((with_reducible apply ev_eq) <;> try walk_at "ev")
  | ((with_reducible apply ev_ne) <;> try walk_at "ev")
  | ((with_reducible apply ev_abs) <;> try walk_at "ev")
  | ((with_reducible apply ev_max) <;> try walk_at "ev")
  | ((with_reducible apply ev_bits) <;> try walk_at "ev")
  | ((with_reducible apply ev_gcd) <;> try walk_at "ev")
  | ((with_reducible apply ev_list) <;> try walk_at "ev")
  | ((with_reducible apply ev_tuple) <;> try walk_at "ev")
  | ((with_reducible apply ev_tup) <;> try walk_at "ev")
  | ((with_reducible apply ev_lst) <;> try walk_at "ev")
  | ((with_reducible apply ev_catT) <;> try walk_at "ev")
  | ((with_reducible apply ev_slice) <;> try walk_at "ev")
  | ((with_reducible apply eo_some) <;> try walk_at "ev")
  | ((with_reducible apply ev_notV) <;> try walk_at "ev")
  | ((with_reducible apply et_test) <;> try walk_at "ev")
  | ((with_reducible apply et_B) <;> try walk_at "ev")
  | ((with_reducible apply et_not) <;> try walk_at "ev")
  | ((with_reducible apply ev_lenT); (focus (walk_at "ev"; done)))
  | ((with_reducible apply ev_lenL); (focus (walk_at "ev"; done)))
  | ((with_reducible apply ev_intI); (focus (walk_at "ev"; done)))
  | ((with_reducible apply ev_intB); (focus (walk_at "ev"; done)))
  | ((with_reducible apply ev_ixT); (focus (walk_at "ev"; done)); (focus (walk_at "ev"; done)); (try first | rfl | assumption))
  | ((with_reducible apply ev_ixL); (focus (walk_at "ev"; done)); (focus (walk_at "ev"; done)); (try first | rfl | assumption))
  | ((with_reducible apply ev_call); (focus (walk_at "ev"; done))))
local macro_rules | `(tactic| walk_at "nx") => `(tactic| ((try dsimp only); (try ((with_reducible refine st_next ?_); (try dsimp only))); (try with_reducible refine st_seq ?_)))
section
variable {P : Program} {w : World} {K : PySem.W.Frag} {mg : Str → Option Value} {base : Heap} {f : Addr} {fd : FuncData} {C fI CO : Addr} {fdI : FuncData}
theorem ev_p {p : Pw} {σ : L2.St} {H : Hp} {te : TE} {d : D} {A : D → Prop} (h : EvD K p te σ H d) (a : A d) : EvP K p te σ H A := h.imp fun e he => by rw [he]; exact a
theorem ok_law_odd_alone (FR : Free mg) (A : At K mg "_law_odd_alone" s_law_odd_alone P_law_odd_alone f fd) (c1 : Prm P w K mg base CX0 7 "_law_heard" P_law_heard (SpR K Rheard)) (c2 : Prm P w K mg base CX0 3 "_law_same" P_law_same (SpR K Rsame)) (c3 : Prm P w K mg base CX0 5 "is_world" P_is_world (SpR K Rworld)) :
    Prm P w K mg base CX0 8 "_law_odd_alone" P_law_odd_alone (SpR K Ralone) := by
  refine mk_prm A sc_law_odd_alone (fun ds d ⟨c, es, e, _⟩ => by rw [e]; rfl) (dv_law_odd_alone FR c1 c2 c3) ?_
  rintro vs ds d H Q hv ⟨c, es, rfl, ⟨ps, hs, b, fl, rm, ch, wd, L, hps, hhs, hwd, W, rfl⟩, rfl⟩ hq
  obtain ⟨v1, v2, rfl, k1, k2⟩ := dpa2 hv
  have S := stated_of hps hhs hwd W
  have k1p : Dp K (vw p0 H) v1 (netD c) := k1
  have k1' := k1
  unfold netD at k1'
  have n2 : 2 ≤ c.n := Nat.le_trans L.good.two (Nat.le_add_right _ _)
  show t_law_odd_alone K _ [some v1, some v2, none, none, none, none, none, none] H
  unfold t_law_odd_alone
  walk_at "nx"
  refine s_new pi0 fun a hn r5 r5m => ?_
  have S0 : St8 K v1 v2 a H c 0 [some v1, some v2, some (.ref a), none, none, none, none, none] (upd H a (.lst [])) := ⟨⟨_, _, rfl⟩, r5m, [], [], upd_same, Nat.le_refl _, .nil, fun _ h => nomatch h⟩
  have v2' : ∀ {n : Nat} {σ : L2.St} {H' : Hp}, St8 K v1 v2 a H c n σ H' → EvD K (p0.hide a) (tVar 1) σ H' (.tuple [nums ps, nums hs, wdD b fl rm ch, qD wd]) := fun {n σ H'} S => by
    have s1 : σ[1]? = some (some v2) := by
      obtain ⟨⟨_, _, rfl⟩, _⟩ := S
      rfl
    exact ev_var s1 (S.up hn k2) (Rl.refl S.wl)
  have it0 : ∀ {n : Nat} {σ : L2.St} {H' : Hp}, St8 K v1 v2 a H c n σ H' → EvD K (p0.hide a) (tOp (rIx K) (tVar 1) (tC (.int 0))) σ H' (nums ps) := fun S => ev_ixT (v2' S) ev_int rfl
  have it1 : ∀ {n : Nat} {σ : L2.St} {H' : Hp}, St8 K v1 v2 a H c n σ H' → EvD K (p0.hide a) (tOp (rIx K) (tVar 1) (tC (.int 1))) σ H' (nums hs) := fun S => ev_ixT (v2' S) ev_int rfl
  have it2 : ∀ {n : Nat} {σ : L2.St} {H' : Hp}, St8 K v1 v2 a H c n σ H' → EvD K (p0.hide a) (tOp (rIx K) (tVar 1) (tC (.int 2))) σ H' (wdD b fl rm ch) := fun S => ev_ixT (v2' S) ev_int rfl
  have it3 : ∀ {n : Nat} {σ : L2.St} {H' : Hp}, St8 K v1 v2 a H c n σ H' → EvD K (p0.hide a) (tOp (rIx K) (tVar 1) (tC (.int 3))) σ H' (qD wd) := fun S => ev_ixT (v2' S) ev_int rfl
  have case4 : ∀ {σ : L2.St} {H' : Hp} {x : Str} {t0 t1 t2 t3 : TE} {d0 d1 d2 d3 : D}, EvD K (p0.hide a) t0 σ H' d0 → EvD K (p0.hide a) t1 σ H' d1 → EvD K (p0.hide a) t2 σ H' d2 → EvD K (p0.hide a) t3 σ H' d3 → PySem.PyData.canLay0 (.str x) = true → Rwf [netD c, d0, d1, d2, d3] (.error x) → (x = "world" → worldOk c d2 = false) →
      EvP K (p0.hide a) (tTup (tCons (tC (.str x)) (tCons (tTup (tCons t0 (tCons t1 (tCons t2 (tCons t3 tNil))))) tNil))) σ H' (CaseOk c) := fun {σ H' x t0 t1 t2 t3 d0 d1 d2 d3} h0 h1 h2 h3 ok hR hw =>
    (ev_tup (ds := [.str x, .tuple [d0, d1, d2, d3]]) (ea_cons ev_str (ea_cons (ev_tup (ea_cons h0 (ea_cons h1 (ea_cons h2 (ea_cons h3 ea_nil)))) (by simp)) ea_nil)) (by simp)).imp fun e he => ⟨x, d0, d1, d2, d3, he, ok, hR, hw⟩
  have refP : ∀ d0, posOk c d0 = false → Rwf [netD c, d0, nums hs, wdD b fl rm ch, qD wd] (.error "positions") := fun d0 h => ⟨c, _, _, _, _, rfl, L.good, .inl ⟨h, rfl⟩⟩
  have refH : ∀ d0, heldOk c.n d0 = false → Rwf [netD c, nums ps, d0, wdD b fl rm ch, qD wd] (.error "held") := fun d0 h => ⟨c, _, _, _, _, rfl, L.good, .inr (.inl ⟨S.pos, h, rfl⟩)⟩
  have refW : ∀ d0, worldOk c d0 = false → Rwf [netD c, nums ps, nums hs, d0, qD wd] (.error "world") := fun d0 h => ⟨c, _, _, _, _, rfl, L.good, .inr (.inr (.inl ⟨S.pos, S.held, h, rfl⟩))⟩
  have refS : ∀ d0, slackOk d0 = false → Rwf [netD c, nums ps, nums hs, wdD b fl rm ch, d0] (.error "slack") := fun d0 h => ⟨c, _, _, _, _, rfl, L.good, .inr (.inr (.inr (.inl ⟨S.pos, S.held, S.world, h, rfl⟩)))⟩
  have lps : (ps.map PyData.int).length ≤ 6 := by rw [List.length_map, hps.1]; exact L.s6
  have lhs : (hs.map PyData.int).length ≤ 1000 := by rw [List.length_map, hhs.1]; exact L.good.small
  walk_at "nx"
  refine s_odds (m := 6) (Od := fun d => posOk c d = false) hn S0 (by decide) (eall_cons (ev_p (ev_list (it0 S0)) rfl) (eall_cons (ev_p (ev_catT (ds := ps.map PyData.int) (es := [.int 1]) (it0 S0) (ev_tup (ea_cons ev_int ea_nil) (by simp)) (by show _ + 1 ≤ _; omega)) (pos_more hps.1)) (eall_cons (ev_p ev_non rfl) (eall_cons (ev_p ev_int rfl) (eall_cons (ev_p (ev_catT (es := [.int 3]) (ev_slice (ds := ps.map PyData.int) (it0 S0) eo_none (eo_some (K := K) (ev_max (i := 0) ev_int (ev_I0 (f := fun i j => i - j) (i := ((ps.map PyData.int).length : Int)) (j := 1) (ev_lenT (it0 S0)) ev_int)))) (ev_tup (ea_cons ev_int ea_nil) (by simp)) (by
      have := cut_len (ds := ps.map PyData.int) (lo := none) (hi := some (if ((ps.map PyData.int).length : Int) - 1 > 0 then ((ps.map PyData.int).length : Int) - 1 else 0))
      show _ + 1 ≤ _
      omega)) (pos_three hps.1)) (eall_cons (ev_p ev_str rfl) eall_nil))))))
    (fun x d k a4 H' od kx S' => case4 (ev_var rfl kx (Rl.refl S'.wl)) (it1 S') (it2 S') (it3 S') (by decide +kernel) (refP d od) (fun z => absurd z (by decide))) fun σ' H1 r1 S1 => ?_
  walk_at "nx"
  refine s_forX (K := K) (p1 := p0.hide a) (p := p0.mut a) (B := fun n => n = ps.length) (EvP.imp (P := fun d => d = .int ((ps.map PyData.int).length : Int)) (ev_lenT (it0 S1)) fun d e => ⟨ps.length, by rw [e, List.length_map], rfl⟩) (fun n h => by rw [List.length_map] at lps; omega) S1.wl (fun H1 r => rl_h2m r)
    (fun i σ' H' => i ≤ ps.length → St8 K v1 v2 a H c (0 + 6 + 2 * i) σ' H') (fun H2 r2 _ => S1.hide hn r2) ?_ ?_
  · rintro n rfl H2 r2 i σ2 H3 hi r3 pv
    obtain ⟨⟨a3, a4, rfl⟩, hS⟩ := pv (by omega)
    have S3 : St8 K v1 v2 a H c (0 + 6 + 2 * i) [some v1, some v2, some (.ref a), a3, some (.int (i : Int)), none, none, none] H3 := ⟨⟨_, _, rfl⟩, hS⟩
    obtain ⟨sw, hsw⟩ := get_lt (l := c.sws) (i := i) (by have := hps.1; omega)
    have hk := L.good.kinds sw (List.mem_of_getElem? hsw)
    rw [List.length_map] at lps
    refine s_forTP (K := K) (p1 := p0.hide a) (p := p0.mut a) (A := fun ds => ds = [.int 0, .int 2]) (EvP.imp (P := fun d => d = .tuple [.int 0, .int 2]) (ev_tup (ea_cons ev_int (ea_cons ev_int ea_nil)) (by simp)) fun d e => ⟨_, e, rfl⟩) S3.wl (fun _ r => rl_h2m r) (fun _ => vw_h2m)
      (fun j σ' H' => j ≤ 2 → St8 K v1 v2 a H c (0 + 6 + 2 * i + j) σ' H' ∧ σ'[4]? = some (some (.int (i : Int)))) (fun H4 r4 _ => ⟨S3.hide hn r4, rfl⟩) ?_ ?_
    · rintro ds rfl H4 r4 j x d σ5 H5 hx kx r5 pv5
      have hj : j < 2 := lt_get hx
      obtain ⟨⟨⟨a3', a4', rfl⟩, hS5⟩, h4⟩ := pv5 (by omega)
      have e4 : a4' = some (.int (i : Int)) := by
        have : some a4' = some (some (.int (i : Int))) := h4
        exact Option.some.inj this
      subst e4
      obtain ⟨o, rfl, ho⟩ : ∃ o : Int, d = .int o ∧ (o = 0 ∨ o = 2) := by
        rcases List.mem_cons.mp (List.mem_of_getElem? hx) with e | m
        · exact ⟨0, e, .inl rfl⟩
        · rcases List.mem_cons.mp m with e | m
          · exact ⟨2, e, .inr rfl⟩
          · cases m
      have ex := dp_int kx
      subst ex
      have S6 : St8 K v1 v2 a H c (0 + 6 + 2 * i + j) [some v1, some v2, some (.ref a), some (.int o), some (.int (i : Int)), none, none, none] H5 := ⟨⟨_, _, rfl⟩, hS5⟩
      show tIfS _ _ _ _ [some v1, some v2, some (.ref a), some (.int o), some (.int (i : Int)), none, none, none] H5
      refine s_if (p := p0.hide a) (b := decide (sw.kind = "tie")) (et_is (et_test (K := K) (ev_eq (d := .str sw.kind) (ev_ixT (ds := [.str sw.kind, .int sw.strength, .int sw.gate, .int sw.left, .int sw.right]) (ev_ixT (ds := c.sws.map swD) (i := (i : Int)) (ev_ixT (ev_var rfl (S6.up hn k1') (Rl.refl S6.wl)) ev_int rfl) (ev_slot rfl fun _ => .int _) (at_map hsw)) ev_int rfl) ev_str (by unfold SeqAt.shaped; simp [PyData.canLay0, PyData.depth, hk]) (by decide +kernel))) (by rw [eqv_str])) S6.wl (fun e H7 r7 => ?_) fun e H7 r7 => ?_
      · have S7 := S6.hide hn r7
        have ht : sw.kind = "tie" := by simpa using e
        have hc1 := cut_len (ds := ps.map PyData.int) (lo := none) (hi := some (i : Int))
        have hc2 := cut_len (ds := ps.map PyData.int) (lo := some ((i : Int) + 1)) (hi := none)
        rw [List.length_map] at hc1 hc2
        refine s_add hn S7 (by omega) (case4 (ev_catT (ev_catT (es := [.int o]) (ev_slice (ds := ps.map PyData.int) (it0 S7) eo_none (eo_some (K := K) (i := (i : Int)) (ev_slot rfl fun _ => .int _))) (ev_tup (ea_cons (ev_slot rfl fun _ => .int _) ea_nil) (by simp)) (by show _ + 1 ≤ _; omega)) (ev_slice (ds := ps.map PyData.int) (it0 S7) (eo_some (K := K) (ev_I0 (f := fun i j => i + j) (i := (i : Int)) (j := 1) (ev_slot rfl fun _ => .int _) ev_int)) eo_none) (by rw [List.length_append]; show _ + 1 + _ ≤ _; omega)) (it1 S7) (it2 S7) (it3 S7) (by decide +kernel) (refP _ (pos_tie hsw hps.1 ht ho)) (fun z => absurd z (by decide))) fun H8 r8 S8 => ?_
        exact ⟨(r5.trans (rl_h2m r7)).trans r8, fun _ => ⟨S8, rfl⟩⟩
      · exact ⟨r5.trans (rl_h2m r7), fun _ => ⟨(S6.hide hn r7).le (by omega), rfl⟩⟩
    · rintro ds rfl σ5 H5 r5 pv5
      exact ⟨r3.trans r5, fun _ => (pv5 (Nat.le_refl 2)).1.le (by show 0 + 6 + 2 * i + 2 ≤ 0 + 6 + 2 * (i + 1); omega)⟩
  rintro n rfl σ2 H2 r2 pv
  have S2 : St8 K v1 v2 a H c 18 σ2 H2 := (pv (Nat.le_refl _)).le (by rw [List.length_map] at lps; omega)
  walk_at "nx"
  refine s_odds (m := 6) (Od := fun d => heldOk c.n d = false) hn S2 (by decide) (eall_cons (ev_p (ev_catT (ds := [.int 1]) (ev_tup (ea_cons ev_int ea_nil) (by simp)) (ev_slice (ds := hs.map PyData.int) (it1 S2) (eo_some (K := K) (ev_int (i := 1))) eo_none) (by
        have := cut_len (ds := hs.map PyData.int) (lo := some (1 : Int)) (hi := none)
        show 1 + _ ≤ _
        omega)) held_one) (eall_cons (ev_p (ev_catT (ds := [.int 0, .int 2]) (ev_tup (ea_cons ev_int (ea_cons ev_int ea_nil)) (by simp)) (ev_slice (ds := hs.map PyData.int) (it1 S2) (eo_some (K := K) (ev_int (i := 2))) eo_none) (by
        have := cut_len (ds := hs.map PyData.int) (lo := some (2 : Int)) (hi := none)
        show 2 + _ ≤ _
        omega)) held_two) (eall_cons (ev_p (ev_slice (ds := hs.map PyData.int) (it1 S2) eo_none (eo_some (K := K) (ev_int (i := 1)))) (held_len' (by
        have := cut_take (ds := hs.map PyData.int) (n := 1) (by rw [List.length_map, hhs.1]; omega)
        rw [show ((1 : Nat) : Int) = (1 : Int) from rfl] at this
        rw [this, List.length_take]
        omega))) (eall_cons (ev_p (ev_list (it1 S2)) rfl) (eall_cons (ev_p (ev_catT (ds := hs.map PyData.int) (es := [.int 0]) (it1 S2) (ev_tup (ea_cons ev_int ea_nil) (by simp)) (by show _ + 1 ≤ _; omega)) (held_len' (by rw [List.length_append, List.length_map, hhs.1]; show _ + 1 ≠ _; omega))) (eall_cons (ev_p ev_non rfl) eall_nil))))))
    (fun x d k a4 H' od kx S' => case4 (it0 S') (ev_var rfl kx (Rl.refl S'.wl)) (it2 S') (it3 S') (by decide +kernel) (refH d od) (fun z => absurd z (by decide))) fun σ3 H3 r3 S3 => ?_
  walk_at "nx"
  refine s_odds (m := 8) (Od := fun d => isBase d = false) hn S3 (by decide) (eall_cons (ev_p ev_int rfl) (eall_cons (ev_p ev_int rfl) (eall_cons (ev_p (ev_neg ev_int) rfl) (eall_cons (ev_p ev_bl rfl) (eall_cons (ev_p ev_non rfl) (eall_cons (ev_p ev_str rfl) (eall_cons (ev_p (ev_tup (ea_cons (ev_int (i := 2)) ea_nil) (by simp)) rfl) (eall_cons (ev_p (ev_lst (ea_cons (ev_int (i := 2)) ea_nil) (by simp)) rfl) eall_nil))))))))
    (fun x d k a4 H' od kx S' => case4 (it0 S') (it1 S') (ev_catT (ds := [d]) (ev_tup (ea_cons (ev_var rfl kx (Rl.refl S'.wl)) ea_nil) (by simp)) (ev_slice (ds := [.int b, qs fl, qs rm, qs ch]) (it2 S') (eo_some (K := K) (ev_int (i := 1))) eo_none) (by
        have := cut_len (ds := [.int b, qs fl, qs rm, qs ch]) (lo := some (1 : Int)) (hi := none)
        have h4 : [PyData.int b, qs fl, qs rm, qs ch].length = 4 := rfl
        show 1 + _ ≤ _
        omega)) (it3 S') (by decide +kernel) (refW _ (world_base od)) (fun _ => world_base od)) fun σ4 H4 r4 S4 => ?_
  walk_at "nx"
  refine s_odds (m := 12) (Od := fun d => slackOk d = false) hn S4 (by decide) (eall_cons (ev_p (ev_tup (ea_cons (ev_neg (ev_int (i := 1))) (ea_cons (ev_int (i := 2)) ea_nil)) (by simp)) rfl) (eall_cons (ev_p (ev_tup (ea_cons (ev_int (i := 2)) (ea_cons (ev_int (i := 4)) ea_nil)) (by simp)) rfl) (eall_cons (ev_p (ev_tup (ea_cons (ev_int (i := 1)) (ea_cons (ev_int (i := 0)) ea_nil)) (by simp)) rfl) (eall_cons (ev_p ev_int rfl) (eall_cons (ev_p ev_non rfl) (eall_cons (ev_p (ev_lst (ea_cons (ev_int (i := 0)) (ea_cons (ev_int (i := 1)) ea_nil)) (by simp)) rfl) (eall_cons (ev_p (ev_tup (ea_cons (ev_int (i := 0)) (ea_cons (ev_int (i := 1)) (ea_cons (ev_int (i := 1)) ea_nil))) (by simp)) rfl) (eall_cons (ev_p (ev_tup (ea_cons (ev_bl (b := true)) (ea_cons (ev_int (i := 1)) ea_nil)) (by simp)) rfl) (eall_cons (ev_p (ev_tup (ea_cons (ev_int (i := 0)) (ea_cons (ev_bl (b := true)) ea_nil)) (by simp)) rfl)
    (eall_cons (ev_p (ev_tup (ea_cons (ev_int (i := 1)) (ea_cons (ev_neg (ev_int (i := 1))) ea_nil)) (by simp)) rfl) (eall_cons (ev_p ev_str rfl) (eall_cons (ev_p (ev_tup ea_nil (by simp)) rfl) eall_nil))))))))))))
    (fun x d k a4 H' od kx S' => case4 (it0 S') (it1 S') (it2 S') (ev_var rfl kx (Rl.refl S'.wl)) (by decide +kernel) (refS d od) (fun z => absurd z (by decide))) fun σ5 H5 r5' S5 => ?_
  obtain ⟨⟨a3, a4, rfl⟩, rG, xs, acc, ea, _, kx, hacc⟩ := S5
  have rp : Rl p0 H H5 := rl_unmut hn rG
  have kl : Dp K (vw p0 H5) (.ref a) (.list acc) := .lst (SqL.of (vw_of (vw_at pi0 hn) ea)) (dpa_ex vw_unmut kx)
  clear kx ea rG S0 S1 S2 S3 S4 it0 it1 it2 it3 v2' case4 r1 r2 r3 r4 r5 r5' r5m pv
  walk_at "nx"
  refine s_forL (K := K) (p := p0) (ds := acc) (ev_var rfl kl (Rl.refl pi0)) pi0 (fun i σ' _ => ∃ a3 a4 a5 a6, σ' = [some v1, some v2, some (.ref a), a3, a4, a5, a6, none]) (fun H6 r6 => ⟨_, _, _, _, rfl⟩) ?_ ?_
  · rintro H6 r6 i x d σ' H7 hx kx r7 ⟨a3, a4, a5, a6, rfl⟩
    obtain ⟨x1, d0, d1, d2, d3, rfl, hx1, hR, hW⟩ := hacc d (List.mem_of_getElem? hx)
    have rA := (rp.trans r6).trans r7
    show tSeq _ _ _ [some v1, some v2, some (.ref a), a3, a4, some x, a6, none] H7
    walk_at "nx"
    refine s_asg (K := K) (d := .list [.str "refused", .str x1, .int (-1)]) (ev_call (ds := [.int 4, netD c, .tuple [d0, d1, d2, d3]]) (ea_cons ev_int (ea_cons (ev_var rfl k1p rA) (ea_cons (ev_ixT (ev_var rfl kx (Rl.refl pi0)) ev_int rfl) ea_nil))) ⟨4, c, [d0, d1, d2, d3], _, .error x1, rfl, .inl rfl, by simp, rfl, .inr (.inr ⟨.inl rfl, hR⟩)⟩) pi0 fun v6 H8 r8 k6 => ?_
    walk_at "nx"
    refine s_no (b := false) (et_is (et_or (a := false) (b := false) (et_is (et_not (et_B (K := K) (ev_isLst (ev_var rfl k6 (Rl.refl pi0))))) rfl) fun _ => et_not (a := true) (et_B (ev_call (ds := [.tuple [.str "refused", .str x1, .int (-1)], .tuple [.str "refused", .str x1, .int (-1)]]) (ea_cons (ev_tuple (ev_var rfl k6 (Rl.refl pi0))) (ea_cons (ev_tup (ea_cons ev_str (ea_cons (ev_ixT (ev_var rfl kx r8) ev_int rfl) (ea_cons (ev_neg ev_int) ea_nil))) (by simp)) ea_nil)) ⟨_, _, true, rfl, Lo.ref hx1, Lo.ref hx1, rfl, rfl, by simp⟩))) rfl) rfl pi0 fun H9 r9 => ?_
    walk_at "nx"
    refine s_no (b := false) (et_is (et_and (a := decide (x1 = "world")) (b := false) (et_is (et_test (K := K) (ev_eq (d := .str x1) (ev_ixT (ev_var rfl kx (r8.trans r9)) ev_int rfl) ev_str (Lo.str hx1).sh (by decide +kernel))) (by rw [eqv_str])) fun e => et_test (K := K) (ev_is (ev_notB (a := worldOk c d2) (b := false) (ev_call (ds := [netD c, d2]) (ea_cons (ev_var rfl k1p ((rA.trans r8).trans r9)) (ea_cons (ev_ixT (ds := [d0, d1, d2, d3]) (ev_ixT (ev_var rfl kx (r8.trans r9)) ev_int rfl) ev_int rfl) ea_nil)) ⟨c, d2, rfl, rfl⟩) ev_bl) (by rw [hW (by simpa using e)]; rfl))) (by simp)) rfl pi0 fun H10 r10 => ?_
    exact ⟨((r7.trans r8).trans r9).trans r10, _, _, _, _, rfl⟩
  rintro σ' H6 r6 ⟨a3, a4, a5, a6, rfl⟩
  walk_at "nx"
  have rB := rp.trans r6
  refine s_forR (K := K) (p := p0) (n := (c.n : Int)) (ev_is (ev_lenT (ds := hs.map PyData.int) (ev_ixT (ev_var rfl k2 rB) ev_int rfl)) (by rw [List.length_map, hhs.1])) (by have := L.good.small; omega) (by omega) pi0 (fun i σ' _ => ∃ a3 a4 a7, σ' = [some v1, some v2, some (.ref a), a3, a4, a5, a6, a7]) (fun H7 r7 => ⟨_, _, _, rfl⟩) ?_ ?_
  · rintro H7 r7 i σ' H8 hi r8 ⟨a3, a4, a7, rfl⟩
    have rC := (rB.trans r7).trans r8
    show tFor _ _ _ _ [some v1, some v2, some (.ref a), a3, some (.int (i : Int)), a5, a6, a7] H8
    have Od : ∀ {d : D}, d = d → True := fun _ => trivial
    refine s_forTP (K := K) (p1 := p0) (p := p0) (A := fun ds => ds.length = 6 ∧ ∀ d, d ∈ ds → isQf (fun a b => decide (0 ≤ a) && decide (a ≤ b)) d = false) (evp_tup (eall_cons (ev_p (ev_tup (ea_cons (ev_neg (ev_int (i := 1))) (ea_cons (ev_int (i := 7)) ea_nil)) (by simp)) rfl) (eall_cons (ev_p (ev_tup (ea_cons (ev_int (i := 8)) (ea_cons (ev_int (i := 7)) ea_nil)) (by simp)) rfl) (eall_cons (ev_p (ev_tup (ea_cons (ev_int (i := 2)) (ea_cons (ev_int (i := 2)) ea_nil)) (by simp)) rfl) (eall_cons (ev_p (ev_tup (ea_cons (ev_int (i := 0)) (ea_cons (ev_int (i := 0)) ea_nil)) (by simp)) rfl) (eall_cons (ev_p ev_int rfl) (eall_cons (ev_p (ev_lst (ea_cons (ev_int (i := 0)) (ea_cons (ev_int (i := 1)) ea_nil)) (by simp)) rfl) eall_nil)))))) fun ds h => by omega) pi0 (fun _ r => r) (fun _ => Ex.refl _) (fun j σ' _ => ∃ a3 a7, σ' = [some v1, some v2, some (.ref a), a3, some (.int (i : Int)), a5, a6, a7]) (fun H9 r9 => ⟨_, _, rfl⟩) ?_ ?_
    · rintro ds ⟨_, hds⟩ H9 r9 j x d σ' H10 hx kx r10 ⟨a3, a7, rfl⟩
      have hd := hds d (List.mem_of_getElem? hx)
      have rD := (rC.trans r9).trans r10
      have hc1 := cut_len (ds := ch.map qD) (lo := none) (hi := some (i : Int))
      have hc2 := cut_len (ds := ch.map qD) (lo := some ((i : Int) + 1)) (hi := none)
      have hcl : (ch.map qD).length ≤ 1000 := by rw [List.length_map, W.nc]; exact L.good.small
      show tSeq _ _ _ [some v1, some v2, some (.ref a), some x, some (.int (i : Int)), a5, a6, a7] H10
      have w3 : ∀ {σ : L2.St} {H' : Hp}, σ[1]? = some (some v2) → Rl p0 H H' → EvD K p0 (tOp (rIx K) (tVar 1) (tC (.int 2))) σ H' (.tuple [.int b, qs fl, qs rm, qs ch]) := fun h r => ev_ixT (ev_var h k2 r) ev_int rfl
      walk_at "nx"
      refine s_asg (K := K) (d := .tuple (cutD (ch.map qD) none (some (i : Int)) ++ [d] ++ cutD (ch.map qD) (some ((i : Int) + 1)) none)) (ev_catT (ev_catT (ev_slice (ds := ch.map qD) (ev_ixT (w3 rfl rD) ev_int rfl) eo_none (eo_some (K := K) (i := (i : Int)) (ev_slot rfl fun _ => .int _))) (ev_tup (ds := [d]) (ea_cons (ev_var rfl kx (Rl.refl pi0)) ea_nil) (by simp)) (by show _ + 1 ≤ _; omega)) (ev_slice (ds := ch.map qD) (ev_ixT (w3 rfl rD) ev_int rfl) (eo_some (K := K) (ev_I0 (f := fun i j => i + j) (i := (i : Int)) (j := 1) (ev_slot rfl fun _ => .int _) ev_int)) eo_none) (by rw [List.length_append]; show _ + 1 + _ ≤ _; omega)) pi0 fun v7 H11 r11 k7 => ?_
      walk_at "nx"
      refine s_no (b := false) (et_test (K := K) (ev_is (ev_notB (a := false) (b := false) (ev_call (ds := [netD c, .tuple [.int b, qs fl, qs rm, .tuple (cutD (ch.map qD) none (some (i : Int)) ++ [d] ++ cutD (ch.map qD) (some ((i : Int) + 1)) none)]]) (ea_cons (ev_var rfl k1p (rD.trans r11)) (ea_cons (ev_catT (ds := [.int b, qs fl, qs rm]) (ev_slice (ds := [.int b, qs fl, qs rm, qs ch]) (lo := none) (hi := some 3) (w3 rfl (rD.trans r11)) eo_none (eo_some (K := K) ev_int)) (ev_tup (ea_cons (ev_var rfl k7 (Rl.refl pi0)) ea_nil) (by simp)) (by simp)) ea_nil)) ⟨c, _, rfl, by rw [world_ch (d := d) (by simp) hd]⟩) ev_bl) rfl)) rfl pi0 fun H12 r12 => ?_
      exact ⟨(r10.trans r11).trans r12, _, _, rfl⟩
    · rintro ds _ σ' H9 r9 ⟨a3, a7, rfl⟩
      exact ⟨r8.trans r9, _, _, _, rfl⟩
  · rintro σ' H7 r7 ⟨a3, a4, a7, rfl⟩
    walk_at "nx"
    exact s_ret (en_flat ev_bl rfl) (rB.trans r7).e0 hq
end

end Ky
set_option Elab.async false
set_option linter.all false
set_option maxRecDepth 4000
set_option maxHeartbeats 4000000
namespace Ky
open PySem PySem.Spec PyProof.Rows L2
local macro_rules | `(tactic| walk_at "rl") => `(tactic| first | assumption | exact Rl.refl pi0 | exact Rl.refl (by assumption) | exact Rl.refl (Rl.pi (by assumption)) | (refine Rl.trans (by assumption) ?_; walk_at "rl"))
local macro_rules | `(tactic| walk_at "ev") => `(tactic| first
  | with_reducible exact ev_int | with_reducible exact ev_bl | with_reducible exact ev_str | with_reducible exact ev_non
  | ((with_reducible apply ev_var); (focus exact rfl); (focus assumption); (focus walk_at "rl"))
  | ((with_reducible apply ev_slot); (focus exact rfl); (focus first | exact fun _ => Dp.int _ | exact fun _ => Dp.bl _ | exact fun _ => Dp.str _ | exact fun _ => Dp.non))
  | with_reducible exact ea_nil | with_reducible exact eo_none | with_reducible exact et_yes
  | with_reducible exact sh_int | with_reducible exact sh_bool | with_reducible exact sh_non
  | ((with_reducible apply ea_cons) <;> try walk_at "ev")
  | ((with_reducible apply ev_I0) <;> try walk_at "ev")
  | ((with_reducible apply ev_B0) <;> try walk_at "ev")
  | ((with_reducible apply ev_IC) <;> try walk_at "ev")
  | ((with_reducible apply ev_neg) <;> try walk_at "ev")
  | ((with_reducible apply ev_chain) <;> try walk_at "ev")
  | ((with_reducible apply ev_isTup) <;> try walk_at "ev")
  | ((with_reducible apply ev_isInt) <;> try walk_at "ev")
  | ((with_reducible apply ev_isBool) <;> try walk_at "ev")
  | ((with_reducible apply ev_isStr) <;> try walk_at "ev")
  | ((with_reducible apply ev_isLst) <;> try walk_at "ev")
  | ((with_reducible apply ev_isN) <;> try walk_at "ev")
  | ((with_reducible apply ev_notN) <;> try walk_at "ev")
  | ((with_reducible apply ev_notB) <;> try walk_at "ev")
  | ((with_reducible apply ev_eq) <;> try walk_at "ev")
  | ((with_reducible apply ev_ne) <;> try walk_at "ev")
  | ((with_reducible apply ev_abs) <;> try walk_at "ev")
  | ((with_reducible apply ev_max) <;> try walk_at "ev")
  | ((with_reducible apply ev_bits) <;> try walk_at "ev")
  | ((with_reducible apply ev_gcd) <;> try walk_at "ev")
  | ((with_reducible apply ev_list) <;> try walk_at "ev")
  | ((with_reducible apply ev_tuple) <;> try walk_at "ev")
  | ((with_reducible apply ev_tup) <;> try walk_at "ev")
  | ((with_reducible apply ev_lst) <;> try walk_at "ev")
  | ((with_reducible apply ev_catT) <;> try walk_at "ev")
  | ((with_reducible apply ev_slice) <;> try walk_at "ev")
  | ((with_reducible apply eo_some) <;> try walk_at "ev")
  | ((with_reducible apply ev_notV) <;> try walk_at "ev")
  | ((with_reducible apply et_test) <;> try walk_at "ev")
  | ((with_reducible apply et_B) <;> try walk_at "ev")
  | ((with_reducible apply et_not) <;> try walk_at "ev")
  | ((with_reducible apply ev_lenT); (focus (walk_at "ev"; done)))
  | ((with_reducible apply ev_lenL); (focus (walk_at "ev"; done)))
  | ((with_reducible apply ev_intI); (focus (walk_at "ev"; done)))
  | ((with_reducible apply ev_intB); (focus (walk_at "ev"; done)))
  | ((with_reducible apply ev_ixT); (focus (walk_at "ev"; done)); (focus (walk_at "ev"; done)); (try first | rfl | assumption))
  | ((with_reducible apply ev_ixL); (focus (walk_at "ev"; done)); (focus (walk_at "ev"; done)); (try first | rfl | assumption))
  | ((with_reducible apply ev_call); (focus (walk_at "ev"; done))))
local macro_rules | `(tactic| walk_at "nx") => `(tactic| ((try dsimp only); (try ((with_reducible refine st_next ?_); (try dsimp only))); (try with_reducible refine st_seq ?_)))
section
variable {P : Program} {w : World} {K : PySem.W.Frag} {mg : Str → Option Value} {base : Heap} {f : Addr} {fd : FuncData} {C fI CO : Addr} {fdI : FuncData}
def Fl (d : D) : Prop := flatD d = true ∧ d.canLay0 = true
theorem fl_ints {is : List Int} : ∀ d, d ∈ is.map PyData.int → Fl d := fun d m => by
  obtain ⟨i, _, rfl⟩ := List.mem_map.mp m
  exact ⟨rfl, rfl⟩
theorem fl_cut {is : List Int} {lo hi : Option Int} : ∀ d, d ∈ cutD (is.map PyData.int) lo hi → Fl d := fun d m => fl_ints d (cut_mem m)
theorem fl_app {ds es : List D} (h1 : ∀ d, d ∈ ds → Fl d) (h2 : ∀ d, d ∈ es → Fl d) : ∀ d, d ∈ ds ++ es → Fl d := fun d m => by
  rcases List.mem_append.mp m with h | h
  · exact h1 d h
  · exact h2 d h
theorem fl_one {d : D} (h : Fl d) : ∀ e, e ∈ [d] → Fl e := fun e m => by
  have : e = d := by simpa using m
  rw [this]; exact h
theorem fl_two {d e : D} (h : Fl d) (h2 : Fl e) : ∀ x, x ∈ [d, e] → Fl x := fun x m => by
  rcases List.mem_cons.mp m with q | q
  · rw [q]; exact h
  · exact fl_one h2 x q
theorem fl_three {d e g : D} (h : Fl d) (h2 : Fl e) (h3 : Fl g) : ∀ x, x ∈ [d, e, g] → Fl x := fun x m => by
  rcases List.mem_cons.mp m with q | q
  · rw [q]; exact h
  · exact fl_two h2 h3 x q
theorem fl_i {i : Int} : Fl (.int i) := ⟨rfl, rfl⟩
theorem fl_b {b : Bool} : Fl (.bool b) := ⟨rfl, rfl⟩
theorem dpa_set {H : Hp} {v : V} {d : D} : ∀ {vs : List V} {ds : List D} (k : Nat), DpAll K H vs ds → Dp K H v d → DpAll K H (vs.set k v) (ds.set k d)
  | [], _, k, h, _ => by cases h; exact .nil
  | _ :: _, _, 0, h, kd => by
    cases h with
    | cons k1 h => exact .cons kd h
  | _ :: _, _, k + 1, h, kd => by
    cases h with
    | cons k1 h => exact .cons k1 (dpa_set k h kd)
theorem s_newL {p : Pw} {σ : L2.St} {H : Hp} {ta : TA} {F : Ends} {ds : List D} {i : Nat} (h : EvA K p ta σ H ds) (hl : ds.length ≤ 100000) (pi : Wl p H) (k : ∀ a xs H1, Rl p H H1 → H1 a = none → DpAll K (vw p H1) xs ds → F.nx (σ.set i (some (.ref a))) (upd H1 a (.lst xs))) : tAsg (tLst ta) (gName i) F σ H :=
  h H (Rl.refl pi) _ fun vs ds' H1 r1 ed kd => by
    subst ed
    exact ⟨Evl.sz_of (by rw [dpa_len kd]; exact hl), fun a ha => k a vs H1 r1 ha kd⟩
theorem s_ifM {p1 p : Pw} {σ : L2.St} {H : Hp} {t : TT} {tu : TS} {F : Ends} (G : L2.St → Hp → Prop) {b : Bool} (h : EvT p1 t σ H b) (pi : Wl p1 H) (cv : ∀ H1, Rl p1 H H1 → Rl p H H1) (k : ∀ σ' H', Rl p H H' → G σ' H' → F.nx σ' H') (h1 : b = true → ∀ H1, Rl p1 H H1 → (∀ σ' H', Rl p H H' → G σ' H' → F.nx σ' H') → tu F σ H1) (h2 : b = false → ∀ H1, Rl p1 H H1 → G σ H1) : tIfS t tu tNext F σ H :=
  s_if h pi (fun e H1 r1 => h1 e H1 r1 k) fun e H1 r1 => k σ H1 (cv H1 r1) (h2 e H1 r1)
theorem s_word {p : Pw} {σ : L2.St} {H : Hp} {te : TE} {F : Ends} {b : Bool} {x y : Str} (h : EvD K p te σ H (.bool b)) (hσ : σ.set 6 (some (.str y)) = σ) (pi : Wl p H) (k : ∀ H1, Rl p H H1 → F.nx (σ.set 6 (some (.str (if b = true then y else x)))) H1) : tIfS (tNot (tB te)) (tAsg (tC (.str x)) (gName 6)) tNext F σ H := by
  cases b with
  | true =>
    refine s_no (b := false) (et_not (a := true) (et_B h)) rfl pi fun H1 r1 => ?_
    have := k H1 r1
    rw [if_pos rfl, hσ] at this
    exact this
  | false =>
    refine s_yes (b := true) (et_not (a := false) (et_B h)) rfl pi fun H1 r1 => ?_
    refine s_asg (K := K) (d := .str x) ev_str r1.pi fun v H2 r2 kv => ?_
    rw [dp_strv kv]
    exact k H2 (r1.trans r2)
/-! ### the four arguments, one or two of them changed -/
def OddP (c : Net) (ps hs : List Int) (wd : Int × Int) : Nat → D → Prop
  | 0, d => d = nums ps ∨ (Lo d ∧ posOk c d = false)
  | 1, d => d = nums hs ∨ (Lo d ∧ heldOk c.n d = false)
  | 2, d => BdW d
  | _, d => d = qD wd ∨ (Lo d ∧ slackOk d = false)
def StO (K : PySem.W.Frag) (p : Pw) (q : Addr) (v1 v2 : V) (a : Addr) (G : Hp) (O : Nat → D → Prop) (σ : L2.St) (H : Hp) : Prop :=
  (∃ a4 a5 a9 a10 a11, σ = [some (.ref q), some v1, some v2, some (.ref a), a4, a5, none, none, none, a9, a10, a11]) ∧ Rl (p.mut a) G H ∧ ∃ (xs : List V) (ds : List D), H a = some (.lst xs) ∧ DpAll K (vw (p.mut a) H) xs ds ∧ ds.length = 4 ∧ ∀ k d, ds[k]? = some d → O k d
section
variable {p : Pw} {q : Addr} {v1 v2 : V} {a : Addr} {G H H1 : Hp} {O : Nat → D → Prop} {σ : L2.St} {te : TE} {F : Ends}
theorem StO.wl (S : StO K p q v1 v2 a G O σ H) : Wl (p.hide a) H := by
  obtain ⟨_, h2, xs, ds, h3, _⟩ := S
  exact wl_hide (wl_unmut h2.pi) h3
theorem StO.hide (pG : Wl p G) (hn : G a = none) (S : StO K p q v1 v2 a G O σ H) (r : Rl (p.hide a) H H1) : StO K p q v1 v2 a G O σ H1 := by
  obtain ⟨h1, h2, xs, ds, h3, h4, h5⟩ := S
  exact ⟨h1, h2.trans (rl_h2m r), xs, ds, r.keep h3 (vw_at pG hn).1, dpa_ex (rl_h2m r).ex h4, h5⟩
theorem StO.to (S : StO K p q v1 v2 a G O σ H) {σ2 : L2.St} (h : ∃ a4 a5 a9 a10 a11, σ2 = [some (.ref q), some v1, some v2, some (.ref a), a4, a5, none, none, none, a9, a10, a11]) : StO K p q v1 v2 a G O σ2 H := ⟨h, S.2⟩
theorem s_setO {k : Nat} (pG : Wl p G) (hn : G a = none) (S : StO K p q v1 v2 a G O σ H) (hk : k < 4) (h : EvP K (p.hide a) te σ H (O k)) (kk : ∀ H1, Rl (p.mut a) H H1 → StO K p q v1 v2 a G O σ H1 → F.nx σ H1) : tAsg te (gSub (tVar 3) (tC (.int (k : Nat))) rSetL) F σ H :=
  h H (Rl.refl S.wl) _ fun v d H1 r1 pd kd => by
    obtain ⟨⟨a4, a5, a9, a10, a11, rfl⟩, h2, xs, ds, h3, h4, h5, h6⟩ := S.hide pG hn r1
    have hl : xs.length = 4 := (dpa_len h4).trans h5
    have rw4 : Rl (p.mut a) H1 (upd H1 a (.lst (xs.set k v))) := rl_write h2.pi h3 (pool_ne pG hn)
    refine ⟨_, rfl, a, xs, (k : Nat), k, rfl, rfl, h3, by rw [hl]; unfold ixN; have : ¬ ((k : Int) < 0) := by omega
                                                          first | (simp; omega) | (simp [this]; omega), kk _ ((rl_h2m r1).trans rw4) ⟨⟨_, _, _, _, _, rfl⟩, h2.trans rw4, xs.set k v, ds.set k d, upd_same, dpa_ex rw4.ex (dpa_set k h4 (dp_ex vw_h2m kd)), by rw [List.length_set]; exact h5, fun j e he => ?_⟩⟩
    rw [List.getElem?_set] at he
    by_cases q : k = j
    · subst q
      rw [if_pos rfl, if_pos (by omega)] at he
      cases he
      exact pd
    · rw [if_neg q] at he
      exact h6 j e he
end
end

end Ky
set_option Elab.async false
set_option linter.all false
set_option maxRecDepth 4000
set_option maxHeartbeats 4000000
namespace Ky
open PySem PySem.Spec PyProof.Rows L2
local macro_rules | `(tactic| walk_at "rl") => `(tactic| first | assumption | exact Rl.refl pi0 | exact Rl.refl (by assumption) | exact Rl.refl (Rl.pi (by assumption)) | (refine Rl.trans (by assumption) ?_; walk_at "rl"))
local macro_rules | `(tactic| walk_at "ev") => `(tactic| first
  | with_reducible exact ev_int | with_reducible exact ev_bl | with_reducible exact ev_str | with_reducible exact ev_non
  | ((with_reducible apply ev_var); (focus exact rfl); (focus assumption); (focus walk_at "rl"))
  | ((with_reducible apply ev_slot); (focus exact rfl); (focus first | exact fun _ => Dp.int _ | exact fun _ => Dp.bl _ | exact fun _ => Dp.str _ | exact fun _ => Dp.non))
  | with_reducible exact ea_nil | with_reducible exact eo_none | with_reducible exact et_yes
  | with_reducible exact sh_int | with_reducible exact sh_bool | with_reducible exact sh_non
  | ((with_reducible apply ea_cons) <;> try walk_at "ev")
  | ((with_reducible apply ev_I0) <;> try walk_at "ev")
  | ((with_reducible apply ev_B0) <;> try walk_at "ev")
  | ((with_reducible apply ev_IC) <;> try walk_at "ev")
  | ((with_reducible apply ev_neg) <;> try walk_at "ev")
  | ((with_reducible apply ev_chain) <;> try walk_at "ev")
  | ((with_reducible apply ev_isTup) <;> try walk_at "ev")
  | ((with_reducible apply ev_isInt) <;> try walk_at "ev")
  | ((with_reducible apply ev_isBool) <;> try walk_at "ev")
  | ((with_reducible apply ev_isStr) <;> try walk_at "ev")
  | ((with_reducible apply ev_isLst) <;> try walk_at "ev")
  | ((with_reducible apply ev_isN) <;> try walk_at "ev")
  | ((with_reducible apply ev_notN) <;> try walk_at "ev")
  | ((with_reducible apply ev_notB) <;> try walk_at "ev")
  | ((with_reducible apply ev_eq) <;> try walk_at "ev")
  | ((with_reducible apply ev_ne) <;> try walk_at "ev")
  | ((with_reducible apply ev_abs) <;> try walk_at "ev")
  | ((with_reducible apply ev_max) <;> try walk_at "ev")
  | ((with_reducible apply ev_bits) <;> try walk_at "ev")
  | ((with_reducible apply ev_gcd) <;> try walk_at "ev")
  | ((with_reducible apply ev_list) <;> try walk_at "ev")
  | ((with_reducible apply ev_tuple) <;> try walk_at "ev")
  | ((with_reducible apply ev_tup) <;> try walk_at "ev")
  | ((with_reducible apply ev_lst) <;> try walk_at "ev")
  | ((with_reducible apply ev_catT) <;> try walk_at "ev")
  | ((with_reducible apply ev_slice) <;> try walk_at "ev")
  | ((with_reducible apply eo_some) <;> try walk_at "ev")
  | ((with_reducible apply ev_notV) <;> try walk_at "ev")
  | ((with_reducible apply et_test) <;> try walk_at "ev")
  | ((with_reducible apply et_B) <;> try walk_at "ev")
  | ((with_reducible apply et_not) <;> try walk_at "ev")
  | ((with_reducible apply ev_lenT); (focus (walk_at "ev"; done)))
  | ((with_reducible apply ev_lenL); (focus (walk_at "ev"; done)))
  | ((with_reducible apply ev_intI); (focus (walk_at "ev"; done)))
  | ((with_reducible apply ev_intB); (focus (walk_at "ev"; done)))
  | ((with_reducible apply ev_ixT); (focus (walk_at "ev"; done)); (focus (walk_at "ev"; done)); (try first | rfl | assumption))
  | ((with_reducible apply ev_ixL); (focus (walk_at "ev"; done)); (focus (walk_at "ev"; done)); (try first | rfl | assumption))
  | ((with_reducible apply ev_call); (focus (walk_at "ev"; done))))
local macro_rules | `(tactic| walk_at "nx") => `(tactic| ((try dsimp only); (try ((with_reducible refine st_next ?_); (try dsimp only))); (try with_reducible refine st_seq ?_)))
section
variable {P : Program} {w : World} {K : PySem.W.Frag} {mg : Str → Option Value} {base : Heap} {f : Addr} {fd : FuncData} {C fI CO : Addr} {fdI : FuncData}
theorem lo_tup {ds : List D} (h : ∀ d, d ∈ ds → Fl d) (l : ds.length ≤ 1000) : Lo (.tuple ds) := .tup h l
theorem lo_lst {ds : List D} (h : ∀ d, d ∈ ds → Fl d) (l : ds.length ≤ 1000) : Lo (.list ds) := .lst h l
theorem lo_nums {is : List Int} (h : is.length ≤ 1000) : Lo (nums is) := lo_ints h
theorem ev_p2 {p : Pw} {σ : L2.St} {H : Hp} {te : TE} {d : D} {A B : D → Prop} (h : EvD K p te σ H d) (a : A d) (b : B d) : EvP K p te σ H fun d => A d ∧ B d := h.imp fun e he => by rw [he]; exact ⟨a, b⟩
theorem ok_law_odd_call (FR : Free mg) (A : At K mg "_law_odd_call" s_law_odd_call P_law_odd_call f fd) (c1 : Prm P w K mg base CX0 1 "_law_pick" P_law_pick (SpG K PrePick PostPick)) (c2 : Prm P w K mg base CX0 3 "_law_bent" P_law_bent (SpG K PreBent PostBent)) (c3 : Prm P w K mg base CX0 3 "_law_same" P_law_same (SpR K Rsame)) (c4 : Prm P w K mg base CX0 4 "_law_is_earth" P_law_is_earth (SpR K Rearth))
    (c5 : Prm P w K mg base CX0 2 "_law_fault" P_law_fault (SpR K Rfault)) (c6 : Prm P w K mg base CX0 4 "_law_meets" P_law_meets (SpR K Rmeets)) (c7 : Prm P w K mg base CX0 7 "_law_heard" P_law_heard (SpR K Rheard)) :
    Prm P w K mg base CX0 8 "_law_odd_call" P_law_odd_call (SpG K PreCall PostTrue) := by
  refine mk_prmG A sc_law_odd_call (fun ds ⟨c, es, e, _⟩ => by rw [e]; rfl) (dv_law_odd_call FR c1 c2 c3 c4 c5 c6 c7) ?_
  rintro p q vs ds H Q hp hw hv ⟨c, es, rfl, ps, hs, b, fl, rm, ch, wd, L, hps, hhs, hwd, W, rfl⟩ hq
  obtain ⟨v1, v2, rfl, k1, k2⟩ := dpa2 hv
  have S := stated_of hps hhs hwd W
  have n2 : 2 ≤ c.n := Nat.le_trans L.good.two (Nat.le_add_right _ _)
  have R := W.rows L
  have lps : (ps.map PyData.int).length ≤ 6 := by rw [List.length_map, hps.1]; exact L.s6
  have lhs : (hs.map PyData.int).length ≤ 900 := by
    rw [List.length_map, hhs.1]
    have h1 := L.f4
    have h2 := L.t4
    have : c.n = c.feeds.length + c.tanks.length := rfl
    omega
  show t_law_odd_call K _ [some (.ref q.1), some v1, some v2, none, none, none, none, none, none, none, none, none] H
  unfold t_law_odd_call
  walk_at "nx"
  refine s_newL (K := K) (ds := [nums ps, nums hs, wdD b fl rm ch, qD wd]) (ea_cons (ev_ixT (ev_var rfl k2 (Rl.refl hw)) ev_int rfl) (ea_cons (ev_ixT (ev_var rfl k2 (Rl.refl hw)) ev_int rfl) (ea_cons (ev_ixT (ev_var rfl k2 (Rl.refl hw)) ev_int rfl) (ea_cons (ev_ixT (ev_var rfl k2 (Rl.refl hw)) ev_int rfl) ea_nil)))) (by simp) hw fun a xs0 G r1 hn kx0 => ?_
  have pG : Wl p G := r1.pi
  have kG1 := dp_ex r1.ex k1
  have kG2 := dp_ex r1.ex k2
  have rn : Rl p G (upd G a (.lst xs0)) := Rl.new pG hn
  have SO0 : StO K p q.1 v1 v2 a G (OddP c ps hs wd) [some (.ref q.1), some v1, some v2, some (.ref a), none, none, none, none, none, none, none, none] (upd G a (.lst xs0)) := ⟨⟨_, _, _, _, _, rfl⟩, rl_mut rn upd_same, xs0, _, upd_same, dpa_ex (vw_behind hn rn.ex) kx0, rfl, fun k d hk => by
    match k, hk with
    | 0, hk => cases hk; exact .inl rfl
    | 1, hk => cases hk; exact .inl rfl
    | 2, hk => cases hk; exact bdw_tup R.bd (by simp)
    | 3, hk => cases hk; exact .inl rfl
    | _ + 4, hk => cases hk⟩
  have hph : (p.hide a).pl = some q := hp
  have vi : ∀ {σ : L2.St} {H' : Hp}, StO K p q.1 v1 v2 a G (OddP c ps hs wd) σ H' → EvD K (p.hide a) (tVar 2) σ H' (.tuple [nums ps, nums hs, wdD b fl rm ch, qD wd]) := fun {σ H'} S => by
    have s1 : σ[2]? = some (some v2) := by
      obtain ⟨⟨_, _, _, _, _, rfl⟩, _⟩ := S
      rfl
    exact ev_var s1 (up_hide hn S.2.1 kG2) (Rl.refl S.wl)
  have it0 : ∀ {σ : L2.St} {H' : Hp}, StO K p q.1 v1 v2 a G (OddP c ps hs wd) σ H' → EvD K (p.hide a) (tOp (rIx K) (tVar 2) (tC (.int 0))) σ H' (nums ps) := fun S => ev_ixT (vi S) ev_int rfl
  have it1 : ∀ {σ : L2.St} {H' : Hp}, StO K p q.1 v1 v2 a G (OddP c ps hs wd) σ H' → EvD K (p.hide a) (tOp (rIx K) (tVar 2) (tC (.int 1))) σ H' (nums hs) := fun S => ev_ixT (vi S) ev_int rfl
  have it2 : ∀ {σ : L2.St} {H' : Hp}, StO K p q.1 v1 v2 a G (OddP c ps hs wd) σ H' → EvD K (p.hide a) (tOp (rIx K) (tVar 2) (tC (.int 2))) σ H' (wdD b fl rm ch) := fun S => ev_ixT (vi S) ev_int rfl
  have i0 : ∀ {σ : L2.St} {H' : Hp}, StO K p q.1 v1 v2 a G (OddP c ps hs wd) σ H' → σ[0]? = some (some (.ref q.1)) := fun {σ H'} S => by
    obtain ⟨⟨_, _, _, _, _, rfl⟩, _⟩ := S
    rfl
  walk_at "nx"
  refine s_asgP (p := p.hide a) (K := K) (evp_pick hph rfl (ev_int (i := (6 : Nat))) (by decide) (by decide)) SO0.wl fun v4 d4 H2 r2 ⟨g, e4, _⟩ k4 => ?_
  subst e4
  have e4 := dp_int k4
  subst e4
  have SO2 : StO K p q.1 v1 v2 a G (OddP c ps hs wd) [some (.ref q.1), some v1, some v2, some (.ref a), some (.int (g : Int)), none, none, none, none, none, none, none] H2 := (SO0.hide pG hn r2).to ⟨_, _, _, _, _, rfl⟩
  clear SO0 kx0 rn
  walk_at "nx"
  refine s_forTP (K := K) (p1 := p.hide a) (p := p.mut a) (A := fun ds => ds.length = 2 ∧ ∀ d, d ∈ ds → ∃ i : Int, d = .int i) (evp_tup (eall_cons (ev_p (ev_slot rfl fun _ => .int (g : Int)) ⟨_, rfl⟩) (eall_cons ((evp_I0 (f := fun i j => i + j) (ev_in (ev_slot rfl fun _ => .int (g : Int))) ((evp_pick hph rfl (ev_int (i := (4 : Nat))) (by decide) (by decide)).imp fun d => pick_lt)).imp fun d ⟨i, j, e, _⟩ => ⟨_, e⟩) eall_nil)) fun ds h => by omega) SO2.wl (fun _ r => rl_h2m r) (fun _ => vw_h2m)
    (fun i σ' H' => StO K p q.1 v1 v2 a G (OddP c ps hs wd) σ' H') (fun H3 r3 => SO2.hide pG hn r3) ?_ ?_
  · rintro ds ⟨_, hds⟩ H3 r3 i x d σ' H4 hx kx r4 S4
    obtain ⟨pl, rfl⟩ := hds d (List.mem_of_getElem? hx)
    have ex := dp_int kx
    subst ex
    obtain ⟨⟨a4, a5, a9, a10, a11, rfl⟩, hS4⟩ := S4
    have S5 : StO K p q.1 v1 v2 a G (OddP c ps hs wd) [some (.ref q.1), some v1, some v2, some (.ref a), a4, some (.int pl), none, none, none, a9, a10, a11] H4 := ⟨⟨_, _, _, _, _, rfl⟩, hS4⟩
    show tSeq _ _ _ [some (.ref q.1), some v1, some v2, some (.ref a), a4, some (.int pl), none, none, none, a9, a10, a11] H4
    have tst : ∀ {σ : L2.St} {H' : Hp} (j : Int), σ[5]? = some (some (.int pl)) → EvT (p.hide a) (tTest (tOp (rEqD K) (tVar 5) (tC (.int j)))) σ H' (decide (pl = j)) := fun j h => et_is (et_test (K := K) (ev_eq (d := .int pl) (ev_slot h fun _ => .int pl) ev_int sh_int sh_int)) (by rw [eqv_int])
    walk_at "nx"
    refine s_ifM (p1 := p.hide a) (p := p.mut a) (fun σ' H' => StO K p q.1 v1 v2 a G (OddP c ps hs wd) σ' H' ∧ σ'[5]? = some (some (.int pl))) (tst 0 rfl) S5.wl (fun _ r => rl_h2m r) ?_ (fun e H6 r6 kk => ?_) fun e H6 r6 => ⟨S5.hide pG hn r6, rfl⟩
    · rintro σ6 H6 r6 ⟨S6, h65⟩
      walk_at "nx"
      refine s_ifM (p1 := p.hide a) (p := p.mut a) (fun σ' H' => StO K p q.1 v1 v2 a G (OddP c ps hs wd) σ' H' ∧ σ'[5]? = some (some (.int pl))) (tst 1 h65) S6.wl (fun _ r => rl_h2m r) ?_ (fun e H7 r7 kk => ?_) fun e H7 r7 => ⟨S6.hide pG hn r7, h65⟩
      · rintro σ7 H7 r7 ⟨S7, h75⟩
        walk_at "nx"
        refine s_ifM (p1 := p.hide a) (p := p.mut a) (fun σ' H' => StO K p q.1 v1 v2 a G (OddP c ps hs wd) σ' H' ∧ σ'[5]? = some (some (.int pl))) (tst 2 h75) S7.wl (fun _ r => rl_h2m r) ?_ (fun e H8 r8 kk => ?_) fun e H8 r8 => ⟨S7.hide pG hn r8, h75⟩
        · rintro σ8 H8 r8 ⟨S8, h85⟩
          walk_at "nx"
          refine s_if (p := p.hide a) (tst 3 h85) S8.wl (fun e H9 r9 => ?_) fun e H9 r9 => ?_
          · have S9 := S8.hide pG hn r9
            refine s_setO (k := 3) pG hn S9 (by decide) ((evp_choice (n := 9) (P := fun d => Lo d ∧ slackOk d = false) (eall_cons (ev_p2 (ev_tup (ea_cons (ev_neg (ev_int (i := 1))) (ea_cons (ev_int (i := 2)) ea_nil)) (by simp)) (lo_tup (fl_two fl_i fl_i) (by simp)) rfl) (eall_cons (ev_p2 (ev_tup (ea_cons (ev_int (i := 2)) (ea_cons (ev_int (i := 4)) ea_nil)) (by simp)) (lo_tup (fl_two fl_i fl_i) (by simp)) rfl) (eall_cons (ev_p2 (ev_tup (ea_cons (ev_int (i := 1)) (ea_cons (ev_int (i := 0)) ea_nil)) (by simp)) (lo_tup (fl_two fl_i fl_i) (by simp)) rfl) (eall_cons (ev_p2 ev_int (.flat rfl rfl) rfl) (eall_cons (ev_p2 ev_non (.flat rfl rfl) rfl)
              (eall_cons (ev_p2 (ev_lst (ea_cons (ev_int (i := 0)) (ea_cons (ev_int (i := 1)) ea_nil)) (by simp)) (lo_lst (fl_two fl_i fl_i) (by simp)) rfl) (eall_cons (ev_p2 (ev_tup (ea_cons (ev_int (i := 0)) (ea_cons (ev_int (i := 1)) (ea_cons (ev_int (i := 1)) ea_nil))) (by simp)) (lo_tup (fl_three fl_i fl_i fl_i) (by simp)) rfl) (eall_cons (ev_p2 (ev_tup (ea_cons (ev_bl (b := true)) (ea_cons (ev_int (i := 1)) ea_nil)) (by simp)) (lo_tup (fl_two fl_b fl_i) (by simp)) rfl) (eall_cons (ev_p2 (ev_tup (ea_cons (ev_int (i := 0)) (ea_cons (ev_bl (b := true)) ea_nil)) (by simp)) (lo_tup (fl_two fl_i fl_b) (by simp)) rfl) eall_nil))))))))) (by decide) (evp_pick hph (i0 S9) (ev_int (i := (9 : Nat))) (by decide) (by decide))).imp fun d h => .inr h) fun H10 r10 S10 => ?_
            exact ⟨(((r4.trans r6).trans r7).trans r8).trans ((rl_h2m r9).trans r10), S10⟩
          · exact ⟨(((r4.trans r6).trans r7).trans r8).trans (rl_h2m r9), S8.hide pG hn r9⟩
        · have S9 := S7.hide pG hn r8
          refine s_setO (k := 2) pG hn S9 (by decide) ((evp_callG (A := fun ds => ds = [wdD b fl rm ch]) hph (i0 S9) (ea_cons (it2 S9) ea_nil) fun ds e => ⟨c, b, fl, rm, ch, L, W, e⟩).imp fun d ⟨ds, _, h⟩ => h) fun H10 r10 S10 => ?_
          exact kk _ _ ((rl_h2m r8).trans r10) ⟨S10, h75⟩
      · have S8 := S6.hide pG hn r7
        obtain ⟨⟨b4, b5, b9, b10, b11, rfl⟩, hS8⟩ := S8
        have hb5 : b5 = some (.int pl) := by
          have : some b5 = some (some (.int pl)) := h65
          exact Option.some.inj this
        subst hb5
        have hc1 := cut_len (ds := hs.map PyData.int) (lo := some (1 : Int)) (hi := none)
        have hc2 := cut_len (ds := hs.map PyData.int) (lo := some (2 : Int)) (hi := none)
        have S8 : StO K p q.1 v1 v2 a G (OddP c ps hs wd) [some (.ref q.1), some v1, some v2, some (.ref a), b4, some (.int pl), none, none, none, b9, b10, b11] H7 := ⟨⟨_, _, _, _, _, rfl⟩, hS8⟩
        walk_at "nx"
        refine s_asg (K := K) (p := p.hide a) (d := .tuple ([.int 1] ++ cutD (hs.map PyData.int) (some 1) none)) (ev_catT (ds := [.int 1]) (ev_tup (ds := [.int 1]) (ea_cons ev_int ea_nil) (by simp)) (ev_slice (ds := hs.map PyData.int) (it1 S8) (eo_some (K := K) (ev_int (i := 1))) eo_none) (by show 1 + _ ≤ _; omega)) S8.wl fun v10 H8 r8 k10 => ?_
        have S9 : StO K p q.1 v1 v2 a G (OddP c ps hs wd) [some (.ref q.1), some v1, some v2, some (.ref a), b4, some (.int pl), none, none, none, b9, some v10, b11] H8 := (S8.hide pG hn r8).to ⟨_, _, _, _, _, rfl⟩
        walk_at "nx"
        show tAsg _ _ _ [some (.ref q.1), some v1, some v2, some (.ref a), b4, some (.int pl), none, none, none, b9, some v10, b11] H8
        refine s_asg (K := K) (p := p.hide a) (d := .tuple ([.int 0, .int 2] ++ cutD (hs.map PyData.int) (some 2) none)) (ev_catT (ds := [.int 0, .int 2]) (ev_tup (ds := [.int 0, .int 2]) (ea_cons ev_int (ea_cons ev_int ea_nil)) (by simp)) (ev_slice (ds := hs.map PyData.int) (it1 S9) (eo_some (K := K) (ev_int (i := 2))) eo_none) (by show 2 + _ ≤ _; omega)) S9.wl fun v11 H9 r9 k11 => ?_
        have S10 : StO K p q.1 v1 v2 a G (OddP c ps hs wd) [some (.ref q.1), some v1, some v2, some (.ref a), b4, some (.int pl), none, none, none, b9, some v10, some v11] H9 := (S9.hide pG hn r9).to ⟨_, _, _, _, _, rfl⟩
        walk_at "nx"
        show tAsg _ _ _ [some (.ref q.1), some v1, some v2, some (.ref a), b4, some (.int pl), none, none, none, b9, some v10, some v11] H9
        have hl1 : heldOk c.n (.tuple (cutD (hs.map PyData.int) none (some 1))) = false := held_len' (by
          have := cut_take (ds := hs.map PyData.int) (n := 1) (by rw [List.length_map, hhs.1]; omega)
          rw [show ((1 : Nat) : Int) = (1 : Int) from rfl] at this
          rw [this, List.length_take]
          omega)
        have hc3 := cut_len (ds := hs.map PyData.int) (lo := none) (hi := some (1 : Int))
        refine s_setO (k := 1) pG hn S10 (by decide) ((evp_choice (n := 5) (P := fun d => Lo d ∧ heldOk c.n d = false) (eall_cons (ev_p2 (ev_var rfl k10 r9) (lo_tup (fl_app (fl_one fl_i) fl_cut) (by rw [List.length_append]; show 1 + _ ≤ _; omega)) held_one) (eall_cons (ev_p2 (ev_var rfl k11 (Rl.refl S10.wl)) (lo_tup (fl_app (fl_two fl_i fl_i) fl_cut) (by rw [List.length_append]; show 2 + _ ≤ _; omega)) held_two) (eall_cons (ev_p2 (ev_slice (ds := hs.map PyData.int) (it1 S10) eo_none (eo_some (K := K) (ev_int (i := 1)))) (lo_tup fl_cut (by omega)) hl1) (eall_cons (ev_p2 (ev_list (ds := hs.map PyData.int) (it1 S10)) (lo_lst fl_ints (by omega)) rfl)
          (eall_cons (ev_p2 (ev_catT (ds := [.bool false]) (ev_tup (ea_cons ev_bl ea_nil) (by simp)) (ev_slice (ds := hs.map PyData.int) (it1 S10) (eo_some (K := K) (ev_int (i := 1))) eo_none) (by show 1 + _ ≤ _; omega)) (lo_tup (fl_app (fl_one fl_b) fl_cut) (by rw [List.length_append]; show 1 + _ ≤ _; omega)) held_bool) eall_nil))))) (by decide) (evp_pick hph (i0 S10) (ev_int (i := (5 : Nat))) (by decide) (by decide))).imp fun d h => .inr h) fun H11 r11 S11 => ?_
        exact kk _ _ ((rl_h2m ((r7.trans r8).trans r9)).trans r11) ⟨S11, rfl⟩
    · have S6 := S5.hide pG hn r6
      have hc1 := cut_len (ds := ps.map PyData.int) (lo := none) (hi := some (if ((ps.map PyData.int).length : Int) - 1 > 0 then ((ps.map PyData.int).length : Int) - 1 else 0))
      walk_at "nx"
      refine s_asgP (p := p.hide a) (K := K) (P := fun d => ∃ ds, d = .tuple ds ∧ ds.length = 5 ∧ ∀ d, d ∈ ds → Lo d ∧ posOk c d = false) (evp_tup (eall_cons (ev_p2 (ev_list (ds := ps.map PyData.int) (it0 S6)) (lo_lst fl_ints (by omega)) rfl) (eall_cons (ev_p2 (ev_catT (ds := ps.map PyData.int) (es := [.int 1]) (it0 S6) (ev_tup (ea_cons ev_int ea_nil) (by simp)) (by show _ + 1 ≤ _; omega)) (lo_tup (fl_app fl_ints (fl_one fl_i)) (by rw [List.length_append]; show _ + 1 ≤ _; omega)) (pos_more hps.1)) (eall_cons (ev_p2 ev_non (.flat rfl rfl) rfl) (eall_cons (ev_p2 ev_int (.flat rfl rfl) rfl)
        (eall_cons (ev_p2 (ev_catT (es := [.int 3]) (ev_slice (ds := ps.map PyData.int) (it0 S6) eo_none (eo_some (K := K) (ev_max (i := 0) ev_int (ev_I0 (f := fun i j => i - j) (i := ((ps.map PyData.int).length : Int)) (j := 1) (ev_lenT (it0 S6)) ev_int)))) (ev_tup (ea_cons ev_int ea_nil) (by simp)) (by show _ + 1 ≤ _; omega)) (lo_tup (fl_app fl_cut (fl_one fl_i)) (by rw [List.length_append]; show _ + 1 ≤ _; omega)) (pos_three hps.1)) eall_nil))))) fun ds h => by omega) S6.wl fun v9 d9 H7 r7 ⟨ds9, e9, l9, h9⟩ k9 => ?_
      subst e9
      have S7 : StO K p q.1 v1 v2 a G (OddP c ps hs wd) [some (.ref q.1), some v1, some v2, some (.ref a), a4, some (.int pl), none, none, none, some v9, a10, a11] H7 := (S6.hide pG hn r7).to ⟨_, _, _, _, _, rfl⟩
      refine s_setO (k := 0) pG hn S7 (by decide) ((evp_ixT (ds := ds9) (ev_var rfl k9 (Rl.refl S7.wl)) ((evp_pick hph rfl (ev_int (i := (5 : Nat))) (by decide) (by decide)).imp fun d ⟨j, e, h⟩ => ⟨j, e, by omega⟩)).imp fun d m => .inr (h9 d m)) fun H8 r8 S8 => ?_
      exact kk _ _ ((rl_h2m (r6.trans r7)).trans r8) ⟨S8, rfl⟩
  rintro ds _ σ' H3 r3 S3
  obtain ⟨⟨a4, a5, a9, a10, a11, rfl⟩, rG, xs, ds, ea, kx, hl4, hO⟩ := S3
  match ds, hl4 with
  | [d0, d1, d2, d3], _ =>
    have o0 : d0 = nums ps ∨ (Lo d0 ∧ posOk c d0 = false) := hO 0 d0 rfl
    have o1 : d1 = nums hs ∨ (Lo d1 ∧ heldOk c.n d1 = false) := hO 1 d1 rfl
    have o2 : BdW d2 := hO 2 d2 rfl
    have o3 : d3 = qD wd ∨ (Lo d3 ∧ slackOk d3 = false) := hO 3 d3 rfl
    have rp : Rl p G H3 := rl_unmut hn rG
    have kl : Dp K (vw p H3) (.ref a) (.list [d0, d1, d2, d3]) := .lst (SqL.of (vw_of (vw_at pG hn) ea)) (dpa_ex vw_unmut kx)
    have j1 := dp_ex rp.ex kG1
    have j2 := dp_ex rp.ex kG2
    have r0 : Rl p H H3 := r1.trans rp
    clear kx ea rG SO2 hO it0 it1 it2 i0 vi hph kG1 kG2 pG hn r2 r3 k4 rp r1
    have lo0 : Lo d0 := by
      rcases o0 with rfl | h
      · exact lo_nums (by have := hps.1; have := L.s6; omega)
      · exact h.1
    have lo1 : Lo d1 := by
      rcases o1 with rfl | h
      · exact lo_nums (by have := hhs.1; have := L.good.small; omega)
      · exact h.1
    have loW : Lo (qD wd) := lo_ints (is := [wd.1, wd.2]) (by simp)
    have lo3 : Lo d3 := by
      rcases o3 with rfl | h
      · exact loW
      · exact h.1
    have cmp : ∀ x y : D, ∃ b : Bool, b = true ↔ x = y := fun x y => by
      by_cases z : x = y
      · exact ⟨true, by simp [z]⟩
      · exact ⟨false, by simp [z]⟩
    obtain ⟨b0, hb0⟩ := cmp d0 (nums ps)
    obtain ⟨b1, hb1⟩ := cmp d1 (nums hs)
    obtain ⟨b3, hb3⟩ := cmp d3 (qD wd)
    walk_at "nx"
    refine s_asg (K := K) (p := p) (d := .str "") ev_str r0.pi fun v6 H4 r4 k6 => ?_
    have e6 := dp_strv k6
    subst e6
    have od : ∀ {σ : L2.St} {H' : Hp} {j : Nat} {d : D}, σ[3]? = some (some (.ref a)) → Rl p H3 H' → ([d0, d1, d2, d3] : List D)[j]? = some d → EvD K p (tOp (rIx K) (tVar 3) (tC (.int (j : Nat)))) σ H' d := fun h r e => ev_ixL (ev_var h kl r) ev_int (atI_nat e)
    have it : ∀ {σ : L2.St} {H' : Hp} {j : Nat} {d : D}, σ[2]? = some (some v2) → Rl p H3 H' → ([nums ps, nums hs, wdD b fl rm ch, qD wd] : List D)[j]? = some d → EvD K p (tOp (rIx K) (tVar 2) (tC (.int (j : Nat)))) σ H' d := fun h r e => ev_ixT (ev_var h j2 r) ev_int (atI_nat e)
    walk_at "nx"
    refine s_word (p := p) (b := b3) (y := "") (ev_call (ds := [d3, qD wd]) (ea_cons (od (j := 3) rfl r4 rfl) (ea_cons (it (j := 3) rfl r4 rfl) ea_nil)) ⟨d3, qD wd, b3, rfl, lo3, loW, rfl, rfl, hb3⟩) rfl r4.pi fun H5 r5 => ?_
    walk_at "nx"
    refine s_word (p := p) (b := worldOk c d2) (y := if b3 = true then "" else "slack") (ev_call (ds := [netD c, d2]) (ea_cons (ev_var rfl j1 (r4.trans r5)) (ea_cons (od (j := 2) rfl (r4.trans r5) rfl) ea_nil)) ⟨c, d2, rfl, o2.1, rfl⟩) rfl r5.pi fun H6 r6 => ?_
    walk_at "nx"
    have q6 := (r4.trans r5).trans r6
    refine s_word (p := p) (b := b1) (y := if worldOk c d2 = true then (if b3 = true then "" else "slack") else "world") (ev_call (ds := [d1, nums hs]) (ea_cons (od (j := 1) rfl q6 rfl) (ea_cons (it (j := 1) rfl q6 rfl) ea_nil)) ⟨d1, nums hs, b1, rfl, lo1, lo_nums (by have := hhs.1; have := L.good.small; omega), rfl, rfl, hb1⟩) rfl r6.pi fun H7 r7 => ?_
    walk_at "nx"
    have q7 := q6.trans r7
    refine s_word (p := p) (b := b0) (y := if b1 = true then (if worldOk c d2 = true then (if b3 = true then "" else "slack") else "world") else "held") (ev_call (ds := [d0, nums ps]) (ea_cons (od (j := 0) rfl q7 rfl) (ea_cons (it (j := 0) rfl q7 rfl) ea_nil)) ⟨d0, nums ps, b0, rfl, lo0, lo_nums (by have := hps.1; have := L.s6; omega), rfl, rfl, hb0⟩) rfl r7.pi fun H8 r8 => ?_
    have q8 := q7.trans r8
    walk_at "nx"
    refine s_asg (K := K) (p := p) (d := .none) ev_non r8.pi fun v7 H9 r9 k7 => ?_
    have e7 := dp_nonv k7
    subst e7
    have q9 := q8.trans r9
    walk_at "nx"
    have fin : ∀ (x : Str) (r : Except Str D) (u : D) (vu : V) (H10 : Hp), Rl p H9 H10 → Dp K (vw p H10) vu u → Rwf [netD c, d0, d1, d2, d3] r → PySem.PyData.canLay0 (.str x) = true → ((x ≠ "" ∧ r = .error x) ∨ (x = "" ∧ r = .ok u ∧ Lo u ∧ isLst u = false)) →
        (tSeq (tFor (iTup K (tTup (tCons (tC (.int 4)) (tCons (tC (.int 9)) tNil)))) (gName 8) (tIfS (tNot (tB (tCall (SpR K Rmeets) [] E0 (tCons (tCall (SpR K Rheard) [] E0 (tCons (tVar 8) (tCons (tVar 1) (tCons (tVar 3) tNil)))) (tCons (tVar 6) (tCons (tVar 7) tNil)))))) (tRet (tC (.bl false))) tNext)) (tRet (tC (.bl true)))) { nx := fun x H' => Q .non H', rt := Q } [some (.ref q.1), some v1, some v2, some (.ref a), a4, a5, some (.str x), some vu, none, a9, a10, a11] H10 := by
      intro x r u vu H10 r10 ku hR hx hok
      have q10 := q9.trans r10
      walk_at "nx"
      refine s_forT (K := K) (p := p) (ds := [.int 4, .int 9]) (ev_tup (ea_cons ev_int (ea_cons ev_int ea_nil)) (by simp)) r10.pi (fun i σ' _ => ∃ a8, σ' = [some (.ref q.1), some v1, some v2, some (.ref a), a4, a5, some (.str x), some vu, a8, a9, a10, a11]) (fun H11 r11 => ⟨_, rfl⟩) ?_ ?_
      · rintro H11 r11 i y d σ' H12 hd kd r12 ⟨a8, rfl⟩
        obtain ⟨t, rfl, ht⟩ : ∃ t : Int, d = .int t ∧ (t = 4 ∨ t = 9) := by
          have := List.mem_of_getElem? hd
          rcases List.mem_cons.mp this with e | m
          · exact ⟨4, e, .inl rfl⟩
          · rcases List.mem_cons.mp m with e | m
            · exact ⟨9, e, .inr rfl⟩
            · cases m
        have ey := dp_int kd
        subst ey
        have q12 := r11.trans r12
        show tIfS _ _ _ _ _ _
        refine s_no (b := false) (et_not (a := true) (et_B (ev_call (K := K) (p := p) (ds := [heardD r, .str x, u]) (ea_cons (ev_call (ds := [.int t, netD c, .list [d0, d1, d2, d3]]) (ea_cons (ev_slot rfl fun _ => .int t) (ea_cons (ev_var rfl j1 (q10.trans q12)) (ea_cons (ev_var rfl kl (q10.trans q12)) ea_nil))) ⟨t, c, [d0, d1, d2, d3], _, r, rfl, .inr rfl, by simp, rfl, .inr (.inr ⟨ht, hR⟩)⟩) (ea_cons (ev_slot rfl fun _ => .str x) (ea_cons (ev_var rfl ku q12) ea_nil))) ⟨x, r, u, rfl, hx, hok, rfl⟩))) rfl r12.pi fun H13 r13 => ?_
        exact ⟨r12.trans r13, _, rfl⟩
      · rintro σ' H11 r11 ⟨a8, rfl⟩
        walk_at "nx"
        exact s_retP (P := fun d => d = .bool true) ev_bl r11.pi fun v d H12 r12 e kd => hq v d H12 ((r0.trans q10).trans (r11.trans r12)) e kd
    have bad : ∀ x : Str, x ≠ "" → PySem.PyData.canLay0 (.str x) = true → Rwf [netD c, d0, d1, d2, d3] (.error x) → (if b0 = true then (if b1 = true then (if worldOk c d2 = true then (if b3 = true then "" else "slack") else "world") else "held") else "positions" : Str) = x →
        tIfS (tTest (tOp (rEqD K) (tVar 6) (tC (.str "")))) (tAsg (tCall (SpR K Rfault) [] E0 (tCons (tVar 1) (tCons (tOp (rIx K) (tVar 2) (tC (.int 0))) (tCons (tOp (rIx K) (tVar 2) (tC (.int 1))) (tCons (tOp (rIx K) (tVar 3) (tC (.int 2))) (tCons (tOp (rIx K) (tVar 2) (tC (.int 3))) tNil)))))) (gName 7)) tNext { nx := fun σ' H' => (tSeq (tFor (iTup K (tTup (tCons (tC (.int 4)) (tCons (tC (.int 9)) tNil)))) (gName 8) (tIfS (tNot (tB (tCall (SpR K Rmeets) [] E0 (tCons (tCall (SpR K Rheard) [] E0 (tCons (tVar 8) (tCons (tVar 1) (tCons (tVar 3) tNil)))) (tCons (tVar 6) (tCons (tVar 7) tNil)))))) (tRet (tC (.bl false))) tNext)) (tRet (tC (.bl true)))) { nx := fun x H' => Q .non H', rt := Q } σ' H', rt := Q } [some (.ref q.1), some v1, some v2, some (.ref a), a4, a5, some (.str (if b0 = true then (if b1 = true then (if worldOk c d2 = true then (if b3 = true then "" else "slack") else "world") else "held") else "positions")), some .non, none, a9, a10, a11] H9 := by
      intro x hx ok hR e
      rw [e]
      refine s_no (p := p) (b := decide (x = "")) (et_is (et_test (K := K) (ev_eq (d := .str x) (ev_slot rfl fun _ => .str x) ev_str (Lo.str ok).sh (by decide +kernel))) (by rw [eqv_str])) (decide_eq_false hx) r9.pi fun H10 r10 => ?_
      exact fin x _ .none .non H10 r10 .non hR ok (.inl ⟨hx, rfl⟩)
    cases hB0 : b0 with
    | false =>
      have hd : posOk c d0 = false := by
        rcases o0 with h | h
        · rw [hb0.mpr h] at hB0; cases hB0
        · exact h.2
      have := bad "positions" (by decide) (by decide +kernel) ⟨c, _, _, _, _, rfl, L.good, .inl ⟨hd, rfl⟩⟩ (by rw [hB0]; rfl)
      rw [hB0] at this
      exact this
    | true =>
      have e0 := hb0.mp hB0
      subst e0
      cases hB1 : b1 with
      | false =>
        have hd : heldOk c.n d1 = false := by
          rcases o1 with h | h
          · rw [hb1.mpr h] at hB1; cases hB1
          · exact h.2
        have := bad "held" (by decide) (by decide +kernel) ⟨c, _, _, _, _, rfl, L.good, .inr (.inl ⟨S.pos, hd, rfl⟩)⟩ (by rw [hB0, hB1]; rfl)
        rw [hB0, hB1] at this
        exact this
      | true =>
        have e1 := hb1.mp hB1
        subst e1
        cases hB2 : worldOk c d2 with
        | false =>
          have := bad "world" (by decide) (by decide +kernel) ⟨c, _, _, _, _, rfl, L.good, .inr (.inr (.inl ⟨S.pos, S.held, hB2, rfl⟩))⟩ (by rw [hB0, hB1, hB2]; rfl)
          rw [hB0, hB1, hB2] at this
          exact this
        | true =>
          cases hB3 : b3 with
          | false =>
            have hd : slackOk d3 = false := by
              rcases o3 with h | h
              · rw [hb3.mpr h] at hB3; cases hB3
              · exact h.2
            have := bad "slack" (by decide) (by decide +kernel) ⟨c, _, _, _, _, rfl, L.good, .inr (.inr (.inr (.inl ⟨S.pos, S.held, hB2, hd, rfl⟩)))⟩ (by rw [hB0, hB1, hB2, hB3]; rfl)
            rw [hB0, hB1, hB2, hB3] at this
            exact this
          | true =>
            have e3 := hb3.mp hB3
            subst e3
            obtain ⟨b', fl', rm', ch', rfl, S'⟩ := stated_bent hps hhs hwd hB2 o2
            refine s_yes (p := p) (b := true) (et_is (et_test (K := K) (ev_eq (d := .str "") (ev_slot rfl fun _ => .str "") ev_str (by decide +kernel) (by decide +kernel))) (by rw [eqv_str]; rfl)) rfl r9.pi fun H10 r10 => ?_
            have q10 := q9.trans r10
            refine s_asg (K := K) (p := p) (d := outD (faultL c ps hs b' fl' rm' ch' wd)) (ev_call (ds := [netD c, nums ps, nums hs, wdD b' fl' rm' ch', qD wd]) (ea_cons (ev_var rfl j1 q10) (ea_cons (it (j := 0) rfl q10 rfl) (ea_cons (it (j := 1) rfl q10 rfl) (ea_cons (od (j := 2) rfl q10 rfl) (ea_cons (it (j := 3) rfl q10 rfl) ea_nil))))) ⟨c, ps, hs, b', fl', rm', ch', wd, rfl, L, S', rfl⟩) r10.pi fun v8 H11 r11 k8 => ?_
            have lo := lo_out (c := c) (ps := ps) (hs := hs) (b := b') (fl := fl') (rm := rm') (ch := ch') (w := wd)
            exact fin "" _ _ v8 H11 (r10.trans r11) k8 (wf_ok L.good S') (by decide +kernel) (.inr ⟨rfl, rfl, lo.1, lo.2⟩)
end

end Ky
set_option Elab.async false
set_option linter.all false
set_option maxRecDepth 4000
set_option maxHeartbeats 4000000
namespace Ky
open PySem PySem.Spec PyProof.Rows L2
local macro_rules | `(tactic| walk_at "rl") => `(tactic| first | assumption | exact Rl.refl pi0 | exact Rl.refl (by assumption) | exact Rl.refl (Rl.pi (by assumption)) | (refine Rl.trans (by assumption) ?_; walk_at "rl"))
local macro_rules | `(tactic| walk_at "ev") => `(tactic| first
  | with_reducible exact ev_int | with_reducible exact ev_bl | with_reducible exact ev_str | with_reducible exact ev_non
  | ((with_reducible apply ev_var); (focus exact rfl); (focus assumption); (focus walk_at "rl"))
  | ((with_reducible apply ev_slot); (focus exact rfl); (focus first | exact fun _ => Dp.int _ | exact fun _ => Dp.bl _ | exact fun _ => Dp.str _ | exact fun _ => Dp.non))
  | with_reducible exact ea_nil | with_reducible exact eo_none | with_reducible exact et_yes
  | with_reducible exact sh_int | with_reducible exact sh_bool | with_reducible exact sh_non
  | ((with_reducible apply ea_cons) <;> try walk_at "ev")
  | ((with_reducible apply ev_I0) <;> try walk_at "ev")
  | ((with_reducible apply ev_B0) <;> try walk_at "ev")
  | ((with_reducible apply ev_IC) <;> try walk_at "ev")
  | ((with_reducible apply ev_neg) <;> try walk_at "ev")
  | ((with_reducible apply ev_chain) <;> try walk_at "ev")
  | ((with_reducible apply ev_isTup) <;> try walk_at "ev")
  | ((with_reducible apply ev_isInt) <;> try walk_at "ev")
  | ((with_reducible apply ev_isBool) <;> try walk_at "ev")
  | ((with_reducible apply ev_isStr) <;> try walk_at "ev")
  | ((with_reducible apply ev_isLst) <;> try walk_at "ev")
  | ((with_reducible apply ev_isN) <;> try walk_at "ev")
  | ((with_reducible apply ev_notN) <;> try walk_at "ev")
  | ((with_reducible apply ev_notB) <;> try walk_at "ev")
  | ((with_reducible apply ev_eq) <;> try walk_at "ev")
  | ((with_reducible apply ev_ne) <;> try walk_at "ev")
  | ((with_reducible apply ev_abs) <;> try walk_at "ev")
  | ((with_reducible apply ev_max) <;> try walk_at "ev")
  | ((with_reducible apply ev_bits) <;> try walk_at "ev")
  | ((with_reducible apply ev_gcd) <;> try walk_at "ev")
  | ((with_reducible apply ev_list) <;> try walk_at "ev")
  | ((with_reducible apply ev_tuple) <;> try walk_at "ev")
  | ((with_reducible apply ev_tup) <;> try walk_at "ev")
  | ((with_reducible apply ev_lst) <;> try walk_at "ev")
  | ((with_reducible apply ev_catT) <;> try walk_at "ev")
  | ((with_reducible apply ev_slice) <;> try walk_at "ev")
  | ((with_reducible apply eo_some) <;> try walk_at "ev")
  | ((with_reducible apply ev_notV) <;> try walk_at "ev")
  | ((with_reducible apply et_test) <;> try walk_at "ev")
  | ((with_reducible apply et_B) <;> try walk_at "ev")
  | ((with_reducible apply et_not) <;> try walk_at "ev")
  | ((with_reducible apply ev_lenT); (focus (walk_at "ev"; done)))
  | ((with_reducible apply ev_lenL); (focus (walk_at "ev"; done)))
  | ((with_reducible apply ev_intI); (focus (walk_at "ev"; done)))
  | ((with_reducible apply ev_intB); (focus (walk_at "ev"; done)))
  | ((with_reducible apply ev_ixT); (focus (walk_at "ev"; done)); (focus (walk_at "ev"; done)); (try first | rfl | assumption))
  | ((with_reducible apply ev_ixL); (focus (walk_at "ev"; done)); (focus (walk_at "ev"; done)); (try first | rfl | assumption))
  | ((with_reducible apply ev_call); (focus (walk_at "ev"; done))))
local macro_rules | `(tactic| walk_at "nx") => `(tactic| ((try dsimp only); (try ((with_reducible refine st_next ?_); (try dsimp only))); (try with_reducible refine st_seq ?_)))
section
theorem exm_par {K : PySem.W.Frag} {C S : Addr} (h1 : PySem.W.subIn K (.ref S) (.type "BaseException") = some true) (h2 : PySem.W.isClsIn K S = true) (h3 : PySem.W.typeIn K (.ref S) = some (.type "type")) (h4 : PySem.W.subIn K (.ref C) (.ref S) = some true) :
    PySem.W.exmOne K (.ref C) (.ref S) = some true := by
  have e1 : (PySem.W.subIn K (.ref S) (.type "BaseException") == some true) = true := by rw [h1] <;> rfl
  have e2 : ((PySem.W.clsIn K S).isSome && PySem.W.typeIn K (.ref S) == some (.type "type")) = true := by
    have h2' : (PySem.W.clsIn K S).isSome = true := h2
    rw [h2', h3] <;> rfl
  show (if (PySem.W.subIn K (.ref S) (.type "BaseException") == some true) = true then (if ((PySem.W.clsIn K S).isSome && PySem.W.typeIn K (.ref S) == some (.type "type")) = true then PySem.W.subIn K (.ref C) (.ref S) else none) else none) = some true
  rw [if_pos e1, if_pos e2]
  exact h4
theorem kit_self {K : PySem.W.Frag} {C : Addr} : PySem.W.kitOne K (.ref C) (.ref C) = some true := by
  unfold PySem.W.kitOne
  rw [if_pos (by exact beq_self_eq_true _)]
/-- what the top has written of a def -/
structure Row (K : PySem.W.Frag) (x : Str) (st : Stmt) (f : Addr) (fd : FuncData) : Prop where
  a : PySem.W.nsIn K mainGlobals x = some (some (.ref f))
  fn : Fun K x x st f fd
theorem row_mk {K : PySem.W.Frag} {x : Str} {st : Stmt} {f : Addr} {oc : Value} {od an : Option Addr} {osl : Array (Option Value)} {kV doc pm cdv ct : Value} (a : PySem.W.nsIn K mainGlobals x = some (some (.ref f))) (l : K.lookup f = some ⟨oc, od, .func (PySem.W.fnOf x x (defArgs st) (defBody st) (defScope st) .none kV doc pm an cdv ct), osl⟩)
    (c : PySem.W.codeIn K cdv x = true) (k : PySem.W.keepIn K (.ref f) = true) : ∃ fd, Row K x st f fd := ⟨_, a, fun_mk l c k⟩
theorem Row.at {K : PySem.W.Frag} {mg : Str → Option Value} {h : Heap} {x : Str} {st : Stmt} {ps : List Str} {f : Addr} {fd : FuncData} (X : K.In h) (G : h.Ns mainGlobals mg) (r : Row K x st f fd)
    (hb : ∀ (kV doc pm : Value) (an : Option Addr) (cdv ct : Value) (us : List Value), us.length = ps.length → bindArgs (PySem.W.fnOf x x (defArgs st) (defBody st) (defScope st) .none kV doc pm an cdv ct) ⟨us, []⟩ = pure (ps.zip us)) : At K mg x st ps f fd :=
  ⟨r.fn, PySem.W.mg_of X G r.a, r.fn.binds hb⟩
theorem kb2 {K : PySem.W.Frag} {fd : FuncData} {ps ks : List Str} (hk : ks.length = 2) (to : ∀ (s : Shared) (w1 w2 : Value), BindsTo s fd ⟨[], ks.zip [w1, w2]⟩ (ps.zip [w2, w1])) : KB0 K fd ps ks (fun ws => [ws.getD 1 .none, ws.getD 0 .none]) (fun zs => [zs.getD 1 .non, zs.getD 0 .non]) where
  to := fun s ws _ hl => match ws, hl.trans hk with
    | [w1, w2], _ => to s w1 w2
  rel := fun {zs ws} hl r => by
    rw [hk] at hl
    cases r with
    | nil => cases hl
    | cons r1 r =>
      cases r with
      | nil => cases hl
      | cons r2 r =>
        cases r with
        | nil => exact .cons r2 (.cons r1 .nil)
        | cons _ _ => simp at hl
theorem kb5 {K : PySem.W.Frag} {fd : FuncData} {ps ks : List Str} (hk : ks.length = 5) (to : ∀ (s : Shared) (w1 w2 w3 w4 w5 : Value), BindsTo s fd ⟨[], ks.zip [w1, w2, w3, w4, w5]⟩ (ps.zip [w5, w4, w3, w2, w1])) :
    KB0 K fd ps ks (fun ws => [ws.getD 4 .none, ws.getD 3 .none, ws.getD 2 .none, ws.getD 1 .none, ws.getD 0 .none]) (fun zs => [zs.getD 4 .non, zs.getD 3 .non, zs.getD 2 .non, zs.getD 1 .non, zs.getD 0 .non]) where
  to := fun s ws _ hl => match ws, hl.trans hk with
    | [w1, w2, w3, w4, w5], _ => to s w1 w2 w3 w4 w5
  rel := fun {zs ws} hl r => by
    rw [hk] at hl
    match r, hl with
    | .cons r1 (.cons r2 (.cons r3 (.cons r4 (.cons r5 .nil)))), _ => exact .cons r5 (.cons r4 (.cons r3 (.cons r2 (.cons r1 .nil))))
structure Tab (K : PySem.W.Frag) : Prop where
  r_is_integer : ∃ f fd, Row K "is_integer" s_is_integer f fd
  r_is_number : ∃ f fd, Row K "is_number" s_is_number f fd
  r_is_value : ∃ f fd, Row K "is_value" s_is_value f fd
  r_is_quotient : ∃ f fd, Row K "is_quotient" s_is_quotient f fd
  r_is_below : ∃ f fd, Row K "_is_below" s_is_below f fd
  r_ask_two : ∃ f fd, Row K "_ask_two" s_ask_two f fd
  r_lowest : ∃ f fd, Row K "_lowest" s_lowest f fd
  r_minus : ∃ f fd, Row K "minus" s_minus f fd
  r_is_less : ∃ f fd, Row K "is_less" s_is_less f fd
  r_power : ∃ f fd, Row K "power" s_power f fd
  r_e_is_base : ∃ f fd, Row K "e_is_base" s_e_is_base f fd
  r_e_is_share : ∃ f fd, Row K "e_is_share" s_e_is_share f fd
  r_e_is_flows : ∃ f fd, Row K "e_is_flows" s_e_is_flows f fd
  r_e_is_rooms : ∃ f fd, Row K "e_is_rooms" s_e_is_rooms f fd
  r_e_is_charges : ∃ f fd, Row K "e_is_charges" s_e_is_charges f fd
  r_e_span : ∃ f fd, Row K "e_span" s_e_span f fd
  r_is_positions : ∃ f fd, Row K "is_positions" s_is_positions f fd
  r_begins_as_held : ∃ f fd, Row K "_begins_as_held" s_begins_as_held f fd
  r_is_held : ∃ f fd, Row K "is_held" s_is_held f fd
  r_is_world : ∃ f fd, Row K "is_world" s_is_world f fd
  r_e_flow_fits : ∃ f fd, Row K "e_flow_fits" s_e_flow_fits f fd
  r_e_room_fits : ∃ f fd, Row K "e_room_fits" s_e_room_fits f fd
  r_e_charge_fits : ∃ f fd, Row K "e_charge_fits" s_e_charge_fits f fd
  r_e_ask : ∃ f fd, Row K "e_ask" s_e_ask f fd
  r_flow_bounds : ∃ f fd, Row K "flow_bounds" s_flow_bounds f fd
  r_room_bounds : ∃ f fd, Row K "room_bounds" s_room_bounds f fd
  r_world_fault : ∃ f fd, Row K "world_fault" s_world_fault f fd
  r_law_pool : ∃ f fd, Row K "_law_pool" s_law_pool f fd
  r_law_pick : ∃ f fd, Row K "_law_pick" s_law_pick f fd
  r_law_low : ∃ f fd, Row K "_law_low" s_law_low f fd
  r_law_same : ∃ f fd, Row K "_law_same" s_law_same f fd
  r_law_raised : ∃ f fd, Row K "_law_raised" s_law_raised f fd
  r_law_circuit : ∃ f fd, Row K "_law_circuit" s_law_circuit f fd
  r_law_stands : ∃ f fd, Row K "_law_stands" s_law_stands f fd
  r_law_holds : ∃ f fd, Row K "_law_holds" s_law_holds f fd
  r_law_ground : ∃ f fd, Row K "_law_ground" s_law_ground f fd
  r_law_between : ∃ f fd, Row K "_law_between" s_law_between f fd
  r_law_load : ∃ f fd, Row K "_law_load" s_law_load f fd
  r_law_wide : ∃ f fd, Row K "_law_wide" s_law_wide f fd
  r_law_earth : ∃ f fd, Row K "_law_earth" s_law_earth f fd
  r_law_fault : ∃ f fd, Row K "_law_fault" s_law_fault f fd
  r_law_is_number : ∃ f fd, Row K "_law_is_number" s_law_is_number f fd
  r_law_is_ratio : ∃ f fd, Row K "_law_is_ratio" s_law_is_ratio f fd
  r_law_are_ratios : ∃ f fd, Row K "_law_are_ratios" s_law_are_ratios f fd
  r_law_is_ground : ∃ f fd, Row K "_law_is_ground" s_law_is_ground f fd
  r_law_is_earth : ∃ f fd, Row K "_law_is_earth" s_law_is_earth f fd
  r_law_bent_row : ∃ f fd, Row K "_law_bent_row" s_law_bent_row f fd
  r_law_bent : ∃ f fd, Row K "_law_bent" s_law_bent f fd
  r_law_heard : ∃ f fd, Row K "_law_heard" s_law_heard f fd
  r_law_meets : ∃ f fd, Row K "_law_meets" s_law_meets f fd
  r_law_scale : ∃ f fd, Row K "_law_scale" s_law_scale f fd
  r_law_any_ground : ∃ f fd, Row K "_law_any_ground" s_law_any_ground f fd
  r_law_bounds_hold : ∃ f fd, Row K "_law_bounds_hold" s_law_bounds_hold f fd
  r_law_odd_alone : ∃ f fd, Row K "_law_odd_alone" s_law_odd_alone f fd
  r_law_odd_call : ∃ f fd, Row K "_law_odd_call" s_law_odd_call f fd
  r_law_by_hand : ∃ f fd, Row K "_law_by_hand" s_law_by_hand f fd
  r_law : ∃ f fd, Row K "law" s_law f fd
  z_isinstance : PySem.W.nsIn K mainGlobals "isinstance" = some none
  z_len : PySem.W.nsIn K mainGlobals "len" = some none
  z_int : PySem.W.nsIn K mainGlobals "int" = some none
  z_bool : PySem.W.nsIn K mainGlobals "bool" = some none
  z_str : PySem.W.nsIn K mainGlobals "str" = some none
  z_list : PySem.W.nsIn K mainGlobals "list" = some none
  z_tuple : PySem.W.nsIn K mainGlobals "tuple" = some none
  z_abs : PySem.W.nsIn K mainGlobals "abs" = some none
  z_max : PySem.W.nsIn K mainGlobals "max" = some none
  z_range : PySem.W.nsIn K mainGlobals "range" = some none
  z_enumerate : PySem.W.nsIn K mainGlobals "enumerate" = some none
  z_zip : PySem.W.nsIn K mainGlobals "zip" = some none
  z_all : PySem.W.nsIn K mainGlobals "all" = some none
  z_gcd : PySem.W.nsIn K mainGlobals "gcd" = some (some (.builtin "math.gcd"))
  z_gexp : ∃ t, PySem.W.nsIn K mainGlobals "GREATEST_EXPONENT" = some (some (.int 64 t))
theorem gexp_mk {K : PySem.W.Frag} {t : Tok} (h : PySem.W.nsIn K mainGlobals "GREATEST_EXPONENT" = some (some (.int 64 t))) : ∃ t, PySem.W.nsIn K mainGlobals "GREATEST_EXPONENT" = some (some (.int 64 t)) := ⟨t, h⟩
theorem free_of {K : PySem.W.Frag} {mg : Str → Option Value} {h : Heap} (X : K.In h) (G : h.Ns mainGlobals mg) (T : Tab K) : Free mg :=
  ⟨PySem.W.mg_none_of X G T.z_isinstance, PySem.W.mg_none_of X G T.z_len, PySem.W.mg_none_of X G T.z_int, PySem.W.mg_none_of X G T.z_bool, PySem.W.mg_none_of X G T.z_str, PySem.W.mg_none_of X G T.z_list, PySem.W.mg_none_of X G T.z_tuple, PySem.W.mg_none_of X G T.z_abs, PySem.W.mg_none_of X G T.z_max, PySem.W.mg_none_of X G T.z_range, PySem.W.mg_none_of X G T.z_enumerate, PySem.W.mg_none_of X G T.z_zip, PySem.W.mg_none_of X G T.z_all, PySem.W.mg_of X G T.z_gcd, T.z_gexp.elim fun t e => ⟨t, PySem.W.mg_of X G e⟩⟩
theorem nu_of {K : PySem.W.Frag} {mg : Str → Option Value} {h : Heap} {C CO fI : Addr} {fdI : FuncData} (X : K.In h) (G : h.Ns mainGlobals mg)
    {nm q : Str} {N : Addr} {bs bm : List Value} {sn : List Str} {sub : List Value} {ab : Bool} {col : Option Bool} {dd : Option Addr} {k0 k1 k2 k3 k5 : Option Value} (xL : K.lookup C = some (excClassObj nm q C N bs bm true sn sub ab col dd k0 k1 k2 k3 k5 "ValueError.__new__")) (hbm : PySem.HandSPX.refsVE bm = true)
    (sa : PySem.W.findIn K (.ref C) "__setattr__" = some (some (.builtin "object.__setattr__"))) (ga : PySem.W.findIn K (.ref C) "__getattribute__" = some (some (.builtin "BaseException.__getattribute__"))) (gg : PySem.W.findIn K (.ref C) "__getattr__" = some none)
    (nw : PySem.W.findIn K (.ref C) "word" = some none) (na : PySem.W.findIn K (.ref C) "at" = some none) (iC : PySem.W.findIn K (.ref C) "__init__" = some (some (.ref fI))) (tI : PySem.W.typeIn K (.ref fI) = some (.type "function")) (fI' : Fun K "__init__" "NotUsable.__init__" s_init fI fdI)
    (kC : PySem.W.keepIn K (.ref C) = true) (eC : PySem.W.subIn K (.ref C) (.type "BaseException") = some true) (tC : PySem.W.typeIn K (.ref C) = some (.type "type")) (hC : PySem.W.hasDictIn K C = true)
    (ha : PySem.W.findIn K (.ref C) "__class__" = some (some (.builtin "object.__class__"))) (hn : PySem.W.specialIn K (.builtin "object.__class__") "__get__" = some (some (.builtin "getset_descriptor.__get__"))) (ht : PySem.W.takesIn K (.builtin "object.__class__") = some true) (hm : PySem.W.mroIn K C (.type "object") = some true)
    (aC : PySem.W.nsIn K mainGlobals "NotUsable" = some (some (.ref C))) (aO : PySem.W.nsIn K mainGlobals "OhmError" = some (some (.ref CO)))
    (eO : PySem.W.subIn K (.ref CO) (.type "BaseException") = some true) (iO : PySem.W.isClsIn K CO = true) (tO : PySem.W.typeIn K (.ref CO) = some (.type "type")) (sO : PySem.W.subIn K (.ref C) (.ref CO) = some true) : Nu K mg C fI CO fdI :=
  ⟨⟨⟨nm, q, N, bs, bm, sn, sub, ab, col, dd, k0, k1, k2, k3, k5, xL, hbm⟩, sa, eC, tC, kC⟩, iC, tI, fI', fI'.binds fun _ _ _ _ _ _ us hl => match us, hl with
    | [_, _, _], _ => rfl, PySem.W.mg_of X G aC, nw, na, ⟨ga, gg, eC, hC⟩, ⟨ga, gg, eC, hC, ha, hn, ht, hm⟩, PySem.W.mg_of X G aO, exm_par eO iO tO sO, kit_self⟩
theorem chain {P : Program} {w : World} {K : PySem.W.Frag} {mg : Str → Option Value} {h : Heap} {C fI CO fa : Addr} {fdI : FuncData} (X : K.In h) (G : h.Ns mainGlobals mg) (T : Tab K) (NU : Nu K mg C fI CO fdI) (hfa : mg "law" = some (.ref fa)) :
    ∃ fd : FuncData, (∀ (s : Shared) (u : Value), BindsTo s fd ⟨[u], []⟩ [("_law_script", u)]) ∧ ∀ base : Heap, K.In base → base.Ns mainGlobals mg → FnOk P w K mg base CX0 9 fa fd ["_law_script"] (spLaw K) := by
  have FR := free_of X G T
  obtain ⟨f_law, fd_law, R_law⟩ := T.r_law
  have A_law : At K mg "law" s_law P_law f_law fd_law := R_law.at X G fun _ _ _ _ _ _ us hl => match us, hl with
    | [_], _ => rfl
  have e := hfa.symm.trans A_law.g
  injection e with e
  injection e with e
  subst e
  refine ⟨fd_law, fun s u => ?_, fun base _ _ => ?_⟩
  · obtain ⟨oc, od, kV, doc, pm, an, cdv, ct, osl, e, _, _⟩ := R_law.fn.ex
    subst e
    exact .of_eq rfl
  obtain ⟨f_is_integer, fd_is_integer, R_is_integer⟩ := T.r_is_integer
  have A_is_integer : At K mg "is_integer" s_is_integer P_is_integer f_is_integer fd_is_integer := R_is_integer.at X G fun _ _ _ _ _ _ us hl => match us, hl with
    | [_], _ => rfl
  have p_is_integer : Prm P w K mg base CX0 1 "is_integer" P_is_integer (SpR K (R1B isI)) := by apply ok_is_integer <;> assumption
  obtain ⟨f_is_number, fd_is_number, R_is_number⟩ := T.r_is_number
  have A_is_number : At K mg "is_number" s_is_number P_is_number f_is_number fd_is_number := R_is_number.at X G fun _ _ _ _ _ _ us hl => match us, hl with
    | [_], _ => rfl
  have p_is_number : Prm P w K mg base CX0 2 "is_number" P_is_number (SpR K (R1B isNum)) := by apply ok_is_number <;> assumption
  obtain ⟨f_is_value, fd_is_value, R_is_value⟩ := T.r_is_value
  have A_is_value : At K mg "is_value" s_is_value P_is_value f_is_value fd_is_value := R_is_value.at X G fun _ _ _ _ _ _ us hl => match us, hl with
    | [_], _ => rfl
  have p_is_value : Prm P w K mg base CX0 2 "is_value" P_is_value (SpR K (R1B isVal)) := by apply ok_is_value <;> assumption
  obtain ⟨f_is_quotient, fd_is_quotient, R_is_quotient⟩ := T.r_is_quotient
  have A_is_quotient : At K mg "is_quotient" s_is_quotient P_is_quotient f_is_quotient fd_is_quotient := R_is_quotient.at X G fun _ _ _ _ _ _ us hl => match us, hl with
    | [_], _ => rfl
  have p_is_quotient : Prm P w K mg base CX0 2 "is_quotient" P_is_quotient (SpR K (R1B isQ)) := by apply ok_is_quotient <;> assumption
  obtain ⟨f_is_below, fd_is_below, R_is_below⟩ := T.r_is_below
  have A_is_below : At K mg "_is_below" s_is_below P_is_below f_is_below fd_is_below := R_is_below.at X G fun _ _ _ _ _ _ us hl => match us, hl with
    | [_, _], _ => rfl
  have p_is_below : Prm P w K mg base CX0 1 "_is_below" P_is_below (SpR K Rbelow) := by apply ok_is_below <;> assumption
  obtain ⟨f_ask_two, fd_ask_two, R_ask_two⟩ := T.r_ask_two
  have A_ask_two : At K mg "_ask_two" s_ask_two P_ask_two f_ask_two fd_ask_two := R_ask_two.at X G fun _ _ _ _ _ _ us hl => match us, hl with
    | [_, _], _ => rfl
  have p_ask_two : Prm P w K mg base CX0 3 "_ask_two" P_ask_two (SpR K Rask2) := by apply ok_ask_two <;> assumption
  obtain ⟨f_lowest, fd_lowest, R_lowest⟩ := T.r_lowest
  have A_lowest : At K mg "_lowest" s_lowest P_lowest f_lowest fd_lowest := R_lowest.at X G fun _ _ _ _ _ _ us hl => match us, hl with
    | [_, _], _ => rfl
  have p_lowest : Prm P w K mg base CX0 1 "_lowest" P_lowest (SpR K Rlowest) := by apply ok_lowest <;> assumption
  obtain ⟨f_minus, fd_minus, R_minus⟩ := T.r_minus
  have A_minus : At K mg "minus" s_minus P_minus f_minus fd_minus := R_minus.at X G fun _ _ _ _ _ _ us hl => match us, hl with
    | [_, _], _ => rfl
  have p_minus : Prm P w K mg base CX0 4 "minus" P_minus (SpR K Rminus) := by apply ok_minus <;> assumption
  obtain ⟨f_is_less, fd_is_less, R_is_less⟩ := T.r_is_less
  have A_is_less : At K mg "is_less" s_is_less P_is_less f_is_less fd_is_less := R_is_less.at X G fun _ _ _ _ _ _ us hl => match us, hl with
    | [_, _], _ => rfl
  have p_is_less : Prm P w K mg base CX0 4 "is_less" P_is_less (SpR K Rless) := by apply ok_is_less <;> assumption
  obtain ⟨f_power, fd_power, R_power⟩ := T.r_power
  have A_power : At K mg "power" s_power P_power f_power fd_power := R_power.at X G fun _ _ _ _ _ _ us hl => match us, hl with
    | [_, _], _ => rfl
  have p_power : Prm P w K mg base CX0 3 "power" P_power (SpR K Rpower) := by apply ok_power <;> assumption
  obtain ⟨f_e_is_base, fd_e_is_base, R_e_is_base⟩ := T.r_e_is_base
  have A_e_is_base : At K mg "e_is_base" s_e_is_base P_e_is_base f_e_is_base fd_e_is_base := R_e_is_base.at X G fun _ _ _ _ _ _ us hl => match us, hl with
    | [_], _ => rfl
  have p_e_is_base : Prm P w K mg base CX0 2 "e_is_base" P_e_is_base (SpR K (R1B isBase)) := by apply ok_e_is_base <;> assumption
  obtain ⟨f_e_is_share, fd_e_is_share, R_e_is_share⟩ := T.r_e_is_share
  have A_e_is_share : At K mg "e_is_share" s_e_is_share P_e_is_share f_e_is_share fd_e_is_share := R_e_is_share.at X G fun _ _ _ _ _ _ us hl => match us, hl with
    | [_], _ => rfl
  have p_e_is_share : Prm P w K mg base CX0 3 "e_is_share" P_e_is_share (SpR K (R1B isShare)) := by apply ok_e_is_share <;> assumption
  obtain ⟨f_e_is_flows, fd_e_is_flows, R_e_is_flows⟩ := T.r_e_is_flows
  have A_e_is_flows : At K mg "e_is_flows" s_e_is_flows P_e_is_flows f_e_is_flows fd_e_is_flows := R_e_is_flows.at X G fun _ _ _ _ _ _ us hl => match us, hl with
    | [_, _], _ => rfl
  have p_e_is_flows : Prm P w K mg base CX0 3 "e_is_flows" P_e_is_flows (SpR K Rflows) := by apply ok_e_is_flows <;> assumption
  obtain ⟨f_e_is_rooms, fd_e_is_rooms, R_e_is_rooms⟩ := T.r_e_is_rooms
  have A_e_is_rooms : At K mg "e_is_rooms" s_e_is_rooms P_e_is_rooms f_e_is_rooms fd_e_is_rooms := R_e_is_rooms.at X G fun _ _ _ _ _ _ us hl => match us, hl with
    | [_, _], _ => rfl
  have p_e_is_rooms : Prm P w K mg base CX0 3 "e_is_rooms" P_e_is_rooms (SpR K Rrooms) := by apply ok_e_is_rooms <;> assumption
  obtain ⟨f_e_is_charges, fd_e_is_charges, R_e_is_charges⟩ := T.r_e_is_charges
  have A_e_is_charges : At K mg "e_is_charges" s_e_is_charges P_e_is_charges f_e_is_charges fd_e_is_charges := R_e_is_charges.at X G fun _ _ _ _ _ _ us hl => match us, hl with
    | [_, _], _ => rfl
  have p_e_is_charges : Prm P w K mg base CX0 4 "e_is_charges" P_e_is_charges (SpR K Rcharges) := by apply ok_e_is_charges <;> assumption
  obtain ⟨f_e_span, fd_e_span, R_e_span⟩ := T.r_e_span
  have A_e_span : At K mg "e_span" s_e_span P_e_span f_e_span fd_e_span := R_e_span.at X G fun _ _ _ _ _ _ us hl => match us, hl with
    | [_, _], _ => rfl
  have p_e_span : Prm P w K mg base CX0 4 "e_span" P_e_span (SpR K Rspan) := by apply ok_e_span <;> assumption
  obtain ⟨f_is_positions, fd_is_positions, R_is_positions⟩ := T.r_is_positions
  have A_is_positions : At K mg "is_positions" s_is_positions P_is_positions f_is_positions fd_is_positions := R_is_positions.at X G fun _ _ _ _ _ _ us hl => match us, hl with
    | [_, _], _ => rfl
  have p_is_positions : Prm P w K mg base CX0 3 "is_positions" P_is_positions (SpR K Rpos) := by apply ok_is_positions <;> assumption
  obtain ⟨f_begins_as_held, fd_begins_as_held, R_begins_as_held⟩ := T.r_begins_as_held
  have A_begins_as_held : At K mg "_begins_as_held" s_begins_as_held P_begins_as_held f_begins_as_held fd_begins_as_held := R_begins_as_held.at X G fun _ _ _ _ _ _ us hl => match us, hl with
    | [_, _], _ => rfl
  have p_begins_as_held : Prm P w K mg base CX0 3 "_begins_as_held" P_begins_as_held (SpR K Rheld0) := by apply ok_begins_as_held <;> assumption
  obtain ⟨f_is_held, fd_is_held, R_is_held⟩ := T.r_is_held
  have A_is_held : At K mg "is_held" s_is_held P_is_held f_is_held fd_is_held := R_is_held.at X G fun _ _ _ _ _ _ us hl => match us, hl with
    | [_, _], _ => rfl
  have p_is_held : Prm P w K mg base CX0 4 "is_held" P_is_held (SpR K Rheld) := by apply ok_is_held <;> assumption
  obtain ⟨f_is_world, fd_is_world, R_is_world⟩ := T.r_is_world
  have A_is_world : At K mg "is_world" s_is_world P_is_world f_is_world fd_is_world := R_is_world.at X G fun _ _ _ _ _ _ us hl => match us, hl with
    | [_, _], _ => rfl
  have q_is_world : PrmF P w K mg base CX0 5 "is_world" P_is_world (SpR K Rworld) f_is_world fd_is_world := by apply okF_is_world <;> assumption
  have p_is_world : Prm P w K mg base CX0 5 "is_world" P_is_world (SpR K Rworld) := ⟨_, _, q_is_world⟩
  have k_is_world : PrmK P w K mg base CX0 5 "is_world" P_is_world ["thing", "net"] (SpR K Rworld) (fun ws => [ws.getD 1 .none, ws.getD 0 .none]) (fun zs => [zs.getD 1 .non, zs.getD 0 .non]) := by
    refine ⟨_, _, q_is_world.1, q_is_world.2.1, ?_, q_is_world.2.2.2⟩
    obtain ⟨oc, od, kV, doc, pm, an, cdv, ct, osl, e, _, _⟩ := R_is_world.fn.ex
    subst e
    exact kb2 rfl fun s _ _ => .of_eq rfl
  obtain ⟨f_e_flow_fits, fd_e_flow_fits, R_e_flow_fits⟩ := T.r_e_flow_fits
  have A_e_flow_fits : At K mg "e_flow_fits" s_e_flow_fits P_e_flow_fits f_e_flow_fits fd_e_flow_fits := R_e_flow_fits.at X G fun _ _ _ _ _ _ us hl => match us, hl with
    | [_, _, _, _], _ => rfl
  have p_e_flow_fits : Prm P w K mg base CX0 5 "e_flow_fits" P_e_flow_fits (SpR K Rffits) := by apply ok_e_flow_fits <;> assumption
  obtain ⟨f_e_room_fits, fd_e_room_fits, R_e_room_fits⟩ := T.r_e_room_fits
  have A_e_room_fits : At K mg "e_room_fits" s_e_room_fits P_e_room_fits f_e_room_fits fd_e_room_fits := R_e_room_fits.at X G fun _ _ _ _ _ _ us hl => match us, hl with
    | [_, _, _], _ => rfl
  have p_e_room_fits : Prm P w K mg base CX0 5 "e_room_fits" P_e_room_fits (SpR K Rrfits) := by apply ok_e_room_fits <;> assumption
  obtain ⟨f_e_charge_fits, fd_e_charge_fits, R_e_charge_fits⟩ := T.r_e_charge_fits
  have A_e_charge_fits : At K mg "e_charge_fits" s_e_charge_fits P_e_charge_fits f_e_charge_fits fd_e_charge_fits := R_e_charge_fits.at X G fun _ _ _ _ _ _ us hl => match us, hl with
    | [_, _, _], _ => rfl
  have p_e_charge_fits : Prm P w K mg base CX0 5 "e_charge_fits" P_e_charge_fits (SpR K Rcfits) := by apply ok_e_charge_fits <;> assumption
  obtain ⟨f_e_ask, fd_e_ask, R_e_ask⟩ := T.r_e_ask
  have A_e_ask : At K mg "e_ask" s_e_ask P_e_ask f_e_ask fd_e_ask := R_e_ask.at X G fun _ _ _ _ _ _ us hl => match us, hl with
    | [_, _], _ => rfl
  have p_e_ask : Prm P w K mg base (L2.CX P w) 3 "e_ask" P_e_ask (SpX K C Rask) := by apply ok_e_ask <;> assumption
  obtain ⟨f_flow_bounds, fd_flow_bounds, R_flow_bounds⟩ := T.r_flow_bounds
  have A_flow_bounds : At K mg "flow_bounds" s_flow_bounds P_flow_bounds f_flow_bounds fd_flow_bounds := R_flow_bounds.at X G fun _ _ _ _ _ _ us hl => match us, hl with
    | [_, _], _ => rfl
  have q_flow_bounds : PrmF P w K mg base (L2.CX P w) 5 "flow_bounds" P_flow_bounds (SpX K C Rfb) f_flow_bounds fd_flow_bounds := by apply okF_flow_bounds <;> assumption
  have p_flow_bounds : Prm P w K mg base (L2.CX P w) 5 "flow_bounds" P_flow_bounds (SpX K C Rfb) := ⟨_, _, q_flow_bounds⟩
  have k_flow_bounds : PrmK P w K mg base (L2.CX P w) 5 "flow_bounds" P_flow_bounds ["strength", "base"] (SpX K C Rfb) (fun ws => [ws.getD 1 .none, ws.getD 0 .none]) (fun zs => [zs.getD 1 .non, zs.getD 0 .non]) := by
    refine ⟨_, _, q_flow_bounds.1, q_flow_bounds.2.1, ?_, q_flow_bounds.2.2.2⟩
    obtain ⟨oc, od, kV, doc, pm, an, cdv, ct, osl, e, _, _⟩ := R_flow_bounds.fn.ex
    subst e
    exact kb2 rfl fun s _ _ => .of_eq rfl
  obtain ⟨f_room_bounds, fd_room_bounds, R_room_bounds⟩ := T.r_room_bounds
  have A_room_bounds : At K mg "room_bounds" s_room_bounds P_room_bounds f_room_bounds fd_room_bounds := R_room_bounds.at X G fun _ _ _ _ _ _ us hl => match us, hl with
    | [_, _], _ => rfl
  have q_room_bounds : PrmF P w K mg base (L2.CX P w) 5 "room_bounds" P_room_bounds (SpX K C Rrb) f_room_bounds fd_room_bounds := by apply okF_room_bounds <;> assumption
  have p_room_bounds : Prm P w K mg base (L2.CX P w) 5 "room_bounds" P_room_bounds (SpX K C Rrb) := ⟨_, _, q_room_bounds⟩
  have k_room_bounds : PrmK P w K mg base (L2.CX P w) 5 "room_bounds" P_room_bounds ["size", "base"] (SpX K C Rrb) (fun ws => [ws.getD 1 .none, ws.getD 0 .none]) (fun zs => [zs.getD 1 .non, zs.getD 0 .non]) := by
    refine ⟨_, _, q_room_bounds.1, q_room_bounds.2.1, ?_, q_room_bounds.2.2.2⟩
    obtain ⟨oc, od, kV, doc, pm, an, cdv, ct, osl, e, _, _⟩ := R_room_bounds.fn.ex
    subst e
    exact kb2 rfl fun s _ _ => .of_eq rfl
  obtain ⟨f_world_fault, fd_world_fault, R_world_fault⟩ := T.r_world_fault
  have A_world_fault : At K mg "world_fault" s_world_fault P_world_fault f_world_fault fd_world_fault := R_world_fault.at X G fun _ _ _ _ _ _ us hl => match us, hl with
    | [_, _, _, _, _], _ => rfl
  have q_world_fault : PrmF P w K mg base (L2.CX P w) 6 "world_fault" P_world_fault (SpX K C Rwf) f_world_fault fd_world_fault := by apply okF_world_fault <;> assumption
  have p_world_fault : Prm P w K mg base (L2.CX P w) 6 "world_fault" P_world_fault (SpX K C Rwf) := ⟨_, _, q_world_fault⟩
  have k_world_fault : PrmK P w K mg base (L2.CX P w) 6 "world_fault" P_world_fault ["slack", "world", "held", "positions", "net"] (SpX K C Rwf) (fun ws => [ws.getD 4 .none, ws.getD 3 .none, ws.getD 2 .none, ws.getD 1 .none, ws.getD 0 .none]) (fun zs => [zs.getD 4 .non, zs.getD 3 .non, zs.getD 2 .non, zs.getD 1 .non, zs.getD 0 .non]) := by
    refine ⟨_, _, q_world_fault.1, q_world_fault.2.1, ?_, q_world_fault.2.2.2⟩
    obtain ⟨oc, od, kV, doc, pm, an, cdv, ct, osl, e, _, _⟩ := R_world_fault.fn.ex
    subst e
    exact kb5 rfl fun s _ _ _ _ _ => .of_eq rfl
  obtain ⟨f_law_pool, fd_law_pool, R_law_pool⟩ := T.r_law_pool
  have A_law_pool : At K mg "_law_pool" s_law_pool P_law_pool f_law_pool fd_law_pool := R_law_pool.at X G fun _ _ _ _ _ _ us hl => match us, hl with
    | [_], _ => rfl
  have p_law_pool : Prm P w K mg base CX0 1 "_law_pool" P_law_pool (spPool K) := by apply ok_law_pool <;> assumption
  obtain ⟨f_law_pick, fd_law_pick, R_law_pick⟩ := T.r_law_pick
  have A_law_pick : At K mg "_law_pick" s_law_pick P_law_pick f_law_pick fd_law_pick := R_law_pick.at X G fun _ _ _ _ _ _ us hl => match us, hl with
    | [_, _], _ => rfl
  have p_law_pick : Prm P w K mg base CX0 1 "_law_pick" P_law_pick (SpG K PrePick PostPick) := by apply ok_law_pick <;> assumption
  obtain ⟨f_law_low, fd_law_low, R_law_low⟩ := T.r_law_low
  have A_law_low : At K mg "_law_low" s_law_low P_law_low f_law_low fd_law_low := R_law_low.at X G fun _ _ _ _ _ _ us hl => match us, hl with
    | [_, _], _ => rfl
  have p_law_low : Prm P w K mg base CX0 1 "_law_low" P_law_low (SpR K Rlowest) := by apply ok_law_low <;> assumption
  obtain ⟨f_law_same, fd_law_same, R_law_same⟩ := T.r_law_same
  have A_law_same : At K mg "_law_same" s_law_same P_law_same f_law_same fd_law_same := R_law_same.at X G fun _ _ _ _ _ _ us hl => match us, hl with
    | [_, _], _ => rfl
  have p_law_same : Prm P w K mg base CX0 3 "_law_same" P_law_same (SpR K Rsame) := by apply ok_law_same <;> assumption
  obtain ⟨f_law_raised, fd_law_raised, R_law_raised⟩ := T.r_law_raised
  have A_law_raised : At K mg "_law_raised" s_law_raised P_law_raised f_law_raised fd_law_raised := R_law_raised.at X G fun _ _ _ _ _ _ us hl => match us, hl with
    | [_, _], _ => rfl
  have p_law_raised : Prm P w K mg base CX0 1 "_law_raised" P_law_raised (SpR K Rraised) := by apply ok_law_raised <;> assumption
  obtain ⟨f_law_circuit, fd_law_circuit, R_law_circuit⟩ := T.r_law_circuit
  have A_law_circuit : At K mg "_law_circuit" s_law_circuit P_law_circuit f_law_circuit fd_law_circuit := R_law_circuit.at X G fun _ _ _ _ _ _ us hl => match us, hl with
    | [_], _ => rfl
  have p_law_circuit : Prm P w K mg base CX0 2 "_law_circuit" P_law_circuit (SpG K Pre0 PostCircuit) := by apply ok_law_circuit <;> assumption
  obtain ⟨f_law_stands, fd_law_stands, R_law_stands⟩ := T.r_law_stands
  have A_law_stands : At K mg "_law_stands" s_law_stands P_law_stands f_law_stands fd_law_stands := R_law_stands.at X G fun _ _ _ _ _ _ us hl => match us, hl with
    | [_, _], _ => rfl
  have p_law_stands : Prm P w K mg base CX0 2 "_law_stands" P_law_stands (SpG K PreNet PostStands) := by apply ok_law_stands <;> assumption
  obtain ⟨f_law_holds, fd_law_holds, R_law_holds⟩ := T.r_law_holds
  have A_law_holds : At K mg "_law_holds" s_law_holds P_law_holds f_law_holds fd_law_holds := R_law_holds.at X G fun _ _ _ _ _ _ us hl => match us, hl with
    | [_, _], _ => rfl
  have p_law_holds : Prm P w K mg base CX0 2 "_law_holds" P_law_holds (SpG K PreNet PostHolds) := by apply ok_law_holds <;> assumption
  obtain ⟨f_law_ground, fd_law_ground, R_law_ground⟩ := T.r_law_ground
  have A_law_ground : At K mg "_law_ground" s_law_ground P_law_ground f_law_ground fd_law_ground := R_law_ground.at X G fun _ _ _ _ _ _ us hl => match us, hl with
    | [_], _ => rfl
  have p_law_ground : Prm P w K mg base CX0 2 "_law_ground" P_law_ground (SpG K Pre0 PostGround) := by apply ok_law_ground <;> assumption
  obtain ⟨f_law_between, fd_law_between, R_law_between⟩ := T.r_law_between
  have A_law_between : At K mg "_law_between" s_law_between P_law_between f_law_between fd_law_between := R_law_between.at X G fun _ _ _ _ _ _ us hl => match us, hl with
    | [_, _, _, _], _ => rfl
  have p_law_between : Prm P w K mg base CX0 2 "_law_between" P_law_between (SpG K PreBetween PostBetween) := by apply ok_law_between <;> assumption
  obtain ⟨f_law_load, fd_law_load, R_law_load⟩ := T.r_law_load
  have A_law_load : At K mg "_law_load" s_law_load P_law_load f_law_load fd_law_load := R_law_load.at X G fun _ _ _ _ _ _ us hl => match us, hl with
    | [_, _, _, _], _ => rfl
  have p_law_load : Prm P w K mg base CX0 2 "_law_load" P_law_load (SpG K PreLoad PostLoad) := by apply ok_law_load <;> assumption
  obtain ⟨f_law_wide, fd_law_wide, R_law_wide⟩ := T.r_law_wide
  have A_law_wide : At K mg "_law_wide" s_law_wide P_law_wide f_law_wide fd_law_wide := R_law_wide.at X G fun _ _ _ _ _ _ us hl => match us, hl with
    | [_], _ => rfl
  have p_law_wide : Prm P w K mg base CX0 2 "_law_wide" P_law_wide (SpG K Pre0 PostWide) := by apply ok_law_wide <;> assumption
  obtain ⟨f_law_earth, fd_law_earth, R_law_earth⟩ := T.r_law_earth
  have A_law_earth : At K mg "_law_earth" s_law_earth P_law_earth f_law_earth fd_law_earth := R_law_earth.at X G fun _ _ _ _ _ _ us hl => match us, hl with
    | [_, _, _, _, _], _ => rfl
  have p_law_earth : Prm P w K mg base CX0 3 "_law_earth" P_law_earth (SpG K PreEarth PostEarth) := by apply ok_law_earth <;> assumption
  obtain ⟨f_law_fault, fd_law_fault, R_law_fault⟩ := T.r_law_fault
  have A_law_fault : At K mg "_law_fault" s_law_fault P_law_fault f_law_fault fd_law_fault := R_law_fault.at X G fun _ _ _ _ _ _ us hl => match us, hl with
    | [_, _, _, _, _], _ => rfl
  have p_law_fault : Prm P w K mg base CX0 2 "_law_fault" P_law_fault (SpR K Rfault) := by apply ok_law_fault <;> assumption
  obtain ⟨f_law_is_number, fd_law_is_number, R_law_is_number⟩ := T.r_law_is_number
  have A_law_is_number : At K mg "_law_is_number" s_law_is_number P_law_is_number f_law_is_number fd_law_is_number := R_law_is_number.at X G fun _ _ _ _ _ _ us hl => match us, hl with
    | [_], _ => rfl
  have p_law_is_number : Prm P w K mg base CX0 1 "_law_is_number" P_law_is_number (SpR K (R1B isI)) := by apply ok_law_is_number <;> assumption
  obtain ⟨f_law_is_ratio, fd_law_is_ratio, R_law_is_ratio⟩ := T.r_law_is_ratio
  have A_law_is_ratio : At K mg "_law_is_ratio" s_law_is_ratio P_law_is_ratio f_law_is_ratio fd_law_is_ratio := R_law_is_ratio.at X G fun _ _ _ _ _ _ us hl => match us, hl with
    | [_], _ => rfl
  have p_law_is_ratio : Prm P w K mg base CX0 2 "_law_is_ratio" P_law_is_ratio (SpR K Rratio) := by apply ok_law_is_ratio <;> assumption
  obtain ⟨f_law_are_ratios, fd_law_are_ratios, R_law_are_ratios⟩ := T.r_law_are_ratios
  have A_law_are_ratios : At K mg "_law_are_ratios" s_law_are_ratios P_law_are_ratios f_law_are_ratios fd_law_are_ratios := R_law_are_ratios.at X G fun _ _ _ _ _ _ us hl => match us, hl with
    | [_, _], _ => rfl
  have p_law_are_ratios : Prm P w K mg base CX0 3 "_law_are_ratios" P_law_are_ratios (SpR K Rratios) := by apply ok_law_are_ratios <;> assumption
  obtain ⟨f_law_is_ground, fd_law_is_ground, R_law_is_ground⟩ := T.r_law_is_ground
  have A_law_is_ground : At K mg "_law_is_ground" s_law_is_ground P_law_is_ground f_law_is_ground fd_law_is_ground := R_law_is_ground.at X G fun _ _ _ _ _ _ us hl => match us, hl with
    | [_], _ => rfl
  have p_law_is_ground : Prm P w K mg base CX0 2 "_law_is_ground" P_law_is_ground (SpR K (R1B isBase)) := by apply ok_law_is_ground <;> assumption
  obtain ⟨f_law_is_earth, fd_law_is_earth, R_law_is_earth⟩ := T.r_law_is_earth
  have A_law_is_earth : At K mg "_law_is_earth" s_law_is_earth P_law_is_earth f_law_is_earth fd_law_is_earth := R_law_is_earth.at X G fun _ _ _ _ _ _ us hl => match us, hl with
    | [_, _], _ => rfl
  have p_law_is_earth : Prm P w K mg base CX0 4 "_law_is_earth" P_law_is_earth (SpR K Rearth) := by apply ok_law_is_earth <;> assumption
  obtain ⟨f_law_bent_row, fd_law_bent_row, R_law_bent_row⟩ := T.r_law_bent_row
  have A_law_bent_row : At K mg "_law_bent_row" s_law_bent_row P_law_bent_row f_law_bent_row fd_law_bent_row := R_law_bent_row.at X G fun _ _ _ _ _ _ us hl => match us, hl with
    | [_, _], _ => rfl
  have p_law_bent_row : Prm P w K mg base CX0 2 "_law_bent_row" P_law_bent_row (SpG K PreRow PostRow) := by apply ok_law_bent_row <;> assumption
  obtain ⟨f_law_bent, fd_law_bent, R_law_bent⟩ := T.r_law_bent
  have A_law_bent : At K mg "_law_bent" s_law_bent P_law_bent f_law_bent fd_law_bent := R_law_bent.at X G fun _ _ _ _ _ _ us hl => match us, hl with
    | [_, _], _ => rfl
  have p_law_bent : Prm P w K mg base CX0 3 "_law_bent" P_law_bent (SpG K PreBent PostBent) := by apply ok_law_bent <;> assumption
  obtain ⟨f_law_heard, fd_law_heard, R_law_heard⟩ := T.r_law_heard
  have A_law_heard : At K mg "_law_heard" s_law_heard P_law_heard f_law_heard fd_law_heard := R_law_heard.at X G fun _ _ _ _ _ _ us hl => match us, hl with
    | [_, _, _], _ => rfl
  have p_law_heard : Prm P w K mg base CX0 7 "_law_heard" P_law_heard (SpR K Rheard) := by apply ok_law_heard <;> assumption
  obtain ⟨f_law_meets, fd_law_meets, R_law_meets⟩ := T.r_law_meets
  have A_law_meets : At K mg "_law_meets" s_law_meets P_law_meets f_law_meets fd_law_meets := R_law_meets.at X G fun _ _ _ _ _ _ us hl => match us, hl with
    | [_, _, _], _ => rfl
  have p_law_meets : Prm P w K mg base CX0 4 "_law_meets" P_law_meets (SpR K Rmeets) := by apply ok_law_meets <;> assumption
  obtain ⟨f_law_scale, fd_law_scale, R_law_scale⟩ := T.r_law_scale
  have A_law_scale : At K mg "_law_scale" s_law_scale P_law_scale f_law_scale fd_law_scale := R_law_scale.at X G fun _ _ _ _ _ _ us hl => match us, hl with
    | [_, _], _ => rfl
  have p_law_scale : Prm P w K mg base CX0 2 "_law_scale" P_law_scale (SpG K PreScale PostScale) := by apply ok_law_scale <;> assumption
  obtain ⟨f_law_any_ground, fd_law_any_ground, R_law_any_ground⟩ := T.r_law_any_ground
  have A_law_any_ground : At K mg "_law_any_ground" s_law_any_ground P_law_any_ground f_law_any_ground fd_law_any_ground := R_law_any_ground.at X G fun _ _ _ _ _ _ us hl => match us, hl with
    | [_], _ => rfl
  have p_law_any_ground : Prm P w K mg base CX0 3 "_law_any_ground" P_law_any_ground (SpG K Pre0 PostAny) := by apply ok_law_any_ground <;> assumption
  obtain ⟨f_law_bounds_hold, fd_law_bounds_hold, R_law_bounds_hold⟩ := T.r_law_bounds_hold
  have A_law_bounds_hold : At K mg "_law_bounds_hold" s_law_bounds_hold P_law_bounds_hold f_law_bounds_hold fd_law_bounds_hold := R_law_bounds_hold.at X G fun _ _ _ _ _ _ us hl => match us, hl with
    | [_, _], _ => rfl
  have p_law_bounds_hold : Prm P w K mg base CX0 8 "_law_bounds_hold" P_law_bounds_hold (SpG K PreNet PostTrue) := by apply ok_law_bounds_hold <;> assumption
  obtain ⟨f_law_odd_alone, fd_law_odd_alone, R_law_odd_alone⟩ := T.r_law_odd_alone
  have A_law_odd_alone : At K mg "_law_odd_alone" s_law_odd_alone P_law_odd_alone f_law_odd_alone fd_law_odd_alone := R_law_odd_alone.at X G fun _ _ _ _ _ _ us hl => match us, hl with
    | [_, _], _ => rfl
  have p_law_odd_alone : Prm P w K mg base CX0 8 "_law_odd_alone" P_law_odd_alone (SpR K Ralone) := by apply ok_law_odd_alone <;> assumption
  obtain ⟨f_law_odd_call, fd_law_odd_call, R_law_odd_call⟩ := T.r_law_odd_call
  have A_law_odd_call : At K mg "_law_odd_call" s_law_odd_call P_law_odd_call f_law_odd_call fd_law_odd_call := R_law_odd_call.at X G fun _ _ _ _ _ _ us hl => match us, hl with
    | [_, _, _], _ => rfl
  have p_law_odd_call : Prm P w K mg base CX0 8 "_law_odd_call" P_law_odd_call (SpG K PreCall PostTrue) := by apply ok_law_odd_call <;> assumption
  obtain ⟨f_law_by_hand, fd_law_by_hand, R_law_by_hand⟩ := T.r_law_by_hand
  have A_law_by_hand : At K mg "_law_by_hand" s_law_by_hand P_law_by_hand f_law_by_hand fd_law_by_hand := R_law_by_hand.at X G fun _ _ _ _ _ _ us hl => match us, hl with
    | [], _ => rfl
  have p_law_by_hand : Prm P w K mg base CX0 7 "_law_by_hand" P_law_by_hand (SpR K Rhand) := by apply ok_law_by_hand <;> assumption
  apply ok_law <;> assumption
theorem walk {l : PySem.W.OpenLaw} {q : Program} {loose : List Str} {XP : (Str → Option Value) → Heap → Prop} {YP : World → Heap → Prop} {d : DefRec} {K : Params → PySem.W.Frag} (hn : l.most = some 63) (hdf : d.params.defaults = []) (hd : d.name = "law")
    (hY : ∀ (w : World) (h : Heap), YP w h → (K w.params).In h) (T : ∀ w : World, Tab (K w.params))
    (NU : ∀ (w : World) (mg : Str → Option Value) (h : Heap), (K w.params).In h → h.Ns mainGlobals mg → ∃ C fI CO fdI, Nu (K w.params) mg C fI CO fdI) :
    PySem.W.WalkO q loose XP YP l.row.toRowW d [] (fun f vs => PySem.call f vs) :=
  L2.walk_of (n := 63) (k := 9) (x := "_law_script") (CX := fun _ => CX0) (sp := fun w => spLaw (K w.params)) hn (by decide) hdf ⟨rfl, by decide, by decide⟩ hY (fun w mg fa h X G hmg => by
    rw [hd] at hmg
    obtain ⟨C, fI, CO, fdI, N⟩ := NU w mg h X G
    exact chain (P := l.prog) (w := w) X G (T w) N hmg) (fun _ _ a ns hl _ hS => ⟨a, ns, rfl, hS, hl, fun _ => rfl⟩) fun _ _ _ _ _ z => z
end

end Ky
open PySem PySem.W PyProof.Rows L2
set_option maxRecDepth 100000 in
set_option maxHeartbeats 0 in
theorem PySem.Challenge.cw_everyohm_k36_whole_first_fault_of_a_worl_holds : PySem.Challenge.rw_everyohm_k36_whole_first_fault_of_a_worl.Holds := by
  w_on; o_law; k_head; (case hw => w_witness2)
  k_fill
  refine Ky.walk (l := PySem.Challenge.rw_everyohm_k36_whole_first_fault_of_a_worl) rfl rfl rfl (fun w h Y => PySem.W.kIn_of Y) ?T ?NU
  case T =>
    intro w
    constructor
    · refine' ⟨_, Ky.row_mk ?a ?l ?c ?k⟩
      (case a => k_is)
      (case l => k_is)
      (case c => k_is)
      (case k => k_is)
    · refine' ⟨_, Ky.row_mk ?a ?l ?c ?k⟩
      (case a => k_is)
      (case l => k_is)
      (case c => k_is)
      (case k => k_is)
    · refine' ⟨_, Ky.row_mk ?a ?l ?c ?k⟩
      (case a => k_is)
      (case l => k_is)
      (case c => k_is)
      (case k => k_is)
    · refine' ⟨_, Ky.row_mk ?a ?l ?c ?k⟩
      (case a => k_is)
      (case l => k_is)
      (case c => k_is)
      (case k => k_is)
    · refine' ⟨_, Ky.row_mk ?a ?l ?c ?k⟩
      (case a => k_is)
      (case l => k_is)
      (case c => k_is)
      (case k => k_is)
    · refine' ⟨_, Ky.row_mk ?a ?l ?c ?k⟩
      (case a => k_is)
      (case l => k_is)
      (case c => k_is)
      (case k => k_is)
    · refine' ⟨_, Ky.row_mk ?a ?l ?c ?k⟩
      (case a => k_is)
      (case l => k_is)
      (case c => k_is)
      (case k => k_is)
    · refine' ⟨_, Ky.row_mk ?a ?l ?c ?k⟩
      (case a => k_is)
      (case l => k_is)
      (case c => k_is)
      (case k => k_is)
    · refine' ⟨_, Ky.row_mk ?a ?l ?c ?k⟩
      (case a => k_is)
      (case l => k_is)
      (case c => k_is)
      (case k => k_is)
    · refine' ⟨_, Ky.row_mk ?a ?l ?c ?k⟩
      (case a => k_is)
      (case l => k_is)
      (case c => k_is)
      (case k => k_is)
    · refine' ⟨_, Ky.row_mk ?a ?l ?c ?k⟩
      (case a => k_is)
      (case l => k_is)
      (case c => k_is)
      (case k => k_is)
    · refine' ⟨_, Ky.row_mk ?a ?l ?c ?k⟩
      (case a => k_is)
      (case l => k_is)
      (case c => k_is)
      (case k => k_is)
    · refine' ⟨_, Ky.row_mk ?a ?l ?c ?k⟩
      (case a => k_is)
      (case l => k_is)
      (case c => k_is)
      (case k => k_is)
    · refine' ⟨_, Ky.row_mk ?a ?l ?c ?k⟩
      (case a => k_is)
      (case l => k_is)
      (case c => k_is)
      (case k => k_is)
    · refine' ⟨_, Ky.row_mk ?a ?l ?c ?k⟩
      (case a => k_is)
      (case l => k_is)
      (case c => k_is)
      (case k => k_is)
    · refine' ⟨_, Ky.row_mk ?a ?l ?c ?k⟩
      (case a => k_is)
      (case l => k_is)
      (case c => k_is)
      (case k => k_is)
    · refine' ⟨_, Ky.row_mk ?a ?l ?c ?k⟩
      (case a => k_is)
      (case l => k_is)
      (case c => k_is)
      (case k => k_is)
    · refine' ⟨_, Ky.row_mk ?a ?l ?c ?k⟩
      (case a => k_is)
      (case l => k_is)
      (case c => k_is)
      (case k => k_is)
    · refine' ⟨_, Ky.row_mk ?a ?l ?c ?k⟩
      (case a => k_is)
      (case l => k_is)
      (case c => k_is)
      (case k => k_is)
    · refine' ⟨_, Ky.row_mk ?a ?l ?c ?k⟩
      (case a => k_is)
      (case l => k_is)
      (case c => k_is)
      (case k => k_is)
    · refine' ⟨_, Ky.row_mk ?a ?l ?c ?k⟩
      (case a => k_is)
      (case l => k_is)
      (case c => k_is)
      (case k => k_is)
    · refine' ⟨_, Ky.row_mk ?a ?l ?c ?k⟩
      (case a => k_is)
      (case l => k_is)
      (case c => k_is)
      (case k => k_is)
    · refine' ⟨_, Ky.row_mk ?a ?l ?c ?k⟩
      (case a => k_is)
      (case l => k_is)
      (case c => k_is)
      (case k => k_is)
    · refine' ⟨_, Ky.row_mk ?a ?l ?c ?k⟩
      (case a => k_is)
      (case l => k_is)
      (case c => k_is)
      (case k => k_is)
    · refine' ⟨_, Ky.row_mk ?a ?l ?c ?k⟩
      (case a => k_is)
      (case l => k_is)
      (case c => k_is)
      (case k => k_is)
    · refine' ⟨_, Ky.row_mk ?a ?l ?c ?k⟩
      (case a => k_is)
      (case l => k_is)
      (case c => k_is)
      (case k => k_is)
    · refine' ⟨_, Ky.row_mk ?a ?l ?c ?k⟩
      (case a => k_is)
      (case l => k_is)
      (case c => k_is)
      (case k => k_is)
    · refine' ⟨_, Ky.row_mk ?a ?l ?c ?k⟩
      (case a => k_is)
      (case l => k_is)
      (case c => k_is)
      (case k => k_is)
    · refine' ⟨_, Ky.row_mk ?a ?l ?c ?k⟩
      (case a => k_is)
      (case l => k_is)
      (case c => k_is)
      (case k => k_is)
    · refine' ⟨_, Ky.row_mk ?a ?l ?c ?k⟩
      (case a => k_is)
      (case l => k_is)
      (case c => k_is)
      (case k => k_is)
    · refine' ⟨_, Ky.row_mk ?a ?l ?c ?k⟩
      (case a => k_is)
      (case l => k_is)
      (case c => k_is)
      (case k => k_is)
    · refine' ⟨_, Ky.row_mk ?a ?l ?c ?k⟩
      (case a => k_is)
      (case l => k_is)
      (case c => k_is)
      (case k => k_is)
    · refine' ⟨_, Ky.row_mk ?a ?l ?c ?k⟩
      (case a => k_is)
      (case l => k_is)
      (case c => k_is)
      (case k => k_is)
    · refine' ⟨_, Ky.row_mk ?a ?l ?c ?k⟩
      (case a => k_is)
      (case l => k_is)
      (case c => k_is)
      (case k => k_is)
    · refine' ⟨_, Ky.row_mk ?a ?l ?c ?k⟩
      (case a => k_is)
      (case l => k_is)
      (case c => k_is)
      (case k => k_is)
    · refine' ⟨_, Ky.row_mk ?a ?l ?c ?k⟩
      (case a => k_is)
      (case l => k_is)
      (case c => k_is)
      (case k => k_is)
    · refine' ⟨_, Ky.row_mk ?a ?l ?c ?k⟩
      (case a => k_is)
      (case l => k_is)
      (case c => k_is)
      (case k => k_is)
    · refine' ⟨_, Ky.row_mk ?a ?l ?c ?k⟩
      (case a => k_is)
      (case l => k_is)
      (case c => k_is)
      (case k => k_is)
    · refine' ⟨_, Ky.row_mk ?a ?l ?c ?k⟩
      (case a => k_is)
      (case l => k_is)
      (case c => k_is)
      (case k => k_is)
    · refine' ⟨_, Ky.row_mk ?a ?l ?c ?k⟩
      (case a => k_is)
      (case l => k_is)
      (case c => k_is)
      (case k => k_is)
    · refine' ⟨_, Ky.row_mk ?a ?l ?c ?k⟩
      (case a => k_is)
      (case l => k_is)
      (case c => k_is)
      (case k => k_is)
    · refine' ⟨_, Ky.row_mk ?a ?l ?c ?k⟩
      (case a => k_is)
      (case l => k_is)
      (case c => k_is)
      (case k => k_is)
    · refine' ⟨_, Ky.row_mk ?a ?l ?c ?k⟩
      (case a => k_is)
      (case l => k_is)
      (case c => k_is)
      (case k => k_is)
    · refine' ⟨_, Ky.row_mk ?a ?l ?c ?k⟩
      (case a => k_is)
      (case l => k_is)
      (case c => k_is)
      (case k => k_is)
    · refine' ⟨_, Ky.row_mk ?a ?l ?c ?k⟩
      (case a => k_is)
      (case l => k_is)
      (case c => k_is)
      (case k => k_is)
    · refine' ⟨_, Ky.row_mk ?a ?l ?c ?k⟩
      (case a => k_is)
      (case l => k_is)
      (case c => k_is)
      (case k => k_is)
    · refine' ⟨_, Ky.row_mk ?a ?l ?c ?k⟩
      (case a => k_is)
      (case l => k_is)
      (case c => k_is)
      (case k => k_is)
    · refine' ⟨_, Ky.row_mk ?a ?l ?c ?k⟩
      (case a => k_is)
      (case l => k_is)
      (case c => k_is)
      (case k => k_is)
    · refine' ⟨_, Ky.row_mk ?a ?l ?c ?k⟩
      (case a => k_is)
      (case l => k_is)
      (case c => k_is)
      (case k => k_is)
    · refine' ⟨_, Ky.row_mk ?a ?l ?c ?k⟩
      (case a => k_is)
      (case l => k_is)
      (case c => k_is)
      (case k => k_is)
    · refine' ⟨_, Ky.row_mk ?a ?l ?c ?k⟩
      (case a => k_is)
      (case l => k_is)
      (case c => k_is)
      (case k => k_is)
    · refine' ⟨_, Ky.row_mk ?a ?l ?c ?k⟩
      (case a => k_is)
      (case l => k_is)
      (case c => k_is)
      (case k => k_is)
    · refine' ⟨_, Ky.row_mk ?a ?l ?c ?k⟩
      (case a => k_is)
      (case l => k_is)
      (case c => k_is)
      (case k => k_is)
    · refine' ⟨_, Ky.row_mk ?a ?l ?c ?k⟩
      (case a => k_is)
      (case l => k_is)
      (case c => k_is)
      (case k => k_is)
    · refine' ⟨_, Ky.row_mk ?a ?l ?c ?k⟩
      (case a => k_is)
      (case l => k_is)
      (case c => k_is)
      (case k => k_is)
    · refine' ⟨_, Ky.row_mk ?a ?l ?c ?k⟩
      (case a => k_is)
      (case l => k_is)
      (case c => k_is)
      (case k => k_is)
    · refine' ⟨_, Ky.row_mk ?a ?l ?c ?k⟩
      (case a => k_is)
      (case l => k_is)
      (case c => k_is)
      (case k => k_is)
    · k_is
    · k_is
    · k_is
    · k_is
    · k_is
    · k_is
    · k_is
    · k_is
    · k_is
    · k_is
    · k_is
    · k_is
    · k_is
    · k_is
    · refine' Ky.gexp_mk ?e
      (case e => k_is)
  case NU =>
    intro w mg h X G
    refine' ⟨_, _, _, _, Ky.nu_of X G ?xL ?bm ?sa ?ga ?gg ?nw ?na ?iC ?tI (fun_mk (st := Ky.s_init) ?l ?c ?k) ?kC ?eC ?tC ?hC ?ha ?hn ?ht ?hm ?aC ?aO ?eO ?iO ?tO ?sO⟩
    (case aC => k_is)
    (case aO => k_is)
    (case xL => k_is)
    (case bm => first | rfl | decide +kernel)
    (case sa => k_is)
    (case ga => k_is)
    (case gg => k_is)
    (case nw => k_is)
    (case na => k_is)
    (case iC => k_is)
    (case tI => k_is)
    (case l => k_is)
    (case c => k_is)
    (case k => k_is)
    (case kC => k_is)
    (case eC => k_is)
    (case tC => k_is)
    (case hC => k_is)
    (case ha => k_is)
    (case hn => k_is)
    (case ht => k_is)
    (case hm => k_is)
    (case eO => k_is)
    (case iO => k_is)
    (case tO => k_is)
    (case sO => first | k_is | rfl)
