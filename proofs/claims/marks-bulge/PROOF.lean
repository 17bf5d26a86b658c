import PyProof.Rows.All
import Wide.All
import OpenK.AllK
import Wide.FinOn
import HandS.ForMost
import HandS.Evl
import HandS.Wide
import HandS.IsInst
import HandS.Style
import HandS.Walk
import PySem.Challenge.RW_bendwright_k34_whole_marks_bulge
set_option Elab.async false
set_option linter.all false
set_option maxRecDepth 100000
set_option maxHeartbeats 4200000

/-! Data-level reading: what an expression comes to as plain data (PyData), whatever the heap; slots as data, own lists that may grow. -/
namespace BW
open PySem PySem.Spec PyProof.Rows L2 Evl

section
variable {K : PySem.W.Frag} {H H' : Hp}
mutual
theorem dp_to (hl : ∀ a xs, SqL K H a xs → SqL K H' a xs) (ht : ∀ a xs, SqT K H a xs → SqT K H' a xs) : ∀ (d : PyData) (v : V), Dp K H v d → Dp K H' v d
  | .none, _, h => by
    cases h
    exact .non
  | .bool b, _, h => by
    cases h
    exact .bl b
  | .int i, _, h => by
    cases h
    exact .int i
  | .str x, _, h => by
    cases h
    exact .str x
  | .list ds, _, h => by
    cases h with
    | lst hs ha => exact .lst (hl _ _ hs) (dpa_to hl ht ds _ ha)
  | .tuple ds, _, h => by
    cases h with
    | tup hs ha => exact .tup (ht _ _ hs) (dpa_to hl ht ds _ ha)
  | .dict _, _, h => by cases h
theorem dpa_to (hl : ∀ a xs, SqL K H a xs → SqL K H' a xs) (ht : ∀ a xs, SqT K H a xs → SqT K H' a xs) : ∀ (ds : List PyData) (vs : List V), DpAll K H vs ds → DpAll K H' vs ds
  | [], _, h => by
    cases h
    exact .nil
  | d :: ds, _, h => by
    cases h with
    | cons h1 h2 => exact .cons (dp_to hl ht d _ h1) (dpa_to hl ht ds _ h2)
end
theorem dp_ex (e : Ex H H') {d : PyData} {v : V} (h : Dp K H v d) : Dp K H' v d := dp_to (fun _ _ => ex_l e) (fun _ _ => ex_t e) d v h
theorem dpa_ex (e : Ex H H') {ds : List PyData} {vs : List V} (h : DpAll K H vs ds) : DpAll K H' vs ds := dpa_to (fun _ _ => ex_l e) (fun _ _ => ex_t e) ds vs h

/-- no list within -/
inductive Pl : PyData → Prop
  | non : Pl .none
  | bl (b : Bool) : Pl (.bool b)
  | int (i : Int) : Pl (.int i)
  | str (x : Str) : Pl (.str x)
  | tup {ds : List PyData} (h : ∀ d ∈ ds, Pl d) : Pl (.tuple ds)
abbrev PlA (ds : List PyData) : Prop := ∀ d ∈ ds, Pl d
theorem PlA.nil : PlA [] := fun _ h => nomatch h
theorem PlA.cons {d : PyData} {ds : List PyData} (h : Pl d) (hs : PlA ds) : PlA (d :: ds) := fun x hx => by
  rcases List.mem_cons.mp hx with e | e
  · rw [e]
    exact h
  · exact hs x e
theorem PlA.app {ds es : List PyData} (h : PlA ds) (hs : PlA es) : PlA (ds ++ es) := fun x hx => (List.mem_append.mp hx).elim (h x) (hs x)
mutual
theorem dp_pl (ht : ∀ a xs, SqT K H a xs → SqT K H' a xs) : ∀ (d : PyData) (v : V), Pl d → Dp K H v d → Dp K H' v d
  | .none, _, _, h => by
    cases h
    exact .non
  | .bool b, _, _, h => by
    cases h
    exact .bl b
  | .int i, _, _, h => by
    cases h
    exact .int i
  | .str x, _, _, h => by
    cases h
    exact .str x
  | .list ds, _, p, h => by cases p
  | .tuple ds, _, p, h => by
    cases h with
    | tup hs ha =>
      cases p with
      | tup p => exact .tup (ht _ _ hs) (dpa_pl ht ds _ p ha)
  | .dict _, _, _, h => by cases h
theorem dpa_pl (ht : ∀ a xs, SqT K H a xs → SqT K H' a xs) : ∀ (ds : List PyData) (vs : List V), PlA ds → DpAll K H vs ds → DpAll K H' vs ds
  | [], _, _, h => by
    cases h
    exact .nil
  | d :: ds, _, p, h => by
    cases h with
    | cons h1 h2 => exact .cons (dp_pl ht d _ (p d List.mem_cons_self) h1) (dpa_pl ht ds _ (fun x hx => p x (List.mem_cons_of_mem _ hx)) h2)
end
theorem dpa_len : ∀ {vs : List V} {ds : List PyData}, DpAll K H vs ds → vs.length = ds.length
  | _, _, .nil => rfl
  | _, _, .cons _ t => by rw [List.length_cons, List.length_cons, dpa_len t]
theorem dpa_get : ∀ {vs : List V} {ds : List PyData} {i : Nat} {d : PyData}, DpAll K H vs ds → ds[i]? = some d → ∃ v, vs[i]? = some v ∧ Dp K H v d
  | _, _, i, _, .nil, e => by simp at e
  | _, _, 0, _, .cons h _, e => by
    simp at e
    subst e
    exact ⟨_, rfl, h⟩
  | _, _, i + 1, d, .cons _ t, e => by
    obtain ⟨v, h1, h2⟩ := dpa_get (i := i) (d := d) t (by simpa using e)
    exact ⟨v, by simpa using h1, h2⟩
theorem dpa_get' : ∀ {vs : List V} {ds : List PyData} {i : Nat} {v : V}, DpAll K H vs ds → vs[i]? = some v → ∃ d, ds[i]? = some d ∧ Dp K H v d
  | _, _, i, _, .nil, e => by simp at e
  | _, _, 0, _, .cons h _, e => by
    simp at e
    subst e
    exact ⟨_, rfl, h⟩
  | _, _, i + 1, d, .cons _ t, e => by
    obtain ⟨v, h1, h2⟩ := dpa_get' (i := i) (v := d) t (by simpa using e)
    exact ⟨v, by simpa using h1, h2⟩
theorem dpa_app : ∀ {vs ws : List V} {ds es : List PyData}, DpAll K H vs ds → DpAll K H ws es → DpAll K H (vs ++ ws) (ds ++ es)
  | _, _, _, _, .nil, s => s
  | _, _, _, _, .cons h t, s => .cons h (dpa_app t s)
theorem dpa_one {v : V} {d : PyData} (h : Dp K H v d) : DpAll K H [v] [d] := .cons h .nil
theorem dpa_take : ∀ {vs : List V} {ds : List PyData} (n : Nat), DpAll K H vs ds → DpAll K H (vs.take n) (ds.take n)
  | _, _, 0, _ => .nil
  | _, _, _ + 1, .nil => .nil
  | _, _, n + 1, .cons h t => .cons h (dpa_take n t)
theorem dpa_drop : ∀ {vs : List V} {ds : List PyData} (n : Nat), DpAll K H vs ds → DpAll K H (vs.drop n) (ds.drop n)
  | _, _, 0, h => h
  | _, _, _ + 1, .nil => .nil
  | _, _, n + 1, .cons _ t => dpa_drop n t
theorem dpa_vints : ∀ {ns : List Int} {vs : List V}, DpAll K H vs (ns.map .int) → vs = ns.map V.int
  | [], _, h => by
    cases h
    rfl
  | n :: ns, _, h => by
    cases h with
    | cons h t =>
      cases h
      rw [dpa_vints t]
      rfl
theorem dpa_vbls : ∀ {ns : List Bool} {vs : List V}, DpAll K H vs (ns.map .bool) → vs = ns.map V.bl
  | [], _, h => by
    cases h
    rfl
  | n :: ns, _, h => by
    cases h with
    | cons h t =>
      cases h
      rw [dpa_vbls t]
      rfl
theorem dpa_ints : ∀ (ns : List Int), DpAll K H (ns.map V.int) (ns.map .int)
  | [] => .nil
  | _ :: ns => .cons (.int _) (dpa_ints ns)
theorem dp_tup {v : V} {ds : List PyData} (h : Dp K H v (.tuple ds)) : ∃ a xs, v = .ref a ∧ SqT K H a xs ∧ DpAll K H xs ds := by
  cases h with
  | tup hs ha => exact ⟨_, _, rfl, hs, ha⟩
theorem dp_lst {v : V} {ds : List PyData} (h : Dp K H v (.list ds)) : ∃ a xs, v = .ref a ∧ SqL K H a xs ∧ DpAll K H xs ds := by
  cases h with
  | lst hs ha => exact ⟨_, _, rfl, hs, ha⟩
theorem dp_int {v : V} {i : Int} (h : Dp K H v (.int i)) : v = .int i := by
  cases h
  rfl
theorem dp_bool {v : V} {b : Bool} (h : Dp K H v (.bool b)) : v = .bl b := by
  cases h
  rfl
theorem dp_str {v : V} {x : Str} (h : Dp K H v (.str x)) : v = .str x := by
  cases h
  rfl
end

/-! ### the heap without some addresses -/
open Classical in
noncomputable def Hid (H : Hp) (S : Addr → Prop) : Hp := fun a => if S a then none else H a
section
variable {K : PySem.W.Frag} {H H' : Hp} {S T : Addr → Prop}
theorem hid_some {a : Addr} {o : HO} (h : Hid H S a = some o) : ¬ S a ∧ H a = some o := by
  unfold Hid at h
  split at h
  · cases h
  · exact ⟨by assumption, h⟩
theorem hid_of {a : Addr} {o : HO} (hs : ¬ S a) (h : H a = some o) : Hid H S a = some o := by
  unfold Hid
  rw [if_neg hs]
  exact h
theorem hid_self : Ex (Hid H S) H := fun _ _ h => (hid_some h).2
theorem hid_ex (e : Ex H H') : Ex (Hid H S) (Hid H' S) := fun a o h => hid_of (hid_some h).1 (e a o (hid_some h).2)
theorem hid_sub (h : ∀ a, T a → S a) : Ex (Hid H S) (Hid H T) := fun a o e => hid_of (fun t => (hid_some e).1 (h a t)) (hid_some e).2
theorem hid_upd {p : Addr} {o : HO} (h : S p) : Hid (upd H p o) S = Hid H S := by
  funext a
  unfold Hid
  split
  · rfl
  · rename_i hs
    exact upd_ne fun e => hs (e ▸ h)
theorem hid_no (h : ∀ a, ¬ S a) : Hid H S = H := by
  funext a
  unfold Hid
  rw [if_neg (h a)]
/-- a tuple stands apart from lists -/
theorem sqt_hid (h : ∀ p, S p → ∃ xs, H p = some (.lst xs)) {a : Addr} {xs : List V} (q : SqT K H a xs) : SqT K (Hid H S) a xs := by
  rcases q with (q | ⟨o, q⟩) | q
  · refine .inl (.inl (hid_of (fun s => ?_) q))
    obtain ⟨ys, e⟩ := h a s
    rw [e] at q
    cases q
  · refine .inl (.inr ⟨o, hid_of (fun s => ?_) q⟩)
    obtain ⟨ys, e⟩ := h a s
    rw [e] at q
    cases q
  · exact .inr q
theorem pl_hid (h : ∀ p, S p → ∃ xs, H p = some (.lst xs)) {d : PyData} {v : V} (p : Pl d) (q : Dp K H v d) : Dp K (Hid H S) v d := dp_pl (fun _ _ => sqt_hid h) d v p q
theorem pla_hid (h : ∀ p, S p → ∃ xs, H p = some (.lst xs)) {ds : List PyData} {vs : List V} (p : PlA ds) (q : DpAll K H vs ds) : DpAll K (Hid H S) vs ds := dpa_pl (fun _ _ => sqt_hid h) ds vs p q
theorem sqt_upd {p : Addr} {ys zs : List V} (h : H p = some (.lst ys)) {a : Addr} {xs : List V} (q : SqT K H a xs) : SqT K (upd H p (.lst zs)) a xs := by
  have ne : ∀ o, H a = some o → (∀ ws, o ≠ .lst ws) → a ≠ p := fun o e n z => by
    rw [z, h] at e
    exact n ys (Option.some.inj e).symm
  rcases q with (q | ⟨o, q⟩) | q
  · exact .inl (.inl (by rw [upd_ne (ne _ q (by intro ws z; cases z))]; exact q))
  · exact .inl (.inr ⟨o, by rw [upd_ne (ne _ q (by intro ws z; cases z))]; exact q⟩)
  · exact .inr q
theorem pla_upd {p : Addr} {ys zs : List V} (h : H p = some (.lst ys)) {ds : List PyData} {vs : List V} (pl : PlA ds) (q : DpAll K H vs ds) : DpAll K (upd H p (.lst zs)) vs ds := dpa_pl (fun _ _ => sqt_upd h) ds vs pl q
theorem pl_upd {p : Addr} {ys zs : List V} (h : H p = some (.lst ys)) {d : PyData} {v : V} (pl : Pl d) (q : Dp K H v d) : Dp K (upd H p (.lst zs)) v d := dp_pl (fun _ _ => sqt_upd h) d v pl q
end

/-! ### slots as data -/
inductive Sl where
  | no
  | dt (d : PyData)
  | own (ds : List PyData)
def Owns (σ : L2.St) (Γ : List Sl) : Addr → Prop := fun p => ∃ (i : Nat) (ds : List PyData), Γ[i]? = some (.own ds) ∧ σ[i]? = some (some (.ref p))
structure Fit (K : PySem.W.Frag) (H0 H : Hp) (σ : L2.St) (Γ : List Sl) (G : List (V × PyData)) : Prop where
  len : σ.length = Γ.length
  ex : Ex H0 H
  dt : ∀ (i : Nat) d, Γ[i]? = some (.dt d) → ∃ v, σ[i]? = some (some v) ∧ Dp K (Hid H (Owns σ Γ)) v d
  own : ∀ (i : Nat) ds, Γ[i]? = some (.own ds) → ∃ p vs, σ[i]? = some (some (.ref p)) ∧ H p = some (.lst vs) ∧ H0 p = none ∧ DpAll K (Hid H (Owns σ Γ)) vs ds
  sep : ∀ (i j : Nat) p ds es, Γ[i]? = some (.own ds) → Γ[j]? = some (.own es) → σ[i]? = some (some (.ref p)) → σ[j]? = some (some (.ref p)) → i = j
  gh : ∀ g ∈ G, Dp K (Hid H (Owns σ Γ)) g.1 g.2
section
variable {K : PySem.W.Frag} {H0 H H' : Hp} {σ : L2.St} {Γ : List Sl} {G : List (V × PyData)}
theorem Fit.mono (F : Fit K H0 H σ Γ G) (e : Ex H H') : Fit K H0 H' σ Γ G where
  len := F.len
  ex := F.ex.trans e
  dt := fun i d h => let ⟨v, a, b⟩ := F.dt i d h; ⟨v, a, dp_ex (hid_ex e) b⟩
  own := fun i ds h => let ⟨p, vs, a, b, c, d⟩ := F.own i ds h; ⟨p, vs, a, e p _ b, c, dpa_ex (hid_ex e) d⟩
  sep := F.sep
  gh := fun g h => dp_ex (hid_ex e) (F.gh g h)
theorem Fit.lists (F : Fit K H0 H σ Γ G) : ∀ p, Owns σ Γ p → ∃ xs, H p = some (.lst xs) := fun p ⟨i, ds, a, b⟩ => by
  obtain ⟨q, vs, h1, h2, _⟩ := F.own i ds a
  rw [b] at h1
  cases h1
  exact ⟨vs, h2⟩
theorem Fit.new (F : Fit K H0 H σ Γ G) : ∀ p, Owns σ Γ p → H0 p = none := fun p ⟨i, ds, a, b⟩ => by
  obtain ⟨q, vs, h1, _, h3, _⟩ := F.own i ds a
  rw [b] at h1
  cases h1
  exact h3
theorem Fit.rd (F : Fit K H0 H σ Γ G) {i : Nat} {d : PyData} (h : Γ[i]? = some (.dt d)) : ∃ v, σ[i]? = some (some v) ∧ Dp K H v d :=
  let ⟨v, a, b⟩ := F.dt i d h; ⟨v, a, dp_ex hid_self b⟩
theorem Fit.rdo (F : Fit K H0 H σ Γ G) {i : Nat} {ds : List PyData} (h : Γ[i]? = some (.own ds)) : ∃ v, σ[i]? = some (some v) ∧ Dp K H v (.list ds) :=
  let ⟨p, vs, a, b, c, d⟩ := F.own i ds h; ⟨.ref p, a, .lst (.inl (.inl b)) (dpa_ex hid_self d)⟩
theorem get_set {α : Type} {l : List α} {i j : Nat} {x y : α} (h : (l.set i x)[j]? = some y) : (j = i ∧ y = x) ∨ (j ≠ i ∧ l[j]? = some y) := by
  by_cases e : j = i
  · subst e
    rw [List.getElem?_set_self'] at h
    cases q : l[j]? with
    | none =>
      rw [q] at h
      cases h
    | some z =>
      rw [q] at h
      exact .inl ⟨rfl, (Option.some.inj h).symm⟩
  · rw [List.getElem?_set_ne (Ne.symm e)] at h
    exact .inr ⟨e, h⟩
theorem set_get {α : Type} {l : List α} {i j : Nat} {x y : α} (e : j ≠ i) (h : l[j]? = some y) : (l.set i x)[j]? = some y := by
  rw [List.getElem?_set_ne (Ne.symm e)]
  exact h
/-- a slot is stored: data that stands apart from the own lists -/
theorem Fit.set (F : Fit K H0 H σ Γ G) {i : Nat} {v : V} {d : PyData} (hv : Dp K (Hid H (Owns σ Γ)) v d) : Fit K H0 H (σ.set i (some v)) (Γ.set i (.dt d)) G := by
  have sub : ∀ p, Owns (σ.set i (some v)) (Γ.set i (.dt d)) p → Owns σ Γ p := fun p ⟨j, ds, a, b⟩ => by
    rcases get_set a with ⟨_, e⟩ | ⟨e, a⟩
    · cases e
    · rcases get_set b with ⟨z, _⟩ | ⟨_, b⟩
      · exact absurd z e
      · exact ⟨j, ds, a, b⟩
  have s := hid_sub (H := H) sub
  refine ⟨by rw [List.length_set, List.length_set, F.len], F.ex, fun j e h => ?_, fun j ds h => ?_, fun j k p ds es h1 h2 h3 h4 => ?_, fun g h => dp_ex s (F.gh g h)⟩
  · have hb := (List.getElem?_eq_some_iff.mp h).1
    rw [List.length_set] at hb
    rcases get_set h with ⟨z, w⟩ | ⟨z, h⟩
    · cases w
      subst z
      exact ⟨v, List.getElem?_set_self (by rw [F.len]; exact hb), dp_ex s hv⟩
    · obtain ⟨u, a, b⟩ := F.dt j e h
      exact ⟨u, set_get z a, dp_ex s b⟩
  · rcases get_set h with ⟨z, w⟩ | ⟨z, h⟩
    · cases w
    · obtain ⟨p, vs, a, b, c, e⟩ := F.own j ds h
      exact ⟨p, vs, set_get z a, b, c, dpa_ex s e⟩
  · rcases get_set h1 with ⟨z, w⟩ | ⟨z1, h1⟩
    · cases w
    · rcases get_set h2 with ⟨z, w⟩ | ⟨z2, h2⟩
      · cases w
      · rcases get_set h3 with ⟨z, w⟩ | ⟨_, h3⟩
        · exact absurd z z1
        · rcases get_set h4 with ⟨z, w⟩ | ⟨_, h4⟩
          · exact absurd z z2
          · exact F.sep j k p ds es h1 h2 h3 h4
/-- a slot is forgotten -/
theorem Fit.drop (F : Fit K H0 H σ Γ G) (i : Nat) (o : Option V) : Fit K H0 H (σ.set i o) (Γ.set i .no) G := by
  have sub : ∀ p, Owns (σ.set i o) (Γ.set i .no) p → Owns σ Γ p := fun p ⟨j, ds, a, b⟩ => by
    rcases get_set a with ⟨_, e⟩ | ⟨e, a⟩
    · cases e
    · rcases get_set b with ⟨z, _⟩ | ⟨_, b⟩
      · exact absurd z e
      · exact ⟨j, ds, a, b⟩
  have s := hid_sub (H := H) sub
  refine ⟨by rw [List.length_set, List.length_set, F.len], F.ex, fun j e h => ?_, fun j ds h => ?_, fun j k p ds es h1 h2 h3 h4 => ?_, fun g h => dp_ex s (F.gh g h)⟩
  · rcases get_set h with ⟨z, w⟩ | ⟨z, h⟩
    · cases w
    · obtain ⟨u, a, b⟩ := F.dt j e h
      exact ⟨u, set_get z a, dp_ex s b⟩
  · rcases get_set h with ⟨z, w⟩ | ⟨z, h⟩
    · cases w
    · obtain ⟨p, vs, a, b, c, e⟩ := F.own j ds h
      exact ⟨p, vs, set_get z a, b, c, dpa_ex s e⟩
  · rcases get_set h1 with ⟨z, w⟩ | ⟨z1, h1⟩
    · cases w
    · rcases get_set h2 with ⟨z, w⟩ | ⟨z2, h2⟩
      · cases w
      · rcases get_set h3 with ⟨z, w⟩ | ⟨_, h3⟩
        · exact absurd z z1
        · rcases get_set h4 with ⟨z, w⟩ | ⟨_, h4⟩
          · exact absurd z z2
          · exact F.sep j k p ds es h1 h2 h3 h4
/-- a new list is stored: from now on it may grow -/
theorem Fit.setOwn {H1 : Hp} (F : Fit K H0 H σ Γ G) {i : Nat} {p : Addr} {vs : List V} {ds : List PyData} (hp : H p = none) (e : Ex H H1) (hv : H1 p = some (.lst vs)) (ha : DpAll K H1 vs ds) (hs : PlA ds) :
    Fit K H0 H1 (σ.set i (some (.ref p))) (Γ.set i (.own ds)) G := by
  have p0 : H0 p = none := fresh_back F.ex hp
  have nown : ¬ Owns σ Γ p := fun o => by
    obtain ⟨xs, q⟩ := F.lists p o
    rw [hp] at q
    cases q
  have sub : ∀ q, Owns (σ.set i (some (.ref p))) (Γ.set i (.own ds)) q → q = p ∨ Owns σ Γ q := fun q ⟨j, es, a, b⟩ => by
    rcases get_set a with ⟨z, _⟩ | ⟨z, a⟩
    · rcases get_set b with ⟨_, w⟩ | ⟨w, _⟩
      · left
        exact V.ref.inj (Option.some.inj w)
      · exact absurd z w
    · rcases get_set b with ⟨w, _⟩ | ⟨_, b⟩
      · exact absurd w z
      · exact .inr ⟨j, es, a, b⟩
  have s : Ex (Hid H (Owns σ Γ)) (Hid H1 (Owns (σ.set i (some (.ref p))) (Γ.set i (.own ds)))) := fun a o h => by
    obtain ⟨h1, h2⟩ := hid_some h
    refine hid_of (fun w => ?_) (e a o h2)
    rcases sub a w with w | w
    · rw [w, hp] at h2
      cases h2
    · exact h1 w
  have li : ∀ q, Owns (σ.set i (some (.ref p))) (Γ.set i (.own ds)) q → ∃ xs, H1 q = some (.lst xs) := fun q w => by
    rcases sub q w with w | w
    · rw [w]
      exact ⟨vs, hv⟩
    · obtain ⟨xs, z⟩ := F.lists q w
      exact ⟨xs, e q _ z⟩
  refine ⟨by rw [List.length_set, List.length_set, F.len], F.ex.trans e, fun j d h => ?_, fun j es h => ?_, fun j k q es fs h1 h2 h3 h4 => ?_, fun g h => dp_ex s (F.gh g h)⟩
  · rcases get_set h with ⟨z, w⟩ | ⟨z, h⟩
    · cases w
    · obtain ⟨u, a, b⟩ := F.dt j d h
      exact ⟨u, set_get z a, dp_ex s b⟩
  · have hb := (List.getElem?_eq_some_iff.mp h).1
    rw [List.length_set] at hb
    rcases get_set h with ⟨z, w⟩ | ⟨z, h⟩
    · cases w
      subst z
      exact ⟨p, vs, List.getElem?_set_self (by rw [F.len]; exact hb), hv, p0, pla_hid li hs ha⟩
    · obtain ⟨q, ws, a, b, c, f⟩ := F.own j es h
      exact ⟨q, ws, set_get z a, e q _ b, c, dpa_ex s f⟩
  · rcases get_set h1 with ⟨z1, _⟩ | ⟨z1, h1⟩
    · rcases get_set h2 with ⟨z2, _⟩ | ⟨z2, h2⟩
      · rw [z1, z2]
      · rcases get_set h3 with ⟨_, w⟩ | ⟨w, _⟩
        · rcases get_set h4 with ⟨w2, _⟩ | ⟨_, h4⟩
          · exact absurd w2 z2
          · have e2 : q = p := V.ref.inj (Option.some.inj w)
            rw [e2] at h4
            exact absurd ⟨k, fs, h2, h4⟩ nown
        · exact absurd z1 w
    · rcases get_set h2 with ⟨z2, _⟩ | ⟨z2, h2⟩
      · rcases get_set h4 with ⟨_, w⟩ | ⟨w, _⟩
        · rcases get_set h3 with ⟨w2, _⟩ | ⟨_, h3⟩
          · exact absurd w2 z1
          · have e2 : q = p := V.ref.inj (Option.some.inj w)
            rw [e2] at h3
            exact absurd ⟨j, es, h1, h3⟩ nown
        · exact absurd z2 w
      · rcases get_set h3 with ⟨w, _⟩ | ⟨_, h3⟩
        · exact absurd w z1
        · rcases get_set h4 with ⟨w, _⟩ | ⟨_, h4⟩
          · exact absurd w z2
          · exact F.sep j k q es fs h1 h2 h3 h4
/-- an own list is written -/
theorem Fit.write (F : Fit K H0 H σ Γ G) {j : Nat} {p : Addr} {ds es : List PyData} {ws : List V} (hj : Γ[j]? = some (.own ds)) (hp : σ[j]? = some (some (.ref p))) (ha : DpAll K (Hid H (Owns σ Γ)) ws es) :
    Fit K H0 (upd H p (.lst ws)) σ (Γ.set j (.own es)) G := by
  have op : Owns σ Γ p := ⟨j, ds, hj, hp⟩
  have hjl : j < Γ.length := (List.getElem?_eq_some_iff.mp hj).1
  have eo : Owns σ (Γ.set j (.own es)) = Owns σ Γ := by
    funext q
    refine propext ⟨fun ⟨k, fs, a, b⟩ => ?_, fun ⟨k, fs, a, b⟩ => ?_⟩
    · rcases get_set a with ⟨z, _⟩ | ⟨z, a⟩
      · subst z
        exact ⟨k, ds, hj, b⟩
      · exact ⟨k, fs, a, b⟩
    · by_cases z : k = j
      · subst z
        exact ⟨k, es, List.getElem?_set_self hjl, b⟩
      · exact ⟨k, fs, set_get z a, b⟩
  have eh : Hid (upd H p (.lst ws)) (Owns σ (Γ.set j (.own es))) = Hid H (Owns σ Γ) := by rw [eo, hid_upd op]
  refine ⟨by rw [List.length_set, F.len], F.ex.mut (F.new p op), fun k d h => ?_, fun k fs h => ?_, fun k l q fs gs h1 h2 h3 h4 => ?_, fun g h => by rw [eh]; exact F.gh g h⟩
  · rw [eh]
    rcases get_set h with ⟨z, w⟩ | ⟨z, h⟩
    · cases w
    · exact F.dt k d h
  · rw [eh]
    rcases get_set h with ⟨z, w⟩ | ⟨z, h⟩
    · cases w
      subst z
      exact ⟨p, ws, hp, upd_same, F.new p op, ha⟩
    · obtain ⟨q, vs, a, b, c, d⟩ := F.own k fs h
      have nq : q ≠ p := fun e => by
        subst e
        exact z (F.sep k j q fs ds h hj a hp)
      exact ⟨q, vs, a, by rw [upd_ne nq]; exact b, c, d⟩
  · have g1 : ∃ es', Γ[k]? = some (.own es') := by
      rcases get_set h1 with ⟨z, _⟩ | ⟨_, h1⟩
      · subst z
        exact ⟨ds, hj⟩
      · exact ⟨fs, h1⟩
    have g2 : ∃ es', Γ[l]? = some (.own es') := by
      rcases get_set h2 with ⟨z, _⟩ | ⟨_, h2⟩
      · subst z
        exact ⟨ds, hj⟩
      · exact ⟨gs, h2⟩
    obtain ⟨e1, g1⟩ := g1
    obtain ⟨e2, g2⟩ := g2
    exact F.sep k l q e1 e2 g1 g2 h3 h4
theorem Fit.ghost (F : Fit K H0 H σ Γ G) {g : V × PyData} (h : Dp K (Hid H (Owns σ Γ)) g.1 g.2) : Fit K H0 H σ Γ (g :: G) :=
  ⟨F.len, F.ex, F.dt, F.own, F.sep, fun x hx => by
    rcases List.mem_cons.mp hx with e | e
    · rw [e]
      exact h
    · exact F.gh x e⟩
theorem Fit.unghost {g : V × PyData} (F : Fit K H0 H σ Γ (g :: G)) : Fit K H0 H σ Γ G := ⟨F.len, F.ex, F.dt, F.own, F.sep, fun x hx => F.gh x (List.mem_cons_of_mem _ hx)⟩
def noOwn : List Sl → Bool
  | [] => true
  | .own _ :: _ => false
  | _ :: r => noOwn r
theorem noOwn_is : ∀ {Γ : List Sl}, noOwn Γ = true → ∀ (i : Nat) ds, Γ[i]? ≠ some (.own ds)
  | [], _, i, ds, e => by simp at e
  | .own _ :: _, h, _, _, _ => by cases h
  | .no :: r, h, 0, ds, e => by simp at e
  | .dt _ :: r, h, 0, ds, e => by simp at e
  | .no :: r, h, i + 1, ds, e => noOwn_is (Γ := r) h i ds (by simpa using e)
  | .dt _ :: r, h, i + 1, ds, e => noOwn_is (Γ := r) h i ds (by simpa using e)
theorem hid_noOwn (h : noOwn Γ = true) : Hid H (Owns σ Γ) = H := hid_no fun _ ⟨i, ds, a, _⟩ => noOwn_is h i ds a
/-- an entry of a def -/
theorem fit_start {vs : List V} {ds : List PyData} {N : List Str} (h : DpAll K H vs ds) : Fit K H H (L2.start N vs) (ds.map .dt ++ List.replicate (N.length - ds.length) .no) [] := by
  have hl := dpa_len h
  have no : ∀ (i : Nat) es, (ds.map Sl.dt ++ List.replicate (N.length - ds.length) Sl.no)[i]? ≠ some (.own es) := fun i es e => by
    rcases List.mem_append.mp (List.mem_of_getElem? e) with m | m
    · obtain ⟨_, _, z⟩ := List.mem_map.mp m
      cases z
    · cases List.eq_of_mem_replicate m
  have eh : Hid H (Owns (L2.start N vs) (ds.map Sl.dt ++ List.replicate (N.length - ds.length) Sl.no)) = H := hid_no fun _ ⟨i, es, a, _⟩ => no i es a
  refine ⟨by simp [L2.start, hl], Ex.refl H, fun i d e => ?_, fun i es e => absurd e (no i es), fun i j p es fs e => absurd e (no i es), fun _ h => nomatch h⟩
  rw [eh]
  by_cases hi : i < ds.length
  · rw [List.getElem?_append_left (by simpa using hi), List.getElem?_map] at e
    cases q : ds[i]? with
    | none =>
      rw [q] at e
      cases e
    | some x =>
      rw [q] at e
      cases e
      obtain ⟨v, h1, h2⟩ := dpa_get h q
      refine ⟨v, ?_, h2⟩
      unfold L2.start
      rw [List.getElem?_append_left (by simpa [hl] using hi), List.getElem?_map, h1]
      rfl
  · rw [List.getElem?_append_right (by simpa using hi)] at e
    have m := List.mem_of_getElem? e
    cases List.eq_of_mem_replicate m
end
end BW

namespace BW
open PySem PySem.Spec PyProof.Rows L2 Evl

/-! ### the operators by their own names -/
def xAdd : R2 := rI0 fun i j => .int (i + j)
def xSub : R2 := rI0 fun i j => .int (i - j)
def xMul : R2 := rI CMulW fun i j => .int (i * j)
def xDiv : R2 := rI CDivW fun i j => .int (i / j)
def xMod : R2 := rI (fun _ j => 0 < j) fun i j => .int (i % j)
def xPow : R2 := rI CPow fun i j => .int (i ^ j.toNat)
def xLt : R2 := rI0 fun i j => .bl (decide (i < j))
def xLe : R2 := rI0 fun i j => .bl (decide (i ≤ j))
def xGt : R2 := rI0 fun i j => .bl (decide (j < i))
def xGe : R2 := rI0 fun i j => .bl (decide (j ≤ i))
def xEq (K : PySem.W.Frag) : R2 := rEqD K
def xNe (K : PySem.W.Frag) : R2 := rNeD K
def xIn (K : PySem.W.Frag) : R2 := rIn K false
def xNin (K : PySem.W.Frag) : R2 := rIn K true
def xIx (K : PySem.W.Frag) : R2 := rIx K
def xNeg : V → Hp → VK → Prop := rU fun i => .int (-i)
def xAbs : List V → Hp → VK → Prop := fun xs H Q => ∃ i, xs = [.int i] ∧ Q (.int (if i < 0 then -i else i)) H
def xMin : List V → Hp → VK → Prop := fun xs H Q => ∃ i j, xs = [.int i, .int j] ∧ Q (.int (if j < i then j else i)) H
section
variable {X : Cx}
theorem ox_add : OpR X (binaryOp .Add) xAdd := op_add
theorem ox_sub : OpR X (binaryOp .Sub) xSub := op_sub
theorem ox_mul : OpR X (binaryOp .Mult) xMul := op_mulW
theorem ox_div : OpR X (binaryOp .FloorDiv) xDiv := op_fdivW
theorem ox_mod : OpR X (binaryOp .Mod) xMod := op_mod
theorem ox_pow : OpR X (binaryOp .Pow) xPow := op_pow
theorem ox_lt : OpR X (compareOp .Lt) xLt := op_lt
theorem ox_le : OpR X (compareOp .LtE) xLe := op_le
theorem ox_gt : OpR X (compareOp .Gt) xGt := op_gt
theorem ox_ge : OpR X (compareOp .GtE) xGe := op_ge
theorem ox_eq (hu : X.A.units + 64 < cLine) : OpR X (compareOp .Eq) (xEq X.K) := op_eqD hu
theorem ox_ne (hu : X.A.units + 64 < cLine) : OpR X (compareOp .NotEq) (xNe X.K) := op_neD hu
theorem ox_in : OpR X (compareOp .In) (xIn X.K) := op_in_seq
theorem ox_nin : OpR X (compareOp .NotIn) (xNin X.K) := op_notIn_seq
theorem ox_ix : IxR X (xIx X.K) := ix_seq
theorem ux_neg : UnR X (unaryOp .USub) xNeg := un_neg
theorem cx_abs : CallR X (.builtin "abs") xAbs := call_abs
theorem cx_min (hc : X.calm = true) : CallR X (.builtin "min") xMin := call_min2 hc
theorem cx_len : CallR X (.builtin "len") (rLenS X.K) := call_len_seq
end
/-- a def's promise over plain data -/
def spD (K : PySem.W.Frag) (R : List PyData → PyData → Prop) : Sp := fun vs H Q _ => ∃ ds d, DpAll K H vs ds ∧ R ds d ∧ ∀ v H', Ex H H' → Dp K H' v d → Q v H'

/-! ### judgements -/
structure Ed (K : PySem.W.Frag) (te : TE) (Γ : List Sl) (d : PyData) : Prop where
  run : ∀ {H0 H σ G}, Fit K H0 H σ Γ G → ∀ Q : VK, (∀ v H', Ex H H' → Dp K H' v d → Q v H') → te σ H Q
structure Eh (K : PySem.W.Frag) (te : TE) (Γ : List Sl) (d : PyData) : Prop where
  run : ∀ {H0 H σ G}, Fit K H0 H σ Γ G → ∀ Q : VK, (∀ v H', Ex H H' → Dp K (Hid H' (Owns σ Γ)) v d → Q v H') → te σ H Q
structure EdN (K : PySem.W.Frag) (te : TE) (Γ : List Sl) (ds : List PyData) : Prop where
  run : ∀ {H0 H σ G}, Fit K H0 H σ Γ G → ∀ Q : VK, (∀ p vs H', H p = none → Ex H H' → H' p = some (.lst vs) → DpAll K H' vs ds → Q (.ref p) H') → te σ H Q
structure EdT (K : PySem.W.Frag) (tt : TT) (Γ : List Sl) (b : Bool) : Prop where
  run : ∀ {H0 H σ G}, Fit K H0 H σ Γ G → ∀ Q : Bool → Hp → Prop, (∀ H', Ex H H' → Q b H') → tt σ H Q
structure EdA (K : PySem.W.Frag) (ta : TA) (Γ : List Sl) (ds : List PyData) : Prop where
  run : ∀ {H0 H σ G}, Fit K H0 H σ Γ G → ∀ Q : List V → Hp → Prop, (∀ vs H', Ex H H' → DpAll K H' vs ds → Q vs H') → ta σ H Q
structure EhA (K : PySem.W.Frag) (ta : TA) (Γ : List Sl) (ds : List PyData) : Prop where
  run : ∀ {H0 H σ G}, Fit K H0 H σ Γ G → ∀ Q : List V → Hp → Prop, (∀ vs H', Ex H H' → DpAll K (Hid H' (Owns σ Γ)) vs ds → Q vs H') → ta σ H Q
structure EdO (K : PySem.W.Frag) (to : TO) (Γ : List Sl) (o : Option Int) : Prop where
  run : ∀ {H0 H σ G}, Fit K H0 H σ Γ G → ∀ Q : Option Int → Hp → Prop, (∀ H', Ex H H' → Q o H') → to σ H Q
structure RD (K : PySem.W.Frag) (r : R2) (x y z : PyData) : Prop where
  run : ∀ {H v w}, Dp K H v x → Dp K H w y → ∀ Q : VK, (∀ u H', Ex H H' → Dp K H' u z → Q u H') → r v w H Q

section
variable {K : PySem.W.Frag} {Γ : List Sl} {ta tb te tc : TE} {t u : TT} {x y z d d' : PyData} {r r' : R2} {ds es : List PyData} {i : Nat} {a b c : Bool} {ar : TA}
theorem Ed.is (h : Ed K te Γ d) (e : d = d') : Ed K te Γ d' := e ▸ h
theorem EdT.is (h : EdT K t Γ a) (e : a = b) : EdT K t Γ b := e ▸ h
theorem Eh.is (h : Eh K te Γ d) (e : d = d') : Eh K te Γ d' := e ▸ h
theorem ed_var (h : Γ[i]? = some (.dt d)) : Ed K (tVar i) Γ d := ⟨fun F Q q => by
  obtain ⟨v, e, hv⟩ := F.rd h
  exact ⟨v, e, q v _ (Ex.refl _) hv⟩⟩
theorem ed_varO (h : Γ[i]? = some (.own ds)) : Ed K (tVar i) Γ (.list ds) := ⟨fun F Q q => by
  obtain ⟨v, e, hv⟩ := F.rdo h
  exact ⟨v, e, q v _ (Ex.refl _) hv⟩⟩
theorem eh_var (h : Γ[i]? = some (.dt d)) : Eh K (tVar i) Γ d := ⟨fun F Q q => by
  obtain ⟨v, e, hv⟩ := F.dt i d h
  exact ⟨v, e, q v _ (Ex.refl _) hv⟩⟩
theorem ed_c {v : V} (h : ∀ H, Dp K H v d) : Ed K (tC v) Γ d := ⟨fun F Q q => q v _ (Ex.refl _) (h _)⟩
theorem ed_int {n : Int} : Ed K (tC (.int n)) Γ (.int n) := ed_c fun _ => .int n
theorem ed_str {n : Str} : Ed K (tC (.str n)) Γ (.str n) := ed_c fun _ => .str n
theorem ed_bl : Ed K (tC (.bl b)) Γ (.bool b) := ed_c fun _ => .bl b
theorem Eh.ed (h : Eh K te Γ d) : Ed K te Γ d := ⟨fun F Q q => h.run F Q fun v H' e hv => q v H' e (dp_ex hid_self hv)⟩
theorem Ed.eh (h : Ed K te Γ d) (p : Pl d) : Eh K te Γ d := ⟨fun F Q q => h.run F Q fun v H' e hv => q v H' e (pl_hid (F.mono e).lists p hv)⟩
theorem Ed.en (h : Ed K te Γ d) (n : noOwn Γ = true) : Eh K te Γ d := ⟨fun F Q q => h.run F Q fun v H' e hv => q v H' e (by rw [hid_noOwn n]; exact hv)⟩
theorem EdN.ed (h : EdN K te Γ ds) : Ed K te Γ (.list ds) := ⟨fun F Q q => h.run F Q fun p vs H' hp e hv ha => q _ H' e (.lst (.inl (.inl hv)) ha)⟩
theorem ed_op (ha : Ed K ta Γ x) (hb : Ed K tb Γ y) (hr : RD K r x y z) : Ed K (tOp r ta tb) Γ z := ⟨fun F Q q =>
  ha.run F _ fun v H1 e1 h1 => hb.run (F.mono e1) _ fun w H2 e2 h2 => hr.run (dp_ex e2 h1) h2 Q fun u H3 e3 h3 => q u H3 ((e1.trans e2).trans e3) h3⟩
theorem ed_neg {n : Int} (ha : Ed K ta Γ (.int n)) : Ed K (tUn xNeg ta) Γ (.int (-n)) := ⟨fun F Q q =>
  ha.run F _ fun v H1 e1 h1 => ⟨n, dp_int h1, q _ H1 e1 (.int _)⟩⟩
theorem ed_andV (h1 : Ed K ta Γ (.bool a)) (h2 : a = true → Ed K tb Γ (.bool b)) : Ed K (tAndV ta tb) Γ (.bool (a && b)) := ⟨fun F Q q => h1.run F _ fun v H1 e1 hv => ⟨a, dp_bool hv, by
  cases a with
  | true =>
    show tb _ H1 Q
    exact (h2 rfl).run (F.mono e1) Q fun u H2 e2 hu => q u H2 (e1.trans e2) hu
  | false =>
    show Q (.bl false) H1
    exact q _ H1 e1 (.bl _)⟩⟩
theorem ed_orV (h1 : Ed K ta Γ (.bool a)) (h2 : a = false → Ed K tb Γ (.bool b)) : Ed K (tOrV ta tb) Γ (.bool (a || b)) := ⟨fun F Q q => h1.run F _ fun v H1 e1 hv => ⟨a, dp_bool hv, by
  cases a with
  | true =>
    show Q (.bl true) H1
    exact q _ H1 e1 (.bl _)
  | false =>
    show tb _ H1 Q
    exact (h2 rfl).run (F.mono e1) Q fun u H2 e2 hu => q u H2 (e1.trans e2) hu⟩⟩
theorem ed_notV (h1 : Ed K ta Γ (.bool a)) : Ed K (tNotV ta) Γ (.bool (!a)) := ⟨fun F Q q => h1.run F _ fun v H1 e1 hv => ⟨a, dp_bool hv, q _ H1 e1 (.bl _)⟩⟩
theorem ed_if (h : EdT K t Γ b) (h1 : b = true → Ed K ta Γ d) (h2 : b = false → Ed K tb Γ d) : Ed K (tIf t ta tb) Γ d := ⟨fun F Q q => h.run F _ fun H1 e1 => by
  cases b with
  | true =>
    show ta _ H1 Q
    exact (h1 rfl).run (F.mono e1) Q fun u H2 e2 hu => q u H2 (e1.trans e2) hu
  | false =>
    show tb _ H1 Q
    exact (h2 rfl).run (F.mono e1) Q fun u H2 e2 hu => q u H2 (e1.trans e2) hu⟩
theorem eh_if (h : EdT K t Γ b) (h1 : b = true → Eh K ta Γ d) (h2 : b = false → Eh K tb Γ d) : Eh K (tIf t ta tb) Γ d := ⟨fun F Q q => h.run F _ fun H1 e1 => by
  cases b with
  | true =>
    show ta _ H1 Q
    exact (h1 rfl).run (F.mono e1) Q fun u H2 e2 hu => q u H2 (e1.trans e2) hu
  | false =>
    show tb _ H1 Q
    exact (h2 rfl).run (F.mono e1) Q fun u H2 e2 hu => q u H2 (e1.trans e2) hu⟩
/-- x op y op' w, b asked once -/
theorem ed_chain {w : PyData} (ha : Ed K ta Γ x) (hb : Ed K tb Γ y) (hr : RD K r x y (.bool a)) (hc : a = true → Ed K tc Γ w) (hr' : a = true → RD K r' y w (.bool b)) : Ed K (tChain r r' ta tb tc) Γ (.bool (a && b)) := ⟨fun F Q q =>
  ha.run F _ fun v H1 e1 h1 => hb.run (F.mono e1) _ fun w H2 e2 h2 => hr.run (dp_ex e2 h1) h2 _ fun u H3 e3 h3 => ⟨a, dp_bool h3, by
    cases a with
    | true =>
      refine iteT ?_
      exact (hc rfl).run (F.mono ((e1.trans e2).trans e3)) _ fun v4 H4 e4 h4 => (hr' rfl).run (dp_ex (e3.trans e4) h2) h4 Q fun u5 H5 e5 h5 => q u5 H5 ((((e1.trans e2).trans e3).trans e4).trans e5) h5
    | false =>
      refine iteF ?_
      exact q _ H3 ((e1.trans e2).trans e3) (.bl _)⟩⟩
theorem et_test (h : Ed K te Γ (.bool b)) : EdT K (tTest te) Γ b := ⟨fun F Q q => h.run F _ fun v H1 e hv => ⟨b, dp_bool hv, q H1 e⟩⟩
theorem et_B (h : Ed K te Γ (.bool b)) : EdT K (tB te) Γ b := ⟨fun F Q q => h.run F _ fun v H1 e hv => ⟨b, dp_bool hv, q H1 e⟩⟩
theorem et_and (h1 : EdT K t Γ a) (h2 : a = true → EdT K u Γ b) : EdT K (tAnd t u) Γ (a && b) := ⟨fun F Q q => h1.run F _ fun H1 e1 => by
  cases a with
  | true =>
    show u _ H1 Q
    exact (h2 rfl).run (F.mono e1) Q fun H2 e2 => q H2 (e1.trans e2)
  | false =>
    show Q false H1
    exact q H1 e1⟩
theorem et_or (h1 : EdT K t Γ a) (h2 : a = false → EdT K u Γ b) : EdT K (tOr t u) Γ (a || b) := ⟨fun F Q q => h1.run F _ fun H1 e1 => by
  cases a with
  | true =>
    show Q true H1
    exact q H1 e1
  | false =>
    show u _ H1 Q
    exact (h2 rfl).run (F.mono e1) Q fun H2 e2 => q H2 (e1.trans e2)⟩
theorem et_not (h1 : EdT K t Γ a) : EdT K (tNot t) Γ (!a) := ⟨fun F Q q => h1.run F _ fun H1 e1 => q H1 e1⟩
theorem ea_nil : EdA K tNil Γ [] := ⟨fun F Q q => q [] _ (Ex.refl _) .nil⟩
theorem ea_cons (h : Ed K ta Γ x) (hs : EdA K ar Γ ds) : EdA K (tCons ta ar) Γ (x :: ds) := ⟨fun F Q q => h.run F _ fun v H1 e1 h1 => hs.run (F.mono e1) _ fun vs H2 e2 h2 => q _ H2 (e1.trans e2) (.cons (dp_ex e2 h1) h2)⟩
theorem eha_nil : EhA K tNil Γ [] := ⟨fun F Q q => q [] _ (Ex.refl _) .nil⟩
theorem eha_cons (h : Eh K ta Γ x) (hs : EhA K ar Γ ds) : EhA K (tCons ta ar) Γ (x :: ds) := ⟨fun F Q q => h.run F _ fun v H1 e1 h1 => hs.run (F.mono e1) _ fun vs H2 e2 h2 => q _ H2 (e1.trans e2) (.cons (dp_ex (hid_ex e2) h1) h2)⟩
theorem ed_tup (h : EdA K ar Γ ds) (hl : ds.length ≤ 100000 := by decide) : Ed K (tTup ar) Γ (.tuple ds) := ⟨fun F Q q => h.run F _ fun vs H1 e1 h1 =>
  ⟨sz_of (by rw [dpa_len h1]; exact hl), fun p hp => q _ _ (e1.trans (Ex.new hp)) (.tup (.inl (.inl upd_same)) (dpa_ex (Ex.new hp) h1))⟩⟩
theorem eh_tup (h : EhA K ar Γ ds) (hl : ds.length ≤ 100000 := by decide) : Eh K (tTup ar) Γ (.tuple ds) := ⟨fun F Q q => h.run F _ fun vs H1 e1 h1 =>
  ⟨sz_of (by rw [dpa_len h1]; exact hl), fun p hp => q _ _ (e1.trans (Ex.new hp)) (.tup (.inl (.inl (hid_of (fun o => by
    obtain ⟨xs, z⟩ := (F.mono e1).lists p o
    rw [hp] at z
    cases z) upd_same))) (dpa_ex (hid_ex (Ex.new hp)) h1))⟩⟩
theorem edn_lst (h : EdA K ar Γ ds) (hl : ds.length ≤ 100000 := by decide) : EdN K (tLst ar) Γ ds := ⟨fun F Q q => h.run F _ fun vs H1 e1 h1 =>
  ⟨sz_of (by rw [dpa_len h1]; exact hl), fun p hp => q p vs _ (fresh_back e1 hp) (e1.trans (Ex.new hp)) upd_same (dpa_ex (Ex.new hp) h1)⟩⟩
theorem ed_lst (h : EdA K ar Γ ds) (hl : ds.length ≤ 100000 := by decide) : Ed K (tLst ar) Γ (.list ds) := (edn_lst h hl).ed
theorem ed_call {R : List PyData → PyData → Prop} {E : XK} (h : EdA K ar Γ ds) (hR : R ds d) : Ed K (tCall (spD K R) [] E ar) Γ d := ⟨fun F Q q => h.run F _ fun vs H1 e1 h1 => by
  show spD K R (vs ++ []) H1 Q E
  rw [List.append_nil]
  exact ⟨ds, d, h1, hR, fun v H2 e2 h2 => q v H2 (e1.trans e2) h2⟩⟩
theorem Ed.a1 (h : Ed K ta Γ x) : EdA K (tCons ta tNil) Γ [x] := ea_cons h ea_nil

/-! ### operators on data -/
theorem rd_I0 {f : Int → Int → Int} {m n : Int} : RD K (rI0 fun i j => .int (f i j)) (.int m) (.int n) (.int (f m n)) := ⟨fun h1 h2 Q q => ⟨m, n, dp_int h1, dp_int h2, q _ _ (Ex.refl _) (.int _)⟩⟩
theorem rd_B0 {f : Int → Int → Bool} {m n : Int} : RD K (rI0 fun i j => .bl (f i j)) (.int m) (.int n) (.bool (f m n)) := ⟨fun h1 h2 Q q => ⟨m, n, dp_int h1, dp_int h2, q _ _ (Ex.refl _) (.bl _)⟩⟩
theorem rd_I {C : Int → Int → Prop} {f : Int → Int → Int} {m n : Int} (hc : C m n) : RD K (rI C fun i j => .int (f i j)) (.int m) (.int n) (.int (f m n)) := ⟨fun h1 h2 Q q => ⟨m, n, dp_int h1, dp_int h2, hc, q _ _ (Ex.refl _) (.int _)⟩⟩
section
variable {m n : Int}
theorem rd_add : RD K xAdd (.int m) (.int n) (.int (m + n)) := rd_I0
theorem rd_sub : RD K xSub (.int m) (.int n) (.int (m - n)) := rd_I0
theorem rd_mul (h : CMulW m n) : RD K xMul (.int m) (.int n) (.int (m * n)) := rd_I h
theorem rd_div (h : CDivW m n) : RD K xDiv (.int m) (.int n) (.int (m / n)) := rd_I h
theorem rd_mod (h : 0 < n) : RD K xMod (.int m) (.int n) (.int (m % n)) := rd_I (C := fun _ j => 0 < j) h
theorem rd_pow (h : CPow m n) : RD K xPow (.int m) (.int n) (.int (m ^ n.toNat)) := rd_I h
theorem rd_lt : RD K xLt (.int m) (.int n) (.bool (decide (m < n))) := rd_B0
theorem rd_le : RD K xLe (.int m) (.int n) (.bool (decide (m ≤ n))) := rd_B0
theorem rd_gt : RD K xGt (.int m) (.int n) (.bool (decide (n < m))) := rd_B0 (f := fun i j => decide (j < i))
theorem rd_ge : RD K xGe (.int m) (.int n) (.bool (decide (n ≤ m))) := rd_B0 (f := fun i j => decide (j ≤ i))
end
theorem rd_eq (h1 : SeqAt.shaped x = true) (h2 : SeqAt.shaped y = true) : RD K (xEq K) x y (.bool (PyData.eqv x y)) := ⟨fun a b Q q => ⟨x, y, a, b, h1, h2, q _ _ (Ex.refl _) (.bl _)⟩⟩
theorem rd_ne (h1 : SeqAt.shaped x = true) (h2 : SeqAt.shaped y = true) : RD K (xNe K) x y (.bool (!PyData.eqv x y)) := ⟨fun a b Q q => ⟨x, y, a, b, h1, h2, q _ _ (Ex.refl _) (.bl _)⟩⟩
def flatD : PyData → Bool
  | .none => true
  | .bool _ => true
  | .int _ => true
  | .str _ => true
  | _ => false
def inD (x : PyData) (ds : List PyData) : Bool := ds.any fun y => PyData.eqv y x
theorem flat_V {H : Hp} {v : V} (h : Dp K H v x) (f : flatD x = true) : flatV v = true := by
  cases h with
  | lst _ _ => cases f
  | tup _ _ => cases f
  | _ => rfl
theorem eqV_eqv {H : Hp} {v w : V} (h : Dp K H v x) (g : Dp K H w y) (f : flatD x = true) (f' : flatD y = true) : eqV v w = PyData.eqv x y := by
  cases h with
  | lst _ _ => cases f
  | tup _ _ => cases f
  | _ =>
    cases g with
    | lst _ _ => cases f'
    | tup _ _ => cases f'
    | _ => first | rfl | (unfold PyData.eqv; rfl)
theorem flats_V {H : Hp} : ∀ {vs : List V} {ds : List PyData}, DpAll K H vs ds → ds.all flatD = true → vs.all flatV = true
  | _, _, .nil, _ => rfl
  | _, _, .cons h t, f => by
    rw [List.all_cons, Bool.and_eq_true] at f
    rw [List.all_cons, flat_V h f.1, flats_V t f.2]
    rfl
theorem inV_inD {H : Hp} {v : V} (h : Dp K H v x) (f : flatD x = true) : ∀ {vs : List V} {ds : List PyData}, DpAll K H vs ds → ds.all flatD = true → inV v vs = inD x ds
  | _, _, .nil, _ => rfl
  | _, _, .cons (vs := vs) (ds := ds) g t, f' => by
    rw [List.all_cons, Bool.and_eq_true] at f'
    have ih := inV_inD h f t f'.2
    unfold inV inD at ih ⊢
    rw [List.any_cons, List.any_cons, ih, eqV_eqv g h f'.1 f]
theorem rd_inT (f : flatD x = true) (fs : ds.all flatD = true) : RD K (xIn K) x (.tuple ds) (.bool (inD x ds)) := ⟨fun h1 h2 Q q => by
  obtain ⟨p, xs, rfl, hs, ha⟩ := dp_tup h2
  refine ⟨p, xs, rfl, .inr hs, flat_V h1 f, flats_V ha fs, ?_⟩
  show Q (.bl (inV _ xs)) _
  rw [inV_inD h1 f ha fs]
  exact q _ _ (Ex.refl _) (.bl _)⟩
theorem rd_inL (f : flatD x = true) (fs : ds.all flatD = true) : RD K (xIn K) x (.list ds) (.bool (inD x ds)) := ⟨fun h1 h2 Q q => by
  obtain ⟨p, xs, rfl, hs, ha⟩ := dp_lst h2
  refine ⟨p, xs, rfl, .inl hs, flat_V h1 f, flats_V ha fs, ?_⟩
  show Q (.bl (inV _ xs)) _
  rw [inV_inD h1 f ha fs]
  exact q _ _ (Ex.refl _) (.bl _)⟩
theorem rd_ninT (f : flatD x = true) (fs : ds.all flatD = true) : RD K (xNin K) x (.tuple ds) (.bool (!inD x ds)) := ⟨fun h1 h2 Q q => by
  obtain ⟨p, xs, rfl, hs, ha⟩ := dp_tup h2
  refine ⟨p, xs, rfl, .inr hs, flat_V h1 f, flats_V ha fs, ?_⟩
  show Q (.bl (!inV _ xs)) _
  rw [inV_inD h1 f ha fs]
  exact q _ _ (Ex.refl _) (.bl _)⟩
theorem rd_ninL (f : flatD x = true) (fs : ds.all flatD = true) : RD K (xNin K) x (.list ds) (.bool (!inD x ds)) := ⟨fun h1 h2 Q q => by
  obtain ⟨p, xs, rfl, hs, ha⟩ := dp_lst h2
  refine ⟨p, xs, rfl, .inl hs, flat_V h1 f, flats_V ha fs, ?_⟩
  show Q (.bl (!inV _ xs)) _
  rw [inV_inD h1 f ha fs]
  exact q _ _ (Ex.refl _) (.bl _)⟩
theorem dpa_atI {H : Hp} {vs : List V} {n : Int} (h : DpAll K H vs ds) (e : atI ds n = some d) : ∃ v, atI vs n = some v ∧ Dp K H v d := by
  unfold atI at e ⊢
  rw [dpa_len h]
  cases q : ixN ds.length n with
  | none =>
    rw [q] at e
    cases e
  | some j =>
    rw [q] at e
    obtain ⟨v, a, b⟩ := dpa_get h (show ds[j]? = some d from e)
    exact ⟨v, a, b⟩
theorem rd_ixT {n : Int} (e : atI ds n = some d) : RD K (xIx K) (.tuple ds) (.int n) d := ⟨fun h1 h2 Q q => by
  obtain ⟨p, xs, rfl, hs, ha⟩ := dp_tup h1
  obtain ⟨v, a, b⟩ := dpa_atI ha e
  exact .inr (.inl ⟨p, xs, n, v, rfl, dp_int h2, hs, a, q _ _ (Ex.refl _) b⟩)⟩
theorem rd_ixL {n : Int} (e : atI ds n = some d) : RD K (xIx K) (.list ds) (.int n) d := ⟨fun h1 h2 Q q => by
  obtain ⟨p, xs, rfl, hs, ha⟩ := dp_lst h1
  obtain ⟨v, a, b⟩ := dpa_atI ha e
  exact .inl ⟨p, xs, n, v, rfl, dp_int h2, hs, a, q _ _ (Ex.refl _) b⟩⟩

/-! ### built-in calls -/
theorem ed_abs {n : Int} (h : Ed K ta Γ (.int n)) : Ed K (tCB xAbs (tCons ta tNil)) Γ (.int (if n < 0 then -n else n)) := ⟨fun F Q q => h.run F _ fun v H1 e1 h1 => ⟨n, by rw [dp_int h1], q _ H1 e1 (.int _)⟩⟩
theorem ed_min {m n : Int} (h : Ed K ta Γ (.int m)) (h' : Ed K tb Γ (.int n)) : Ed K (tCB xMin (tCons ta (tCons tb tNil))) Γ (.int (if n < m then n else m)) := ⟨fun F Q q => h.run F _ fun v H1 e1 h1 => h'.run (F.mono e1) _ fun w H2 e2 h2 =>
  ⟨m, n, by rw [dp_int h1, dp_int h2], q _ H2 (e1.trans e2) (.int _)⟩⟩
theorem ed_lenL (h : Ed K ta Γ (.list ds)) : Ed K (tCB (rLenS K) (tCons ta tNil)) Γ (.int ds.length) := ⟨fun F Q q => h.run F _ fun v H1 e1 h1 => by
  obtain ⟨p, xs, rfl, hs, ha⟩ := dp_lst h1
  refine ⟨p, xs, rfl, .inl hs, ?_⟩
  rw [dpa_len ha]
  exact q _ H1 e1 (.int _)⟩
theorem ed_lenT (h : Ed K ta Γ (.tuple ds)) : Ed K (tCB (rLenS K) (tCons ta tNil)) Γ (.int ds.length) := ⟨fun F Q q => h.run F _ fun v H1 e1 h1 => by
  obtain ⟨p, xs, rfl, hs, ha⟩ := dp_tup h1
  refine ⟨p, xs, rfl, .inr hs, ?_⟩
  rw [dpa_len ha]
  exact q _ H1 e1 (.int _)⟩
theorem ed_all {bs : List Bool} (h : Ed K ta Γ (.list (bs.map .bool))) : Ed K (tCB (rAll K) (tCons ta tNil)) Γ (.bool (bs.all id)) := ⟨fun F Q q => h.run F _ fun v H1 e1 h1 => by
  obtain ⟨p, xs, rfl, hs, ha⟩ := dp_lst h1
  rw [dpa_vbls ha] at hs
  exact ⟨p, bs, rfl, hs, q _ H1 e1 (.bl _)⟩⟩
theorem ed_sum {ns : List Int} (h : Ed K ta Γ (.list (ns.map .int))) : Ed K (tCB (rSum K) (tCons ta tNil)) Γ (.int ns.sum) := ⟨fun F Q q => h.run F _ fun v H1 e1 h1 => by
  obtain ⟨p, xs, rfl, hs, ha⟩ := dp_lst h1
  rw [dpa_vints ha] at hs
  exact ⟨p, ns, rfl, hs, q _ H1 e1 (.int _)⟩⟩
def tyD : PyData → Option String
  | .none => some "NoneType"
  | .bool _ => some "bool"
  | .int _ => some "int"
  | .str _ => some "str"
  | .list _ => some "list"
  | .tuple _ => some "tuple"
  | .dict _ => none
theorem dp_ty {H : Hp} {v : V} {n : String} (h : Dp K H v d) (e : tyD d = some n) : TyX K H v (.type n) := by
  cases h with
  | non =>
    cases e
    exact .base .non
  | bl b =>
    cases e
    exact .base (.bl b)
  | int b =>
    cases e
    exact .base (.int b)
  | str b =>
    cases e
    exact .base (.str b)
  | lst hs _ =>
    cases e
    rcases hs with (hs | ⟨o, hs⟩) | ⟨o, its, m, h1, h2, _⟩
    · exact .base (.lst hs)
    · exact .base (.frz hs)
    · exact .kList h1 h2
  | tup hs _ =>
    cases e
    rcases hs with (hs | ⟨o, hs⟩) | ⟨o, its, m, h1, h2, _⟩
    · exact .base (.tup hs)
    · exact .fTuple hs
    · exact .kTuple h1 h2
theorem ed_isi {n m : String} (h : Ed K ta Γ d) (e : tyD d = some m) (hk : kitB m n = some b) : Ed K (tCB (rIsi K) (tCons ta (tCons (tC (.ty n)) tNil))) Γ (.bool b) := ⟨fun F Q q => h.run F _ fun v H1 e1 h1 =>
  ⟨v, .ty n, .type m, .type n, b, rfl, .ty n, dp_ty h1 e, kit_ty hk, q _ H1 e1 (.bl _)⟩⟩

/-! ### slices -/
def cutD (xs : List PyData) (lo hi : Option Int) : List PyData := (xs.drop (HT.sIx xs.length 0 lo)).take (HT.sIx xs.length xs.length hi - HT.sIx xs.length 0 lo)
theorem dpa_cut {H : Hp} {vs : List V} (h : DpAll K H vs ds) (lo hi : Option Int) : DpAll K H (cutV vs lo hi) (cutD ds lo hi) := by
  unfold cutV cutD
  rw [dpa_len h]
  exact dpa_take _ (dpa_drop _ h)
theorem eo_none : EdO K tNoPart Γ none := ⟨fun F Q q => q _ (Ex.refl _)⟩
theorem eo_some {n : Int} (h : Ed K te Γ (.int n)) : EdO K (tPart te) Γ (some n) := ⟨fun F Q q => h.run F _ fun v H1 e1 h1 => ⟨n, dp_int h1, q H1 e1⟩⟩
theorem edn_slL {tl th : TO} {lo hi : Option Int} (h : Ed K te Γ (.list ds)) (h1 : EdO K tl Γ lo) (h2 : EdO K th Γ hi) : EdN K (tSl (rSlL K) te tl th) Γ (cutD ds lo hi) := ⟨fun F Q q =>
  h.run F _ fun v H1 e1 hv => h1.run (F.mono e1) _ fun H2 e2 => h2.run (F.mono (e1.trans e2)) _ fun H3 e3 => by
    obtain ⟨p, xs, rfl, hs, ha⟩ := dp_lst (dp_ex (e2.trans e3) hv)
    exact ⟨p, xs, rfl, hs, fun l hl => q l _ _ (fresh_back ((e1.trans e2).trans e3) hl) (((e1.trans e2).trans e3).trans (Ex.new hl)) upd_same (dpa_ex (Ex.new hl) (dpa_cut ha lo hi))⟩⟩
theorem ed_slT {tl th : TO} {lo hi : Option Int} (h : Ed K te Γ (.tuple ds)) (h1 : EdO K tl Γ lo) (h2 : EdO K th Γ hi) (nw : ¬ (HT.sIx ds.length 0 lo = 0 ∧ HT.sIx ds.length ds.length hi = ds.length)) : Ed K (tSl (rSlT K) te tl th) Γ (.tuple (cutD ds lo hi)) := ⟨fun F Q q =>
  h.run F _ fun v H1 e1 hv => h1.run (F.mono e1) _ fun H2 e2 => h2.run (F.mono (e1.trans e2)) _ fun H3 e3 => by
    obtain ⟨p, xs, rfl, hs, ha⟩ := dp_tup (dp_ex (e2.trans e3) hv)
    exact ⟨p, xs, rfl, hs, by rw [dpa_len ha]; exact nw, fun l hl => q _ _ (((e1.trans e2).trans e3).trans (Ex.new hl)) (.tup (.inl (.inl upd_same)) (dpa_ex (Ex.new hl) (dpa_cut ha lo hi)))⟩⟩
end
/-! ### by the shape of the data -/
section
variable {K : PySem.W.Frag} {Γ : List Sl} {ta : TE} {x y d : PyData} {m : Nat}
def lenD : PyData → Option Nat
  | .list ds => some ds.length
  | .tuple ds => some ds.length
  | _ => none
theorem ed_len (h : Ed K ta Γ d) (e : lenD d = some m) : Ed K (tCB (rLenS K) (tCons ta tNil)) Γ (.int (m : Int)) := by
  cases d with
  | list ds =>
    cases e
    exact ed_lenL h
  | tuple ds =>
    cases e
    exact ed_lenT h
  | _ => cases e
def ixD : PyData → PyData → Option PyData
  | .list ds, .int n => atI ds n
  | .tuple ds, .int n => atI ds n
  | _, _ => none
theorem rd_ix (e : ixD x y = some d) : RD K (xIx K) x y d := by
  cases x with
  | list ds =>
    cases y with
    | int n => exact rd_ixL e
    | _ => cases e
  | tuple ds =>
    cases y with
    | int n => exact rd_ixT e
    | _ => cases e
  | _ => cases e
theorem rd_eqS (h1 : SeqAt.shaped x = true) (h2 : SeqAt.shaped y = true) : RD K (xEq K) x y (.bool (PyData.eqv x y)) := rd_eq h1 h2
theorem rd_neS (h1 : SeqAt.shaped x = true) (h2 : SeqAt.shaped y = true) : RD K (xNe K) x y (.bool (!PyData.eqv x y)) := rd_ne h1 h2
abbrev tIsi (K : PySem.W.Frag) (ta : TE) (n : String) : TE := tCB (rIsi K) (tCons ta (tCons (tC (.ty n)) tNil))
theorem isi_ii {n : Int} (h : Ed K ta Γ (.int n)) : Ed K (tCB (rIsi K) (tCons ta (tCons (tC (.ty "int")) tNil))) Γ (.bool true) := ed_isi h rfl (by decide +kernel)
theorem isi_ib {n : Int} (h : Ed K ta Γ (.int n)) : Ed K (tCB (rIsi K) (tCons ta (tCons (tC (.ty "bool")) tNil))) Γ (.bool false) := ed_isi h rfl (by decide +kernel)
theorem isi_tt {ds : List PyData} (h : Ed K ta Γ (.tuple ds)) : Ed K (tCB (rIsi K) (tCons ta (tCons (tC (.ty "tuple")) tNil))) Γ (.bool true) := ed_isi h rfl (by decide +kernel)
theorem isi_ll {ds : List PyData} (h : Ed K ta Γ (.list ds)) : Ed K (tCB (rIsi K) (tCons ta (tCons (tC (.ty "list")) tNil))) Γ (.bool true) := ed_isi h rfl (by decide +kernel)
theorem isi_ss {z : Str} (h : Ed K ta Γ (.str z)) : Ed K (tCB (rIsi K) (tCons ta (tCons (tC (.ty "str")) tNil))) Γ (.bool true) := ed_isi h rfl (by decide +kernel)
theorem ed_andV' {tb : TE} {a b : Bool} (h1 : Ed K ta Γ (.bool a)) (h2 : Ed K tb Γ (.bool b)) : Ed K (tAndV ta tb) Γ (.bool (a && b)) := ed_andV h1 fun _ => h2
theorem ed_orV' {tb : TE} {a b : Bool} (h1 : Ed K ta Γ (.bool a)) (h2 : Ed K tb Γ (.bool b)) : Ed K (tOrV ta tb) Γ (.bool (a || b)) := ed_orV h1 fun _ => h2
theorem et_and' {t u : TT} {a b : Bool} (h1 : EdT K t Γ a) (h2 : EdT K u Γ b) : EdT K (tAnd t u) Γ (a && b) := et_and h1 fun _ => h2
theorem et_or' {t u : TT} {a b : Bool} (h1 : EdT K t Γ a) (h2 : EdT K u Γ b) : EdT K (tOr t u) Γ (a || b) := et_or h1 fun _ => h2
theorem ed_chain' {r r' : R2} {tb tc : TE} {a b : Bool} {w : PyData} (ha : Ed K ta Γ x) (hb : Ed K tb Γ y) (hr : RD K r x y (.bool a)) (hc : Ed K tc Γ w) (hr' : RD K r' y w (.bool b)) : Ed K (tChain r r' ta tb tc) Γ (.bool (a && b)) := ed_chain ha hb hr (fun _ => hc) fun _ => hr'
theorem ed_tail {e : PyData} {ds : List PyData} (h : Ed K ta Γ (.tuple (e :: ds))) : Ed K (tSl (rSlT K) ta (tPart (tC (.int 1))) tNoPart) Γ (.tuple ds) := by
  have h1 : HT.sIx (e :: ds).length 0 (some 1) = 1 := by
    rw [show (some (1 : Int)) = some ((1 : Nat) : Int) from rfl, HT.sIx_nat, List.length_cons]
    omega
  have h2 : cutD (e :: ds) (some 1) none = ds := by
    unfold cutD
    rw [h1, HT.sIx_none]
    show List.take (ds.length + 1 - 1) ds = ds
    exact List.take_of_length_le (by omega)
  have := ed_slT h (eo_some (ed_int (K := K) (Γ := Γ) (n := 1))) eo_none (by
    rintro ⟨z, _⟩
    rw [h1] at z
    cases z)
  rw [h2] at this
  exact this
theorem ed_lst1 {a : PyData} (h1 : Ed K ta Γ a) : Ed K (tLst (tCons ta tNil)) Γ (.list [a]) := ed_lst (ea_cons h1 ea_nil) (Nat.le_of_ble_eq_true rfl)
theorem ed_lst2 {tb : TE} {a b : PyData} (h1 : Ed K ta Γ a) (h2 : Ed K tb Γ b) : Ed K (tLst (tCons ta (tCons tb tNil))) Γ (.list [a, b]) := ed_lst (ea_cons h1 (ea_cons h2 ea_nil)) (Nat.le_of_ble_eq_true rfl)
theorem ed_lst3 {tb tc : TE} {a b c : PyData} (h1 : Ed K ta Γ a) (h2 : Ed K tb Γ b) (h3 : Ed K tc Γ c) : Ed K (tLst (tCons ta (tCons tb (tCons tc tNil)))) Γ (.list [a, b, c]) := ed_lst (ea_cons h1 (ea_cons h2 (ea_cons h3 ea_nil))) (Nat.le_of_ble_eq_true rfl)
theorem ed_tup1 {a : PyData} (h1 : Ed K ta Γ a) : Ed K (tTup (tCons ta tNil)) Γ (.tuple [a]) := ed_tup (ea_cons h1 ea_nil) (Nat.le_of_ble_eq_true rfl)
theorem ed_tup2 {tb : TE} {a b : PyData} (h1 : Ed K ta Γ a) (h2 : Ed K tb Γ b) : Ed K (tTup (tCons ta (tCons tb tNil))) Γ (.tuple [a, b]) := ed_tup (ea_cons h1 (ea_cons h2 ea_nil)) (Nat.le_of_ble_eq_true rfl)
theorem ed_tup3 {tb tc : TE} {a b c : PyData} (h1 : Ed K ta Γ a) (h2 : Ed K tb Γ b) (h3 : Ed K tc Γ c) : Ed K (tTup (tCons ta (tCons tb (tCons tc tNil)))) Γ (.tuple [a, b, c]) := ed_tup (ea_cons h1 (ea_cons h2 (ea_cons h3 ea_nil))) (Nat.le_of_ble_eq_true rfl)
theorem ed_tup4 {tb tc td : TE} {a b c d : PyData} (h1 : Ed K ta Γ a) (h2 : Ed K tb Γ b) (h3 : Ed K tc Γ c) (h4 : Ed K td Γ d) : Ed K (tTup (tCons ta (tCons tb (tCons tc (tCons td tNil))))) Γ (.tuple [a, b, c, d]) := ed_tup (ea_cons h1 (ea_cons h2 (ea_cons h3 (ea_cons h4 ea_nil)))) (Nat.le_of_ble_eq_true rfl)
end
/-- a size, hidden -/
structure Lt2 (n m : Nat) : Prop where
  h : m < 2 ^ n
end BW

namespace BW
open PySem PySem.Spec PyProof.Rows L2 Evl

/-! ### statements: from slots that fit, N holds -/
structure Go (K : PySem.W.Frag) (H0 : Hp) (G : List (V × PyData)) (N : L2.St → Hp → Prop) (Γ : List Sl) : Prop where
  run : ∀ {σ H}, Fit K H0 H σ Γ G → N σ H
/-- slots of such a kind are reached -/
def Nx (K : PySem.W.Frag) (H0 : Hp) (G : List (V × PyData)) (P : List Sl → Prop) : L2.St → Hp → Prop := fun σ H => ∃ Γ, P Γ ∧ Fit K H0 H σ Γ G
section
variable {K : PySem.W.Frag} {H0 : Hp} {G : List (V × PyData)} {Γ : List Sl} {D : Ends} {te ta tb tl : TE} {t : TT} {tu tw : TS} {d d1 d2 d3 : PyData} {ds es : List PyData} {i j l : Nat} {b : Bool} {P : List Sl → Prop} {N : L2.St → Hp → Prop}
theorem go_nx (h : P Γ) : Go K H0 G (Nx K H0 G P) Γ := ⟨fun F => ⟨Γ, h, F⟩⟩
theorem go_next (h : Go K H0 G D.nx Γ) : Go K H0 G (tNext D) Γ := h
theorem go_seq (h : Go K H0 G (tu { D with nx := tw D }) Γ) : Go K H0 G (tSeq tu tw D) Γ := h
theorem go_cut (P : List Sl → Prop) (h : Go K H0 G (tu { D with nx := Nx K H0 G P }) Γ) (k : ∀ Γ', P Γ' → Go K H0 G (tw D) Γ') : Go K H0 G (tCut tu tw D) Γ :=
  ⟨fun F => ⟨Nx K H0 G P, h.run F, fun σ' H' ⟨Γ', p, F'⟩ => (k Γ' p).run F'⟩⟩
theorem go_asg (h : Eh K te Γ d) (k : Go K H0 G D.nx (Γ.set i (.dt d))) : Go K H0 G (tAsg te (gName i) D) Γ := ⟨fun F => h.run F _ fun v H' e hv => k.run ((F.mono e).set hv)⟩
theorem go_asgN (h : EdN K te Γ ds) (p : PlA ds) (k : Go K H0 G D.nx (Γ.set i (.own ds))) : Go K H0 G (tAsg te (gName i) D) Γ := ⟨fun F => h.run F _ fun q vs H' hq e hv ha => k.run (F.setOwn hq e hv ha p)⟩
theorem go_par (h1 : Eh K ta Γ d1) (h2 : Eh K tb Γ d2) (k : Go K H0 G D.nx ((Γ.set i (.dt d1)).set j (.dt d2))) : Go K H0 G (tPar i j (tCons ta (tCons tb tNil)) D) Γ := ⟨fun F =>
  h1.run F _ fun v H1 e1 hv => h2.run (F.mono e1) _ fun w H2 e2 hw => ⟨v, w, rfl, by
    have F1 := ((F.mono e1).mono e2).set (i := i) (dp_ex (hid_ex e2) hv)
    refine k.run (F1.set (dp_ex (hid_sub ?_) hw))
    intro p ⟨m, fs, a, b⟩
    rcases get_set a with ⟨_, z⟩ | ⟨z, a⟩
    · cases z
    · rcases get_set b with ⟨y, _⟩ | ⟨_, b⟩
      · exact absurd y z
      · exact ⟨m, fs, a, b⟩⟩⟩
theorem go_parN (h1 : EdN K ta Γ ds) (p1 : PlA ds) (h2 : Ed K tb Γ d2) (p2 : Pl d2) (k : Go K H0 G D.nx ((Γ.set i (.own ds)).set j (.dt d2))) : Go K H0 G (tPar i j (tCons ta (tCons tb tNil)) D) Γ := ⟨fun F =>
  h1.run F _ fun q vs H1 hq e1 hv ha => h2.run (F.mono e1) _ fun w H2 e2 hw => ⟨.ref q, w, rfl, by
    have F1 := F.setOwn (i := i) hq (e1.trans e2) (e2 q _ hv) (dpa_ex e2 ha) p1
    exact k.run (F1.set (pl_hid F1.lists p2 hw))⟩⟩
theorem go_par3 {tc : TE} (h1 : Eh K ta Γ d1) (h2 : Eh K tb Γ d2) (h3 : Eh K tc Γ d3) (k : Go K H0 G D.nx (((Γ.set i (.dt d1)).set j (.dt d2)).set l (.dt d3))) : Go K H0 G (tPar3 i j l (tCons ta (tCons tb (tCons tc tNil))) D) Γ := ⟨fun F =>
  h1.run F _ fun v H1 e1 hv => h2.run (F.mono e1) _ fun w H2 e2 hw => h3.run (F.mono (e1.trans e2)) _ fun u H3 e3 hu => ⟨v, w, u, rfl, by
    have F1 := (F.mono ((e1.trans e2).trans e3)).set (i := i) (dp_ex (hid_ex (e2.trans e3)) hv)
    have sub : ∀ (σ : L2.St) (Γ : List Sl) (i : Nat) (v : V) (d : PyData) p, Owns (σ.set i (some v)) (Γ.set i (.dt d)) p → Owns σ Γ p := fun σ Γ i v d p ⟨m, fs, a, b⟩ => by
      rcases get_set a with ⟨_, z⟩ | ⟨z, a⟩
      · cases z
      · rcases get_set b with ⟨y, _⟩ | ⟨_, b⟩
        · exact absurd y z
        · exact ⟨m, fs, a, b⟩
    have F2 := F1.set (i := j) (dp_ex (hid_sub (sub _ _ _ _ _)) (dp_ex (hid_ex e3) hw))
    exact k.run (F2.set (dp_ex (hid_sub (sub _ _ _ _ _)) (dp_ex (hid_sub (sub _ _ _ _ _)) hu)))⟩⟩
/-- a, b = a pair -/
theorem go_pair (h : Eh K te Γ (.tuple [d1, d2])) (k : Go K H0 G D.nx ((Γ.set i (.dt d1)).set j (.dt d2))) : Go K H0 G (tAsg te (gTup K 2 (gCons (gName i) (gCons (gName j) gNil))) D) Γ := ⟨fun F =>
  h.run F _ fun v H1 e1 hv => by
    obtain ⟨a, xs, rfl, hs, ha⟩ := dp_tup hv
    cases ha with
    | cons x1 ha =>
      cases ha with
      | cons x2 ha =>
        cases ha
        refine ⟨a, _, rfl, ex_t hid_self hs, rfl, _, _, rfl, _, _, rfl, rfl, ?_⟩
        have F1 := (F.mono e1).set (i := i) x1
        refine k.run (F1.set (dp_ex (hid_sub ?_) x2))
        intro p ⟨m, fs, a, b⟩
        rcases get_set a with ⟨_, z⟩ | ⟨z, a⟩
        · cases z
        · rcases get_set b with ⟨y, _⟩ | ⟨_, b⟩
          · exact absurd y z
          · exact ⟨m, fs, a, b⟩⟩
theorem go_ret (h : Ed K te Γ d) (k : ∀ v H', Ex H0 H' → Dp K H' v d → D.rt v H') : Go K H0 G (tRet te D) Γ := ⟨fun F => h.run F _ fun v H' e hv => k v H' (F.ex.trans e) hv⟩
theorem go_if (h : EdT K t Γ b) (h1 : b = true → Go K H0 G (tu D) Γ) (h2 : b = false → Go K H0 G (tw D) Γ) : Go K H0 G (tIfS t tu tw D) Γ := ⟨fun F => h.run F _ fun H' e => by
  cases b with
  | true =>
    show tu D _ H'
    exact (h1 rfl).run (F.mono e)
  | false =>
    show tw D _ H'
    exact (h2 rfl).run (F.mono e)⟩
theorem go_no (h : EdT K t Γ false) (k : Go K H0 G (tw D) Γ) : Go K H0 G (tIfS t tu tw D) Γ := go_if h (fun z => nomatch z) fun _ => k
theorem go_yes (h : EdT K t Γ true) (k : Go K H0 G (tu D) Γ) : Go K H0 G (tIfS t tu tw D) Γ := go_if h (fun _ => k) fun z => nomatch z
theorem go_app (hj : Γ[j]? = some (.own ds)) (h : Ed K te Γ d) (p : Pl d) (hz : ds.length < 100000) (k : Go K H0 G D.nx (Γ.set j (.own (ds ++ [d])))) : Go K H0 G (tDrop (tBM K "list" rAppend (tVar j) (tCons te tNil)) D) Γ := ⟨fun F => by
  obtain ⟨q, vs, h1, h2, h3, h4⟩ := F.own j ds hj
  refine ⟨.ref q, h1, .inl ⟨rfl, vs, .inl (.inl h2)⟩, ?_⟩
  refine h.run F _ fun v H1 e hv => ?_
  refine ⟨q, vs, v, rfl, rfl, e q _ h2, sz_lt (by rw [dpa_len h4]; exact hz), ?_⟩
  exact k.run ((F.mono e).write hj h1 (dpa_app (dpa_ex (hid_ex e) h4) (dpa_one (pl_hid (F.mono e).lists p hv))))⟩
/-- the same, of what stands apart from the own lists -/
theorem go_appH (hj : Γ[j]? = some (.own ds)) (h : Eh K te Γ d) (hz : ds.length < 100000) (k : Go K H0 G D.nx (Γ.set j (.own (ds ++ [d])))) : Go K H0 G (tDrop (tBM K "list" rAppend (tVar j) (tCons te tNil)) D) Γ := ⟨fun F => by
  obtain ⟨q, vs, h1, h2, h3, h4⟩ := F.own j ds hj
  refine ⟨.ref q, h1, .inl ⟨rfl, vs, .inl (.inl h2)⟩, ?_⟩
  refine h.run F _ fun v H1 e hv => ?_
  refine ⟨q, vs, v, rfl, rfl, e q _ h2, sz_lt (by rw [dpa_len h4]; exact hz), ?_⟩
  exact k.run ((F.mono e).write hj h1 (dpa_app (dpa_ex (hid_ex e) h4) (dpa_one hv)))⟩
theorem go_ext (hj : Γ[j]? = some (.own ds)) (h : EdN K te Γ es) (p : PlA es) (hz : ds.length + es.length < 100000) (k : Go K H0 G D.nx (Γ.set j (.own (ds ++ es)))) : Go K H0 G (tDrop (tBM K "list" rExtend (tVar j) (tCons te tNil)) D) Γ := ⟨fun F => by
  obtain ⟨q, vs, h1, h2, h3, h4⟩ := F.own j ds hj
  refine ⟨.ref q, h1, .inl ⟨rfl, vs, .inl (.inl h2)⟩, ?_⟩
  refine h.run F _ fun b ws H1 hb e hv ha => ?_
  refine ⟨q, b, vs, ws, rfl, rfl, e q _ h2, hv, sz_of (by rw [dpa_len h4, dpa_len ha]; omega), ?_⟩
  exact k.run ((F.mono e).write hj h1 (dpa_app (dpa_ex (hid_ex e) h4) (pla_hid (F.mono e).lists p ha)))⟩

/-! ### loops: I, a word of the turn and the slots -/
theorem go_while {c : TT} (I : Nat → List Sl → Prop) (m0 : Nat) (h0 : I m0 Γ)
    (hs : ∀ m Γ', I m Γ' → ∃ b, EdT K c Γ' b ∧ (b = true → Go K H0 G (tu { D with nx := Nx K H0 G fun Γ'' => ∃ m', m' < m ∧ I m' Γ'', ct := Nx K H0 G fun Γ'' => ∃ m', m' < m ∧ I m' Γ'', bk := D.nx }) Γ') ∧ (b = false → Go K H0 G D.nx Γ')) : Go K H0 G (tWhile c tu D) Γ := ⟨fun F =>
  ⟨fun m σ H => ∃ Γ', I m Γ' ∧ Fit K H0 H σ Γ' G, ⟨m0, Γ, h0, F⟩, fun m σ H ⟨Γ', p, F'⟩ => by
    obtain ⟨b, hb, h1, h2⟩ := hs m Γ' p
    refine hb.run F' _ fun H1 e => ?_
    cases b with
    | true =>
      refine iteT ⟨_, ?_, (h1 rfl).run (F'.mono e)⟩
      rintro σ2 H2 ⟨Γ2, ⟨m', lt, p2⟩, F2⟩
      exact ⟨m', lt, Γ2, p2, F2⟩
    | false => exact iteF ((h2 rfl).run (F'.mono e))⟩⟩
theorem go_forR {ar : TA} {n : Int} (h : EdA K ar Γ [.int n]) (hn : 0 ≤ n ∧ n ≤ 100000) (I : Nat → List Sl → Prop) (h0 : I 0 Γ)
    (hs : ∀ (k : Nat) Γ', (k : Int) < n → I k Γ' → Go K H0 G (tu { D with nx := Nx K H0 G (I (k + 1)), ct := Nx K H0 G (I (k + 1)), bk := D.nx }) (Γ'.set j (.dt (.int (k : Int)))))
    (hd : ∀ Γ', I n.toNat Γ' → Go K H0 G D.nx Γ') : Go K H0 G (tFor (iRng1 ar) (gName j) tu D) Γ := ⟨fun F => h.run F _ fun vs H1 e ha => by
  cases ha with
  | cons x ha =>
    cases ha
    cases dp_int x
    refine ⟨n, rfl, by omega, by omega, for_range (lo := 0) (n := n.toNat) (fun k => Nx K H0 G (I k)) ⟨Γ, h0, F.mono e⟩ (fun k σ' H' hk p => ?_) fun σ' H' p => ?_⟩
    · obtain ⟨Γ', p, F'⟩ := p
      have e0 : (0 : Int) + (k : Int) = (k : Int) := Int.zero_add _
      show tu _ (σ'.set j (some (.int ((0 : Int) + (k : Int))))) H'
      rw [e0]
      exact (hs k Γ' (by omega) p).run (F'.set (.int _))
    · obtain ⟨Γ', p, F'⟩ := p
      exact (hd Γ' p).run F'⟩
/-- over a list that stays -/
theorem go_forL (h : Eh K tl Γ (.list ds)) (I : Nat → List Sl → Prop) (h0 : I 0 Γ)
    (hs : ∀ (k : Nat) d Γ' G', ds[k]? = some d → I k Γ' → Go K H0 G' (tu { D with nx := Nx K H0 G' (I (k + 1)), ct := Nx K H0 G' (I (k + 1)), bk := D.nx }) (Γ'.set j (.dt d)))
    (hd : ∀ Γ', I ds.length Γ' → Go K H0 G D.nx Γ') : Go K H0 G (tFor (iList K tl) (gName j) tu D) Γ := ⟨fun F => h.run F _ fun v H1 e hv => by
  obtain ⟨a, xs, rfl, hx, ha⟩ := dp_lst hv
  refine ⟨a, rfl, ⟨xs, ex_l hid_self hx⟩, fun k m σ' H' => m = ds.length - k ∧ k ≤ ds.length ∧ Nx K H0 ((.ref a, .list ds) :: G) (I k) σ' H', ⟨ds.length, rfl, Nat.zero_le _, Γ, h0, (F.mono e).ghost hv⟩, ?_⟩
  rintro k m σ' H' ⟨rfl, hk, Γ', p, F'⟩
  obtain ⟨a', ys, ea, hy, hb⟩ := dp_lst (F'.gh (.ref a, .list ds) List.mem_cons_self)
  cases ea
  have hl := dpa_len hb
  by_cases lt : k < ds.length
  · right
    obtain ⟨y, hy1, hy2⟩ := dpa_get hb (List.getElem?_eq_getElem lt)
    refine ⟨⟨ys, y, ex_l hid_self hy, hy1⟩, Nx K H0 ((.ref a, .list ds) :: G) (I (k + 1)), fun σ2 H2 q => ⟨ds.length - (k + 1), by omega, rfl, lt, q⟩, fun x H2 ⟨e2, hq⟩ => ?_⟩
    subst e2
    have ex : ys[k]? = some x := hq ys (ex_l hid_self hy)
    rw [hy1] at ex
    cases ex
    exact (hs k _ Γ' _ (List.getElem?_eq_getElem lt) p).run (F'.set hy2)
  · left
    have ek : k = ds.length := by omega
    subst ek
    exact ⟨⟨ys, ex_l hid_self hy, by omega⟩, (hd Γ' p).run F'.unghost⟩⟩
/-- for a, b in enumerate(list) -/
theorem go_forE (h : Eh K tl Γ (.list ds)) (I : Nat → List Sl → Prop) (h0 : I 0 Γ)
    (hs : ∀ (k : Nat) d Γ' G', ds[k]? = some d → I k Γ' → Go K H0 G' (tu { D with nx := Nx K H0 G' (I (k + 1)), ct := Nx K H0 G' (I (k + 1)), bk := D.nx }) ((Γ'.set j (.dt (.int (k : Int)))).set l (.dt d)))
    (hd : ∀ Γ', I ds.length Γ' → Go K H0 G D.nx Γ') : Go K H0 G (tFor (iEnum K (tCons tl tNil)) (gTup K 2 (gCons (gName j) (gCons (gName l) gNil))) tu D) Γ := ⟨fun F => h.run F _ fun v H1 e hv => by
  obtain ⟨a, xs, rfl, hx, ha⟩ := dp_lst hv
  refine ⟨a, xs, rfl, ex_l hid_self hx, fun k m σ' H' => m = ds.length - k ∧ k ≤ ds.length ∧ Nx K H0 ((.ref a, .list ds) :: G) (I k) σ' H', ⟨ds.length, rfl, Nat.zero_le _, Γ, h0, (F.mono e).ghost hv⟩, ?_⟩
  rintro k m σ' H' ⟨rfl, hk, Γ', p, F'⟩
  obtain ⟨a', ys, ea, hy, hb⟩ := dp_lst (F'.gh (.ref a, .list ds) List.mem_cons_self)
  cases ea
  have hl := dpa_len hb
  by_cases lt : k < ds.length
  · right
    obtain ⟨y, hy1, hy2⟩ := dpa_get hb (List.getElem?_eq_getElem lt)
    refine ⟨⟨ys, y, ex_l hid_self hy, hy1⟩, Nx K H0 ((.ref a, .list ds) :: G) (I (k + 1)), fun σ2 H2 q => ⟨ds.length - (k + 1), by omega, rfl, lt, q⟩, fun x H2 ⟨T, z, e1, nT, e2, hq⟩ => ?_⟩
    subst e1 e2
    have ex : ys[k]? = some z := hq ys (ex_l hid_self hy)
    rw [hy1] at ex
    cases ex
    refine ⟨T, _, rfl, .inl (.inl upd_same), rfl, _, _, rfl, _, _, rfl, rfl, ?_⟩
    have F1 := (F'.mono (Ex.new (o := .tup [.int (k : Int), y]) nT)).set (i := j) (v := .int (k : Int)) (.int _)
    refine (hs k _ Γ' _ (List.getElem?_eq_getElem lt) p).run (F1.set (dp_ex (hid_sub ?_) (dp_ex (hid_ex (Ex.new nT)) hy2)))
    intro p ⟨m, fs, a, b⟩
    rcases get_set a with ⟨_, z⟩ | ⟨z, a⟩
    · cases z
    · rcases get_set b with ⟨y, _⟩ | ⟨_, b⟩
      · exact absurd y z
      · exact ⟨m, fs, a, b⟩
  · left
    have ek : k = ds.length := by omega
    subst ek
    exact ⟨⟨ys, ex_l hid_self hy, by omega⟩, (hd Γ' p).run F'.unghost⟩⟩

/-! ### the same, something behind -/
section
variable {tz : TS}
theorem q_asg (h : Eh K te Γ d) (k : Go K H0 G (tz D) (Γ.set i (.dt d))) : Go K H0 G (tSeq (tAsg te (gName i)) tz D) Γ := go_asg (D := { D with nx := tz D }) h k
theorem q_asgN (h : EdN K te Γ ds) (p : PlA ds) (k : Go K H0 G (tz D) (Γ.set i (.own ds))) : Go K H0 G (tSeq (tAsg te (gName i)) tz D) Γ := go_asgN (D := { D with nx := tz D }) h p k
theorem q_par (h1 : Eh K ta Γ d1) (h2 : Eh K tb Γ d2) (k : Go K H0 G (tz D) ((Γ.set i (.dt d1)).set j (.dt d2))) : Go K H0 G (tSeq (tPar i j (tCons ta (tCons tb tNil))) tz D) Γ := go_par (D := { D with nx := tz D }) h1 h2 k
theorem q_parN (h1 : EdN K ta Γ ds) (p1 : PlA ds) (h2 : Ed K tb Γ d2) (p2 : Pl d2) (k : Go K H0 G (tz D) ((Γ.set i (.own ds)).set j (.dt d2))) : Go K H0 G (tSeq (tPar i j (tCons ta (tCons tb tNil))) tz D) Γ := go_parN (D := { D with nx := tz D }) h1 p1 h2 p2 k
theorem q_par3 {tc : TE} (h1 : Eh K ta Γ d1) (h2 : Eh K tb Γ d2) (h3 : Eh K tc Γ d3) (k : Go K H0 G (tz D) (((Γ.set i (.dt d1)).set j (.dt d2)).set l (.dt d3))) : Go K H0 G (tSeq (tPar3 i j l (tCons ta (tCons tb (tCons tc tNil)))) tz D) Γ := go_par3 (D := { D with nx := tz D }) h1 h2 h3 k
theorem q_pair (h : Eh K te Γ (.tuple [d1, d2])) (k : Go K H0 G (tz D) ((Γ.set i (.dt d1)).set j (.dt d2))) : Go K H0 G (tSeq (tAsg te (gTup K 2 (gCons (gName i) (gCons (gName j) gNil)))) tz D) Γ := go_pair (D := { D with nx := tz D }) h k
theorem q_no (h : EdT K t Γ false) (k : Go K H0 G (tz D) Γ) : Go K H0 G (tSeq (tIfS t tu tNext) tz D) Γ := go_no (D := { D with nx := tz D }) h k
theorem q_yes (h : EdT K t Γ true) (k : Go K H0 G (tu { D with nx := tz D }) Γ) : Go K H0 G (tSeq (tIfS t tu tw) tz D) Γ := go_yes (D := { D with nx := tz D }) h k
theorem q_yesA (h : EdT K t Γ true) (h' : Eh K te Γ d) (k : Go K H0 G (tz D) (Γ.set i (.dt d))) : Go K H0 G (tSeq (tIfS t (tAsg te (gName i)) tw) tz D) Γ := go_yes (D := { D with nx := tz D }) h (go_asg h' k)
theorem q_if (h : EdT K t Γ b) (h1 : b = true → Go K H0 G (tu { D with nx := tz D }) Γ) (h2 : b = false → Go K H0 G (tw { D with nx := tz D }) Γ) : Go K H0 G (tSeq (tIfS t tu tw) tz D) Γ := go_if (D := { D with nx := tz D }) h h1 h2
theorem q_app (hj : Γ[j]? = some (.own ds)) (h : Ed K te Γ d) (p : Pl d) (hz : ds.length < 100000) (k : Go K H0 G (tz D) (Γ.set j (.own (ds ++ [d])))) : Go K H0 G (tSeq (tDrop (tBM K "list" rAppend (tVar j) (tCons te tNil))) tz D) Γ := go_app (D := { D with nx := tz D }) hj h p hz k
theorem q_drop (h : Ed K te Γ d) (k : Go K H0 G (tz D) Γ) : Go K H0 G (tSeq (tDrop te) tz D) Γ := ⟨fun F => h.run F _ fun v H' e _ => k.run (F.mono e)⟩
theorem q_while {c : TT} (I : Nat → List Sl → Prop) (m0 : Nat) (h0 : I m0 Γ)
    (hs : ∀ m Γ', I m Γ' → ∃ b, EdT K c Γ' b ∧ (b = true → Go K H0 G (tu { nx := Nx K H0 G fun Γ'' => ∃ m', m' < m ∧ I m' Γ'', ct := Nx K H0 G fun Γ'' => ∃ m', m' < m ∧ I m' Γ'', bk := tz D, rt := D.rt }) Γ') ∧ (b = false → Go K H0 G (tz D) Γ')) : Go K H0 G (tSeq (tWhile c tu) tz D) Γ := go_while (D := { D with nx := tz D }) I m0 h0 hs
theorem q_forR {ar : TA} {n : Int} (h : EdA K ar Γ [.int n]) (hn : 0 ≤ n ∧ n ≤ 100000) (I : Nat → List Sl → Prop) (h0 : I 0 Γ)
    (hs : ∀ (k : Nat) Γ', (k : Int) < n → I k Γ' → Go K H0 G (tu { nx := Nx K H0 G (I (k + 1)), ct := Nx K H0 G (I (k + 1)), bk := tz D, rt := D.rt }) (Γ'.set j (.dt (.int (k : Int)))))
    (hd : ∀ Γ', I n.toNat Γ' → Go K H0 G (tz D) Γ') : Go K H0 G (tSeq (tFor (iRng1 ar) (gName j) tu) tz D) Γ := go_forR (D := { D with nx := tz D }) h hn I h0 hs hd
theorem q_forL (h : Eh K tl Γ (.list ds)) (I : Nat → List Sl → Prop) (h0 : I 0 Γ)
    (hs : ∀ (k : Nat) d Γ' G', ds[k]? = some d → I k Γ' → Go K H0 G' (tu { nx := Nx K H0 G' (I (k + 1)), ct := Nx K H0 G' (I (k + 1)), bk := tz D, rt := D.rt }) (Γ'.set j (.dt d)))
    (hd : ∀ Γ', I ds.length Γ' → Go K H0 G (tz D) Γ') : Go K H0 G (tSeq (tFor (iList K tl) (gName j) tu) tz D) Γ := go_forL (D := { D with nx := tz D }) h I h0 hs hd
theorem q_forE (h : Eh K tl Γ (.list ds)) (I : Nat → List Sl → Prop) (h0 : I 0 Γ)
    (hs : ∀ (k : Nat) d Γ' G', ds[k]? = some d → I k Γ' → Go K H0 G' (tu { nx := Nx K H0 G' (I (k + 1)), ct := Nx K H0 G' (I (k + 1)), bk := tz D, rt := D.rt }) ((Γ'.set j (.dt (.int (k : Int)))).set l (.dt d)))
    (hd : ∀ Γ', I ds.length Γ' → Go K H0 G (tz D) Γ') : Go K H0 G (tSeq (tFor (iEnum K (tCons tl tNil)) (gTup K 2 (gCons (gName j) (gCons (gName l) gNil))) tu) tz D) Γ := go_forE (D := { D with nx := tz D }) h I h0 hs hd
end

/-! ### comprehensions -/
def wipeG (Γ : List Sl) : List Nat → List Sl
  | [] => Γ
  | v :: vs => (wipeG Γ vs).set v .no
theorem fit_wipe {H : Hp} {σ : L2.St} (F : Fit K H0 H σ Γ G) : ∀ vs, Fit K H0 H (wipe σ vs) (wipeG Γ vs) G
  | [] => F
  | v :: vs => (fit_wipe F vs).drop v none
/-- what the list at Dl holds by the turn -/
def Lc (K : PySem.W.Frag) (H : Hp) (Dl : Addr) (outs : List PyData) (k : Nat) (H' : Hp) : Prop := H Dl = none ∧ Ex H H' ∧ ∃ acc, H' Dl = some (.lst acc) ∧ DpAll K H' acc (outs.take k)
theorem lc_start {H : Hp} {Dl : Addr} {outs : List PyData} (h : H Dl = none) : Lc K H Dl outs 0 (upd H Dl (.lst [])) := ⟨h, Ex.new h, [], upd_same, .nil⟩
theorem lc_turn {H H' H'' : Hp} {Dl : Addr} {outs : List PyData} {k : Nat} {σ2 : L2.St} {Γ2 : List Sl} {o : PyData} (p : Lc K H Dl outs k H') (e : Ex H' H'') (F : Fit K H0 H'' σ2 Γ2 G) (h : Ed K te Γ2 o) (po : PlA outs) (ho : outs[k]? = some o) (hz : outs.length < 100000) :
    te σ2 H'' fun y H4 => ∃ acc, H4 Dl = some (.lst acc) ∧ acc.length < sizeLine ∧ Lc K H Dl outs (k + 1) (upd H4 Dl (.lst (acc ++ [y]))) := h.run F _ fun y H4 e4 hy => by
  obtain ⟨p1, p2, acc, p3, p4⟩ := p
  have hd : H4 Dl = some (.lst acc) := (e.trans e4) Dl _ p3
  have hk := (List.getElem?_eq_some_iff.mp ho).1
  have hm : o ∈ outs := List.mem_of_getElem? ho
  refine ⟨acc, hd, sz_lt (by rw [dpa_len p4, List.length_take]; omega), p1, Ex.mut ((p2.trans e).trans e4) p1, _, upd_same, ?_⟩
  rw [List.take_add_one, ho]
  refine dpa_app (pla_upd hd (fun d m => po d (List.mem_of_mem_take m)) (dpa_ex (e.trans e4) p4)) (dpa_one (pl_upd hd (po o hm) hy))
theorem edn_lcR {ar : TA} {vs : List Nat} {n : Int} (outs : List PyData) (h : EdA K ar Γ [.int n]) (hn : 0 ≤ n ∧ n ≤ 90000) (ho : outs.length = n.toNat) (po : PlA outs)
    (hw : ∀ (σ : L2.St) x, wipe ((wipe σ vs).set j (some x)) vs = wipe σ vs)
    (he : ∀ (k : Nat) o, outs[k]? = some o → Ed K te ((wipeG Γ vs).set j (.dt (.int (k : Int)))) o) : EdN K (tLc (iRng1 ar) (gName j) tYes te vs) Γ outs := ⟨fun F Q q => h.run F _ fun ws H1 e ha => by
  cases ha with
  | cons x ha =>
    cases ha
    cases dp_int x
    refine ⟨n, rfl, by omega, by omega, fun Dl hD => lc_range (lo := 0) (n := n.toNat) (Lc K H1 Dl outs) (lc_start hD) (fun k H' hk p => ?_) fun H' p => ?_⟩
    · have e0 : (0 : Int) + (k : Int) = (k : Int) := Int.zero_add _
      have F2 : Fit _ _ H' ((wipe _ vs).set j (some (.int ((0 : Int) + (k : Int))))) ((wipeG Γ vs).set j (.dt (.int (k : Int)))) _ := ((fit_wipe ((F.mono e).mono p.2.1) vs).set (i := j) (by rw [e0]; exact .int _))
      refine ⟨hw _ _, ?_⟩
      have lt : k < outs.length := by omega
      exact lc_turn p (Ex.refl _) F2 (he k _ (List.getElem?_eq_getElem lt)) po (List.getElem?_eq_getElem lt) (by omega)
    · obtain ⟨p1, p2, acc, p3, p4⟩ := p
      rw [List.take_of_length_le (by omega)] at p4
      exact q Dl acc H' (fresh_back e p1) (e.trans p2) p3 p4⟩
theorem edn_lcL {vs : List Nat} (outs : List PyData) (h : Ed K tl Γ (.list ds)) (ho : outs.length = ds.length) (hz : ds.length < 90000) (po : PlA outs)
    (pd : PlA ds) (hw : ∀ (σ : L2.St) x, wipe ((wipe σ vs).set j (some x)) vs = wipe σ vs)
    (he : ∀ (k : Nat) d o, ds[k]? = some d → outs[k]? = some o → Ed K te ((wipeG Γ vs).set j (.dt d)) o) : EdN K (tLc (iList K tl) (gName j) tYes te vs) Γ outs := ⟨fun F Q q => h.run F _ fun v H1 e hv => by
  obtain ⟨a, xs, rfl, hx, ha⟩ := dp_lst hv
  have hl := dpa_len ha
  refine ⟨a, rfl, ⟨xs, hx⟩, fun Dl hD => lc_list (xs := xs) (Lc K H1 Dl outs) (lc_start hD) (fun k H' _ p => ex_l p.2.1 hx) (fun k x H' hk p => ?_) fun H' p => ?_⟩
  · obtain ⟨d, hd, dx⟩ := dpa_get' ha hk
    have F0 := fit_wipe ((F.mono e).mono p.2.1) vs
    have F2 := F0.set (i := j) (pl_hid F0.lists (pd d (List.mem_of_getElem? hd)) (dp_ex p.2.1 dx))
    refine ⟨hw _ _, ?_⟩
    have lt : k < outs.length := by
      have := (List.getElem?_eq_some_iff.mp hk).1
      omega
    exact lc_turn p (Ex.refl _) F2 (he k d _ hd (List.getElem?_eq_getElem lt)) po (List.getElem?_eq_getElem lt) (by omega)
  · obtain ⟨p1, p2, acc, p3, p4⟩ := p
    rw [List.take_of_length_le (by omega)] at p4
    exact q Dl acc H' (fresh_back e p1) (e.trans p2) p3 p4⟩
theorem edn_lcT {vs : List Nat} (outs : List PyData) (h : Ed K tl Γ (.tuple ds)) (ho : outs.length = ds.length) (hz : ds.length < 90000) (po : PlA outs)
    (pd : PlA ds) (hw : ∀ (σ : L2.St) x, wipe ((wipe σ vs).set j (some x)) vs = wipe σ vs)
    (he : ∀ (k : Nat) d o, ds[k]? = some d → outs[k]? = some o → Ed K te ((wipeG Γ vs).set j (.dt d)) o) : EdN K (tLc (iTup K tl) (gName j) tYes te vs) Γ outs := ⟨fun F Q q => h.run F _ fun v H1 e hv => by
  obtain ⟨a, xs, rfl, hx, ha⟩ := dp_tup hv
  have hl := dpa_len ha
  refine ⟨a, rfl, ⟨xs, hx⟩, fun Dl hD => lc_tup (xs := xs) (Lc K H1 Dl outs) (lc_start hD) (fun k H' _ p => ex_t p.2.1 hx) (fun k x H' hk p => ?_) fun H' p => ?_⟩
  · obtain ⟨d, hd, dx⟩ := dpa_get' ha hk
    have F0 := fit_wipe ((F.mono e).mono p.2.1) vs
    have F2 := F0.set (i := j) (pl_hid F0.lists (pd d (List.mem_of_getElem? hd)) (dp_ex p.2.1 dx))
    refine ⟨hw _ _, ?_⟩
    have lt : k < outs.length := by
      have := (List.getElem?_eq_some_iff.mp hk).1
      omega
    exact lc_turn p (Ex.refl _) F2 (he k d _ hd (List.getElem?_eq_getElem lt)) po (List.getElem?_eq_getElem lt) (by omega)
  · obtain ⟨p1, p2, acc, p3, p4⟩ := p
    rw [List.take_of_length_le (by omega)] at p4
    exact q Dl acc H' (fresh_back e p1) (e.trans p2) p3 p4⟩
/-- .. for a, b in enumerate(list); no own lists about -/
theorem edn_lcE {vs : List Nat} (outs : List PyData) (h : Ed K tl Γ (.list ds)) (hn : noOwn Γ = true) (ho : outs.length = ds.length) (hz : ds.length < 90000) (po : PlA outs)
    (hw : ∀ (σ : L2.St) x y, wipe (((wipe σ vs).set j (some x)).set l (some y)) vs = wipe σ vs)
    (he : ∀ (k : Nat) d o, ds[k]? = some d → outs[k]? = some o → Ed K te (((wipeG Γ vs).set j (.dt (.int (k : Int)))).set l (.dt d)) o) : EdN K (tLc (iEnum K (tCons tl tNil)) (gTup K 2 (gCons (gName j) (gCons (gName l) gNil))) tYes te vs) Γ outs := ⟨fun {H0 H σ G} F Q q => h.run F _ fun v H1 e hv => by
  obtain ⟨a, xs, rfl, hx, ha⟩ := dp_lst hv
  have hl := dpa_len ha
  refine ⟨a, xs, rfl, hx, fun Dl hD => lc_it (walk_enum (K := K) (a := a) (xs := xs)) (Lc K H1 Dl outs) (lc_start hD) (fun k H' _ p => ex_l p.2.1 hx) (fun k x H' H'' hk p hy => ?_) fun H' p => ?_⟩
  · obtain ⟨T, x1, x2, rfl, nT, rfl, e1, e2⟩ := hy
    cases e1
    obtain ⟨d, hd, dx⟩ := dpa_get' ha e2
    have eT : Ex H' (upd H' T (.tup [.int (k : Int), x2])) := Ex.new nT
    have no : ∀ p, ¬ Owns σ Γ p := fun _ ⟨i, es, z, _⟩ => noOwn_is hn i es z
    have now : ∀ vs p, ¬ Owns (wipe σ vs) (wipeG Γ vs) p := fun vs => by
      induction vs with
      | nil => exact no
      | cons w vs ih =>
        rintro p ⟨i, es, z, y⟩
        rcases get_set z with ⟨_, z'⟩ | ⟨z', z⟩
        · cases z'
        · rcases get_set y with ⟨y', _⟩ | ⟨_, y⟩
          · exact absurd y' z'
          · exact ih p ⟨i, es, z, y⟩
    refine ⟨T, _, rfl, .inl (.inl upd_same), rfl, _, _, rfl, _, _, rfl, rfl, hw _ _ _, ?_⟩
    have F0 := fit_wipe (((F.mono e).mono p.2.1).mono eT) vs
    have F1 := F0.set (i := j) (v := .int (k : Int)) (.int _)
    have F2 := F1.set (i := l) (v := x2) (d := d) (by
      have nn : ∀ p, ¬ Owns ((wipe σ vs).set j (some (.int (k : Int)))) ((wipeG Γ vs).set j (.dt (.int (k : Int)))) p := by
        rintro p ⟨i, es, z, y⟩
        rcases get_set z with ⟨_, z'⟩ | ⟨z', z⟩
        · cases z'
        · rcases get_set y with ⟨y', _⟩ | ⟨_, y⟩
          · exact absurd y' z'
          · exact now vs p ⟨i, es, z, y⟩
      rw [hid_no nn]
      exact dp_ex (p.2.1.trans eT) dx)
    have lt : k < outs.length := by omega
    exact lc_turn p eT F2 (he k d _ hd (List.getElem?_eq_getElem lt)) po (List.getElem?_eq_getElem lt) (by omega)
  · obtain ⟨p1, p2, acc, p3, p4⟩ := p
    rw [List.take_of_length_le (by omega)] at p4
    exact q Dl acc H' (fresh_back e p1) (e.trans p2) p3 p4⟩
/-- .. for a, b in zip(list, list) of one length -/
theorem edn_lcZ {tk : TE} {vs : List Nat} (outs : List PyData) (h : Ed K tl Γ (.list ds)) (h' : Ed K tk Γ (.list es)) (hn : noOwn Γ = true) (hde : ds.length = es.length) (ho : outs.length = ds.length) (hz : ds.length < 90000) (po : PlA outs)
    (hw : ∀ (σ : L2.St) x y, wipe (((wipe σ vs).set j (some x)).set l (some y)) vs = wipe σ vs)
    (he : ∀ (k : Nat) d d' o, ds[k]? = some d → es[k]? = some d' → outs[k]? = some o → Ed K te (((wipeG Γ vs).set j (.dt d)).set l (.dt d')) o) : EdN K (tLc (iZip K (tCons tl (tCons tk tNil))) (gTup K 2 (gCons (gName j) (gCons (gName l) gNil))) tYes te vs) Γ outs := ⟨fun {H0 H σ G} F Q q => h.run F _ fun v H1 e1 hv => h'.run (F.mono e1) _ fun v' H2 e2 hv' => by
  obtain ⟨a, xs, rfl, hx, ha⟩ := dp_lst (dp_ex e2 hv)
  obtain ⟨a', ys, rfl, hy, hb⟩ := dp_lst hv'
  have hl := dpa_len ha
  have hl' := dpa_len hb
  have e := e1.trans e2
  refine ⟨a, a', xs, ys, rfl, hx, hy, fun Dl hD => lc_it (walk_zip (K := K) (a := a) (b := a') (xs := xs) (ys := ys) (n := ds.length) (by omega)) (Lc K H2 Dl outs) (lc_start hD) (fun k H' _ p => ⟨ex_l p.2.1 hx, ex_l p.2.1 hy⟩) (fun k x H' H'' hk p hy => ?_) fun H' p => ?_⟩
  · obtain ⟨T, x1, x2, rfl, nT, rfl, g1, g2⟩ := hy
    obtain ⟨d, hd, dx⟩ := dpa_get' ha g1
    obtain ⟨d', hd', dx'⟩ := dpa_get' hb g2
    have eT : Ex H' (upd H' T (.tup [x1, x2])) := Ex.new nT
    have no : ∀ p, ¬ Owns σ Γ p := fun _ ⟨i, es, z, _⟩ => noOwn_is hn i es z
    have now : ∀ vs p, ¬ Owns (wipe σ vs) (wipeG Γ vs) p := fun vs => by
      induction vs with
      | nil => exact no
      | cons w vs ih =>
        rintro p ⟨i, es, z, y⟩
        rcases get_set z with ⟨_, z'⟩ | ⟨z', z⟩
        · cases z'
        · rcases get_set y with ⟨y', _⟩ | ⟨_, y⟩
          · exact absurd y' z'
          · exact ih p ⟨i, es, z, y⟩
    refine ⟨T, _, rfl, .inl (.inl upd_same), rfl, _, _, rfl, _, _, rfl, rfl, hw _ _ _, ?_⟩
    have F0 := fit_wipe (((F.mono e).mono p.2.1).mono eT) vs
    have F1 := F0.set (i := j) (v := x1) (d := d) (by
      rw [hid_no (now vs)]
      exact dp_ex (p.2.1.trans eT) dx)
    have F2 := F1.set (i := l) (v := x2) (d := d') (by
      have nn : ∀ p, ¬ Owns ((wipe σ vs).set j (some x1)) ((wipeG Γ vs).set j (.dt d)) p := by
        rintro p ⟨i, es, z, y⟩
        rcases get_set z with ⟨_, z'⟩ | ⟨z', z⟩
        · cases z'
        · rcases get_set y with ⟨y', _⟩ | ⟨_, y⟩
          · exact absurd y' z'
          · exact now vs p ⟨i, es, z, y⟩
      rw [hid_no nn]
      exact dp_ex (p.2.1.trans eT) dx')
    have lt : k < outs.length := by omega
    exact lc_turn p eT F2 (he k d d' _ hd hd' (List.getElem?_eq_getElem lt)) po (List.getElem?_eq_getElem lt) (by omega)
  · obtain ⟨p1, p2, acc, p3, p4⟩ := p
    rw [List.take_of_length_le (by omega)] at p4
    exact q Dl acc H' (fresh_back e p1) (e.trans p2) p3 p4⟩
end

/-! ### slots forgotten and stored -/
theorem wipe_one (j : Nat) (σ : L2.St) (x : V) : wipe ((wipe σ [j]).set j (some x)) [j] = wipe σ [j] := by
  show ((σ.set j none).set j (some x)).set j none = σ.set j none
  rw [List.set_set, List.set_set]
theorem wipe_two {j l : Nat} (h : j ≠ l) (σ : L2.St) (x y : V) : wipe (((wipe σ [j, l]).set j (some x)).set l (some y)) [j, l] = wipe σ [j, l] := by
  show (((((σ.set l none).set j none).set j (some x)).set l (some y)).set l none).set j none = (σ.set l none).set j none
  rw [List.set_set, List.set_set, List.set_comm _ _ h, List.set_set, List.set_set]
theorem wipe_two' {j l : Nat} (h : j ≠ l) (σ : L2.St) (x y : V) : wipe (((wipe σ [l, j]).set j (some x)).set l (some y)) [l, j] = wipe σ [l, j] := by
  show (((((σ.set j none).set l none).set j (some x)).set l (some y)).set j none).set l none = (σ.set j none).set l none
  rw [List.set_comm (l := ((σ.set j none).set l none).set j (some x)) _ _ (Ne.symm h), List.set_set, List.set_set, List.set_comm _ _ (Ne.symm h), List.set_set, List.set_set]

/-! ### a def by its promise over data -/
section
variable {P : Program} {w : World} {K : PySem.W.Frag} {mg : Str → Option Value} {base : Heap}
theorem okD {x qual : Str} {st : Stmt} {f : Addr} {fd : FuncData} {N ps : List Str} {k : Nat} {R : List PyData → PyData → Prop} (F : Fun K x qual st f fd) (S : FnScope N ps (defScope st)) (hlen : ∀ ds d, R ds d → ds.length = ps.length)
    (hb : ∀ (cdv : Value) (A : Around) (outer : List Env) (s : Shared) (H : Hp) (E : XK), Room k (A.deeper (envOfC qual (defScope st) s.heap.objs.size f cdv)) → ∀ ds d, R ds d →
      ∃ t, PSs (cxOf CX0 P w K mg base N qual (defScope st) f cdv A outer s H E).nox (defBody st) t ∧ ∀ D : Ends, (∀ v H', Ex H H' → Dp K H' v d → D.rt v H') → Go K H [] (t D) (ds.map Sl.dt ++ List.replicate (N.length - ds.length) Sl.no)) :
    FnOk P w K mg base CX0 (k + 1) f fd ps (spD K R) := by
  refine F.ok S (fun vs H Q E h => ?_) (fun cdv A outer s H vs Q E hr h => ?_)
  · obtain ⟨ds, d, ha, hR, _⟩ := h
    rw [dpa_len ha, hlen ds d hR]
  · obtain ⟨ds, d, ha, hR, q⟩ := h
    obtain ⟨t, h1, h2⟩ := hb cdv A outer s H E hr ds d hR
    exact ⟨t, h1, (h2 { nx := fun _ H' => Q .non H', rt := Q } q).run (fit_start ha)⟩
theorem okDn {x qual : Str} {st : Stmt} {f : Addr} {fd : FuncData} {N ps : List Str} {k : Nat} {R : List PyData → PyData → Prop} (F : Fun K x qual st f fd) (S : FnScope N ps (defScope st)) (hlen : ∀ ds d, R ds d → ds.length = ps.length)
    (hb : ∀ (cdv : Value) (A : Around) (outer : List Env) (s : Shared) (H : Hp) (E : XK), Room k (A.deeper (envOfC qual (defScope st) s.heap.objs.size f cdv)) → ∀ ds d, R ds d → d = .none ∧
      ∃ t, PSs (cxOf CX0 P w K mg base N qual (defScope st) f cdv A outer s H E).nox (defBody st) t ∧ ∀ D : Ends, (∀ σ H', Ex H H' → D.nx σ H') → Go K H [] (t D) (ds.map Sl.dt ++ List.replicate (N.length - ds.length) Sl.no)) :
    FnOk P w K mg base CX0 (k + 1) f fd ps (spD K R) := by
  refine F.ok S (fun vs H Q E h => ?_) (fun cdv A outer s H vs Q E hr h => ?_)
  · obtain ⟨ds, d, ha, hR, _⟩ := h
    rw [dpa_len ha, hlen ds d hR]
  · obtain ⟨ds, d, ha, hR, q⟩ := h
    obtain ⟨e, t, h1, h2⟩ := hb cdv A outer s H E hr ds d hR
    subst e
    exact ⟨t, h1, (h2 { nx := fun _ H' => Q .non H', rt := Q } (fun σ H' e => q .non H' e .non)).run (fit_start ha)⟩
/-- a promise that is asked of nothing -/
theorem ok_never {f : Addr} {fd : FuncData} {k : Nat} {ps : List Str} {R : List PyData → PyData → Prop} (h : ∀ ds d, ¬ R ds d) : FnOk P w K mg base CX0 k f fd ps (spD K R) :=
  ⟨fun vs H Q E ⟨ds, d, _, r, _⟩ => absurd r (h ds d), fun A outer s H args us vs Q E _ _ _ _ ⟨ds, d, _, r, _⟩ => absurd r (h ds d)⟩
end
end BW

/-! The mathematics: numbers, programs, worths, marks, sizes. -/
namespace BW
open PySem

/-! ### numbers -/
def nm (q : Rat) : PyData := .tuple [.int q.num, .int (q.den : Int)]
theorem pl_nm (q : Rat) : Pl (nm q) := .tup (PlA.cons (.int _) (PlA.cons (.int _) PlA.nil))
theorem gcd_pos {a b : Int} (h : 0 < b) : 0 < (Int.gcd a b : Int) := by
  have : 0 < Int.gcd a b := Int.gcd_pos_of_ne_zero_right a (by omega)
  omega
theorem low_num {a b : Int} (h : 0 < b) : (Rat.divInt a b).num = a / (Int.gcd a b : Int) := by
  rw [Rat.num_divInt, Int.sign_eq_one_of_pos h, Int.one_mul, Int.gcd_comm]
theorem low_den {a b : Int} (h : 0 < b) : ((Rat.divInt a b).den : Int) = b / (Int.gcd a b : Int) := by
  rw [Rat.den_divInt, if_neg (by omega), Int.gcd_comm]
  rw [Int.natCast_ediv]
  congr 1
  omega
theorem den_pos' (q : Rat) : 0 < (q.den : Int) := by
  have := q.den_pos
  omega
theorem add_low (p q : Rat) : p + q = Rat.divInt (p.num * (q.den : Int) + q.num * (p.den : Int)) ((p.den : Int) * (q.den : Int)) := by
  rw [Rat.add_def', ← Rat.divInt_ofNat, Int.natCast_mul]
theorem mul_low (p q : Rat) : p * q = Rat.divInt (p.num * q.num) ((p.den : Int) * (q.den : Int)) := by
  rw [Rat.mul_def', ← Rat.divInt_ofNat, Int.natCast_mul]
theorem nm_low {a b : Int} (h : 0 < b) : nm (Rat.divInt a b) = .tuple [.int (a / (Int.gcd a b : Int)), .int (b / (Int.gcd a b : Int))] := by
  unfold nm
  rw [low_num h, low_den h]
theorem le_apart (p q : Rat) : (p.num * (q.den : Int) - q.num * (p.den : Int) ≤ 0) ↔ p ≤ q := by
  rw [Rat.le_iff]
  omega
theorem nm_inj {p q : Rat} (h : nm p = nm q) : p = q := by
  unfold nm at h
  injection h with h
  injection h with h1 h
  injection h with h2 _
  injection h1 with h1
  injection h2 with h2
  exact Rat.ext h1 (by omega)
theorem nm_gcd (q : Rat) : Int.gcd q.num (q.den : Int) = 1 := by
  have := q.reduced
  unfold Nat.Coprime at this
  rw [Int.gcd]
  simpa using this

/-! ### sizes -/
def Sm (n : Nat) (q : Rat) : Prop := q.num.natAbs < 2 ^ n ∧ q.den < 2 ^ n
theorem Sm.mono {m n : Nat} {q : Rat} (h : Sm m q) (l : m ≤ n) : Sm n q :=
  have := Nat.pow_le_pow_right (show 0 < 2 by decide) l
  ⟨by have := h.1; omega, by have := h.2; omega⟩
theorem div_natAbs_le {a b : Int} (h : 0 < b) : (a / b).natAbs ≤ a.natAbs := by
  exact Int.natAbs_ediv_le_natAbs a b
theorem low_sm {a b : Int} {n : Nat} (h : 0 < b) (ha : a.natAbs < 2 ^ n) (hb : b.natAbs < 2 ^ n) : Sm n (Rat.divInt a b) := by
  have g := gcd_pos (a := a) h
  refine ⟨?_, ?_⟩
  · rw [low_num h]
    exact Nat.lt_of_le_of_lt (div_natAbs_le g) ha
  · have e := low_den (a := a) h
    have := div_natAbs_le (a := b) g
    omega
theorem nat_mul_lt {a b m n : Nat} (ha : a < 2 ^ m) (hb : b < 2 ^ n) : a * b < 2 ^ (m + n) := by
  rw [Nat.pow_add]
  exact Nat.mul_lt_mul'' ha hb
theorem mul_sm {p q : Rat} {m n : Nat} (hp : Sm m p) (hq : Sm n q) : Sm (m + n) (p * q) := by
  rw [mul_low]
  refine low_sm (Int.mul_pos (den_pos' p) (den_pos' q)) ?_ ?_
  · rw [Int.natAbs_mul]
    exact nat_mul_lt hp.1 hq.1
  · rw [Int.natAbs_mul, Int.natAbs_natCast, Int.natAbs_natCast]
    exact nat_mul_lt hp.2 hq.2

/-! ### numbers whose parts are bounded: D k times it is whole, it lies within B k -/
def Dn (k : Nat) : Nat := 396 * 6 ^ k
def Bn (k : Nat) : Nat := 2 ^ 42 * 4 ^ k
def Wh (x : Rat) : Prop := ∃ z : Int, x = (z : Rat)
theorem Wh.add {x y : Rat} : Wh x → Wh y → Wh (x + y) := fun ⟨a, ha⟩ ⟨b, hb⟩ => ⟨a + b, by rw [ha, hb, Rat.intCast_add]⟩
theorem Wh.mul {x y : Rat} : Wh x → Wh y → Wh (x * y) := fun ⟨a, ha⟩ ⟨b, hb⟩ => ⟨a * b, by rw [ha, hb, Rat.intCast_mul]⟩
theorem Wh.neg {x : Rat} : Wh x → Wh (-x) := fun ⟨a, ha⟩ => ⟨-a, by rw [ha, Rat.intCast_neg]⟩
theorem Wh.nat (n : Nat) : Wh (n : Rat) := ⟨(n : Int), by rw [Rat.intCast_natCast]⟩
def Bd (k : Nat) (q : Rat) : Prop := Wh (q * (Dn k : Rat)) ∧ -(Bn k : Rat) ≤ q ∧ q ≤ (Bn k : Rat)
theorem dn_succ (k : Nat) : (Dn (k + 1) : Rat) = (Dn k : Rat) * 6 := by
  unfold Dn
  rw [Nat.pow_succ, ← Nat.mul_assoc, Rat.natCast_mul]
  rfl
theorem bn_succ (k : Nat) : (Bn (k + 1) : Rat) = (Bn k : Rat) * 4 := by
  have e : Bn (k + 1) = Bn k * 4 := by
    have h : 4 ^ (k + 1) = 4 ^ k * 4 := Nat.pow_succ 4 k
    unfold Bn
    rw [h, ← Nat.mul_assoc]
  rw [e, Rat.natCast_mul]
  rfl
theorem bn_pos (k : Nat) : (4398046511104 : Rat) ≤ (Bn k : Rat) := by
  have h : 4398046511104 ≤ Bn k := by
    unfold Bn
    have := Nat.pow_pos (n := k) (show 0 < 4 by decide)
    omega
  exact Rat.natCast_le_natCast.mpr h
theorem bd_succ {k : Nat} {q : Rat} (h : Bd k q) : Bd (k + 1) q := by
  obtain ⟨h1, h2, h3⟩ := h
  have b := bn_pos k
  refine ⟨?_, ?_, ?_⟩
  · rw [dn_succ, ← Rat.mul_assoc]
    exact h1.mul (Wh.nat 6)
  · rw [bn_succ]
    grind
  · rw [bn_succ]
    grind
theorem Bd.mono {k : Nat} {q : Rat} (h : Bd k q) : ∀ {m : Nat}, k ≤ m → Bd m q
  | 0, l => by
    have : k = 0 := by omega
    subst this
    exact h
  | m + 1, l => by
    by_cases e : k = m + 1
    · subst e
      exact h
    · exact bd_succ (h.mono (by omega))
theorem bd_zero (k : Nat) : Bd k 0 := by
  have b := bn_pos k
  refine ⟨⟨0, by rw [Rat.zero_mul]; rfl⟩, by grind, by grind⟩
theorem bd_add {k : Nat} {p q : Rat} (hp : Bd k p) (hq : Bd k q) : Bd (k + 1) (p + q) := by
  obtain ⟨h1, h2, h3⟩ := hp
  obtain ⟨g1, g2, g3⟩ := hq
  have b := bn_pos k
  refine ⟨?_, ?_, ?_⟩
  · rw [dn_succ, ← Rat.mul_assoc, Rat.add_mul]
    exact (h1.add g1).mul (Wh.nat 6)
  · rw [bn_succ]
    grind
  · rw [bn_succ]
    grind
/-- a number of few parts -/
def Few (n : Nat) (q : Rat) : Prop := Wh (q * 6) ∧ -(n : Rat) ≤ q ∧ q ≤ (n : Rat)
theorem bd_scl {k : Nat} {p q : Rat} (hp : Few 4 p) (hq : Bd k q) : Bd (k + 1) (p * q) := by
  obtain ⟨h1, h2, h3⟩ := hp
  obtain ⟨g1, g2, g3⟩ := hq
  have b := bn_pos k
  have h2' : -(4 : Rat) ≤ p := h2
  have h3' : p ≤ (4 : Rat) := h3
  have m1 := Rat.mul_nonneg (show 0 ≤ 4 - p by grind) (show 0 ≤ (Bn k : Rat) - q by grind)
  have m2 := Rat.mul_nonneg (show 0 ≤ 4 + p by grind) (show 0 ≤ (Bn k : Rat) + q by grind)
  have m3 := Rat.mul_nonneg (show 0 ≤ 4 - p by grind) (show 0 ≤ (Bn k : Rat) + q by grind)
  have m4 := Rat.mul_nonneg (show 0 ≤ 4 + p by grind) (show 0 ≤ (Bn k : Rat) - q by grind)
  refine ⟨?_, ?_, ?_⟩
  · have e : p * q * (Dn (k + 1) : Rat) = (p * 6) * (q * (Dn k : Rat)) := by
      rw [dn_succ]
      grind
    rw [e]
    exact h1.mul g1
  · rw [bn_succ]
    grind
  · rw [bn_succ]
    grind
theorem bd_few {n : Nat} {q : Rat} (h : Few n q) (hn : n ≤ 4398046511104) : Bd 0 q := by
  obtain ⟨h1, h2, h3⟩ := h
  have b := bn_pos 0
  have hn' : (n : Rat) ≤ 4398046511104 := Rat.natCast_le_natCast.mpr hn
  refine ⟨?_, by grind, by grind⟩
  have e : q * (Dn 0 : Rat) = (q * 6) * 66 := by
    show q * (396 : Rat) = (q * 6) * 66
    grind
  rw [e]
  exact h1.mul (Wh.nat 66)
theorem den_dvd {q : Rat} {n : Nat} (h : Wh (q * (n : Rat))) : q.den ∣ n := by
  obtain ⟨z, hz⟩ := h
  have e : Rat.divInt (q.num * (n : Int)) (q.den : Int) = Rat.divInt z 1 := by
    have e1 : q * (n : Rat) = Rat.divInt q.num (q.den : Int) * Rat.divInt (n : Int) 1 := by
      rw [Rat.num_divInt_den]
      congr 1
      exact (Rat.num_divInt_den (n : Rat)).symm
    rw [Rat.divInt_mul_divInt, Int.mul_one] at e1
    rw [← e1, hz]
    exact (Rat.num_divInt_den (z : Rat)).symm
  have hd := den_pos' q
  rw [Rat.divInt_eq_divInt_iff (by omega) (by decide)] at e
  have d1 : (q.den : Int) ∣ q.num * (n : Int) := ⟨z, by rw [Int.mul_one] at e; rw [e, Int.mul_comm]⟩
  have d2 : q.den ∣ q.num.natAbs * n := by
    have := Int.natAbs_dvd_natAbs.mpr d1
    rw [Int.natAbs_mul, Int.natAbs_natCast, Int.natAbs_natCast] at this
    exact this
  exact Nat.Coprime.dvd_of_dvd_mul_left q.reduced.symm d2
theorem pow_split (k : Nat) : Dn k ≤ 2 ^ (9 + 3 * k) := by
  unfold Dn
  rw [Nat.pow_add, Nat.pow_mul]
  have h := Nat.pow_le_pow_left (show 6 ≤ 2 ^ 3 by decide) k
  exact Nat.mul_le_mul (by decide) h
theorem bd_sm {k : Nat} {q : Rat} (h : Bd k q) (hk : k ≤ 250) : Sm 1400 q := by
  obtain ⟨h1, h2, h3⟩ := h
  have d1 := den_dvd h1
  have dp : 0 < Dn k := by
    unfold Dn
    have := Nat.pow_pos (n := k) (show 0 < 6 by decide)
    omega
  have d2 : q.den ≤ 2 ^ (9 + 3 * k) := Nat.le_trans (Nat.le_of_dvd dp d1) (pow_split k)
  have b2 : Bn k = 2 ^ (42 + 2 * k) := by
    unfold Bn
    rw [Nat.pow_add, Nat.pow_mul]
  have n1 : q.num ≤ (Bn k : Int) * (q.den : Int) := by
    have := (Rat.le_iff q (Bn k : Rat)).mp h3
    rw [Rat.num_natCast, Rat.den_natCast] at this
    omega
  have n2 : -((Bn k : Int) * (q.den : Int)) ≤ q.num := by
    have := (Rat.le_iff (-(Bn k : Rat)) q).mp h2
    rw [Rat.neg_num, Rat.neg_den, Rat.num_natCast, Rat.den_natCast, Int.neg_mul] at this
    omega
  have n3 : q.num.natAbs ≤ Bn k * q.den := by
    have : ((Bn k * q.den : Nat) : Int) = (Bn k : Int) * (q.den : Int) := Int.natCast_mul _ _
    omega
  have n4 : Bn k * q.den ≤ 2 ^ (42 + 2 * k) * 2 ^ (9 + 3 * k) := by
    rw [b2]
    exact Nat.mul_le_mul_left _ d2
  rw [← Nat.pow_add] at n4
  have p1 : (2 : Nat) ^ (42 + 2 * k + (9 + 3 * k)) < 2 ^ 1400 := Nat.pow_lt_pow_right (by decide) (by omega)
  have p2 : (2 : Nat) ^ (9 + 3 * k) < 2 ^ 1400 := Nat.pow_lt_pow_right (by decide) (by omega)
  exact ⟨by omega, by omega⟩

/-! ### programs -/
inductive BStep where
  | cst (q : Rat) | inp (k : Nat) | scl (q : Rat) (i : Nat) | add (i j : Nat) | mn (i j : Nat) | mx (i j : Nat) | ite (i j k : Nat)
inductive Stp where
  | b (s : BStep) | turns (m i : Nat) (body : List BStep)
def BStep.dat : BStep → PyData
  | .cst q => .tuple [.str "is", nm q]
  | .inp k => .tuple [.str "in", .int (k : Int)]
  | .scl q i => .tuple [.str "by", nm q, .int (i : Int)]
  | .add i j => .tuple [.str "sum", .int (i : Int), .int (j : Int)]
  | .mn i j => .tuple [.str "least", .int (i : Int), .int (j : Int)]
  | .mx i j => .tuple [.str "most", .int (i : Int), .int (j : Int)]
  | .ite i j k => .tuple [.str "if", .int (i : Int), .int (j : Int), .int (k : Int)]
def Stp.dat : Stp → PyData
  | .b s => s.dat
  | .turns m i body => .tuple [.str "turns", .int (m : Int), .int (i : Int), .list (body.map BStep.dat)]
theorem dat_turns (m i : Nat) (body : List BStep) : (Stp.turns m i body).dat = .tuple [.str "turns", .int (m : Int), .int (i : Int), .list ((body.map Stp.b).map Stp.dat)] := by
  rw [List.map_map]
  rfl
def dats (l : List Stp) : PyData := .list (l.map Stp.dat)
def prg (n : Nat) (l : List Stp) : PyData := .tuple [.int (n : Int), dats l]
theorem pl_bdat (s : BStep) : Pl s.dat := by
  cases s <;> (unfold BStep.dat; refine .tup ?_; repeat first | exact PlA.nil | refine PlA.cons ?_ ?_ | exact .int _ | exact .str _ | exact pl_nm _)

/-- n times -/
def iter {α : Type} (f : α → α) : Nat → α → α
  | 0, x => x
  | n + 1, x => f (iter f n x)
def gq (l : List Rat) (i : Nat) : Rat := l.getD i 0
def bev (pl fd : List Rat) : BStep → Rat
  | .cst q => q
  | .inp k => gq pl k
  | .scl q i => q * gq fd i
  | .add i j => gq fd i + gq fd j
  | .mn i j => if gq fd i ≤ gq fd j then gq fd i else gq fd j
  | .mx i j => if gq fd i ≤ gq fd j then gq fd j else gq fd i
  | .ite i j k => if gq fd i ≤ 0 then gq fd j else gq fd k
def sev (inner : List BStep → Rat → Rat) (pl fd : List Rat) : Stp → Rat
  | .b s => bev pl fd s
  | .turns m i body => iter (inner body) m (gq fd i)
/-- one behind the other, each by those ahead -/
def runs {α : Type} (f : List α → Stp → α) : List Stp → List α → List α
  | [], fd => fd
  | s :: l, fd => runs f l (fd ++ [f fd s])
def wos (inner : List BStep → Rat → Rat) (pl : List Rat) (l : List Stp) : List Rat := runs (sev inner pl) l []
def inn (inner : List BStep → Rat → Rat) (body : List BStep) (w : Rat) : Rat := (wos inner [w] (body.map Stp.b)).getLastD 0
def inn0 : List BStep → Rat → Rat := inn (inn fun _ _ => 0)
theorem runs_app {α : Type} (f : List α → Stp → α) : ∀ (l : List Stp) (fd : List α) (s : Stp), runs f (l ++ [s]) fd = runs f l fd ++ [f (runs f l fd) s]
  | [], _, _ => rfl
  | x :: l, fd, s => runs_app f l (fd ++ [f fd x]) s
theorem runs_len {α : Type} (f : List α → Stp → α) : ∀ (l : List Stp) (fd : List α), (runs f l fd).length = fd.length + l.length
  | [], _ => rfl
  | x :: l, fd => by
    show (runs f l (fd ++ [f fd x])).length = fd.length + (l.length + 1)
    rw [runs_len f l, List.length_append, List.length_singleton]
    omega
theorem wos_take {inner : List BStep → Rat → Rat} {pl : List Rat} {l : List Stp} {i : Nat} {s : Stp} (h : l[i]? = some s) : wos inner pl (l.take (i + 1)) = wos inner pl (l.take i) ++ [sev inner pl (wos inner pl (l.take i)) s] := by
  rw [List.take_add_one, h]
  exact runs_app _ _ _ _
theorem wos_len (inner : List BStep → Rat → Rat) (pl : List Rat) (l : List Stp) : (wos inner pl l).length = l.length := by
  unfold wos
  rw [runs_len]
  exact Nat.zero_add _

/-! ### marks -/
inductive Mk where
  | lv | st | dn | up | no
  deriving DecidableEq
def Mk.str : Mk → Str
  | .lv => "level"
  | .st => "straight"
  | .dn => "down"
  | .up => "up"
  | .no => "none"
def Mk.dat (m : Mk) : PyData := .str m.str
def mixS (a b : Mk) : Mk :=
  if a = .no ∨ b = .no then .no
  else if (a = .up ∨ b = .up) ∧ (a = .dn ∨ b = .dn) then .no
  else if a = .lv ∧ b = .lv then .lv
  else if a = .dn ∨ b = .dn then .dn
  else if a = .up ∨ b = .up then .up else .st
def mixD (a b : Mk) : Mk := if a = .no ∨ b = .no then .no else if a = .lv ∧ b = .lv then .lv else if a = .up ∨ b = .up then .no else .dn
def mixU (a b : Mk) : Mk := if a = .no ∨ b = .no then .no else if a = .lv ∧ b = .lv then .lv else if a = .dn ∨ b = .dn then .no else .up
def sclM (m : Mk) (q : Rat) : Mk := if q.num = 0 then .lv else if q.num > 0 ∨ (m ≠ .dn ∧ m ≠ .up) then m else if m = .dn then .up else .dn
def gm (l : List Mk) (i : Nat) : Mk := l.getD i .lv
def bmk (bg : Mk) (fd : List Mk) : BStep → Mk
  | .cst _ => .lv
  | .inp _ => bg
  | .scl q i => sclM (gm fd i) q
  | .add i j => mixS (gm fd i) (gm fd j)
  | .mn i j => if i = j then gm fd i else mixU (gm fd i) (gm fd j)
  | .mx i j => if i = j then gm fd i else mixD (gm fd i) (gm fd j)
  | .ite _ j k => if j = k then gm fd j else .no
def smk (inner : List BStep → Mk → Mk) (bg : Mk) (fd : List Mk) : Stp → Mk
  | .b s => bmk bg fd s
  | .turns m i body => iter (inner body) m (gm fd i)
def mks (inner : List BStep → Mk → Mk) (bg : Mk) (l : List Stp) : List Mk := runs (smk inner bg) l []
def inm (inner : List BStep → Mk → Mk) (body : List BStep) (m : Mk) : Mk := (mks inner m (body.map Stp.b)).getLastD .lv
def inm0 : List BStep → Mk → Mk := inm (inm fun _ _ => .lv)
theorem mks_take {inner : List BStep → Mk → Mk} {bg : Mk} {l : List Stp} {i : Nat} {s : Stp} (h : l[i]? = some s) : mks inner bg (l.take (i + 1)) = mks inner bg (l.take i) ++ [smk inner bg (mks inner bg (l.take i)) s] := by
  rw [List.take_add_one, h]
  exact runs_app _ _ _ _
theorem mks_len (inner : List BStep → Mk → Mk) (bg : Mk) (l : List Stp) : (mks inner bg l).length = l.length := by
  unfold mks
  rw [runs_len]
  exact Nat.zero_add _

/-! ### marks tell the worths between two places -/
def Rel (t : Rat) (m : Mk) (a b c : Rat) : Prop :=
  match m with
  | .lv => a = b ∧ c = (1 - t) * a + t * b
  | .st => c = (1 - t) * a + t * b
  | .dn => c ≤ (1 - t) * a + t * b
  | .up => (1 - t) * a + t * b ≤ c
  | .no => True
section
variable {t : Rat} (h0 : 0 < t) (h1 : t < 1)
theorem rel_zero (m : Mk) : Rel t m 0 0 0 := by cases m <;> simp only [Rel] <;> grind
include h0 h1 in
theorem rel_add {m n : Mk} {a b c a' b' c' : Rat} (h : Rel t m a b c) (h' : Rel t n a' b' c') : Rel t (mixS m n) (a + a') (b + b') (c + c') := by
  cases m <;> cases n <;> simp only [mixS, Rel] at * <;> grind
include h0 h1 in
theorem rel_scl {m : Mk} {q a b c : Rat} (h : Rel t m a b c) : Rel t (sclM m q) (q * a) (q * b) (q * c) := by
  unfold sclM
  split
  · rename_i e
    have e' : q = 0 := Rat.num_eq_zero.mp e
    subst e'
    simp only [Rel]
    grind
  · rename_i ne
    have key : ∀ x y : Rat, 0 ≤ q → x ≤ y → q * x ≤ q * y := fun x y hq hxy => Rat.mul_le_mul_of_nonneg_left hxy hq
    have key' : ∀ x y : Rat, q ≤ 0 → x ≤ y → q * y ≤ q * x := fun x y hq hxy => by
      have := Rat.mul_le_mul_of_nonneg_left hxy (show 0 ≤ -q by grind)
      grind
    by_cases hq : q.num > 0
    · have q0 : 0 ≤ q := Rat.num_nonneg.mp (by omega)
      rw [if_pos (Or.inl hq)]
      cases m <;> simp only [Rel] at *
      · grind
      · grind
      · have := key _ _ q0 h
        grind
      · have := key _ _ q0 h
        grind
    · have q0 : q ≤ 0 := by
        rw [Rat.le_iff]
        simp only [Rat.zero_num, Rat.zero_den]
        omega
      cases m
      · rw [if_pos (Or.inr ⟨by decide, by decide⟩)]
        simp only [Rel] at *
        grind
      · rw [if_pos (Or.inr ⟨by decide, by decide⟩)]
        simp only [Rel] at *
        grind
      · rw [if_neg (by rintro (z | z); exact hq z; exact z.1 rfl), if_pos rfl]
        simp only [Rel] at *
        have := key' _ _ q0 h
        grind
      · rw [if_neg (by rintro (z | z); exact hq z; exact z.2 rfl), if_neg (by decide)]
        simp only [Rel] at *
        have := key' _ _ q0 h
        grind
      · rw [if_pos (Or.inr ⟨by decide, by decide⟩)]
        trivial
def mxq (a b : Rat) : Rat := if a ≤ b then b else a
def mnq (a b : Rat) : Rat := if a ≤ b then a else b
theorem mx_l (a b : Rat) : a ≤ mxq a b := by unfold mxq; grind
theorem mx_r (a b : Rat) : b ≤ mxq a b := by unfold mxq; grind
theorem mn_l (a b : Rat) : mnq a b ≤ a := by unfold mnq; grind
theorem mn_r (a b : Rat) : mnq a b ≤ b := by unfold mnq; grind
theorem mx_le {a b c : Rat} (h : a ≤ c) (h' : b ≤ c) : mxq a b ≤ c := by unfold mxq; grind
theorem le_mn {a b c : Rat} (h : c ≤ a) (h' : c ≤ b) : c ≤ mnq a b := by unfold mnq; grind
/-- no more than the line -/
def Dw (t a b c : Rat) : Prop := c ≤ (1 - t) * a + t * b
def Uw (t a b c : Rat) : Prop := (1 - t) * a + t * b ≤ c
theorem rel_dw {m : Mk} {a b c : Rat} (h : Rel t m a b c) (n : m ≠ .no) (u : m ≠ .up) : Dw t a b c := by
  cases m <;> simp only [Rel, Dw] at * <;> grind
theorem rel_uw {m : Mk} {a b c : Rat} (h : Rel t m a b c) (n : m ≠ .no) (u : m ≠ .dn) : Uw t a b c := by
  cases m <;> simp only [Rel, Uw] at * <;> grind
include h0 h1 in
theorem dw_mx {a b c a' b' c' : Rat} (h : Dw t a b c) (h' : Dw t a' b' c') : Dw t (mxq a a') (mxq b b') (mxq c c') := by
  unfold Dw at *
  have k1 := Rat.mul_le_mul_of_nonneg_left (mx_l a a') (show 0 ≤ 1 - t by grind)
  have k2 := Rat.mul_le_mul_of_nonneg_left (mx_r a a') (show 0 ≤ 1 - t by grind)
  have k3 := Rat.mul_le_mul_of_nonneg_left (mx_l b b') (show 0 ≤ t by grind)
  have k4 := Rat.mul_le_mul_of_nonneg_left (mx_r b b') (show 0 ≤ t by grind)
  exact mx_le (by grind) (by grind)
include h0 h1 in
theorem uw_mn {a b c a' b' c' : Rat} (h : Uw t a b c) (h' : Uw t a' b' c') : Uw t (mnq a a') (mnq b b') (mnq c c') := by
  unfold Uw at *
  have k1 := Rat.mul_le_mul_of_nonneg_left (mn_l a a') (show 0 ≤ 1 - t by grind)
  have k2 := Rat.mul_le_mul_of_nonneg_left (mn_r a a') (show 0 ≤ 1 - t by grind)
  have k3 := Rat.mul_le_mul_of_nonneg_left (mn_l b b') (show 0 ≤ t by grind)
  have k4 := Rat.mul_le_mul_of_nonneg_left (mn_r b b') (show 0 ≤ t by grind)
  exact le_mn (by grind) (by grind)
include h0 h1 in
theorem rel_mx {m n : Mk} {a b c a' b' c' : Rat} (h : Rel t m a b c) (h' : Rel t n a' b' c') : Rel t (mixD m n) (mxq a a') (mxq b b') (mxq c c') := by
  unfold mixD
  split
  · trivial
  · rename_i e1
    split
    · rename_i e2
      obtain ⟨rfl, rfl⟩ := e2
      simp only [Rel] at *
      obtain ⟨rfl, h⟩ := h
      obtain ⟨rfl, h'⟩ := h'
      have e : c = a := by grind
      have e' : c' = a' := by grind
      subst e e'
      exact ⟨rfl, by grind⟩
    · split
      · trivial
      · rename_i e3
        have k := dw_mx h0 h1 (rel_dw h (fun z => e1 (.inl z)) (fun z => e3 (.inl z))) (rel_dw h' (fun z => e1 (.inr z)) (fun z => e3 (.inr z)))
        exact k
include h0 h1 in
theorem rel_mn {m n : Mk} {a b c a' b' c' : Rat} (h : Rel t m a b c) (h' : Rel t n a' b' c') : Rel t (mixU m n) (mnq a a') (mnq b b') (mnq c c') := by
  unfold mixU
  split
  · trivial
  · rename_i e1
    split
    · rename_i e2
      obtain ⟨rfl, rfl⟩ := e2
      simp only [Rel] at *
      obtain ⟨rfl, h⟩ := h
      obtain ⟨rfl, h'⟩ := h'
      have e : c = a := by grind
      have e' : c' = a' := by grind
      subst e e'
      exact ⟨rfl, by grind⟩
    · split
      · trivial
      · rename_i e3
        have k := uw_mn h0 h1 (rel_uw h (fun z => e1 (.inl z)) (fun z => e3 (.inl z))) (rel_uw h' (fun z => e1 (.inr z)) (fun z => e3 (.inr z)))
        exact k
/-- all steps so far -/
def RelA (t : Rat) (ms : List Mk) (as bs cs : List Rat) : Prop := ∀ i, Rel t (gm ms i) (gq as i) (gq bs i) (gq cs i)
theorem mxq_self (a : Rat) : mxq a a = a := by unfold mxq; grind
theorem mnq_self (a : Rat) : mnq a a = a := by unfold mnq; grind
include h0 h1 in
theorem rel_bev {bg : Mk} {ms : List Mk} {pa pb pc as bs cs : List Rat} (hp : ∀ i, Rel t bg (gq pa i) (gq pb i) (gq pc i)) (h : RelA t ms as bs cs) (s : BStep) : Rel t (bmk bg ms s) (bev pa as s) (bev pb bs s) (bev pc cs s) := by
  cases s with
  | cst q =>
    simp only [bmk, bev, Rel]
    grind
  | inp k => exact hp k
  | scl q i => exact rel_scl h0 h1 (h i)
  | add i j => exact rel_add h0 h1 (h i) (h j)
  | mn i j =>
    show Rel t (if i = j then gm ms i else mixU (gm ms i) (gm ms j)) (mnq _ _) (mnq _ _) (mnq _ _)
    split
    · rename_i e
      subst e
      rw [mnq_self, mnq_self, mnq_self]
      exact h i
    · exact rel_mn h0 h1 (h i) (h j)
  | mx i j =>
    show Rel t (if i = j then gm ms i else mixD (gm ms i) (gm ms j)) (mxq _ _) (mxq _ _) (mxq _ _)
    split
    · rename_i e
      subst e
      rw [mxq_self, mxq_self, mxq_self]
      exact h i
    · exact rel_mx h0 h1 (h i) (h j)
  | ite i j k =>
    show Rel t (if j = k then gm ms j else .no) (if gq as i ≤ 0 then gq as j else gq as k) (if gq bs i ≤ 0 then gq bs j else gq bs k) (if gq cs i ≤ 0 then gq cs j else gq cs k)
    split
    · rename_i e
      subst e
      rw [ite_self, ite_self, ite_self]
      exact h j
    · trivial
end

theorem gq_app {l l' : List Rat} {x x' : Rat} (i : Nat) : gq (l ++ [x]) i = if i < l.length then gq l i else if i = l.length then x else 0 := by
  unfold gq
  rw [List.getD_eq_getElem?_getD, List.getD_eq_getElem?_getD]
  by_cases h : i < l.length
  · rw [if_pos h, List.getElem?_append_left h]
  · rw [if_neg h, List.getElem?_append_right (by omega)]
    by_cases e : i = l.length
    · rw [if_pos e, e, Nat.sub_self]
      rfl
    · rw [if_neg e]
      have : i - l.length = (i - l.length - 1) + 1 := by omega
      rw [this]
      rfl
theorem gm_app {l : List Mk} {x : Mk} (i : Nat) : gm (l ++ [x]) i = if i < l.length then gm l i else if i = l.length then x else .lv := by
  unfold gm
  rw [List.getD_eq_getElem?_getD, List.getD_eq_getElem?_getD]
  by_cases h : i < l.length
  · rw [if_pos h, List.getElem?_append_left h]
  · rw [if_neg h, List.getElem?_append_right (by omega)]
    by_cases e : i = l.length
    · rw [if_pos e, e, Nat.sub_self]
      rfl
    · rw [if_neg e]
      have : i - l.length = (i - l.length - 1) + 1 := by omega
      rw [this]
      rfl
theorem relA_app {t : Rat} {ms : List Mk} {as bs cs : List Rat} {m : Mk} {a b c : Rat} (h : RelA t ms as bs cs) (e1 : as.length = ms.length) (e2 : bs.length = ms.length) (e3 : cs.length = ms.length) (r : Rel t m a b c) :
    RelA t (ms ++ [m]) (as ++ [a]) (bs ++ [b]) (cs ++ [c]) := fun i => by
  rw [gm_app, gq_app (l' := as) (x' := a), gq_app (l' := as) (x' := a), gq_app (l' := as) (x' := a), e1, e2, e3]
  split
  · exact h i
  · split
    · exact r
    · exact rel_zero _
theorem iter_rel {t : Rat} {f : Mk → Mk} {g : Rat → Rat} (h : ∀ m a b c, Rel t m a b c → Rel t (f m) (g a) (g b) (g c)) : ∀ (n : Nat) {m : Mk} {a b c : Rat}, Rel t m a b c → Rel t (iter f n m) (iter g n a) (iter g n b) (iter g n c)
  | 0, _, _, _, _, r => r
  | n + 1, _, _, _, _, r => h _ _ _ _ (iter_rel h n r)
section
variable {t : Rat} (h0 : 0 < t) (h1 : t < 1)
def InR (t : Rat) (im : List BStep → Mk → Mk) (iw : List BStep → Rat → Rat) : Prop := ∀ body m a b c, Rel t m a b c → Rel t (im body m) (iw body a) (iw body b) (iw body c)
include h0 h1 in
theorem rel_runs {im : List BStep → Mk → Mk} {iw : List BStep → Rat → Rat} (hI : InR t im iw) {bg : Mk} {pa pb pc : List Rat} (hp : ∀ i, Rel t bg (gq pa i) (gq pb i) (gq pc i)) :
    ∀ (l : List Stp) (ms : List Mk) (as bs cs : List Rat), RelA t ms as bs cs → as.length = ms.length → bs.length = ms.length → cs.length = ms.length →
      RelA t (runs (smk im bg) l ms) (runs (sev iw pa) l as) (runs (sev iw pb) l bs) (runs (sev iw pc) l cs)
  | [], _, _, _, _, h, _, _, _ => h
  | s :: l, ms, as, bs, cs, h, e1, e2, e3 => by
    refine rel_runs hI hp l _ _ _ _ (relA_app h e1 e2 e3 ?_) (by simp [e1]) (by simp [e2]) (by simp [e3])
    cases s with
    | b s => exact rel_bev h0 h1 hp h s
    | turns m i body => exact iter_rel (hI body) m (h i)
theorem last_q (l : List Rat) : l.getLastD 0 = gq l (l.length - 1) := by
  unfold gq
  rw [List.getLastD_eq_getLast?, List.getLast?_eq_getElem?, List.getD_eq_getElem?_getD]
theorem last_m (l : List Mk) : l.getLastD .lv = gm l (l.length - 1) := by
  unfold gm
  rw [List.getLastD_eq_getLast?, List.getLast?_eq_getElem?, List.getD_eq_getElem?_getD]
include h0 h1 in
theorem inR_inn {im : List BStep → Mk → Mk} {iw : List BStep → Rat → Rat} (hI : InR t im iw) : InR t (inm im) (inn iw) := fun body m a b c r => by
  unfold inm inn
  rw [last_m, last_q, last_q, last_q, mks_len, wos_len, wos_len, wos_len]
  refine rel_runs h0 h1 hI (fun i => ?_) _ [] [] [] [] (fun i => rel_zero _) rfl rfl rfl _
  cases i with
  | zero => exact r
  | succ i => exact rel_zero _
include h0 h1 in
theorem inR_0 : InR t inm0 inn0 := inR_inn h0 h1 (inR_inn h0 h1 fun _ _ _ _ _ _ => rel_zero _)
include h0 h1 in
theorem marks_tell {l : List Stp} {pa pb pc : List Rat} (hp : ∀ i, gq pc i = (1 - t) * gq pa i + t * gq pb i) : RelA t (mks inm0 .st l) (wos inn0 pa l) (wos inn0 pb l) (wos inn0 pc l) :=
  rel_runs h0 h1 (inR_0 h0 h1) (bg := .st) (pa := pa) (pb := pb) (pc := pc) (fun i => hp i) _ [] [] [] [] (fun i => rel_zero _) rfl rfl rfl
end

/-! ### programs in order, their size -/
def okB (n a : Nat) : BStep → Prop
  | .cst q => Few 5 q
  | .inp k => k < n
  | .scl q i => Few 4 q ∧ i < a
  | .add i j => i < a ∧ j < a
  | .mn i j => i < a ∧ j < a
  | .mx i j => i < a ∧ j < a
  | .ite i j k => i < a ∧ j < a ∧ k < a
def okS (n a : Nat) : Stp → Prop
  | .b s => okB n a s
  | .turns m i body => m ≤ 6 ∧ i < a ∧ body ≠ [] ∧ body.length ≤ 120 ∧ ∀ (j : Nat) s, body[j]? = some s → okB 1 j s
def okL (n : Nat) (l : List Stp) : Prop := ∀ (i : Nat) s, l[i]? = some s → okS n i s
def flatS : Stp → Prop
  | .b _ => True
  | .turns _ _ _ => False
def chB : BStep → Nat
  | .mn _ _ => 1
  | .mx _ _ => 1
  | .ite _ _ _ => 1
  | _ => 0
def chBs (l : List BStep) : Nat := (l.map chB).sum
def cost : Stp → Nat
  | .b _ => 1
  | .turns m _ body => 1 + m * body.length
def chc : Stp → Nat
  | .b s => chB s
  | .turns m _ body => m * chBs body
def costs (l : List Stp) : Nat := (l.map cost).sum
def chcs (l : List Stp) : Nat := (l.map chc).sum
theorem costs_b (l : List BStep) : costs (l.map Stp.b) = l.length := by
  unfold costs
  induction l with
  | nil => rfl
  | cons s l ih =>
    rw [List.map_cons, List.map_cons, List.sum_cons, ih, List.length_cons]
    show 1 + l.length = l.length + 1
    omega
theorem chcs_b (l : List BStep) : chcs (l.map Stp.b) = chBs l := by
  unfold chcs chBs
  rw [List.map_map]
  rfl
theorem okL_b {body : List BStep} (h : ∀ (j : Nat) s, body[j]? = some s → okB 1 j s) : okL 1 (body.map Stp.b) := fun i s e => by
  rw [List.getElem?_map] at e
  cases q : body[i]? with
  | none =>
    rw [q] at e
    cases e
  | some x =>
    rw [q] at e
    cases e
    exact h i x q
def AllB (k : Nat) (l : List Rat) : Prop := ∀ i, Bd k (gq l i)
theorem allB_of {k : Nat} {l : List Rat} (h : ∀ q ∈ l, Bd k q) : AllB k l := fun i => by
  unfold gq
  rw [List.getD_eq_getElem?_getD]
  cases e : l[i]? with
  | none => exact bd_zero k
  | some x => exact h x (List.mem_of_getElem? e)
theorem AllB.mem {k : Nat} {l : List Rat} (h : AllB k l) {q : Rat} (hq : q ∈ l) : Bd k q := by
  obtain ⟨i, hi⟩ := List.getElem?_of_mem hq
  have := h i
  unfold gq at this
  rw [List.getD_eq_getElem?_getD, hi] at this
  exact this
theorem AllB.mono {k m : Nat} {l : List Rat} (h : AllB k l) (e : k ≤ m) : AllB m l := fun i => (h i).mono e
theorem allB_app {k : Nat} {l : List Rat} {x : Rat} (h : AllB k l) (hx : Bd k x) : AllB k (l ++ [x]) := fun i => by
  rw [gq_app (l' := l) (x' := x)]
  split
  · exact h i
  · split
    · exact hx
    · exact bd_zero k
theorem bev_bd {n a k : Nat} {pl fd : List Rat} {s : BStep} (ho : okB n a s) (hp : AllB k pl) (hf : AllB k fd) : Bd (k + 1) (bev pl fd s) := by
  cases s with
  | cst q => exact (bd_few ho (by decide)).mono (by omega)
  | inp i => exact bd_succ (hp i)
  | scl q i => exact bd_scl ho.1 (hf i)
  | add i j => exact bd_add (hf i) (hf j)
  | mn i j =>
    show Bd (k + 1) (if _ then _ else _)
    split
    · exact bd_succ (hf i)
    · exact bd_succ (hf j)
  | mx i j =>
    show Bd (k + 1) (if _ then _ else _)
    split
    · exact bd_succ (hf j)
    · exact bd_succ (hf i)
  | ite i j l =>
    show Bd (k + 1) (if _ then _ else _)
    split
    · exact bd_succ (hf j)
    · exact bd_succ (hf l)
/-- a body's bound: each run adds its length -/
def InB (iw : List BStep → Rat → Rat) (s : Stp) : Prop := match s with
  | .b _ => True
  | .turns _ _ body => ∀ k w, Bd k w → Bd (k + body.length) (iw body w)
theorem iter_bd {f : Rat → Rat} {c : Nat} (h : ∀ k w, Bd k w → Bd (k + c) (f w)) : ∀ (n : Nat) {k : Nat} {w : Rat}, Bd k w → Bd (k + n * c) (iter f n w)
  | 0, k, w, r => by
    rw [Nat.zero_mul]
    exact r
  | n + 1, k, w, r => by
    have := h _ _ (iter_bd h n r)
    rw [Nat.succ_mul, ← Nat.add_assoc]
    exact this
theorem sev_bd {iw : List BStep → Rat → Rat} {n a k : Nat} {pl fd : List Rat} {s : Stp} (ho : okS n a s) (hI : InB iw s) (hp : AllB k pl) (hf : AllB k fd) : Bd (k + cost s) (sev iw pl fd s) := by
  cases s with
  | b s => exact bev_bd ho hp hf
  | turns m i body =>
    have := iter_bd hI m (hf i)
    exact this.mono (by show _ ≤ k + (1 + m * body.length); omega)
theorem runs_bd {iw : List BStep → Rat → Rat} {pl : List Rat} : ∀ (l : List Stp) (k : Nat) (fd : List Rat), (∀ s ∈ l, (∃ n a, okS n a s) ∧ InB iw s) → AllB k pl → AllB k fd → AllB (k + costs l) (runs (sev iw pl) l fd)
  | [], k, fd, _, _, hf => hf
  | s :: l, k, fd, ho, hp, hf => by
    obtain ⟨⟨n, a, o⟩, hI⟩ := ho s List.mem_cons_self
    have h1 := sev_bd o hI hp hf
    have h2 := runs_bd l (k + cost s) (fd ++ [sev iw pl fd s]) (fun x hx => ho x (List.mem_cons_of_mem _ hx)) (hp.mono (by omega)) (allB_app (hf.mono (by omega)) h1)
    have e : k + costs (s :: l) = k + cost s + costs l := by
      unfold costs
      rw [List.map_cons, List.sum_cons]
      omega
    rw [e]
    exact h2
theorem wos_bd {iw : List BStep → Rat → Rat} {pl : List Rat} {l : List Stp} {k : Nat} (ho : ∀ s ∈ l, (∃ n a, okS n a s) ∧ InB iw s) (hp : AllB k pl) : AllB (k + costs l) (wos iw pl l) :=
  runs_bd l k [] ho hp fun i => bd_zero k
theorem okL.each {n : Nat} {l : List Stp} (h : okL n l) : ∀ s ∈ l, ∃ n a, okS n a s := fun s hs => by
  obtain ⟨i, hi⟩ := List.getElem?_of_mem hs
  exact ⟨n, i, h i s hi⟩
theorem inn_bd {iw : List BStep → Rat → Rat} {body : List BStep} (h : ∀ (j : Nat) s, body[j]? = some s → okB 1 j s) {k : Nat} {w : Rat} (hw : Bd k w) : Bd (k + body.length) (inn iw body w) := by
  have hp : AllB k [w] := allB_of fun q hq => by
    rw [List.mem_singleton.mp hq]
    exact hw
  have := wos_bd (iw := iw) (l := body.map Stp.b) (fun s hs => ⟨(okL_b h).each s hs, by
    obtain ⟨x, _, rfl⟩ := List.mem_map.mp hs
    trivial⟩) hp
  rw [costs_b] at this
  unfold inn
  rw [last_q]
  exact this _
theorem inB_inn {iw : List BStep → Rat → Rat} {n a : Nat} {s : Stp} (h : okS n a s) : InB (inn iw) s := by
  cases s with
  | b s => trivial
  | turns m i body => exact fun k w hw => inn_bd h.2.2.2.2 hw
theorem costs_take {l : List Stp} {i : Nat} {s : Stp} (h : l[i]? = some s) : costs (l.take (i + 1)) = costs (l.take i) + cost s := by
  unfold costs
  rw [List.take_add_one, h, List.map_append, List.sum_append]
  show _ + (cost s + 0) = _
  rw [Nat.add_zero]
theorem costs_le (l : List Stp) (i : Nat) : costs (l.take i) ≤ costs l := by
  have e : costs l = costs (l.take i) + costs (l.drop i) := by
    unfold costs
    rw [← List.sum_append, ← List.map_append, List.take_append_drop]
  omega
theorem chcs_take {l : List Stp} {i : Nat} {s : Stp} (h : l[i]? = some s) : chcs (l.take (i + 1)) = chcs (l.take i) + chc s := by
  unfold chcs
  rw [List.take_add_one, h, List.map_append, List.sum_append]
  show _ + (chc s + 0) = _
  rw [Nat.add_zero]

/-! ### sizes for the products -/
open L2 in
theorem cm_lt {i j : Int} {a b : Nat} (hi : i.natAbs < 2 ^ a) (hj : j.natAbs < 2 ^ b) (ha : a ≤ 200000) (hb : b ≤ 200000) : CMulW i j :=
  wide_mul (a := a + 1) (b := b + 1) (Nat.lt_of_lt_of_le hi (Nat.pow_le_pow_right (by decide) (by omega))) (Nat.lt_of_lt_of_le hj (Nat.pow_le_pow_right (by decide) (by omega))) (by omega) (by omega) (by omega)
section
open L2
variable {p q : Rat} (hp : Sm 4000 p) (hq : Sm 4000 q)
include hp hq
theorem sm_nd : CMulW p.num (q.den : Int) := cm_lt hp.1 (by rw [Int.natAbs_natCast]; exact hq.2) (by decide) (by decide)
theorem sm_nn : CMulW p.num q.num := cm_lt hp.1 hq.1 (by decide) (by decide)
theorem sm_dd : CMulW (p.den : Int) (q.den : Int) := cm_lt (by rw [Int.natAbs_natCast]; exact hp.2) (by rw [Int.natAbs_natCast]; exact hq.2) (by decide) (by decide)
theorem sm_pre : 0 < (p.den : Int) * (q.den : Int) ∧ Lt2 8500 ((p.den : Int) * (q.den : Int)).natAbs := by
  refine ⟨Int.mul_pos (den_pos' p) (den_pos' q), ⟨?_⟩⟩
  rw [Int.natAbs_mul, Int.natAbs_natCast, Int.natAbs_natCast]
  exact Nat.lt_of_lt_of_le (nat_mul_lt hp.2 hq.2) (Nat.pow_le_pow_right (by decide) (by decide))
end
theorem cm_small {i j : Int} (hi : i.natAbs < 2 ^ 64) (hj : j.natAbs < 2 ^ 700) : L2.CMulW i j := cm_lt hi hj (by decide) (by decide)

/-! ### drawn numbers -/
def sden (n : Int) : Int := if n / 3 % 4 = 2 then 2 else if n / 3 % 4 = 3 then 3 else 1
theorem sden_is (n : Int) : sden n = 1 ∨ sden n = 2 ∨ sden n = 3 := by
  unfold sden
  split
  · exact .inr (.inl rfl)
  · split
    · exact .inr (.inr rfl)
    · exact .inl rfl
def share (n w : Int) : Rat := Rat.divInt (n / 7 % (2 * w + 1) - w) (sden n)
theorem divInt_mul {a d : Int} (h : d ≠ 0) : Rat.divInt a d * (d : Rat) = (a : Rat) := by
  rw [Rat.divInt_eq_div, Rat.div_mul_cancel]
  intro e
  exact h (by exact Rat.intCast_eq_zero_iff.mp e)
theorem few_div {a d : Int} {w : Nat} (hd : d = 1 ∨ d = 2 ∨ d = 3) (h1 : -(w : Int) ≤ a) (h2 : a ≤ (w : Int)) : Few w (Rat.divInt a d) := by
  have b1 : -(w : Rat) ≤ (a : Rat) := by
    have := Rat.intCast_le_intCast.mpr h1
    rw [Rat.intCast_neg, Rat.intCast_natCast] at this
    exact this
  have b2 : (a : Rat) ≤ (w : Rat) := by
    have := Rat.intCast_le_intCast.mpr h2
    rw [Rat.intCast_natCast] at this
    exact this
  have b0 : (0 : Rat) ≤ (w : Rat) := Rat.natCast_nonneg
  rcases hd with rfl | rfl | rfl
  · have e := divInt_mul (a := a) (d := 1) (by decide)
    have e' : Rat.divInt a 1 * 1 = (a : Rat) := e
    refine ⟨⟨a * 6, ?_⟩, by grind, by grind⟩
    rw [Rat.intCast_mul]
    have : ((6 : Int) : Rat) = 6 := rfl
    rw [this]
    grind
  · have e := divInt_mul (a := a) (d := 2) (by decide)
    have e' : Rat.divInt a 2 * 2 = (a : Rat) := e
    refine ⟨⟨a * 3, ?_⟩, by grind, by grind⟩
    rw [Rat.intCast_mul]
    have : ((3 : Int) : Rat) = 3 := rfl
    rw [this]
    grind
  · have e := divInt_mul (a := a) (d := 3) (by decide)
    have e' : Rat.divInt a 3 * 3 = (a : Rat) := e
    refine ⟨⟨a * 2, ?_⟩, by grind, by grind⟩
    rw [Rat.intCast_mul]
    have : ((2 : Int) : Rat) = 2 := rfl
    rw [this]
    grind
theorem share_few (n : Int) (w : Nat) : Few w (share n (w : Int)) := by
  have h := Int.emod_nonneg (n / 7) (show 2 * (w : Int) + 1 ≠ 0 by omega)
  have h' := Int.emod_lt_of_pos (n / 7) (show 0 < 2 * (w : Int) + 1 by omega)
  exact few_div (sden_is n) (by omega) (by omega)
theorem Few.mono {m n : Nat} {q : Rat} (h : Few m q) (l : m ≤ n) : Few n q := by
  obtain ⟨a, b, c⟩ := h
  have := Rat.natCast_le_natCast.mpr l
  exact ⟨a, by grind, by grind⟩
def numM (c at_ wh : Int) : Int :=
  let cell := if 1000000000000000000000000000000000000000000000000000000000000 ≤ (if c < 0 then -c else c) then c % 1000000000000000000 else c
  if 1000000000000000000 ≤ cell then cell / (1 + at_ % 7)
  else
    let blend := ((cell + 977 * at_) * 48271 + wh) % 2147483647
    blend * (cell + 31 * at_ + 7) * (blend + cell + 5) * (blend * blend + 11) / (1009 + at_)

theorem Sm.big {q : Rat} (h : Sm 1400 q) : Sm 4000 q := h.mono (by decide)
theorem AllB.sm {k : Nat} {l : List Rat} (h : AllB k l) (hk : k ≤ 250) (i : Nat) : Sm 4000 (gq l i) := (bd_sm (h i) hk).big
theorem few_sm {n : Nat} {q : Rat} (h : Few n q) (hn : n ≤ 4398046511104) : Sm 4000 q := (bd_sm (bd_few h hn) (by decide)).big
/-- a program in order -/
structure OkP (n : Nat) (l : List Stp) : Prop where
  n1 : 1 ≤ n
  n3 : n ≤ 3
  ok : okL n l
  ne : l ≠ []
  len : l.length ≤ 120
  run : costs l ≤ 120
  chs : chcs l ≤ 8
theorem ix_map {l : List Rat} {i : Nat} (h : i < l.length) : ixD (.list (l.map nm)) (.int (i : Int)) = some (nm (gq l i)) := by
  show L2.atI (l.map nm) (i : Int) = _
  refine L2.atI_nat ?_
  rw [List.getElem?_map, List.getElem?_eq_getElem h]
  unfold gq
  rw [List.getD_eq_getElem?_getD, List.getElem?_eq_getElem h]
  rfl
theorem ix_last {l : List Rat} (h : l ≠ []) : ixD (.list (l.map nm)) (.int (-1)) = some (nm (l.getLastD 0)) := by
  show L2.atI (l.map nm) (-1) = _
  have e := List.dropLast_concat_getLast h
  rw [← e, List.map_append]
  rw [show [l.getLast h].map nm = [nm (l.getLast h)] from rfl, L2.atI_last]
  simp
theorem wos_ne {inner : List BStep → Rat → Rat} {pl : List Rat} {l : List Stp} (h : l ≠ []) : wos inner pl l ≠ [] := fun e => by
  have := wos_len inner pl l
  rw [e] at this
  exact h (List.length_eq_zero_iff.mp this.symm)
theorem num_le_zero (q : Rat) : q.num ≤ 0 ↔ q ≤ 0 := by
  rw [Rat.le_iff]
  simp only [Rat.zero_num, Rat.zero_den]
  omega
end BW

namespace BW
open PySem PySem.Spec PyProof.Rows L2 Evl

def topS (i : Nat) : Stmt := PySem.Challenge.pw_bendwright_k34_whole_marks_bulge.main.body.getD i (.Pass ⟨0, 0, 0, 0⟩)
/-- a def of the text that keeps a promise over data, by its name -/
structure Cl (P : Program) (w : World) (K : PySem.W.Frag) (mg : Str → Option Value) (base : Heap) (k : Nat) (x : Str) (R : List PyData → PyData → Prop) : Prop where
  ex : ∃ (f : Addr) (fd : FuncData) (ps : List Str), FnOk P w K mg base CX0 k f fd ps (spD K R) ∧ mg x = some (.ref f) ∧ PySem.W.keepIn K (.ref f) = true ∧ Binds K fd ps []
structure DefI (K : PySem.W.Frag) (mg : Str → Option Value) (x : Str) (st : Stmt) (ps : List Str) : Prop where
  ex : ∃ (f : Addr) (fd : FuncData), Fun K x x st f fd ∧ mg x = some (.ref f) ∧ Binds K fd ps []
theorem bb_isinstance : bootBuiltins "isinstance" = some (.builtin "isinstance") := by decide +kernel
theorem bb_len : bootBuiltins "len" = some (.builtin "len") := by decide +kernel
theorem bb_abs : bootBuiltins "abs" = some (.builtin "abs") := by decide +kernel
theorem bb_all : bootBuiltins "all" = some (.builtin "all") := by decide +kernel
theorem bb_sum : bootBuiltins "sum" = some (.builtin "sum") := by decide +kernel
theorem bb_min : bootBuiltins "min" = some (.builtin "min") := by decide +kernel
theorem bb_int : bootBuiltins "int" = some (.type "int") := by decide +kernel
theorem bb_bool : bootBuiltins "bool" = some (.type "bool") := by decide +kernel
theorem bb_str : bootBuiltins "str" = some (.type "str") := by decide +kernel
theorem bb_tuple : bootBuiltins "tuple" = some (.type "tuple") := by decide +kernel
theorem bb_list : bootBuiltins "list" = some (.type "list") := by decide +kernel
section
variable {X : Cx} {K : PySem.W.Frag}
theorem kx_eq (h : X.K = K) (hu : X.A.units + 64 < cLine) : OpR X (compareOp .Eq) (xEq K) := h ▸ ox_eq hu
theorem kx_ne (h : X.K = K) (hu : X.A.units + 64 < cLine) : OpR X (compareOp .NotEq) (xNe K) := h ▸ ox_ne hu
theorem kx_in (h : X.K = K) : OpR X (compareOp .In) (xIn K) := h ▸ ox_in
theorem kx_nin (h : X.K = K) : OpR X (compareOp .NotIn) (xNin K) := h ▸ ox_nin
theorem kx_ix (h : X.K = K) : IxR X (xIx K) := h ▸ ox_ix
theorem kx_len (h : X.K = K) : CallR X (.builtin "len") (rLenS K) := h ▸ cx_len
theorem kx_isi (h : X.K = K) : CallR X (.builtin "isinstance") (rIsi K) := h ▸ call_isi
theorem kx_all (h : X.K = K) (hc : X.calm = true) : CallR X (.builtin "all") (rAll K) := h ▸ cr_all hc
theorem kx_sum (h : X.K = K) (hc : X.calm = true) : CallR X (.builtin "sum") (rSum K) := h ▸ cr_sum hc
theorem ksl_list (h : X.K = K) : SlR X (rSlL K) := h ▸ sl_list
theorem ksl_tup (h : X.K = K) : SlR X (rSlT K) := h ▸ sl_tup
theorem kpg_tup {es : List Expr} {k : Nat} {t : TGs} {n : Nat} {pos : Pos} (h : X.K = K) (hc : X.calm = true) (hp : PGs X es t)
    (hn : (assignEach es X.env).length = n := by rfl) (hst : (assignEach es X.env).findIdx? (·.1) = none := by rfl) : PG X (.Tuple es k pos) (gTup K n t) := h ▸ pg_tup hc hp hn hst
theorem kpi_list {l : Expr} {tl : TE} {tg : Expr} (h : X.K = K) (hl : PE X l tl) : PI X tg l (iList K tl) := h ▸ pi_list hl
theorem kpi_tup {l : Expr} {tl : TE} {tg : Expr} (h : X.K = K) (hl : PE X l tl) : PI X tg l (iTup K tl) := h ▸ pi_tup hl
theorem kpi_enum {e : Expr} {ta : TA} {p pos tpos : Pos} {elts : List Expr} {kk : Nat} (h : X.K = K) (hg : Gl X "enumerate") (hm : X.mg "enumerate" = none) (ha : PA X [e] ta) (hs : starEach [e] X.env = [(false, eval e X.env)] := by rfl) :
    PI X (.Tuple elts kk tpos) (.Call (.Name "enumerate" p) [e] [] pos) (iEnum K ta) := h ▸ pi_enum hg hm ha hs
theorem kpi_zip {e e2 : Expr} {ta : TA} {p pos tpos : Pos} {elts : List Expr} {kk : Nat} (h : X.K = K) (hg : Gl X "zip") (hm : X.mg "zip" = none) (ha : PA X [e, e2] ta)
    (hs : starEach [e, e2] X.env = (false, eval e X.env) :: starEach [e2] X.env := by rfl) (hpl : (backTo pos (starEach [e2] X.env)).any (·.1) = false := by rfl) :
    PI X (.Tuple elts kk tpos) (.Call (.Name "zip" p) [e, e2] [] pos) (iZip K ta) := h ▸ pi_zip hg hm ha hs hpl
theorem kbm {e : Expr} {T : String} {r : V → List V → Hp → VK → Prop} {to : TE} {t : TA} (h : X.K = K) (p : PE X e (tBM X.K T r to t)) : PE X e (tBM K T r to t) := h ▸ p
theorem pc {mg : Str → Option Value} {base : Heap} {P : Program} {w : World} {k j : Nat} {x : Str} {R : List PyData → PyData → Prop} {e : Expr} {es : List Expr} {t : TA} {p pos : Pos} (c : Cl P w K mg base k x R) (hr : Room j X.A) (hk : k ≤ j)
    (hP : X.prog = P) (hw : X.w = w) (hK : X.K = K) (hmg : X.mg = mg) (hb : X.base = base) (hg : Gl X x) (ha : PA X (e :: es) t)
    (hdb : (x == ("__debug__" : Str)) = false := by decide) (he : starEach (e :: es) X.env = (false, eval e X.env) :: starEach es X.env := by rfl) (hpl : (backTo pos (starEach es X.env)).any (·.1) = false := by rfl) :
    PE X (.Call (.Name x p) (e :: es) [] pos) (tCall (spD K R) [] E0 t) := by
  subst hP hw hK hmg hb
  obtain ⟨f, fd, ps, F, hm, kp, b⟩ := c.ex
  exact pe_call F (hr.mono hk) hg hm kp b .nil pass0 ha hdb he hpl
end
theorem pgc {X : Cx} {x : Str} {pos : Pos} {v : V} (hg : Gl X x) (h : ∃ u, X.mg x = some u ∧ RelV v u) (hd : (x == ("__debug__" : Str)) = false := by decide) : PE X (.Name x pos) (tC v) := by
  obtain ⟨u, hm, r⟩ := h
  exact pe_glob hg hm r hd
theorem pty {X : Cx} {x : Str} {pos : Pos} (n : String) (hg : Gl X x) (hm : X.mg x = none) (hv : bootBuiltins x = some (.type n)) (hn : x ≠ "__name__" := by decide) (hd : (x == ("__debug__" : Str)) = false := by decide) : PE X (.Name x pos) (tC (.ty n)) :=
  pe_bltn hg hm hv rfl hn hd
section
variable {P : Program} {w : World} {K : PySem.W.Frag} {mg : Str → Option Value} {base : Heap}
theorem mkD {x : Str} {st : Stmt} {N ps : List Str} {k : Nat} {R : List PyData → PyData → Prop} (I : DefI K mg x st ps) (S : FnScope N ps (defScope st)) (hlen : ∀ ds d, R ds d → ds.length = ps.length)
    (hb : ∀ (f : Addr) (cdv : Value) (A : Around) (outer : List Env) (s : Shared) (H : Hp) (E : XK), Room k (A.deeper (envOfC x (defScope st) s.heap.objs.size f cdv)) → ∀ ds d, R ds d →
      ∃ t, PSs (cxOf CX0 P w K mg base N x (defScope st) f cdv A outer s H E).nox (defBody st) t ∧ ∀ D : Ends, (∀ v H', Ex H H' → Dp K H' v d → D.rt v H') → Go K H [] (t D) (ds.map Sl.dt ++ List.replicate (N.length - ds.length) Sl.no)) :
    Cl P w K mg base (k + 1) x R := by
  obtain ⟨f, fd, F, hm, b⟩ := I.ex
  exact ⟨f, fd, ps, okD F S hlen (fun cdv A outer s H E hr ds d hR => hb f cdv A outer s H E hr ds d hR), hm, F.kp, b⟩
theorem mkDn {x : Str} {st : Stmt} {N ps : List Str} {k : Nat} {R : List PyData → PyData → Prop} (I : DefI K mg x st ps) (S : FnScope N ps (defScope st)) (hlen : ∀ ds d, R ds d → ds.length = ps.length)
    (hb : ∀ (f : Addr) (cdv : Value) (A : Around) (outer : List Env) (s : Shared) (H : Hp) (E : XK), Room k (A.deeper (envOfC x (defScope st) s.heap.objs.size f cdv)) → ∀ ds d, R ds d → d = .none ∧
      ∃ t, PSs (cxOf CX0 P w K mg base N x (defScope st) f cdv A outer s H E).nox (defBody st) t ∧ ∀ D : Ends, (∀ σ H', Ex H H' → D.nx σ H') → Go K H [] (t D) (ds.map Sl.dt ++ List.replicate (N.length - ds.length) Sl.no)) :
    Cl P w K mg base (k + 1) x R := by
  obtain ⟨f, fd, F, hm, b⟩ := I.ex
  exact ⟨f, fd, ps, okDn F S hlen (fun cdv A outer s H E hr ds d hR => hb f cdv A outer s H E hr ds d hR), hm, F.kp, b⟩
theorem cl_never {x : Str} {st : Stmt} {ps : List Str} {k : Nat} {R : List PyData → PyData → Prop} (I : DefI K mg x st ps) (h : ∀ ds d, ¬ R ds d) : Cl P w K mg base k x R := by
  obtain ⟨f, fd, F, hm, b⟩ := I.ex
  exact ⟨f, fd, ps, ok_never h, hm, F.kp, b⟩
theorem Cl.mono {j k : Nat} {x : Str} {R : List PyData → PyData → Prop} (c : Cl P w K mg base j x R) (h : j ≤ k) : Cl P w K mg base k x R := by
  obtain ⟨f, fd, ps, F, r⟩ := c.ex
  exact ⟨f, fd, ps, F.mono h, r⟩
end
abbrev GlobI (mg : Str → Option Value) (x : Str) (v : V) : Prop := ∃ u, mg x = some u ∧ RelV v u
/-- what the top has left, besides the defs -/
structure Tx (K : PySem.W.Frag) (mg : Str → Option Value) : Prop where
  isinstance : mg "isinstance" = none
  len : mg "len" = none
  abs : mg "abs" = none
  all : mg "all" = none
  sum : mg "sum" = none
  min : mg "min" = none
  range : mg "range" = none
  enumerate : mg "enumerate" = none
  zip : mg "zip" = none
  int : mg "int" = none
  bool : mg "bool" = none
  str : mg "str" = none
  tuple : mg "tuple" = none
  list : mg "list" = none
  c_MOST_INPUTS : GlobI mg "MOST_INPUTS" (.int 3)
  c_MOST_STEPS : GlobI mg "MOST_STEPS" (.int 120)
  c_MOST_RUN : GlobI mg "MOST_RUN" (.int 120)
  c_MOST_CHOICES : GlobI mg "MOST_CHOICES" (.int 8)
  c_MOST_TURNS : GlobI mg "MOST_TURNS" (.int 6)
  c_LEVEL : GlobI mg "LEVEL" (.str "level")
  c_STRAIGHT : GlobI mg "STRAIGHT" (.str "straight")
  c_DOWN : GlobI mg "DOWN" (.str "down")
  c_UP : GlobI mg "UP" (.str "up")
  c_NONE : GlobI mg "NONE" (.str "none")
  kinds : ∃ a, GlobI mg "KINDS" (.ref a) ∧ ∀ H, Dp K H (.ref a) (.tuple [.str "is", .str "in", .str "sum", .str "by", .str "least", .str "most", .str "if", .str "turns"])
end BW

namespace BW
open PySem PySem.Spec PyProof.Rows L2 Evl
local macro_rules | `(tactic| k_offL) => `(tactic| first
  | ((with_reducible show Ed _ (tVar _) _ _); first | exact ed_var rfl | exact ed_varO rfl)
  | (with_reducible exact ed_int)
  | (with_reducible apply ed_op)
  | (with_reducible exact rd_add)
  | (with_reducible exact rd_sub)
  | ((with_reducible show RD _ (xIx _) _ _ _); exact rd_ix rfl)
  | (with_reducible apply rd_mul)
  | (with_reducible exact rd_lt)
  | (with_reducible exact rd_le)
  | (with_reducible exact rd_gt)
  | (with_reducible exact rd_ge)
  | (with_reducible apply rd_div)
  | (with_reducible apply rd_mod)
  | ((with_reducible show RD _ (xEq _) (PyData.str _) _ _); exact rd_eqS (by decide +kernel) (by decide +kernel))
  | ((with_reducible show RD _ (xEq _) _ _ _); exact rd_eqS (by rfl) (by rfl))
  | ((with_reducible show RD _ (xNe _) _ _ _); exact rd_neS (by rfl) (by rfl))
  | ((with_reducible show RD _ (xIn _) _ _ _); first | exact rd_inT rfl rfl | exact rd_inL rfl rfl)
  | ((with_reducible show RD _ (xNin _) _ _ _); first | exact rd_ninT rfl rfl | exact rd_ninL rfl rfl)
  | (with_reducible exact ed_str)
  | ((with_reducible show Ed _ (tC (V.ref _)) _ _); exact ed_c (by assumption))
  | (with_reducible exact ed_bl)
  | (with_reducible apply et_test)
  | (with_reducible apply et_B)
  | (with_reducible apply et_not)
  | (with_reducible apply et_and')
  | (with_reducible apply et_or')
  | (with_reducible exact ea_nil)
  | (with_reducible apply ea_cons)
  | (with_reducible apply ed_tail)
  | (with_reducible apply ed_tup2)
  | (with_reducible apply ed_tup3)
  | (with_reducible apply ed_tup4)
  | (with_reducible apply ed_tup1)
  | (with_reducible apply ed_lst1)
  | (with_reducible apply ed_lst2)
  | (with_reducible apply ed_lst3)
  | (with_reducible apply ed_andV')
  | (with_reducible apply ed_orV')
  | (with_reducible apply ed_notV)
  | (with_reducible apply ed_neg)
  | (with_reducible apply isi_ii)
  | (with_reducible apply isi_ib)
  | (with_reducible apply isi_tt)
  | (with_reducible apply isi_ll)
  | (with_reducible apply isi_ss)
  | (with_reducible apply ed_len)
  | ((with_reducible show lenD _ = some _); exact rfl)
  | (with_reducible apply ed_abs)
  | (with_reducible apply ed_min)
  | (with_reducible apply ed_chain')
  | (with_reducible apply ed_all)
  | (with_reducible apply ed_sum))
local macro_rules | `(tactic| k_clsL) => `(tactic| repeat (any_goals k_offL))
local macro_rules | `(tactic| k_subL) => `(tactic| first | exact Pl.int _ | exact Pl.bl _ | exact Pl.str _ | exact pl_nm _ | exact pl_bdat _ | (refine Pl.tup ?_; repeat (first | exact PlA.nil | refine PlA.cons (by k_subL) ?_)))
local macro_rules | `(tactic| wtm_at "pre") => `(tactic| first | assumption | omega)
local macro_rules | `(tactic| wtm_at "ev") => `(tactic| (k_clsL; all_goals wtm_at "pre"))
local macro_rules | `(tactic| wtm_at "no") => `(tactic| ((with_reducible refine' q_no (EdT.is ?hb ?hc) ?hd); (case hb => wtm_at "ev"); (case hc => first | decide +kernel | rfl)))
local macro_rules | `(tactic| wtm_at "set") => `(tactic| ((with_reducible refine' q_asg (Ed.eh ?hb ?hc) ?hd); (case hb => wtm_at "ev"); (case hc => k_subL)))
local macro_rules | `(tactic| wtm_at "yes") => `(tactic| ((with_reducible refine' q_yes (EdT.is ?hb ?hc) ?hd); (case hb => wtm_at "ev"); (case hc => first | decide +kernel | rfl)))
section
variable {P : Program} {w : World} {K : PySem.W.Frag} {mg : Str → Option Value} {base : Heap}
/-! ### is_whole -/
abbrev sis_whole : Stmt := topS 5
theorem scis_whole : FnScope ["thing"] ["thing"] (defScope sis_whole) := ⟨rfl, rfl, rfl, by decide +kernel, rfl, by decide +kernel, by decide +kernel⟩
def R_is_whole (ds : List PyData) (d : PyData) : Prop := ∃ n : Int, ds = [.int n] ∧ d = .bool true
theorem ok_is_whole (T : Tx K mg) (I : DefI K mg "is_whole" sis_whole ["thing"]) : Cl P w K mg base 1 "is_whole" R_is_whole := by
  refine mkD I scis_whole (fun ds d h => by obtain ⟨n, rfl, rfl⟩ := h; rfl) (fun f cdv A outer s H E hr ds d h => ?_)
  obtain ⟨n, rfl, rfl⟩ := h
  refine ⟨_, (pss_one (ps_ret (pe_and (pe_callB (kx_isi (K := K) rfl) (by rfl) T.isinstance bb_isinstance (pa_cons (pv 0) (pa_cons (pty "int" rfl T.int bb_int) pa_nil))) (pe_one (pe_not (pe_callB (kx_isi (K := K) rfl) (by rfl) T.isinstance bb_isinstance (pa_cons (pv 0) (pa_cons (pty "bool" rfl T.bool bb_bool) pa_nil)))))))), fun D q => ?_⟩
  change Go K H [] _ [.dt (.int n)]
  refine go_ret (Ed.is (by k_clsL) (by rfl)) q
section
variable {Γ : List Sl} {ar : TA} {E : XK}
theorem ed_is_whole {n : Int} (h : EdA K ar Γ [.int n]) : Ed K (tCall (spD K R_is_whole) [] E ar) Γ (.bool true) := ed_call h ⟨n, rfl, rfl⟩
end
local macro_rules | `(tactic| k_offL) => `(tactic| (with_reducible apply ed_is_whole))
/-! ### common -/
abbrev scommon : Stmt := topS 6
theorem sccommon : FnScope ["one", "other"] ["one", "other"] (defScope scommon) := ⟨rfl, rfl, rfl, by decide +kernel, rfl, by decide +kernel, by decide +kernel⟩
def R_common (ds : List PyData) (d : PyData) : Prop := ∃ a b : Int, ds = [.int a, .int b] ∧ d = .int (Int.gcd a b : Int)
theorem ok_common (T : Tx K mg) (I : DefI K mg "common" scommon ["one", "other"]) : Cl P w K mg base 1 "common" R_common := by
  refine mkD I sccommon (fun ds d h => by obtain ⟨a, b, rfl, rfl⟩ := h; rfl) (fun f cdv A outer s H E hr ds d h => ?_)
  obtain ⟨a, b, rfl, rfl⟩ := h
  refine ⟨_, (pss_cons (ps_par (i := 0) (j := 1) rfl sccommon.nd rfl rfl (by decide) rfl rfl (pa_cons (pe_callB cx_abs (by rfl) T.abs bb_abs (pa_cons (pv 0) pa_nil)) (pa_cons (pe_callB cx_abs (by rfl) T.abs bb_abs (pa_cons (pv 1) pa_nil)) pa_nil)) (by rfl))
    (pss_cons (ps_while PassesOwn.never (pt_cmpR ox_gt (pv 1) pe_int (nomark _)) (pss_one (ps_par (i := 0) (j := 1) rfl sccommon.nd rfl rfl (by decide) rfl rfl (pa_cons (pv 1) (pa_cons (pe_op ox_mod (pv 0) (pv 1)) pa_nil)) (by rfl))))
    (pss_one (ps_ret (pv 0))))), fun D q => ?_⟩
  change Go K H [] _ [.dt (.int a), .dt (.int b)]
  refine q_par (Ed.eh (by k_clsL) (.int _)) (Ed.eh (by k_clsL) (.int _)) ?_
  have e1 : (if a < 0 then -a else a) = (a.natAbs : Int) := by split <;> omega
  have e2 : (if b < 0 then -b else b) = (b.natAbs : Int) := by split <;> omega
  rw [e1, e2]
  refine q_while (fun m Γ' => ∃ x y : Nat, Γ' = [.dt (.int (x : Int)), .dt (.int (y : Int))] ∧ Nat.gcd x y = Int.gcd a b ∧ m = y) b.natAbs ⟨a.natAbs, b.natAbs, rfl, rfl, rfl⟩ fun m Γ' h => ?_
  obtain ⟨x, y, rfl, hg, rfl⟩ := h
  refine ⟨decide ((0 : Int) < (m : Int)), by k_clsL, fun hb => ?_, fun hb => ?_⟩
  · have hm : 0 < m := by
      have := of_decide_eq_true hb
      omega
    refine go_par (Ed.eh (by k_clsL) (.int _)) (Ed.eh (by wtm_at "ev") (.int _)) ?_
    refine go_nx ⟨x % m, Nat.mod_lt _ hm, m, x % m, rfl, ?_, rfl⟩
    rw [Nat.gcd_comm, ← Nat.gcd_rec, Nat.gcd_comm, hg]
  · have hm : m = 0 := by
      have := of_decide_eq_false hb
      omega
    subst hm
    refine go_ret (Ed.is (by k_clsL) ?_) q
    rw [← hg, Nat.gcd_zero_right]
section
variable {Γ : List Sl} {ar : TA} {E : XK}
theorem ed_common {a b : Int} (h : EdA K ar Γ [.int a, .int b]) : Ed K (tCall (spD K R_common) [] E ar) Γ (.int (Int.gcd a b : Int)) := ed_call h ⟨a, b, rfl, rfl⟩
end
local macro_rules | `(tactic| k_offL) => `(tactic| (with_reducible apply ed_common))
/-! ### is_number -/
abbrev sis_number : Stmt := topS 7
theorem scis_number : FnScope ["thing"] ["thing"] (defScope sis_number) := ⟨rfl, rfl, rfl, by decide +kernel, rfl, by decide +kernel, by decide +kernel⟩
def R_is_number (ds : List PyData) (d : PyData) : Prop := ∃ q : Rat, ds = [nm q] ∧ d = .bool true
theorem ok_is_number (T : Tx K mg) (I : DefI K mg "is_number" sis_number ["thing"]) (C_is_whole : Cl P w K mg base 1 "is_whole" R_is_whole) (C_common : Cl P w K mg base 1 "common" R_common) : Cl P w K mg base 2 "is_number" R_is_number := by
  refine mkD I scis_number (fun ds d h => by obtain ⟨n, rfl, rfl⟩ := h; rfl) (fun f cdv A outer s H E hr ds d h => ?_)
  obtain ⟨r, rfl, rfl⟩ := h
  refine ⟨_, (pss_cons (ps_if (PW.pt (pw_or (pt_not (pt_val (pe_callB (kx_isi (K := K) rfl) (by rfl) T.isinstance bb_isinstance (pa_cons (pv 0) (pa_cons (pty "tuple" rfl T.tuple bb_tuple) pa_nil))))) (pw_or (pt_cmpR (kx_ne (K := K) rfl hr.units) (pe_callB (kx_len (K := K) rfl) (by rfl) T.len bb_len (pa_cons (pv 0) pa_nil)) pe_int (nomark _)) (pw_or (pt_not (pt_val (pc C_is_whole hr (by omega) rfl rfl rfl rfl rfl rfl (pa_cons (pe_ix (kx_ix (K := K) rfl) (pv 0) pe_int (fun _ _ => rfl)) pa_nil)))) (pw_or1 (pt_not (pt_val (pc C_is_whole hr (by omega) rfl rfl rfl rfl rfl rfl (pa_cons (pe_ix (kx_ix (K := K) rfl) (pv 0) pe_int (fun _ _ => rfl)) pa_nil))))))))) (pss_one (ps_ret pe_bl)) pss_nil)
    (pss_one (ps_ret (pe_and (pe_cmpR ox_gt (pe_ix (kx_ix (K := K) rfl) (pv 0) pe_int (fun _ _ => rfl)) pe_int (nomark _)) (pe_one (pe_cmpR (kx_eq (K := K) rfl hr.units) (pc C_common hr (by omega) rfl rfl rfl rfl rfl rfl (pa_cons (pe_ix (kx_ix (K := K) rfl) (pv 0) pe_int (fun _ _ => rfl)) (pa_cons (pe_ix (kx_ix (K := K) rfl) (pv 0) pe_int (fun _ _ => rfl)) pa_nil))) pe_int (nomark _))))))), fun D q => ?_⟩
  change Go K H [] _ [.dt (.tuple [.int r.num, .int (r.den : Int)])]
  wtm_at "no"
  refine go_ret (Ed.is (by k_clsL) ?_) q
  rw [nm_gcd]
  show PyData.bool (decide (0 < (r.den : Int)) && PyData.eqv (.int ((1 : Nat) : Int)) (.int 1)) = .bool true
  rw [decide_eq_true (den_pos' r)]
  rfl
section
variable {Γ : List Sl} {ar : TA} {E : XK}
theorem ed_is_number {q : Rat} (h : EdA K ar Γ [nm q]) : Ed K (tCall (spD K R_is_number) [] E ar) Γ (.bool true) := ed_call h ⟨q, rfl, rfl⟩
end
local macro_rules | `(tactic| k_offL) => `(tactic| (with_reducible apply ed_is_number))
/-! ### lowest -/
abbrev slowest : Stmt := topS 8
theorem sclowest : FnScope ["above", "below", "by"] ["above", "below"] (defScope slowest) := ⟨rfl, rfl, rfl, by decide +kernel, rfl, by decide +kernel, by decide +kernel⟩
def R_lowest (ds : List PyData) (d : PyData) : Prop := ∃ a b : Int, ds = [.int a, .int b] ∧ (0 < b ∧ Lt2 8500 b.natAbs) ∧ d = nm (Rat.divInt a b)
theorem ok_lowest (T : Tx K mg) (I : DefI K mg "lowest" slowest ["above", "below"]) (C_common : Cl P w K mg base 1 "common" R_common) : Cl P w K mg base 2 "lowest" R_lowest := by
  refine mkD I sclowest (fun ds d h => by obtain ⟨a, b, rfl, _⟩ := h; rfl) (fun f cdv A outer s H E hr ds d h => ?_)
  obtain ⟨a, b, rfl, ⟨hb, hz⟩, rfl⟩ := h
  have g0 := gcd_pos (a := a) hb
  have g1 : (Int.gcd a b : Int) ≤ b := Int.le_of_dvd hb (Int.gcd_dvd_right _ _)
  have cd : ∀ x, CDivW x (Int.gcd a b : Int) := fun x => wide_div g0 (b := 8500) (Nat.lt_of_le_of_lt (by omega) hz.h) (by decide) (by decide)
  refine ⟨_, (pss_cons (ps_set (i := 2) sclowest.nd rfl (Or.inl rfl) (pc C_common hr (by omega) rfl rfl rfl rfl rfl rfl (pa_cons (pv 0) (pa_cons (pv 1) pa_nil))))
    (pss_cons (ps_if (pt_cmpR ox_lt (pv 1) pe_int (nomark _)) (pss_one (ps_set (i := 2) sclowest.nd rfl (Or.inl rfl) (pe_un ux_neg (pv 2)))) pss_nil)
    (pss_one (ps_ret (pe_tup (pa_cons (pe_op ox_div (pv 0) (pv 2)) (pa_cons (pe_op ox_div (pv 1) (pv 2)) pa_nil))))))), fun D q => ?_⟩
  change Go K H [] _ [.dt (.int a), .dt (.int b), .no]
  wtm_at "set"
  refine q_no (EdT.is (by k_clsL) (decide_eq_false (by omega))) ?_
  refine go_ret (Ed.is (by k_clsL; exact cd _; exact cd _) ?_) q
  rw [nm_low hb]
section
variable {Γ : List Sl} {ar : TA} {E : XK}
theorem ed_lowest {a b : Int} (h : EdA K ar Γ [.int a, .int b]) (hb : 0 < b ∧ Lt2 8500 b.natAbs) : Ed K (tCall (spD K R_lowest) [] E ar) Γ (nm (Rat.divInt a b)) := ed_call h ⟨a, b, rfl, hb, rfl⟩
end
local macro_rules | `(tactic| k_offL) => `(tactic| (with_reducible apply ed_lowest))
end
end BW

namespace BW
open PySem PySem.Spec PyProof.Rows L2 Evl
local macro_rules | `(tactic| k_offL) => `(tactic| first
  | ((with_reducible show Ed _ (tVar _) _ _); first | exact ed_var rfl | exact ed_varO rfl)
  | (with_reducible exact ed_int)
  | (with_reducible apply ed_op)
  | (with_reducible exact rd_add)
  | (with_reducible exact rd_sub)
  | ((with_reducible show RD _ (xIx _) _ _ _); exact rd_ix rfl)
  | (with_reducible apply rd_mul)
  | (with_reducible exact rd_lt)
  | (with_reducible exact rd_le)
  | (with_reducible exact rd_gt)
  | (with_reducible exact rd_ge)
  | (with_reducible apply rd_div)
  | (with_reducible apply rd_mod)
  | ((with_reducible show RD _ (xEq _) (PyData.str _) _ _); exact rd_eqS (by decide +kernel) (by decide +kernel))
  | ((with_reducible show RD _ (xEq _) _ _ _); exact rd_eqS (by rfl) (by rfl))
  | ((with_reducible show RD _ (xNe _) _ _ _); exact rd_neS (by rfl) (by rfl))
  | ((with_reducible show RD _ (xIn _) _ _ _); first | exact rd_inT rfl rfl | exact rd_inL rfl rfl)
  | ((with_reducible show RD _ (xNin _) _ _ _); first | exact rd_ninT rfl rfl | exact rd_ninL rfl rfl)
  | (with_reducible exact ed_str)
  | ((with_reducible show Ed _ (tC (V.ref _)) _ _); exact ed_c (by assumption))
  | (with_reducible exact ed_bl)
  | (with_reducible apply et_test)
  | (with_reducible apply et_B)
  | (with_reducible apply et_not)
  | (with_reducible apply et_and')
  | (with_reducible apply et_or')
  | (with_reducible exact ea_nil)
  | (with_reducible apply ea_cons)
  | (with_reducible apply ed_tail)
  | (with_reducible apply ed_tup2)
  | (with_reducible apply ed_tup3)
  | (with_reducible apply ed_tup4)
  | (with_reducible apply ed_tup1)
  | (with_reducible apply ed_lst1)
  | (with_reducible apply ed_lst2)
  | (with_reducible apply ed_lst3)
  | (with_reducible apply ed_andV')
  | (with_reducible apply ed_orV')
  | (with_reducible apply ed_notV)
  | (with_reducible apply ed_neg)
  | (with_reducible apply isi_ii)
  | (with_reducible apply isi_ib)
  | (with_reducible apply isi_tt)
  | (with_reducible apply isi_ll)
  | (with_reducible apply isi_ss)
  | (with_reducible apply ed_len)
  | ((with_reducible show lenD _ = some _); exact rfl)
  | (with_reducible apply ed_abs)
  | (with_reducible apply ed_min)
  | (with_reducible apply ed_chain')
  | (with_reducible apply ed_all)
  | (with_reducible apply ed_sum))
local macro_rules | `(tactic| k_clsL) => `(tactic| repeat (any_goals k_offL))
local macro_rules | `(tactic| k_subL) => `(tactic| first | exact Pl.int _ | exact Pl.bl _ | exact Pl.str _ | exact pl_nm _ | exact pl_bdat _ | (refine Pl.tup ?_; repeat (first | exact PlA.nil | refine PlA.cons (by k_subL) ?_)))
local macro_rules | `(tactic| wtm_at "pre") => `(tactic| first | assumption | omega)
local macro_rules | `(tactic| wtm_at "ev") => `(tactic| (k_clsL; all_goals wtm_at "pre"))
local macro_rules | `(tactic| wtm_at "no") => `(tactic| ((with_reducible refine' q_no (EdT.is ?hb ?hc) ?hd); (case hb => wtm_at "ev"); (case hc => first | decide +kernel | rfl)))
local macro_rules | `(tactic| wtm_at "set") => `(tactic| ((with_reducible refine' q_asg (Ed.eh ?hb ?hc) ?hd); (case hb => wtm_at "ev"); (case hc => k_subL)))
local macro_rules | `(tactic| wtm_at "yes") => `(tactic| ((with_reducible refine' q_yes (EdT.is ?hb ?hc) ?hd); (case hb => wtm_at "ev"); (case hc => first | decide +kernel | rfl)))
local macro_rules | `(tactic| k_offL) => `(tactic| (with_reducible apply ed_is_whole))
local macro_rules | `(tactic| k_offL) => `(tactic| (with_reducible apply ed_common))
local macro_rules | `(tactic| k_offL) => `(tactic| (with_reducible apply ed_is_number))
local macro_rules | `(tactic| k_offL) => `(tactic| (with_reducible apply ed_lowest))
section
variable {P : Program} {w : World} {K : PySem.W.Frag} {mg : Str → Option Value} {base : Heap}
local macro_rules | `(tactic| wtm_at "pre") => `(tactic| first | assumption | omega | exact sm_nd (by assumption) (by assumption) | exact sm_nn (by assumption) (by assumption) | exact sm_dd (by assumption) (by assumption) | exact sm_pre (by assumption) (by assumption))
/-! ### add, grow, lies -/
abbrev sadd : Stmt := topS 9
theorem scadd : FnScope ["one", "other"] ["one", "other"] (defScope sadd) := ⟨rfl, rfl, rfl, by decide +kernel, rfl, by decide +kernel, by decide +kernel⟩
def R_add (ds : List PyData) (d : PyData) : Prop := ∃ p q : Rat, ds = [nm p, nm q] ∧ (Sm 4000 p ∧ Sm 4000 q) ∧ d = nm (p + q)
theorem ok_add (T : Tx K mg) (I : DefI K mg "add" sadd ["one", "other"]) (C_lowest : Cl P w K mg base 2 "lowest" R_lowest) : Cl P w K mg base 3 "add" R_add := by
  refine mkD I scadd (fun ds d h => by obtain ⟨a, b, rfl, _⟩ := h; rfl) (fun f cdv A outer s H E hr ds d h => ?_)
  obtain ⟨a, b, rfl, ⟨ha, hb⟩, rfl⟩ := h
  refine ⟨_, (pss_one (ps_ret (pc C_lowest hr (by omega) rfl rfl rfl rfl rfl rfl (pa_cons (pe_op ox_add (pe_op ox_mul (pe_ix (kx_ix (K := K) rfl) (pv 0) pe_int (fun _ _ => rfl)) (pe_ix (kx_ix (K := K) rfl) (pv 1) pe_int (fun _ _ => rfl))) (pe_op ox_mul (pe_ix (kx_ix (K := K) rfl) (pv 1) pe_int (fun _ _ => rfl)) (pe_ix (kx_ix (K := K) rfl) (pv 0) pe_int (fun _ _ => rfl)))) (pa_cons (pe_op ox_mul (pe_ix (kx_ix (K := K) rfl) (pv 0) pe_int (fun _ _ => rfl)) (pe_ix (kx_ix (K := K) rfl) (pv 1) pe_int (fun _ _ => rfl))) pa_nil))))), fun D q => ?_⟩
  change Go K H [] _ [.dt (nm a), .dt (nm b)]
  exact go_ret (Ed.is (by wtm_at "ev") (by rw [add_low])) q
abbrev sgrow : Stmt := topS 10
theorem scgrow : FnScope ["one", "other"] ["one", "other"] (defScope sgrow) := ⟨rfl, rfl, rfl, by decide +kernel, rfl, by decide +kernel, by decide +kernel⟩
def R_grow (ds : List PyData) (d : PyData) : Prop := ∃ p q : Rat, ds = [nm p, nm q] ∧ (Sm 4000 p ∧ Sm 4000 q) ∧ d = nm (p * q)
theorem ok_grow (T : Tx K mg) (I : DefI K mg "grow" sgrow ["one", "other"]) (C_lowest : Cl P w K mg base 2 "lowest" R_lowest) : Cl P w K mg base 3 "grow" R_grow := by
  refine mkD I scgrow (fun ds d h => by obtain ⟨a, b, rfl, _⟩ := h; rfl) (fun f cdv A outer s H E hr ds d h => ?_)
  obtain ⟨a, b, rfl, ⟨ha, hb⟩, rfl⟩ := h
  refine ⟨_, (pss_one (ps_ret (pc C_lowest hr (by omega) rfl rfl rfl rfl rfl rfl (pa_cons (pe_op ox_mul (pe_ix (kx_ix (K := K) rfl) (pv 0) pe_int (fun _ _ => rfl)) (pe_ix (kx_ix (K := K) rfl) (pv 1) pe_int (fun _ _ => rfl))) (pa_cons (pe_op ox_mul (pe_ix (kx_ix (K := K) rfl) (pv 0) pe_int (fun _ _ => rfl)) (pe_ix (kx_ix (K := K) rfl) (pv 1) pe_int (fun _ _ => rfl))) pa_nil))))), fun D q => ?_⟩
  change Go K H [] _ [.dt (nm a), .dt (nm b)]
  exact go_ret (Ed.is (by wtm_at "ev") (by rw [mul_low])) q
abbrev slies : Stmt := topS 11
theorem sclies : FnScope ["one", "other", "apart"] ["one", "other"] (defScope slies) := ⟨rfl, rfl, rfl, by decide +kernel, rfl, by decide +kernel, by decide +kernel⟩
def lieQ (p q : Rat) : Int := if p ≤ q then (if q ≤ p then 0 else -1) else 1
def R_lies (ds : List PyData) (d : PyData) : Prop := ∃ p q : Rat, ds = [nm p, nm q] ∧ (Sm 4000 p ∧ Sm 4000 q) ∧ d = .int (lieQ p q)
theorem ok_lies (T : Tx K mg) (I : DefI K mg "lies" slies ["one", "other"]) : Cl P w K mg base 1 "lies" R_lies := by
  refine mkD I sclies (fun ds d h => by obtain ⟨a, b, rfl, _⟩ := h; rfl) (fun f cdv A outer s H E hr ds d h => ?_)
  obtain ⟨a, b, rfl, ⟨ha, hb⟩, rfl⟩ := h
  refine ⟨_, (pss_cons (ps_set (i := 2) sclies.nd rfl (Or.inl rfl) (pe_op ox_sub (pe_op ox_mul (pe_ix (kx_ix (K := K) rfl) (pv 0) pe_int (fun _ _ => rfl)) (pe_ix (kx_ix (K := K) rfl) (pv 1) pe_int (fun _ _ => rfl))) (pe_op ox_mul (pe_ix (kx_ix (K := K) rfl) (pv 1) pe_int (fun _ _ => rfl)) (pe_ix (kx_ix (K := K) rfl) (pv 0) pe_int (fun _ _ => rfl)))))
    (pss_one (ps_ret (pe_ifExp (pt_cmpR ox_gt (pv 2) pe_int (nomark _)) pe_int (pe_ifExp (pt_cmpR ox_lt (pv 2) pe_int (nomark _)) (pe_un ux_neg pe_int) pe_int))))), fun D q => ?_⟩
  change Go K H [] _ [.dt (nm a), .dt (nm b), .no]
  wtm_at "set"
  have k1 := le_apart a b
  have k2 := le_apart b a
  refine go_ret (ed_if (by k_clsL) (fun h => ?_) fun h => ?_) q
  · have h' := of_decide_eq_true h
    have e : lieQ a b = 1 := by
      unfold lieQ
      rw [if_neg (fun z => by have := k1.mpr z; omega)]
    rw [e]
    k_clsL
  · have h' := of_decide_eq_false h
    have l : a ≤ b := k1.mp (by omega)
    refine ed_if (by k_clsL) (fun h2 => ?_) fun h2 => ?_
    · have h3 := of_decide_eq_true h2
      have e : lieQ a b = -1 := by
        unfold lieQ
        rw [if_pos l, if_neg (fun z => by have := k2.mpr z; omega)]
      rw [e]
      k_clsL
    · have h3 := of_decide_eq_false h2
      have e : lieQ a b = 0 := by
        unfold lieQ
        rw [if_pos l, if_pos (k2.mp (by omega))]
      rw [e]
      k_clsL
/-! ### is_ahead -/
abbrev sis_ahead : Stmt := topS 19
theorem scis_ahead : FnScope ["thing", "at"] ["thing", "at"] (defScope sis_ahead) := ⟨rfl, rfl, rfl, by decide +kernel, rfl, by decide +kernel, by decide +kernel⟩
def R_is_ahead (ds : List PyData) (d : PyData) : Prop := ∃ i n : Nat, ds = [.int (i : Int), .int (n : Int)] ∧ i < n ∧ d = .bool true
theorem ok_is_ahead (T : Tx K mg) (I : DefI K mg "is_ahead" sis_ahead ["thing", "at"]) (C_is_whole : Cl P w K mg base 1 "is_whole" R_is_whole) : Cl P w K mg base 2 "is_ahead" R_is_ahead := by
  refine mkD I scis_ahead (fun ds d h => by obtain ⟨a, b, rfl, _⟩ := h; rfl) (fun f cdv A outer s H E hr ds d h => ?_)
  obtain ⟨a, b, rfl, hl, rfl⟩ := h
  refine ⟨_, (pss_one (ps_ret (pe_and (pc C_is_whole hr (by omega) rfl rfl rfl rfl rfl rfl (pa_cons (pv 0) pa_nil)) (pe_one (pe_chain ox_le ox_lt pe_int (pv 0) (pv 1)))))), fun D q => ?_⟩
  change Go K H [] _ [.dt (.int (a : Int)), .dt (.int (b : Int))]
  refine go_ret (Ed.is (by wtm_at "ev") ?_) q
  rw [decide_eq_true (show (0 : Int) ≤ (a : Int) by omega), decide_eq_true (show (a : Int) < (b : Int) by omega)]
  rfl
section
variable {Γ : List Sl} {ar : TA} {E : XK}
theorem ed_add {p q : Rat} (h : EdA K ar Γ [nm p, nm q]) (hp : Sm 4000 p ∧ Sm 4000 q) : Ed K (tCall (spD K R_add) [] E ar) Γ (nm (p + q)) := ed_call h ⟨p, q, rfl, hp, rfl⟩
theorem ed_grow {p q : Rat} (h : EdA K ar Γ [nm p, nm q]) (hp : Sm 4000 p ∧ Sm 4000 q) : Ed K (tCall (spD K R_grow) [] E ar) Γ (nm (p * q)) := ed_call h ⟨p, q, rfl, hp, rfl⟩
theorem ed_lies {p q : Rat} (h : EdA K ar Γ [nm p, nm q]) (hp : Sm 4000 p ∧ Sm 4000 q) : Ed K (tCall (spD K R_lies) [] E ar) Γ (.int (lieQ p q)) := ed_call h ⟨p, q, rfl, hp, rfl⟩
theorem ed_is_ahead {i n : Nat} (h : EdA K ar Γ [.int (i : Int), .int (n : Int)]) (hp : i < n) : Ed K (tCall (spD K R_is_ahead) [] E ar) Γ (.bool true) := ed_call h ⟨i, n, rfl, hp, rfl⟩
end
local macro_rules | `(tactic| k_offL) => `(tactic| (with_reducible apply ed_add))
local macro_rules | `(tactic| k_offL) => `(tactic| (with_reducible apply ed_grow))
local macro_rules | `(tactic| k_offL) => `(tactic| (with_reducible apply ed_lies))
local macro_rules | `(tactic| k_offL) => `(tactic| (with_reducible apply ed_is_ahead))
/-! ### the law's own numbers -/
abbrev s_law_low : Stmt := topS 43
theorem sc_law_low : FnScope ["_law_above", "_law_below", "_law_one", "_law_other"] ["_law_above", "_law_below"] (defScope s_law_low) := ⟨rfl, rfl, rfl, by decide +kernel, rfl, by decide +kernel, by decide +kernel⟩
theorem ok__law_low (T : Tx K mg) (I : DefI K mg "_law_low" s_law_low ["_law_above", "_law_below"]) : Cl P w K mg base 1 "_law_low" R_lowest := by
  refine mkD I sc_law_low (fun ds d h => by obtain ⟨a, b, rfl, _⟩ := h; rfl) (fun f cdv A outer s H E hr ds d h => ?_)
  obtain ⟨a, b, rfl, ⟨hb, hz⟩, rfl⟩ := h
  have g0 := gcd_pos (a := a) hb
  have g1 : (Int.gcd a b : Int) ≤ b := Int.le_of_dvd hb (Int.gcd_dvd_right _ _)
  have cd : ∀ x, CDivW x (Int.gcd a b : Int) := fun x => wide_div g0 (b := 8500) (Nat.lt_of_le_of_lt (by omega) hz.h) (by decide) (by decide)
  refine ⟨_, (pss_cons (ps_par (i := 2) (j := 3) rfl sc_law_low.nd rfl rfl (by decide) rfl rfl (pa_cons (pe_callB cx_abs (by rfl) T.abs bb_abs (pa_cons (pv 0) pa_nil)) (pa_cons (pe_callB cx_abs (by rfl) T.abs bb_abs (pa_cons (pv 1) pa_nil)) pa_nil)) (by rfl))
    (pss_cons (ps_while PassesOwn.never (pt_cmpR ox_gt (pv 3) pe_int (nomark _)) (pss_one (ps_par (i := 2) (j := 3) rfl sc_law_low.nd rfl rfl (by decide) rfl rfl (pa_cons (pv 3) (pa_cons (pe_op ox_mod (pv 2) (pv 3)) pa_nil)) (by rfl))))
    (pss_cons (ps_if (pt_cmpR ox_lt (pv 1) pe_int (nomark _)) (pss_one (ps_set (i := 2) sc_law_low.nd rfl (Or.inl rfl) (pe_un ux_neg (pv 2)))) pss_nil)
    (pss_one (ps_ret (pe_tup (pa_cons (pe_op ox_div (pv 0) (pv 2)) (pa_cons (pe_op ox_div (pv 1) (pv 2)) pa_nil)))))))), fun D q => ?_⟩
  change Go K H [] _ [.dt (.int a), .dt (.int b), .no, .no]
  refine q_par (Ed.eh (by k_clsL) (.int _)) (Ed.eh (by k_clsL) (.int _)) ?_
  have e1 : (if a < 0 then -a else a) = (a.natAbs : Int) := by split <;> omega
  have e2 : (if b < 0 then -b else b) = (b.natAbs : Int) := by split <;> omega
  rw [e1, e2]
  refine q_while (fun m Γ' => ∃ x y : Nat, Γ' = [.dt (.int a), .dt (.int b), .dt (.int (x : Int)), .dt (.int (y : Int))] ∧ Nat.gcd x y = Int.gcd a b ∧ m = y) b.natAbs ⟨a.natAbs, b.natAbs, rfl, rfl, rfl⟩ fun m Γ' h => ?_
  obtain ⟨x, y, rfl, hg, rfl⟩ := h
  refine ⟨decide ((0 : Int) < (m : Int)), by k_clsL, fun hb => ?_, fun hb' => ?_⟩
  · have hm : 0 < m := by
      have := of_decide_eq_true hb
      omega
    refine go_par (Ed.eh (by k_clsL) (.int _)) (Ed.eh (by wtm_at "ev") (.int _)) ?_
    refine go_nx ⟨x % m, Nat.mod_lt _ hm, m, x % m, rfl, ?_, rfl⟩
    rw [Nat.gcd_comm, ← Nat.gcd_rec, Nat.gcd_comm, hg]
  · have hm : m = 0 := by
      have := of_decide_eq_false hb'
      omega
    subst hm
    rw [Nat.gcd_zero_right] at hg
    subst hg
    refine q_no (EdT.is (by k_clsL) (decide_eq_false (by omega))) ?_
    refine go_ret (Ed.is (by k_clsL; exact cd _; exact cd _) ?_) q
    rw [nm_low hb]
abbrev s_law_add : Stmt := topS 44
theorem sc_law_add : FnScope ["_law_one", "_law_other"] ["_law_one", "_law_other"] (defScope s_law_add) := ⟨rfl, rfl, rfl, by decide +kernel, rfl, by decide +kernel, by decide +kernel⟩
theorem ok__law_add (T : Tx K mg) (I : DefI K mg "_law_add" s_law_add ["_law_one", "_law_other"]) (C__law_low : Cl P w K mg base 1 "_law_low" R_lowest) : Cl P w K mg base 2 "_law_add" R_add := by
  refine mkD I sc_law_add (fun ds d h => by obtain ⟨a, b, rfl, _⟩ := h; rfl) (fun f cdv A outer s H E hr ds d h => ?_)
  obtain ⟨a, b, rfl, ⟨ha, hb⟩, rfl⟩ := h
  refine ⟨_, (pss_one (ps_ret (pc C__law_low hr (by omega) rfl rfl rfl rfl rfl rfl (pa_cons (pe_op ox_add (pe_op ox_mul (pe_ix (kx_ix (K := K) rfl) (pv 0) pe_int (fun _ _ => rfl)) (pe_ix (kx_ix (K := K) rfl) (pv 1) pe_int (fun _ _ => rfl))) (pe_op ox_mul (pe_ix (kx_ix (K := K) rfl) (pv 1) pe_int (fun _ _ => rfl)) (pe_ix (kx_ix (K := K) rfl) (pv 0) pe_int (fun _ _ => rfl)))) (pa_cons (pe_op ox_mul (pe_ix (kx_ix (K := K) rfl) (pv 0) pe_int (fun _ _ => rfl)) (pe_ix (kx_ix (K := K) rfl) (pv 1) pe_int (fun _ _ => rfl))) pa_nil))))), fun D q => ?_⟩
  change Go K H [] _ [.dt (nm a), .dt (nm b)]
  exact go_ret (Ed.is (by wtm_at "ev") (by rw [add_low])) q
abbrev s_law_by : Stmt := topS 45
theorem sc_law_by : FnScope ["_law_one", "_law_other"] ["_law_one", "_law_other"] (defScope s_law_by) := ⟨rfl, rfl, rfl, by decide +kernel, rfl, by decide +kernel, by decide +kernel⟩
theorem ok__law_by (T : Tx K mg) (I : DefI K mg "_law_by" s_law_by ["_law_one", "_law_other"]) (C__law_low : Cl P w K mg base 1 "_law_low" R_lowest) : Cl P w K mg base 2 "_law_by" R_grow := by
  refine mkD I sc_law_by (fun ds d h => by obtain ⟨a, b, rfl, _⟩ := h; rfl) (fun f cdv A outer s H E hr ds d h => ?_)
  obtain ⟨a, b, rfl, ⟨ha, hb⟩, rfl⟩ := h
  refine ⟨_, (pss_one (ps_ret (pc C__law_low hr (by omega) rfl rfl rfl rfl rfl rfl (pa_cons (pe_op ox_mul (pe_ix (kx_ix (K := K) rfl) (pv 0) pe_int (fun _ _ => rfl)) (pe_ix (kx_ix (K := K) rfl) (pv 1) pe_int (fun _ _ => rfl))) (pa_cons (pe_op ox_mul (pe_ix (kx_ix (K := K) rfl) (pv 0) pe_int (fun _ _ => rfl)) (pe_ix (kx_ix (K := K) rfl) (pv 1) pe_int (fun _ _ => rfl))) pa_nil))))), fun D q => ?_⟩
  change Go K H [] _ [.dt (nm a), .dt (nm b)]
  exact go_ret (Ed.is (by wtm_at "ev") (by rw [mul_low])) q
abbrev s_law_before : Stmt := topS 46
theorem sc_law_before : FnScope ["_law_one", "_law_other"] ["_law_one", "_law_other"] (defScope s_law_before) := ⟨rfl, rfl, rfl, by decide +kernel, rfl, by decide +kernel, by decide +kernel⟩
def R_before (ds : List PyData) (d : PyData) : Prop := ∃ p q : Rat, ds = [nm p, nm q] ∧ (Sm 4000 p ∧ Sm 4000 q) ∧ d = .bool (decide (p < q))
theorem ok__law_before (T : Tx K mg) (I : DefI K mg "_law_before" s_law_before ["_law_one", "_law_other"]) : Cl P w K mg base 1 "_law_before" R_before := by
  refine mkD I sc_law_before (fun ds d h => by obtain ⟨a, b, rfl, _⟩ := h; rfl) (fun f cdv A outer s H E hr ds d h => ?_)
  obtain ⟨a, b, rfl, ⟨ha, hb⟩, rfl⟩ := h
  refine ⟨_, (pss_one (ps_ret (pe_cmpR ox_lt (pe_op ox_mul (pe_ix (kx_ix (K := K) rfl) (pv 0) pe_int (fun _ _ => rfl)) (pe_ix (kx_ix (K := K) rfl) (pv 1) pe_int (fun _ _ => rfl))) (pe_op ox_mul (pe_ix (kx_ix (K := K) rfl) (pv 1) pe_int (fun _ _ => rfl)) (pe_ix (kx_ix (K := K) rfl) (pv 0) pe_int (fun _ _ => rfl))) (nomark _)))), fun D q => ?_⟩
  change Go K H [] _ [.dt (nm a), .dt (nm b)]
  exact go_ret (Ed.is (by wtm_at "ev") (congrArg PyData.bool (decide_eq_decide.mpr (Rat.lt_iff a b).symm))) q
abbrev s_law_share : Stmt := topS 47
theorem sc_law_share : FnScope ["_law_number_here", "_law_wide"] ["_law_number_here", "_law_wide"] (defScope s_law_share) := ⟨rfl, rfl, rfl, by decide +kernel, rfl, by decide +kernel, by decide +kernel⟩
def R_share (ds : List PyData) (d : PyData) : Prop := ∃ (n : Int) (wd : Nat), ds = [.int n, .int (wd : Int)] ∧ wd ≤ 1000000000000 ∧ d = nm (share n (wd : Int))
theorem ix_sden (n : Int) : ixD (.tuple [.int 1, .int 1, .int 2, .int 3]) (.int (n / 3 % 4)) = some (.int (sden n)) := by
  unfold sden
  have h1 := Int.emod_nonneg (n / 3) (show (4 : Int) ≠ 0 by decide)
  have h2 := Int.emod_lt_of_pos (n / 3) (show (0 : Int) < 4 by decide)
  have h : n / 3 % 4 = 0 ∨ n / 3 % 4 = 1 ∨ n / 3 % 4 = 2 ∨ n / 3 % 4 = 3 := by omega
  rcases h with h | h | h | h <;> rw [h] <;> rfl
theorem ok__law_share (T : Tx K mg) (I : DefI K mg "_law_share" s_law_share ["_law_number_here", "_law_wide"]) (C__law_low : Cl P w K mg base 1 "_law_low" R_lowest) : Cl P w K mg base 2 "_law_share" R_share := by
  refine mkD I sc_law_share (fun ds d h => by obtain ⟨a, b, rfl, _⟩ := h; rfl) (fun f cdv A outer s H E hr ds d h => ?_)
  obtain ⟨n, wd, rfl, hw, rfl⟩ := h
  refine ⟨_, (pss_one (ps_ret (pc C__law_low hr (by omega) rfl rfl rfl rfl rfl rfl (pa_cons (pe_op ox_sub (pe_op ox_mod (pe_op ox_div (pv 0) pe_int) (pe_op ox_add (pe_op ox_mul pe_int (pv 1)) pe_int)) (pv 1)) (pa_cons (pe_ix (kx_ix (K := K) rfl) (pe_tup (pa_cons pe_int (pa_cons pe_int (pa_cons pe_int (pa_cons pe_int pa_nil))))) (pe_op ox_mod (pe_op ox_div (pv 0) pe_int) pe_int) (fun _ _ => rfl)) pa_nil))))), fun D q => ?_⟩
  change Go K H [] _ [.dt (.int n), .dt (.int (wd : Int))]
  have hd : 0 < sden n ∧ Lt2 8500 (sden n).natAbs := by
    rcases sden_is n with e | e | e <;> rw [e] <;> exact ⟨by decide, ⟨Nat.lt_of_lt_of_le (show _ < 2 ^ 2 by decide) (Nat.pow_le_pow_right (by decide) (by decide))⟩⟩
  have c7 : ∀ x, CDivW x 7 := fun x => ⟨by decide, by decide⟩
  have c3 : ∀ x, CDivW x 3 := fun x => ⟨by decide, by decide⟩
  have cm : CMulW 2 (wd : Int) := cm_small (by decide) (Nat.lt_of_le_of_lt (show _ ≤ 1000000000000 by omega) (Nat.lt_of_lt_of_le (show _ < 2 ^ 64 by decide) (Nat.pow_le_pow_right (by decide) (by decide))))
  refine go_ret (ed_lowest (a := n / 7 % (2 * (wd : Int) + 1) - (wd : Int)) (b := sden n) (ea_cons (by k_clsL; exact c7 _; exact cm; omega) (ea_cons (ed_op (by k_clsL) (by k_clsL; exact c3 _; omega) (rd_ix (ix_sden n))) ea_nil)) hd) q
end
end BW

namespace BW
open PySem PySem.Spec PyProof.Rows L2 Evl
local macro_rules | `(tactic| k_offL) => `(tactic| first
  | ((with_reducible show Ed _ (tVar _) _ _); first | exact ed_var rfl | exact ed_varO rfl)
  | (with_reducible exact ed_int)
  | (with_reducible apply ed_op)
  | (with_reducible exact rd_add)
  | (with_reducible exact rd_sub)
  | ((with_reducible show RD _ (xIx _) _ _ _); exact rd_ix rfl)
  | (with_reducible apply rd_mul)
  | (with_reducible exact rd_lt)
  | (with_reducible exact rd_le)
  | (with_reducible exact rd_gt)
  | (with_reducible exact rd_ge)
  | (with_reducible apply rd_div)
  | (with_reducible apply rd_mod)
  | ((with_reducible show RD _ (xEq _) (PyData.str _) _ _); exact rd_eqS (by decide +kernel) (by decide +kernel))
  | ((with_reducible show RD _ (xEq _) _ _ _); exact rd_eqS (by rfl) (by rfl))
  | ((with_reducible show RD _ (xNe _) _ _ _); exact rd_neS (by rfl) (by rfl))
  | ((with_reducible show RD _ (xIn _) _ _ _); first | exact rd_inT rfl rfl | exact rd_inL rfl rfl)
  | ((with_reducible show RD _ (xNin _) _ _ _); first | exact rd_ninT rfl rfl | exact rd_ninL rfl rfl)
  | (with_reducible exact ed_str)
  | ((with_reducible show Ed _ (tC (V.ref _)) _ _); exact ed_c (by assumption))
  | (with_reducible exact ed_bl)
  | (with_reducible apply et_test)
  | (with_reducible apply et_B)
  | (with_reducible apply et_not)
  | (with_reducible apply et_and')
  | (with_reducible apply et_or')
  | (with_reducible exact ea_nil)
  | (with_reducible apply ea_cons)
  | (with_reducible apply ed_tail)
  | (with_reducible apply ed_tup2)
  | (with_reducible apply ed_tup3)
  | (with_reducible apply ed_tup4)
  | (with_reducible apply ed_tup1)
  | (with_reducible apply ed_lst1)
  | (with_reducible apply ed_lst2)
  | (with_reducible apply ed_lst3)
  | (with_reducible apply ed_andV')
  | (with_reducible apply ed_orV')
  | (with_reducible apply ed_notV)
  | (with_reducible apply ed_neg)
  | (with_reducible apply isi_ii)
  | (with_reducible apply isi_ib)
  | (with_reducible apply isi_tt)
  | (with_reducible apply isi_ll)
  | (with_reducible apply isi_ss)
  | (with_reducible apply ed_len)
  | ((with_reducible show lenD _ = some _); exact rfl)
  | (with_reducible apply ed_abs)
  | (with_reducible apply ed_min)
  | (with_reducible apply ed_chain')
  | (with_reducible apply ed_all)
  | (with_reducible apply ed_sum))
local macro_rules | `(tactic| k_clsL) => `(tactic| repeat (any_goals k_offL))
local macro_rules | `(tactic| k_subL) => `(tactic| first | exact Pl.int _ | exact Pl.bl _ | exact Pl.str _ | exact pl_nm _ | exact pl_bdat _ | (refine Pl.tup ?_; repeat (first | exact PlA.nil | refine PlA.cons (by k_subL) ?_)))
local macro_rules | `(tactic| wtm_at "pre") => `(tactic| first | assumption | omega)
local macro_rules | `(tactic| wtm_at "ev") => `(tactic| (k_clsL; all_goals wtm_at "pre"))
local macro_rules | `(tactic| wtm_at "no") => `(tactic| ((with_reducible refine' q_no (EdT.is ?hb ?hc) ?hd); (case hb => wtm_at "ev"); (case hc => first | decide +kernel | rfl)))
local macro_rules | `(tactic| wtm_at "set") => `(tactic| ((with_reducible refine' q_asg (Ed.eh ?hb ?hc) ?hd); (case hb => wtm_at "ev"); (case hc => k_subL)))
local macro_rules | `(tactic| wtm_at "yes") => `(tactic| ((with_reducible refine' q_yes (EdT.is ?hb ?hc) ?hd); (case hb => wtm_at "ev"); (case hc => first | decide +kernel | rfl)))
local macro_rules | `(tactic| k_offL) => `(tactic| (with_reducible apply ed_is_whole))
local macro_rules | `(tactic| k_offL) => `(tactic| (with_reducible apply ed_common))
local macro_rules | `(tactic| k_offL) => `(tactic| (with_reducible apply ed_is_number))
local macro_rules | `(tactic| k_offL) => `(tactic| (with_reducible apply ed_lowest))
local macro_rules | `(tactic| wtm_at "pre") => `(tactic| first | assumption | omega | exact sm_nd (by assumption) (by assumption) | exact sm_nn (by assumption) (by assumption) | exact sm_dd (by assumption) (by assumption) | exact sm_pre (by assumption) (by assumption))
local macro_rules | `(tactic| k_offL) => `(tactic| (with_reducible apply ed_add))
local macro_rules | `(tactic| k_offL) => `(tactic| (with_reducible apply ed_grow))
local macro_rules | `(tactic| k_offL) => `(tactic| (with_reducible apply ed_lies))
local macro_rules | `(tactic| k_offL) => `(tactic| (with_reducible apply ed_is_ahead))
section
variable {P : Program} {w : World} {K : PySem.W.Frag} {mg : Str → Option Value} {base : Heap}
/-! ### is_step, is_turn, are_steps -/
def R_turn (dp : Int) (ds : List PyData) (d : PyData) : Prop := dp = 0 ∧ ∃ (m i a n : Nat) (body : List BStep), ds = [(Stp.turns m i body).dat, .int (a : Int), .int dp] ∧ okS n a (.turns m i body) ∧ d = .bool true
def R_step (dp : Int) (ds : List PyData) (d : PyData) : Prop := ∃ (s : Stp) (a n : Nat), ds = [s.dat, .int (a : Int), .int (n : Int), .int dp] ∧ okS n a s ∧ (dp = 0 ∨ flatS s) ∧ d = .bool true
def R_steps (dp : Int) (ds : List PyData) (d : PyData) : Prop := ∃ (l : List Stp) (n : Nat), ds = [dats l, .int (n : Int), .int dp] ∧ okL n l ∧ (l ≠ [] ∧ l.length ≤ 120) ∧ (dp = 0 ∨ ∀ s ∈ l, flatS s) ∧ d = .bool true
section
variable {Γ : List Sl} {ar : TA} {E : XK}
theorem ed_is_turn {m i a n : Nat} {body : List BStep} (h : EdA K ar Γ [(Stp.turns m i body).dat, .int (a : Int), .int 0]) (hp : okS n a (.turns m i body)) : Ed K (tCall (spD K (R_turn 0)) [] E ar) Γ (.bool true) := ed_call h ⟨rfl, m, i, a, n, body, rfl, hp, rfl⟩
end
abbrev sis_step : Stmt := topS 20
theorem scis_step : FnScope ["step", "at", "inputs", "depth", "kind", "one"] ["step", "at", "inputs", "depth"] (defScope sis_step) := ⟨rfl, rfl, rfl, by decide +kernel, rfl, by decide +kernel, by decide +kernel⟩
theorem ok_is_step {dp : Int} {k : Nat} (T : Tx K mg) (I : DefI K mg "is_step" sis_step ["step", "at", "inputs", "depth"]) (C_is_whole : Cl P w K mg base 1 "is_whole" R_is_whole) (C_is_number : Cl P w K mg base 2 "is_number" R_is_number)
    (C_is_ahead : Cl P w K mg base 2 "is_ahead" R_is_ahead) (C_is_turn : Cl P w K mg base k "is_turn" (R_turn dp)) : Cl P w K mg base (k + 3) "is_step" (R_step dp) := by
  refine mkD I scis_step (fun ds d h => by obtain ⟨s, a, n, rfl, _⟩ := h; rfl) (fun f cdv A outer s H E hr ds d h => ?_)
  obtain ⟨s, a, n, rfl, ho, hd, rfl⟩ := h
  obtain ⟨ak, hk1, hk2⟩ := T.kinds
  refine ⟨_, (pss_cons (ps_if (PW.pt (pw_or (pt_not (pt_val (pe_callB (kx_isi (K := K) rfl) (by rfl) T.isinstance bb_isinstance (pa_cons (pv 0) (pa_cons (pty "tuple" rfl T.tuple bb_tuple) pa_nil))))) (pw_or (pt_cmpR ox_lt (pe_callB (kx_len (K := K) rfl) (by rfl) T.len bb_len (pa_cons (pv 0) pa_nil)) pe_int (nomark _)) (pw_or (pt_cmpR (kx_nin (K := K) rfl) (pe_ix (kx_ix (K := K) rfl) (pv 0) pe_int (fun _ _ => rfl)) (pgc rfl hk1) (by rfl)) (pw_or1 (pt_not (pt_val (pe_callB (kx_isi (K := K) rfl) (by rfl) T.isinstance bb_isinstance (pa_cons (pe_ix (kx_ix (K := K) rfl) (pv 0) pe_int (fun _ _ => rfl)) (pa_cons (pty "str" rfl T.str bb_str) pa_nil)))))))))) (pss_one (ps_ret pe_bl)) pss_nil)
    (pss_cons (ps_set (i := 4) scis_step.nd rfl (Or.inl rfl) (pe_ix (kx_ix (K := K) rfl) (pv 0) pe_int (fun _ _ => rfl)))
    (pss_cons (ps_if (pt_cmpR (kx_eq (K := K) rfl hr.units) (pv 4) pe_str (nomark _)) (pss_one (ps_ret (pe_and (pe_cmpR (kx_eq (K := K) rfl hr.units) (pe_callB (kx_len (K := K) rfl) (by rfl) T.len bb_len (pa_cons (pv 0) pa_nil)) pe_int (nomark _)) (pe_one (pc C_is_number hr (by omega) rfl rfl rfl rfl rfl rfl (pa_cons (pe_ix (kx_ix (K := K) rfl) (pv 0) pe_int (fun _ _ => rfl)) pa_nil)))))) pss_nil)
    (pss_cons (ps_if (pt_cmpR (kx_eq (K := K) rfl hr.units) (pv 4) pe_str (nomark _)) (pss_one (ps_ret (pe_and (pe_cmpR (kx_eq (K := K) rfl hr.units) (pe_callB (kx_len (K := K) rfl) (by rfl) T.len bb_len (pa_cons (pv 0) pa_nil)) pe_int (nomark _)) (pe_and (pc C_is_whole hr (by omega) rfl rfl rfl rfl rfl rfl (pa_cons (pe_ix (kx_ix (K := K) rfl) (pv 0) pe_int (fun _ _ => rfl)) pa_nil)) (pe_one (pe_chain ox_le ox_lt pe_int (pe_ix (kx_ix (K := K) rfl) (pv 0) pe_int (fun _ _ => rfl)) (pv 2))))))) pss_nil)
    (pss_cons (ps_if (pt_cmpR (kx_eq (K := K) rfl hr.units) (pv 4) pe_str (nomark _)) (pss_one (ps_ret (pe_and (pe_cmpR (kx_eq (K := K) rfl hr.units) (pe_callB (kx_len (K := K) rfl) (by rfl) T.len bb_len (pa_cons (pv 0) pa_nil)) pe_int (nomark _)) (pe_and (pc C_is_number hr (by omega) rfl rfl rfl rfl rfl rfl (pa_cons (pe_ix (kx_ix (K := K) rfl) (pv 0) pe_int (fun _ _ => rfl)) pa_nil)) (pe_one (pc C_is_ahead hr (by omega) rfl rfl rfl rfl rfl rfl (pa_cons (pe_ix (kx_ix (K := K) rfl) (pv 0) pe_int (fun _ _ => rfl)) (pa_cons (pv 1) pa_nil)))))))) pss_nil)
    (pss_cons (ps_if (pt_cmpR (kx_eq (K := K) rfl hr.units) (pv 4) pe_str (nomark _)) (pss_one (ps_ret (pe_and (pe_cmpR (kx_eq (K := K) rfl hr.units) (pe_callB (kx_len (K := K) rfl) (by rfl) T.len bb_len (pa_cons (pv 0) pa_nil)) pe_int (nomark _)) (pe_one (pe_callB (kx_all (K := K) rfl rfl) (by rfl) T.all bb_all (pa_cons (pe_lc (own := [(("one" : Str), 5)]) rfl scis_step.nd (kpi_tup (K := K) rfl (pe_slice (ksl_tup (K := K) rfl) (pv 0) (po_some pe_int) po_none)) (blkOk_by (own := [(("one" : Str), 5)]) (N := ["step", "at", "inputs", "depth", "kind", "one"]) (sc := defScope sis_step) (by decide +kernel)) (fun _ _ _ _ _ => pg_name (i := 5) scis_step.nd rfl (Or.inl rfl)) (fun _ _ _ _ _ => pts_nil) (fun _ _ _ _ _ => pc C_is_ahead hr (by omega) rfl rfl rfl rfl rfl rfl (pa_cons (pv 5) (pa_cons (pv 1) pa_nil)))) pa_nil)))))) pss_nil)
    (pss_cons (ps_if (pt_cmpR (kx_eq (K := K) rfl hr.units) (pv 4) pe_str (nomark _)) (pss_one (ps_ret (pc C_is_turn hr (by omega) rfl rfl rfl rfl rfl rfl (pa_cons (pv 0) (pa_cons (pv 1) (pa_cons (pv 3) pa_nil)))))) pss_nil)
    (pss_one (ps_ret (pe_and (pe_cmpR (kx_eq (K := K) rfl hr.units) (pe_callB (kx_len (K := K) rfl) (by rfl) T.len bb_len (pa_cons (pv 0) pa_nil)) pe_int (nomark _)) (pe_and (pc C_is_ahead hr (by omega) rfl rfl rfl rfl rfl rfl (pa_cons (pe_ix (kx_ix (K := K) rfl) (pv 0) pe_int (fun _ _ => rfl)) (pa_cons (pv 1) pa_nil))) (pe_one (pc C_is_ahead hr (by omega) rfl rfl rfl rfl rfl rfl (pa_cons (pe_ix (kx_ix (K := K) rfl) (pv 0) pe_int (fun _ _ => rfl)) (pa_cons (pv 1) pa_nil))))))))))))))), fun D q => ?_⟩
  change Go K H [] _ [.dt s.dat, .dt (.int (a : Int)), .dt (.int (n : Int)), .dt (.int dp), .no, .no]
  cases s with
  | b s =>
    cases s with
    | cst c =>
      wtm_at "no"
      wtm_at "set"
      wtm_at "yes"
      exact go_ret (Ed.is (by wtm_at "ev") (by rfl)) q
    | inp i =>
      have hi : i < n := ho
      wtm_at "no"
      wtm_at "set"
      wtm_at "no"
      wtm_at "yes"
      refine go_ret (Ed.is (by wtm_at "ev") ?_) q
      rw [decide_eq_true (show (0 : Int) ≤ (i : Int) by omega), decide_eq_true (show (i : Int) < (n : Int) by omega)]
      rfl
    | scl c i =>
      have hi : i < a := ho.2
      wtm_at "no"
      wtm_at "set"
      wtm_at "no"
      wtm_at "no"
      wtm_at "yes"
      exact go_ret (Ed.is (by wtm_at "ev") (by rfl)) q
    | ite i j l =>
      obtain ⟨hi, hj, hl⟩ : i < a ∧ j < a ∧ l < a := ho
      wtm_at "no"
      wtm_at "set"
      wtm_at "no"
      wtm_at "no"
      wtm_at "no"
      wtm_at "yes"
      have outs : EdN K (tLc (iTup K (tSl (rSlT K) (tVar 0) (tPart (tC (.int 1))) tNoPart)) (gName 5) tYes (tCall (spD K R_is_ahead) [] E0 (tCons (tVar 5) (tCons (tVar 1) tNil))) [5]) ([.dt (Stp.b (.ite i j l)).dat, .dt (.int (a : Int)), .dt (.int (n : Int)), .dt (.int dp), .dt (.str "if"), .no] : List Sl) ([true, true, true].map PyData.bool) := by
        refine edn_lcT (ds := [.int (i : Int), .int (j : Int), .int (l : Int)]) _ (by k_clsL) rfl (show 3 < 90000 by decide) ?_ ?_ (wipe_one 5) ?_
        · exact PlA.cons (.bl _) (PlA.cons (.bl _) (PlA.cons (.bl _) PlA.nil))
        · exact PlA.cons (.int _) (PlA.cons (.int _) (PlA.cons (.int _) PlA.nil))
        · intro k d o e1 e2
          match k with
          | 0 =>
            cases e1
            cases e2
            wtm_at "ev"
          | 1 =>
            cases e1
            cases e2
            wtm_at "ev"
          | 2 =>
            cases e1
            cases e2
            wtm_at "ev"
          | k + 3 => cases e1
      refine go_ret (Ed.is (ed_andV' (by wtm_at "ev") (ed_all outs.ed)) (by rfl)) q
    | add i j =>
      obtain ⟨hi, hj⟩ : i < a ∧ j < a := ho
      wtm_at "no"
      wtm_at "set"
      wtm_at "no"
      wtm_at "no"
      wtm_at "no"
      wtm_at "no"
      wtm_at "no"
      exact go_ret (Ed.is (by wtm_at "ev") (by rfl)) q
    | mn i j =>
      obtain ⟨hi, hj⟩ : i < a ∧ j < a := ho
      wtm_at "no"
      wtm_at "set"
      wtm_at "no"
      wtm_at "no"
      wtm_at "no"
      wtm_at "no"
      wtm_at "no"
      exact go_ret (Ed.is (by wtm_at "ev") (by rfl)) q
    | mx i j =>
      obtain ⟨hi, hj⟩ : i < a ∧ j < a := ho
      wtm_at "no"
      wtm_at "set"
      wtm_at "no"
      wtm_at "no"
      wtm_at "no"
      wtm_at "no"
      wtm_at "no"
      exact go_ret (Ed.is (by wtm_at "ev") (by rfl)) q
  | turns m i body =>
    have hd0 : dp = 0 := by
      rcases hd with h | h
      · exact h
      · cases h
    subst hd0
    wtm_at "no"
    wtm_at "set"
    wtm_at "no"
    wtm_at "no"
    wtm_at "no"
    wtm_at "no"
    wtm_at "yes"
    exact go_ret (ed_is_turn (m := m) (i := i) (body := body) (by k_clsL) ho) q
end
end BW

namespace BW
open PySem PySem.Spec PyProof.Rows L2 Evl
local macro_rules | `(tactic| k_offL) => `(tactic| first
  | ((with_reducible show Ed _ (tVar _) _ _); first | exact ed_var rfl | exact ed_varO rfl)
  | (with_reducible exact ed_int)
  | (with_reducible apply ed_op)
  | (with_reducible exact rd_add)
  | (with_reducible exact rd_sub)
  | ((with_reducible show RD _ (xIx _) _ _ _); exact rd_ix rfl)
  | (with_reducible apply rd_mul)
  | (with_reducible exact rd_lt)
  | (with_reducible exact rd_le)
  | (with_reducible exact rd_gt)
  | (with_reducible exact rd_ge)
  | (with_reducible apply rd_div)
  | (with_reducible apply rd_mod)
  | ((with_reducible show RD _ (xEq _) (PyData.str _) _ _); exact rd_eqS (by decide +kernel) (by decide +kernel))
  | ((with_reducible show RD _ (xEq _) _ _ _); exact rd_eqS (by rfl) (by rfl))
  | ((with_reducible show RD _ (xNe _) _ _ _); exact rd_neS (by rfl) (by rfl))
  | ((with_reducible show RD _ (xIn _) _ _ _); first | exact rd_inT rfl rfl | exact rd_inL rfl rfl)
  | ((with_reducible show RD _ (xNin _) _ _ _); first | exact rd_ninT rfl rfl | exact rd_ninL rfl rfl)
  | (with_reducible exact ed_str)
  | ((with_reducible show Ed _ (tC (V.ref _)) _ _); exact ed_c (by assumption))
  | (with_reducible exact ed_bl)
  | (with_reducible apply et_test)
  | (with_reducible apply et_B)
  | (with_reducible apply et_not)
  | (with_reducible apply et_and')
  | (with_reducible apply et_or')
  | (with_reducible exact ea_nil)
  | (with_reducible apply ea_cons)
  | (with_reducible apply ed_tail)
  | (with_reducible apply ed_tup2)
  | (with_reducible apply ed_tup3)
  | (with_reducible apply ed_tup4)
  | (with_reducible apply ed_tup1)
  | (with_reducible apply ed_lst1)
  | (with_reducible apply ed_lst2)
  | (with_reducible apply ed_lst3)
  | (with_reducible apply ed_andV')
  | (with_reducible apply ed_orV')
  | (with_reducible apply ed_notV)
  | (with_reducible apply ed_neg)
  | (with_reducible apply isi_ii)
  | (with_reducible apply isi_ib)
  | (with_reducible apply isi_tt)
  | (with_reducible apply isi_ll)
  | (with_reducible apply isi_ss)
  | (with_reducible apply ed_len)
  | ((with_reducible show lenD _ = some _); exact rfl)
  | (with_reducible apply ed_abs)
  | (with_reducible apply ed_min)
  | (with_reducible apply ed_chain')
  | (with_reducible apply ed_all)
  | (with_reducible apply ed_sum))
local macro_rules | `(tactic| k_clsL) => `(tactic| repeat (any_goals k_offL))
local macro_rules | `(tactic| k_subL) => `(tactic| first | exact Pl.int _ | exact Pl.bl _ | exact Pl.str _ | exact pl_nm _ | exact pl_bdat _ | (refine Pl.tup ?_; repeat (first | exact PlA.nil | refine PlA.cons (by k_subL) ?_)))
local macro_rules | `(tactic| wtm_at "pre") => `(tactic| first | assumption | omega)
local macro_rules | `(tactic| wtm_at "ev") => `(tactic| (k_clsL; all_goals wtm_at "pre"))
local macro_rules | `(tactic| wtm_at "no") => `(tactic| ((with_reducible refine' q_no (EdT.is ?hb ?hc) ?hd); (case hb => wtm_at "ev"); (case hc => first | decide +kernel | rfl)))
local macro_rules | `(tactic| wtm_at "set") => `(tactic| ((with_reducible refine' q_asg (Ed.eh ?hb ?hc) ?hd); (case hb => wtm_at "ev"); (case hc => k_subL)))
local macro_rules | `(tactic| wtm_at "yes") => `(tactic| ((with_reducible refine' q_yes (EdT.is ?hb ?hc) ?hd); (case hb => wtm_at "ev"); (case hc => first | decide +kernel | rfl)))
local macro_rules | `(tactic| k_offL) => `(tactic| (with_reducible apply ed_is_whole))
local macro_rules | `(tactic| k_offL) => `(tactic| (with_reducible apply ed_common))
local macro_rules | `(tactic| k_offL) => `(tactic| (with_reducible apply ed_is_number))
local macro_rules | `(tactic| k_offL) => `(tactic| (with_reducible apply ed_lowest))
local macro_rules | `(tactic| wtm_at "pre") => `(tactic| first | assumption | omega | exact sm_nd (by assumption) (by assumption) | exact sm_nn (by assumption) (by assumption) | exact sm_dd (by assumption) (by assumption) | exact sm_pre (by assumption) (by assumption))
local macro_rules | `(tactic| k_offL) => `(tactic| (with_reducible apply ed_add))
local macro_rules | `(tactic| k_offL) => `(tactic| (with_reducible apply ed_grow))
local macro_rules | `(tactic| k_offL) => `(tactic| (with_reducible apply ed_lies))
local macro_rules | `(tactic| k_offL) => `(tactic| (with_reducible apply ed_is_ahead))
section
variable {P : Program} {w : World} {K : PySem.W.Frag} {mg : Str → Option Value} {base : Heap}
section
variable {Γ : List Sl} {ar : TA} {E : XK}
theorem ed_steps {dp : Int} {n : Nat} {l : List Stp} (h : EdA K ar Γ [.list (l.map Stp.dat), .int (n : Int), .int dp]) (h1 : okL n l) (h2 : l ≠ [] ∧ l.length ≤ 120) (h3 : dp = 0 ∨ ∀ s ∈ l, flatS s) : Ed K (tCall (spD K (R_steps dp)) [] E ar) Γ (.bool true) := ed_call h ⟨l, n, rfl, h1, h2, h3, rfl⟩
theorem ed_step {dp : Int} {a n : Nat} {s : Stp} (h : EdA K ar Γ [s.dat, .int (a : Int), .int (n : Int), .int dp]) (h1 : okS n a s) (h3 : dp = 0 ∨ flatS s) : Ed K (tCall (spD K (R_step dp)) [] E ar) Γ (.bool true) := ed_call h ⟨s, a, n, rfl, h1, h3, rfl⟩
end
abbrev sis_turn : Stmt := topS 21
theorem scis_turn : FnScope ["step", "at", "depth"] ["step", "at", "depth"] (defScope sis_turn) := ⟨rfl, rfl, rfl, by decide +kernel, rfl, by decide +kernel, by decide +kernel⟩
theorem ok_is_turn {k : Nat} (T : Tx K mg) (I : DefI K mg "is_turn" sis_turn ["step", "at", "depth"]) (C_is_whole : Cl P w K mg base 1 "is_whole" R_is_whole)
    (C_is_ahead : Cl P w K mg base 2 "is_ahead" R_is_ahead) (C_are_steps : Cl P w K mg base k "are_steps" (R_steps 1)) : Cl P w K mg base (k + 3) "is_turn" (R_turn 0) := by
  refine mkD I scis_turn (fun ds d h => by obtain ⟨_, m, i, a, n, body, rfl, _⟩ := h; rfl) (fun f cdv A outer s H E hr ds d h => ?_)
  obtain ⟨_, m, i, a, n, body, rfl, ⟨hm, hi, hb0, hb1, hb⟩, rfl⟩ := h
  refine ⟨_, (pss_cons (ps_if (PW.pt (pw_or (pt_cmpR (kx_ne (K := K) rfl hr.units) (pe_callB (kx_len (K := K) rfl) (by rfl) T.len bb_len (pa_cons (pv 0) pa_nil)) pe_int (nomark _)) (pw_or (pt_cmpR ox_gt (pv 2) pe_int (nomark _)) (pw_or (pt_not (pt_val (pc C_is_whole hr (by omega) rfl rfl rfl rfl rfl rfl (pa_cons (pe_ix (kx_ix (K := K) rfl) (pv 0) pe_int (fun _ _ => rfl)) pa_nil)))) (pw_or1 (pt_not (pt_chain ox_le ox_le pe_int (pe_ix (kx_ix (K := K) rfl) (pv 0) pe_int (fun _ _ => rfl)) (pgc rfl T.c_MOST_TURNS)))))))) (pss_one (ps_ret pe_bl)) pss_nil)
    (pss_one (ps_ret (pe_and (pc C_is_ahead hr (by omega) rfl rfl rfl rfl rfl rfl (pa_cons (pe_ix (kx_ix (K := K) rfl) (pv 0) pe_int (fun _ _ => rfl)) (pa_cons (pv 1) pa_nil))) (pe_one (pc C_are_steps hr (by omega) rfl rfl rfl rfl rfl rfl (pa_cons (pe_ix (kx_ix (K := K) rfl) (pv 0) pe_int (fun _ _ => rfl)) (pa_cons pe_int (pa_cons (pe_op ox_add (pv 2) pe_int) pa_nil))))))))), fun D q => ?_⟩
  change Go K H [] _ [.dt (Stp.turns m i body).dat, .dt (.int (a : Int)), .dt (.int 0)]
  rw [dat_turns]
  refine q_no (EdT.is (by wtm_at "ev") ?_) ?_
  · rw [decide_eq_true (show (0 : Int) ≤ (m : Int) by omega), decide_eq_true (show (m : Int) ≤ 6 by omega)]
    rfl
  refine go_ret (Ed.is (ed_andV' (by wtm_at "ev") (ed_steps (l := body.map Stp.b) (n := 1) (ea_cons (by k_clsL) (ea_cons (Ed.is (by k_clsL) (by rfl)) (ea_cons (Ed.is (by k_clsL) (by rfl)) ea_nil))) (okL_b hb) ⟨?_, ?_⟩ (.inr ?_))) (by rfl)) q
  · intro z
    exact hb0 (List.map_eq_nil_iff.mp z)
  · rw [List.length_map]
    exact hb1
  · intro s hs
    obtain ⟨x, _, rfl⟩ := List.mem_map.mp hs
    trivial
abbrev sare_steps : Stmt := topS 22
theorem scare_steps : FnScope ["steps", "inputs", "depth", "at", "step"] ["steps", "inputs", "depth"] (defScope sare_steps) := ⟨rfl, rfl, rfl, by decide +kernel, rfl, by decide +kernel, by decide +kernel⟩
theorem ok_are_steps {dp : Int} {k : Nat} (T : Tx K mg) (I : DefI K mg "are_steps" sare_steps ["steps", "inputs", "depth"]) (C_is_step : Cl P w K mg base k "is_step" (R_step dp)) : Cl P w K mg base (k + 1) "are_steps" (R_steps dp) := by
  refine mkD I scare_steps (fun ds d h => by obtain ⟨l, n, rfl, _⟩ := h; rfl) (fun f cdv A outer s H E hr ds d h => ?_)
  obtain ⟨l, n, rfl, ho, ⟨h0, h1⟩, h3, rfl⟩ := h
  refine ⟨_, (pss_cons (ps_if (PW.pt (pw_or (pt_not (pt_val (pe_callB (kx_isi (K := K) rfl) (by rfl) T.isinstance bb_isinstance (pa_cons (pv 0) (pa_cons (pty "list" rfl T.list bb_list) pa_nil))))) (pw_or1 (pt_not (pt_chain ox_le ox_le pe_int (pe_callB (kx_len (K := K) rfl) (by rfl) T.len bb_len (pa_cons (pv 0) pa_nil)) (pgc rfl T.c_MOST_STEPS)))))) (pss_one (ps_ret pe_bl)) pss_nil)
    (pss_one (ps_ret (pe_callB (kx_all (K := K) rfl rfl) (by rfl) T.all bb_all (pa_cons (pe_lc (own := [(("at" : Str), 3), (("step" : Str), 4)]) rfl scare_steps.nd (kpi_enum (K := K) rfl rfl T.enumerate (pa_cons (pv 0) pa_nil)) (blkOk_by (own := [(("at" : Str), 3), (("step" : Str), 4)]) (N := ["steps", "inputs", "depth", "at", "step"]) (sc := defScope sare_steps) (by decide +kernel)) (fun _ _ _ _ _ => kpg_tup (K := K) (n := 2) rfl rfl (pgs_cons (pg_name (i := 3) scare_steps.nd rfl (Or.inl rfl)) (pgs_cons (pg_name (i := 4) scare_steps.nd rfl (Or.inl rfl)) pgs_nil))) (fun _ _ _ _ _ => pts_nil) (fun _ _ _ _ _ => pc C_is_step hr (by omega) rfl rfl rfl rfl rfl rfl (pa_cons (pv 4) (pa_cons (pv 3) (pa_cons (pv 1) (pa_cons (pv 2) pa_nil)))))) pa_nil))))), fun D q => ?_⟩
  change Go K H [] _ [.dt (.list (l.map Stp.dat)), .dt (.int (n : Int)), .dt (.int dp), .no, .no]
  have hl : 1 ≤ l.length := by
    cases l with
    | nil => exact absurd rfl h0
    | cons x r => simp
  refine q_no (EdT.is (by wtm_at "ev") ?_) ?_
  · rw [List.length_map, decide_eq_true (show (1 : Int) ≤ (l.length : Int) by omega), decide_eq_true (show (l.length : Int) ≤ 120 by omega)]
    rfl
  refine go_ret (Ed.is (ed_all (bs := List.replicate l.length true) (EdN.ed (edn_lcE (ds := l.map Stp.dat) ((List.replicate l.length true).map PyData.bool) (by k_clsL) rfl (by simp) (by rw [List.length_map]; omega) ?_ (wipe_two (by decide)) ?_))) ?_) q
  · intro d hd
    obtain ⟨b, _, rfl⟩ := List.mem_map.mp hd
    exact .bl b
  · intro j d o e1 e2
    rw [List.getElem?_map] at e1 e2
    cases q1 : l[j]? with
    | none =>
      rw [q1] at e1
      cases e1
    | some s =>
      rw [q1] at e1
      cases e1
      have lt := (List.getElem?_eq_some_iff.mp q1).1
      rw [List.getElem?_replicate, if_pos lt] at e2
      cases e2
      refine ed_step (s := s) (a := j) (n := n) (by k_clsL) (ho j s q1) ?_
      rcases h3 with h | h
      · exact .inl h
      · exact .inr (h s (List.mem_of_getElem? q1))
  · have : (List.replicate l.length true).all id = true := by
      rw [List.all_eq_true]
      intro x hx
      exact List.eq_of_mem_replicate hx
    rw [this]
/-! ### counted -/
def R_counted (ok : Stp → Prop) (ds : List PyData) (d : PyData) : Prop := ∃ l : List Stp, ds = [.list (l.map Stp.dat)] ∧ l ≠ [] ∧ (∀ s ∈ l, ok s ∧ ∃ n a, okS n a s) ∧ d = .tuple [.int (costs l : Int), .int (chcs l : Int)]
theorem chB_le (s : BStep) : chB s ≤ 1 := by cases s <;> simp [chB]
theorem chBs_le (l : List BStep) : chBs l ≤ l.length := by
  unfold chBs
  induction l with
  | nil => exact Nat.le_refl _
  | cons s l ih =>
    rw [List.map_cons, List.sum_cons, List.length_cons]
    have := chB_le s
    omega
section
variable {Γ : List Sl} {ar : TA} {E : XK}
theorem ed_counted {ok : Stp → Prop} {l : List Stp} (h : EdA K ar Γ [.list (l.map Stp.dat)]) (h1 : l ≠ []) (h2 : ∀ s ∈ l, ok s ∧ ∃ n a, okS n a s) : Ed K (tCall (spD K (R_counted ok)) [] E ar) Γ (.tuple [.int (costs l : Int), .int (chcs l : Int)]) := ed_call h ⟨l, rfl, h1, h2, rfl⟩
end
abbrev scounted : Stmt := topS 23
theorem sccounted : FnScope ["steps", "run", "choices", "step", "inner"] ["steps"] (defScope scounted) := ⟨rfl, rfl, rfl, by decide +kernel, rfl, by decide +kernel, by decide +kernel⟩
theorem ok_counted {ok ok' : Stp → Prop} {k : Nat} (hok : ∀ m i body, ok (.turns m i body) → ∀ b ∈ body, ok' (.b b)) (T : Tx K mg) (I : DefI K mg "counted" scounted ["steps"]) (C_counted : Cl P w K mg base k "counted" (R_counted ok')) : Cl P w K mg base (k + 1) "counted" (R_counted ok) := by
  refine mkD I sccounted (fun ds d h => by obtain ⟨l, rfl, _⟩ := h; rfl) (fun f cdv A outer s H E hr ds d h => ?_)
  obtain ⟨l, rfl, h0, h1, rfl⟩ := h
  refine ⟨_, (pss_cons (ps_asg (pe_tup (pa_cons pe_int (pa_cons pe_int pa_nil))) (kpg_tup (K := K) (n := 2) rfl rfl (pgs_cons (pg_name (i := 1) sccounted.nd rfl (Or.inl rfl)) (pgs_cons (pg_name (i := 2) sccounted.nd rfl (Or.inl rfl)) pgs_nil))))
    (pss_cons (ps_for PassesOwn.never rfl (kpi_list (K := K) rfl (pv 0)) (pg_name (i := 3) sccounted.nd rfl (Or.inl rfl)) (pss_cons (ps_set (i := 1) sccounted.nd rfl (Or.inl rfl) (pe_op ox_add (pv 1) pe_int))
      (pss_cons (ps_if (pt_cmpR (kx_in (K := K) rfl) (pe_ix (kx_ix (K := K) rfl) (pv 3) pe_int (fun _ _ => rfl)) (pe_tup (pa_cons pe_str (pa_cons pe_str (pa_cons pe_str pa_nil)))) (by rfl)) (pss_one (ps_set (i := 2) sccounted.nd rfl (Or.inl rfl) (pe_op ox_add (pv 2) pe_int))) pss_nil)
      (pss_one (ps_if (pt_cmpR (kx_eq (K := K) rfl hr.units) (pe_ix (kx_ix (K := K) rfl) (pv 3) pe_int (fun _ _ => rfl)) pe_str (nomark _)) (pss_cons (ps_set (i := 4) sccounted.nd rfl (Or.inl rfl) (pc C_counted hr (by omega) rfl rfl rfl rfl rfl rfl (pa_cons (pe_ix (kx_ix (K := K) rfl) (pv 3) pe_int (fun _ _ => rfl)) pa_nil)))
        (pss_one (ps_par (i := 1) (j := 2) rfl sccounted.nd rfl rfl (by decide) rfl rfl (pa_cons (pe_op ox_add (pv 1) (pe_op ox_mul (pe_ix (kx_ix (K := K) rfl) (pv 3) pe_int (fun _ _ => rfl)) (pe_ix (kx_ix (K := K) rfl) (pv 4) pe_int (fun _ _ => rfl)))) (pa_cons (pe_op ox_add (pv 2) (pe_op ox_mul (pe_ix (kx_ix (K := K) rfl) (pv 3) pe_int (fun _ _ => rfl)) (pe_ix (kx_ix (K := K) rfl) (pv 4) pe_int (fun _ _ => rfl)))) pa_nil)) (by rfl)))) pss_nil)))))
    (pss_one (ps_ret (pe_tup (pa_cons (pv 1) (pa_cons (pv 2) pa_nil))))))), fun D q => ?_⟩
  change Go K H [] _ [.dt (.list (l.map Stp.dat)), .no, .no, .no, .no]
  refine q_pair (Ed.eh (by k_clsL) (by k_subL)) ?_
  refine q_forL (ds := l.map Stp.dat) (eh_var rfl) (fun i Γ' => ∃ x y, Γ' = [.dt (.list (l.map Stp.dat)), .dt (.int (costs (l.take i) : Int)), .dt (.int (chcs (l.take i) : Int)), x, y]) ⟨.no, .no, rfl⟩ ?_ ?_
  · rintro i d Γ' G' e1 ⟨x, y, rfl⟩
    rw [List.getElem?_map] at e1
    cases q1 : l[i]? with
    | none =>
      rw [q1] at e1
      cases e1
    | some s =>
      rw [q1] at e1
      cases e1
      have hc := costs_take q1
      have hh := chcs_take q1
      obtain ⟨hs, n, a, ho⟩ := h1 s (List.mem_of_getElem? q1)
      change Go K H G' _ [.dt (.list (l.map Stp.dat)), .dt (.int (costs (l.take i) : Int)), .dt (.int (chcs (l.take i) : Int)), .dt s.dat, y]
      wtm_at "set"
      cases s with
      | b s =>
        have hc' : (costs (l.take i) : Int) + 1 = (costs (l.take (i + 1)) : Int) := by
          rw [hc]
          rfl
        cases s with
        | ite i' j' k' =>
          have hh' : (chcs (l.take i) : Int) + 1 = (chcs (l.take (i + 1)) : Int) := by
            rw [hh]
            rfl
          refine q_yesA (EdT.is (by wtm_at "ev") (by decide +kernel)) (Ed.eh (by wtm_at "ev") (.int _)) ?_
          refine go_no (EdT.is (by wtm_at "ev") (by decide +kernel)) (go_next (go_nx ⟨.dt (Stp.b (.ite i' j' k')).dat, y, ?_⟩))
          rw [← hc', ← hh']
          rfl
        | mn i' j' =>
          have hh' : (chcs (l.take i) : Int) + 1 = (chcs (l.take (i + 1)) : Int) := by
            rw [hh]
            rfl
          refine q_yesA (EdT.is (by wtm_at "ev") (by decide +kernel)) (Ed.eh (by wtm_at "ev") (.int _)) ?_
          refine go_no (EdT.is (by wtm_at "ev") (by decide +kernel)) (go_next (go_nx ⟨.dt (Stp.b (.mn i' j')).dat, y, ?_⟩))
          rw [← hc', ← hh']
          rfl
        | mx i' j' =>
          have hh' : (chcs (l.take i) : Int) + 1 = (chcs (l.take (i + 1)) : Int) := by
            rw [hh]
            rfl
          refine q_yesA (EdT.is (by wtm_at "ev") (by decide +kernel)) (Ed.eh (by wtm_at "ev") (.int _)) ?_
          refine go_no (EdT.is (by wtm_at "ev") (by decide +kernel)) (go_next (go_nx ⟨.dt (Stp.b (.mx i' j')).dat, y, ?_⟩))
          rw [← hc', ← hh']
          rfl
        | cst c =>
          have hh' : (chcs (l.take i) : Int) = (chcs (l.take (i + 1)) : Int) := by
            rw [hh]
            rfl
          wtm_at "no"
          refine go_no (EdT.is (by wtm_at "ev") (by decide +kernel)) (go_next (go_nx ⟨.dt (Stp.b (.cst c)).dat, y, ?_⟩))
          rw [← hc', ← hh']
          rfl
        | inp i' =>
          have hh' : (chcs (l.take i) : Int) = (chcs (l.take (i + 1)) : Int) := by
            rw [hh]
            rfl
          wtm_at "no"
          refine go_no (EdT.is (by wtm_at "ev") (by decide +kernel)) (go_next (go_nx ⟨.dt (Stp.b (.inp i')).dat, y, ?_⟩))
          rw [← hc', ← hh']
          rfl
        | scl c i' =>
          have hh' : (chcs (l.take i) : Int) = (chcs (l.take (i + 1)) : Int) := by
            rw [hh]
            rfl
          wtm_at "no"
          refine go_no (EdT.is (by wtm_at "ev") (by decide +kernel)) (go_next (go_nx ⟨.dt (Stp.b (.scl c i')).dat, y, ?_⟩))
          rw [← hc', ← hh']
          rfl
        | add i' j' =>
          have hh' : (chcs (l.take i) : Int) = (chcs (l.take (i + 1)) : Int) := by
            rw [hh]
            rfl
          wtm_at "no"
          refine go_no (EdT.is (by wtm_at "ev") (by decide +kernel)) (go_next (go_nx ⟨.dt (Stp.b (.add i' j')).dat, y, ?_⟩))
          rw [← hc', ← hh']
          rfl
      | turns m i' body =>
        obtain ⟨hm, hi, hb0, hb1, hb⟩ := ho
        have hc' : (costs (l.take i) : Int) + 1 + (m : Int) * (body.length : Int) = (costs (l.take (i + 1)) : Int) := by
          rw [hc]
          show _ = (((costs (l.take i)) + (1 + m * body.length) : Nat) : Int)
          rw [Int.natCast_add, Int.natCast_add, Int.natCast_mul, ← Int.add_assoc]
          rfl
        have hh' : (chcs (l.take i) : Int) + (m : Int) * (chBs body : Int) = (chcs (l.take (i + 1)) : Int) := by
          rw [hh]
          show _ = (((chcs (l.take i)) + (m * chBs body) : Nat) : Int)
          rw [Int.natCast_add, Int.natCast_mul]
        rw [dat_turns]
        wtm_at "no"
        refine go_yes (EdT.is (by wtm_at "ev") (by decide +kernel)) ?_
        have hcl := chBs_le body
        have c1 : CMulW (m : Int) (body.length : Int) := cm_small (Nat.lt_of_le_of_lt (show _ ≤ 6 by omega) (by decide)) (Nat.lt_of_le_of_lt (show _ ≤ 120 by omega) (Nat.lt_of_lt_of_le (show _ < 2 ^ 64 by decide) (Nat.pow_le_pow_right (by decide) (by decide))))
        have c2 : CMulW (m : Int) (chBs body : Int) := cm_small (Nat.lt_of_le_of_lt (show _ ≤ 6 by omega) (by decide)) (Nat.lt_of_le_of_lt (show _ ≤ 120 by omega) (Nat.lt_of_lt_of_le (show _ < 2 ^ 64 by decide) (Nat.pow_le_pow_right (by decide) (by decide))))
        refine q_asg (d := .tuple [.int (body.length : Int), .int (chBs body : Int)]) (Ed.eh (Ed.is (ed_counted (ok := ok') (l := body.map Stp.b) (by k_clsL) ?_ ?_) ?_) (by k_subL)) ?_
        · intro z
          exact hb0 (List.map_eq_nil_iff.mp z)
        · intro s' hs'
          obtain ⟨x', hx', rfl⟩ := List.mem_map.mp hs'
          exact ⟨hok _ _ _ hs x' hx', (okL_b hb).each _ hs'⟩
        · rw [costs_b, chcs_b]
        · refine go_par (Ed.eh (by k_clsL; exact c1) (.int _)) (Ed.eh (by k_clsL; exact c2) (.int _)) (go_nx ⟨.dt (.tuple [.str "turns", .int (m : Int), .int (i' : Int), .list ((body.map Stp.b).map Stp.dat)]), .dt (.tuple [.int (body.length : Int), .int (chBs body : Int)]), ?_⟩)
          rw [← hc', ← hh']
          rfl
  · rintro Γ' ⟨x, y, rfl⟩
    rw [List.take_of_length_le (by rw [List.length_map]; exact Nat.le_refl _)]
    exact go_ret (by k_clsL) q
end
end BW

namespace BW
open PySem PySem.Spec PyProof.Rows L2 Evl
local macro_rules | `(tactic| k_offL) => `(tactic| first
  | ((with_reducible show Ed _ (tVar _) _ _); first | exact ed_var rfl | exact ed_varO rfl)
  | (with_reducible exact ed_int)
  | (with_reducible apply ed_op)
  | (with_reducible exact rd_add)
  | (with_reducible exact rd_sub)
  | ((with_reducible show RD _ (xIx _) _ _ _); exact rd_ix rfl)
  | (with_reducible apply rd_mul)
  | (with_reducible exact rd_lt)
  | (with_reducible exact rd_le)
  | (with_reducible exact rd_gt)
  | (with_reducible exact rd_ge)
  | (with_reducible apply rd_div)
  | (with_reducible apply rd_mod)
  | ((with_reducible show RD _ (xEq _) (PyData.str _) _ _); exact rd_eqS (by decide +kernel) (by decide +kernel))
  | ((with_reducible show RD _ (xEq _) _ _ _); exact rd_eqS (by rfl) (by rfl))
  | ((with_reducible show RD _ (xNe _) _ _ _); exact rd_neS (by rfl) (by rfl))
  | ((with_reducible show RD _ (xIn _) _ _ _); first | exact rd_inT rfl rfl | exact rd_inL rfl rfl)
  | ((with_reducible show RD _ (xNin _) _ _ _); first | exact rd_ninT rfl rfl | exact rd_ninL rfl rfl)
  | (with_reducible exact ed_str)
  | ((with_reducible show Ed _ (tC (V.ref _)) _ _); exact ed_c (by assumption))
  | (with_reducible exact ed_bl)
  | (with_reducible apply et_test)
  | (with_reducible apply et_B)
  | (with_reducible apply et_not)
  | (with_reducible apply et_and')
  | (with_reducible apply et_or')
  | (with_reducible exact ea_nil)
  | (with_reducible apply ea_cons)
  | (with_reducible apply ed_tail)
  | (with_reducible apply ed_tup2)
  | (with_reducible apply ed_tup3)
  | (with_reducible apply ed_tup4)
  | (with_reducible apply ed_tup1)
  | (with_reducible apply ed_lst1)
  | (with_reducible apply ed_lst2)
  | (with_reducible apply ed_lst3)
  | (with_reducible apply ed_andV')
  | (with_reducible apply ed_orV')
  | (with_reducible apply ed_notV)
  | (with_reducible apply ed_neg)
  | (with_reducible apply isi_ii)
  | (with_reducible apply isi_ib)
  | (with_reducible apply isi_tt)
  | (with_reducible apply isi_ll)
  | (with_reducible apply isi_ss)
  | (with_reducible apply ed_len)
  | ((with_reducible show lenD _ = some _); exact rfl)
  | (with_reducible apply ed_abs)
  | (with_reducible apply ed_min)
  | (with_reducible apply ed_chain')
  | (with_reducible apply ed_all)
  | (with_reducible apply ed_sum))
local macro_rules | `(tactic| k_clsL) => `(tactic| repeat (any_goals k_offL))
local macro_rules | `(tactic| k_subL) => `(tactic| first | exact Pl.int _ | exact Pl.bl _ | exact Pl.str _ | exact pl_nm _ | exact pl_bdat _ | (refine Pl.tup ?_; repeat (first | exact PlA.nil | refine PlA.cons (by k_subL) ?_)))
local macro_rules | `(tactic| wtm_at "pre") => `(tactic| first | assumption | omega)
local macro_rules | `(tactic| wtm_at "ev") => `(tactic| (k_clsL; all_goals wtm_at "pre"))
local macro_rules | `(tactic| wtm_at "no") => `(tactic| ((with_reducible refine' q_no (EdT.is ?hb ?hc) ?hd); (case hb => wtm_at "ev"); (case hc => first | decide +kernel | rfl)))
local macro_rules | `(tactic| wtm_at "set") => `(tactic| ((with_reducible refine' q_asg (Ed.eh ?hb ?hc) ?hd); (case hb => wtm_at "ev"); (case hc => k_subL)))
local macro_rules | `(tactic| wtm_at "yes") => `(tactic| ((with_reducible refine' q_yes (EdT.is ?hb ?hc) ?hd); (case hb => wtm_at "ev"); (case hc => first | decide +kernel | rfl)))
local macro_rules | `(tactic| k_offL) => `(tactic| (with_reducible apply ed_is_whole))
local macro_rules | `(tactic| k_offL) => `(tactic| (with_reducible apply ed_common))
local macro_rules | `(tactic| k_offL) => `(tactic| (with_reducible apply ed_is_number))
local macro_rules | `(tactic| k_offL) => `(tactic| (with_reducible apply ed_lowest))
local macro_rules | `(tactic| wtm_at "pre") => `(tactic| first | assumption | omega | exact sm_nd (by assumption) (by assumption) | exact sm_nn (by assumption) (by assumption) | exact sm_dd (by assumption) (by assumption) | exact sm_pre (by assumption) (by assumption))
local macro_rules | `(tactic| k_offL) => `(tactic| (with_reducible apply ed_add))
local macro_rules | `(tactic| k_offL) => `(tactic| (with_reducible apply ed_grow))
local macro_rules | `(tactic| k_offL) => `(tactic| (with_reducible apply ed_lies))
local macro_rules | `(tactic| k_offL) => `(tactic| (with_reducible apply ed_is_ahead))
section
variable {P : Program} {w : World} {K : PySem.W.Frag} {mg : Str → Option Value} {base : Heap}
local macro_rules | `(tactic| k_offL) => `(tactic| ((fail_if_success (with_reducible show RD _ (xIx _) _ PyData.none _)); (with_reducible show RD _ (xIx _) (PyData.list (List.map nm _)) _ _); exact rd_ix (ix_map (by first | assumption | omega))))
/-! ### asked_program, asked_places -/
def R_askp (ds : List PyData) (d : PyData) : Prop := ∃ n l, ds = [prg n l] ∧ OkP n l ∧ d = .none
abbrev sasked_program : Stmt := topS 24
theorem scasked_program : FnScope ["program", "run", "choices"] ["program"] (defScope sasked_program) := ⟨rfl, rfl, rfl, by decide +kernel, rfl, by decide +kernel, by decide +kernel⟩
theorem ok_asked_program {k : Nat} {ok : Stp → Prop} (hok : ∀ s, ok s) (T : Tx K mg) (I : DefI K mg "asked_program" sasked_program ["program"]) (C_is_whole : Cl P w K mg base 1 "is_whole" R_is_whole)
    (C_are_steps : Cl P w K mg base k "are_steps" (R_steps 0)) (C_counted : Cl P w K mg base k "counted" (R_counted ok)) : Cl P w K mg base (k + 2) "asked_program" R_askp := by
  refine mkDn I scasked_program (fun ds d h => by obtain ⟨n, l, rfl, _⟩ := h; rfl) (fun f cdv A outer s H E hr ds d h => ?_)
  obtain ⟨n, l, rfl, o, rfl⟩ := h
  refine ⟨rfl, _, (pss_cons (ps_if (PW.pt (pw_or (pt_not (pt_val (pe_callB (kx_isi (K := K) rfl) (by rfl) T.isinstance bb_isinstance (pa_cons (pv 0) (pa_cons (pty "tuple" rfl T.tuple bb_tuple) pa_nil))))) (pw_or (pt_cmpR (kx_ne (K := K) rfl hr.units) (pe_callB (kx_len (K := K) rfl) (by rfl) T.len bb_len (pa_cons (pv 0) pa_nil)) pe_int (nomark _)) (pw_or1 (pt_not (pt_val (pc C_is_whole hr (by omega) rfl rfl rfl rfl rfl rfl (pa_cons (pe_ix (kx_ix (K := K) rfl) (pv 0) pe_int (fun _ _ => rfl)) pa_nil)))))))) pss_never pss_nil)
    (pss_cons (ps_if (PW.pt (pw_or (pt_not (pt_chain ox_le ox_le pe_int (pe_ix (kx_ix (K := K) rfl) (pv 0) pe_int (fun _ _ => rfl)) (pgc rfl T.c_MOST_INPUTS))) (pw_or1 (pt_not (pt_val (pc C_are_steps hr (by omega) rfl rfl rfl rfl rfl rfl (pa_cons (pe_ix (kx_ix (K := K) rfl) (pv 0) pe_int (fun _ _ => rfl)) (pa_cons (pe_ix (kx_ix (K := K) rfl) (pv 0) pe_int (fun _ _ => rfl)) (pa_cons pe_int pa_nil))))))))) pss_never pss_nil)
    (pss_cons (ps_asg (pc C_counted hr (by omega) rfl rfl rfl rfl rfl rfl (pa_cons (pe_ix (kx_ix (K := K) rfl) (pv 0) pe_int (fun _ _ => rfl)) pa_nil)) (kpg_tup (K := K) (n := 2) rfl rfl (pgs_cons (pg_name (i := 1) scasked_program.nd rfl (Or.inl rfl)) (pgs_cons (pg_name (i := 2) scasked_program.nd rfl (Or.inl rfl)) pgs_nil))))
    (pss_one (ps_if (PW.pt (pw_or (pt_cmpR ox_gt (pv 1) (pgc rfl T.c_MOST_RUN) (nomark _)) (pw_or1 (pt_cmpR ox_gt (pv 2) (pgc rfl T.c_MOST_CHOICES) (nomark _))))) pss_never pss_nil))))), fun D q => ?_⟩
  change Go K H [] _ [.dt (.tuple [.int (n : Int), .list (l.map Stp.dat)]), .no, .no]
  have n1 := o.n1
  have n3 := o.n3
  wtm_at "no"
  refine q_no (EdT.is (et_or' (by wtm_at "ev") (et_not (et_B (ed_steps (l := l) (n := n) (dp := 0) (by k_clsL) o.ok ⟨o.ne, o.len⟩ (.inl rfl))))) ?_) ?_
  · rw [decide_eq_true (show (1 : Int) ≤ (n : Int) by omega), decide_eq_true (show (n : Int) ≤ 3 by omega)]
    rfl
  refine q_pair (Ed.eh (ed_counted (ok := ok) (l := l) (by k_clsL) o.ne (fun s hs => ⟨hok s, o.ok.each s hs⟩)) (by k_subL)) ?_
  refine go_no (EdT.is (by wtm_at "ev") ?_) (go_next ⟨fun F => q _ _ F.ex⟩)
  rw [decide_eq_false (show ¬ (120 : Int) < (costs l : Int) by have := o.run; omega), decide_eq_false (show ¬ (8 : Int) < (chcs l : Int) by have := o.chs; omega)]
  rfl
def R_askl (ds : List PyData) (d : PyData) : Prop := ∃ (n : Nat) (l : List Stp) (pl : List Rat), ds = [prg n l, .list (pl.map nm)] ∧ (pl.length = n ∧ n ≤ 1000) ∧ d = .none
theorem ed_nums {Γ : List Sl} {outs : List Bool} {j : Nat} {te : TE} {ar : TA} {E : XK} {pl : List Rat} (h : Ed K te Γ (.list (pl.map nm))) (hl : pl.length ≤ 1000) (he : ∀ q, Ed K (tCall (spD K R_is_number) [] E ar) ((wipeG Γ [j]).set j (.dt (nm q))) (.bool true)) :
    Ed K (tCB (rAll K) (tCons (tLc (iList K te) (gName j) tYes (tCall (spD K R_is_number) [] E ar) [j]) tNil)) Γ (.bool true) := by
  have all : (List.replicate pl.length true).all id = true := by
    rw [List.all_eq_true]
    intro x hx
    exact List.eq_of_mem_replicate hx
  refine Ed.is (ed_all (bs := List.replicate pl.length true) (EdN.ed (edn_lcL (ds := pl.map nm) ((List.replicate pl.length true).map PyData.bool) h (by simp) (by rw [List.length_map]; omega) ?_ ?_ (wipe_one j) ?_))) (by rw [all])
  · intro d hd
    obtain ⟨b, _, rfl⟩ := List.mem_map.mp hd
    exact .bl b
  · intro d hd
    obtain ⟨b, _, rfl⟩ := List.mem_map.mp hd
    exact pl_nm b
  · intro i d o e1 e2
    rw [List.getElem?_map] at e1 e2
    cases q1 : pl[i]? with
    | none =>
      rw [q1] at e1
      cases e1
    | some s =>
      rw [q1] at e1
      cases e1
      have lt := (List.getElem?_eq_some_iff.mp q1).1
      rw [List.getElem?_replicate, if_pos lt] at e2
      cases e2
      exact he s
abbrev sasked_places : Stmt := topS 26
theorem scasked_places : FnScope ["program", "places", "one"] ["program", "places"] (defScope sasked_places) := ⟨rfl, rfl, rfl, by decide +kernel, rfl, by decide +kernel, by decide +kernel⟩
theorem ok_asked_places (T : Tx K mg) (I : DefI K mg "asked_places" sasked_places ["program", "places"]) (C_is_number : Cl P w K mg base 2 "is_number" R_is_number) : Cl P w K mg base 3 "asked_places" R_askl := by
  refine mkDn I scasked_places (fun ds d h => by obtain ⟨n, l, pl, rfl, _⟩ := h; rfl) (fun f cdv A outer s H E hr ds d h => ?_)
  obtain ⟨n, l, pl, rfl, ⟨hn, hn2⟩, rfl⟩ := h
  refine ⟨rfl, _, (pss_one (ps_if (PW.pt (pw_or (pt_not (pt_val (pe_callB (kx_isi (K := K) rfl) (by rfl) T.isinstance bb_isinstance (pa_cons (pv 1) (pa_cons (pty "list" rfl T.list bb_list) pa_nil))))) (pw_or (pt_cmpR (kx_ne (K := K) rfl hr.units) (pe_callB (kx_len (K := K) rfl) (by rfl) T.len bb_len (pa_cons (pv 1) pa_nil)) (pe_ix (kx_ix (K := K) rfl) (pv 0) pe_int (fun _ _ => rfl)) (nomark _)) (pw_or1 (pt_not (pt_val (pe_callB (kx_all (K := K) rfl rfl) (by rfl) T.all bb_all (pa_cons (pe_lc (own := [(("one" : Str), 2)]) rfl scasked_places.nd (kpi_list (K := K) rfl (pv 1)) (blkOk_by (own := [(("one" : Str), 2)]) (N := ["program", "places", "one"]) (sc := defScope sasked_places) (by decide +kernel)) (fun _ _ _ _ _ => pg_name (i := 2) scasked_places.nd rfl (Or.inl rfl)) (fun _ _ _ _ _ => pts_nil) (fun _ _ _ _ _ => pc C_is_number hr (by omega) rfl rfl rfl rfl rfl rfl (pa_cons (pv 2) pa_nil))) pa_nil)))))))) pss_never pss_nil)), fun D q => ?_⟩
  change Go K H [] _ [.dt (.tuple [.int (n : Int), .list (l.map Stp.dat)]), .dt (.list (pl.map nm)), .no]
  refine go_no (EdT.is (et_or' (by wtm_at "ev") (et_or' (by wtm_at "ev") (et_not (et_B (ed_nums (pl := pl) (outs := []) (by k_clsL) (by omega) (fun r => by k_clsL)))))) ?_) (go_next ⟨fun F => q _ _ F.ex⟩)
  rw [List.length_map, hn]
  show (!true || (!(((n : Int) == (n : Int))) || !true)) = false
  rw [beq_self_eq_true]
  rfl
/-! ### worth_of, worths_of, worths -/
def R_worth (inner : List BStep → Rat → Rat) (ok : Stp → Prop) (ds : List PyData) (d : PyData) : Prop := ∃ (s : Stp) (fd pl : List Rat) (k : Nat), ds = [s.dat, .list (fd.map nm), .list (pl.map nm)] ∧ (okS pl.length fd.length s ∧ ok s) ∧ (AllB k pl ∧ AllB k fd ∧ k + cost s ≤ 240) ∧ d = nm (sev inner pl fd s)
def R_worths (inner : List BStep → Rat → Rat) (ok : Stp → Prop) (ds : List PyData) (d : PyData) : Prop := ∃ (l : List Stp) (pl : List Rat) (k : Nat), ds = [.list (l.map Stp.dat), .list (pl.map nm)] ∧ (l ≠ [] ∧ l.length ≤ 1000) ∧ (okL pl.length l ∧ ∀ s ∈ l, ok s) ∧ (AllB k pl ∧ k + costs l ≤ 240) ∧ d = .list ((wos inner pl l).map nm)
section
variable {Γ : List Sl} {ar : TA} {E : XK} {inner : List BStep → Rat → Rat} {ok : Stp → Prop}
theorem ed_worth {s : Stp} {fd pl : List Rat} {k : Nat} (h : EdA K ar Γ [s.dat, .list (fd.map nm), .list (pl.map nm)]) (h1 : okS pl.length fd.length s ∧ ok s) (h2 : AllB k pl ∧ AllB k fd ∧ k + cost s ≤ 240) : Ed K (tCall (spD K (R_worth inner ok)) [] E ar) Γ (nm (sev inner pl fd s)) := ed_call h ⟨s, fd, pl, k, rfl, h1, h2, rfl⟩
theorem ed_worths {l : List Stp} {pl : List Rat} {k : Nat} (h : EdA K ar Γ [.list (l.map Stp.dat), .list (pl.map nm)]) (h0 : l ≠ [] ∧ l.length ≤ 1000) (h1 : okL pl.length l ∧ ∀ s ∈ l, ok s) (h2 : AllB k pl ∧ k + costs l ≤ 240) : Ed K (tCall (spD K (R_worths inner ok)) [] E ar) Γ (.list ((wos inner pl l).map nm)) := ed_call h ⟨l, pl, k, rfl, h0, h1, h2, rfl⟩
end
theorem lie_le (a b : Rat) : decide (lieQ a b ≤ 0) = decide (a ≤ b) := by
  unfold lieQ
  by_cases h : a ≤ b
  · rw [if_pos h, decide_eq_true h]
    split <;> decide
  · rw [if_neg h, decide_eq_false h]
    decide
abbrev sworth_of : Stmt := topS 27
theorem scworth_of : FnScope ["step", "found", "places", "kind", "worth", "turn", "one", "other", "lesser"] ["step", "found", "places"] (defScope sworth_of) := ⟨rfl, rfl, rfl, by decide +kernel, rfl, by decide +kernel, by decide +kernel⟩
theorem ok_worth_of {k0 : Nat} {inner : List BStep → Rat → Rat} {ok ok' : Stp → Prop} (hok : ∀ m i body, ok (.turns m i body) → ∀ b ∈ body, ok' (.b b)) (T : Tx K mg) (I : DefI K mg "worth_of" sworth_of ["step", "found", "places"])
    (C_add : Cl P w K mg base 3 "add" R_add) (C_grow : Cl P w K mg base 3 "grow" R_grow) (C_lies : Cl P w K mg base 1 "lies" R_lies) (C_worths_of : Cl P w K mg base k0 "worths_of" (R_worths inner ok')) : Cl P w K mg base (k0 + 4) "worth_of" (R_worth (inn inner) ok) := by
  refine mkD I scworth_of (fun ds d h => by obtain ⟨s, fd, pl, k, rfl, _⟩ := h; rfl) (fun f cdv A outer s H E hr ds d h => ?_)
  obtain ⟨s, fd, pl, k, rfl, ⟨ho, hs⟩, ⟨hp, hf, hk⟩, rfl⟩ := h
  have sp : ∀ i, Sm 4000 (gq pl i) := hp.sm (by omega)
  have sf : ∀ i, Sm 4000 (gq fd i) := hf.sm (by omega)
  refine ⟨_, (pss_cons (ps_set (i := 3) scworth_of.nd rfl (Or.inl rfl) (pe_ix (kx_ix (K := K) rfl) (pv 0) pe_int (fun _ _ => rfl)))
    (pss_cons (ps_if (pt_cmpR (kx_eq (K := K) rfl hr.units) (pv 3) pe_str (nomark _)) (pss_one (ps_ret (pe_ix (kx_ix (K := K) rfl) (pv 0) pe_int (fun _ _ => rfl)))) pss_nil)
    (pss_cons (ps_if (pt_cmpR (kx_eq (K := K) rfl hr.units) (pv 3) pe_str (nomark _)) (pss_one (ps_ret (pe_ix (kx_ix (K := K) rfl) (pv 2) (pe_ix (kx_ix (K := K) rfl) (pv 0) pe_int (fun _ _ => rfl)) (fun _ _ => rfl)))) pss_nil)
    (pss_cons (ps_if (pt_cmpR (kx_eq (K := K) rfl hr.units) (pv 3) pe_str (nomark _)) (pss_one (ps_ret (pc C_grow hr (by omega) rfl rfl rfl rfl rfl rfl (pa_cons (pe_ix (kx_ix (K := K) rfl) (pv 0) pe_int (fun _ _ => rfl)) (pa_cons (pe_ix (kx_ix (K := K) rfl) (pv 1) (pe_ix (kx_ix (K := K) rfl) (pv 0) pe_int (fun _ _ => rfl)) (fun _ _ => rfl)) pa_nil))))) pss_nil)
    (pss_cons (ps_if (pt_cmpR (kx_eq (K := K) rfl hr.units) (pv 3) pe_str (nomark _)) (pss_one (ps_ret (pe_ifExp (pt_cmpR ox_le (pe_ix (kx_ix (K := K) rfl) (pe_ix (kx_ix (K := K) rfl) (pv 1) (pe_ix (kx_ix (K := K) rfl) (pv 0) pe_int (fun _ _ => rfl)) (fun _ _ => rfl)) pe_int (fun _ _ => rfl)) pe_int (nomark _)) (pe_ix (kx_ix (K := K) rfl) (pv 1) (pe_ix (kx_ix (K := K) rfl) (pv 0) pe_int (fun _ _ => rfl)) (fun _ _ => rfl)) (pe_ix (kx_ix (K := K) rfl) (pv 1) (pe_ix (kx_ix (K := K) rfl) (pv 0) pe_int (fun _ _ => rfl)) (fun _ _ => rfl))))) pss_nil)
    (pss_cons (ps_if (pt_cmpR (kx_eq (K := K) rfl hr.units) (pv 3) pe_str (nomark _)) (pss_cons (ps_set (i := 4) scworth_of.nd rfl (Or.inl rfl) (pe_ix (kx_ix (K := K) rfl) (pv 1) (pe_ix (kx_ix (K := K) rfl) (pv 0) pe_int (fun _ _ => rfl)) (fun _ _ => rfl)))
      (pss_cons (ps_for PassesOwn.never rfl (pi_range1 rfl T.range (pa_cons (pe_ix (kx_ix (K := K) rfl) (pv 0) pe_int (fun _ _ => rfl)) pa_nil)) (pg_name (i := 5) scworth_of.nd rfl (Or.inl rfl)) (pss_one (ps_set (i := 4) scworth_of.nd rfl (Or.inl rfl) (pe_ix (kx_ix (K := K) rfl) (pc C_worths_of hr (by omega) rfl rfl rfl rfl rfl rfl (pa_cons (pe_ix (kx_ix (K := K) rfl) (pv 0) pe_int (fun _ _ => rfl)) (pa_cons (pe_lst (pa_cons (pv 4) pa_nil)) pa_nil))) (pe_un ux_neg pe_int) (fun _ _ => rfl)))))
      (pss_one (ps_ret (pv 4))))) pss_nil)
    (pss_cons (ps_par (i := 6) (j := 7) rfl scworth_of.nd rfl rfl (by decide) rfl rfl (pa_cons (pe_ix (kx_ix (K := K) rfl) (pv 1) (pe_ix (kx_ix (K := K) rfl) (pv 0) pe_int (fun _ _ => rfl)) (fun _ _ => rfl)) (pa_cons (pe_ix (kx_ix (K := K) rfl) (pv 1) (pe_ix (kx_ix (K := K) rfl) (pv 0) pe_int (fun _ _ => rfl)) (fun _ _ => rfl)) pa_nil)) (by rfl))
    (pss_cons (ps_if (pt_cmpR (kx_eq (K := K) rfl hr.units) (pv 3) pe_str (nomark _)) (pss_one (ps_ret (pc C_add hr (by omega) rfl rfl rfl rfl rfl rfl (pa_cons (pv 6) (pa_cons (pv 7) pa_nil))))) pss_nil)
    (pss_cons (ps_set (i := 8) scworth_of.nd rfl (Or.inl rfl) (pe_cmpR ox_le (pc C_lies hr (by omega) rfl rfl rfl rfl rfl rfl (pa_cons (pv 6) (pa_cons (pv 7) pa_nil))) pe_int (nomark _)))
    (pss_one (ps_ret (pe_ifExp (pt_cmpR (kx_eq (K := K) rfl hr.units) (pv 8) (pe_cmpR (kx_eq (K := K) rfl hr.units) (pv 3) pe_str (nomark _)) (nomark _)) (pv 6) (pv 7))))))))))))), fun D q => ?_⟩
  change Go K H [] _ [.dt s.dat, .dt (.list (fd.map nm)), .dt (.list (pl.map nm)), .no, .no, .no, .no, .no, .no]
  cases s with
  | b s =>
    cases s with
    | cst c =>
      wtm_at "set"
      wtm_at "yes"
      exact go_ret (Ed.is (by k_clsL) (by rfl)) q
    | inp i =>
      have hi : i < pl.length := ho
      wtm_at "set"
      wtm_at "no"
      wtm_at "yes"
      exact go_ret (Ed.is (by k_clsL) (by rfl)) q
    | scl c i =>
      have hi : i < fd.length := ho.2
      wtm_at "set"
      wtm_at "no"
      wtm_at "no"
      wtm_at "yes"
      exact go_ret (Ed.is (by k_clsL; exact ⟨few_sm ho.1 (by decide), sf i⟩) (by rfl)) q
    | ite i j l =>
      obtain ⟨hi, hj, hl⟩ : i < fd.length ∧ j < fd.length ∧ l < fd.length := ho
      wtm_at "set"
      wtm_at "no"
      wtm_at "no"
      wtm_at "no"
      wtm_at "yes"
      refine go_ret (ed_if (b := decide (gq fd i ≤ 0)) (EdT.is (by k_clsL) (decide_eq_decide.mpr (num_le_zero _))) (fun h => ?_) fun h => ?_) q
      · have h' := of_decide_eq_true h
        show Ed K _ _ (nm (if gq fd i ≤ 0 then gq fd j else gq fd l))
        rw [if_pos h']
        k_clsL
      · have h' := of_decide_eq_false h
        show Ed K _ _ (nm (if gq fd i ≤ 0 then gq fd j else gq fd l))
        rw [if_neg h']
        k_clsL
    | add i j =>
      obtain ⟨hi, hj⟩ : i < fd.length ∧ j < fd.length := ho
      wtm_at "set"
      wtm_at "no"
      wtm_at "no"
      wtm_at "no"
      wtm_at "no"
      wtm_at "no"
      refine q_par (Ed.eh (d := nm (gq fd i)) (by k_clsL) (pl_nm _)) (Ed.eh (d := nm (gq fd j)) (by k_clsL) (pl_nm _)) ?_
      wtm_at "yes"
      exact go_ret (Ed.is (by k_clsL; exact ⟨sf i, sf j⟩) (by rfl)) q
    | mn i j =>
      obtain ⟨hi, hj⟩ : i < fd.length ∧ j < fd.length := ho
      wtm_at "set"
      wtm_at "no"
      wtm_at "no"
      wtm_at "no"
      wtm_at "no"
      wtm_at "no"
      refine q_par (Ed.eh (d := nm (gq fd i)) (by k_clsL) (pl_nm _)) (Ed.eh (d := nm (gq fd j)) (by k_clsL) (pl_nm _)) ?_
      wtm_at "no"
      refine q_asg (d := .bool (decide (gq fd i ≤ gq fd j))) (Ed.eh (Ed.is (by k_clsL; exact ⟨sf i, sf j⟩) (by rw [lie_le])) (.bl _)) ?_
      refine go_ret (ed_if (b := decide (gq fd i ≤ gq fd j)) (EdT.is (by k_clsL) ?_) (fun h => ?_) fun h => ?_) q
      · cases decide (gq fd i ≤ gq fd j) <;> decide +kernel
      · have h' := of_decide_eq_true h
        show Ed K _ _ (nm (if gq fd i ≤ gq fd j then gq fd i else gq fd j))
        rw [if_pos h']
        k_clsL
      · have h' := of_decide_eq_false h
        show Ed K _ _ (nm (if gq fd i ≤ gq fd j then gq fd i else gq fd j))
        rw [if_neg h']
        k_clsL
    | mx i j =>
      obtain ⟨hi, hj⟩ : i < fd.length ∧ j < fd.length := ho
      wtm_at "set"
      wtm_at "no"
      wtm_at "no"
      wtm_at "no"
      wtm_at "no"
      wtm_at "no"
      refine q_par (Ed.eh (d := nm (gq fd i)) (by k_clsL) (pl_nm _)) (Ed.eh (d := nm (gq fd j)) (by k_clsL) (pl_nm _)) ?_
      wtm_at "no"
      refine q_asg (d := .bool (decide (gq fd i ≤ gq fd j))) (Ed.eh (Ed.is (by k_clsL; exact ⟨sf i, sf j⟩) (by rw [lie_le])) (.bl _)) ?_
      refine go_ret (ed_if (b := !decide (gq fd i ≤ gq fd j)) (EdT.is (by k_clsL) ?_) (fun h => ?_) fun h => ?_) q
      · cases decide (gq fd i ≤ gq fd j) <;> decide +kernel
      · have h' : ¬ gq fd i ≤ gq fd j := by
          intro z
          rw [decide_eq_true z] at h
          cases h
        show Ed K _ _ (nm (if gq fd i ≤ gq fd j then gq fd j else gq fd i))
        rw [if_neg h']
        k_clsL
      · have h' : gq fd i ≤ gq fd j := by
          by_cases z : gq fd i ≤ gq fd j
          · exact z
          · rw [decide_eq_false z] at h
            cases h
        show Ed K _ _ (nm (if gq fd i ≤ gq fd j then gq fd j else gq fd i))
        rw [if_pos h']
        k_clsL
  | turns m i body =>
    obtain ⟨hm, hi, hb0, hb1, hb⟩ := ho
    have hcost : k + (1 + m * body.length) ≤ 240 := hk
    rw [dat_turns]
    wtm_at "set"
    wtm_at "no"
    wtm_at "no"
    wtm_at "no"
    wtm_at "no"
    wtm_at "yes"
    refine q_asg (d := nm (gq fd i)) (Ed.eh (by k_clsL) (pl_nm _)) ?_
    refine q_forR (n := (m : Int)) (by k_clsL) (by omega) (fun j Γ' => ∃ x, Γ' = [.dt (.tuple [.str "turns", .int (m : Int), .int (i : Int), .list ((body.map Stp.b).map Stp.dat)]), .dt (.list (fd.map nm)), .dt (.list (pl.map nm)), .dt (.str "turns"), .dt (nm (iter (inn inner body) j (gq fd i))), x, .no, .no, .no]) ⟨.no, rfl⟩ ?_ ?_
    · rintro j Γ' hj ⟨x, rfl⟩
      have hjm : j < m := by omega
      have hw : Bd (k + j * body.length) (iter (inn inner body) j (gq fd i)) := iter_bd (fun k w hw => inn_bd hb hw) j (hf i)
      have hmul : j * body.length + body.length ≤ m * body.length := by
        rw [← Nat.succ_mul]
        exact Nat.mul_le_mul_right _ hjm
      have hbn : body.map Stp.b ≠ [] := fun z => hb0 (List.map_eq_nil_iff.mp z)
      refine go_asg (d := nm (iter (inn inner body) (j + 1) (gq fd i))) (Ed.eh (ed_op (ed_worths (l := body.map Stp.b) (pl := [iter (inn inner body) j (gq fd i)]) (k := k + j * body.length) (ea_cons (by k_clsL) (ea_cons (Ed.is (by k_clsL) (by rfl)) ea_nil)) ⟨hbn, by rw [List.length_map]; omega⟩ ⟨okL_b hb, ?_⟩ ⟨?_, ?_⟩) (by k_clsL) (rd_ix (ix_last (wos_ne hbn)))) (pl_nm _)) (go_nx ⟨.dt (.int (j : Int)), rfl⟩)
      · intro s' hs'
        obtain ⟨x', hx', rfl⟩ := List.mem_map.mp hs'
        exact hok _ _ _ hs x' hx'
      · exact allB_of fun q hq => by
          rw [List.mem_singleton.mp hq]
          exact hw
      · rw [costs_b]
        omega
    · rintro Γ' ⟨x, rfl⟩
      exact go_ret (Ed.is (by k_clsL) (by rfl)) q
abbrev sworths_of : Stmt := topS 28
theorem scworths_of : FnScope ["steps", "places", "found", "step"] ["steps", "places"] (defScope sworths_of) := ⟨rfl, rfl, rfl, by decide +kernel, rfl, by decide +kernel, by decide +kernel⟩
theorem ok_worths_of {k0 : Nat} {inner : List BStep → Rat → Rat} {ok : Stp → Prop} (hI : ∀ n a s, okS n a s → InB inner s) (T : Tx K mg) (I : DefI K mg "worths_of" sworths_of ["steps", "places"])
    (C_worth_of : Cl P w K mg base k0 "worth_of" (R_worth inner ok)) : Cl P w K mg base (k0 + 1) "worths_of" (R_worths inner ok) := by
  refine mkD I scworths_of (fun ds d h => by obtain ⟨s, fd, pl, rfl, _⟩ := h; rfl) (fun f cdv A outer s H E hr ds d h => ?_)
  obtain ⟨l, pl, k, rfl, ⟨h0, h1⟩, ⟨ho, hs⟩, ⟨hp, hk⟩, rfl⟩ := h
  refine ⟨_, (pss_cons (ps_set (i := 2) scworths_of.nd rfl (Or.inl rfl) (pe_lst pa_nil))
    (pss_cons (ps_for PassesOwn.never rfl (kpi_list (K := K) rfl (pv 0)) (pg_name (i := 3) scworths_of.nd rfl (Or.inl rfl)) (pss_one (ps_expr (kbm (K := K) rfl (pe_bm PySem.F.plainAttrs_list PySem.F.slot_list_append PySem.F.type_list_append mt_append (pv 2) (pa_cons (pc C_worth_of hr (by omega) rfl rfl rfl rfl rfl rfl (pa_cons (pv 3) (pa_cons (pv 2) (pa_cons (pv 1) pa_nil)))) pa_nil))))))
    (pss_one (ps_ret (pv 2))))), fun D q => ?_⟩
  change Go K H [] _ [.dt (.list (l.map Stp.dat)), .dt (.list (pl.map nm)), .no, .no]
  refine q_asgN (edn_lst ea_nil (by decide)) PlA.nil ?_
  refine q_forL (ds := l.map Stp.dat) (eh_var rfl) (fun i Γ' => ∃ x, Γ' = [.dt (.list (l.map Stp.dat)), .dt (.list (pl.map nm)), .own ((wos inner pl (l.take i)).map nm), x]) ⟨.no, rfl⟩ ?_ ?_
  · rintro i d Γ' G' e1 ⟨x, rfl⟩
    rw [List.getElem?_map] at e1
    cases q1 : l[i]? with
    | none =>
      rw [q1] at e1
      cases e1
    | some s =>
      rw [q1] at e1
      cases e1
      have lt := (List.getElem?_eq_some_iff.mp q1).1
      have hlen : (wos inner pl (l.take i)).length = i := by
        rw [wos_len, List.length_take]
        omega
      have hc := costs_take q1
      have hc2 := costs_le l (i + 1)
      have hb : AllB (k + costs (l.take i)) (wos inner pl (l.take i)) := wos_bd (fun s' hs' => ⟨ho.each s' (List.mem_of_mem_take hs'), by
        obtain ⟨n, a, o⟩ := ho.each s' (List.mem_of_mem_take hs')
        exact hI n a s' o⟩) hp
      refine go_app (d := nm (sev inner pl (wos inner pl (l.take i)) s)) rfl (ed_worth (s := s) (fd := wos inner pl (l.take i)) (pl := pl) (k := k + costs (l.take i)) (by k_clsL) ⟨by rw [hlen]; exact ho i s q1, hs s (List.mem_of_getElem? q1)⟩ ⟨hp.mono (by omega), hb, by omega⟩) (pl_nm _) (by rw [List.length_map, hlen]; omega) (go_nx ⟨.dt s.dat, ?_⟩)
      rw [wos_take q1, List.map_append]
      rfl
  · rintro Γ' ⟨x, rfl⟩
    rw [List.take_of_length_le (by rw [List.length_map]; exact Nat.le_refl _)]
    exact go_ret (Ed.is (by k_clsL) (by rfl)) q
def R_wtop (ds : List PyData) (d : PyData) : Prop := ∃ (n : Nat) (l : List Stp) (pl : List Rat), ds = [prg n l, .list (pl.map nm)] ∧ OkP n l ∧ (pl.length = n ∧ AllB 0 pl) ∧ d = .list ((wos inn0 pl l).map nm)
section
variable {Γ : List Sl} {ar : TA} {E : XK}
theorem ed_askp {n : Nat} {l : List Stp} (h : EdA K ar Γ [prg n l]) (o : OkP n l) : Ed K (tCall (spD K R_askp) [] E ar) Γ .none := ed_call h ⟨n, l, rfl, o, rfl⟩
theorem ed_askl {n : Nat} {l : List Stp} {pl : List Rat} (h : EdA K ar Γ [prg n l, .list (pl.map nm)]) (o : pl.length = n ∧ n ≤ 1000) : Ed K (tCall (spD K R_askl) [] E ar) Γ .none := ed_call h ⟨n, l, pl, rfl, o, rfl⟩
end
abbrev sworths : Stmt := topS 29
theorem scworths : FnScope ["program", "places"] ["program", "places"] (defScope sworths) := ⟨rfl, rfl, rfl, by decide +kernel, rfl, by decide +kernel, by decide +kernel⟩
theorem ok_worths {k0 : Nat} {ok : Stp → Prop} (hok : ∀ s, ok s) (T : Tx K mg) (I : DefI K mg "worths" sworths ["program", "places"])
    (C_asked_program : Cl P w K mg base k0 "asked_program" R_askp) (C_asked_places : Cl P w K mg base 3 "asked_places" R_askl) (C_worths_of : Cl P w K mg base k0 "worths_of" (R_worths inn0 ok)) : Cl P w K mg base (k0 + 4) "worths" R_wtop := by
  refine mkD I scworths (fun ds d h => by obtain ⟨s, fd, pl, rfl, _⟩ := h; rfl) (fun f cdv A outer s H E hr ds d h => ?_)
  obtain ⟨n, l, pl, rfl, o, ⟨hn, hp⟩, rfl⟩ := h
  have n3 := o.n3
  have hl := o.len
  have hr3 := o.run
  refine ⟨_, (pss_cons (ps_expr (pc C_asked_program hr (by omega) rfl rfl rfl rfl rfl rfl (pa_cons (pv 0) pa_nil)))
    (pss_cons (ps_expr (pc C_asked_places hr (by omega) rfl rfl rfl rfl rfl rfl (pa_cons (pv 0) (pa_cons (pv 1) pa_nil))))
    (pss_one (ps_ret (pc C_worths_of hr (by omega) rfl rfl rfl rfl rfl rfl (pa_cons (pe_ix (kx_ix (K := K) rfl) (pv 0) pe_int (fun _ _ => rfl)) (pa_cons (pv 1) pa_nil))))))), fun D q => ?_⟩
  change Go K H [] _ [.dt (prg n l), .dt (.list (pl.map nm))]
  refine q_drop (ed_askp (by k_clsL) o) ?_
  refine q_drop (ed_askl (n := n) (l := l) (pl := pl) (by k_clsL) ⟨hn, by omega⟩) ?_
  exact go_ret (ed_worths (l := l) (pl := pl) (k := 0) (by k_clsL) ⟨o.ne, by omega⟩ ⟨by rw [hn]; exact o.ok, fun s _ => hok s⟩ ⟨hp, by omega⟩) q
end
end BW

namespace BW
open PySem PySem.Spec PyProof.Rows L2 Evl
local macro_rules | `(tactic| k_offL) => `(tactic| first
  | ((with_reducible show Ed _ (tVar _) _ _); first | exact ed_var rfl | exact ed_varO rfl)
  | (with_reducible exact ed_int)
  | (with_reducible apply ed_op)
  | (with_reducible exact rd_add)
  | (with_reducible exact rd_sub)
  | ((with_reducible show RD _ (xIx _) _ _ _); exact rd_ix rfl)
  | (with_reducible apply rd_mul)
  | (with_reducible exact rd_lt)
  | (with_reducible exact rd_le)
  | (with_reducible exact rd_gt)
  | (with_reducible exact rd_ge)
  | (with_reducible apply rd_div)
  | (with_reducible apply rd_mod)
  | ((with_reducible show RD _ (xEq _) (PyData.str _) _ _); exact rd_eqS (by decide +kernel) (by decide +kernel))
  | ((with_reducible show RD _ (xEq _) _ _ _); exact rd_eqS (by rfl) (by rfl))
  | ((with_reducible show RD _ (xNe _) _ _ _); exact rd_neS (by rfl) (by rfl))
  | ((with_reducible show RD _ (xIn _) _ _ _); first | exact rd_inT rfl rfl | exact rd_inL rfl rfl)
  | ((with_reducible show RD _ (xNin _) _ _ _); first | exact rd_ninT rfl rfl | exact rd_ninL rfl rfl)
  | (with_reducible exact ed_str)
  | ((with_reducible show Ed _ (tC (V.ref _)) _ _); exact ed_c (by assumption))
  | (with_reducible exact ed_bl)
  | (with_reducible apply et_test)
  | (with_reducible apply et_B)
  | (with_reducible apply et_not)
  | (with_reducible apply et_and')
  | (with_reducible apply et_or')
  | (with_reducible exact ea_nil)
  | (with_reducible apply ea_cons)
  | (with_reducible apply ed_tail)
  | (with_reducible apply ed_tup2)
  | (with_reducible apply ed_tup3)
  | (with_reducible apply ed_tup4)
  | (with_reducible apply ed_tup1)
  | (with_reducible apply ed_lst1)
  | (with_reducible apply ed_lst2)
  | (with_reducible apply ed_lst3)
  | (with_reducible apply ed_andV')
  | (with_reducible apply ed_orV')
  | (with_reducible apply ed_notV)
  | (with_reducible apply ed_neg)
  | (with_reducible apply isi_ii)
  | (with_reducible apply isi_ib)
  | (with_reducible apply isi_tt)
  | (with_reducible apply isi_ll)
  | (with_reducible apply isi_ss)
  | (with_reducible apply ed_len)
  | ((with_reducible show lenD _ = some _); exact rfl)
  | (with_reducible apply ed_abs)
  | (with_reducible apply ed_min)
  | (with_reducible apply ed_chain')
  | (with_reducible apply ed_all)
  | (with_reducible apply ed_sum))
local macro_rules | `(tactic| k_clsL) => `(tactic| repeat (any_goals k_offL))
local macro_rules | `(tactic| k_subL) => `(tactic| first | exact Pl.int _ | exact Pl.bl _ | exact Pl.str _ | exact pl_nm _ | exact pl_bdat _ | (refine Pl.tup ?_; repeat (first | exact PlA.nil | refine PlA.cons (by k_subL) ?_)))
local macro_rules | `(tactic| wtm_at "pre") => `(tactic| first | assumption | omega)
local macro_rules | `(tactic| wtm_at "ev") => `(tactic| (k_clsL; all_goals wtm_at "pre"))
local macro_rules | `(tactic| wtm_at "no") => `(tactic| ((with_reducible refine' q_no (EdT.is ?hb ?hc) ?hd); (case hb => wtm_at "ev"); (case hc => first | decide +kernel | rfl)))
local macro_rules | `(tactic| wtm_at "set") => `(tactic| ((with_reducible refine' q_asg (Ed.eh ?hb ?hc) ?hd); (case hb => wtm_at "ev"); (case hc => k_subL)))
local macro_rules | `(tactic| wtm_at "yes") => `(tactic| ((with_reducible refine' q_yes (EdT.is ?hb ?hc) ?hd); (case hb => wtm_at "ev"); (case hc => first | decide +kernel | rfl)))
local macro_rules | `(tactic| k_offL) => `(tactic| (with_reducible apply ed_is_whole))
local macro_rules | `(tactic| k_offL) => `(tactic| (with_reducible apply ed_common))
local macro_rules | `(tactic| k_offL) => `(tactic| (with_reducible apply ed_is_number))
local macro_rules | `(tactic| k_offL) => `(tactic| (with_reducible apply ed_lowest))
local macro_rules | `(tactic| wtm_at "pre") => `(tactic| first | assumption | omega | exact sm_nd (by assumption) (by assumption) | exact sm_nn (by assumption) (by assumption) | exact sm_dd (by assumption) (by assumption) | exact sm_pre (by assumption) (by assumption))
local macro_rules | `(tactic| k_offL) => `(tactic| (with_reducible apply ed_add))
local macro_rules | `(tactic| k_offL) => `(tactic| (with_reducible apply ed_grow))
local macro_rules | `(tactic| k_offL) => `(tactic| (with_reducible apply ed_lies))
local macro_rules | `(tactic| k_offL) => `(tactic| (with_reducible apply ed_is_ahead))
section
variable {P : Program} {w : World} {K : PySem.W.Frag} {mg : Str → Option Value} {base : Heap}
/-! ### marks -/
theorem inD_no (a b : Mk) : inD (.str "none") [a.dat, b.dat] = decide (a = .no ∨ b = .no) := by cases a <;> cases b <;> decide +kernel
theorem inD_up (a b : Mk) : inD (.str "up") [a.dat, b.dat] = decide (a = .up ∨ b = .up) := by cases a <;> cases b <;> decide +kernel
theorem inD_dn (a b : Mk) : inD (.str "down") [a.dat, b.dat] = decide (a = .dn ∨ b = .dn) := by cases a <;> cases b <;> decide +kernel
theorem inD_sc (m : Mk) : inD m.dat [.str "down", .str "up"] = decide (m = .dn ∨ m = .up) := by cases m <;> decide +kernel
theorem eqv_lv (a b : Mk) : PyData.eqv (.tuple [a.dat, b.dat]) (.tuple [.str "level", .str "level"]) = decide (a = .lv ∧ b = .lv) := by cases a <;> cases b <;> decide +kernel
theorem eqv_dn (a : Mk) : PyData.eqv a.dat (.str "down") = decide (a = .dn) := by cases a <;> decide +kernel
theorem sh_mk (a : Mk) : SeqAt.shaped a.dat = true := by cases a <;> decide +kernel
theorem sh_mk2 (a b : Mk) : SeqAt.shaped (.tuple [a.dat, b.dat]) = true := by cases a <;> cases b <;> decide +kernel
theorem pl_mk (a : Mk) : Pl a.dat := .str _
local macro_rules | `(tactic| k_offL) => `(tactic| ((with_reducible show RD _ (xEq _) (PyData.tuple [Mk.dat _, Mk.dat _]) _ _); exact rd_eqS (sh_mk2 _ _) (by decide +kernel)))
local macro_rules | `(tactic| k_offL) => `(tactic| ((with_reducible show RD _ (xEq _) (Mk.dat _) _ _); exact rd_eqS (sh_mk _) (by decide +kernel)))
local macro_rules | `(tactic| k_subL) => `(tactic| exact pl_mk _)
/-- the three ways of mixing -/
inductive Bt where
  | s | d | u
def Bt.str : Bt → Str
  | .s => ""
  | .d => "down"
  | .u => "up"
def mixB : Bt → Mk → Mk → Mk
  | .s => mixS
  | .d => mixD
  | .u => mixU
abbrev smixed_mark : Stmt := topS 36
theorem scmixed_mark : FnScope ["one", "other", "bent", "some", "wrong"] ["one", "other", "bent"] (defScope smixed_mark) := ⟨rfl, rfl, rfl, by decide +kernel, rfl, by decide +kernel, by decide +kernel⟩
def R_mixed (ds : List PyData) (d : PyData) : Prop := ∃ (a b : Mk) (t : Bt), ds = [a.dat, b.dat, .str t.str] ∧ d = (mixB t a b).dat
theorem ok_mixed_mark (T : Tx K mg) (I : DefI K mg "mixed_mark" smixed_mark ["one", "other", "bent"]) : Cl P w K mg base 1 "mixed_mark" R_mixed := by
  refine mkD I scmixed_mark (fun ds d h => by obtain ⟨a, b, t, rfl, _⟩ := h; rfl) (fun f cdv A outer s H E hr ds d h => ?_)
  obtain ⟨a, b, t, rfl, rfl⟩ := h
  refine ⟨_, (pss_cons (ps_set (i := 3) scmixed_mark.nd rfl (Or.inl rfl) (pe_tup (pa_cons (pv 0) (pa_cons (pv 1) pa_nil))))
    (pss_cons (ps_if (pt_cmpR (kx_in (K := K) rfl) (pgc rfl T.c_NONE) (pv 3) (by rfl)) (pss_one (ps_ret (pgc rfl T.c_NONE))) pss_nil)
    (pss_cons (ps_if (PW.pt (pw_and (pt_cmpR (kx_eq (K := K) rfl hr.units) (pv 2) pe_str (nomark _)) (pw_and (pt_cmpR (kx_in (K := K) rfl) (pgc rfl T.c_UP) (pv 3) (by rfl)) (pw_and1 (pt_cmpR (kx_in (K := K) rfl) (pgc rfl T.c_DOWN) (pv 3) (by rfl)))))) (pss_one (ps_ret (pgc rfl T.c_NONE))) pss_nil)
    (pss_cons (ps_if (pt_cmpR (kx_eq (K := K) rfl hr.units) (pv 3) (pe_tup (pa_cons (pgc rfl T.c_LEVEL) (pa_cons (pgc rfl T.c_LEVEL) pa_nil))) (nomark _)) (pss_one (ps_ret (pgc rfl T.c_LEVEL))) pss_nil)
    (pss_cons (ps_if (pt_cmpR (kx_eq (K := K) rfl hr.units) (pv 2) pe_str (nomark _)) (pss_one (ps_ret (pe_ifExp (pt_cmpR (kx_in (K := K) rfl) (pgc rfl T.c_DOWN) (pv 3) (by rfl)) (pgc rfl T.c_DOWN) (pe_ifExp (pt_cmpR (kx_in (K := K) rfl) (pgc rfl T.c_UP) (pv 3) (by rfl)) (pgc rfl T.c_UP) (pgc rfl T.c_STRAIGHT))))) pss_nil)
    (pss_cons (ps_set (i := 4) scmixed_mark.nd rfl (Or.inl rfl) (pe_ifExp (pt_cmpR (kx_eq (K := K) rfl hr.units) (pv 2) (pgc rfl T.c_DOWN) (nomark _)) (pgc rfl T.c_UP) (pgc rfl T.c_DOWN)))
    (pss_one (ps_ret (pe_ifExp (pt_cmpR (kx_in (K := K) rfl) (pv 4) (pv 3) (by rfl)) (pgc rfl T.c_NONE) (pv 2)))))))))), fun D q => ?_⟩
  change Go K H [] _ [.dt a.dat, .dt b.dat, .dt (.str t.str), .no, .no]
  refine q_asg (d := .tuple [a.dat, b.dat]) (Ed.eh (by k_clsL) (.tup (PlA.cons (pl_mk _) (PlA.cons (pl_mk _) PlA.nil)))) ?_
  by_cases hn : a = .no ∨ b = .no
  · refine q_yes (EdT.is (by k_clsL) ((inD_no a b).trans (decide_eq_true hn))) ?_
    refine go_ret (Ed.is (by k_clsL) ?_) q
    cases t <;> simp only [mixB, mixS, mixD, mixU, if_pos hn] <;> rfl
  refine q_no (EdT.is (by k_clsL) ((inD_no a b).trans (decide_eq_false hn))) ?_
  cases t with
  | s =>
    by_cases hu : a = .up ∨ b = .up
    · by_cases hd : a = .dn ∨ b = .dn
      · refine q_yes (EdT.is (by k_clsL) (b := true) ?_) ?_
        · rw [inD_up, inD_dn, decide_eq_true hu, decide_eq_true hd]
          decide +kernel
        · refine go_ret (Ed.is (by k_clsL) ?_) q
          simp only [mixB, mixS, if_neg hn, if_pos (And.intro hu hd)]
          rfl
      · refine q_no (EdT.is (by k_clsL) (b := false) ?_) ?_
        · rw [inD_up, inD_dn, decide_eq_true hu, decide_eq_false hd]
          decide +kernel
        · have hl : ¬ (a = .lv ∧ b = .lv) := by
            rintro ⟨rfl, rfl⟩
            rcases hu with h | h <;> cases h
          refine q_no (EdT.is (by k_clsL) ((eqv_lv a b).trans (decide_eq_false hl))) ?_
          wtm_at "yes"
          refine go_ret (ed_if (EdT.is (by k_clsL) ((inD_dn a b).trans (decide_eq_false hd))) (fun z => nomatch z) fun _ => ed_if (EdT.is (by k_clsL) ((inD_up a b).trans (decide_eq_true hu))) (fun _ => Ed.is (by k_clsL) ?_) fun z => nomatch z) q
          simp only [mixB, mixS, if_neg hn, if_neg (fun z : (a = .up ∨ b = .up) ∧ (a = .dn ∨ b = .dn) => hd z.2), if_neg hl, if_neg hd, if_pos hu]
          rfl
    · refine q_no (EdT.is (by k_clsL) (b := false) ?_) ?_
      · rw [inD_up, inD_dn, decide_eq_false hu]
        cases decide (a = .dn ∨ b = .dn) <;> decide +kernel
      · by_cases hl : a = .lv ∧ b = .lv
        · refine q_yes (EdT.is (by k_clsL) ((eqv_lv a b).trans (decide_eq_true hl))) ?_
          refine go_ret (Ed.is (by k_clsL) ?_) q
          simp only [mixB, mixS, if_neg hn, if_neg (fun z : (a = .up ∨ b = .up) ∧ (a = .dn ∨ b = .dn) => hu z.1), if_pos hl]
          rfl
        · refine q_no (EdT.is (by k_clsL) ((eqv_lv a b).trans (decide_eq_false hl))) ?_
          wtm_at "yes"
          by_cases hd : a = .dn ∨ b = .dn
          · refine go_ret (ed_if (EdT.is (by k_clsL) ((inD_dn a b).trans (decide_eq_true hd))) (fun _ => Ed.is (by k_clsL) ?_) fun z => nomatch z) q
            simp only [mixB, mixS, if_neg hn, if_neg (fun z : (a = .up ∨ b = .up) ∧ (a = .dn ∨ b = .dn) => hu z.1), if_neg hl, if_pos hd]
            rfl
          · refine go_ret (ed_if (EdT.is (by k_clsL) ((inD_dn a b).trans (decide_eq_false hd))) (fun z => nomatch z) fun _ => ed_if (EdT.is (by k_clsL) ((inD_up a b).trans (decide_eq_false hu))) (fun z => nomatch z) fun _ => Ed.is (by k_clsL) ?_) q
            simp only [mixB, mixS, if_neg hn, if_neg (fun z : (a = .up ∨ b = .up) ∧ (a = .dn ∨ b = .dn) => hu z.1), if_neg hl, if_neg hd, if_neg hu]
            rfl
  | d =>
    refine q_no (EdT.is (by k_clsL) (b := false) ?_) ?_
    · rw [inD_up, inD_dn]
      cases decide (a = .dn ∨ b = .dn) <;> cases decide (a = .up ∨ b = .up) <;> decide +kernel
    · by_cases hl : a = .lv ∧ b = .lv
      · refine q_yes (EdT.is (by k_clsL) ((eqv_lv a b).trans (decide_eq_true hl))) ?_
        refine go_ret (Ed.is (by k_clsL) ?_) q
        simp only [mixB, mixD, if_neg hn, if_pos hl]
        rfl
      · refine q_no (EdT.is (by k_clsL) ((eqv_lv a b).trans (decide_eq_false hl))) ?_
        wtm_at "no"
        refine q_asg (d := .str "up") (Ed.eh (ed_if (EdT.is (by k_clsL) (b := true) (by decide +kernel)) (fun _ => by k_clsL) fun z => nomatch z) (.str _)) ?_
        by_cases hu : a = .up ∨ b = .up
        · refine go_ret (ed_if (EdT.is (by k_clsL) ((inD_up a b).trans (decide_eq_true hu))) (fun _ => Ed.is (by k_clsL) ?_) fun z => nomatch z) q
          simp only [mixB, mixD, if_neg hn, if_neg hl, if_pos hu]
          rfl
        · refine go_ret (ed_if (EdT.is (by k_clsL) ((inD_up a b).trans (decide_eq_false hu))) (fun z => nomatch z) fun _ => Ed.is (by k_clsL) ?_) q
          simp only [mixB, mixD, if_neg hn, if_neg hl, if_neg hu]
          rfl
  | u =>
    refine q_no (EdT.is (by k_clsL) (b := false) ?_) ?_
    · rw [inD_up, inD_dn]
      cases decide (a = .dn ∨ b = .dn) <;> cases decide (a = .up ∨ b = .up) <;> decide +kernel
    · by_cases hl : a = .lv ∧ b = .lv
      · refine q_yes (EdT.is (by k_clsL) ((eqv_lv a b).trans (decide_eq_true hl))) ?_
        refine go_ret (Ed.is (by k_clsL) ?_) q
        simp only [mixB, mixU, if_neg hn, if_pos hl]
        rfl
      · refine q_no (EdT.is (by k_clsL) ((eqv_lv a b).trans (decide_eq_false hl))) ?_
        wtm_at "no"
        refine q_asg (d := .str "down") (Ed.eh (ed_if (EdT.is (by k_clsL) (b := false) (by decide +kernel)) (fun z => nomatch z) fun _ => by k_clsL) (.str _)) ?_
        by_cases hu : a = .dn ∨ b = .dn
        · refine go_ret (ed_if (EdT.is (by k_clsL) ((inD_dn a b).trans (decide_eq_true hu))) (fun _ => Ed.is (by k_clsL) ?_) fun z => nomatch z) q
          simp only [mixB, mixU, if_neg hn, if_neg hl, if_pos hu]
          rfl
        · refine go_ret (ed_if (EdT.is (by k_clsL) ((inD_dn a b).trans (decide_eq_false hu))) (fun z => nomatch z) fun _ => Ed.is (by k_clsL) ?_) q
          simp only [mixB, mixU, if_neg hn, if_neg hl, if_neg hu]
          rfl
abbrev sscaled_mark : Stmt := topS 37
theorem scscaled_mark : FnScope ["mark", "number"] ["mark", "number"] (defScope sscaled_mark) := ⟨rfl, rfl, rfl, by decide +kernel, rfl, by decide +kernel, by decide +kernel⟩
def R_scaled (ds : List PyData) (d : PyData) : Prop := ∃ (m : Mk) (q : Rat), ds = [m.dat, nm q] ∧ d = (sclM m q).dat
theorem ok_scaled_mark (T : Tx K mg) (I : DefI K mg "scaled_mark" sscaled_mark ["mark", "number"]) : Cl P w K mg base 1 "scaled_mark" R_scaled := by
  refine mkD I scscaled_mark (fun ds d h => by obtain ⟨a, b, rfl, _⟩ := h; rfl) (fun f cdv A outer s H E hr ds d h => ?_)
  obtain ⟨m, r, rfl, rfl⟩ := h
  refine ⟨_, (pss_cons (ps_if (pt_cmpR (kx_eq (K := K) rfl hr.units) (pe_ix (kx_ix (K := K) rfl) (pv 1) pe_int (fun _ _ => rfl)) pe_int (nomark _)) (pss_one (ps_ret (pgc rfl T.c_LEVEL))) pss_nil)
    (pss_cons (ps_if (PW.pt (pw_or (pt_cmpR ox_gt (pe_ix (kx_ix (K := K) rfl) (pv 1) pe_int (fun _ _ => rfl)) pe_int (nomark _)) (pw_or1 (pt_cmpR (kx_nin (K := K) rfl) (pv 0) (pe_tup (pa_cons (pgc rfl T.c_DOWN) (pa_cons (pgc rfl T.c_UP) pa_nil))) (by rfl))))) (pss_one (ps_ret (pv 0))) pss_nil)
    (pss_one (ps_ret (pe_ifExp (pt_cmpR (kx_eq (K := K) rfl hr.units) (pv 0) (pgc rfl T.c_DOWN) (nomark _)) (pgc rfl T.c_UP) (pgc rfl T.c_DOWN)))))), fun D q => ?_⟩
  change Go K H [] _ [.dt m.dat, .dt (nm r)]
  by_cases h0 : r.num = 0
  · refine q_yes (EdT.is (by k_clsL) (b := true) (by rw [h0]; decide +kernel)) ?_
    refine go_ret (Ed.is (by k_clsL) ?_) q
    simp only [sclM, if_pos h0]
    rfl
  · refine q_no (EdT.is (by k_clsL) (b := false) (beq_eq_false_iff_ne.mpr h0)) ?_
    by_cases h1 : r.num > 0
    · refine q_yes (EdT.is (by k_clsL) (b := true) ?_) ?_
      · rw [decide_eq_true (show (0 : Int) < r.num from h1)]
        rfl
      · refine go_ret (Ed.is (by k_clsL) ?_) q
        simp only [sclM, if_neg h0, if_pos (Or.inl h1 : r.num > 0 ∨ (m ≠ .dn ∧ m ≠ .up))]
    · by_cases h2 : m = .dn ∨ m = .up
      · refine q_no (EdT.is (by k_clsL) (b := false) ?_) ?_
        · rw [decide_eq_false (show ¬ (0 : Int) < r.num from h1), inD_sc, decide_eq_true h2]
          rfl
        · have h3 : ¬ (r.num > 0 ∨ (m ≠ .dn ∧ m ≠ .up)) := by
            rintro (z | z)
            · exact h1 z
            · rcases h2 with h2 | h2
              · exact z.1 h2
              · exact z.2 h2
          by_cases h4 : m = .dn
          · refine go_ret (ed_if (EdT.is (by k_clsL) ((eqv_dn m).trans (decide_eq_true h4))) (fun _ => Ed.is (by k_clsL) ?_) fun z => nomatch z) q
            simp only [sclM, if_neg h0, if_neg h3, if_pos h4]
            rfl
          · refine go_ret (ed_if (EdT.is (by k_clsL) ((eqv_dn m).trans (decide_eq_false h4))) (fun z => nomatch z) fun _ => Ed.is (by k_clsL) ?_) q
            simp only [sclM, if_neg h0, if_neg h3, if_neg h4]
            rfl
      · refine q_yes (EdT.is (by k_clsL) (b := true) ?_) ?_
        · rw [decide_eq_false (show ¬ (0 : Int) < r.num from h1), inD_sc, decide_eq_false h2]
          rfl
        · have h3 : r.num > 0 ∨ (m ≠ .dn ∧ m ≠ .up) := .inr ⟨fun z => h2 (.inl z), fun z => h2 (.inr z)⟩
          refine go_ret (Ed.is (by k_clsL) ?_) q
          simp only [sclM, if_neg h0, if_pos h3]
end
end BW

namespace BW
open PySem PySem.Spec PyProof.Rows L2 Evl
local macro_rules | `(tactic| k_offL) => `(tactic| first
  | ((with_reducible show Ed _ (tVar _) _ _); first | exact ed_var rfl | exact ed_varO rfl)
  | (with_reducible exact ed_int)
  | (with_reducible apply ed_op)
  | (with_reducible exact rd_add)
  | (with_reducible exact rd_sub)
  | ((with_reducible show RD _ (xIx _) _ _ _); exact rd_ix rfl)
  | (with_reducible apply rd_mul)
  | (with_reducible exact rd_lt)
  | (with_reducible exact rd_le)
  | (with_reducible exact rd_gt)
  | (with_reducible exact rd_ge)
  | (with_reducible apply rd_div)
  | (with_reducible apply rd_mod)
  | ((with_reducible show RD _ (xEq _) (PyData.str _) _ _); exact rd_eqS (by decide +kernel) (by decide +kernel))
  | ((with_reducible show RD _ (xEq _) _ _ _); exact rd_eqS (by rfl) (by rfl))
  | ((with_reducible show RD _ (xNe _) (PyData.str _) _ _); exact rd_neS (by decide +kernel) (by decide +kernel))
  | ((with_reducible show RD _ (xNe _) _ _ _); exact rd_neS (by rfl) (by rfl))
  | ((with_reducible show RD _ (xIn _) _ _ _); first | exact rd_inT rfl rfl | exact rd_inL rfl rfl)
  | ((with_reducible show RD _ (xNin _) _ _ _); first | exact rd_ninT rfl rfl | exact rd_ninL rfl rfl)
  | (with_reducible exact ed_str)
  | ((with_reducible show Ed _ (tC (V.ref _)) _ _); exact ed_c (by assumption))
  | (with_reducible exact ed_bl)
  | (with_reducible apply et_test)
  | (with_reducible apply et_B)
  | (with_reducible apply et_not)
  | (with_reducible apply et_and')
  | (with_reducible apply et_or')
  | (with_reducible exact ea_nil)
  | (with_reducible apply ea_cons)
  | (with_reducible apply ed_tail)
  | (with_reducible apply ed_tup2)
  | (with_reducible apply ed_tup3)
  | (with_reducible apply ed_tup4)
  | (with_reducible apply ed_tup1)
  | (with_reducible apply ed_lst1)
  | (with_reducible apply ed_lst2)
  | (with_reducible apply ed_lst3)
  | (with_reducible apply ed_andV')
  | (with_reducible apply ed_orV')
  | (with_reducible apply ed_notV)
  | (with_reducible apply ed_neg)
  | (with_reducible apply isi_ii)
  | (with_reducible apply isi_ib)
  | (with_reducible apply isi_tt)
  | (with_reducible apply isi_ll)
  | (with_reducible apply isi_ss)
  | (with_reducible apply ed_len)
  | ((with_reducible show lenD _ = some _); exact rfl)
  | (with_reducible apply ed_abs)
  | (with_reducible apply ed_min)
  | (with_reducible apply ed_chain')
  | (with_reducible apply ed_all)
  | (with_reducible apply ed_sum))
local macro_rules | `(tactic| k_clsL) => `(tactic| repeat (any_goals k_offL))
local macro_rules | `(tactic| k_subL) => `(tactic| first | exact Pl.int _ | exact Pl.bl _ | exact Pl.str _ | exact pl_nm _ | exact pl_bdat _ | (refine Pl.tup ?_; repeat (first | exact PlA.nil | refine PlA.cons (by k_subL) ?_)))
local macro_rules | `(tactic| wtm_at "pre") => `(tactic| first | assumption | omega)
local macro_rules | `(tactic| wtm_at "ev") => `(tactic| (k_clsL; all_goals wtm_at "pre"))
local macro_rules | `(tactic| wtm_at "no") => `(tactic| ((with_reducible refine' q_no (EdT.is ?hb ?hc) ?hd); (case hb => wtm_at "ev"); (case hc => first | decide +kernel | rfl)))
local macro_rules | `(tactic| wtm_at "set") => `(tactic| ((with_reducible refine' q_asg (Ed.eh ?hb ?hc) ?hd); (case hb => wtm_at "ev"); (case hc => k_subL)))
local macro_rules | `(tactic| wtm_at "yes") => `(tactic| ((with_reducible refine' q_yes (EdT.is ?hb ?hc) ?hd); (case hb => wtm_at "ev"); (case hc => first | decide +kernel | rfl)))
local macro_rules | `(tactic| k_offL) => `(tactic| (with_reducible apply ed_is_whole))
local macro_rules | `(tactic| k_offL) => `(tactic| (with_reducible apply ed_common))
local macro_rules | `(tactic| k_offL) => `(tactic| (with_reducible apply ed_is_number))
local macro_rules | `(tactic| k_offL) => `(tactic| (with_reducible apply ed_lowest))
local macro_rules | `(tactic| wtm_at "pre") => `(tactic| first | assumption | omega | exact sm_nd (by assumption) (by assumption) | exact sm_nn (by assumption) (by assumption) | exact sm_dd (by assumption) (by assumption) | exact sm_pre (by assumption) (by assumption))
local macro_rules | `(tactic| k_offL) => `(tactic| (with_reducible apply ed_add))
local macro_rules | `(tactic| k_offL) => `(tactic| (with_reducible apply ed_grow))
local macro_rules | `(tactic| k_offL) => `(tactic| (with_reducible apply ed_lies))
local macro_rules | `(tactic| k_offL) => `(tactic| (with_reducible apply ed_is_ahead))
local macro_rules | `(tactic| k_offL) => `(tactic| ((fail_if_success (with_reducible show RD _ (xIx _) _ PyData.none _)); (with_reducible show RD _ (xIx _) (PyData.list (List.map nm _)) _ _); exact rd_ix (ix_map (by first | assumption | omega))))
local macro_rules | `(tactic| k_offL) => `(tactic| ((with_reducible show RD _ (xEq _) (PyData.tuple [Mk.dat _, Mk.dat _]) _ _); exact rd_eqS (sh_mk2 _ _) (by decide +kernel)))
local macro_rules | `(tactic| k_offL) => `(tactic| ((with_reducible show RD _ (xEq _) (Mk.dat _) _ _); exact rd_eqS (sh_mk _) (by decide +kernel)))
local macro_rules | `(tactic| k_subL) => `(tactic| exact pl_mk _)
section
variable {P : Program} {w : World} {K : PySem.W.Frag} {mg : Str → Option Value} {base : Heap}
theorem ix_mapm {l : List Mk} {i : Nat} (h : i < l.length) : ixD (.list (l.map Mk.dat)) (.int (i : Int)) = some (gm l i).dat := by
  show L2.atI (l.map Mk.dat) (i : Int) = _
  refine L2.atI_nat ?_
  rw [List.getElem?_map, List.getElem?_eq_getElem h]
  unfold gm
  rw [List.getD_eq_getElem?_getD, List.getElem?_eq_getElem h]
  rfl
theorem ix_lastm {l : List Mk} (h : l ≠ []) : ixD (.list (l.map Mk.dat)) (.int (-1)) = some (l.getLastD .lv).dat := by
  show L2.atI (l.map Mk.dat) (-1) = _
  have e := List.dropLast_concat_getLast h
  rw [← e, List.map_append]
  rw [show [l.getLast h].map Mk.dat = [(l.getLast h).dat] from rfl, L2.atI_last]
  simp
theorem mks_ne {inner : List BStep → Mk → Mk} {bg : Mk} {l : List Stp} (h : l ≠ []) : mks inner bg l ≠ [] := fun e => by
  have := mks_len inner bg l
  rw [e] at this
  exact h (List.length_eq_zero_iff.mp this.symm)
local macro_rules | `(tactic| k_offL) => `(tactic| ((fail_if_success (with_reducible show RD _ (xIx _) _ PyData.none _)); (with_reducible show RD _ (xIx _) (PyData.list (List.map Mk.dat _)) _ _); exact rd_ix (ix_mapm (by first | assumption | omega))))
def R_mark (inner : List BStep → Mk → Mk) (ok : Stp → Prop) (ds : List PyData) (d : PyData) : Prop := ∃ (s : Stp) (fd : List Mk) (bg : Mk) (n : Nat), ds = [s.dat, .list (fd.map Mk.dat), bg.dat] ∧ (okS n fd.length s ∧ ok s) ∧ d = (smk inner bg fd s).dat
def R_marks (inner : List BStep → Mk → Mk) (ok : Stp → Prop) (ds : List PyData) (d : PyData) : Prop := ∃ (l : List Stp) (bg : Mk) (n : Nat), ds = [.list (l.map Stp.dat), bg.dat] ∧ (l ≠ [] ∧ l.length ≤ 1000) ∧ (okL n l ∧ ∀ s ∈ l, ok s) ∧ d = .list ((mks inner bg l).map Mk.dat)
section
variable {Γ : List Sl} {ar : TA} {E : XK} {inner : List BStep → Mk → Mk} {ok : Stp → Prop}
theorem ed_mixed {a b : Mk} {t : Bt} (h : EdA K ar Γ [a.dat, b.dat, .str t.str]) : Ed K (tCall (spD K R_mixed) [] E ar) Γ (mixB t a b).dat := ed_call h ⟨a, b, t, rfl, rfl⟩
theorem ed_scaled {m : Mk} {q : Rat} (h : EdA K ar Γ [m.dat, nm q]) : Ed K (tCall (spD K R_scaled) [] E ar) Γ (sclM m q).dat := ed_call h ⟨m, q, rfl, rfl⟩
theorem ed_mark {s : Stp} {fd : List Mk} {bg : Mk} {n : Nat} (h : EdA K ar Γ [s.dat, .list (fd.map Mk.dat), bg.dat]) (h1 : okS n fd.length s ∧ ok s) : Ed K (tCall (spD K (R_mark inner ok)) [] E ar) Γ (smk inner bg fd s).dat := ed_call h ⟨s, fd, bg, n, rfl, h1, rfl⟩
theorem ed_marks {l : List Stp} {bg : Mk} {n : Nat} (h : EdA K ar Γ [.list (l.map Stp.dat), bg.dat]) (h0 : l ≠ [] ∧ l.length ≤ 1000) (h1 : okL n l ∧ ∀ s ∈ l, ok s) : Ed K (tCall (spD K (R_marks inner ok)) [] E ar) Γ (.list ((mks inner bg l).map Mk.dat)) := ed_call h ⟨l, bg, n, rfl, h0, h1, rfl⟩
end
theorem eqv_nat (j k : Nat) : PyData.eqv (.int (j : Int)) (.int (k : Int)) = decide (j = k) := by
  show ((j : Int) == (k : Int)) = decide (j = k)
  by_cases h : j = k
  · subst h
    rw [beq_self_eq_true, decide_eq_true rfl]
  · rw [decide_eq_false h]
    exact beq_eq_false_iff_ne.mpr (fun e => h (by omega))
abbrev smark_of : Stmt := topS 38
theorem scmark_of : FnScope ["step", "found", "begin", "kind", "mark", "turn", "one", "other"] ["step", "found", "begin"] (defScope smark_of) := ⟨rfl, rfl, rfl, by decide +kernel, rfl, by decide +kernel, by decide +kernel⟩
theorem ok_mark_of {k0 : Nat} {inner : List BStep → Mk → Mk} {ok ok' : Stp → Prop} (hok : ∀ m i body, ok (.turns m i body) → ∀ b ∈ body, ok' (.b b)) (T : Tx K mg) (I : DefI K mg "mark_of" smark_of ["step", "found", "begin"])
    (C_mixed_mark : Cl P w K mg base 1 "mixed_mark" R_mixed) (C_scaled_mark : Cl P w K mg base 1 "scaled_mark" R_scaled) (C_marks_of : Cl P w K mg base k0 "marks_of" (R_marks inner ok')) : Cl P w K mg base (k0 + 2) "mark_of" (R_mark (inm inner) ok) := by
  refine mkD I scmark_of (fun ds d h => by obtain ⟨s, fd, bg, n, rfl, _⟩ := h; rfl) (fun f cdv A outer s H E hr ds d h => ?_)
  obtain ⟨s, fd, bg, n, rfl, ⟨ho, hs⟩, rfl⟩ := h
  refine ⟨_, (pss_cons (ps_set (i := 3) scmark_of.nd rfl (Or.inl rfl) (pe_ix (kx_ix (K := K) rfl) (pv 0) pe_int (fun _ _ => rfl)))
    (pss_cons (ps_if (pt_cmpR (kx_eq (K := K) rfl hr.units) (pv 3) pe_str (nomark _)) (pss_one (ps_ret (pgc rfl T.c_LEVEL))) pss_nil)
    (pss_cons (ps_if (pt_cmpR (kx_eq (K := K) rfl hr.units) (pv 3) pe_str (nomark _)) (pss_one (ps_ret (pv 2))) pss_nil)
    (pss_cons (ps_if (pt_cmpR (kx_eq (K := K) rfl hr.units) (pv 3) pe_str (nomark _)) (pss_one (ps_ret (pc C_scaled_mark hr (by omega) rfl rfl rfl rfl rfl rfl (pa_cons (pe_ix (kx_ix (K := K) rfl) (pv 1) (pe_ix (kx_ix (K := K) rfl) (pv 0) pe_int (fun _ _ => rfl)) (fun _ _ => rfl)) (pa_cons (pe_ix (kx_ix (K := K) rfl) (pv 0) pe_int (fun _ _ => rfl)) pa_nil))))) pss_nil)
    (pss_cons (ps_if (pt_cmpR (kx_eq (K := K) rfl hr.units) (pv 3) pe_str (nomark _)) (pss_one (ps_ret (pe_ifExp (pt_cmpR (kx_eq (K := K) rfl hr.units) (pe_ix (kx_ix (K := K) rfl) (pv 0) pe_int (fun _ _ => rfl)) (pe_ix (kx_ix (K := K) rfl) (pv 0) pe_int (fun _ _ => rfl)) (nomark _)) (pe_ix (kx_ix (K := K) rfl) (pv 1) (pe_ix (kx_ix (K := K) rfl) (pv 0) pe_int (fun _ _ => rfl)) (fun _ _ => rfl)) (pgc rfl T.c_NONE)))) pss_nil)
    (pss_cons (ps_if (pt_cmpR (kx_eq (K := K) rfl hr.units) (pv 3) pe_str (nomark _)) (pss_cons (ps_set (i := 4) scmark_of.nd rfl (Or.inl rfl) (pe_ix (kx_ix (K := K) rfl) (pv 1) (pe_ix (kx_ix (K := K) rfl) (pv 0) pe_int (fun _ _ => rfl)) (fun _ _ => rfl)))
      (pss_cons (ps_for PassesOwn.never rfl (pi_range1 rfl T.range (pa_cons (pe_ix (kx_ix (K := K) rfl) (pv 0) pe_int (fun _ _ => rfl)) pa_nil)) (pg_name (i := 5) scmark_of.nd rfl (Or.inl rfl)) (pss_one (ps_set (i := 4) scmark_of.nd rfl (Or.inl rfl) (pe_ix (kx_ix (K := K) rfl) (pc C_marks_of hr (by omega) rfl rfl rfl rfl rfl rfl (pa_cons (pe_ix (kx_ix (K := K) rfl) (pv 0) pe_int (fun _ _ => rfl)) (pa_cons (pv 4) pa_nil))) (pe_un ux_neg pe_int) (fun _ _ => rfl)))))
      (pss_one (ps_ret (pv 4))))) pss_nil)
    (pss_cons (ps_par (i := 6) (j := 7) rfl scmark_of.nd rfl rfl (by decide) rfl rfl (pa_cons (pe_ix (kx_ix (K := K) rfl) (pv 1) (pe_ix (kx_ix (K := K) rfl) (pv 0) pe_int (fun _ _ => rfl)) (fun _ _ => rfl)) (pa_cons (pe_ix (kx_ix (K := K) rfl) (pv 1) (pe_ix (kx_ix (K := K) rfl) (pv 0) pe_int (fun _ _ => rfl)) (fun _ _ => rfl)) pa_nil)) (by rfl))
    (pss_cons (ps_if (PW.pt (pw_and (pt_cmpR (kx_eq (K := K) rfl hr.units) (pe_ix (kx_ix (K := K) rfl) (pv 0) pe_int (fun _ _ => rfl)) (pe_ix (kx_ix (K := K) rfl) (pv 0) pe_int (fun _ _ => rfl)) (nomark _)) (pw_and1 (pt_cmpR (kx_ne (K := K) rfl hr.units) (pv 3) pe_str (nomark _))))) (pss_one (ps_ret (pv 6))) pss_nil)
    (pss_one (ps_ret (pc C_mixed_mark hr (by omega) rfl rfl rfl rfl rfl rfl (pa_cons (pv 6) (pa_cons (pv 7) (pa_cons (pe_ifExp (pt_cmpR (kx_eq (K := K) rfl hr.units) (pv 3) pe_str (nomark _)) pe_str (pe_ifExp (pt_cmpR (kx_eq (K := K) rfl hr.units) (pv 3) pe_str (nomark _)) (pgc rfl T.c_DOWN) (pgc rfl T.c_UP))) pa_nil)))))))))))))), fun D q => ?_⟩
  change Go K H [] _ [.dt s.dat, .dt (.list (fd.map Mk.dat)), .dt bg.dat, .no, .no, .no, .no, .no]
  cases s with
  | b s =>
    cases s with
    | cst c =>
      wtm_at "set"
      wtm_at "yes"
      exact go_ret (Ed.is (by k_clsL) (by rfl)) q
    | inp i =>
      wtm_at "set"
      wtm_at "no"
      wtm_at "yes"
      exact go_ret (Ed.is (by k_clsL) (by rfl)) q
    | scl c i =>
      have hi : i < fd.length := ho.2
      wtm_at "set"
      wtm_at "no"
      wtm_at "no"
      wtm_at "yes"
      exact go_ret (Ed.is (ed_scaled (m := gm fd i) (q := c) (by k_clsL)) (by rfl)) q
    | ite i j l =>
      obtain ⟨hi, hj, hl⟩ : i < fd.length ∧ j < fd.length ∧ l < fd.length := ho
      wtm_at "set"
      wtm_at "no"
      wtm_at "no"
      wtm_at "no"
      wtm_at "yes"
      refine go_ret (ed_if (b := decide (j = l)) (EdT.is (by k_clsL) (eqv_nat j l)) (fun h => ?_) fun h => ?_) q
      · have h' := of_decide_eq_true h
        show Ed K _ _ (if j = l then gm fd j else .no).dat
        rw [if_pos h']
        k_clsL
      · have h' := of_decide_eq_false h
        show Ed K _ _ (if j = l then gm fd j else .no).dat
        rw [if_neg h']
        exact Ed.is (by k_clsL) (by rfl)
    | add i j =>
      obtain ⟨hi, hj⟩ : i < fd.length ∧ j < fd.length := ho
      wtm_at "set"
      wtm_at "no"
      wtm_at "no"
      wtm_at "no"
      wtm_at "no"
      wtm_at "no"
      refine q_par (Ed.eh (d := (gm fd i).dat) (by k_clsL) (pl_mk _)) (Ed.eh (d := (gm fd j).dat) (by k_clsL) (pl_mk _)) ?_
      refine q_no (EdT.is (by k_clsL) (b := false) ?_) ?_
      · rw [eqv_nat]
        cases decide (i = j) <;> decide +kernel
      refine go_ret (Ed.is (ed_mixed (a := gm fd i) (b := gm fd j) (t := .s) (ea_cons (by k_clsL) (ea_cons (by k_clsL) (ea_cons (ed_if (b := true) (EdT.is (by k_clsL) (by decide +kernel)) (fun _ => Ed.is (by k_clsL) (by rfl)) fun z => nomatch z) ea_nil)))) (by rfl)) q
    | mn i j =>
      obtain ⟨hi, hj⟩ : i < fd.length ∧ j < fd.length := ho
      wtm_at "set"
      wtm_at "no"
      wtm_at "no"
      wtm_at "no"
      wtm_at "no"
      wtm_at "no"
      refine q_par (Ed.eh (d := (gm fd i).dat) (by k_clsL) (pl_mk _)) (Ed.eh (d := (gm fd j).dat) (by k_clsL) (pl_mk _)) ?_
      by_cases hij : i = j
      · refine q_yes (EdT.is (by k_clsL) (b := true) ?_) ?_
        · rw [eqv_nat, decide_eq_true hij]
          decide +kernel
        refine go_ret (Ed.is (by k_clsL) ?_) q
        show _ = (if i = j then gm fd i else mixU (gm fd i) (gm fd j)).dat
        rw [if_pos hij]
      · refine q_no (EdT.is (by k_clsL) (b := false) ?_) ?_
        · rw [eqv_nat, decide_eq_false hij]
          decide +kernel
        refine go_ret (Ed.is (ed_mixed (a := gm fd i) (b := gm fd j) (t := .u) (ea_cons (by k_clsL) (ea_cons (by k_clsL) (ea_cons (ed_if (b := false) (EdT.is (by k_clsL) (by decide +kernel)) (fun z => nomatch z) fun _ => ed_if (b := false) (EdT.is (by k_clsL) (by decide +kernel)) (fun z => nomatch z) fun _ => Ed.is (by k_clsL) (by rfl)) ea_nil)))) ?_) q
        show _ = (if i = j then gm fd i else mixU (gm fd i) (gm fd j)).dat
        rw [if_neg hij]
        rfl
    | mx i j =>
      obtain ⟨hi, hj⟩ : i < fd.length ∧ j < fd.length := ho
      wtm_at "set"
      wtm_at "no"
      wtm_at "no"
      wtm_at "no"
      wtm_at "no"
      wtm_at "no"
      refine q_par (Ed.eh (d := (gm fd i).dat) (by k_clsL) (pl_mk _)) (Ed.eh (d := (gm fd j).dat) (by k_clsL) (pl_mk _)) ?_
      by_cases hij : i = j
      · refine q_yes (EdT.is (by k_clsL) (b := true) ?_) ?_
        · rw [eqv_nat, decide_eq_true hij]
          decide +kernel
        refine go_ret (Ed.is (by k_clsL) ?_) q
        show _ = (if i = j then gm fd i else mixD (gm fd i) (gm fd j)).dat
        rw [if_pos hij]
      · refine q_no (EdT.is (by k_clsL) (b := false) ?_) ?_
        · rw [eqv_nat, decide_eq_false hij]
          decide +kernel
        refine go_ret (Ed.is (ed_mixed (a := gm fd i) (b := gm fd j) (t := .d) (ea_cons (by k_clsL) (ea_cons (by k_clsL) (ea_cons (ed_if (b := false) (EdT.is (by k_clsL) (by decide +kernel)) (fun z => nomatch z) fun _ => ed_if (b := true) (EdT.is (by k_clsL) (by decide +kernel)) (fun _ => Ed.is (by k_clsL) (by rfl)) fun z => nomatch z) ea_nil)))) ?_) q
        show _ = (if i = j then gm fd i else mixD (gm fd i) (gm fd j)).dat
        rw [if_neg hij]
        rfl
  | turns m i body =>
    obtain ⟨hm, hi, hb0, hb1, hb⟩ := ho
    rw [dat_turns]
    wtm_at "set"
    wtm_at "no"
    wtm_at "no"
    wtm_at "no"
    wtm_at "no"
    wtm_at "yes"
    refine q_asg (d := (gm fd i).dat) (Ed.eh (by k_clsL) (pl_mk _)) ?_
    refine q_forR (n := (m : Int)) (by k_clsL) (by omega) (fun j Γ' => ∃ x, Γ' = [.dt (.tuple [.str "turns", .int (m : Int), .int (i : Int), .list ((body.map Stp.b).map Stp.dat)]), .dt (.list (fd.map Mk.dat)), .dt bg.dat, .dt (.str "turns"), .dt (iter (inm inner body) j (gm fd i)).dat, x, .no, .no]) ⟨.no, rfl⟩ ?_ ?_
    · rintro j Γ' hj ⟨x, rfl⟩
      have hbn : body.map Stp.b ≠ [] := fun z => hb0 (List.map_eq_nil_iff.mp z)
      refine go_asg (d := (iter (inm inner body) (j + 1) (gm fd i)).dat) (Ed.eh (ed_op (ed_marks (l := body.map Stp.b) (bg := iter (inm inner body) j (gm fd i)) (n := 1) (by k_clsL) ⟨hbn, by rw [List.length_map]; omega⟩ ⟨okL_b hb, ?_⟩) (by k_clsL) (rd_ix (ix_lastm (mks_ne hbn)))) (pl_mk _)) (go_nx ⟨.dt (.int (j : Int)), rfl⟩)
      intro s' hs'
      obtain ⟨x', hx', rfl⟩ := List.mem_map.mp hs'
      exact hok _ _ _ hs x' hx'
    · rintro Γ' ⟨x, rfl⟩
      exact go_ret (Ed.is (by k_clsL) (by rfl)) q
abbrev smarks_of : Stmt := topS 39
theorem scmarks_of : FnScope ["steps", "begin", "found", "step"] ["steps", "begin"] (defScope smarks_of) := ⟨rfl, rfl, rfl, by decide +kernel, rfl, by decide +kernel, by decide +kernel⟩
theorem ok_marks_of {k0 : Nat} {inner : List BStep → Mk → Mk} {ok : Stp → Prop} (T : Tx K mg) (I : DefI K mg "marks_of" smarks_of ["steps", "begin"])
    (C_mark_of : Cl P w K mg base k0 "mark_of" (R_mark inner ok)) : Cl P w K mg base (k0 + 1) "marks_of" (R_marks inner ok) := by
  refine mkD I scmarks_of (fun ds d h => by obtain ⟨s, bg, n, rfl, _⟩ := h; rfl) (fun f cdv A outer s H E hr ds d h => ?_)
  obtain ⟨l, bg, n, rfl, ⟨h0, h1⟩, ⟨ho, hs⟩, rfl⟩ := h
  refine ⟨_, (pss_cons (ps_set (i := 2) scmarks_of.nd rfl (Or.inl rfl) (pe_lst pa_nil))
    (pss_cons (ps_for PassesOwn.never rfl (kpi_list (K := K) rfl (pv 0)) (pg_name (i := 3) scmarks_of.nd rfl (Or.inl rfl)) (pss_one (ps_expr (kbm (K := K) rfl (pe_bm PySem.F.plainAttrs_list PySem.F.slot_list_append PySem.F.type_list_append mt_append (pv 2) (pa_cons (pc C_mark_of hr (by omega) rfl rfl rfl rfl rfl rfl (pa_cons (pv 3) (pa_cons (pv 2) (pa_cons (pv 1) pa_nil)))) pa_nil))))))
    (pss_one (ps_ret (pv 2))))), fun D q => ?_⟩
  change Go K H [] _ [.dt (.list (l.map Stp.dat)), .dt bg.dat, .no, .no]
  refine q_asgN (edn_lst ea_nil (by decide)) PlA.nil ?_
  refine q_forL (ds := l.map Stp.dat) (eh_var rfl) (fun i Γ' => ∃ x, Γ' = [.dt (.list (l.map Stp.dat)), .dt bg.dat, .own ((mks inner bg (l.take i)).map Mk.dat), x]) ⟨.no, rfl⟩ ?_ ?_
  · rintro i d Γ' G' e1 ⟨x, rfl⟩
    rw [List.getElem?_map] at e1
    cases q1 : l[i]? with
    | none =>
      rw [q1] at e1
      cases e1
    | some s =>
      rw [q1] at e1
      cases e1
      have lt := (List.getElem?_eq_some_iff.mp q1).1
      have hlen : (mks inner bg (l.take i)).length = i := by
        rw [mks_len, List.length_take]
        omega
      refine go_app (d := (smk inner bg (mks inner bg (l.take i)) s).dat) rfl (ed_mark (s := s) (fd := mks inner bg (l.take i)) (bg := bg) (n := n) (by k_clsL) ⟨by rw [hlen]; exact ho i s q1, hs s (List.mem_of_getElem? q1)⟩) (pl_mk _) (by rw [List.length_map, hlen]; omega) (go_nx ⟨.dt s.dat, ?_⟩)
      rw [mks_take q1, List.map_append]
      rfl
  · rintro Γ' ⟨x, rfl⟩
    rw [List.take_of_length_le (by rw [List.length_map]; exact Nat.le_refl _)]
    exact go_ret (Ed.is (by k_clsL) (by rfl)) q
def R_mtop (ds : List PyData) (d : PyData) : Prop := ∃ (n : Nat) (l : List Stp), ds = [prg n l] ∧ OkP n l ∧ d = .list ((mks inm0 .st l).map Mk.dat)
abbrev smarks : Stmt := topS 40
theorem scmarks : FnScope ["program"] ["program"] (defScope smarks) := ⟨rfl, rfl, rfl, by decide +kernel, rfl, by decide +kernel, by decide +kernel⟩
theorem ok_marks {k0 : Nat} {ok : Stp → Prop} (hok : ∀ s, ok s) (T : Tx K mg) (I : DefI K mg "marks" smarks ["program"])
    (C_asked_program : Cl P w K mg base k0 "asked_program" R_askp) (C_marks_of : Cl P w K mg base k0 "marks_of" (R_marks inm0 ok)) : Cl P w K mg base (k0 + 1) "marks" R_mtop := by
  refine mkD I scmarks (fun ds d h => by obtain ⟨s, l, rfl, _⟩ := h; rfl) (fun f cdv A outer s H E hr ds d h => ?_)
  obtain ⟨n, l, rfl, o, rfl⟩ := h
  have hl := o.len
  refine ⟨_, (pss_cons (ps_expr (pc C_asked_program hr (by omega) rfl rfl rfl rfl rfl rfl (pa_cons (pv 0) pa_nil)))
    (pss_one (ps_ret (pc C_marks_of hr (by omega) rfl rfl rfl rfl rfl rfl (pa_cons (pe_ix (kx_ix (K := K) rfl) (pv 0) pe_int (fun _ _ => rfl)) (pa_cons (pgc rfl T.c_STRAIGHT) pa_nil)))))), fun D q => ?_⟩
  change Go K H [] _ [.dt (prg n l)]
  refine q_drop (ed_askp (by k_clsL) o) ?_
  exact go_ret (ed_marks (l := l) (bg := .st) (n := n) (ea_cons (by k_clsL) (ea_cons (Ed.is (by k_clsL) (by rfl)) ea_nil)) ⟨o.ne, by omega⟩ ⟨o.ok, fun s _ => hok s⟩) q
section
variable {Γ : List Sl} {ar : TA} {E : XK}
theorem ed_mtop {n : Nat} {l : List Stp} (h : EdA K ar Γ [prg n l]) (o : OkP n l) : Ed K (tCall (spD K R_mtop) [] E ar) Γ (.list ((mks inm0 .st l).map Mk.dat)) := ed_call h ⟨n, l, rfl, o, rfl⟩
theorem ed_wtop {n : Nat} {l : List Stp} {pl : List Rat} (h : EdA K ar Γ [prg n l, .list (pl.map nm)]) (o : OkP n l) (hp : pl.length = n ∧ AllB 0 pl) : Ed K (tCall (spD K R_wtop) [] E ar) Γ (.list ((wos inn0 pl l).map nm)) := ed_call h ⟨n, l, pl, rfl, o, hp, rfl⟩
end
end
end BW

namespace BW
open PySem PySem.Spec PyProof.Rows L2 Evl
local macro_rules | `(tactic| k_offL) => `(tactic| first
  | ((with_reducible show Ed _ (tVar _) _ _); first | exact ed_var rfl | exact ed_varO rfl)
  | (with_reducible exact ed_int)
  | (with_reducible apply ed_op)
  | (with_reducible exact rd_add)
  | (with_reducible exact rd_sub)
  | ((with_reducible show RD _ (xIx _) _ _ _); exact rd_ix rfl)
  | (with_reducible apply rd_mul)
  | (with_reducible exact rd_lt)
  | (with_reducible exact rd_le)
  | (with_reducible exact rd_gt)
  | (with_reducible exact rd_ge)
  | (with_reducible apply rd_div)
  | (with_reducible apply rd_mod)
  | ((with_reducible show RD _ (xEq _) (PyData.str _) _ _); exact rd_eqS (by decide +kernel) (by decide +kernel))
  | ((with_reducible show RD _ (xEq _) _ _ _); exact rd_eqS (by rfl) (by rfl))
  | ((with_reducible show RD _ (xNe _) (PyData.str _) _ _); exact rd_neS (by decide +kernel) (by decide +kernel))
  | ((with_reducible show RD _ (xNe _) _ _ _); exact rd_neS (by rfl) (by rfl))
  | ((with_reducible show RD _ (xIn _) _ _ _); first | exact rd_inT rfl rfl | exact rd_inL rfl rfl)
  | ((with_reducible show RD _ (xNin _) _ _ _); first | exact rd_ninT rfl rfl | exact rd_ninL rfl rfl)
  | (with_reducible exact ed_str)
  | ((with_reducible show Ed _ (tC (V.ref _)) _ _); exact ed_c (by assumption))
  | (with_reducible exact ed_bl)
  | (with_reducible apply et_test)
  | (with_reducible apply et_B)
  | (with_reducible apply et_not)
  | (with_reducible apply et_and')
  | (with_reducible apply et_or')
  | (with_reducible exact ea_nil)
  | (with_reducible apply ea_cons)
  | (with_reducible apply ed_tail)
  | (with_reducible apply ed_tup2)
  | (with_reducible apply ed_tup3)
  | (with_reducible apply ed_tup4)
  | (with_reducible apply ed_tup1)
  | (with_reducible apply ed_lst1)
  | (with_reducible apply ed_lst2)
  | (with_reducible apply ed_lst3)
  | (with_reducible apply ed_andV')
  | (with_reducible apply ed_orV')
  | (with_reducible apply ed_notV)
  | (with_reducible apply ed_neg)
  | (with_reducible apply isi_ii)
  | (with_reducible apply isi_ib)
  | (with_reducible apply isi_tt)
  | (with_reducible apply isi_ll)
  | (with_reducible apply isi_ss)
  | (with_reducible apply ed_len)
  | ((with_reducible show lenD _ = some _); exact rfl)
  | (with_reducible apply ed_abs)
  | (with_reducible apply ed_min)
  | (with_reducible apply ed_chain')
  | (with_reducible apply ed_all)
  | (with_reducible apply ed_sum))
local macro_rules | `(tactic| k_clsL) => `(tactic| repeat (any_goals k_offL))
local macro_rules | `(tactic| k_subL) => `(tactic| first | exact Pl.int _ | exact Pl.bl _ | exact Pl.str _ | exact pl_nm _ | exact pl_bdat _ | (refine Pl.tup ?_; repeat (first | exact PlA.nil | refine PlA.cons (by k_subL) ?_)))
local macro_rules | `(tactic| wtm_at "pre") => `(tactic| first | assumption | omega)
local macro_rules | `(tactic| wtm_at "ev") => `(tactic| (k_clsL; all_goals wtm_at "pre"))
local macro_rules | `(tactic| wtm_at "no") => `(tactic| ((with_reducible refine' q_no (EdT.is ?hb ?hc) ?hd); (case hb => wtm_at "ev"); (case hc => first | decide +kernel | rfl)))
local macro_rules | `(tactic| wtm_at "set") => `(tactic| ((with_reducible refine' q_asg (Ed.eh ?hb ?hc) ?hd); (case hb => wtm_at "ev"); (case hc => k_subL)))
local macro_rules | `(tactic| wtm_at "yes") => `(tactic| ((with_reducible refine' q_yes (EdT.is ?hb ?hc) ?hd); (case hb => wtm_at "ev"); (case hc => first | decide +kernel | rfl)))
local macro_rules | `(tactic| k_offL) => `(tactic| (with_reducible apply ed_is_whole))
local macro_rules | `(tactic| k_offL) => `(tactic| (with_reducible apply ed_common))
local macro_rules | `(tactic| k_offL) => `(tactic| (with_reducible apply ed_is_number))
local macro_rules | `(tactic| k_offL) => `(tactic| (with_reducible apply ed_lowest))
local macro_rules | `(tactic| wtm_at "pre") => `(tactic| first | assumption | omega | exact sm_nd (by assumption) (by assumption) | exact sm_nn (by assumption) (by assumption) | exact sm_dd (by assumption) (by assumption) | exact sm_pre (by assumption) (by assumption))
local macro_rules | `(tactic| k_offL) => `(tactic| (with_reducible apply ed_add))
local macro_rules | `(tactic| k_offL) => `(tactic| (with_reducible apply ed_grow))
local macro_rules | `(tactic| k_offL) => `(tactic| (with_reducible apply ed_lies))
local macro_rules | `(tactic| k_offL) => `(tactic| (with_reducible apply ed_is_ahead))
local macro_rules | `(tactic| k_offL) => `(tactic| ((fail_if_success (with_reducible show RD _ (xIx _) _ PyData.none _)); (with_reducible show RD _ (xIx _) (PyData.list (List.map nm _)) _ _); exact rd_ix (ix_map (by first | assumption | omega))))
local macro_rules | `(tactic| k_offL) => `(tactic| ((with_reducible show RD _ (xEq _) (PyData.tuple [Mk.dat _, Mk.dat _]) _ _); exact rd_eqS (sh_mk2 _ _) (by decide +kernel)))
local macro_rules | `(tactic| k_offL) => `(tactic| ((with_reducible show RD _ (xEq _) (Mk.dat _) _ _); exact rd_eqS (sh_mk _) (by decide +kernel)))
local macro_rules | `(tactic| k_subL) => `(tactic| exact pl_mk _)
local macro_rules | `(tactic| k_offL) => `(tactic| ((fail_if_success (with_reducible show RD _ (xIx _) _ PyData.none _)); (with_reducible show RD _ (xIx _) (PyData.list (List.map Mk.dat _)) _ _); exact rd_ix (ix_mapm (by first | assumption | omega))))
section
variable {P : Program} {w : World} {K : PySem.W.Frag} {mg : Str → Option Value} {base : Heap}
/-! ### the script's cells -/
theorem lay_ints : ∀ ns : List Int, PyData.canLayAll0 (ns.map PyData.int) = true
  | [] => rfl
  | _ :: r => by
    show (true && PyData.canLayAll0 (r.map PyData.int)) = true
    rw [lay_ints r]
    rfl
theorem dep_ints : ∀ ns : List Int, PyData.depthAll (ns.map PyData.int) ≤ 1
  | [] => by simp [PyData.depthAll]
  | _ :: r => by
    have := dep_ints r
    simp only [List.map_cons, PyData.depthAll, PyData.depth]
    omega
theorem sh_ints (ns : List Int) : SeqAt.shaped (.list (ns.map .int)) = true := by
  have h := dep_ints ns
  unfold SeqAt.shaped
  rw [Bool.and_eq_true]
  refine ⟨lay_ints ns, decide_eq_true ?_⟩
  simp only [PyData.depth]
  omega
def celM (m : Nat) (z : Int) (sc : List Int) : List Int := if sc = [] then [z] else sc.take m
theorem celM_ne {m : Nat} {z : Int} {sc : List Int} (h : 0 < m) : celM m z sc ≠ [] := by
  unfold celM
  split
  · simp
  · rename_i h'
    intro e
    have := congrArg List.length e
    rw [List.length_take, List.length_nil] at this
    have : 0 < sc.length := List.length_pos_iff.mpr h'
    omega
theorem celM_len {m : Nat} {z : Int} {sc : List Int} (h : 0 < m) : (celM m z sc).length ≤ m := by
  unfold celM
  split
  · exact h
  · rw [List.length_take]
    omega
theorem cut_ints (ns : List Int) (m : Nat) : cutD (ns.map .int) none (some (m : Int)) = (ns.take m).map PyData.int := by
  unfold cutD
  rw [HT.sIx_none, HT.sIx_nat, List.drop_zero, List.map_take, List.length_map, Nat.sub_zero]
  by_cases h : m ≤ ns.length
  · rw [Nat.min_eq_left h]
  · rw [Nat.min_eq_right (by omega), List.take_of_length_le (by rw [List.length_map]; omega), List.take_of_length_le (by rw [List.length_map]; omega)]
theorem ed_cut {Γ : List Sl} {te tm : TE} {ns : List Int} {m : Nat} (h : Ed K te Γ (.list (ns.map .int))) (hm : Ed K tm Γ (.int (m : Int))) : Ed K (tSl (rSlL K) te tNoPart (tPart tm)) Γ (.list ((ns.take m).map .int)) := by
  rw [← cut_ints]
  exact (edn_slL h eo_none (eo_some hm)).ed
theorem eqv_nil (ns : List Int) : PyData.eqv (.list (ns.map .int)) (.list []) = decide (ns = []) := by
  cases ns with
  | nil => rfl
  | cons a r => rfl
theorem ed_cells {Γ : List Sl} {te tm : TE} {ns : List Int} {m : Nat} {z : Int} (h : Ed K te Γ (.list (ns.map .int))) (hm : Ed K tm Γ (.int (m : Int))) :
    Ed K (tIf (tTest (tOp (xNe K) te (tLst tNil))) (tSl (rSlL K) te tNoPart (tPart tm)) (tLst (tCons (tC (.int z)) tNil))) Γ (.list ((celM m z ns).map .int)) := by
  refine ed_if (b := !decide (ns = [])) (et_test (ed_op h (ed_lst ea_nil (by decide)) ?_)) (fun e => ?_) fun e => ?_
  · rw [← eqv_nil]
    exact rd_neS (sh_ints _) rfl
  · have n : ns ≠ [] := by
      intro z
      rw [decide_eq_true z] at e
      cases e
    unfold celM
    rw [if_neg n]
    exact ed_cut h hm
  · have n : ns = [] := by
      by_cases z : ns = []
      · exact z
      · rw [decide_eq_false z] at e
        cases e
    unfold celM
    rw [if_pos n]
    exact ed_lst1 ed_int
theorem rd_p60 : RD K xPow (.int 10) (.int 60) (.int 1000000000000000000000000000000000000000000000000000000000000) := by
  have h := rd_pow (K := K) (m := 10) (n := 60) ⟨by decide, by decide, by decide⟩
  rw [show (10 : Int) ^ (60 : Int).toNat = 1000000000000000000000000000000000000000000000000000000000000 from by decide +kernel] at h
  exact h
theorem rd_p18 : RD K xPow (.int 10) (.int 18) (.int 1000000000000000000) := by
  have h := rd_pow (K := K) (m := 10) (n := 18) ⟨by decide, by decide, by decide⟩
  rw [show (10 : Int) ^ (18 : Int).toNat = 1000000000000000000 from by decide +kernel] at h
  exact h
theorem rd_p12 : RD K xPow (.int 10) (.int 12) (.int 1000000000000) := by
  have h := rd_pow (K := K) (m := 10) (n := 12) ⟨by decide, by decide, by decide⟩
  rw [show (10 : Int) ^ (12 : Int).toNat = 1000000000000 from by decide +kernel] at h
  exact h
local macro_rules | `(tactic| k_offL) => `(tactic| (with_reducible exact rd_p60))
local macro_rules | `(tactic| k_offL) => `(tactic| (with_reducible exact rd_p18))
local macro_rules | `(tactic| k_offL) => `(tactic| (with_reducible exact rd_p12))
local macro_rules | `(tactic| k_offL) => `(tactic| (with_reducible apply ed_cells))
/-! ### the drawn number -/
def redM (c : Int) : Int := if 1000000000000000000000000000000000000000000000000000000000000 ≤ (if c < 0 then -c else c) then c % 1000000000000000000 else c
theorem redM_bd (c : Int) : -1000000000000000000000000000000000000000000000000000000000000 < redM c ∧ redM c < 1000000000000000000000000000000000000000000000000000000000000 := by
  unfold redM
  have h1 := Int.emod_nonneg c (show (1000000000000000000 : Int) ≠ 0 by decide)
  have h2 := Int.emod_lt_of_pos c (show (0 : Int) < 1000000000000000000 by decide)
  by_cases h : 1000000000000000000000000000000000000000000000000000000000000 ≤ (if c < 0 then -c else c)
  · rw [if_pos h]
    omega
  · rw [if_neg h]
    split at h <;> omega
theorem numM_red (c a w : Int) : numM c a w = if 1000000000000000000 ≤ redM c then redM c / (1 + a % 7) else
    ((redM c + 977 * a) * 48271 + w) % 2147483647 * (redM c + 31 * a + 7) * (((redM c + 977 * a) * 48271 + w) % 2147483647 + redM c + 5) * (((redM c + 977 * a) * 48271 + w) % 2147483647 * (((redM c + 977 * a) * 48271 + w) % 2147483647) + 11) / (1009 + a) := rfl
theorem cd_small {i j : Int} (h : 0 < j ∧ j ≤ 1000000) : CDivW i j := wide_div (b := 20) h.1 (by omega) (by decide) (by decide)
theorem lt_2 {x : Int} {n : Nat} (B : Nat) (h : x.natAbs < B) (hb : B ≤ 2 ^ n) : x.natAbs < 2 ^ n := Nat.lt_of_lt_of_le h hb
def R_num (ds : List PyData) (d : PyData) : Prop := ∃ c a wh : Int, ds = [.int c, .int a, .int wh] ∧ (0 ≤ a ∧ a ≤ 1000 ∧ 0 ≤ wh ∧ wh ≤ 1000) ∧ d = .int (numM c a wh)
abbrev s_law_number : Stmt := topS 42
theorem sc_law_number : FnScope ["_law_cell", "_law_at", "_law_whole", "_law_blend", "_law_more"] ["_law_cell", "_law_at", "_law_whole"] (defScope s_law_number) := ⟨rfl, rfl, rfl, by decide +kernel, rfl, by decide +kernel, by decide +kernel⟩
theorem ok__law_number (T : Tx K mg) (I : DefI K mg "_law_number" s_law_number ["_law_cell", "_law_at", "_law_whole"]) : Cl P w K mg base 1 "_law_number" R_num := by
  refine mkD I sc_law_number (fun ds d h => by obtain ⟨a, b, c, rfl, _⟩ := h; rfl) (fun f cdv A outer s H E hr ds d h => ?_)
  obtain ⟨c, a, wh, rfl, ⟨ha0, ha1, hw0, hw1⟩, rfl⟩ := h
  refine ⟨_, (pss_cut (ps_if (pt_cmpR ox_ge (pe_callB cx_abs (by rfl) T.abs bb_abs (pa_cons (pv 0) pa_nil)) (pe_op ox_pow pe_int pe_int) (nomark _)) (pss_one (ps_set (i := 0) sc_law_number.nd rfl (Or.inl rfl) (pe_op ox_mod (pv 0) (pe_op ox_pow pe_int pe_int)))) pss_nil)
    (pss_cons (ps_if (pt_cmpR ox_ge (pv 0) (pe_op ox_pow pe_int pe_int) (nomark _)) (pss_one (ps_ret (pe_op ox_div (pv 0) (pe_op ox_add pe_int (pe_op ox_mod (pv 1) pe_int))))) pss_nil)
    (pss_cons (ps_set (i := 3) sc_law_number.nd rfl (Or.inl rfl) (pe_op ox_mod (pe_op ox_add (pe_op ox_mul (pe_op ox_add (pv 0) (pe_op ox_mul pe_int (pv 1))) pe_int) (pv 2)) pe_int))
    (pss_cons (ps_set (i := 4) sc_law_number.nd rfl (Or.inl rfl) (pe_op ox_mul (pv 3) (pe_op ox_add (pe_op ox_add (pv 0) (pe_op ox_mul pe_int (pv 1))) pe_int)))
    (pss_one (ps_ret (pe_op ox_div (pe_op ox_mul (pe_op ox_mul (pv 4) (pe_op ox_add (pe_op ox_add (pv 3) (pv 0)) pe_int)) (pe_op ox_add (pe_op ox_mul (pv 3) (pv 3)) pe_int)) (pe_op ox_add pe_int (pv 1))))))))), fun D q => ?_⟩
  change Go K H [] _ [.dt (.int c), .dt (.int a), .dt (.int wh), .no, .no]
  refine go_cut (fun Γ' => Γ' = [.dt (.int (redM c)), .dt (.int a), .dt (.int wh), .no, .no]) ?_ ?_
  · refine go_if (b := decide (1000000000000000000000000000000000000000000000000000000000000 ≤ (if c < 0 then -c else c))) (EdT.is (by k_clsL) rfl) (fun h => ?_) fun h => ?_
    · have h := of_decide_eq_true h
      have e : redM c = c % 1000000000000000000 := if_pos h
      rw [e]
      refine go_asg (d := .int (c % 1000000000000000000)) (Ed.eh (by k_clsL; decide) (.int _)) (go_nx rfl)
    · have h := of_decide_eq_false h
      have e : redM c = c := if_neg h
      rw [e]
      exact go_next (go_nx rfl)
  rintro Γ' rfl
  have hz := redM_bd c
  rw [numM_red] at q
  generalize redM c = z at hz q ⊢
  by_cases h : 1000000000000000000 ≤ z
  · rw [if_pos h] at q
    refine q_yes (EdT.is (by k_clsL) (decide_eq_true h)) ?_
    refine go_ret (Ed.is (by k_clsL; decide; exact cd_small (by omega)) rfl) q
  · rw [if_neg h] at q
    refine q_no (EdT.is (by k_clsL) (decide_eq_false h)) ?_
    have l250 : ∀ x : Int, -10000000000000000000000000000000000000000000000000000000000000 < x → x < 10000000000000000000000000000000000000000000000000000000000000 → x.natAbs < 2 ^ 250 := fun x h1 h2 => lt_2 10000000000000000000000000000000000000000000000000000000000000 (by omega) (by decide)
    have c1 : CMulW 977 a := cm_small (by decide) (lt_2 1001 (by omega) (by decide))
    have c2 : CMulW (z + 977 * a) 48271 := cm_lt (l250 _ (by omega) (by omega)) (lt_2 (n := 20) 48272 (by decide) (by decide)) (by decide) (by decide)
    have c3 : CMulW 31 a := cm_small (by decide) (lt_2 1001 (by omega) (by decide))
    have b1 := Int.emod_nonneg ((z + 977 * a) * 48271 + wh) (show (2147483647 : Int) ≠ 0 by decide)
    have b2 := Int.emod_lt_of_pos ((z + 977 * a) * 48271 + wh) (show (0 : Int) < 2147483647 by decide)
    refine q_asg (d := .int (((z + 977 * a) * 48271 + wh) % 2147483647)) (Ed.eh (Ed.is (by k_clsL; exact c1; exact c2; decide) rfl) (.int _)) ?_
    generalize ((z + 977 * a) * 48271 + wh) % 2147483647 = y at b1 b2 q ⊢
    have y1 : y.natAbs < 2 ^ 31 := lt_2 2147483648 (by omega) (by decide)
    have z1 : (z + 31 * a + 7).natAbs < 2 ^ 250 := l250 _ (by omega) (by omega)
    have m1 : (y * (z + 31 * a + 7)).natAbs < 2 ^ (31 + 250) := wide_lt y1 z1
    refine q_asg (d := .int (y * (z + 31 * a + 7))) (Ed.eh (Ed.is (by k_clsL; exact c3; exact cm_lt y1 z1 (by decide) (by decide)) rfl) (.int _)) ?_
    generalize y * (z + 31 * a + 7) = m at m1 q ⊢
    have z2 : (y + z + 5).natAbs < 2 ^ 250 := l250 _ (by omega) (by omega)
    have m2 : (m * (y + z + 5)).natAbs < 2 ^ (31 + 250 + 250) := wide_lt m1 z2
    have y2 : (y * y).natAbs < 2 ^ (31 + 31) := wide_lt y1 y1
    have y3 : (y * y + 11).natAbs < 2 ^ 63 := by
      have : (2 : Nat) ^ (31 + 31) + 12 ≤ 2 ^ 63 := by decide
      omega
    refine go_ret (Ed.is (by k_clsL; exact cm_lt m1 z2 (by decide) (by decide); exact cm_lt y1 y1 (by decide) (by decide); exact cm_lt m2 y3 (by decide) (by decide); exact cd_small (by omega)) rfl) q
section
variable {Γ : List Sl} {ar : TA} {E : XK}
theorem ed_num {c a wh : Int} (h : EdA K ar Γ [.int c, .int a, .int wh]) (hp : 0 ≤ a ∧ a ≤ 1000 ∧ 0 ≤ wh ∧ wh ≤ 1000) : Ed K (tCall (spD K R_num) [] E ar) Γ (.int (numM c a wh)) := ed_call h ⟨c, a, wh, rfl, hp, rfl⟩
theorem ed_share {n : Int} {wd : Nat} (h : EdA K ar Γ [.int n, .int (wd : Int)]) (hp : wd ≤ 1000000000000) : Ed K (tCall (spD K R_share) [] E ar) Γ (nm (share n (wd : Int))) := ed_call h ⟨n, wd, rfl, hp, rfl⟩
end
local macro_rules | `(tactic| k_offL) => `(tactic| (with_reducible apply ed_num))
/-! ### the places -/
def gi (l : List Int) (i : Nat) : Int := l.getD i 0
theorem ix_gi {l : List Int} {i : Nat} (h : i < l.length) : ixD (.list (l.map .int)) (.int (i : Int)) = some (.int (gi l i)) := by
  show L2.atI (l.map PyData.int) (i : Int) = _
  refine L2.atI_nat ?_
  rw [List.getElem?_map, List.getElem?_eq_getElem h]
  unfold gi
  rw [List.getD_eq_getElem?_getD, List.getElem?_eq_getElem h]
  rfl
def widM (x : Int) : Nat := if x % 4 = 0 then 2 else if x % 4 = 1 then 6 else if x % 4 = 2 then 30 else 1000000000000
theorem ix_wid (x : Int) : ixD (.tuple [.int 2, .int 6, .int 30, .int 1000000000000]) (.int (x % 4)) = some (.int ((widM x : Nat) : Int)) := by
  unfold widM
  have h1 := Int.emod_nonneg x (show (4 : Int) ≠ 0 by decide)
  have h2 := Int.emod_lt_of_pos x (show (0 : Int) < 4 by decide)
  have h : x % 4 = 0 ∨ x % 4 = 1 ∨ x % 4 = 2 ∨ x % 4 = 3 := by omega
  rcases h with h | h | h | h <;> rw [h] <;> rfl
theorem widM_le (x : Int) : widM x ≤ 1000000000000 := by
  unfold widM
  split
  · decide
  · split
    · decide
    · split <;> decide
def plnM (cells : List Int) (b k : Nat) : Int := numM (gi cells ((b + k) % cells.length)) ((b : Int) + 7 * (k : Int)) (cells.length : Int)
def plcM (cells : List Int) (b k : Nat) : Rat := share (plnM cells b k / 2) ((widM (plnM cells b k + (b : Int)) : Nat) : Int)
def plsM (cells : List Int) (b n : Nat) : List Rat := (List.range n).map (plcM cells b)
theorem plsM_len (cells : List Int) (b n : Nat) : (plsM cells b n).length = n := by
  unfold plsM
  rw [List.length_map, List.length_range]
theorem plsM_succ (cells : List Int) (b n : Nat) : plsM cells b (n + 1) = plsM cells b n ++ [plcM cells b n] := by
  unfold plsM
  rw [List.range_succ, List.map_append]
  rfl
theorem plsM_bd (cells : List Int) (b n : Nat) : AllB 0 (plsM cells b n) := allB_of fun q hq => by
  obtain ⟨k, _, rfl⟩ := List.mem_map.mp hq
  exact bd_few (share_few _ _) (Nat.le_trans (widM_le _) (by decide))
def R_places (ds : List PyData) (d : PyData) : Prop := ∃ (sc : List Int) (b n : Nat), ds = [.list (sc.map .int), .int (b : Int), .int (n : Int)] ∧ (b ≤ 20 ∧ n ≤ 5) ∧ d = .list ((plsM (celM 63 5 sc) b n).map nm)
abbrev s_law_places : Stmt := topS 48
theorem sc_law_places : FnScope ["_law_script", "_law_by_here", "_law_many", "_law_cells", "_law_found", "_law_k", "_law_number_here"] ["_law_script", "_law_by_here", "_law_many"] (defScope s_law_places) := ⟨rfl, rfl, rfl, by decide +kernel, rfl, by decide +kernel, by decide +kernel⟩
theorem ok__law_places (T : Tx K mg) (I : DefI K mg "_law_places" s_law_places ["_law_script", "_law_by_here", "_law_many"]) (C__law_number : Cl P w K mg base 2 "_law_number" R_num) (C__law_share : Cl P w K mg base 2 "_law_share" R_share) : Cl P w K mg base 3 "_law_places" R_places := by
  refine mkD I sc_law_places (fun ds d h => by obtain ⟨a, b, c, rfl, _⟩ := h; rfl) (fun f cdv A outer s H E hr ds d h => ?_)
  obtain ⟨sc, b, n, rfl, ⟨hb, hn⟩, rfl⟩ := h
  refine ⟨_, (pss_cons (ps_set (i := 3) sc_law_places.nd rfl (Or.inl rfl) (pe_ifExp (pt_cmpR (kx_ne (K := K) rfl hr.units) (pv 0) (pe_lst pa_nil) (nomark _)) (pe_slice (ksl_list (K := K) rfl) (pv 0) po_none (po_some pe_int)) (pe_lst (pa_cons pe_int pa_nil))))
    (pss_cons (ps_set (i := 4) sc_law_places.nd rfl (Or.inl rfl) (pe_lst pa_nil))
    (pss_cons (ps_for PassesOwn.never rfl (pi_range1 rfl T.range (pa_cons (pv 2) pa_nil)) (pg_name (i := 5) sc_law_places.nd rfl (Or.inl rfl)) (pss_cons (ps_set (i := 6) sc_law_places.nd rfl (Or.inl rfl) (pc C__law_number hr (by omega) rfl rfl rfl rfl rfl rfl (pa_cons (pe_ix (kx_ix (K := K) rfl) (pv 3) (pe_op ox_mod (pe_op ox_add (pv 1) (pv 5)) (pe_callB (kx_len (K := K) rfl) (by rfl) T.len bb_len (pa_cons (pv 3) pa_nil))) (fun _ _ => rfl)) (pa_cons (pe_op ox_add (pv 1) (pe_op ox_mul pe_int (pv 5))) (pa_cons (pe_callB (kx_len (K := K) rfl) (by rfl) T.len bb_len (pa_cons (pv 3) pa_nil)) pa_nil)))))
      (pss_one (ps_expr (kbm (K := K) rfl (pe_bm PySem.F.plainAttrs_list PySem.F.slot_list_append PySem.F.type_list_append mt_append (pv 4) (pa_cons (pc C__law_share hr (by omega) rfl rfl rfl rfl rfl rfl (pa_cons (pe_op ox_div (pv 6) pe_int) (pa_cons (pe_ix (kx_ix (K := K) rfl) (pe_tup (pa_cons pe_int (pa_cons pe_int (pa_cons pe_int (pa_cons (pe_op ox_pow pe_int pe_int) pa_nil))))) (pe_op ox_mod (pe_op ox_add (pv 6) (pv 1)) pe_int) (fun _ _ => rfl)) pa_nil))) pa_nil)))))))
    (pss_one (ps_ret (pv 4)))))), fun D q => ?_⟩
  change Go K H [] _ [.dt (.list (sc.map .int)), .dt (.int (b : Int)), .dt (.int (n : Int)), .no, .no, .no, .no]
  refine q_asg (d := .list ((celM 63 5 sc).map .int)) (Ed.en (by k_clsL; exact ed_int) rfl) ?_
  have l1 := celM_len (m := 63) (z := 5) (sc := sc) (by decide)
  have l2 : 0 < (celM 63 5 sc).length := List.length_pos_iff.mpr (celM_ne (by decide))
  generalize celM 63 5 sc = cs at l1 l2 q ⊢
  refine q_asgN (edn_lst ea_nil (by decide)) PlA.nil ?_
  refine q_forR (n := (n : Int)) (by k_clsL) (by omega) (fun j Γ' => ∃ x y, Γ' = [.dt (.list (sc.map .int)), .dt (.int (b : Int)), .dt (.int (n : Int)), .dt (.list (cs.map .int)), .own ((plsM cs b j).map nm), x, y]) ⟨.no, .no, rfl⟩ ?_ ?_
  · rintro j Γ' hj ⟨x, y, rfl⟩
    have hlen : lenD (PyData.list (cs.map PyData.int)) = some cs.length := by
      show some _ = some _
      rw [List.length_map]
    have hi : ixD (.list (cs.map .int)) (.int (((b : Int) + (j : Int)) % (cs.length : Int))) = some (.int (gi cs ((b + j) % cs.length))) := by
      rw [show ((b : Int) + (j : Int)) % (cs.length : Int) = (((b + j) % cs.length : Nat) : Int) from by rw [Int.natCast_emod, Int.natCast_add]]
      exact ix_gi (Nat.mod_lt _ l2)
    refine q_asg (d := .int (plnM cs b j)) (Ed.eh (ed_num (ea_cons (ed_op (by k_clsL) (ed_op (by k_clsL) (ed_len (by k_clsL) hlen) (rd_mod (by omega))) (rd_ix hi)) (ea_cons (by k_clsL; exact cm_small (by decide) (lt_2 10 (by omega) (by decide))) (ea_cons (ed_len (by k_clsL) hlen) ea_nil))) (by omega)) (.int _)) ?_
    refine go_app (d := nm (plcM cs b j)) rfl (ed_share (ea_cons (by k_clsL; exact cd_small (by decide)) (ea_cons (ed_op (ed_tup4 ed_int ed_int ed_int (by k_clsL)) (by k_clsL; decide) (rd_ix (ix_wid _))) ea_nil)) (widM_le _)) (pl_nm _) (by rw [List.length_map, plsM_len]; omega) (go_nx ⟨.dt (.int (j : Int)), .dt (.int (plnM cs b j)), ?_⟩)
    rw [plsM_succ, List.map_append]
    rfl
  · rintro Γ' ⟨x, y, rfl⟩
    exact go_ret (Ed.is (by k_clsL) (by rfl)) q
section
variable {Γ : List Sl} {ar : TA} {E : XK}
theorem ed_places {sc : List Int} {b n : Nat} (h : EdA K ar Γ [.list (sc.map .int), .int (b : Int), .int (n : Int)]) (hp : b ≤ 20 ∧ n ≤ 5) : Ed K (tCall (spD K R_places) [] E ar) Γ (.list ((plsM (celM 63 5 sc) b n).map nm)) := ed_call h ⟨sc, b, n, rfl, hp, rfl⟩
end
end
end BW

/-! A def whose answer shares no list with what was there. -/
namespace BW
open PySem PySem.Spec PyProof.Rows L2 Evl
def OldL (H : Hp) : Addr → Prop := fun p => ∃ xs, H p = some (.lst xs)
def spF (K : PySem.W.Frag) (R : List PyData → PyData → Prop) : Sp := fun vs H Q _ => ∃ ds d, DpAll K H vs ds ∧ R ds d ∧ ∀ v H', Ex H H' → Dp K (Hid H' (OldL H)) v d → Q v H'
section
variable {P : Program} {w : World} {K : PySem.W.Frag} {mg : Str → Option Value} {base : Heap}
structure ClF (P : Program) (w : World) (K : PySem.W.Frag) (mg : Str → Option Value) (base : Heap) (k : Nat) (x : Str) (R : List PyData → PyData → Prop) : Prop where
  ex : ∃ (f : Addr) (fd : FuncData) (ps : List Str), FnOk P w K mg base CX0 k f fd ps (spF K R) ∧ mg x = some (.ref f) ∧ PySem.W.keepIn K (.ref f) = true ∧ Binds K fd ps []
theorem okF {x qual : Str} {st : Stmt} {f : Addr} {fd : FuncData} {N ps : List Str} {k : Nat} {R : List PyData → PyData → Prop} (F : Fun K x qual st f fd) (S : FnScope N ps (defScope st)) (hlen : ∀ ds d, R ds d → ds.length = ps.length)
    (hb : ∀ (cdv : Value) (A : Around) (outer : List Env) (s : Shared) (H : Hp) (E : XK), Room k (A.deeper (envOfC qual (defScope st) s.heap.objs.size f cdv)) → ∀ ds d, R ds d →
      ∃ t, PSs (cxOf CX0 P w K mg base N qual (defScope st) f cdv A outer s H E).nox (defBody st) t ∧ ∀ D : Ends, (∀ v H', Ex H H' → Dp K (Hid H' (OldL H)) v d → D.rt v H') → Go K H [] (t D) (ds.map Sl.dt ++ List.replicate (N.length - ds.length) Sl.no)) :
    FnOk P w K mg base CX0 (k + 1) f fd ps (spF K R) := by
  refine F.ok S (fun vs H Q E h => ?_) (fun cdv A outer s H vs Q E hr h => ?_)
  · obtain ⟨ds, d, ha, hR, _⟩ := h
    rw [dpa_len ha, hlen ds d hR]
  · obtain ⟨ds, d, ha, hR, q⟩ := h
    obtain ⟨t, h1, h2⟩ := hb cdv A outer s H E hr ds d hR
    exact ⟨t, h1, (h2 { nx := fun _ H' => Q .non H', rt := Q } q).run (fit_start ha)⟩
theorem mkF {x : Str} {st : Stmt} {N ps : List Str} {k : Nat} {R : List PyData → PyData → Prop} (I : DefI K mg x st ps) (S : FnScope N ps (defScope st)) (hlen : ∀ ds d, R ds d → ds.length = ps.length)
    (hb : ∀ (f : Addr) (cdv : Value) (A : Around) (outer : List Env) (s : Shared) (H : Hp) (E : XK), Room k (A.deeper (envOfC x (defScope st) s.heap.objs.size f cdv)) → ∀ ds d, R ds d →
      ∃ t, PSs (cxOf CX0 P w K mg base N x (defScope st) f cdv A outer s H E).nox (defBody st) t ∧ ∀ D : Ends, (∀ v H', Ex H H' → Dp K (Hid H' (OldL H)) v d → D.rt v H') → Go K H [] (t D) (ds.map Sl.dt ++ List.replicate (N.length - ds.length) Sl.no)) :
    ClF P w K mg base (k + 1) x R := by
  obtain ⟨f, fd, F, hm, b⟩ := I.ex
  exact ⟨f, fd, ps, okF F S hlen (fun cdv A outer s H E hr ds d hR => hb f cdv A outer s H E hr ds d hR), hm, F.kp, b⟩
theorem pcF {X : Cx} {k j : Nat} {x : Str} {R : List PyData → PyData → Prop} {e : Expr} {es : List Expr} {t : TA} {p pos : Pos} (c : ClF P w K mg base k x R) (hr : Room j X.A) (hk : k ≤ j)
    (hP : X.prog = P) (hw : X.w = w) (hK : X.K = K) (hmg : X.mg = mg) (hb : X.base = base) (hg : Gl X x) (ha : PA X (e :: es) t)
    (hdb : (x == ("__debug__" : Str)) = false := by decide) (he : starEach (e :: es) X.env = (false, eval e X.env) :: starEach es X.env := by rfl) (hpl : (backTo pos (starEach es X.env)).any (·.1) = false := by rfl) :
    PE X (.Call (.Name x p) (e :: es) [] pos) (tCall (spF K R) [] E0 t) := by
  subst hP hw hK hmg hb
  obtain ⟨f, fd, ps, F, hm, kp, b⟩ := c.ex
  exact pe_call F (hr.mono hk) hg hm kp b .nil pass0 ha hdb he hpl
variable {H0 : Hp} {G : List (V × PyData)} {Γ : List Sl} {D : Ends} {ar : TA} {ds : List PyData} {d : PyData} {i j : Nat}
theorem eh_callF {R : List PyData → PyData → Prop} {E : XK} (h : EdA K ar Γ ds) (hR : R ds d) : Eh K (tCall (spF K R) [] E ar) Γ d := ⟨fun F Q q => h.run F _ fun vs H1 e1 h1 => by
  show spF K R (vs ++ []) H1 Q E
  rw [List.append_nil]
  exact ⟨ds, d, h1, hR, fun v H2 e2 h2 => q v H2 (e1.trans e2) (dp_ex (hid_sub fun p o => (F.mono e1).lists p o) h2)⟩⟩
theorem go_retO (hj : Γ[j]? = some (.own ds)) (hi : Γ[i]? = some (.dt d)) (p : PlA ds) (pd : Pl d) (k : ∀ v H', Ex H0 H' → Dp K (Hid H' (OldL H0)) v (.tuple [.list ds, d]) → D.rt v H') :
    Go K H0 G (tRet (tTup (tCons (tVar j) (tCons (tVar i) tNil))) D) Γ := ⟨fun {σ H} F => by
  obtain ⟨q, vs, h1, h2, h3, h4⟩ := F.own j ds hj
  obtain ⟨v, e2, hv⟩ := F.rd hi
  refine ⟨.ref q, h1, v, e2, sz_of (Nat.le_of_ble_eq_true rfl), fun t ht => ?_⟩
  have ex : Ex H (upd H t (.tup [.ref q, v])) := Ex.new ht
  have old : ∀ p, OldL H0 p → ∃ xs, (upd H t (.tup [.ref q, v])) p = some (.lst xs) := fun p ⟨xs, z⟩ => ⟨xs, (F.ex.trans ex) p _ z⟩
  have nq : ¬ OldL H0 q := fun ⟨xs, z⟩ => by
    rw [h3] at z
    cases z
  have nt : ¬ OldL H0 t := fun ⟨xs, z⟩ => by
    rw [F.ex t _ z] at ht
    cases ht
  refine k _ _ (F.ex.trans ex) (.tup (.inl (.inl (hid_of nt upd_same))) (.cons ?_ (.cons ?_ .nil)))
  · exact .lst (.inl (.inl (hid_of nq (ex q _ h2)))) (pla_hid old p (dpa_ex ex (dpa_ex hid_self h4)))
  · exact pl_hid old pd (dp_ex ex hv)⟩
theorem eqv_int (a b : Int) : PyData.eqv (.int a) (.int b) = decide (a = b) := by
  show (a == b) = decide (a = b)
  by_cases h : a = b
  · subst h
    rw [beq_self_eq_true, decide_eq_true rfl]
  · rw [decide_eq_false h]
    exact beq_eq_false_iff_ne.mpr h
end
end BW

/-! The drawn programs, in plain Lean. -/
namespace BW
open PySem
def gz (l : List Int) (i : Nat) : Int := l.getD i 0
/-! ### a body -/
def bodS (n : Int) (t : Nat) (st : List BStep × Nat) : List BStep × Nat :=
  if n / (5 + (t : Int)) % 6 = 0 then (st.1 ++ [.scl (share (n / (9 + (t : Int))) ((2 : Nat) : Int)) (st.1.length - 1)], st.2)
  else if n / (5 + (t : Int)) % 6 = 1 ∧ st.2 = 0 then (st.1 ++ [if n / 2 % 2 = 0 then .mn (st.1.length - 1) (n / (40 + (t : Int)) % (st.1.length : Int)).toNat else .mx (st.1.length - 1) (n / (40 + (t : Int)) % (st.1.length : Int)).toNat], 1)
  else if n / (5 + (t : Int)) % 6 = 2 ∧ st.2 = 0 then (st.1 ++ [.ite (n / (40 + (t : Int)) % (st.1.length : Int)).toNat (st.1.length - 1) (n / 60 % (st.1.length : Int)).toNat], 1)
  else if n / (5 + (t : Int)) % 6 = 3 then (st.1 ++ [.add (st.1.length - 1) (n / (40 + (t : Int)) % (st.1.length : Int)).toNat], st.2)
  else (st.1 ++ [.cst (share (n / (11 + (t : Int))) ((3 : Nat) : Int)), .add (st.1.length - 1) st.1.length], st.2)
def bodM (n : Int) : Nat → List BStep × Nat
  | 0 => ([.inp 0], 0)
  | t + 1 => bodS n t (bodM n t)
def okBs (l : List BStep) : Prop := ∀ (j : Nat) s, l[j]? = some s → okB 1 j s
theorem okBs_app {l : List BStep} {s : BStep} (h : okBs l) (hs : okB 1 l.length s) : okBs (l ++ [s]) := fun j x e => by
  rw [List.getElem?_append] at e
  split at e
  · exact h j x e
  · have : j = l.length := by
      have := (List.getElem?_eq_some_iff.mp e).1
      rw [List.length_singleton] at this
      omega
    subst this
    rw [Nat.sub_self] at e
    cases e
    exact hs
theorem chBs_app (l : List BStep) (s : BStep) : chBs (l ++ [s]) = chBs l + chB s := by
  unfold chBs
  rw [List.map_append, List.sum_append]
  show _ + (chB s + 0) = _
  rw [Nat.add_zero]
theorem toNat_mod_lt (x : Int) {L : Nat} (h : 0 < L) : (x % (L : Int)).toNat < L := by
  have h1 := Int.emod_nonneg x (show (L : Int) ≠ 0 by omega)
  have h2 := Int.emod_lt_of_pos x (show (0 : Int) < (L : Int) by omega)
  omega
theorem toNat_mod (x : Int) {L : Nat} (h : 0 < L) : x % (L : Int) = ((x % (L : Int)).toNat : Int) := by
  have h1 := Int.emod_nonneg x (show (L : Int) ≠ 0 by omega)
  omega
structure BodOk (t : Nat) (st : List BStep × Nat) : Prop where
  ok : okBs st.1
  ne : 0 < st.1.length
  le : st.1.length ≤ 1 + 2 * t
  ch : chBs st.1 = st.2
  c1 : st.2 ≤ 1
theorem bod_ok (n : Int) : ∀ t, BodOk t (bodM n t)
  | 0 => by
    refine ⟨fun j s e => ?_, Nat.zero_lt_one, Nat.le_refl _, rfl, Nat.zero_le _⟩
    cases j with
    | zero =>
      cases e
      exact Nat.zero_lt_one
    | succ j => cases e
  | t + 1 => by
    obtain ⟨h1, h2, h3, h4, h5⟩ := bod_ok n t
    show BodOk (t + 1) (bodS n t (bodM n t))
    generalize bodM n t = st at h1 h2 h3 h4 h5 ⊢
    have m1 := toNat_mod_lt (n / (40 + (t : Int))) h2
    have m2 := toNat_mod_lt (n / 60) h2
    unfold bodS
    split
    · exact ⟨okBs_app h1 ⟨(share_few _ 2).mono (by decide), by omega⟩, by rw [List.length_append]; omega, by rw [List.length_append, List.length_singleton]; omega, by rw [chBs_app]; exact h4, h5⟩
    · split
      · rename_i hc
        have hc := hc.2
        rw [hc] at h4
        split
        · exact ⟨okBs_app h1 ⟨by omega, m1⟩, by rw [List.length_append]; omega, by rw [List.length_append, List.length_singleton]; omega, by rw [chBs_app, h4]; rfl, Nat.le_refl _⟩
        · exact ⟨okBs_app h1 ⟨by omega, m1⟩, by rw [List.length_append]; omega, by rw [List.length_append, List.length_singleton]; omega, by rw [chBs_app, h4]; rfl, Nat.le_refl _⟩
      · split
        · rename_i hc
          have hc := hc.2
          rw [hc] at h4
          exact ⟨okBs_app h1 ⟨m1, by omega, m2⟩, by rw [List.length_append]; omega, by rw [List.length_append, List.length_singleton]; omega, by rw [chBs_app, h4]; rfl, Nat.le_refl _⟩
        · split
          · exact ⟨okBs_app h1 ⟨by omega, m1⟩, by rw [List.length_append]; omega, by rw [List.length_append, List.length_singleton]; omega, by rw [chBs_app]; exact h4, h5⟩
          · have e : st.1 ++ [BStep.cst (share (n / (11 + (t : Int))) ((3 : Nat) : Int)), .add (st.1.length - 1) st.1.length] = (st.1 ++ [BStep.cst (share (n / (11 + (t : Int))) ((3 : Nat) : Int))]) ++ [.add (st.1.length - 1) st.1.length] := by
              rw [List.append_assoc]
              rfl
            rw [e]
            have l1 : (st.1 ++ [BStep.cst (share (n / (11 + (t : Int))) ((3 : Nat) : Int))]).length = st.1.length + 1 := by
              rw [List.length_append, List.length_singleton]
            refine ⟨okBs_app (okBs_app h1 ((share_few _ 3).mono (by decide))) ⟨by omega, by omega⟩, ?_, ?_, ?_, h5⟩
            · rw [List.length_append]
              omega
            · rw [List.length_append, l1, List.length_singleton]
              omega
            · rw [chBs_app, chBs_app]
              exact h4
/-! ### steps, one behind the other -/
theorem okL_app {n : Nat} {l : List Stp} {s : Stp} (h : okL n l) (hs : okS n l.length s) : okL n (l ++ [s]) := fun j x e => by
  rw [List.getElem?_append] at e
  split at e
  · exact h j x e
  · have : j = l.length := by
      have := (List.getElem?_eq_some_iff.mp e).1
      rw [List.length_singleton] at this
      omega
    subst this
    rw [Nat.sub_self] at e
    cases e
    exact hs
theorem chcs_app (l : List Stp) (s : Stp) : chcs (l ++ [s]) = chcs l + chc s := by
  unfold chcs
  rw [List.map_append, List.sum_append]
  show _ + (chc s + 0) = _
  rw [Nat.add_zero]
theorem costs_app (l : List Stp) (s : Stp) : costs (l ++ [s]) = costs l + cost s := by
  unfold costs
  rw [List.map_append, List.sum_append]
  show _ + (cost s + 0) = _
  rw [Nat.add_zero]
def insM (n : Nat) : List Stp := (List.range n).map fun k => .b (.inp k)
theorem insM_succ (n : Nat) : insM (n + 1) = insM n ++ [.b (.inp n)] := by
  unfold insM
  rw [List.range_succ, List.map_append]
  rfl
theorem insM_len (n : Nat) : (insM n).length = n := by
  unfold insM
  rw [List.length_map, List.length_range]
theorem insM_get {n k : Nat} {s : Stp} (h : (insM n)[k]? = some s) : k < n ∧ s = .b (.inp k) := by
  have lt := (List.getElem?_eq_some_iff.mp h).1
  rw [insM_len] at lt
  unfold insM at h
  rw [List.getElem?_map, List.getElem?_range lt] at h
  cases h
  exact ⟨lt, rfl⟩
theorem insM_ok (n : Nat) : okL n (insM n) := fun k s h => by
  obtain ⟨a, rfl⟩ := insM_get h
  exact a
theorem insM_cost : ∀ n, costs (insM n) = n ∧ chcs (insM n) = 0
  | 0 => ⟨rfl, rfl⟩
  | n + 1 => by
    obtain ⟨a, b⟩ := insM_cost n
    rw [insM_succ, costs_app, chcs_app, a, b]
    exact ⟨rfl, rfl⟩
/-! ### the drawn program -/
structure PSt where
  left : Int
  room : Int
  st : List Stp
def oneM (q : Int) (L : Nat) : Nat := ((L : Int) - 1 - q / 9 % (if (2 : Int) < (L : Int) then 2 else (L : Int))).toNat
theorem oneM_is (q : Int) {L : Nat} (h : 0 < L) : (L : Int) - 1 - q / 9 % (if (2 : Int) < (L : Int) then 2 else (L : Int)) = (oneM q L : Int) ∧ oneM q L < L := by
  unfold oneM
  split
  · have h1 := Int.emod_nonneg (q / 9) (show (2 : Int) ≠ 0 by omega)
    have h2 := Int.emod_lt_of_pos (q / 9) (show (0 : Int) < 2 by omega)
    omega
  · have h1 := Int.emod_nonneg (q / 9) (show (L : Int) ≠ 0 by omega)
    have h2 := Int.emod_lt_of_pos (q / 9) (show (0 : Int) < (L : Int) by omega)
    omega
def bodR (q : Int) : List BStep × Nat := bodM (q / 17) (1 + q / 17 % 3).toNat
def manM (q left room : Int) : Nat := if q / 5 % 4 * ((bodR q).2 : Int) > left ∨ q / 5 % 4 * ((bodR q).1.length : Int) > room then 0 else (q / 5 % 4).toNat
def prS (q : Int) (p : PSt) : PSt :=
  if q % 9 = 2 then ⟨p.left, p.room, p.st ++ [.b (.scl (share (q / 11) ((3 : Nat) : Int)) (oneM q p.st.length))]⟩
  else if q % 9 = 3 then ⟨p.left, p.room, p.st ++ [.b (.cst (share (q / 13) ((5 : Nat) : Int)))]⟩
  else if 3 < q % 9 ∧ q % 9 < 7 ∧ 0 < p.left then ⟨p.left - 1, p.room, p.st ++ [.b (if q % 9 = 4 then .mn (oneM q p.st.length) (q / 30 % (p.st.length : Int)).toNat else if q % 9 = 5 then .mx (oneM q p.st.length) (q / 30 % (p.st.length : Int)).toNat else .ite (q / 30 % (p.st.length : Int)).toNat (oneM q p.st.length) (q / 300 % (p.st.length : Int)).toNat)]⟩
  else if q % 9 = 7 then ⟨p.left - (manM q p.left p.room : Int) * ((bodR q).2 : Int), p.room - (manM q p.left p.room : Int) * ((bodR q).1.length : Int), p.st ++ [.turns (manM q p.left p.room) (oneM q p.st.length) (bodR q).1]⟩
  else ⟨p.left, p.room, p.st ++ [.b (.add (oneM q p.st.length) (q / 30 % (p.st.length : Int)).toNat)]⟩
def lefM (x : Int) : Int := if x % 4 = 0 then 4 else if x % 4 = 1 then 2 else if x % 4 = 2 then 5 else 3
def qM (cells : List Int) (b k : Nat) : Int := numM (gz cells k) ((k : Int) + (b : Int)) (cells.length : Int)
def prM (n : Nat) (cells : List Int) (b : Nat) : Nat → PSt
  | 0 => ⟨lefM (cells.sum + (b : Int)), 50, insM n⟩
  | k + 1 => prS (qM cells b k) (prM n cells b k)
structure PrOk (n k : Nat) (p : PSt) : Prop where
  l0 : 0 ≤ p.left
  r0 : 0 ≤ p.room
  ok : okL n p.st
  len : p.st.length = n + k
  ch : (chcs p.st : Int) + p.left ≤ 5
  co : (costs p.st : Int) + p.room ≤ 50 + n + k
theorem prS_ok {n k : Nat} {p : PSt} (q : Int) (hn : 0 < n) (h : PrOk n k p) : PrOk n (k + 1) (prS q p) := by
  obtain ⟨h1, h2, h3, h4, h5, h6⟩ := h
  have hL : 0 < p.st.length := by omega
  have o := (oneM_is q hL).2
  have m1 := toNat_mod_lt (q / 30) hL
  have m2 := toNat_mod_lt (q / 300) hL
  unfold prS
  split
  · exact ⟨h1, h2, okL_app h3 ⟨(share_few _ 3).mono (by decide), o⟩, by rw [List.length_append, List.length_singleton]; omega, by rw [chcs_app]; show ((chcs p.st + 0 : Nat) : Int) + p.left ≤ 5; omega, by rw [costs_app]; show ((costs p.st + 1 : Nat) : Int) + p.room ≤ _; omega⟩
  · split
    · exact ⟨h1, h2, okL_app h3 ((share_few _ 5).mono (by decide)), by rw [List.length_append, List.length_singleton]; omega, by rw [chcs_app]; show ((chcs p.st + 0 : Nat) : Int) + p.left ≤ 5; omega, by rw [costs_app]; show ((costs p.st + 1 : Nat) : Int) + p.room ≤ _; omega⟩
    · split
      · rename_i hc
        obtain ⟨_, _, hc⟩ := hc
        have g : ∀ s : BStep, okB n p.st.length s → chB s = 1 → PrOk n (k + 1) ⟨p.left - 1, p.room, p.st ++ [.b s]⟩ := fun s ho hs => by
          refine ⟨?_, h2, okL_app h3 ho, ?_, ?_, ?_⟩
          · show (0 : Int) ≤ p.left - 1
            omega
          · show (p.st ++ [Stp.b s]).length = n + (k + 1)
            rw [List.length_append, List.length_singleton]
            omega
          · show ((chcs (p.st ++ [Stp.b s]) : Nat) : Int) + (p.left - 1) ≤ 5
            rw [chcs_app]
            have : chc (Stp.b s) = 1 := hs
            omega
          · show ((costs (p.st ++ [Stp.b s]) : Nat) : Int) + p.room ≤ 50 + n + ((k + 1 : Nat) : Int)
            rw [costs_app]
            have : cost (Stp.b s) = 1 := rfl
            omega
        split
        · exact g _ ⟨o, m1⟩ rfl
        · split
          · exact g _ ⟨o, m1⟩ rfl
          · exact g _ ⟨m1, o, m2⟩ rfl
      · split
        · have B := bod_ok (q / 17) (1 + q / 17 % 3).toNat
          have t3 : (1 + q / 17 % 3).toNat ≤ 3 := by
            have := Int.emod_lt_of_pos (q / 17) (show (0 : Int) < 3 by decide)
            omega
          have b1 := Int.emod_nonneg (q / 5) (show (4 : Int) ≠ 0 by decide)
          have b2 := Int.emod_lt_of_pos (q / 5) (show (0 : Int) < 4 by decide)
          change BodOk _ (bodR q) at B
          obtain ⟨B1, B2, B3, B4, B5⟩ := B
          have hm : manM q p.left p.room ≤ 3 ∧ (manM q p.left p.room : Int) * ((bodR q).2 : Int) ≤ p.left ∧ (manM q p.left p.room : Int) * ((bodR q).1.length : Int) ≤ p.room := by
            unfold manM
            split
            · refine ⟨by decide, ?_, ?_⟩
              · show (0 : Int) * _ ≤ _
                rw [Int.zero_mul]
                exact h1
              · show (0 : Int) * _ ≤ _
                rw [Int.zero_mul]
                exact h2
            · rename_i hh
              rw [show (((q / 5 % 4).toNat : Nat) : Int) = q / 5 % 4 from by omega]
              refine ⟨by omega, ?_, ?_⟩
              · exact Int.not_lt.mp fun z => hh (.inl z)
              · exact Int.not_lt.mp fun z => hh (.inr z)
          obtain ⟨hm1, hm2, hm3⟩ := hm
          generalize manM q p.left p.room = m at hm1 hm2 hm3 ⊢
          have c1 : ((m * chBs (bodR q).1 : Nat) : Int) = (m : Int) * ((bodR q).2 : Int) := by rw [Int.natCast_mul, B4]
          have c2 : ((m * (bodR q).1.length : Nat) : Int) = (m : Int) * ((bodR q).1.length : Int) := Int.natCast_mul _ _
          refine ⟨?_, ?_, okL_app h3 ⟨by omega, o, fun z => ?_, ?_, B1⟩, ?_, ?_, ?_⟩
          · show (0 : Int) ≤ p.left - _
            omega
          · show (0 : Int) ≤ p.room - _
            omega
          · rw [z] at B2
            exact absurd B2 (by decide)
          · omega
          · show (p.st ++ [Stp.turns _ _ _]).length = n + (k + 1)
            rw [List.length_append, List.length_singleton]
            omega
          · show ((chcs (p.st ++ [Stp.turns m _ (bodR q).1]) : Nat) : Int) + (p.left - _) ≤ 5
            rw [chcs_app]
            show ((chcs p.st + m * chBs (bodR q).1 : Nat) : Int) + (p.left - _) ≤ 5
            omega
          · show ((costs (p.st ++ [Stp.turns m _ (bodR q).1]) : Nat) : Int) + (p.room - _) ≤ 50 + n + ((k + 1 : Nat) : Int)
            rw [costs_app]
            show ((costs p.st + (1 + m * (bodR q).1.length) : Nat) : Int) + (p.room - _) ≤ _
            omega
        · exact ⟨h1, h2, okL_app h3 ⟨o, m1⟩, by rw [List.length_append, List.length_singleton]; omega, by rw [chcs_app]; show ((chcs p.st + 0 : Nat) : Int) + p.left ≤ 5; omega, by rw [costs_app]; show ((costs p.st + 1 : Nat) : Int) + p.room ≤ _; omega⟩
theorem lefM_bd (x : Int) : 0 ≤ lefM x ∧ lefM x ≤ 5 := by
  unfold lefM
  split
  · decide
  · split
    · decide
    · split <;> decide
theorem prM_ok {n : Nat} (hn : 0 < n) (cells : List Int) (b : Nat) : ∀ k, PrOk n k (prM n cells b k)
  | 0 => by
    obtain ⟨a, c⟩ := insM_cost n
    obtain ⟨l0, l5⟩ := lefM_bd (cells.sum + (b : Int))
    refine ⟨l0, show (0 : Int) ≤ 50 by decide, insM_ok n, insM_len n, ?_, ?_⟩
    · show ((chcs (insM n) : Nat) : Int) + lefM _ ≤ 5
      omega
    · show ((costs (insM n) : Nat) : Int) + 50 ≤ 50 + (n : Int) + ((0 : Nat) : Int)
      omega
  | k + 1 => prS_ok _ hn (prM_ok hn cells b k)
theorem PrOk.okP {n k : Nat} {p : PSt} (h : PrOk n k p) (hn : 0 < n) (hn3 : n ≤ 3) (hk : k ≤ 14) : OkP n p.st := by
  obtain ⟨h1, h2, h3, h4, h5, h6⟩ := h
  refine ⟨hn, hn3, h3, fun z => ?_, by omega, by omega, by omega⟩
  rw [z] at h4
  have : (0 : Nat) = n + k := h4
  omega
/-! ### the program that bulges -/
structure BSt where
  st : List Stp
  dn : List Nat
def buS (n : Nat) (q : Int) (p : BSt) : BSt :=
  ⟨p.st ++ [.b (.scl (share (q / 3) ((4 : Nat) : Int)) (q / 5 % (n : Int)).toNat)] ++ [.b (.cst (share (q / 7) ((5 : Nat) : Int)))] ++ [.b (.add p.st.length (p.st.length + 1))] ++
    [.b (if p.dn.length < 6 ∧ 0 < q % 3 then .mx (p.dn.getLastD 0) (p.st.length + 2) else .add (p.dn.getLastD 0) (p.st.length + 2))], p.dn ++ [p.st.length + 3]⟩
def buM (n : Nat) (cells : List Int) (b : Nat) : Nat → BSt
  | 0 => ⟨insM n, [n - 1]⟩
  | k + 1 => buS n (qM cells b k) (buM n cells b k)
/-- marks of all that runs so far -/
def mk0 (l : List Stp) : List Mk := mks inm0 .st l
theorem mk0_app (l : List Stp) (s : Stp) : mk0 (l ++ [s]) = mk0 l ++ [smk inm0 .st (mk0 l) s] := runs_app _ _ _ _
theorem mk0_len (l : List Stp) : (mk0 l).length = l.length := mks_len _ _ _
theorem gm_old {l : List Mk} {m : Mk} {i : Nat} (h : i < l.length) : gm (l ++ [m]) i = gm l i := by rw [gm_app, if_pos h]
theorem gm_new {l : List Mk} {m : Mk} {i : Nat} (h : i = l.length) : gm (l ++ [m]) i = m := by rw [gm_app, if_neg (by omega), if_pos h]
structure BuOk (n k : Nat) (p : BSt) : Prop where
  ok : okL n p.st
  len : p.st.length = n + 4 * k
  dl : p.dn.length = k + 1
  ch : chcs p.st + 6 ≤ 5 + min (k + 1) 6
  co : costs p.st = n + 4 * k
  la : p.dn.getLastD 0 < p.st.length
  le : p.dn.getLastD 0 + 1 = p.st.length
  mrk : gm (mk0 p.st) (p.dn.getLastD 0) = .dn ∨ gm (mk0 p.st) (p.dn.getLastD 0) = .st
  ins : ∀ i, i < n → gm (mk0 p.st) i = .st
theorem getLastD_app (l : List Nat) (x : Nat) : (l ++ [x]).getLastD 0 = x := by simp
/-- a fact, out of sight -/
structure Hd (p : Prop) : Prop where
  h : p
theorem len_app1 {α : Type} {l : List α} {x : α} {n : Nat} (h : l.length = n) : (l ++ [x]).length = n + 1 := by
  rw [List.length_append, h]
  rfl
theorem gm_old' {l : List Mk} {m : Mk} {i n : Nat} (e : l.length = n) (h : i < n) : gm (l ++ [m]) i = gm l i := gm_old (by rw [e]; exact h)
theorem gm_new' {l : List Mk} {m : Mk} {n : Nat} (e : l.length = n) : gm (l ++ [m]) n = m := gm_new e.symm
/-- four steps more, by the last that goes down and the sum ahead of it -/
theorem buS_fin {n k : Nat} {p : BSt} {T : List Stp} {A : List Mk} {s : BStep} {c : Nat} (h : BuOk n k p) (o3 : okL n T) (e3 : T.length = p.st.length + 3) (cT1 : costs T = costs p.st + 3) (cT2 : chcs T = chcs p.st) (kA : mk0 T = A) (hA : ∀ j, j < p.st.length → gm A j = gm (mk0 p.st) j) (lA : A.length = p.st.length + 3) (hn : 0 < n)
    (ho : okB n T.length s) (hc : chB s = c) (hc0 : c ≤ 1) (hc2 : c = 1 → k + 1 < 6) (hm : bmk .st A s = .dn ∨ bmk .st A s = .st) : BuOk n (k + 1) ⟨T ++ [.b s], p.dn ++ [p.st.length + 3]⟩ := by
  obtain ⟨h1, h2, h3, h4, h5, h6, h7, h8, h9⟩ := h
  have lT : (T ++ [Stp.b s]).length = p.st.length + 4 := len_app1 e3
  have eD : (p.dn ++ [p.st.length + 3]).getLastD 0 = p.st.length + 3 := getLastD_app _ _
  have kT : mk0 (T ++ [Stp.b s]) = A ++ [bmk .st A s] := by
    rw [mk0_app, kA]
    rfl
  refine ⟨okL_app o3 ho, ?_, ?_, ?_, ?_, ?_, ?_, ?_, ?_⟩
  · refine lT.trans ?_
    clear h8 h9 kT hm hA
    omega
  · show (p.dn ++ [p.st.length + 3]).length = _
    exact len_app1 h3
  · show chcs (T ++ [Stp.b s]) + 6 ≤ 5 + min (k + 1 + 1) 6
    rw [chcs_app, cT2, show chc (Stp.b s) = c from hc]
    clear h8 h9 kT hm hA eD lT lA
    omega
  · show costs (T ++ [Stp.b s]) = _
    rw [costs_app, cT1, show cost (Stp.b s) = 1 from rfl, h5]
    omega
  · show (p.dn ++ [p.st.length + 3]).getLastD 0 < (T ++ [Stp.b s]).length
    rw [eD, lT]
    exact Nat.lt_succ_self _
  · show (p.dn ++ [p.st.length + 3]).getLastD 0 + 1 = (T ++ [Stp.b s]).length
    rw [eD, lT]
  · show gm (mk0 (T ++ [Stp.b s])) ((p.dn ++ [p.st.length + 3]).getLastD 0) = .dn ∨ gm (mk0 (T ++ [Stp.b s])) ((p.dn ++ [p.st.length + 3]).getLastD 0) = .st
    rw [eD, kT, gm_new' lA]
    exact hm
  · intro j hj
    have hj' : j < p.st.length := by
      rw [h2]
      omega
    show gm (mk0 (T ++ [Stp.b s])) j = .st
    rw [kT, gm_old' lA (Nat.lt_of_lt_of_le hj' (Nat.le_add_right _ 3)), hA j hj']
    exact h9 j hj
theorem buS_ok {n k : Nat} {p : BSt} (q : Int) (hn : 0 < n) (h : BuOk n k p) : BuOk n (k + 1) (buS n q p) := by
  have m1 := toNat_mod_lt (q / 5) hn
  have s1 := h.ins _ m1
  have h6 := h.la
  have h8 := h.mrk
  have hin : n ≤ p.st.length := by
    rw [h.len]
    omega
  have FIN := @buS_fin n k p
  unfold buS
  generalize (q / 5 % (n : Int)).toNat = i at m1 s1 ⊢
  have f1 : Few 4 (share (q / 3) ((4 : Nat) : Int)) := share_few _ 4
  have f2 : Few 5 (share (q / 7) ((5 : Nat) : Int)) := share_few _ 5
  generalize share (q / 3) ((4 : Nat) : Int) = x at f1 ⊢
  generalize share (q / 7) ((5 : Nat) : Int) = y at f2 ⊢
  have e1 := Hd.mk (len_app1 (l := p.st) (x := Stp.b (.scl x i)) rfl)
  have e2 := Hd.mk (len_app1 (x := Stp.b (.cst y)) e1.h)
  have e3 := Hd.mk (len_app1 (x := Stp.b (.add p.st.length (p.st.length + 1))) e2.h)
  have o3 := Hd.mk (okL_app (s := Stp.b (.add p.st.length (p.st.length + 1))) (okL_app (s := Stp.b (.cst y)) (okL_app (s := Stp.b (.scl x i)) h.ok ⟨f1, Nat.lt_of_lt_of_le m1 hin⟩) f2) (by
    rw [e2.h]
    exact ⟨Nat.lt_of_lt_of_le (Nat.lt_succ_self _) (Nat.le_succ _), Nat.lt_succ_self _⟩))
  -- the marks
  have g1 : sclM (gm (mk0 p.st) i) x = .lv ∨ sclM (gm (mk0 p.st) i) x = .st := by
    rw [s1]
    unfold sclM
    split
    · exact .inl rfl
    · rw [if_pos (Or.inr ⟨by decide, by decide⟩)]
      exact .inr rfl
  have k1 : Hd (mk0 (p.st ++ [Stp.b (.scl x i)]) = mk0 p.st ++ [sclM (gm (mk0 p.st) i) x]) := ⟨mk0_app _ _⟩
  generalize sclM (gm (mk0 p.st) i) x = m at g1 k1
  have k2 : Hd (mk0 (p.st ++ [Stp.b (.scl x i)] ++ [Stp.b (.cst y)]) = mk0 p.st ++ [m] ++ [.lv]) := ⟨by
    rw [mk0_app, k1.h]
    rfl⟩
  have l0 := Hd.mk (mk0_len p.st)
  have l1 := Hd.mk (len_app1 (x := m) l0.h)
  have l2 := Hd.mk (len_app1 (x := Mk.lv) l1.h)
  have k3 : Hd (mk0 (p.st ++ [Stp.b (.scl x i)] ++ [Stp.b (.cst y)] ++ [Stp.b (.add p.st.length (p.st.length + 1))]) = mk0 p.st ++ [m] ++ [.lv] ++ [m]) := ⟨by
    rw [mk0_app, k2.h]
    show _ ++ [mixS (gm (mk0 p.st ++ [m] ++ [.lv]) p.st.length) (gm (mk0 p.st ++ [m] ++ [.lv]) (p.st.length + 1))] = _
    rw [gm_old' l1.h (Nat.lt_succ_self _), gm_new' l0.h, gm_new' l1.h]
    rcases g1 with rfl | rfl <;> rfl⟩
  have l3 := Hd.mk (len_app1 (x := m) l2.h)
  have gA : Hd (∀ j, j < p.st.length → gm (mk0 p.st ++ [m] ++ [.lv] ++ [m]) j = gm (mk0 p.st) j) := ⟨fun j hj => by
    rw [gm_old' l2.h (Nat.lt_of_lt_of_le hj (Nat.le_add_right _ 2)), gm_old' l1.h (Nat.lt_of_lt_of_le hj (Nat.le_add_right _ 1)), gm_old' l0.h hj]⟩
  have gn : Hd (gm (mk0 p.st ++ [m] ++ [Mk.lv] ++ [m]) (p.st.length + 2) = m) := ⟨gm_new' l2.h⟩
  have cT : Hd (costs (p.st ++ [Stp.b (.scl x i)] ++ [Stp.b (.cst y)] ++ [Stp.b (.add p.st.length (p.st.length + 1))]) = costs p.st + 3) := ⟨by
    rw [costs_app, costs_app, costs_app]
    rfl⟩
  have dT : Hd (chcs (p.st ++ [Stp.b (.scl x i)] ++ [Stp.b (.cst y)] ++ [Stp.b (.add p.st.length (p.st.length + 1))]) = chcs p.st) := ⟨by
    rw [chcs_app, chcs_app, chcs_app]
    rfl⟩
  generalize mk0 p.st ++ [m] ++ [.lv] ++ [m] = A at k3 l3 gA gn
  have gd := Hd.mk (gA.h _ h6)
  have hdl := h.dl
  generalize p.dn.getLastD 0 = d at h6 h8 gd ⊢
  have nd : d ≠ p.st.length + 2 := Nat.ne_of_lt (Nat.lt_of_lt_of_le h6 (Nat.le_add_right _ 2))
  have i1 : d < p.st.length + 3 := Nat.lt_of_lt_of_le h6 (Nat.le_add_right _ 3)
  have i2 : p.st.length + 2 < p.st.length + 3 := Nat.lt_succ_self _
  split
  · rename_i hc
    refine FIN (c := 1) h o3.h e3.h cT.h dT.h k3.h gA.h l3.h hn (by rw [e3.h]; exact ⟨i1, i2⟩) rfl (by decide) (fun _ => by rw [← hdl]; exact hc.1) ?_
    show (if d = p.st.length + 2 then gm A d else mixD (gm A d) (gm A (p.st.length + 2))) = .dn ∨ (if d = p.st.length + 2 then gm A d else mixD (gm A d) (gm A (p.st.length + 2))) = .st
    rw [if_neg nd, gd.h, gn.h]
    rcases h8 with e | e <;> rcases g1 with e' | e' <;> rw [e, e'] <;> exact .inl rfl
  · refine FIN (c := 0) h o3.h e3.h cT.h dT.h k3.h gA.h l3.h hn (by rw [e3.h]; exact ⟨i1, i2⟩) rfl (by decide) (fun z => by cases z) ?_
    show mixS (gm A d) (gm A (p.st.length + 2)) = .dn ∨ mixS (gm A d) (gm A (p.st.length + 2)) = .st
    rw [gd.h, gn.h]
    rcases h8 with e | e <;> rcases g1 with e' | e' <;> rw [e, e'] <;> first | exact .inl rfl | exact .inr rfl
theorem mk0_ins : ∀ n i, i < n → gm (mk0 (insM n)) i = .st
  | n + 1, i, h => by
    rw [insM_succ, mk0_app]
    by_cases e : i < n
    · rw [gm_old (by rw [mk0_len, insM_len]; exact e)]
      exact mk0_ins n i e
    · rw [gm_new (by rw [mk0_len, insM_len]; omega)]
      rfl
theorem buM_ok {n : Nat} (hn : 0 < n) (cells : List Int) (b : Nat) : ∀ k, BuOk n k (buM n cells b k)
  | 0 => by
    obtain ⟨a, c⟩ := insM_cost n
    have l := insM_len n
    refine ⟨insM_ok n, l, rfl, ?_, a, ?_, ?_, ?_, mk0_ins n⟩
    · show chcs (insM n) + 6 ≤ 5 + min (0 + 1) 6
      omega
    · show n - 1 < (insM n).length
      omega
    · show n - 1 + 1 = (insM n).length
      omega
    · exact .inr (mk0_ins n (n - 1) (by omega))
  | k + 1 => buS_ok _ hn (buM_ok hn cells b k)
theorem BuOk.okP {n k : Nat} {p : BSt} (h : BuOk n k p) (hn : 0 < n) (hn3 : n ≤ 3) (hk : k ≤ 8) : OkP n p.st := by
  obtain ⟨h1, h2, h3, h4, h5, h6, h7, h8, h9⟩ := h
  refine ⟨hn, hn3, h1, fun z => ?_, by omega, by omega, by omega⟩
  rw [z] at h2
  have : (0 : Nat) = n + 4 * k := h2
  omega
theorem BuOk.last {n k : Nat} {p : BSt} (h : BuOk n k p) : (mk0 p.st).getLastD .lv = .dn ∨ (mk0 p.st).getLastD .lv = .st := by
  rw [last_m, mk0_len]
  have := h.le
  rw [show p.st.length - 1 = p.dn.getLastD 0 from by omega]
  exact h.mrk
end BW

namespace BW
open PySem PySem.Spec PyProof.Rows L2 Evl
local macro_rules | `(tactic| k_offL) => `(tactic| first
  | ((with_reducible show Ed _ (tVar _) _ _); first | exact ed_var rfl | exact ed_varO rfl)
  | (with_reducible exact ed_int)
  | (with_reducible apply ed_op)
  | (with_reducible exact rd_add)
  | (with_reducible exact rd_sub)
  | ((with_reducible show RD _ (xIx _) _ _ _); exact rd_ix rfl)
  | (with_reducible apply rd_mul)
  | (with_reducible exact rd_lt)
  | (with_reducible exact rd_le)
  | (with_reducible exact rd_gt)
  | (with_reducible exact rd_ge)
  | (with_reducible apply rd_div)
  | (with_reducible apply rd_mod)
  | ((with_reducible show RD _ (xEq _) (PyData.str _) _ _); exact rd_eqS (by decide +kernel) (by decide +kernel))
  | ((with_reducible show RD _ (xEq _) _ _ _); exact rd_eqS (by rfl) (by rfl))
  | ((with_reducible show RD _ (xNe _) (PyData.str _) _ _); exact rd_neS (by decide +kernel) (by decide +kernel))
  | ((with_reducible show RD _ (xNe _) _ _ _); exact rd_neS (by rfl) (by rfl))
  | ((with_reducible show RD _ (xIn _) _ _ _); first | exact rd_inT rfl rfl | exact rd_inL rfl rfl)
  | ((with_reducible show RD _ (xNin _) _ _ _); first | exact rd_ninT rfl rfl | exact rd_ninL rfl rfl)
  | (with_reducible exact ed_str)
  | ((with_reducible show Ed _ (tC (V.ref _)) _ _); exact ed_c (by assumption))
  | (with_reducible exact ed_bl)
  | (with_reducible apply et_test)
  | (with_reducible apply et_B)
  | (with_reducible apply et_not)
  | (with_reducible apply et_and')
  | (with_reducible apply et_or')
  | (with_reducible exact ea_nil)
  | (with_reducible apply ea_cons)
  | (with_reducible apply ed_tail)
  | (with_reducible apply ed_tup2)
  | (with_reducible apply ed_tup3)
  | (with_reducible apply ed_tup4)
  | (with_reducible apply ed_tup1)
  | (with_reducible apply ed_lst1)
  | (with_reducible apply ed_lst2)
  | (with_reducible apply ed_lst3)
  | (with_reducible apply ed_andV')
  | (with_reducible apply ed_orV')
  | (with_reducible apply ed_notV)
  | (with_reducible apply ed_neg)
  | (with_reducible apply isi_ii)
  | (with_reducible apply isi_ib)
  | (with_reducible apply isi_tt)
  | (with_reducible apply isi_ll)
  | (with_reducible apply isi_ss)
  | (with_reducible apply ed_len)
  | ((with_reducible show lenD _ = some _); exact rfl)
  | (with_reducible apply ed_abs)
  | (with_reducible apply ed_min)
  | (with_reducible apply ed_chain')
  | (with_reducible apply ed_all)
  | (with_reducible apply ed_sum))
local macro_rules | `(tactic| k_clsL) => `(tactic| repeat (any_goals k_offL))
local macro_rules | `(tactic| k_subL) => `(tactic| first | exact Pl.int _ | exact Pl.bl _ | exact Pl.str _ | exact pl_nm _ | exact pl_bdat _ | (refine Pl.tup ?_; repeat (first | exact PlA.nil | refine PlA.cons (by k_subL) ?_)))
local macro_rules | `(tactic| wtm_at "pre") => `(tactic| first | assumption | omega)
local macro_rules | `(tactic| wtm_at "ev") => `(tactic| (k_clsL; all_goals wtm_at "pre"))
local macro_rules | `(tactic| wtm_at "no") => `(tactic| ((with_reducible refine' q_no (EdT.is ?hb ?hc) ?hd); (case hb => wtm_at "ev"); (case hc => first | decide +kernel | rfl)))
local macro_rules | `(tactic| wtm_at "set") => `(tactic| ((with_reducible refine' q_asg (Ed.eh ?hb ?hc) ?hd); (case hb => wtm_at "ev"); (case hc => k_subL)))
local macro_rules | `(tactic| wtm_at "yes") => `(tactic| ((with_reducible refine' q_yes (EdT.is ?hb ?hc) ?hd); (case hb => wtm_at "ev"); (case hc => first | decide +kernel | rfl)))
local macro_rules | `(tactic| k_offL) => `(tactic| (with_reducible apply ed_is_whole))
local macro_rules | `(tactic| k_offL) => `(tactic| (with_reducible apply ed_common))
local macro_rules | `(tactic| k_offL) => `(tactic| (with_reducible apply ed_is_number))
local macro_rules | `(tactic| k_offL) => `(tactic| (with_reducible apply ed_lowest))
local macro_rules | `(tactic| wtm_at "pre") => `(tactic| first | assumption | omega | exact sm_nd (by assumption) (by assumption) | exact sm_nn (by assumption) (by assumption) | exact sm_dd (by assumption) (by assumption) | exact sm_pre (by assumption) (by assumption))
local macro_rules | `(tactic| k_offL) => `(tactic| (with_reducible apply ed_add))
local macro_rules | `(tactic| k_offL) => `(tactic| (with_reducible apply ed_grow))
local macro_rules | `(tactic| k_offL) => `(tactic| (with_reducible apply ed_lies))
local macro_rules | `(tactic| k_offL) => `(tactic| (with_reducible apply ed_is_ahead))
local macro_rules | `(tactic| k_offL) => `(tactic| ((fail_if_success (with_reducible show RD _ (xIx _) _ PyData.none _)); (with_reducible show RD _ (xIx _) (PyData.list (List.map nm _)) _ _); exact rd_ix (ix_map (by first | assumption | omega))))
local macro_rules | `(tactic| k_offL) => `(tactic| ((with_reducible show RD _ (xEq _) (PyData.tuple [Mk.dat _, Mk.dat _]) _ _); exact rd_eqS (sh_mk2 _ _) (by decide +kernel)))
local macro_rules | `(tactic| k_offL) => `(tactic| ((with_reducible show RD _ (xEq _) (Mk.dat _) _ _); exact rd_eqS (sh_mk _) (by decide +kernel)))
local macro_rules | `(tactic| k_subL) => `(tactic| exact pl_mk _)
local macro_rules | `(tactic| k_offL) => `(tactic| ((fail_if_success (with_reducible show RD _ (xIx _) _ PyData.none _)); (with_reducible show RD _ (xIx _) (PyData.list (List.map Mk.dat _)) _ _); exact rd_ix (ix_mapm (by first | assumption | omega))))
local macro_rules | `(tactic| k_offL) => `(tactic| (with_reducible exact rd_p60))
local macro_rules | `(tactic| k_offL) => `(tactic| (with_reducible exact rd_p18))
local macro_rules | `(tactic| k_offL) => `(tactic| (with_reducible exact rd_p12))
local macro_rules | `(tactic| k_offL) => `(tactic| (with_reducible apply ed_cells))
local macro_rules | `(tactic| k_offL) => `(tactic| (with_reducible apply ed_num))
section
variable {P : Program} {w : World} {K : PySem.W.Frag} {mg : Str → Option Value} {base : Heap}
/-! ### a body -/
theorem rd_eqI {a b : Int} : RD K (xEq K) (.int a) (.int b) (.bool (decide (a = b))) := by
  rw [← eqv_int]
  exact rd_eqS rfl rfl
theorem pla_bdat (l : List BStep) : PlA (l.map BStep.dat) := fun d hd => by
  obtain ⟨s, _, rfl⟩ := List.mem_map.mp hd
  exact pl_bdat s
local macro_rules | `(tactic| k_offL) => `(tactic| (with_reducible exact rd_eqI))
local macro_rules | `(tactic| k_offL) => `(tactic| (with_reducible apply ed_share))
def bodD (n : Int) (t : Nat) : PyData := .tuple [.list ((bodM n t).1.map BStep.dat), .int ((bodM n t).2 : Int)]
def R_body (ds : List PyData) (d : PyData) : Prop := ∃ n : Int, ds = [.int n] ∧ d = bodD n (1 + n % 3).toNat
abbrev s_law_body : Stmt := topS 49
theorem sc_law_body : FnScope ["_law_number_here", "_law_body_here", "_law_choices", "_law_turn", "_law_kind", "_law_long", "_law_other"] ["_law_number_here"] (defScope s_law_body) := ⟨rfl, rfl, rfl, by decide +kernel, rfl, by decide +kernel, by decide +kernel⟩
theorem ok__law_body (T : Tx K mg) (I : DefI K mg "_law_body" s_law_body ["_law_number_here"]) (C__law_share : Cl P w K mg base 2 "_law_share" R_share) : ClF P w K mg base 3 "_law_body" R_body := by
  refine mkF I sc_law_body (fun ds d h => by obtain ⟨a, rfl, _⟩ := h; rfl) (fun f cdv A outer s H E hr ds d h => ?_)
  obtain ⟨n, rfl, rfl⟩ := h
  refine ⟨_, (pss_cons (ps_par (i := 1) (j := 2) rfl sc_law_body.nd rfl rfl (by decide) rfl rfl (pa_cons (pe_lst (pa_cons (pe_tup (pa_cons pe_str (pa_cons pe_int pa_nil))) pa_nil)) (pa_cons pe_int pa_nil)) (by rfl))
    (pss_cons (ps_for PassesOwn.never rfl (pi_range1 rfl T.range (pa_cons (pe_op ox_add pe_int (pe_op ox_mod (pv 0) pe_int)) pa_nil)) (pg_name (i := 3) sc_law_body.nd rfl (Or.inl rfl)) (pss_cons (ps_par (i := 4) (j := 5) rfl sc_law_body.nd rfl rfl (by decide) rfl rfl (pa_cons (pe_op ox_mod (pe_op ox_div (pv 0) (pe_op ox_add pe_int (pv 3))) pe_int) (pa_cons (pe_callB (kx_len (K := K) rfl) (by rfl) T.len bb_len (pa_cons (pv 1) pa_nil)) pa_nil)) (by rfl))
      (pss_cons (ps_set (i := 6) sc_law_body.nd rfl (Or.inl rfl) (pe_op ox_mod (pe_op ox_div (pv 0) (pe_op ox_add pe_int (pv 3))) (pv 5)))
      (pss_one (ps_if (pt_cmpR (kx_eq (K := K) rfl hr.units) (pv 4) pe_int (nomark _)) (pss_one (ps_expr (kbm (K := K) rfl (pe_bm PySem.F.plainAttrs_list PySem.F.slot_list_append PySem.F.type_list_append mt_append (pv 1) (pa_cons (pe_tup (pa_cons pe_str (pa_cons (pc C__law_share hr (by omega) rfl rfl rfl rfl rfl rfl (pa_cons (pe_op ox_div (pv 0) (pe_op ox_add pe_int (pv 3))) (pa_cons pe_int pa_nil))) (pa_cons (pe_op ox_sub (pv 5) pe_int) pa_nil)))) pa_nil))))) (pss_one (ps_if (PW.pt (pw_and (pt_cmpR (kx_eq (K := K) rfl hr.units) (pv 4) pe_int (nomark _)) (pw_and1 (pt_cmpR (kx_eq (K := K) rfl hr.units) (pv 2) pe_int (nomark _))))) (pss_cons (ps_expr (kbm (K := K) rfl (pe_bm PySem.F.plainAttrs_list PySem.F.slot_list_append PySem.F.type_list_append mt_append (pv 1) (pa_cons (pe_tup (pa_cons (pe_ix (kx_ix (K := K) rfl) (pe_tup (pa_cons pe_str (pa_cons pe_str pa_nil))) (pe_op ox_mod (pe_op ox_div (pv 0) pe_int) pe_int) (fun _ _ => rfl)) (pa_cons (pe_op ox_sub (pv 5) pe_int) (pa_cons (pv 6) pa_nil)))) pa_nil))))
          (pss_one (ps_set (i := 2) sc_law_body.nd rfl (Or.inl rfl) pe_int))) (pss_one (ps_if (PW.pt (pw_and (pt_cmpR (kx_eq (K := K) rfl hr.units) (pv 4) pe_int (nomark _)) (pw_and1 (pt_cmpR (kx_eq (K := K) rfl hr.units) (pv 2) pe_int (nomark _))))) (pss_cons (ps_expr (kbm (K := K) rfl (pe_bm PySem.F.plainAttrs_list PySem.F.slot_list_append PySem.F.type_list_append mt_append (pv 1) (pa_cons (pe_tup (pa_cons pe_str (pa_cons (pv 6) (pa_cons (pe_op ox_sub (pv 5) pe_int) (pa_cons (pe_op ox_mod (pe_op ox_div (pv 0) pe_int) (pv 5)) pa_nil))))) pa_nil))))
            (pss_one (ps_set (i := 2) sc_law_body.nd rfl (Or.inl rfl) pe_int))) (pss_one (ps_if (pt_cmpR (kx_eq (K := K) rfl hr.units) (pv 4) pe_int (nomark _)) (pss_one (ps_expr (kbm (K := K) rfl (pe_bm PySem.F.plainAttrs_list PySem.F.slot_list_append PySem.F.type_list_append mt_append (pv 1) (pa_cons (pe_tup (pa_cons pe_str (pa_cons (pe_op ox_sub (pv 5) pe_int) (pa_cons (pv 6) pa_nil)))) pa_nil))))) (pss_one (ps_expr (kbm (K := K) rfl (pe_bm PySem.F.plainAttrs_list PySem.F.slot_list_extend PySem.F.type_list_extend mt_extend (pv 1) (pa_cons (pe_lst (pa_cons (pe_tup (pa_cons pe_str (pa_cons (pc C__law_share hr (by omega) rfl rfl rfl rfl rfl rfl (pa_cons (pe_op ox_div (pv 0) (pe_op ox_add pe_int (pv 3))) (pa_cons pe_int pa_nil))) pa_nil))) (pa_cons (pe_tup (pa_cons pe_str (pa_cons (pe_op ox_sub (pv 5) pe_int) (pa_cons (pv 5) pa_nil)))) pa_nil))) pa_nil))))))))))))))))
    (pss_one (ps_ret (pe_tup (pa_cons (pv 1) (pa_cons (pv 2) pa_nil))))))), fun D q => ?_⟩
  change Go K H [] _ [.dt (.int n), .no, .no, .no, .no, .no, .no]
  refine q_parN (ds := [(BStep.inp 0).dat]) (edn_lst (Ed.a1 (Ed.is (ed_tup2 ed_str ed_int) rfl)) (Nat.le_of_ble_eq_true rfl)) (PlA.cons (pl_bdat _) PlA.nil) (d2 := .int ((0 : Nat) : Int)) ed_int (.int _) ?_
  have b1 := Int.emod_nonneg n (show (3 : Int) ≠ 0 by decide)
  have b2 := Int.emod_lt_of_pos n (show (0 : Int) < 3 by decide)
  refine q_forR (n := 1 + n % 3) (ea_cons (by k_clsL; decide) ea_nil) (by omega) (fun j Γ' => ∃ x1 x2 x3 x4, Γ' = [.dt (.int n), .own ((bodM n j).1.map BStep.dat), .dt (.int ((bodM n j).2 : Int)), x1, x2, x3, x4]) ⟨.no, .no, .no, .no, rfl⟩ ?_ ?_
  · rintro j Γ' hj ⟨x1, x2, x3, x4, rfl⟩
    have B := bod_ok n j
    show Go K H [] _ [.dt (.int n), .own ((bodM n j).1.map BStep.dat), .dt (.int ((bodM n j).2 : Int)), .dt (.int (j : Int)), x2, x3, x4]
    have eM : bodM n (j + 1) = bodS n j (bodM n j) := rfl
    generalize bodM n j = st at B eM ⊢
    have hL := B.ne
    have hle := B.le
    have hlen : lenD (PyData.list (st.1.map BStep.dat)) = some st.1.length := by
      show some _ = some _
      rw [List.length_map]
    have hj3 : j ≤ 3 := by omega
    have d5 : ∀ x : Int, CDivW x (5 + (j : Int)) := fun x => cd_small (by omega)
    have d40 : ∀ x : Int, CDivW x (40 + (j : Int)) := fun x => cd_small (by omega)
    have d9 : ∀ x : Int, CDivW x (9 + (j : Int)) := fun x => cd_small (by omega)
    have d11 : ∀ x : Int, CDivW x (11 + (j : Int)) := fun x => cd_small (by omega)
    have d2 : ∀ x : Int, CDivW x 2 := fun x => cd_small (by decide)
    have d60 : ∀ x : Int, CDivW x 60 := fun x => cd_small (by decide)
    have pL : (0 : Int) < (st.1.length : Int) := by omega
    refine q_par (d1 := .int (n / (5 + (j : Int)) % 6)) (d2 := .int (st.1.length : Int)) (Ed.eh (by k_clsL; exact d5 _; decide) (.int _)) (Ed.eh (ed_len (by k_clsL) hlen) (.int _)) ?_
    refine q_asg (d := .int ((n / (40 + (j : Int)) % (st.1.length : Int)).toNat : Int)) (Ed.eh (Ed.is (by k_clsL; exact d40 _; exact pL) (congrArg PyData.int (toNat_mod _ hL))) (.int _)) ?_
    have hm1 : (st.1.length : Int) - 1 = ((st.1.length - 1 : Nat) : Int) := by omega
    have hlt : (st.1.map BStep.dat).length < 100000 := by
      rw [List.length_map]
      omega
    have fin : ∀ (s : BStep) (c : Nat) (e1 e2 e3 : Sl), bodS n j st = (st.1 ++ [s], c) → ∃ x1 x2 x3 x4, [Sl.dt (.int n), .own (st.1.map BStep.dat ++ [s.dat]), .dt (.int (c : Int)), .dt (.int (j : Int)), e1, e2, e3] = [.dt (.int n), .own ((bodM n (j + 1)).1.map BStep.dat), .dt (.int ((bodM n (j + 1)).2 : Int)), x1, x2, x3, x4] := fun s c e1 e2 e3 h => by
      refine ⟨.dt (.int (j : Int)), e1, e2, e3, ?_⟩
      rw [eM, h, List.map_append]
      rfl
    have c0 : ((st.2 : Int) = 0) ↔ st.2 = 0 := by omega
    by_cases k0 : n / (5 + (j : Int)) % 6 = 0
    · refine go_yes (EdT.is (by k_clsL) (decide_eq_true k0)) ?_
      refine go_app (d := (BStep.scl (share (n / (9 + (j : Int))) ((2 : Nat) : Int)) (st.1.length - 1)).dat) rfl (Ed.is (ed_tup3 ed_str (ed_share (wd := 2) (ea_cons (by k_clsL; exact d9 _) (ea_cons ed_int ea_nil)) (by decide)) (by k_clsL)) (by rw [hm1]; rfl)) (pl_bdat _) hlt (go_nx (fin _ _ _ _ _ ?_))
      unfold bodS
      rw [if_pos k0]
    refine go_no (EdT.is (by k_clsL) (decide_eq_false k0)) ?_
    by_cases k1 : n / (5 + (j : Int)) % 6 = 1 ∧ st.2 = 0
    · refine go_yes (EdT.is (by k_clsL) (by rw [decide_eq_true k1.1, decide_eq_true (c0.mpr k1.2)]; rfl)) ?_
      have hix : ixD (.tuple [.str "least", .str "most"]) (.int (n / 2 % 2)) = some (.str (if n / 2 % 2 = 0 then "least" else "most")) := by
        have h : n / 2 % 2 = 0 ∨ n / 2 % 2 = 1 := by omega
        rcases h with h | h <;> rw [h] <;> rfl
      refine q_app (d := (if n / 2 % 2 = 0 then BStep.mn (st.1.length - 1) (n / (40 + (j : Int)) % (st.1.length : Int)).toNat else .mx (st.1.length - 1) (n / (40 + (j : Int)) % (st.1.length : Int)).toNat).dat) rfl (Ed.is (ed_tup3 (ed_op (ed_tup2 ed_str ed_str) (by k_clsL; exact d2 _; decide) (rd_ix hix)) (by k_clsL) (by k_clsL)) ?_) (pl_bdat _) hlt ?_
      · rw [hm1]
        split <;> rfl
      · refine go_asg (d := .int ((1 : Nat) : Int)) (Ed.eh ed_int (.int _)) (go_nx (fin _ 1 _ _ _ ?_))
        unfold bodS
        rw [if_neg k0, if_pos k1]
    have k1' : (decide (n / (5 + (j : Int)) % 6 = 1) && decide ((st.2 : Int) = 0)) = false := by
      rw [← Bool.decide_and]
      exact decide_eq_false fun z => k1 ⟨z.1, c0.mp z.2⟩
    refine go_no (EdT.is (by k_clsL) k1') ?_
    by_cases k2 : n / (5 + (j : Int)) % 6 = 2 ∧ st.2 = 0
    · refine go_yes (EdT.is (by k_clsL) (by rw [decide_eq_true k2.1, decide_eq_true (c0.mpr k2.2)]; rfl)) ?_
      refine q_app (d := (BStep.ite (n / (40 + (j : Int)) % (st.1.length : Int)).toNat (st.1.length - 1) (n / 60 % (st.1.length : Int)).toNat).dat) rfl (Ed.is (ed_tup4 ed_str (by k_clsL) (by k_clsL) (by k_clsL; exact d60 _; exact pL)) ?_) (pl_bdat _) hlt ?_
      · rw [hm1, toNat_mod (n / 60) hL]
        rfl
      · refine go_asg (d := .int ((1 : Nat) : Int)) (Ed.eh ed_int (.int _)) (go_nx (fin _ 1 _ _ _ ?_))
        unfold bodS
        rw [if_neg k0, if_neg k1, if_pos k2]
    have k2' : (decide (n / (5 + (j : Int)) % 6 = 2) && decide ((st.2 : Int) = 0)) = false := by
      rw [← Bool.decide_and]
      exact decide_eq_false fun z => k2 ⟨z.1, c0.mp z.2⟩
    refine go_no (EdT.is (by k_clsL) k2') ?_
    by_cases k3 : n / (5 + (j : Int)) % 6 = 3
    · refine go_yes (EdT.is (by k_clsL) (decide_eq_true k3)) ?_
      refine go_app (d := (BStep.add (st.1.length - 1) (n / (40 + (j : Int)) % (st.1.length : Int)).toNat).dat) rfl (Ed.is (ed_tup3 ed_str (by k_clsL) (by k_clsL)) (by rw [hm1]; rfl)) (pl_bdat _) hlt (go_nx (fin _ _ _ _ _ ?_))
      unfold bodS
      rw [if_neg k0, if_neg k1, if_neg k2, if_pos k3]
    refine go_no (EdT.is (by k_clsL) (decide_eq_false k3)) ?_
    refine go_ext (es := [(BStep.cst (share (n / (11 + (j : Int))) ((3 : Nat) : Int))).dat, (BStep.add (st.1.length - 1) st.1.length).dat]) rfl (edn_lst (ea_cons (ed_tup2 ed_str (ed_share (wd := 3) (ea_cons (by k_clsL; exact d11 _) (ea_cons ed_int ea_nil)) (by decide))) (ea_cons (Ed.is (ed_tup3 ed_str (by k_clsL) (by k_clsL)) (by rw [hm1]; rfl)) ea_nil)) (Nat.le_of_ble_eq_true rfl)) (PlA.cons (pl_bdat _) (PlA.cons (pl_bdat _) PlA.nil)) (by rw [List.length_map]; show _ + 2 < 100000; omega) (go_nx ⟨.dt (.int (j : Int)), .dt (.int (n / (5 + (j : Int)) % 6)), .dt (.int (st.1.length : Int)), .dt (.int ((n / (40 + (j : Int)) % (st.1.length : Int)).toNat : Int)), ?_⟩)
    rw [eM]
    unfold bodS
    rw [if_neg k0, if_neg k1, if_neg k2, if_neg k3, List.map_append]
    rfl
  · rintro Γ' ⟨x1, x2, x3, x4, rfl⟩
    exact go_retO rfl rfl (pla_bdat _) (.int _) q
section
variable {Γ : List Sl} {ar : TA} {E : XK}
theorem eh_body {n : Int} (h : EdA K ar Γ [.int n]) : Eh K (tCall (spF K R_body) [] E ar) Γ (bodD n (1 + n % 3).toNat) := eh_callF h ⟨n, rfl, rfl⟩
end
end
end BW

namespace BW
open PySem PySem.Spec PyProof.Rows L2 Evl
local macro_rules | `(tactic| k_offL) => `(tactic| first
  | ((with_reducible show Ed _ (tVar _) _ _); first | exact ed_var rfl | exact ed_varO rfl)
  | (with_reducible exact ed_int)
  | (with_reducible apply ed_op)
  | (with_reducible exact rd_add)
  | (with_reducible exact rd_sub)
  | ((with_reducible show RD _ (xIx _) _ _ _); exact rd_ix rfl)
  | (with_reducible apply rd_mul)
  | (with_reducible exact rd_lt)
  | (with_reducible exact rd_le)
  | (with_reducible exact rd_gt)
  | (with_reducible exact rd_ge)
  | (with_reducible apply rd_div)
  | (with_reducible apply rd_mod)
  | ((with_reducible show RD _ (xEq _) (PyData.str _) _ _); exact rd_eqS (by decide +kernel) (by decide +kernel))
  | ((with_reducible show RD _ (xEq _) _ _ _); exact rd_eqS (by rfl) (by rfl))
  | ((with_reducible show RD _ (xNe _) (PyData.str _) _ _); exact rd_neS (by decide +kernel) (by decide +kernel))
  | ((with_reducible show RD _ (xNe _) _ _ _); exact rd_neS (by rfl) (by rfl))
  | ((with_reducible show RD _ (xIn _) _ _ _); first | exact rd_inT rfl rfl | exact rd_inL rfl rfl)
  | ((with_reducible show RD _ (xNin _) _ _ _); first | exact rd_ninT rfl rfl | exact rd_ninL rfl rfl)
  | (with_reducible exact ed_str)
  | ((with_reducible show Ed _ (tC (V.ref _)) _ _); exact ed_c (by assumption))
  | (with_reducible exact ed_bl)
  | (with_reducible apply et_test)
  | (with_reducible apply et_B)
  | (with_reducible apply et_not)
  | (with_reducible apply et_and')
  | (with_reducible apply et_or')
  | (with_reducible exact ea_nil)
  | (with_reducible apply ea_cons)
  | (with_reducible apply ed_tail)
  | (with_reducible apply ed_tup2)
  | (with_reducible apply ed_tup3)
  | (with_reducible apply ed_tup4)
  | (with_reducible apply ed_tup1)
  | (with_reducible apply ed_lst1)
  | (with_reducible apply ed_lst2)
  | (with_reducible apply ed_lst3)
  | (with_reducible apply ed_andV')
  | (with_reducible apply ed_orV')
  | (with_reducible apply ed_notV)
  | (with_reducible apply ed_neg)
  | (with_reducible apply isi_ii)
  | (with_reducible apply isi_ib)
  | (with_reducible apply isi_tt)
  | (with_reducible apply isi_ll)
  | (with_reducible apply isi_ss)
  | (with_reducible apply ed_len)
  | ((with_reducible show lenD _ = some _); exact rfl)
  | (with_reducible apply ed_abs)
  | (with_reducible apply ed_min)
  | (with_reducible apply ed_chain')
  | (with_reducible apply ed_all)
  | (with_reducible apply ed_sum))
local macro_rules | `(tactic| k_clsL) => `(tactic| repeat (any_goals k_offL))
local macro_rules | `(tactic| k_subL) => `(tactic| first | exact Pl.int _ | exact Pl.bl _ | exact Pl.str _ | exact pl_nm _ | exact pl_bdat _ | (refine Pl.tup ?_; repeat (first | exact PlA.nil | refine PlA.cons (by k_subL) ?_)))
local macro_rules | `(tactic| wtm_at "pre") => `(tactic| first | assumption | omega)
local macro_rules | `(tactic| wtm_at "ev") => `(tactic| (k_clsL; all_goals wtm_at "pre"))
local macro_rules | `(tactic| wtm_at "no") => `(tactic| ((with_reducible refine' q_no (EdT.is ?hb ?hc) ?hd); (case hb => wtm_at "ev"); (case hc => first | decide +kernel | rfl)))
local macro_rules | `(tactic| wtm_at "set") => `(tactic| ((with_reducible refine' q_asg (Ed.eh ?hb ?hc) ?hd); (case hb => wtm_at "ev"); (case hc => k_subL)))
local macro_rules | `(tactic| wtm_at "yes") => `(tactic| ((with_reducible refine' q_yes (EdT.is ?hb ?hc) ?hd); (case hb => wtm_at "ev"); (case hc => first | decide +kernel | rfl)))
local macro_rules | `(tactic| k_offL) => `(tactic| (with_reducible apply ed_is_whole))
local macro_rules | `(tactic| k_offL) => `(tactic| (with_reducible apply ed_common))
local macro_rules | `(tactic| k_offL) => `(tactic| (with_reducible apply ed_is_number))
local macro_rules | `(tactic| k_offL) => `(tactic| (with_reducible apply ed_lowest))
local macro_rules | `(tactic| wtm_at "pre") => `(tactic| first | assumption | omega | exact sm_nd (by assumption) (by assumption) | exact sm_nn (by assumption) (by assumption) | exact sm_dd (by assumption) (by assumption) | exact sm_pre (by assumption) (by assumption))
local macro_rules | `(tactic| k_offL) => `(tactic| (with_reducible apply ed_add))
local macro_rules | `(tactic| k_offL) => `(tactic| (with_reducible apply ed_grow))
local macro_rules | `(tactic| k_offL) => `(tactic| (with_reducible apply ed_lies))
local macro_rules | `(tactic| k_offL) => `(tactic| (with_reducible apply ed_is_ahead))
local macro_rules | `(tactic| k_offL) => `(tactic| ((fail_if_success (with_reducible show RD _ (xIx _) _ PyData.none _)); (with_reducible show RD _ (xIx _) (PyData.list (List.map nm _)) _ _); exact rd_ix (ix_map (by first | assumption | omega))))
local macro_rules | `(tactic| k_offL) => `(tactic| ((with_reducible show RD _ (xEq _) (PyData.tuple [Mk.dat _, Mk.dat _]) _ _); exact rd_eqS (sh_mk2 _ _) (by decide +kernel)))
local macro_rules | `(tactic| k_offL) => `(tactic| ((with_reducible show RD _ (xEq _) (Mk.dat _) _ _); exact rd_eqS (sh_mk _) (by decide +kernel)))
local macro_rules | `(tactic| k_subL) => `(tactic| exact pl_mk _)
local macro_rules | `(tactic| k_offL) => `(tactic| ((fail_if_success (with_reducible show RD _ (xIx _) _ PyData.none _)); (with_reducible show RD _ (xIx _) (PyData.list (List.map Mk.dat _)) _ _); exact rd_ix (ix_mapm (by first | assumption | omega))))
local macro_rules | `(tactic| k_offL) => `(tactic| (with_reducible exact rd_p60))
local macro_rules | `(tactic| k_offL) => `(tactic| (with_reducible exact rd_p18))
local macro_rules | `(tactic| k_offL) => `(tactic| (with_reducible exact rd_p12))
local macro_rules | `(tactic| k_offL) => `(tactic| (with_reducible apply ed_cells))
local macro_rules | `(tactic| k_offL) => `(tactic| (with_reducible apply ed_num))
local macro_rules | `(tactic| k_offL) => `(tactic| (with_reducible exact rd_eqI))
local macro_rules | `(tactic| k_offL) => `(tactic| (with_reducible apply ed_share))
section
variable {P : Program} {w : World} {K : PySem.W.Frag} {mg : Str → Option Value} {base : Heap}
/-! ### the program that bulges -/
def nd (k : Nat) : PyData := .int (k : Int)
theorem pla_nd (l : List Nat) : PlA (l.map nd) := fun d hd => by
  obtain ⟨s, _, rfl⟩ := List.mem_map.mp hd
  exact .int _
theorem ix_lastn {l : List Nat} (h : l ≠ []) : ixD (.list (l.map nd)) (.int (-1)) = some (.int (l.getLastD 0 : Int)) := by
  show L2.atI (l.map nd) (-1) = _
  have e := List.dropLast_concat_getLast h
  rw [← e, List.map_append]
  rw [show [l.getLast h].map nd = [nd (l.getLast h)] from rfl, L2.atI_last]
  simp [nd]
theorem cell_at {cs : List Int} {k : Nat} {d : PyData} (h : (cs.map PyData.int)[k]? = some d) : d = .int (gz cs k) ∧ k < cs.length := by
  rw [List.getElem?_map] at h
  cases e : cs[k]? with
  | none =>
    rw [e] at h
    cases h
  | some c =>
    rw [e] at h
    cases h
    refine ⟨?_, (List.getElem?_eq_some_iff.mp e).1⟩
    unfold gz
    rw [List.getD_eq_getElem?_getD, e]
    rfl
/-- the first steps, each an input -/
theorem edn_ins {Γ : List Sl} {ar : TA} {j : Nat} {n : Nat} (h : EdA K ar Γ [.int (n : Int)]) (hn : n ≤ 5) (hj : (wipeG Γ [j])[j]? = some .no) :
    EdN K (tLc (iRng1 ar) (gName j) tYes (tTup (tCons (tC (.str "in")) (tCons (tVar j) tNil))) [j]) Γ ((insM n).map Stp.dat) := by
  refine edn_lcR (n := (n : Int)) _ h (by omega) (by rw [List.length_map, insM_len]; omega) (fun d hd => ?_) (fun σ x => wipe_one j σ x) (fun k o ho => ?_)
  · obtain ⟨s, hs, rfl⟩ := List.mem_map.mp hd
    obtain ⟨k, hk⟩ := List.getElem?_of_mem hs
    obtain ⟨_, rfl⟩ := insM_get hk
    exact pl_bdat (.inp k)
  · rw [List.getElem?_map] at ho
    cases e : (insM n)[k]? with
    | none =>
      rw [e] at ho
      cases ho
    | some s =>
      rw [e] at ho
      cases ho
      obtain ⟨_, rfl⟩ := insM_get e
      refine ed_tup2 ed_str (ed_var ?_)
      have lt := (List.getElem?_eq_some_iff.mp hj).1
      rw [List.getElem?_set]
      simp [lt]
theorem pla_ins (n : Nat) : PlA ((insM n).map Stp.dat) := fun d hd => by
  obtain ⟨s, hs, rfl⟩ := List.mem_map.mp hd
  obtain ⟨k, hk⟩ := List.getElem?_of_mem hs
  obtain ⟨_, rfl⟩ := insM_get hk
  exact pl_bdat (.inp k)
def R_bulg (ds : List PyData) (d : PyData) : Prop := ∃ (sc : List Int) (b n m : Nat), ds = [.list (sc.map .int), .int (b : Int), .int (n : Int), .int (m : Int)] ∧ (b ≤ 20 ∧ 1 ≤ n ∧ n ≤ 3 ∧ 1 ≤ m ∧ m ≤ 14) ∧ d = prg n (buM n (celM m 3 sc) b (celM m 3 sc).length).st
abbrev s_law_bulging : Stmt := topS 52
theorem sc_law_bulging : FnScope ["_law_script", "_law_by_here", "_law_inputs", "_law_most", "_law_cells", "_law_steps", "_law_down", "_law_at", "_law_cell", "_law_number_here", "_law_long", "_law_straight", "_law_kind", "_law_k"] ["_law_script", "_law_by_here", "_law_inputs", "_law_most"] (defScope s_law_bulging) := ⟨rfl, rfl, rfl, by decide +kernel, rfl, by decide +kernel, by decide +kernel⟩
theorem ok__law_bulging (T : Tx K mg) (I : DefI K mg "_law_bulging" s_law_bulging ["_law_script", "_law_by_here", "_law_inputs", "_law_most"]) (C__law_number : Cl P w K mg base 2 "_law_number" R_num) (C__law_share : Cl P w K mg base 2 "_law_share" R_share) : Cl P w K mg base 3 "_law_bulging" R_bulg := by
  refine mkD I sc_law_bulging (fun ds d h => by obtain ⟨a, b, c, e, rfl, _⟩ := h; rfl) (fun f cdv A outer s H E hr ds d h => ?_)
  obtain ⟨sc, b, n, m, rfl, ⟨hb, hn1, hn3, hm1, hm14⟩, rfl⟩ := h
  refine ⟨_, (pss_cons (ps_set (i := 4) sc_law_bulging.nd rfl (Or.inl rfl) (pe_ifExp (pt_cmpR (kx_ne (K := K) rfl hr.units) (pv 0) (pe_lst pa_nil) (nomark _)) (pe_slice (ksl_list (K := K) rfl) (pv 0) po_none (po_some (pv 3))) (pe_lst (pa_cons pe_int pa_nil))))
    (pss_cons (ps_setLc (i := 5) (own := [(("_law_k" : Str), 13)]) rfl sc_law_bulging.nd rfl rfl (sw_true rfl rfl rfl (by decide +kernel)) (pi_range1 rfl T.range (pa_cons (pv 2) pa_nil)) (blkOk_by (own := [(("_law_k" : Str), 13)]) (N := ["_law_script", "_law_by_here", "_law_inputs", "_law_most", "_law_cells", "_law_steps", "_law_down", "_law_at", "_law_cell", "_law_number_here", "_law_long", "_law_straight", "_law_kind", "_law_k"]) (sc := defScope s_law_bulging) (by decide +kernel)) (fun _ _ _ _ _ => pg_name (i := 13) sc_law_bulging.nd rfl (Or.inl rfl)) (fun _ _ _ _ _ => pts_nil) (fun _ _ _ _ _ => pe_tup (pa_cons pe_str (pa_cons (pv 13) pa_nil))))
    (pss_cons (ps_set (i := 6) sc_law_bulging.nd rfl (Or.inl rfl) (pe_lst (pa_cons (pe_op ox_sub (pv 2) pe_int) pa_nil)))
    (pss_cons (ps_for PassesOwn.never rfl (kpi_enum (K := K) rfl rfl T.enumerate (pa_cons (pv 4) pa_nil)) (kpg_tup (K := K) (n := 2) rfl rfl (pgs_cons (pg_name (i := 7) sc_law_bulging.nd rfl (Or.inl rfl)) (pgs_cons (pg_name (i := 8) sc_law_bulging.nd rfl (Or.inl rfl)) pgs_nil))) (pss_cons (ps_set (i := 9) sc_law_bulging.nd rfl (Or.inl rfl) (pc C__law_number hr (by omega) rfl rfl rfl rfl rfl rfl (pa_cons (pv 8) (pa_cons (pe_op ox_add (pv 7) (pv 1)) (pa_cons (pe_callB (kx_len (K := K) rfl) (by rfl) T.len bb_len (pa_cons (pv 4) pa_nil)) pa_nil)))))
      (pss_cons (ps_set (i := 10) sc_law_bulging.nd rfl (Or.inl rfl) (pe_callB (kx_len (K := K) rfl) (by rfl) T.len bb_len (pa_cons (pv 5) pa_nil)))
      (pss_cons (ps_set (i := 11) sc_law_bulging.nd rfl (Or.inl rfl) (pe_op ox_mod (pe_op ox_div (pv 9) pe_int) (pv 2)))
      (pss_cons (ps_expr (kbm (K := K) rfl (pe_bm PySem.F.plainAttrs_list PySem.F.slot_list_append PySem.F.type_list_append mt_append (pv 5) (pa_cons (pe_tup (pa_cons pe_str (pa_cons (pc C__law_share hr (by omega) rfl rfl rfl rfl rfl rfl (pa_cons (pe_op ox_div (pv 9) pe_int) (pa_cons pe_int pa_nil))) (pa_cons (pv 11) pa_nil)))) pa_nil))))
      (pss_cons (ps_expr (kbm (K := K) rfl (pe_bm PySem.F.plainAttrs_list PySem.F.slot_list_append PySem.F.type_list_append mt_append (pv 5) (pa_cons (pe_tup (pa_cons pe_str (pa_cons (pc C__law_share hr (by omega) rfl rfl rfl rfl rfl rfl (pa_cons (pe_op ox_div (pv 9) pe_int) (pa_cons pe_int pa_nil))) pa_nil))) pa_nil))))
      (pss_cons (ps_expr (kbm (K := K) rfl (pe_bm PySem.F.plainAttrs_list PySem.F.slot_list_append PySem.F.type_list_append mt_append (pv 5) (pa_cons (pe_tup (pa_cons pe_str (pa_cons (pv 10) (pa_cons (pe_op ox_add (pv 10) pe_int) pa_nil)))) pa_nil))))
      (pss_cons (ps_set (i := 12) sc_law_bulging.nd rfl (Or.inl rfl) (pe_ifExp (PW.pt (pw_and (pt_cmpR ox_lt (pe_callB (kx_len (K := K) rfl) (by rfl) T.len bb_len (pa_cons (pv 6) pa_nil)) pe_int (nomark _)) (pw_and1 (pt_cmpR ox_gt (pe_op ox_mod (pv 9) pe_int) pe_int (nomark _))))) pe_str pe_str))
      (pss_cons (ps_expr (kbm (K := K) rfl (pe_bm PySem.F.plainAttrs_list PySem.F.slot_list_append PySem.F.type_list_append mt_append (pv 5) (pa_cons (pe_tup (pa_cons (pv 12) (pa_cons (pe_ix (kx_ix (K := K) rfl) (pv 6) (pe_un ux_neg pe_int) (fun _ _ => rfl)) (pa_cons (pe_op ox_add (pv 10) pe_int) pa_nil)))) pa_nil))))
      (pss_one (ps_expr (kbm (K := K) rfl (pe_bm PySem.F.plainAttrs_list PySem.F.slot_list_append PySem.F.type_list_append mt_append (pv 6) (pa_cons (pe_op ox_add (pv 10) pe_int) pa_nil))))))))))))))
    (pss_one (ps_ret (pe_tup (pa_cons (pv 2) (pa_cons (pv 5) pa_nil))))))))), fun D q => ?_⟩
  change Go K H [] _ [.dt (.list (sc.map .int)), .dt (.int (b : Int)), .dt (.int (n : Int)), .dt (.int (m : Int)), .no, .no, .no, .no, .no, .no, .no, .no, .no, .no]
  refine q_asg (d := .list ((celM m 3 sc).map .int)) (Ed.en (by k_clsL) rfl) ?_
  have l1 := celM_len (m := m) (z := 3) (sc := sc) (by omega)
  generalize celM m 3 sc = cs at l1 q ⊢
  refine q_asgN (ds := (insM n).map Stp.dat) (edn_ins (by k_clsL) (by omega) rfl) (pla_ins n) ?_
  refine q_asgN (ds := [n - 1].map nd) (edn_lst (Ed.a1 (Ed.is (d := .int ((n : Int) - 1)) (by k_clsL) (congrArg PyData.int (by omega)))) (Nat.le_of_ble_eq_true rfl)) (pla_nd _) ?_
  refine q_forE (ds := cs.map .int) (eh_var rfl) (fun k Γ' => ∃ x7 x8 x9 x10 x11 x12 x13, Γ' = [.dt (.list (sc.map .int)), .dt (.int (b : Int)), .dt (.int (n : Int)), .dt (.int (m : Int)), .dt (.list (cs.map .int)), .own ((buM n cs b k).st.map Stp.dat), .own ((buM n cs b k).dn.map nd), x7, x8, x9, x10, x11, x12, x13]) ⟨.no, .no, .no, .no, .no, .no, .no, rfl⟩ ?_ ?_
  · rintro k d Γ' G' hd ⟨x7, x8, x9, x10, x11, x12, x13, rfl⟩
    obtain ⟨rfl, hk⟩ := cell_at hd
    have B := buM_ok (n := n) (by omega) cs b k
    have eM : buM n cs b (k + 1) = buS n (qM cs b k) (buM n cs b k) := rfl
    show Go K H G' _ [.dt (.list (sc.map .int)), .dt (.int (b : Int)), .dt (.int (n : Int)), .dt (.int (m : Int)), .dt (.list (cs.map .int)), .own ((buM n cs b k).st.map Stp.dat), .own ((buM n cs b k).dn.map nd), .dt (.int (k : Int)), .dt (.int (gz cs k)), x9, x10, x11, x12, x13]
    generalize buM n cs b k = p at B eM ⊢
    have hl := B.len
    have hdl := B.dl
    have hlc : lenD (PyData.list (cs.map PyData.int)) = some cs.length := by
      show some _ = some _
      rw [List.length_map]
    have hlp : lenD (PyData.list (p.st.map Stp.dat)) = some p.st.length := by
      show some _ = some _
      rw [List.length_map]
    have hld : lenD (PyData.list (p.dn.map nd)) = some p.dn.length := by
      show some _ = some _
      rw [List.length_map]
    refine q_asg (d := .int (qM cs b k)) (Ed.eh (ed_num (ea_cons (by k_clsL) (ea_cons (by k_clsL) (ea_cons (ed_len (by k_clsL) hlc) ea_nil))) (by omega)) (.int _)) ?_
    generalize qM cs b k = z at eM ⊢
    have d3 : ∀ x : Int, CDivW x 3 := fun x => cd_small (by decide)
    have d5 : ∀ x : Int, CDivW x 5 := fun x => cd_small (by decide)
    have d7 : ∀ x : Int, CDivW x 7 := fun x => cd_small (by decide)
    have pn : (0 : Int) < (n : Int) := by omega
    refine q_asg (d := .int (p.st.length : Int)) (Ed.eh (ed_len (by k_clsL) hlp) (.int _)) ?_
    refine q_asg (d := .int ((z / 5 % (n : Int)).toNat : Int)) (Ed.eh (Ed.is (d := .int (z / 5 % (n : Int))) (by k_clsL; exact d5 _; exact pn) (congrArg PyData.int (toNat_mod _ (by omega)))) (.int _)) ?_
    refine q_app (d := (BStep.scl (share (z / 3) ((4 : Nat) : Int)) (z / 5 % (n : Int)).toNat).dat) rfl (Ed.is (ed_tup3 ed_str (ed_share (wd := 4) (ea_cons (by k_clsL; exact d3 _) (ea_cons ed_int ea_nil)) (by decide)) (by k_clsL)) rfl) (pl_bdat _) (by rw [List.length_map]; omega) ?_
    refine q_app (d := (BStep.cst (share (z / 7) ((5 : Nat) : Int))).dat) rfl (Ed.is (ed_tup2 ed_str (ed_share (wd := 5) (ea_cons (by k_clsL; exact d7 _) (ea_cons ed_int ea_nil)) (by decide))) rfl) (pl_bdat _) (by rw [List.length_append, List.length_map]; show _ + 1 < _; omega) ?_
    refine q_app (d := (BStep.add p.st.length (p.st.length + 1)).dat) rfl (Ed.is (ed_tup3 (b := .int (p.st.length : Int)) (c := .int ((p.st.length : Int) + 1)) ed_str (by k_clsL) (by k_clsL)) rfl) (pl_bdat _) (by rw [List.length_append, List.length_append, List.length_map]; show _ + 1 + 1 < _; omega) ?_
    refine q_asg (d := .str (if p.dn.length < 6 ∧ 0 < z % 3 then "most" else "sum")) (Ed.eh (ed_if (b := decide (p.dn.length < 6 ∧ 0 < z % 3)) (EdT.is (et_and' (et_test (ed_op (ed_len (by k_clsL) hld) ed_int rd_lt)) (by k_clsL; decide)) ?_) (fun h => ?_) fun h => ?_) (.str _)) ?_
    · rw [Bool.decide_and, show decide ((p.dn.length : Int) < 6) = decide (p.dn.length < 6) from decide_eq_decide.mpr (by omega)]
    · rw [if_pos (of_decide_eq_true h)]
      exact ed_str
    · rw [if_neg (of_decide_eq_false h)]
      exact ed_str
    have hne : p.dn ≠ [] := fun e => by
      rw [e] at hdl
      cases hdl
    refine q_app (d := (if p.dn.length < 6 ∧ 0 < z % 3 then BStep.mx (p.dn.getLastD 0) (p.st.length + 2) else .add (p.dn.getLastD 0) (p.st.length + 2)).dat) rfl (Ed.is (ed_tup3 (b := .int (p.dn.getLastD 0 : Int)) (c := .int ((p.st.length : Int) + 2)) (by k_clsL) (ed_op (by k_clsL) (by k_clsL) (rd_ix (ix_lastn hne))) (by k_clsL)) ?_) (pl_bdat _) (by rw [List.length_append, List.length_append, List.length_append, List.length_map]; show _ + 1 + 1 + 1 < _; omega) ?_
    · split <;> rfl
    refine go_app (d := nd (p.st.length + 3)) rfl (Ed.is (d := .int ((p.st.length : Int) + 3)) (by k_clsL) rfl) (.int _) (by rw [List.length_map]; omega) (go_nx ⟨.dt (.int (k : Int)), .dt (.int (gz cs k)), .dt (.int z), .dt (.int (p.st.length : Int)), .dt (.int ((z / 5 % (n : Int)).toNat : Int)), .dt (.str (if p.dn.length < 6 ∧ 0 < z % 3 then "most" else "sum")), x13, ?_⟩)
    rw [eM]
    unfold buS
    rw [List.map_append, List.map_append, List.map_append, List.map_append, List.map_append]
    rfl
  · rintro Γ' ⟨x7, x8, x9, x10, x11, x12, x13, rfl⟩
    rw [List.length_map]
    exact go_ret (Ed.is (ed_tup2 (by k_clsL) (by k_clsL)) (by rfl)) q
section
variable {Γ : List Sl} {ar : TA} {E : XK}
theorem ed_bulg {sc : List Int} {b n m : Nat} (h : EdA K ar Γ [.list (sc.map .int), .int (b : Int), .int (n : Int), .int (m : Int)]) (hp : b ≤ 20 ∧ 1 ≤ n ∧ n ≤ 3 ∧ 1 ≤ m ∧ m ≤ 14) : Ed K (tCall (spD K R_bulg) [] E ar) Γ (prg n (buM n (celM m 3 sc) b (celM m 3 sc).length).st) := ed_call h ⟨sc, b, n, m, rfl, hp, rfl⟩
end
end
end BW

namespace BW
open PySem PySem.Spec PyProof.Rows L2 Evl
local macro_rules | `(tactic| k_offL) => `(tactic| first
  | ((with_reducible show Ed _ (tVar _) _ _); first | exact ed_var rfl | exact ed_varO rfl)
  | (with_reducible exact ed_int)
  | (with_reducible apply ed_op)
  | (with_reducible exact rd_add)
  | (with_reducible exact rd_sub)
  | ((with_reducible show RD _ (xIx _) _ _ _); exact rd_ix rfl)
  | (with_reducible apply rd_mul)
  | (with_reducible exact rd_lt)
  | (with_reducible exact rd_le)
  | (with_reducible exact rd_gt)
  | (with_reducible exact rd_ge)
  | (with_reducible apply rd_div)
  | (with_reducible apply rd_mod)
  | ((with_reducible show RD _ (xEq _) (PyData.str _) _ _); exact rd_eqS (by decide +kernel) (by decide +kernel))
  | ((with_reducible show RD _ (xEq _) _ _ _); exact rd_eqS (by rfl) (by rfl))
  | ((with_reducible show RD _ (xNe _) (PyData.str _) _ _); exact rd_neS (by decide +kernel) (by decide +kernel))
  | ((with_reducible show RD _ (xNe _) _ _ _); exact rd_neS (by rfl) (by rfl))
  | ((with_reducible show RD _ (xIn _) _ _ _); first | exact rd_inT rfl rfl | exact rd_inL rfl rfl)
  | ((with_reducible show RD _ (xNin _) _ _ _); first | exact rd_ninT rfl rfl | exact rd_ninL rfl rfl)
  | (with_reducible exact ed_str)
  | ((with_reducible show Ed _ (tC (V.ref _)) _ _); exact ed_c (by assumption))
  | (with_reducible exact ed_bl)
  | (with_reducible apply et_test)
  | (with_reducible apply et_B)
  | (with_reducible apply et_not)
  | (with_reducible apply et_and')
  | (with_reducible apply et_or')
  | (with_reducible exact ea_nil)
  | (with_reducible apply ea_cons)
  | (with_reducible apply ed_tail)
  | (with_reducible apply ed_tup2)
  | (with_reducible apply ed_tup3)
  | (with_reducible apply ed_tup4)
  | (with_reducible apply ed_tup1)
  | (with_reducible apply ed_lst1)
  | (with_reducible apply ed_lst2)
  | (with_reducible apply ed_lst3)
  | (with_reducible apply ed_andV')
  | (with_reducible apply ed_orV')
  | (with_reducible apply ed_notV)
  | (with_reducible apply ed_neg)
  | (with_reducible apply isi_ii)
  | (with_reducible apply isi_ib)
  | (with_reducible apply isi_tt)
  | (with_reducible apply isi_ll)
  | (with_reducible apply isi_ss)
  | (with_reducible apply ed_len)
  | ((with_reducible show lenD _ = some _); exact rfl)
  | (with_reducible apply ed_abs)
  | (with_reducible apply ed_min)
  | (with_reducible apply ed_chain')
  | (with_reducible apply ed_all)
  | (with_reducible apply ed_sum))
local macro_rules | `(tactic| k_clsL) => `(tactic| repeat (any_goals k_offL))
local macro_rules | `(tactic| k_subL) => `(tactic| first | exact Pl.int _ | exact Pl.bl _ | exact Pl.str _ | exact pl_nm _ | exact pl_bdat _ | (refine Pl.tup ?_; repeat (first | exact PlA.nil | refine PlA.cons (by k_subL) ?_)))
local macro_rules | `(tactic| wtm_at "pre") => `(tactic| first | assumption | omega)
local macro_rules | `(tactic| wtm_at "ev") => `(tactic| (k_clsL; all_goals wtm_at "pre"))
local macro_rules | `(tactic| wtm_at "no") => `(tactic| ((with_reducible refine' q_no (EdT.is ?hb ?hc) ?hd); (case hb => wtm_at "ev"); (case hc => first | decide +kernel | rfl)))
local macro_rules | `(tactic| wtm_at "set") => `(tactic| ((with_reducible refine' q_asg (Ed.eh ?hb ?hc) ?hd); (case hb => wtm_at "ev"); (case hc => k_subL)))
local macro_rules | `(tactic| wtm_at "yes") => `(tactic| ((with_reducible refine' q_yes (EdT.is ?hb ?hc) ?hd); (case hb => wtm_at "ev"); (case hc => first | decide +kernel | rfl)))
local macro_rules | `(tactic| k_offL) => `(tactic| (with_reducible apply ed_is_whole))
local macro_rules | `(tactic| k_offL) => `(tactic| (with_reducible apply ed_common))
local macro_rules | `(tactic| k_offL) => `(tactic| (with_reducible apply ed_is_number))
local macro_rules | `(tactic| k_offL) => `(tactic| (with_reducible apply ed_lowest))
local macro_rules | `(tactic| wtm_at "pre") => `(tactic| first | assumption | omega | exact sm_nd (by assumption) (by assumption) | exact sm_nn (by assumption) (by assumption) | exact sm_dd (by assumption) (by assumption) | exact sm_pre (by assumption) (by assumption))
local macro_rules | `(tactic| k_offL) => `(tactic| (with_reducible apply ed_add))
local macro_rules | `(tactic| k_offL) => `(tactic| (with_reducible apply ed_grow))
local macro_rules | `(tactic| k_offL) => `(tactic| (with_reducible apply ed_lies))
local macro_rules | `(tactic| k_offL) => `(tactic| (with_reducible apply ed_is_ahead))
local macro_rules | `(tactic| k_offL) => `(tactic| ((fail_if_success (with_reducible show RD _ (xIx _) _ PyData.none _)); (with_reducible show RD _ (xIx _) (PyData.list (List.map nm _)) _ _); exact rd_ix (ix_map (by first | assumption | omega))))
local macro_rules | `(tactic| k_offL) => `(tactic| ((with_reducible show RD _ (xEq _) (PyData.tuple [Mk.dat _, Mk.dat _]) _ _); exact rd_eqS (sh_mk2 _ _) (by decide +kernel)))
local macro_rules | `(tactic| k_offL) => `(tactic| ((with_reducible show RD _ (xEq _) (Mk.dat _) _ _); exact rd_eqS (sh_mk _) (by decide +kernel)))
local macro_rules | `(tactic| k_subL) => `(tactic| exact pl_mk _)
local macro_rules | `(tactic| k_offL) => `(tactic| ((fail_if_success (with_reducible show RD _ (xIx _) _ PyData.none _)); (with_reducible show RD _ (xIx _) (PyData.list (List.map Mk.dat _)) _ _); exact rd_ix (ix_mapm (by first | assumption | omega))))
local macro_rules | `(tactic| k_offL) => `(tactic| (with_reducible exact rd_p60))
local macro_rules | `(tactic| k_offL) => `(tactic| (with_reducible exact rd_p18))
local macro_rules | `(tactic| k_offL) => `(tactic| (with_reducible exact rd_p12))
local macro_rules | `(tactic| k_offL) => `(tactic| (with_reducible apply ed_cells))
local macro_rules | `(tactic| k_offL) => `(tactic| (with_reducible apply ed_num))
local macro_rules | `(tactic| k_offL) => `(tactic| (with_reducible exact rd_eqI))
local macro_rules | `(tactic| k_offL) => `(tactic| (with_reducible apply ed_share))
section
variable {P : Program} {w : World} {K : PySem.W.Frag} {mg : Str → Option Value} {base : Heap}
/-! ### the drawn program -/
theorem go_nxD {H0 : Hp} {G : List (V × PyData)} {Γ : List Sl} {nx bk ct : L2.St → Hp → Prop} {rt : VK} (h : Go K H0 G nx Γ) : Go K H0 G (Ends.nx { nx := nx, rt := rt, bk := bk, ct := ct }) Γ := h
theorem pl_sb (s : BStep) : Pl (Stp.b s).dat := pl_bdat s
theorem ix_lef (x : Int) : ixD (.tuple [.int 4, .int 2, .int 5, .int 3]) (.int (x % 4)) = some (.int (lefM x)) := by
  unfold lefM
  have h1 := Int.emod_nonneg x (show (4 : Int) ≠ 0 by decide)
  have h2 := Int.emod_lt_of_pos x (show (0 : Int) < 4 by decide)
  have h : x % 4 = 0 ∨ x % 4 = 1 ∨ x % 4 = 2 ∨ x % 4 = 3 := by omega
  rcases h with h | h | h | h <;> rw [h] <;> rfl
def midM (z : Int) (a b c : Nat) : BStep := if z % 9 = 4 then .mn a b else if z % 9 = 5 then .mx a b else .ite b a c
theorem ix_mid {z : Int} (a b c : Nat) (h : 3 < z % 9 ∧ z % 9 < 7) : ixD (.tuple [(BStep.mn a b).dat, (BStep.mx a b).dat, (BStep.ite b a c).dat]) (.int (z % 9 - 4)) = some (midM z a b c).dat := by
  unfold midM
  have h : z % 9 = 4 ∨ z % 9 = 5 ∨ z % 9 = 6 := by omega
  rcases h with h | h | h <;> rw [h] <;> rfl
def R_prog (ds : List PyData) (d : PyData) : Prop := ∃ (sc : List Int) (b n m : Nat), ds = [.list (sc.map .int), .int (b : Int), .int (n : Int), .int (m : Int)] ∧ (b ≤ 20 ∧ 1 ≤ n ∧ n ≤ 3 ∧ 1 ≤ m ∧ m ≤ 14) ∧ d = prg n (prM n (celM m 3 sc) b (celM m 3 sc).length).st
abbrev s_law_program : Stmt := topS 50
theorem sc_law_program : FnScope ["_law_script", "_law_by_here", "_law_inputs", "_law_most", "_law_cells", "_law_left", "_law_room", "_law_steps", "_law_at", "_law_cell", "_law_number_here", "_law_kind", "_law_long", "_law_one", "_law_other", "_law_step", "_law_third", "_law_body_here", "_law_choices", "_law_many", "_law_k"] ["_law_script", "_law_by_here", "_law_inputs", "_law_most"] (defScope s_law_program) := ⟨rfl, rfl, rfl, by decide +kernel, rfl, by decide +kernel, by decide +kernel⟩
theorem ok__law_program (T : Tx K mg) (I : DefI K mg "_law_program" s_law_program ["_law_script", "_law_by_here", "_law_inputs", "_law_most"]) (C__law_number : Cl P w K mg base 3 "_law_number" R_num) (C__law_share : Cl P w K mg base 3 "_law_share" R_share) (C__law_body : ClF P w K mg base 3 "_law_body" R_body) : Cl P w K mg base 4 "_law_program" R_prog := by
  refine mkD I sc_law_program (fun ds d h => by obtain ⟨a, b, c, e, rfl, _⟩ := h; rfl) (fun f cdv A outer s H E hr ds d h => ?_)
  obtain ⟨sc, b, n, m, rfl, ⟨hb, hn1, hn3, hm1, hm14⟩, rfl⟩ := h
  refine ⟨_, (pss_cons (ps_set (i := 4) sc_law_program.nd rfl (Or.inl rfl) (pe_ifExp (pt_cmpR (kx_ne (K := K) rfl hr.units) (pv 0) (pe_lst pa_nil) (nomark _)) (pe_slice (ksl_list (K := K) rfl) (pv 0) po_none (po_some (pv 3))) (pe_lst (pa_cons pe_int pa_nil))))
    (pss_cons (ps_par (i := 5) (j := 6) rfl sc_law_program.nd rfl rfl (by decide) rfl rfl (pa_cons (pe_ix (kx_ix (K := K) rfl) (pe_tup (pa_cons pe_int (pa_cons pe_int (pa_cons pe_int (pa_cons pe_int pa_nil))))) (pe_op ox_mod (pe_op ox_add (pe_callB (kx_sum (K := K) rfl rfl) (by rfl) T.sum bb_sum (pa_cons (pv 4) pa_nil)) (pv 1)) pe_int) (fun _ _ => rfl)) (pa_cons pe_int pa_nil)) (by rfl))
    (pss_cons (ps_setLc (i := 7) (own := [(("_law_k" : Str), 20)]) rfl sc_law_program.nd rfl rfl (sw_true rfl rfl rfl (by decide +kernel)) (pi_range1 rfl T.range (pa_cons (pv 2) pa_nil)) (blkOk_by (own := [(("_law_k" : Str), 20)]) (N := ["_law_script", "_law_by_here", "_law_inputs", "_law_most", "_law_cells", "_law_left", "_law_room", "_law_steps", "_law_at", "_law_cell", "_law_number_here", "_law_kind", "_law_long", "_law_one", "_law_other", "_law_step", "_law_third", "_law_body_here", "_law_choices", "_law_many", "_law_k"]) (sc := defScope s_law_program) (by decide +kernel)) (fun _ _ _ _ _ => pg_name (i := 20) sc_law_program.nd rfl (Or.inl rfl)) (fun _ _ _ _ _ => pts_nil) (fun _ _ _ _ _ => pe_tup (pa_cons pe_str (pa_cons (pv 20) pa_nil))))
    (pss_cons (ps_for PassesOwn.never rfl (kpi_enum (K := K) rfl rfl T.enumerate (pa_cons (pv 4) pa_nil)) (kpg_tup (K := K) (n := 2) rfl rfl (pgs_cons (pg_name (i := 8) sc_law_program.nd rfl (Or.inl rfl)) (pgs_cons (pg_name (i := 9) sc_law_program.nd rfl (Or.inl rfl)) pgs_nil))) (pss_cons (ps_set (i := 10) sc_law_program.nd rfl (Or.inl rfl) (pc C__law_number hr (by omega) rfl rfl rfl rfl rfl rfl (pa_cons (pv 9) (pa_cons (pe_op ox_add (pv 8) (pv 1)) (pa_cons (pe_callB (kx_len (K := K) rfl) (by rfl) T.len bb_len (pa_cons (pv 4) pa_nil)) pa_nil)))))
      (pss_cons (ps_par (i := 11) (j := 12) rfl sc_law_program.nd rfl rfl (by decide) rfl rfl (pa_cons (pe_op ox_mod (pv 10) pe_int) (pa_cons (pe_callB (kx_len (K := K) rfl) (by rfl) T.len bb_len (pa_cons (pv 7) pa_nil)) pa_nil)) (by rfl))
      (pss_cons (ps_par (i := 13) (j := 14) rfl sc_law_program.nd rfl rfl (by decide) rfl rfl (pa_cons (pe_op ox_sub (pe_op ox_sub (pv 12) pe_int) (pe_op ox_mod (pe_op ox_div (pv 10) pe_int) (pe_callB (cx_min rfl) (by rfl) T.min bb_min (pa_cons (pv 12) (pa_cons pe_int pa_nil))))) (pa_cons (pe_op ox_mod (pe_op ox_div (pv 10) pe_int) (pv 12)) pa_nil)) (by rfl))
      (pss_cons (ps_set (i := 15) sc_law_program.nd rfl (Or.inl rfl) (pe_tup (pa_cons pe_str (pa_cons (pv 13) (pa_cons (pv 14) pa_nil)))))
      (pss_cons (ps_if (pt_cmpR (kx_eq (K := K) rfl hr.units) (pv 11) pe_int (nomark _)) (pss_one (ps_set (i := 15) sc_law_program.nd rfl (Or.inl rfl) (pe_tup (pa_cons pe_str (pa_cons (pc C__law_share hr (by omega) rfl rfl rfl rfl rfl rfl (pa_cons (pe_op ox_div (pv 10) pe_int) (pa_cons pe_int pa_nil))) (pa_cons (pv 13) pa_nil)))))) pss_nil)
      (pss_cons (ps_if (pt_cmpR (kx_eq (K := K) rfl hr.units) (pv 11) pe_int (nomark _)) (pss_one (ps_set (i := 15) sc_law_program.nd rfl (Or.inl rfl) (pe_tup (pa_cons pe_str (pa_cons (pc C__law_share hr (by omega) rfl rfl rfl rfl rfl rfl (pa_cons (pe_op ox_div (pv 10) pe_int) (pa_cons pe_int pa_nil))) pa_nil))))) pss_nil)
      (pss_cons (ps_if (PW.pt (pw_and (pt_chain ox_lt ox_lt pe_int (pv 11) pe_int) (pw_and1 (pt_cmpR ox_gt (pv 5) pe_int (nomark _))))) (pss_cons (ps_set (i := 16) sc_law_program.nd rfl (Or.inl rfl) (pe_op ox_mod (pe_op ox_div (pv 10) pe_int) (pv 12)))
        (pss_cons (ps_set (i := 15) sc_law_program.nd rfl (Or.inl rfl) (pe_ix (kx_ix (K := K) rfl) (pe_tup (pa_cons (pe_tup (pa_cons pe_str (pa_cons (pv 13) (pa_cons (pv 14) pa_nil)))) (pa_cons (pe_tup (pa_cons pe_str (pa_cons (pv 13) (pa_cons (pv 14) pa_nil)))) (pa_cons (pe_tup (pa_cons pe_str (pa_cons (pv 14) (pa_cons (pv 13) (pa_cons (pv 16) pa_nil))))) pa_nil)))) (pe_op ox_sub (pv 11) pe_int) (fun _ _ => rfl)))
        (pss_one (ps_set (i := 5) sc_law_program.nd rfl (Or.inl rfl) (pe_op ox_sub (pv 5) pe_int))))) pss_nil)
      (pss_cons (ps_if (pt_cmpR (kx_eq (K := K) rfl hr.units) (pv 11) pe_int (nomark _)) (pss_cons (ps_asg (pcF C__law_body hr (by omega) rfl rfl rfl rfl rfl rfl (pa_cons (pe_op ox_div (pv 10) pe_int) pa_nil)) (kpg_tup (K := K) (n := 2) rfl rfl (pgs_cons (pg_name (i := 17) sc_law_program.nd rfl (Or.inl rfl)) (pgs_cons (pg_name (i := 18) sc_law_program.nd rfl (Or.inl rfl)) pgs_nil))))
        (pss_cons (ps_set (i := 19) sc_law_program.nd rfl (Or.inl rfl) (pe_op ox_mod (pe_op ox_div (pv 10) pe_int) pe_int))
        (pss_cut (ps_if (PW.pt (pw_or (pt_cmpR ox_gt (pe_op ox_mul (pv 19) (pv 18)) (pv 5) (nomark _)) (pw_or1 (pt_cmpR ox_gt (pe_op ox_mul (pv 19) (pe_callB (kx_len (K := K) rfl) (by rfl) T.len bb_len (pa_cons (pv 17) pa_nil))) (pv 6) (nomark _))))) (pss_one (ps_set (i := 19) sc_law_program.nd rfl (Or.inl rfl) pe_int)) pss_nil)
        (pss_cons (ps_set (i := 15) sc_law_program.nd rfl (Or.inl rfl) (pe_tup (pa_cons pe_str (pa_cons (pv 19) (pa_cons (pv 13) (pa_cons (pv 17) pa_nil))))))
        (pss_one (ps_par (i := 5) (j := 6) rfl sc_law_program.nd rfl rfl (by decide) rfl rfl (pa_cons (pe_op ox_sub (pv 5) (pe_op ox_mul (pv 19) (pv 18))) (pa_cons (pe_op ox_sub (pv 6) (pe_op ox_mul (pv 19) (pe_callB (kx_len (K := K) rfl) (by rfl) T.len bb_len (pa_cons (pv 17) pa_nil)))) pa_nil)) (by rfl))))))) pss_nil)
      (pss_one (ps_expr (kbm (K := K) rfl (pe_bm PySem.F.plainAttrs_list PySem.F.slot_list_append PySem.F.type_list_append mt_append (pv 7) (pa_cons (pv 15) pa_nil))))))))))))))
    (pss_one (ps_ret (pe_tup (pa_cons (pv 2) (pa_cons (pv 7) pa_nil))))))))), fun D q => ?_⟩
  change Go K H [] _ [.dt (.list (sc.map .int)), .dt (.int (b : Int)), .dt (.int (n : Int)), .dt (.int (m : Int)), .no, .no, .no, .no, .no, .no, .no, .no, .no, .no, .no, .no, .no, .no, .no, .no, .no]
  refine q_asg (d := .list ((celM m 3 sc).map .int)) (Ed.en (by k_clsL) rfl) ?_
  have l1 := celM_len (m := m) (z := 3) (sc := sc) (by omega)
  generalize celM m 3 sc = cs at l1 q ⊢
  refine q_par (d1 := .int (lefM (cs.sum + (b : Int)))) (d2 := .int 50) (Ed.eh (ed_op (ed_tup4 ed_int ed_int ed_int ed_int) (ed_op (ed_op (ed_sum (ns := cs) (by k_clsL)) (by k_clsL) rd_add) ed_int (rd_mod (by decide))) (rd_ix (ix_lef _))) (.int _)) (Ed.eh ed_int (.int _)) ?_
  refine q_asgN (ds := (insM n).map Stp.dat) (edn_ins (by k_clsL) (by omega) rfl) (pla_ins n) ?_
  refine q_forE (ds := cs.map .int) (eh_var rfl) (fun k Γ' => ∃ x8 x9 x10 x11 x12 x13 x14 x15 x16 x17 x18 x19 x20, Γ' = [.dt (.list (sc.map .int)), .dt (.int (b : Int)), .dt (.int (n : Int)), .dt (.int (m : Int)), .dt (.list (cs.map .int)), .dt (.int (prM n cs b k).left), .dt (.int (prM n cs b k).room), .own ((prM n cs b k).st.map Stp.dat), x8, x9, x10, x11, x12, x13, x14, x15, x16, x17, x18, x19, x20]) ⟨.no, .no, .no, .no, .no, .no, .no, .no, .no, .no, .no, .no, .no, rfl⟩ ?_ ?_
  · rintro k d Γ' G' hd ⟨x8, x9, x10, x11, x12, x13, x14, x15, x16, x17, x18, x19, x20, rfl⟩
    obtain ⟨rfl, hk⟩ := cell_at hd
    have B := prM_ok (n := n) (by omega) cs b k
    have eM : prM n cs b (k + 1) = prS (qM cs b k) (prM n cs b k) := rfl
    show Go K H G' _ [.dt (.list (sc.map .int)), .dt (.int (b : Int)), .dt (.int (n : Int)), .dt (.int (m : Int)), .dt (.list (cs.map .int)), .dt (.int (prM n cs b k).left), .dt (.int (prM n cs b k).room), .own ((prM n cs b k).st.map Stp.dat), .dt (.int (k : Int)), .dt (.int (gz cs k)), x10, x11, x12, x13, x14, x15, x16, x17, x18, x19, x20]
    generalize prM n cs b k = p at B eM ⊢
    have hl := B.len
    have hL : 0 < p.st.length := by omega
    have hlc : lenD (PyData.list (cs.map PyData.int)) = some cs.length := by
      show some _ = some _
      rw [List.length_map]
    have hlp : lenD (PyData.list (p.st.map Stp.dat)) = some p.st.length := by
      show some _ = some _
      rw [List.length_map]
    refine q_asg (d := .int (qM cs b k)) (Ed.eh (ed_num (ea_cons (by k_clsL) (ea_cons (by k_clsL) (ea_cons (ed_len (by k_clsL) hlc) ea_nil))) (by omega)) (.int _)) ?_
    generalize qM cs b k = z at eM ⊢
    have dv : ∀ (j x : Int), 0 < j ∧ j ≤ 1000000 → CDivW x j := fun j x h => cd_small h
    have pL : (0 : Int) < (p.st.length : Int) := by omega
    refine q_par (d1 := .int (z % 9)) (d2 := .int (p.st.length : Int)) (Ed.eh (by k_clsL; decide) (.int _)) (Ed.eh (ed_len (by k_clsL) hlp) (.int _)) ?_
    have hone := oneM_is z hL
    refine q_par (d1 := .int (oneM z p.st.length : Int)) (d2 := .int ((z / 30 % (p.st.length : Int)).toNat : Int)) (Ed.eh (Ed.is (ed_op (by k_clsL) (ed_op (y := .int (if (2 : Int) < (p.st.length : Int) then 2 else (p.st.length : Int))) (by k_clsL; exact dv _ _ (by decide)) (ed_min (by k_clsL) (by k_clsL)) (rd_mod (by split <;> omega))) rd_sub) (congrArg PyData.int hone.1)) (.int _)) (Ed.eh (Ed.is (d := .int (z / 30 % (p.st.length : Int))) (by k_clsL; exact dv _ _ (by decide); exact pL) (congrArg PyData.int (toNat_mod _ hL))) (.int _)) ?_
    refine q_asg (d := (BStep.add (oneM z p.st.length) (z / 30 % (p.st.length : Int)).toNat).dat) (Ed.eh (Ed.is (ed_tup3 ed_str (by k_clsL) (by k_clsL)) rfl) (pl_bdat _)) ?_
    have hlt : (p.st.map Stp.dat).length < 100000 := by
      rw [List.length_map]
      omega
    have fin : ∀ (l r : Int) (S : Stp) (x8 x9 x10 x11 x12 x13 x14 x15 x16 x17 x18 x19 x20 : Sl), prS z p = ⟨l, r, p.st ++ [S]⟩ → ∃ y8 y9 y10 y11 y12 y13 y14 y15 y16 y17 y18 y19 y20, [Sl.dt (.list (sc.map .int)), .dt (.int (b : Int)), .dt (.int (n : Int)), .dt (.int (m : Int)), .dt (.list (cs.map .int)), .dt (.int l), .dt (.int r), .own (p.st.map Stp.dat ++ [S.dat]), x8, x9, x10, x11, x12, x13, x14, x15, x16, x17, x18, x19, x20] = [.dt (.list (sc.map .int)), .dt (.int (b : Int)), .dt (.int (n : Int)), .dt (.int (m : Int)), .dt (.list (cs.map .int)), .dt (.int (prM n cs b (k + 1)).left), .dt (.int (prM n cs b (k + 1)).room), .own ((prM n cs b (k + 1)).st.map Stp.dat), y8, y9, y10, y11, y12, y13, y14, y15, y16, y17, y18, y19, y20] := fun l r S x8 x9 x10 x11 x12 x13 x14 x15 x16 x17 x18 x19 x20 h => by
      refine ⟨x8, x9, x10, x11, x12, x13, x14, x15, x16, x17, x18, x19, x20, ?_⟩
      rw [eM, h, List.map_append]
      rfl
    by_cases k2 : z % 9 = 2
    · refine q_yesA (d := (Stp.b (.scl (share (z / 11) ((3 : Nat) : Int)) (oneM z p.st.length))).dat) (EdT.is (by k_clsL) (decide_eq_true k2)) (Ed.eh (Ed.is (ed_tup3 ed_str (ed_share (wd := 3) (ea_cons (by k_clsL; exact dv _ _ (by decide)) (ea_cons ed_int ea_nil)) (by decide)) (by k_clsL)) rfl) (pl_sb _)) ?_
      refine q_no (EdT.is (by k_clsL) (decide_eq_false (by omega))) ?_
      refine q_no (EdT.is (by k_clsL) (by rw [← Bool.decide_and, ← Bool.decide_and]; exact decide_eq_false (by omega))) ?_
      refine q_no (EdT.is (by k_clsL) (decide_eq_false (by omega))) ?_
      refine go_appH (d := (Stp.b (.scl (share (z / 11) ((3 : Nat) : Int)) (oneM z p.st.length))).dat) rfl (eh_var rfl) hlt (go_nx (fin _ _ _ _ _ _ _ _ _ _ _ _ _ _ _ _ ?_))
      unfold prS
      rw [if_pos k2]
    refine q_no (EdT.is (by k_clsL) (decide_eq_false k2)) ?_
    by_cases k3 : z % 9 = 3
    · refine q_yesA (d := (Stp.b (.cst (share (z / 13) ((5 : Nat) : Int)))).dat) (EdT.is (by k_clsL) (decide_eq_true k3)) (Ed.eh (Ed.is (ed_tup2 ed_str (ed_share (wd := 5) (ea_cons (by k_clsL; exact dv _ _ (by decide)) (ea_cons ed_int ea_nil)) (by decide))) rfl) (pl_sb _)) ?_
      refine q_no (EdT.is (by k_clsL) (by rw [← Bool.decide_and, ← Bool.decide_and]; exact decide_eq_false (by omega))) ?_
      refine q_no (EdT.is (by k_clsL) (decide_eq_false (by omega))) ?_
      refine go_appH (d := (Stp.b (.cst (share (z / 13) ((5 : Nat) : Int)))).dat) rfl (eh_var rfl) hlt (go_nx (fin _ _ _ _ _ _ _ _ _ _ _ _ _ _ _ _ ?_))
      unfold prS
      rw [if_neg k2, if_pos k3]
    refine q_no (EdT.is (by k_clsL) (decide_eq_false k3)) ?_
    by_cases k4 : 3 < z % 9 ∧ z % 9 < 7 ∧ 0 < p.left
    · refine q_yes (EdT.is (by k_clsL) (by rw [← Bool.decide_and, ← Bool.decide_and]; exact decide_eq_true (by omega))) ?_
      refine q_asg (d := .int ((z / 300 % (p.st.length : Int)).toNat : Int)) (Ed.eh (Ed.is (d := .int (z / 300 % (p.st.length : Int))) (by k_clsL; exact dv _ _ (by decide); exact pL) (congrArg PyData.int (toNat_mod _ hL))) (.int _)) ?_
      refine q_asg (d := (Stp.b (midM z (oneM z p.st.length) (z / 30 % (p.st.length : Int)).toNat (z / 300 % (p.st.length : Int)).toNat)).dat) (Ed.eh (ed_op (ed_tup3 (ed_tup3 ed_str (by k_clsL) (by k_clsL)) (ed_tup3 ed_str (by k_clsL) (by k_clsL)) (ed_tup4 ed_str (by k_clsL) (by k_clsL) (by k_clsL))) (by k_clsL) (rd_ix (ix_mid (oneM z p.st.length) (z / 30 % (p.st.length : Int)).toNat (z / 300 % (p.st.length : Int)).toNat ⟨k4.1, k4.2.1⟩))) (pl_sb _)) ?_
      refine go_asg (d := .int (p.left - 1)) (Ed.eh (by k_clsL) (.int _)) ?_
      refine go_nxD ?_
      refine q_no (EdT.is (by k_clsL) (decide_eq_false (by omega))) ?_
      refine go_appH (d := (Stp.b (midM z (oneM z p.st.length) (z / 30 % (p.st.length : Int)).toNat (z / 300 % (p.st.length : Int)).toNat)).dat) rfl (eh_var rfl) hlt (go_nx (fin _ _ _ _ _ _ _ _ _ _ _ _ _ _ _ _ ?_))
      unfold prS
      rw [if_neg k2, if_neg k3, if_pos k4]
      rfl
    refine q_no (EdT.is (by k_clsL) (by rw [← Bool.decide_and, ← Bool.decide_and]; exact decide_eq_false (by omega))) ?_
    by_cases k7 : z % 9 = 7
    · refine q_yes (EdT.is (by k_clsL) (decide_eq_true k7)) ?_
      have BB := bod_ok (z / 17) (1 + z / 17 % 3).toNat
      have hbl : lenD (PyData.list ((bodR z).1.map BStep.dat)) = some (bodR z).1.length := by
        show some _ = some _
        rw [List.length_map]
      change BodOk _ (bodR z) at BB
      have t3 : (1 + z / 17 % 3).toNat ≤ 3 := by
        have := Int.emod_lt_of_pos (z / 17) (show (0 : Int) < 3 by decide)
        omega
      have B3 := BB.le
      have B5 := BB.c1
      have b1 := Int.emod_nonneg (z / 5) (show (4 : Int) ≠ 0 by decide)
      have b2 := Int.emod_lt_of_pos (z / 5) (show (0 : Int) < 4 by decide)
      refine q_pair (d1 := .list ((bodR z).1.map BStep.dat)) (d2 := .int ((bodR z).2 : Int)) (eh_body (n := z / 17) (by k_clsL; exact dv _ _ (by decide))) ?_
      refine q_asg (d := .int (z / 5 % 4)) (Ed.eh (by k_clsL; exact dv _ _ (by decide); decide) (.int _)) ?_
      have sm : ∀ x : Int, x.natAbs ≤ 10 → x.natAbs < 2 ^ 64 := fun x h => lt_2 11 (by omega) (by decide)
      have sm' : ∀ x : Int, x.natAbs ≤ 10 → x.natAbs < 2 ^ 700 := fun x h => lt_2 11 (by omega) (by decide)
      refine go_cut (fun Γ' => Γ' = [.dt (.list (sc.map .int)), .dt (.int (b : Int)), .dt (.int (n : Int)), .dt (.int (m : Int)), .dt (.list (cs.map .int)), .dt (.int p.left), .dt (.int p.room), .own (p.st.map Stp.dat), .dt (.int (k : Int)), .dt (.int (gz cs k)), .dt (.int z), .dt (.int (z % 9)), .dt (.int (p.st.length : Int)), .dt (.int (oneM z p.st.length : Int)), .dt (.int ((z / 30 % (p.st.length : Int)).toNat : Int)), .dt (BStep.add (oneM z p.st.length) (z / 30 % (p.st.length : Int)).toNat).dat, x16, .dt (.list ((bodR z).1.map BStep.dat)), .dt (.int ((bodR z).2 : Int)), .dt (.int (manM z p.left p.room : Int)), x20]) ?_ ?_
      · refine go_if (b := decide (z / 5 % 4 * ((bodR z).2 : Int) > p.left ∨ z / 5 % 4 * ((bodR z).1.length : Int) > p.room)) (EdT.is (et_or' (by k_clsL; exact cm_small (sm _ (by omega)) (sm' _ (by omega))) (et_test (ed_op (ed_op (by k_clsL) (ed_len (by k_clsL) hbl) (rd_mul (cm_small (sm _ (by omega)) (sm' _ (by omega))))) (by k_clsL) rd_gt))) ?_) (fun h => ?_) fun h => ?_
        · rw [← Bool.decide_or]
        · have h := of_decide_eq_true h
          have e : manM z p.left p.room = 0 := if_pos h
          rw [e]
          exact go_asg (d := .int ((0 : Nat) : Int)) (Ed.eh ed_int (.int _)) (go_nx rfl)
        · have h := of_decide_eq_false h
          have e : (manM z p.left p.room : Int) = z / 5 % 4 := by
            unfold manM
            rw [if_neg h]
            omega
          rw [e]
          exact go_next (go_nx rfl)
      rintro Γ' rfl
      have hm3 : manM z p.left p.room ≤ 3 := by
        unfold manM
        split <;> omega
      refine q_asg (d := (Stp.turns (manM z p.left p.room) (oneM z p.st.length) (bodR z).1).dat) (eh_tup (eha_cons (Ed.eh ed_str (.str _)) (eha_cons (Ed.eh (by k_clsL) (.int _)) (eha_cons (Ed.eh (by k_clsL) (.int _)) (eha_cons (eh_var rfl) eha_nil)))) (Nat.le_of_ble_eq_true rfl)) ?_
      refine go_par (d1 := .int (p.left - (manM z p.left p.room : Int) * ((bodR z).2 : Int))) (d2 := .int (p.room - (manM z p.left p.room : Int) * ((bodR z).1.length : Int))) (Ed.eh (by k_clsL; exact cm_small (sm _ (by omega)) (sm' _ (by omega))) (.int _)) (Ed.eh (ed_op (by k_clsL) (ed_op (by k_clsL) (ed_len (by k_clsL) hbl) (rd_mul (cm_small (sm _ (by omega)) (sm' _ (by omega))))) rd_sub) (.int _)) ?_
      refine go_nxD ?_
      refine go_appH (d := (Stp.turns (manM z p.left p.room) (oneM z p.st.length) (bodR z).1).dat) rfl (eh_var rfl) hlt (go_nx (fin _ _ _ _ _ _ _ _ _ _ _ _ _ _ _ _ ?_))
      unfold prS
      rw [if_neg k2, if_neg k3, if_neg k4, if_pos k7]
    refine q_no (EdT.is (by k_clsL) (decide_eq_false k7)) ?_
    refine go_appH (d := (Stp.b (.add (oneM z p.st.length) (z / 30 % (p.st.length : Int)).toNat)).dat) rfl (eh_var rfl) hlt (go_nx (fin _ _ _ _ _ _ _ _ _ _ _ _ _ _ _ _ ?_))
    unfold prS
    rw [if_neg k2, if_neg k3, if_neg k4, if_neg k7]
  · rintro Γ' ⟨x8, x9, x10, x11, x12, x13, x14, x15, x16, x17, x18, x19, x20, rfl⟩
    rw [List.length_map]
    exact go_ret (Ed.is (ed_tup2 (by k_clsL) (by k_clsL)) (by rfl)) q
section
variable {Γ : List Sl} {ar : TA} {E : XK}
theorem ed_prog {sc : List Int} {b n m : Nat} (h : EdA K ar Γ [.list (sc.map .int), .int (b : Int), .int (n : Int), .int (m : Int)]) (hp : b ≤ 20 ∧ 1 ≤ n ∧ n ≤ 3 ∧ 1 ≤ m ∧ m ≤ 14) : Ed K (tCall (spD K R_prog) [] E ar) Γ (prg n (prM n (celM m 3 sc) b (celM m 3 sc).length).st) := ed_call h ⟨sc, b, n, m, rfl, hp, rfl⟩
end
end
end BW

namespace BW
open PySem PySem.Spec PyProof.Rows L2 Evl
/-! ### between two places -/
theorem add_sm {p q : Rat} {m n : Nat} (hp : Sm m p) (hq : Sm n q) : Sm (m + n + 1) (p + q) := by
  rw [add_low]
  have h1 : (p.num * (q.den : Int)).natAbs < 2 ^ (m + n) := by
    rw [Int.natAbs_mul, Int.natAbs_natCast]
    exact nat_mul_lt hp.1 hq.2
  have h2 : (q.num * (p.den : Int)).natAbs < 2 ^ (m + n) := by
    rw [Int.natAbs_mul, Int.natAbs_natCast, Nat.add_comm m n]
    exact nat_mul_lt hq.1 hp.2
  have h3 : ((p.den : Int) * (q.den : Int)).natAbs < 2 ^ (m + n) := by
    rw [Int.natAbs_mul, Int.natAbs_natCast, Int.natAbs_natCast]
    exact nat_mul_lt hp.2 hq.2
  have e : 2 ^ (m + n + 1) = 2 ^ (m + n) + 2 ^ (m + n) := by rw [Nat.pow_succ]; omega
  refine low_sm (Int.mul_pos (den_pos' p) (den_pos' q)) ?_ ?_ <;> rw [e] <;> omega
def FewA (l : List Rat) : Prop := ∀ q ∈ l, Few 1000000000000 q
theorem few_zero (n : Nat) : Few n 0 := by
  have b0 : (0 : Rat) ≤ (n : Rat) := Rat.natCast_nonneg
  exact ⟨⟨0, by rw [Rat.zero_mul]; rfl⟩, by grind, b0⟩
theorem FewA.get {l : List Rat} (h : FewA l) (i : Nat) : Few 1000000000000 (gq l i) := by
  unfold gq
  rw [List.getD_eq_getElem?_getD]
  cases e : l[i]? with
  | none => exact few_zero _
  | some q => exact h q (List.mem_of_getElem? e)
theorem FewA.all {l : List Rat} (h : FewA l) : AllB 0 l := fun i => bd_few (h.get i) (by decide)
theorem plsM_few (cells : List Int) (b n : Nat) : FewA (plsM cells b n) := fun q hq => by
  obtain ⟨k, _, rfl⟩ := List.mem_map.mp hq
  exact (share_few _ _).mono (widM_le _)
def mixM (t : Rat) (pa pb : List Rat) : List Rat := List.zipWith (fun a b => (1 - t) * a + t * b) pa pb
theorem gq_mix {t : Rat} {pa pb : List Rat} (h : pa.length = pb.length) (i : Nat) : gq (mixM t pa pb) i = (1 - t) * gq pa i + t * gq pb i := by
  unfold gq mixM
  rw [List.getD_eq_getElem?_getD, List.getD_eq_getElem?_getD, List.getD_eq_getElem?_getD, List.getElem?_zipWith]
  by_cases lt : i < pa.length
  · rw [List.getElem?_eq_getElem lt, List.getElem?_eq_getElem (show i < pb.length by omega)]
    rfl
  · rw [List.getElem?_eq_none (by omega), List.getElem?_eq_none (show pb.length ≤ i by omega)]
    show (0 : Rat) = (1 - t) * 0 + t * 0
    grind
/-- a bit of the way -/
structure Bit (t : Rat) : Prop where
  h0 : 0 < t
  h1 : t < 1
  w : Wh (t * 66)
theorem Bit.rest {t : Rat} (h : Bit t) : Bit (1 - t) := by
  obtain ⟨h0, h1, w⟩ := h
  refine ⟨by grind, by grind, ?_⟩
  have e : (1 - t) * 66 = 66 + -(t * 66) := by grind
  rw [e]
  exact (Wh.nat 66).add w.neg
theorem Bit.sm {t : Rat} (h : Bit t) : Sm 7 t := by
  obtain ⟨h0, h1, w⟩ := h
  have d := den_dvd (n := 66) w
  have dl := Nat.le_of_dvd (by decide) d
  have a := (Rat.lt_iff 0 t).mp h0
  have b := (Rat.lt_iff t 1).mp h1
  have a' : 0 * (t.den : Int) < t.num * 1 := a
  have b' : t.num * 1 < 1 * (t.den : Int) := b
  refine ⟨?_, ?_⟩
  · show t.num.natAbs < 128
    omega
  · show t.den < 128
    omega
theorem bd_mix {t a b : Rat} (h : Bit t) (ha : Few 1000000000000 a) (hb : Few 1000000000000 b) : Bd 0 ((1 - t) * a + t * b) := by
  obtain ⟨h0, h1, w⟩ := h
  obtain ⟨a1, a2, a3⟩ := ha
  obtain ⟨b1, b2, b3⟩ := hb
  have B := bn_pos 0
  have e1 : ((1000000000000 : Nat) : Rat) = 1000000000000 := rfl
  rw [e1] at a2 a3 b2 b3
  have m1 := Rat.mul_nonneg (show 0 ≤ 1 - t by grind) (show 0 ≤ (Bn 0 : Rat) - a by grind)
  have m2 := Rat.mul_nonneg (show 0 ≤ t by grind) (show 0 ≤ (Bn 0 : Rat) - b by grind)
  have m3 := Rat.mul_nonneg (show 0 ≤ 1 - t by grind) (show 0 ≤ (Bn 0 : Rat) + a by grind)
  have m4 := Rat.mul_nonneg (show 0 ≤ t by grind) (show 0 ≤ (Bn 0 : Rat) + b by grind)
  refine ⟨?_, by grind, by grind⟩
  have e : ((1 - t) * a + t * b) * (Dn 0 : Rat) = (66 + -(t * 66)) * (a * 6) + (t * 66) * (b * 6) := by
    show ((1 - t) * a + t * b) * (396 : Rat) = _
    grind
  rw [e]
  exact (((Wh.nat 66).add w.neg).mul a1).add (w.mul b1)
theorem mixM_bd {t : Rat} {pa pb : List Rat} (h : Bit t) (ha : FewA pa) (hb : FewA pb) (hl : pa.length = pb.length) : AllB 0 (mixM t pa pb) := fun i => by
  rw [gq_mix hl]
  exact bd_mix h (ha.get i) (hb.get i)
theorem wtop_sm {n : Nat} {l : List Stp} {pl : List Rat} (o : OkP n l) (hp : AllB 0 pl) (i : Nat) : Sm 1400 (gq (wos inn0 pl l) i) := by
  have h := wos_bd (iw := inn0) (l := l) (fun s hs => ⟨o.ok.each s hs, by
    obtain ⟨n', a, hs'⟩ := o.ok.each s hs
    exact inB_inn hs'⟩) hp i
  exact bd_sm h (by have := o.run; omega)
/-- what the marks say, as the program asks it -/
def Say (m : Mk) (a b md ln : Rat) : Prop := match m with
  | .lv => a = b ∧ md = ln
  | .st => md = ln
  | .dn => md ≤ ln
  | .up => ln ≤ md
  | .no => True
theorem eqv_nm (x : Rat) : PyData.eqv (nm x) (nm x) = true := by
  show ((x.num == x.num) && (((x.den : Int) == (x.den : Int)) && true)) = true
  rw [beq_self_eq_true, beq_self_eq_true]
  rfl
theorem say_one {m : Mk} {a b md ln : Rat} (h : Say m a b md ln) : (PyData.eqv m.dat (.str "down") && decide (ln < md) || PyData.eqv m.dat (.str "up") && decide (md < ln)) = false := by
  have e1 : PyData.eqv m.dat (.str "down") = decide (m = .dn) := eqv_dn m
  have e2 : PyData.eqv m.dat (.str "up") = decide (m = .up) := by cases m <;> decide +kernel
  rw [e1, e2]
  cases m with
  | dn =>
    have h : md ≤ ln := h
    rw [decide_eq_false (show ¬ ln < md from Rat.not_lt.mpr h)]
    rfl
  | up =>
    have h : ln ≤ md := h
    rw [decide_eq_false (show ¬ md < ln from Rat.not_lt.mpr h)]
    rfl
  | _ => rfl
theorem say_two {m : Mk} {a b md ln : Rat} (h : Say m a b md ln) : (inD m.dat [.str "straight", .str "level"] && !PyData.eqv (nm md) (nm ln) || PyData.eqv m.dat (.str "level") && !PyData.eqv (nm a) (nm b)) = false := by
  have e1 : inD m.dat [.str "straight", .str "level"] = decide (m = .st ∨ m = .lv) := by cases m <;> decide +kernel
  have e2 : PyData.eqv m.dat (.str "level") = decide (m = .lv) := by cases m <;> decide +kernel
  rw [e1, e2]
  cases m with
  | lv =>
    have h : a = b ∧ md = ln := h
    rw [h.1, h.2, eqv_nm, eqv_nm]
    rfl
  | st =>
    have h : md = ln := h
    rw [h, eqv_nm]
    rfl
  | _ => rfl
theorem rel_say {t : Rat} {m : Mk} {a b c : Rat} (h : Rel t m a b c) : Say m a b c ((1 - t) * a + t * b) := by
  cases m <;> exact h
end BW

namespace BW
open PySem PySem.Spec PyProof.Rows L2 Evl
local macro_rules | `(tactic| k_offL) => `(tactic| first
  | ((with_reducible show Ed _ (tVar _) _ _); first | exact ed_var rfl | exact ed_varO rfl)
  | (with_reducible exact ed_int)
  | (with_reducible apply ed_op)
  | (with_reducible exact rd_add)
  | (with_reducible exact rd_sub)
  | ((with_reducible show RD _ (xIx _) _ _ _); exact rd_ix rfl)
  | (with_reducible apply rd_mul)
  | (with_reducible exact rd_lt)
  | (with_reducible exact rd_le)
  | (with_reducible exact rd_gt)
  | (with_reducible exact rd_ge)
  | (with_reducible apply rd_div)
  | (with_reducible apply rd_mod)
  | ((with_reducible show RD _ (xEq _) (PyData.str _) _ _); exact rd_eqS (by decide +kernel) (by decide +kernel))
  | ((with_reducible show RD _ (xEq _) _ _ _); exact rd_eqS (by rfl) (by rfl))
  | ((with_reducible show RD _ (xNe _) (PyData.str _) _ _); exact rd_neS (by decide +kernel) (by decide +kernel))
  | ((with_reducible show RD _ (xNe _) _ _ _); exact rd_neS (by rfl) (by rfl))
  | ((with_reducible show RD _ (xIn _) _ _ _); first | exact rd_inT rfl rfl | exact rd_inL rfl rfl)
  | ((with_reducible show RD _ (xNin _) _ _ _); first | exact rd_ninT rfl rfl | exact rd_ninL rfl rfl)
  | (with_reducible exact ed_str)
  | ((with_reducible show Ed _ (tC (V.ref _)) _ _); exact ed_c (by assumption))
  | (with_reducible exact ed_bl)
  | (with_reducible apply et_test)
  | (with_reducible apply et_B)
  | (with_reducible apply et_not)
  | (with_reducible apply et_and')
  | (with_reducible apply et_or')
  | (with_reducible exact ea_nil)
  | (with_reducible apply ea_cons)
  | (with_reducible apply ed_tail)
  | (with_reducible apply ed_tup2)
  | (with_reducible apply ed_tup3)
  | (with_reducible apply ed_tup4)
  | (with_reducible apply ed_tup1)
  | (with_reducible apply ed_lst1)
  | (with_reducible apply ed_lst2)
  | (with_reducible apply ed_lst3)
  | (with_reducible apply ed_andV')
  | (with_reducible apply ed_orV')
  | (with_reducible apply ed_notV)
  | (with_reducible apply ed_neg)
  | (with_reducible apply isi_ii)
  | (with_reducible apply isi_ib)
  | (with_reducible apply isi_tt)
  | (with_reducible apply isi_ll)
  | (with_reducible apply isi_ss)
  | (with_reducible apply ed_len)
  | ((with_reducible show lenD _ = some _); exact rfl)
  | (with_reducible apply ed_abs)
  | (with_reducible apply ed_min)
  | (with_reducible apply ed_chain')
  | (with_reducible apply ed_all)
  | (with_reducible apply ed_sum))
local macro_rules | `(tactic| k_clsL) => `(tactic| repeat (any_goals k_offL))
local macro_rules | `(tactic| k_subL) => `(tactic| first | exact Pl.int _ | exact Pl.bl _ | exact Pl.str _ | exact pl_nm _ | exact pl_bdat _ | (refine Pl.tup ?_; repeat (first | exact PlA.nil | refine PlA.cons (by k_subL) ?_)))
local macro_rules | `(tactic| wtm_at "pre") => `(tactic| first | assumption | omega)
local macro_rules | `(tactic| wtm_at "ev") => `(tactic| (k_clsL; all_goals wtm_at "pre"))
local macro_rules | `(tactic| wtm_at "no") => `(tactic| ((with_reducible refine' q_no (EdT.is ?hb ?hc) ?hd); (case hb => wtm_at "ev"); (case hc => first | decide +kernel | rfl)))
local macro_rules | `(tactic| wtm_at "set") => `(tactic| ((with_reducible refine' q_asg (Ed.eh ?hb ?hc) ?hd); (case hb => wtm_at "ev"); (case hc => k_subL)))
local macro_rules | `(tactic| wtm_at "yes") => `(tactic| ((with_reducible refine' q_yes (EdT.is ?hb ?hc) ?hd); (case hb => wtm_at "ev"); (case hc => first | decide +kernel | rfl)))
local macro_rules | `(tactic| k_offL) => `(tactic| (with_reducible apply ed_is_whole))
local macro_rules | `(tactic| k_offL) => `(tactic| (with_reducible apply ed_common))
local macro_rules | `(tactic| k_offL) => `(tactic| (with_reducible apply ed_is_number))
local macro_rules | `(tactic| k_offL) => `(tactic| (with_reducible apply ed_lowest))
local macro_rules | `(tactic| wtm_at "pre") => `(tactic| first | assumption | omega | exact sm_nd (by assumption) (by assumption) | exact sm_nn (by assumption) (by assumption) | exact sm_dd (by assumption) (by assumption) | exact sm_pre (by assumption) (by assumption))
local macro_rules | `(tactic| k_offL) => `(tactic| (with_reducible apply ed_add))
local macro_rules | `(tactic| k_offL) => `(tactic| (with_reducible apply ed_grow))
local macro_rules | `(tactic| k_offL) => `(tactic| (with_reducible apply ed_lies))
local macro_rules | `(tactic| k_offL) => `(tactic| (with_reducible apply ed_is_ahead))
local macro_rules | `(tactic| k_offL) => `(tactic| ((fail_if_success (with_reducible show RD _ (xIx _) _ PyData.none _)); (with_reducible show RD _ (xIx _) (PyData.list (List.map nm _)) _ _); exact rd_ix (ix_map (by first | assumption | omega))))
local macro_rules | `(tactic| k_offL) => `(tactic| ((with_reducible show RD _ (xEq _) (PyData.tuple [Mk.dat _, Mk.dat _]) _ _); exact rd_eqS (sh_mk2 _ _) (by decide +kernel)))
local macro_rules | `(tactic| k_offL) => `(tactic| ((with_reducible show RD _ (xEq _) (Mk.dat _) _ _); exact rd_eqS (sh_mk _) (by decide +kernel)))
local macro_rules | `(tactic| k_subL) => `(tactic| exact pl_mk _)
local macro_rules | `(tactic| k_offL) => `(tactic| ((fail_if_success (with_reducible show RD _ (xIx _) _ PyData.none _)); (with_reducible show RD _ (xIx _) (PyData.list (List.map Mk.dat _)) _ _); exact rd_ix (ix_mapm (by first | assumption | omega))))
local macro_rules | `(tactic| k_offL) => `(tactic| (with_reducible exact rd_p60))
local macro_rules | `(tactic| k_offL) => `(tactic| (with_reducible exact rd_p18))
local macro_rules | `(tactic| k_offL) => `(tactic| (with_reducible exact rd_p12))
local macro_rules | `(tactic| k_offL) => `(tactic| (with_reducible apply ed_cells))
local macro_rules | `(tactic| k_offL) => `(tactic| (with_reducible apply ed_num))
local macro_rules | `(tactic| k_offL) => `(tactic| (with_reducible exact rd_eqI))
local macro_rules | `(tactic| k_offL) => `(tactic| (with_reducible apply ed_share))
section
variable {P : Program} {w : World} {K : PySem.W.Frag} {mg : Str → Option Value} {base : Heap}
def R_right (ds : List PyData) (d : PyData) : Prop := ∃ (n : Nat) (l : List Stp) (pa pb : List Rat) (t : Rat), ds = [prg n l, .list (pa.map nm), .list (pb.map nm), nm t] ∧ OkP n l ∧ (pa.length = n ∧ pb.length = n) ∧ (FewA pa ∧ FewA pb) ∧ Bit t ∧ d = .bool true
abbrev s_law_right : Stmt := topS 53
theorem sc_law_right : FnScope ["_law_program_here", "_law_one", "_law_other", "_law_bit", "_law_found", "_law_rest", "_law_between", "_law_first", "_law_last", "_law_mid", "_law_at", "_law_mark", "_law_line", "_law_low_here", "_law_high"] ["_law_program_here", "_law_one", "_law_other", "_law_bit"] (defScope s_law_right) := ⟨rfl, rfl, rfl, by decide +kernel, rfl, by decide +kernel, by decide +kernel⟩
theorem ok__law_right {k0 : Nat} (T : Tx K mg) (I : DefI K mg "_law_right" s_law_right ["_law_program_here", "_law_one", "_law_other", "_law_bit"]) (C_marks : Cl P w K mg base k0 "marks" R_mtop) (C_worths : Cl P w K mg base k0 "worths" R_wtop)
    (C__law_add : Cl P w K mg base k0 "_law_add" R_add) (C__law_by : Cl P w K mg base k0 "_law_by" R_grow) (C__law_before : Cl P w K mg base k0 "_law_before" R_before) : Cl P w K mg base (k0 + 1) "_law_right" R_right := by
  refine mkD I sc_law_right (fun ds d h => by obtain ⟨a, b, c, e, g, rfl, _⟩ := h; rfl) (fun f cdv A outer s H E hr ds d h => ?_)
  obtain ⟨n, l, pa, pb, t, rfl, o, ⟨la, lb⟩, ⟨fa, fb⟩, bt, rfl⟩ := h
  refine ⟨_, (pss_cons (ps_set (i := 4) sc_law_right.nd rfl (Or.inl rfl) (pc C_marks hr (by omega) rfl rfl rfl rfl rfl rfl (pa_cons (pv 0) pa_nil)))
    (pss_cons (ps_set (i := 5) sc_law_right.nd rfl (Or.inr rfl) (pc C__law_add hr (by omega) rfl rfl rfl rfl rfl rfl (pa_cons (pe_tup (pa_cons pe_int (pa_cons pe_int pa_nil))) (pa_cons (pe_tup (pa_cons (pe_un ux_neg (pe_ix (kx_ix (K := K) rfl) (pv 3) pe_int (fun _ _ => rfl))) (pa_cons (pe_ix (kx_ix (K := K) rfl) (pv 3) pe_int (fun _ _ => rfl)) pa_nil))) pa_nil))))
    (pss_cons (ps_setLc (i := 6) (own := [(("_law_low_here" : Str), 13), (("_law_high" : Str), 14)]) rfl sc_law_right.nd rfl rfl (sw_true rfl rfl rfl (by decide +kernel)) (kpi_zip (K := K) rfl rfl T.zip (pa_cons (pv 1) (pa_cons (pv 2) pa_nil))) (blkOk_by (own := [(("_law_low_here" : Str), 13), (("_law_high" : Str), 14)]) (N := ["_law_program_here", "_law_one", "_law_other", "_law_bit", "_law_found", "_law_rest", "_law_between", "_law_first", "_law_last", "_law_mid", "_law_at", "_law_mark", "_law_line", "_law_low_here", "_law_high"]) (sc := defScope s_law_right) (by decide +kernel)) (fun _ _ _ _ _ => kpg_tup (K := K) (n := 2) rfl rfl (pgs_cons (pg_name (i := 13) sc_law_right.nd rfl (Or.inl rfl)) (pgs_cons (pg_name (i := 14) sc_law_right.nd rfl (Or.inl rfl)) pgs_nil))) (fun _ _ _ _ _ => pts_nil) (fun _ _ _ _ _ => pc C__law_add hr (by omega) rfl rfl rfl rfl rfl rfl (pa_cons (pc C__law_by hr (by omega) rfl rfl rfl rfl rfl rfl (pa_cons (pv 5) (pa_cons (pv 13) pa_nil))) (pa_cons (pc C__law_by hr (by omega) rfl rfl rfl rfl rfl rfl (pa_cons (pv 3) (pa_cons (pv 14) pa_nil))) pa_nil))))
    (pss_cons (ps_par3 (i := 7) (j := 8) (l := 9) rfl sc_law_right.nd rfl rfl rfl (by decide) (by decide) (by decide) rfl rfl rfl (pa_cons (pc C_worths hr (by omega) rfl rfl rfl rfl rfl rfl (pa_cons (pv 0) (pa_cons (pv 1) pa_nil))) (pa_cons (pc C_worths hr (by omega) rfl rfl rfl rfl rfl rfl (pa_cons (pv 0) (pa_cons (pv 2) pa_nil))) (pa_cons (pc C_worths hr (by omega) rfl rfl rfl rfl rfl rfl (pa_cons (pv 0) (pa_cons (pv 6) pa_nil))) pa_nil))) (by rfl))
    (pss_cons (ps_for PassesOwn.never rfl (kpi_enum (K := K) rfl rfl T.enumerate (pa_cons (pv 4) pa_nil)) (kpg_tup (K := K) (n := 2) rfl rfl (pgs_cons (pg_name (i := 10) sc_law_right.nd rfl (Or.inl rfl)) (pgs_cons (pg_name (i := 11) sc_law_right.nd rfl (Or.inl rfl)) pgs_nil))) (pss_cons (ps_set (i := 12) sc_law_right.nd rfl (Or.inl rfl) (pc C__law_add hr (by omega) rfl rfl rfl rfl rfl rfl (pa_cons (pc C__law_by hr (by omega) rfl rfl rfl rfl rfl rfl (pa_cons (pv 5) (pa_cons (pe_ix (kx_ix (K := K) rfl) (pv 7) (pv 10) (fun _ _ => rfl)) pa_nil))) (pa_cons (pc C__law_by hr (by omega) rfl rfl rfl rfl rfl rfl (pa_cons (pv 3) (pa_cons (pe_ix (kx_ix (K := K) rfl) (pv 8) (pv 10) (fun _ _ => rfl)) pa_nil))) pa_nil))))
      (pss_cons (ps_if (PW.pt (pw_or (PW.pt (pw_and (pt_cmpR (kx_eq (K := K) rfl hr.units) (pv 11) pe_str (nomark _)) (pw_and1 (pt_val (pc C__law_before hr (by omega) rfl rfl rfl rfl rfl rfl (pa_cons (pv 12) (pa_cons (pe_ix (kx_ix (K := K) rfl) (pv 9) (pv 10) (fun _ _ => rfl)) pa_nil))))))) (pw_or1 (PW.pt (pw_and (pt_cmpR (kx_eq (K := K) rfl hr.units) (pv 11) pe_str (nomark _)) (pw_and1 (pt_val (pc C__law_before hr (by omega) rfl rfl rfl rfl rfl rfl (pa_cons (pe_ix (kx_ix (K := K) rfl) (pv 9) (pv 10) (fun _ _ => rfl)) (pa_cons (pv 12) pa_nil)))))))))) (pss_one (ps_ret pe_bl)) pss_nil)
      (pss_one (ps_if (PW.pt (pw_or (PW.pt (pw_and (pt_cmpR (kx_in (K := K) rfl) (pv 11) (pe_lst (pa_cons pe_str (pa_cons pe_str pa_nil))) (by rfl)) (pw_and1 (pt_cmpR (kx_ne (K := K) rfl hr.units) (pe_ix (kx_ix (K := K) rfl) (pv 9) (pv 10) (fun _ _ => rfl)) (pv 12) (nomark _))))) (pw_or1 (PW.pt (pw_and (pt_cmpR (kx_eq (K := K) rfl hr.units) (pv 11) pe_str (nomark _)) (pw_and1 (pt_cmpR (kx_ne (K := K) rfl hr.units) (pe_ix (kx_ix (K := K) rfl) (pv 7) (pv 10) (fun _ _ => rfl)) (pe_ix (kx_ix (K := K) rfl) (pv 8) (pv 10) (fun _ _ => rfl)) (nomark _)))))))) (pss_one (ps_ret pe_bl)) pss_nil)))))
    (pss_one (ps_ret pe_bl))))))), fun D q => ?_⟩
  change Go K H [] _ [.dt (prg n l), .dt (.list (pa.map nm)), .dt (.list (pb.map nm)), .dt (nm t), .no, .no, .no, .no, .no, .no, .no, .no, .no, .no, .no]
  refine q_asg (d := .list ((mks inm0 .st l).map Mk.dat)) (Ed.en (ed_mtop (by k_clsL) o) rfl) ?_
  have s7 := bt.sm
  have r7 := bt.rest.sm
  have s1 : Sm 4000 t := s7.mono (by decide)
  have r1 : Sm 4000 (1 - t) := r7.mono (by decide)
  have p1 : Sm 4000 1 := ⟨lt_2 (x := 1) 2 (by decide) (by decide), Nat.lt_of_lt_of_le (show 1 < 2 by decide) (Nat.pow_le_pow_right (n := 2) (by decide) (show 1 ≤ 4000 by decide))⟩
  have n1 : Sm 4000 (-t) := ⟨by rw [Rat.neg_num, Int.natAbs_neg]; exact s1.1, s1.2⟩
  have mul1 : ∀ {u x : Rat}, Sm 7 u → Sm 1400 x → Sm 1500 (u * x) := fun hu hx => (mul_sm hu hx).mono (by decide)
  refine q_asg (d := nm (1 - t)) (Ed.eh (Ed.is (ed_add (p := 1) (q := -t) (ea_cons (Ed.is (ed_tup2 ed_int ed_int) rfl) (ea_cons (Ed.is (ed_tup2 (a := .int (-t.num)) (b := .int (t.den : Int)) (ed_neg (ed_op (by k_clsL) ed_int (rd_ix rfl))) (ed_op (by k_clsL) ed_int (rd_ix rfl))) (by unfold nm; rw [Rat.neg_num, Rat.neg_den])) ea_nil)) ⟨p1, n1⟩) (by rw [Rat.sub_eq_add_neg])) (pl_nm _)) ?_
  have gm1 : ∀ {k : Nat} {d : PyData} {l : List Rat}, (l.map nm)[k]? = some d → d = nm (gq l k) ∧ k < l.length := fun {k d l} h => by
    rw [List.getElem?_map] at h
    cases e : l[k]? with
    | none =>
      rw [e] at h
      cases h
    | some c =>
      rw [e] at h
      cases h
      refine ⟨?_, (List.getElem?_eq_some_iff.mp e).1⟩
      unfold gq
      rw [List.getD_eq_getElem?_getD, e]
      rfl
  have hlz : (mixM t pa pb).length = n := by
    unfold mixM
    rw [List.length_zipWith]
    omega
  refine q_asg (d := .list ((mixM t pa pb).map nm)) (Ed.en (EdN.ed (edn_lcZ (ds := pa.map nm) (es := pb.map nm) _ (by k_clsL) (by k_clsL) rfl (by rw [List.length_map, List.length_map]; omega) (by rw [List.length_map, List.length_map]; omega) (by rw [List.length_map]; have := o.n3; omega) (fun d hd => by
    obtain ⟨x, _, rfl⟩ := List.mem_map.mp hd
    exact pl_nm x) (fun σ x y => wipe_two (by decide) σ x y) (fun k d d' o' h1 h2 h3 => ?_))) rfl) ?_
  · obtain ⟨rfl, _⟩ := gm1 h1
    obtain ⟨rfl, _⟩ := gm1 h2
    obtain ⟨rfl, _⟩ := gm1 h3
    rw [gq_mix (by omega)]
    have ga : Sm 1400 (gq pa k) := bd_sm (bd_few (fa.get k) (by decide)) (by decide)
    have gb : Sm 1400 (gq pb k) := bd_sm (bd_few (fb.get k) (by decide)) (by decide)
    exact ed_add (ea_cons (ed_grow (p := 1 - t) (q := gq pa k) (ea_cons (ed_var rfl) (ea_cons (ed_var rfl) ea_nil)) ⟨r1, ga.big⟩) (ea_cons (ed_grow (p := t) (q := gq pb k) (ea_cons (ed_var rfl) (ea_cons (ed_var rfl) ea_nil)) ⟨s1, gb.big⟩) ea_nil)) ⟨(mul1 r7 ga).mono (by decide), (mul1 s7 gb).mono (by decide)⟩
  have ba : AllB 0 pa := fa.all
  have bb : AllB 0 pb := fb.all
  have bc : AllB 0 (mixM t pa pb) := mixM_bd bt fa fb (by omega)
  have tell := marks_tell bt.h0 bt.h1 (l := l) (gq_mix (t := t) (pa := pa) (pb := pb) (by omega))
  have wa := wtop_sm o ba
  have wb := wtop_sm o bb
  have wc := wtop_sm o bc
  have ea := wos_len inn0 pa l
  have eb := wos_len inn0 pb l
  have ec := wos_len inn0 (mixM t pa pb) l
  refine q_par3 (d1 := .list ((wos inn0 pa l).map nm)) (d2 := .list ((wos inn0 pb l).map nm)) (d3 := .list ((wos inn0 (mixM t pa pb) l).map nm)) (Ed.en (ed_wtop (by k_clsL) o ⟨la, ba⟩) rfl) (Ed.en (ed_wtop (by k_clsL) o ⟨lb, bb⟩) rfl) (Ed.en (ed_wtop (by k_clsL) o ⟨hlz, bc⟩) rfl) ?_
  generalize wos inn0 pa l = va at tell wa ea ⊢
  generalize wos inn0 pb l = vb at tell wb eb ⊢
  generalize wos inn0 (mixM t pa pb) l = vc at tell wc ec ⊢
  have em := mks_len inm0 .st l
  generalize mks inm0 .st l = ms at tell em ⊢
  refine q_forE (ds := ms.map Mk.dat) (eh_var rfl) (fun k Γ' => ∃ x10 x11 x12 x13 x14, Γ' = [.dt (prg n l), .dt (.list (pa.map nm)), .dt (.list (pb.map nm)), .dt (nm t), .dt (.list (ms.map Mk.dat)), .dt (nm (1 - t)), .dt (.list ((mixM t pa pb).map nm)), .dt (.list (va.map nm)), .dt (.list (vb.map nm)), .dt (.list (vc.map nm)), x10, x11, x12, x13, x14]) ⟨.no, .no, .no, .no, .no, rfl⟩ ?_ ?_
  · rintro k d Γ' G' hd ⟨x10, x11, x12, x13, x14, rfl⟩
    have hk : k < ms.length := by
      have := (List.getElem?_eq_some_iff.mp hd).1
      rw [List.length_map] at this
      exact this
    have hda : d = (gm ms k).dat := by
      have := ix_mapm hk
      have z := L2.atI_nat hd
      rw [show L2.atI (ms.map Mk.dat) (k : Int) = some (gm ms k).dat from this] at z
      cases z
      rfl
    subst hda
    have t1 := rel_say (tell k)
    have ha := wa k
    have hb := wb k
    have hc := wc k
    have ka : ixD (.list (va.map nm)) (.int (k : Int)) = some (nm (gq va k)) := ix_map (by omega)
    have kb : ixD (.list (vb.map nm)) (.int (k : Int)) = some (nm (gq vb k)) := ix_map (by omega)
    have kc : ixD (.list (vc.map nm)) (.int (k : Int)) = some (nm (gq vc k)) := ix_map (by omega)
    generalize gm ms k = mk at t1 hd ⊢
    show Go K H G' _ [.dt (prg n l), .dt (.list (pa.map nm)), .dt (.list (pb.map nm)), .dt (nm t), .dt (.list (ms.map Mk.dat)), .dt (nm (1 - t)), .dt (.list ((mixM t pa pb).map nm)), .dt (.list (va.map nm)), .dt (.list (vb.map nm)), .dt (.list (vc.map nm)), .dt (.int (k : Int)), .dt mk.dat, x12, x13, x14]
    have m1 := mul1 r7 ha
    have m2 := mul1 s7 hb
    have m3 : Sm 4000 ((1 - t) * gq va k + t * gq vb k) := (add_sm m1 m2).mono (by decide)
    refine q_asg (d := nm ((1 - t) * gq va k + t * gq vb k)) (Ed.eh (ed_add (ea_cons (ed_grow (p := 1 - t) (q := gq va k) (ea_cons (ed_var rfl) (ea_cons (ed_op (ed_var rfl) (ed_var rfl) (rd_ix ka)) ea_nil)) ⟨r1, ha.big⟩) (ea_cons (ed_grow (p := t) (q := gq vb k) (ea_cons (ed_var rfl) (ea_cons (ed_op (ed_var rfl) (ed_var rfl) (rd_ix kb)) ea_nil)) ⟨s1, hb.big⟩) ea_nil)) ⟨m1.mono (by decide), m2.mono (by decide)⟩) (pl_nm _)) ?_
    generalize (1 - t) * gq va k + t * gq vb k = ln at t1 m3 ⊢
    generalize gq va k = a at t1 ha ka ⊢
    generalize gq vb k = b at t1 hb kb ⊢
    generalize gq vc k = c at t1 hc kc ⊢
    have bf : ∀ {Γ : List Sl} {ar : TA} {E : XK} {p q : Rat}, EdA K ar Γ [nm p, nm q] → (Sm 4000 p ∧ Sm 4000 q) → Ed K (tCall (spD K R_before) [] E ar) Γ (.bool (decide (p < q))) := fun h hp => ed_call h ⟨_, _, rfl, hp, rfl⟩
    have sn : ∀ x : Rat, SeqAt.shaped (nm x) = true := fun x => by rfl
    refine q_no (EdT.is (et_or' (et_and' (et_test (ed_op (ed_var rfl) ed_str (rd_eqS (sh_mk mk) (by decide +kernel)))) (et_test (bf (ea_cons (ed_var rfl) (ea_cons (ed_op (ed_var rfl) (ed_var rfl) (rd_ix kc)) ea_nil)) ⟨m3, hc.big⟩))) (et_and' (et_test (ed_op (ed_var rfl) ed_str (rd_eqS (sh_mk mk) (by decide +kernel)))) (et_test (bf (ea_cons (ed_op (ed_var rfl) (ed_var rfl) (rd_ix kc)) (ea_cons (ed_var rfl) ea_nil)) ⟨hc.big, m3⟩)))) (say_one t1)) ?_
    refine go_no (EdT.is (et_or' (et_and' (et_test (ed_op (ed_var rfl) (ed_lst2 ed_str ed_str) (rd_inL rfl rfl))) (et_test (ed_op (ed_op (ed_var rfl) (ed_var rfl) (rd_ix kc)) (ed_var rfl) (rd_neS (sn _) (sn _))))) (et_and' (et_test (ed_op (ed_var rfl) ed_str (rd_eqS (sh_mk mk) (by decide +kernel)))) (et_test (ed_op (ed_op (ed_var rfl) (ed_var rfl) (rd_ix ka)) (ed_op (ed_var rfl) (ed_var rfl) (rd_ix kb)) (rd_neS (sn _) (sn _)))))) (say_two t1)) ?_
    exact go_next (go_nx ⟨.dt (.int (k : Int)), .dt mk.dat, .dt (nm ln), x13, x14, rfl⟩)
  · rintro Γ' ⟨x10, x11, x12, x13, x14, rfl⟩
    exact go_ret ed_bl q
section
variable {Γ : List Sl} {ar : TA} {E : XK}
theorem ed_right {n : Nat} {l : List Stp} {pa pb : List Rat} {t : Rat} (h : EdA K ar Γ [prg n l, .list (pa.map nm), .list (pb.map nm), nm t]) (o : OkP n l) (hl : pa.length = n ∧ pb.length = n) (hf : FewA pa ∧ FewA pb) (b : Bit t) : Ed K (tCall (spD K R_right) [] E ar) Γ (.bool true) := ed_call h ⟨n, l, pa, pb, t, rfl, o, hl, hf, b, rfl⟩
end
end
end BW

namespace BW
open PySem PySem.Spec PyProof.Rows L2 Evl
local macro_rules | `(tactic| k_offL) => `(tactic| first
  | ((with_reducible show Ed _ (tVar _) _ _); first | exact ed_var rfl | exact ed_varO rfl)
  | (with_reducible exact ed_int)
  | (with_reducible apply ed_op)
  | (with_reducible exact rd_add)
  | (with_reducible exact rd_sub)
  | ((with_reducible show RD _ (xIx _) _ _ _); exact rd_ix rfl)
  | (with_reducible apply rd_mul)
  | (with_reducible exact rd_lt)
  | (with_reducible exact rd_le)
  | (with_reducible exact rd_gt)
  | (with_reducible exact rd_ge)
  | (with_reducible apply rd_div)
  | (with_reducible apply rd_mod)
  | ((with_reducible show RD _ (xEq _) (PyData.str _) _ _); exact rd_eqS (by decide +kernel) (by decide +kernel))
  | ((with_reducible show RD _ (xEq _) _ _ _); exact rd_eqS (by rfl) (by rfl))
  | ((with_reducible show RD _ (xNe _) (PyData.str _) _ _); exact rd_neS (by decide +kernel) (by decide +kernel))
  | ((with_reducible show RD _ (xNe _) _ _ _); exact rd_neS (by rfl) (by rfl))
  | ((with_reducible show RD _ (xIn _) _ _ _); first | exact rd_inT rfl rfl | exact rd_inL rfl rfl)
  | ((with_reducible show RD _ (xNin _) _ _ _); first | exact rd_ninT rfl rfl | exact rd_ninL rfl rfl)
  | (with_reducible exact ed_str)
  | ((with_reducible show Ed _ (tC (V.ref _)) _ _); exact ed_c (by assumption))
  | (with_reducible exact ed_bl)
  | (with_reducible apply et_test)
  | (with_reducible apply et_B)
  | (with_reducible apply et_not)
  | (with_reducible apply et_and')
  | (with_reducible apply et_or')
  | (with_reducible exact ea_nil)
  | (with_reducible apply ea_cons)
  | (with_reducible apply ed_tail)
  | (with_reducible apply ed_tup2)
  | (with_reducible apply ed_tup3)
  | (with_reducible apply ed_tup4)
  | (with_reducible apply ed_tup1)
  | (with_reducible apply ed_lst1)
  | (with_reducible apply ed_lst2)
  | (with_reducible apply ed_lst3)
  | (with_reducible apply ed_andV')
  | (with_reducible apply ed_orV')
  | (with_reducible apply ed_notV)
  | (with_reducible apply ed_neg)
  | (with_reducible apply isi_ii)
  | (with_reducible apply isi_ib)
  | (with_reducible apply isi_tt)
  | (with_reducible apply isi_ll)
  | (with_reducible apply isi_ss)
  | (with_reducible apply ed_len)
  | ((with_reducible show lenD _ = some _); exact rfl)
  | (with_reducible apply ed_abs)
  | (with_reducible apply ed_min)
  | (with_reducible apply ed_chain')
  | (with_reducible apply ed_all)
  | (with_reducible apply ed_sum))
local macro_rules | `(tactic| k_clsL) => `(tactic| repeat (any_goals k_offL))
local macro_rules | `(tactic| k_subL) => `(tactic| first | exact Pl.int _ | exact Pl.bl _ | exact Pl.str _ | exact pl_nm _ | exact pl_bdat _ | (refine Pl.tup ?_; repeat (first | exact PlA.nil | refine PlA.cons (by k_subL) ?_)))
local macro_rules | `(tactic| wtm_at "pre") => `(tactic| first | assumption | omega)
local macro_rules | `(tactic| wtm_at "ev") => `(tactic| (k_clsL; all_goals wtm_at "pre"))
local macro_rules | `(tactic| wtm_at "no") => `(tactic| ((with_reducible refine' q_no (EdT.is ?hb ?hc) ?hd); (case hb => wtm_at "ev"); (case hc => first | decide +kernel | rfl)))
local macro_rules | `(tactic| wtm_at "set") => `(tactic| ((with_reducible refine' q_asg (Ed.eh ?hb ?hc) ?hd); (case hb => wtm_at "ev"); (case hc => k_subL)))
local macro_rules | `(tactic| wtm_at "yes") => `(tactic| ((with_reducible refine' q_yes (EdT.is ?hb ?hc) ?hd); (case hb => wtm_at "ev"); (case hc => first | decide +kernel | rfl)))
local macro_rules | `(tactic| k_offL) => `(tactic| (with_reducible apply ed_is_whole))
local macro_rules | `(tactic| k_offL) => `(tactic| (with_reducible apply ed_common))
local macro_rules | `(tactic| k_offL) => `(tactic| (with_reducible apply ed_is_number))
local macro_rules | `(tactic| k_offL) => `(tactic| (with_reducible apply ed_lowest))
local macro_rules | `(tactic| wtm_at "pre") => `(tactic| first | assumption | omega | exact sm_nd (by assumption) (by assumption) | exact sm_nn (by assumption) (by assumption) | exact sm_dd (by assumption) (by assumption) | exact sm_pre (by assumption) (by assumption))
local macro_rules | `(tactic| k_offL) => `(tactic| (with_reducible apply ed_add))
local macro_rules | `(tactic| k_offL) => `(tactic| (with_reducible apply ed_grow))
local macro_rules | `(tactic| k_offL) => `(tactic| (with_reducible apply ed_lies))
local macro_rules | `(tactic| k_offL) => `(tactic| (with_reducible apply ed_is_ahead))
local macro_rules | `(tactic| k_offL) => `(tactic| ((fail_if_success (with_reducible show RD _ (xIx _) _ PyData.none _)); (with_reducible show RD _ (xIx _) (PyData.list (List.map nm _)) _ _); exact rd_ix (ix_map (by first | assumption | omega))))
local macro_rules | `(tactic| k_offL) => `(tactic| ((with_reducible show RD _ (xEq _) (PyData.tuple [Mk.dat _, Mk.dat _]) _ _); exact rd_eqS (sh_mk2 _ _) (by decide +kernel)))
local macro_rules | `(tactic| k_offL) => `(tactic| ((with_reducible show RD _ (xEq _) (Mk.dat _) _ _); exact rd_eqS (sh_mk _) (by decide +kernel)))
local macro_rules | `(tactic| k_subL) => `(tactic| exact pl_mk _)
local macro_rules | `(tactic| k_offL) => `(tactic| ((fail_if_success (with_reducible show RD _ (xIx _) _ PyData.none _)); (with_reducible show RD _ (xIx _) (PyData.list (List.map Mk.dat _)) _ _); exact rd_ix (ix_mapm (by first | assumption | omega))))
local macro_rules | `(tactic| k_offL) => `(tactic| (with_reducible exact rd_p60))
local macro_rules | `(tactic| k_offL) => `(tactic| (with_reducible exact rd_p18))
local macro_rules | `(tactic| k_offL) => `(tactic| (with_reducible exact rd_p12))
local macro_rules | `(tactic| k_offL) => `(tactic| (with_reducible apply ed_cells))
local macro_rules | `(tactic| k_offL) => `(tactic| (with_reducible apply ed_num))
local macro_rules | `(tactic| k_offL) => `(tactic| (with_reducible exact rd_eqI))
local macro_rules | `(tactic| k_offL) => `(tactic| (with_reducible apply ed_share))
theorem noOwn_set : ∀ {Γ : List Sl} {i : Nat} {d : PyData}, noOwn Γ = true → noOwn (Γ.set i (.dt d)) = true
  | [], _, _, h => h
  | .own _ :: _, _, _, h => by cases h
  | .no :: r, 0, _, h => h
  | .dt _ :: r, 0, _, h => h
  | .no :: r, i + 1, _, h => noOwn_set (Γ := r) (i := i) h
  | .dt _ :: r, i + 1, _, h => noOwn_set (Γ := r) (i := i) h
theorem bit_div {a d : Int} (e : d = 2 ∨ d = 3 ∨ d = 11) (h0 : 0 < a) (h1 : a < d) : Bit (Rat.divInt a d) := by
  have hd : d ≠ 0 := by omega
  have m := divInt_mul (a := a) hd
  have a0 : (0 : Rat) < (a : Rat) := Rat.intCast_pos.mpr h0
  have a1 : (a : Rat) < (d : Rat) := Rat.intCast_lt_intCast.mpr h1
  have w : ∀ j : Int, d * j = 66 → Wh (Rat.divInt a d * 66) := fun j hj => by
    refine ⟨a * j, ?_⟩
    rw [Rat.intCast_mul, ← m, Rat.mul_assoc, ← Rat.intCast_mul, hj]
    rfl
  rcases e with rfl | rfl | rfl
  · have m' : Rat.divInt a 2 * 2 = (a : Rat) := m
    have a1' : (a : Rat) < 2 := a1
    exact ⟨by grind, by grind, w 33 rfl⟩
  · have m' : Rat.divInt a 3 * 3 = (a : Rat) := m
    have a1' : (a : Rat) < 3 := a1
    exact ⟨by grind, by grind, w 22 rfl⟩
  · have m' : Rat.divInt a 11 * 11 = (a : Rat) := m
    have a1' : (a : Rat) < 11 := a1
    exact ⟨by grind, by grind, w 6 rfl⟩
section
variable {P : Program} {w : World} {K : PySem.W.Frag} {mg : Str → Option Value} {base : Heap}
def R_law (ds : List PyData) (d : PyData) : Prop := ∃ sc : List Int, ds = [.list (sc.map .int)] ∧ d = .bool true
abbrev slaw : Stmt := topS 54
theorem sclaw : FnScope ["_law_script", "_law_whole", "_law_inputs", "_law_bulging_here", "_law_program_here", "_law_by_here", "_law_one", "_law_other", "_law_bit"] ["_law_script"] (defScope slaw) := ⟨rfl, rfl, rfl, by decide +kernel, rfl, by decide +kernel, by decide +kernel⟩
theorem ok_law {k0 : Nat} {f : Addr} {fd : FuncData} (T : Tx K mg) (F : Fun K "law" "law" slaw f fd) (C__law_bulging : Cl P w K mg base k0 "_law_bulging" R_bulg) (C_marks : Cl P w K mg base k0 "marks" R_mtop) (C__law_program : Cl P w K mg base k0 "_law_program" R_prog)
    (C__law_places : Cl P w K mg base k0 "_law_places" R_places) (C__law_low : Cl P w K mg base k0 "_law_low" R_lowest) (C__law_right : Cl P w K mg base k0 "_law_right" R_right) : FnOk P w K mg base CX0 (k0 + 1) f fd ["_law_script"] (spD K R_law) := by
  refine okD F sclaw (fun ds d h => by obtain ⟨a, rfl, _⟩ := h; rfl) (fun cdv A outer s H E hr ds d h => ?_)
  obtain ⟨sc, rfl, rfl⟩ := h
  refine ⟨_, (pss_cons (ps_set (i := 1) sclaw.nd rfl (Or.inl rfl) (pe_op ox_mod (pe_callB cx_abs (by rfl) T.abs bb_abs (pa_cons (pe_callB (kx_sum (K := K) rfl rfl) (by rfl) T.sum bb_sum (pa_cons (pe_slice (ksl_list (K := K) rfl) (pv 0) po_none (po_some pe_int)) pa_nil)) pa_nil)) (pe_op ox_pow pe_int pe_int)))
    (pss_cons (ps_for PassesOwn.never rfl (kpi_list (K := K) rfl (pe_lst (pa_cons pe_int (pa_cons pe_int (pa_cons pe_int pa_nil))))) (pg_name (i := 2) sclaw.nd rfl (Or.inl rfl)) (pss_cons (ps_set (i := 3) sclaw.nd rfl (Or.inl rfl) (pc C__law_bulging hr (by omega) rfl rfl rfl rfl rfl rfl (pa_cons (pv 0) (pa_cons (pv 2) (pa_cons (pv 2) (pa_cons pe_int pa_nil))))))
      (pss_cons (ps_if (pt_cmpR (kx_nin (K := K) rfl) (pe_ix (kx_ix (K := K) rfl) (pc C_marks hr (by omega) rfl rfl rfl rfl rfl rfl (pa_cons (pv 3) pa_nil)) (pe_un ux_neg pe_int) (fun _ _ => rfl)) (pe_lst (pa_cons pe_str (pa_cons pe_str pa_nil))) (by rfl)) (pss_one (ps_ret pe_bl)) pss_nil)
      (pss_one (ps_for PassesOwn.never rfl (kpi_list (K := K) rfl (pe_lst (pa_cons (pv 3) (pa_cons (pc C__law_program hr (by omega) rfl rfl rfl rfl rfl rfl (pa_cons (pv 0) (pa_cons (pv 2) (pa_cons (pv 2) (pa_cons pe_int pa_nil))))) pa_nil)))) (pg_name (i := 4) sclaw.nd rfl (Or.inl rfl)) (pss_one (ps_for PassesOwn.never rfl (kpi_list (K := K) rfl (pe_lst (pa_cons pe_int (pa_cons pe_int pa_nil)))) (pg_name (i := 5) sclaw.nd rfl (Or.inl rfl)) (pss_cons (ps_par (i := 6) (j := 7) rfl sclaw.nd rfl rfl (by decide) rfl rfl (pa_cons (pc C__law_places hr (by omega) rfl rfl rfl rfl rfl rfl (pa_cons (pv 0) (pa_cons (pv 5) (pa_cons (pv 2) pa_nil)))) (pa_cons (pc C__law_places hr (by omega) rfl rfl rfl rfl rfl rfl (pa_cons (pv 0) (pa_cons (pe_op ox_add (pv 5) pe_int) (pa_cons (pv 2) pa_nil)))) pa_nil)) (by rfl))
          (pss_one (ps_for PassesOwn.never rfl (kpi_list (K := K) rfl (pe_lst (pa_cons (pe_tup (pa_cons pe_int (pa_cons pe_int pa_nil))) (pa_cons (pe_tup (pa_cons pe_int (pa_cons pe_int pa_nil))) (pa_cons (pc C__law_low hr (by omega) rfl rfl rfl rfl rfl rfl (pa_cons (pe_op ox_add pe_int (pe_op ox_mod (pv 1) pe_int)) (pa_cons pe_int pa_nil))) pa_nil))))) (pg_name (i := 8) sclaw.nd rfl (Or.inl rfl)) (pss_one (ps_if (pt_not (pt_val (pc C__law_right hr (by omega) rfl rfl rfl rfl rfl rfl (pa_cons (pv 4) (pa_cons (pv 6) (pa_cons (pv 7) (pa_cons (pv 8) pa_nil))))))) (pss_one (ps_ret pe_bl)) pss_nil))))))))))))
    (pss_one (ps_ret pe_bl)))), fun D q => ?_⟩
  change Go K H [] _ [.dt (.list (sc.map .int)), .no, .no, .no, .no, .no, .no, .no, .no]
  refine q_asg (d := .int ((if (sc.take 63).sum < 0 then -(sc.take 63).sum else (sc.take 63).sum) % 1000000000000000000000000000000000000000000000000000000000000)) (Ed.eh (ed_op (ed_abs (ed_sum (ns := sc.take 63) (ed_cut (m := 63) (ed_var rfl) ed_int))) (ed_op ed_int ed_int rd_p60) (rd_mod (by decide))) (.int _)) ?_
  generalize (if (sc.take 63).sum < 0 then -(sc.take 63).sum else (sc.take 63).sum) % 1000000000000000000000000000000000000000000000000000000000000 = W
  refine q_forL (ds := [.int 1, .int 2, .int 3]) (Ed.en (ed_lst3 ed_int ed_int ed_int) rfl) (fun k Γ' => noOwn Γ' = true ∧ ∃ x2 x3 x4 x5 x6 x7 x8, Γ' = [.dt (.list (sc.map .int)), .dt (.int W), x2, x3, x4, x5, x6, x7, x8]) ⟨rfl, .no, .no, .no, .no, .no, .no, .no, rfl⟩ ?_ ?_
  · rintro k d Γ' G' hd ⟨no, x2, x3, x4, x5, x6, x7, x8, rfl⟩
    have hn : ∃ n : Nat, d = .int (n : Int) ∧ 1 ≤ n ∧ n ≤ 3 := by
      match k, hd with
      | 0, hd => cases hd; exact ⟨1, rfl, by decide, by decide⟩
      | 1, hd => cases hd; exact ⟨2, rfl, by decide, by decide⟩
      | 2, hd => cases hd; exact ⟨3, rfl, by decide, by decide⟩
      | k + 3, hd => cases hd
    obtain ⟨n, rfl, n1, n3⟩ := hn
    have no := noOwn_set (i := 2) (d := .int (n : Int)) no
    have oB := (buM_ok (n := n) (by omega) (celM 8 3 sc) n (celM 8 3 sc).length)
    have lB := oB.last
    have oB := oB.okP (by omega) n3 (celM_len (by decide))
    have oP := (prM_ok (n := n) (by omega) (celM 14 3 sc) n (celM 14 3 sc).length).okP (by omega) n3 (celM_len (by decide))
    refine q_asg (d := prg n (buM n (celM 8 3 sc) n (celM 8 3 sc).length).st) (Ed.en (ed_bulg (b := n) (n := n) (m := 8) (ea_cons (ed_var rfl) (ea_cons (ed_var rfl) (ea_cons (ed_var rfl) (ea_cons ed_int ea_nil)))) (by omega)) no) ?_
    have no := noOwn_set (i := 3) (d := prg n (buM n (celM 8 3 sc) n (celM 8 3 sc).length).st) no
    have pP : ∀ {Γ : List Sl}, Γ[0]? = some (.dt (.list (sc.map .int))) → Γ[2]? = some (.dt (.int (n : Int))) → Ed K (tCall (spD K R_prog) [] E0 (tCons (tVar 0) (tCons (tVar 2) (tCons (tVar 2) (tCons (tC (.int 14)) tNil))))) Γ (prg n (prM n (celM 14 3 sc) n (celM 14 3 sc).length).st) := fun h0 h2 =>
      ed_prog (b := n) (n := n) (m := 14) (ea_cons (ed_var h0) (ea_cons (ed_var h2) (ea_cons (ed_var h2) (ea_cons ed_int ea_nil)))) (by omega)
    generalize (prM n (celM 14 3 sc) n (celM 14 3 sc).length).st = lp at oP pP
    generalize (buM n (celM 8 3 sc) n (celM 8 3 sc).length).st = lb at lB oB no ⊢
    refine q_no (EdT.is (et_test (ed_op (ed_op (ed_mtop (ea_cons (ed_var rfl) ea_nil) oB) (ed_neg ed_int) (rd_ix (ix_lastm (mks_ne oB.ne)))) (ed_lst2 ed_str ed_str) (rd_ninL rfl rfl))) ?_) ?_
    · change (mks inm0 .st lb).getLastD .lv = .dn ∨ (mks inm0 .st lb).getLastD .lv = .st at lB
      rcases lB with e | e <;> rw [e] <;> decide +kernel
    refine go_forL (ds := [prg n lb, prg n lp]) (Ed.en (ed_lst2 (ed_var rfl) (pP rfl rfl)) no) (fun k Γ' => noOwn Γ' = true ∧ ∃ x3 x4 x5 x6 x7 x8, Γ' = [.dt (.list (sc.map .int)), .dt (.int W), .dt (.int (n : Int)), x3, x4, x5, x6, x7, x8]) ⟨no, _, _, _, _, _, _, rfl⟩ ?_ ?_
    · rintro k' d Γ' G'' hd' ⟨no, x3, x4, x5, x6, x7, x8, rfl⟩
      have hl : ∃ l, d = prg n l ∧ OkP n l := by
        match k', hd' with
        | 0, hd => cases hd; exact ⟨lb, rfl, oB⟩
        | 1, hd => cases hd; exact ⟨lp, rfl, oP⟩
        | k + 2, hd => cases hd
      obtain ⟨l, rfl, o⟩ := hl
      have no := noOwn_set (i := 4) (d := prg n l) no
      refine go_forL (ds := [.int 0, .int 3]) (Ed.en (ed_lst2 ed_int ed_int) no) (fun k Γ' => noOwn Γ' = true ∧ ∃ x5 x6 x7 x8, Γ' = [.dt (.list (sc.map .int)), .dt (.int W), .dt (.int (n : Int)), x3, .dt (prg n l), x5, x6, x7, x8]) ⟨no, _, _, _, _, rfl⟩ ?_ ?_
      · rintro k3 d Γ' G3 hd3 ⟨no, x5, x6, x7, x8, rfl⟩
        have hb : ∃ b : Nat, d = .int (b : Int) ∧ b ≤ 3 := by
          match k3, hd3 with
          | 0, hd => cases hd; exact ⟨0, rfl, by decide⟩
          | 1, hd => cases hd; exact ⟨3, rfl, by decide⟩
          | k + 2, hd => cases hd
        obtain ⟨b, rfl, b3⟩ := hb
        have no := noOwn_set (i := 5) (d := .int (b : Int)) no
        have f1 := plsM_few (celM 63 5 sc) b n
        have f2 := plsM_few (celM 63 5 sc) (b + 5) n
        have g1 := plsM_len (celM 63 5 sc) b n
        have g2 := plsM_len (celM 63 5 sc) (b + 5) n
        refine q_par (d1 := .list ((plsM (celM 63 5 sc) b n).map nm)) (d2 := .list ((plsM (celM 63 5 sc) (b + 5) n).map nm)) (Ed.en (ed_places (ea_cons (ed_var rfl) (ea_cons (ed_var rfl) (ea_cons (ed_var rfl) ea_nil))) (by omega)) no) (Ed.en (ed_places (b := b + 5) (ea_cons (ed_var rfl) (ea_cons (Ed.is (d := .int ((b : Int) + 5)) (ed_op (ed_var rfl) ed_int rd_add) rfl) (ea_cons (ed_var rfl) ea_nil))) (by omega)) no) ?_
        have no := noOwn_set (i := 6) (d := .list ((plsM (celM 63 5 sc) b n).map nm)) no
        have no := noOwn_set (i := 7) (d := .list ((plsM (celM 63 5 sc) (b + 5) n).map nm)) no
        generalize plsM (celM 63 5 sc) b n = pa at f1 g1 no ⊢
        generalize plsM (celM 63 5 sc) (b + 5) n = pb at f2 g2 no ⊢
        have w1 := Int.emod_nonneg W (show (9 : Int) ≠ 0 by decide)
        have w2 := Int.emod_lt_of_pos W (show (0 : Int) < 9 by decide)
        have t1 : Bit (Rat.divInt 1 2) := bit_div (.inl rfl) (by decide) (by decide)
        have t2 : Bit (Rat.divInt 1 3) := bit_div (.inr (.inl rfl)) (by decide) (by decide)
        have t3 : Bit (Rat.divInt (1 + W % 9) 11) := bit_div (.inr (.inr rfl)) (by omega) (by omega)
        have l11 : (0 : Int) < 11 ∧ Lt2 8500 (11 : Int).natAbs := ⟨by decide, ⟨lt_2 (x := 11) (n := 8500) 16 (by decide) (Nat.le_trans (show 16 ≤ 2 ^ 4 by decide) (Nat.pow_le_pow_right (n := 2) (by decide) (by decide)))⟩⟩
        refine go_forL (ds := [nm (Rat.divInt 1 2), nm (Rat.divInt 1 3), nm (Rat.divInt (1 + W % 9) 11)]) (Ed.en (ed_lst3 (Ed.is (ed_tup2 ed_int ed_int) (by rw [nm_low (by decide)]; rfl)) (Ed.is (ed_tup2 ed_int ed_int) (by rw [nm_low (by decide)]; rfl)) (ed_lowest (ea_cons (ed_op ed_int (ed_op (ed_var rfl) ed_int (rd_mod (by decide))) rd_add) (ea_cons ed_int ea_nil)) l11)) no) (fun k Γ' => noOwn Γ' = true ∧ ∃ x8, Γ' = [.dt (.list (sc.map .int)), .dt (.int W), .dt (.int (n : Int)), x3, .dt (prg n l), .dt (.int (b : Int)), .dt (.list (pa.map nm)), .dt (.list (pb.map nm)), x8]) ⟨no, _, rfl⟩ ?_ ?_
        · rintro k4 d Γ' G4 hd4 ⟨no, x8, rfl⟩
          have ht : ∃ t, d = nm t ∧ Bit t := by
            match k4, hd4 with
            | 0, hd => cases hd; exact ⟨_, rfl, t1⟩
            | 1, hd => cases hd; exact ⟨_, rfl, t2⟩
            | 2, hd => cases hd; exact ⟨_, rfl, t3⟩
            | k + 3, hd => cases hd
          obtain ⟨t, rfl, bt⟩ := ht
          have no := noOwn_set (i := 8) (d := nm t) no
          refine go_no (EdT.is (et_not (et_test (ed_right (ea_cons (ed_var rfl) (ea_cons (ed_var rfl) (ea_cons (ed_var rfl) (ea_cons (ed_var rfl) ea_nil)))) o ⟨g1, g2⟩ ⟨f1, f2⟩ bt))) rfl) ?_
          exact go_next (go_nx ⟨no, .dt (nm t), rfl⟩)
        · rintro Γ' ⟨no, x8, rfl⟩
          exact go_nx ⟨no, _, _, _, _, rfl⟩
      · rintro Γ' ⟨no, x5, x6, x7, x8, rfl⟩
        exact go_nx ⟨no, _, _, _, _, _, _, rfl⟩
    · rintro Γ' ⟨no, x3, x4, x5, x6, x7, x8, rfl⟩
      exact go_nx ⟨no, _, _, _, _, _, _, _, rfl⟩
  · rintro Γ' ⟨no, x2, x3, x4, x5, x6, x7, x8, rfl⟩
    exact go_ret ed_bl q
end
end BW

namespace BW
open PySem PySem.Spec PyProof.Rows L2 Evl
theorem defI_mk {K : PySem.W.Frag} {mg : Str → Option Value} {h : Heap} {x : Str} {st : Stmt} {ps : List Str} {f : Addr} {oc kV doc pm cdv ct : Value} {od an : Option Addr} {osl : Array (Option Value)} (X : K.In h) (G : h.Ns mainGlobals mg) (a : PySem.W.nsIn K mainGlobals x = some (some (.ref f)))
    (l : K.lookup f = some ⟨oc, od, .func (PySem.W.fnOf x x (defArgs st) (defBody st) (defScope st) .none kV doc pm an cdv ct), osl⟩) (c : PySem.W.codeIn K cdv x = true) (k : PySem.W.keepIn K (.ref f) = true)
    (hb : ∀ (kV doc pm : Value) (an : Option Addr) (cdv ct : Value) (us : List Value), us.length = ps.length → bindArgs (PySem.W.fnOf x x (defArgs st) (defBody st) (defScope st) .none kV doc pm an cdv ct) ⟨us, []⟩ = pure (ps.zip us)) : DefI K mg x st ps :=
  ⟨⟨f, _, fun_mk (st := st) l c k, PySem.W.mg_of X G a, (fun_mk (st := st) l c k).binds hb⟩⟩
section
variable {K : PySem.W.Frag} {mg : Str → Option Value} {h : Heap} (X : K.In h) (G : h.Ns mainGlobals mg)
include X G
theorem glob_int {x : Str} {n : Int} {t : _} (a : PySem.W.nsIn K mainGlobals x = some (some (.int n t))) : GlobI mg x (.int n) := ⟨_, PySem.W.mg_of X G a, t, rfl⟩
theorem glob_str {x s : Str} {t : _} (a : PySem.W.nsIn K mainGlobals x = some (some (.str s t))) : GlobI mg x (.str s) := ⟨_, PySem.W.mg_of X G a, t, rfl⟩
theorem kinds_mk {k : Addr} {its : Array Value} {n : Nat} {od : Option Addr} {osl : Array (Option Value)} (a : PySem.W.nsIn K mainGlobals "KINDS" = some (some (.ref k))) (l : K.lookup k = some ⟨.type "tuple", od, .seq its n, osl⟩) (hs : its.size ≤ sizeLine)
    (v : Vals [.str "is", .str "in", .str "sum", .str "by", .str "least", .str "most", .str "if", .str "turns"] its.toList) :
    ∃ a, GlobI mg "KINDS" (.ref a) ∧ ∀ H, Dp K H (.ref a) (.tuple [.str "is", .str "in", .str "sum", .str "by", .str "least", .str "most", .str "if", .str "turns"]) :=
  ⟨k, ⟨_, PySem.W.mg_of X G a, rfl⟩, fun H => .tup (.inr ⟨_, its, n, l, rfl, rfl, hs, v⟩) (.cons (.str _) (.cons (.str _) (.cons (.str _) (.cons (.str _) (.cons (.str _) (.cons (.str _) (.cons (.str _) (.cons (.str _) .nil))))))))⟩
end
def okN : Stp → Prop := fun _ => False
def okA : Stp → Prop := fun _ => True
theorem okA_all : ∀ s, okA s := fun _ => trivial
theorem okf : ∀ (m i : Nat) (body : List BStep), flatS (.turns m i body) → ∀ b ∈ body, okN (.b b) := fun _ _ _ h => h.elim
theorem oka : ∀ (m i : Nat) (body : List BStep), okA (.turns m i body) → ∀ b ∈ body, flatS (.b b) := fun _ _ _ _ _ _ => trivial
theorem no_all {l : List Stp} (h : l ≠ []) (g : ∀ s ∈ l, okN s) : False := by
  cases l with
  | nil => exact h rfl
  | cons s r => exact g s List.mem_cons_self
theorem all_mk {P : Program} {w : World} {K : PySem.W.Frag} {mg : Str → Option Value} {h : Heap} {fa f : Addr} {oc kV doc pm cdv ct : Value} {od an : Option Addr} {osl : Array (Option Value)} (X : K.In h) (G : h.Ns mainGlobals mg) (hfa : mg "law" = some (.ref fa)) (T : Tx K mg)
    (I_is_whole : DefI K mg "is_whole" sis_whole ["thing"])
    (I_common : DefI K mg "common" scommon ["one", "other"])
    (I_is_number : DefI K mg "is_number" sis_number ["thing"])
    (I_lowest : DefI K mg "lowest" slowest ["above", "below"])
    (I_add : DefI K mg "add" sadd ["one", "other"])
    (I_grow : DefI K mg "grow" sgrow ["one", "other"])
    (I_lies : DefI K mg "lies" slies ["one", "other"])
    (I_is_ahead : DefI K mg "is_ahead" sis_ahead ["thing", "at"])
    (I_is_step : DefI K mg "is_step" sis_step ["step", "at", "inputs", "depth"])
    (I_is_turn : DefI K mg "is_turn" sis_turn ["step", "at", "depth"])
    (I_are_steps : DefI K mg "are_steps" sare_steps ["steps", "inputs", "depth"])
    (I_counted : DefI K mg "counted" scounted ["steps"])
    (I_asked_program : DefI K mg "asked_program" sasked_program ["program"])
    (I_asked_places : DefI K mg "asked_places" sasked_places ["program", "places"])
    (I_worth_of : DefI K mg "worth_of" sworth_of ["step", "found", "places"])
    (I_worths_of : DefI K mg "worths_of" sworths_of ["steps", "places"])
    (I_worths : DefI K mg "worths" sworths ["program", "places"])
    (I_mixed_mark : DefI K mg "mixed_mark" smixed_mark ["one", "other", "bent"])
    (I_scaled_mark : DefI K mg "scaled_mark" sscaled_mark ["mark", "number"])
    (I_mark_of : DefI K mg "mark_of" smark_of ["step", "found", "begin"])
    (I_marks_of : DefI K mg "marks_of" smarks_of ["steps", "begin"])
    (I_marks : DefI K mg "marks" smarks ["program"])
    (I__law_number : DefI K mg "_law_number" s_law_number ["_law_cell", "_law_at", "_law_whole"])
    (I__law_low : DefI K mg "_law_low" s_law_low ["_law_above", "_law_below"])
    (I__law_add : DefI K mg "_law_add" s_law_add ["_law_one", "_law_other"])
    (I__law_by : DefI K mg "_law_by" s_law_by ["_law_one", "_law_other"])
    (I__law_before : DefI K mg "_law_before" s_law_before ["_law_one", "_law_other"])
    (I__law_share : DefI K mg "_law_share" s_law_share ["_law_number_here", "_law_wide"])
    (I__law_places : DefI K mg "_law_places" s_law_places ["_law_script", "_law_by_here", "_law_many"])
    (I__law_body : DefI K mg "_law_body" s_law_body ["_law_number_here"])
    (I__law_program : DefI K mg "_law_program" s_law_program ["_law_script", "_law_by_here", "_law_inputs", "_law_most"])
    (I__law_bulging : DefI K mg "_law_bulging" s_law_bulging ["_law_script", "_law_by_here", "_law_inputs", "_law_most"])
    (I__law_right : DefI K mg "_law_right" s_law_right ["_law_program_here", "_law_one", "_law_other", "_law_bit"])
    (a : PySem.W.nsIn K mainGlobals "law" = some (some (.ref f))) (l : K.lookup f = some ⟨oc, od, .func (PySem.W.fnOf "law" "law" (defArgs slaw) (defBody slaw) (defScope slaw) .none kV doc pm an cdv ct), osl⟩) (c : PySem.W.codeIn K cdv "law" = true) (k : PySem.W.keepIn K (.ref f) = true) :
    ∃ fd : FuncData, (∀ (s : Shared) (v : Value), BindsTo s fd ⟨[v], []⟩ [("_law_script", v)]) ∧ ∀ base : Heap, K.In base → base.Ns mainGlobals mg → FnOk P w K mg base CX0 19 fa fd ["_law_script"] (spD K R_law) := by
  have e := hfa.symm.trans (PySem.W.mg_of X G a)
  cases e
  refine ⟨PySem.W.fnOf "law" "law" (defArgs slaw) (defBody slaw) (defScope slaw) .none kV doc pm an cdv ct, fun s v => .of_eq rfl, fun base _ _ => ?_⟩
  have c_whole : Cl P w K mg base 1 "is_whole" R_is_whole := ok_is_whole T I_is_whole
  have c_common : Cl P w K mg base 1 "common" R_common := ok_common T I_common
  have c_number : Cl P w K mg base 2 "is_number" R_is_number := ok_is_number T I_is_number c_whole c_common
  have c_lowest : Cl P w K mg base 2 "lowest" R_lowest := ok_lowest T I_lowest c_common
  have c_add : Cl P w K mg base 3 "add" R_add := ok_add T I_add c_lowest
  have c_grow : Cl P w K mg base 3 "grow" R_grow := ok_grow T I_grow c_lowest
  have c_lies : Cl P w K mg base 1 "lies" R_lies := ok_lies T I_lies
  have c_ahead : Cl P w K mg base 2 "is_ahead" R_is_ahead := ok_is_ahead T I_is_ahead c_whole
  have t_turn1 : Cl P w K mg base 0 "is_turn" (R_turn 1) := cl_never I_is_turn fun ds d r => by
    have := r.1
    omega
  have c_step1 : Cl P w K mg base 3 "is_step" (R_step 1) := ok_is_step T I_is_step c_whole c_number c_ahead t_turn1
  have c_steps1 : Cl P w K mg base 4 "are_steps" (R_steps 1) := ok_are_steps T I_are_steps c_step1
  have c_turn : Cl P w K mg base 7 "is_turn" (R_turn 0) := ok_is_turn T I_is_turn c_whole c_ahead c_steps1
  have c_step0 : Cl P w K mg base 10 "is_step" (R_step 0) := ok_is_step T I_is_step c_whole c_number c_ahead c_turn
  have c_steps0 : Cl P w K mg base 11 "are_steps" (R_steps 0) := ok_are_steps T I_are_steps c_step0
  have c_count0 : Cl P w K mg base 0 "counted" (R_counted okN) := cl_never I_counted fun ds d r => by
    obtain ⟨l, _, h1, h2, _⟩ := r
    exact no_all h1 fun s hs => (h2 s hs).1
  have c_count1 : Cl P w K mg base 1 "counted" (R_counted flatS) := ok_counted okf T I_counted c_count0
  have c_count2 : Cl P w K mg base 2 "counted" (R_counted okA) := ok_counted oka T I_counted c_count1
  have c_askp : Cl P w K mg base 13 "asked_program" R_askp := ok_asked_program okA_all T I_asked_program c_whole c_steps0 (c_count2.mono (by decide))
  have c_askl : Cl P w K mg base 3 "asked_places" R_askl := ok_asked_places T I_asked_places c_number
  have c_worths0 : Cl P w K mg base 0 "worths_of" (R_worths (fun _ _ => 0) okN) := cl_never I_worths_of fun ds d r => by
    obtain ⟨l, _, _, _, h1, h2, _⟩ := r
    exact no_all h1.1 h2.2
  have c_worth1 : Cl P w K mg base 4 "worth_of" (R_worth (inn fun _ _ => 0) flatS) := ok_worth_of okf T I_worth_of c_add c_grow c_lies c_worths0
  have c_worths1 : Cl P w K mg base 5 "worths_of" (R_worths (inn fun _ _ => 0) flatS) := ok_worths_of (fun _ _ _ => inB_inn) T I_worths_of c_worth1
  have c_worth2 : Cl P w K mg base 9 "worth_of" (R_worth inn0 okA) := ok_worth_of oka T I_worth_of c_add c_grow c_lies c_worths1
  have c_worths2 : Cl P w K mg base 10 "worths_of" (R_worths inn0 okA) := ok_worths_of (fun _ _ _ => inB_inn) T I_worths_of c_worth2
  have c_wtop : Cl P w K mg base 17 "worths" R_wtop := ok_worths okA_all T I_worths c_askp c_askl (c_worths2.mono (by decide))
  have c_mixed : Cl P w K mg base 1 "mixed_mark" R_mixed := ok_mixed_mark T I_mixed_mark
  have c_scaled : Cl P w K mg base 1 "scaled_mark" R_scaled := ok_scaled_mark T I_scaled_mark
  have c_marks0 : Cl P w K mg base 0 "marks_of" (R_marks (fun _ _ => .lv) okN) := cl_never I_marks_of fun ds d r => by
    obtain ⟨l, _, _, _, h1, h2, _⟩ := r
    exact no_all h1.1 h2.2
  have c_mark1 : Cl P w K mg base 2 "mark_of" (R_mark (inm fun _ _ => .lv) flatS) := ok_mark_of okf T I_mark_of c_mixed c_scaled c_marks0
  have c_marks1 : Cl P w K mg base 3 "marks_of" (R_marks (inm fun _ _ => .lv) flatS) := ok_marks_of T I_marks_of c_mark1
  have c_mark2 : Cl P w K mg base 5 "mark_of" (R_mark inm0 okA) := ok_mark_of oka T I_mark_of c_mixed c_scaled c_marks1
  have c_marks2 : Cl P w K mg base 6 "marks_of" (R_marks inm0 okA) := ok_marks_of T I_marks_of c_mark2
  have c_mtop : Cl P w K mg base 14 "marks" R_mtop := ok_marks okA_all T I_marks c_askp (c_marks2.mono (by decide))
  have c_lnum : Cl P w K mg base 1 "_law_number" R_num := ok__law_number T I__law_number
  have c_llow : Cl P w K mg base 1 "_law_low" R_lowest := ok__law_low T I__law_low
  have c_ladd : Cl P w K mg base 2 "_law_add" R_add := ok__law_add T I__law_add c_llow
  have c_lby : Cl P w K mg base 2 "_law_by" R_grow := ok__law_by T I__law_by c_llow
  have c_lbef : Cl P w K mg base 1 "_law_before" R_before := ok__law_before T I__law_before
  have c_lsh : Cl P w K mg base 2 "_law_share" R_share := ok__law_share T I__law_share c_llow
  have c_lpl : Cl P w K mg base 3 "_law_places" R_places := ok__law_places T I__law_places (c_lnum.mono (by decide)) c_lsh
  have c_lbody : ClF P w K mg base 3 "_law_body" R_body := ok__law_body T I__law_body c_lsh
  have c_lprog : Cl P w K mg base 4 "_law_program" R_prog := ok__law_program T I__law_program (c_lnum.mono (by decide)) (c_lsh.mono (by decide)) c_lbody
  have c_lbulg : Cl P w K mg base 3 "_law_bulging" R_bulg := ok__law_bulging T I__law_bulging (c_lnum.mono (by decide)) c_lsh
  have c_lright : Cl P w K mg base 18 "_law_right" R_right := ok__law_right T I__law_right (c_mtop.mono (by decide)) c_wtop (c_ladd.mono (by decide)) (c_lby.mono (by decide)) (c_lbef.mono (by decide))
  exact ok_law T (fun_mk (st := slaw) l c k) (c_lbulg.mono (by decide)) (c_mtop.mono (by decide)) (c_lprog.mono (by decide)) (c_lpl.mono (by decide)) (c_llow.mono (by decide)) c_lright
theorem law_true {K : PySem.W.Frag} {H : Hp} {a : Addr} {ns : List Int} {E : XK} (h : SqL K H a (ns.map V.int)) : spD K R_law [.ref a] H (fun v _ => v = .bl true) E :=
  ⟨[.list (ns.map .int)], .bool true, .cons (.lst h (dpa_ints ns)) .nil, ⟨ns, rfl, rfl⟩, fun v H' _ hv => dp_bool hv⟩
theorem walk {l : PySem.W.OpenLaw} {q : Program} {loose : List Str} {XP : (Str → Option Value) → Heap → Prop} {YP : World → Heap → Prop} {d : DefRec} {K : Params → PySem.W.Frag} (hn : l.most = some 63) (hdf : d.params.defaults = []) (hY : ∀ (w : World) (h : Heap), YP w h → (K w.params).In h)
    (F : ∀ (w : World) (mg : Str → Option Value) (fa : Addr) (h : Heap), (K w.params).In h → h.Ns mainGlobals mg → mg d.name = some (.ref fa) → ∃ fd : FuncData, (∀ (s : Shared) (u : Value), BindsTo s fd ⟨[u], []⟩ [("_law_script", u)]) ∧ ∀ base : Heap, (K w.params).In base → base.Ns mainGlobals mg → FnOk l.prog w (K w.params) mg base CX0 19 fa fd ["_law_script"] (spD (K w.params) R_law)) :
    PySem.W.WalkO q loose XP YP l.row.toRowW d [] (fun f vs => PySem.call f vs) :=
  L2.walk_of (n := 63) (k := 19) (x := "_law_script") (CX := fun _ => CX0) (sp := fun w => spD (K w.params) R_law) hn (by decide) hdf ⟨rfl, by decide, by decide⟩ hY F (fun _ _ _ _ _ _ hS => law_true hS) fun _ _ _ _ _ z => z
end BW

open PySem PySem.W PyProof.Rows in
set_option maxRecDepth 100000 in
set_option maxHeartbeats 0 in
theorem PySem.Challenge.cw_bendwright_k34_whole_marks_bulge_holds : PySem.Challenge.rw_bendwright_k34_whole_marks_bulge.Holds := by
  w_on; o_law; k_head; (case hw => w_witness2)
  k_fill
  refine BW.walk (l := PySem.Challenge.rw_bendwright_k34_whole_marks_bulge) rfl rfl (fun w h Y => PySem.W.kIn_of Y) ?F
  case F =>
    intro w mg fa h KX G (hmg : mg "law" = some (.ref fa))
    refine' BW.all_mk KX G hmg ?T ?I_is_whole ?I_common ?I_is_number ?I_lowest ?I_add ?I_grow ?I_lies ?I_is_ahead ?I_is_step ?I_is_turn ?I_are_steps ?I_counted ?I_asked_program ?I_asked_places ?I_worth_of ?I_worths_of ?I_worths ?I_mixed_mark ?I_scaled_mark ?I_mark_of ?I_marks_of ?I_marks ?I__law_number ?I__law_low ?I__law_add ?I__law_by ?I__law_before ?I__law_share ?I__law_places ?I__law_body ?I__law_program ?I__law_bulging ?I__law_right ?a ?l ?c ?k
    case T =>
      refine' ⟨PySem.W.mg_none_of KX G ?n_isinstance, PySem.W.mg_none_of KX G ?n_len, PySem.W.mg_none_of KX G ?n_abs, PySem.W.mg_none_of KX G ?n_all, PySem.W.mg_none_of KX G ?n_sum, PySem.W.mg_none_of KX G ?n_min, PySem.W.mg_none_of KX G ?n_range, PySem.W.mg_none_of KX G ?n_enumerate, PySem.W.mg_none_of KX G ?n_zip, PySem.W.mg_none_of KX G ?n_int, PySem.W.mg_none_of KX G ?n_bool, PySem.W.mg_none_of KX G ?n_str, PySem.W.mg_none_of KX G ?n_tuple, PySem.W.mg_none_of KX G ?n_list, BW.glob_int KX G ?v_MOST_INPUTS, BW.glob_int KX G ?v_MOST_STEPS, BW.glob_int KX G ?v_MOST_RUN, BW.glob_int KX G ?v_MOST_CHOICES, BW.glob_int KX G ?v_MOST_TURNS, BW.glob_str KX G ?v_LEVEL, BW.glob_str KX G ?v_STRAIGHT, BW.glob_str KX G ?v_DOWN, BW.glob_str KX G ?v_UP, BW.glob_str KX G ?v_NONE, BW.kinds_mk KX G ?ka ?kl ?ks ?kv⟩
      (case n_isinstance => k_is)
      (case n_len => k_is)
      (case n_abs => k_is)
      (case n_all => k_is)
      (case n_sum => k_is)
      (case n_min => k_is)
      (case n_range => k_is)
      (case n_enumerate => k_is)
      (case n_zip => k_is)
      (case n_int => k_is)
      (case n_bool => k_is)
      (case n_str => k_is)
      (case n_tuple => k_is)
      (case n_list => k_is)
      (case v_MOST_INPUTS => k_is)
      (case v_MOST_STEPS => k_is)
      (case v_MOST_RUN => k_is)
      (case v_MOST_CHOICES => k_is)
      (case v_MOST_TURNS => k_is)
      (case v_LEVEL => k_is)
      (case v_STRAIGHT => k_is)
      (case v_DOWN => k_is)
      (case v_UP => k_is)
      (case v_NONE => k_is)
      (case ka => k_is)
      (case kl => k_is)
      (case ks => decide +kernel)
      (case kv => exact .cons ⟨_, rfl⟩ (.cons ⟨_, rfl⟩ (.cons ⟨_, rfl⟩ (.cons ⟨_, rfl⟩ (.cons ⟨_, rfl⟩ (.cons ⟨_, rfl⟩ (.cons ⟨_, rfl⟩ (.cons ⟨_, rfl⟩ .nil))))))))
    (case I_is_whole => (refine' BW.defI_mk KX G ?a1 ?l1 ?c1 ?k1 ?b1; (case a1 => k_is); (case l1 => k_is); (case c1 => k_is); (case k1 => k_is); (case b1 => exact fun _ _ _ _ _ _ us hl => match us, hl with | [_], _ => rfl)))
    (case I_common => (refine' BW.defI_mk KX G ?a1 ?l1 ?c1 ?k1 ?b1; (case a1 => k_is); (case l1 => k_is); (case c1 => k_is); (case k1 => k_is); (case b1 => exact fun _ _ _ _ _ _ us hl => match us, hl with | [_, _], _ => rfl)))
    (case I_is_number => (refine' BW.defI_mk KX G ?a1 ?l1 ?c1 ?k1 ?b1; (case a1 => k_is); (case l1 => k_is); (case c1 => k_is); (case k1 => k_is); (case b1 => exact fun _ _ _ _ _ _ us hl => match us, hl with | [_], _ => rfl)))
    (case I_lowest => (refine' BW.defI_mk KX G ?a1 ?l1 ?c1 ?k1 ?b1; (case a1 => k_is); (case l1 => k_is); (case c1 => k_is); (case k1 => k_is); (case b1 => exact fun _ _ _ _ _ _ us hl => match us, hl with | [_, _], _ => rfl)))
    (case I_add => (refine' BW.defI_mk KX G ?a1 ?l1 ?c1 ?k1 ?b1; (case a1 => k_is); (case l1 => k_is); (case c1 => k_is); (case k1 => k_is); (case b1 => exact fun _ _ _ _ _ _ us hl => match us, hl with | [_, _], _ => rfl)))
    (case I_grow => (refine' BW.defI_mk KX G ?a1 ?l1 ?c1 ?k1 ?b1; (case a1 => k_is); (case l1 => k_is); (case c1 => k_is); (case k1 => k_is); (case b1 => exact fun _ _ _ _ _ _ us hl => match us, hl with | [_, _], _ => rfl)))
    (case I_lies => (refine' BW.defI_mk KX G ?a1 ?l1 ?c1 ?k1 ?b1; (case a1 => k_is); (case l1 => k_is); (case c1 => k_is); (case k1 => k_is); (case b1 => exact fun _ _ _ _ _ _ us hl => match us, hl with | [_, _], _ => rfl)))
    (case I_is_ahead => (refine' BW.defI_mk KX G ?a1 ?l1 ?c1 ?k1 ?b1; (case a1 => k_is); (case l1 => k_is); (case c1 => k_is); (case k1 => k_is); (case b1 => exact fun _ _ _ _ _ _ us hl => match us, hl with | [_, _], _ => rfl)))
    (case I_is_step => (refine' BW.defI_mk KX G ?a1 ?l1 ?c1 ?k1 ?b1; (case a1 => k_is); (case l1 => k_is); (case c1 => k_is); (case k1 => k_is); (case b1 => exact fun _ _ _ _ _ _ us hl => match us, hl with | [_, _, _, _], _ => rfl)))
    (case I_is_turn => (refine' BW.defI_mk KX G ?a1 ?l1 ?c1 ?k1 ?b1; (case a1 => k_is); (case l1 => k_is); (case c1 => k_is); (case k1 => k_is); (case b1 => exact fun _ _ _ _ _ _ us hl => match us, hl with | [_, _, _], _ => rfl)))
    (case I_are_steps => (refine' BW.defI_mk KX G ?a1 ?l1 ?c1 ?k1 ?b1; (case a1 => k_is); (case l1 => k_is); (case c1 => k_is); (case k1 => k_is); (case b1 => exact fun _ _ _ _ _ _ us hl => match us, hl with | [_, _, _], _ => rfl)))
    (case I_counted => (refine' BW.defI_mk KX G ?a1 ?l1 ?c1 ?k1 ?b1; (case a1 => k_is); (case l1 => k_is); (case c1 => k_is); (case k1 => k_is); (case b1 => exact fun _ _ _ _ _ _ us hl => match us, hl with | [_], _ => rfl)))
    (case I_asked_program => (refine' BW.defI_mk KX G ?a1 ?l1 ?c1 ?k1 ?b1; (case a1 => k_is); (case l1 => k_is); (case c1 => k_is); (case k1 => k_is); (case b1 => exact fun _ _ _ _ _ _ us hl => match us, hl with | [_], _ => rfl)))
    (case I_asked_places => (refine' BW.defI_mk KX G ?a1 ?l1 ?c1 ?k1 ?b1; (case a1 => k_is); (case l1 => k_is); (case c1 => k_is); (case k1 => k_is); (case b1 => exact fun _ _ _ _ _ _ us hl => match us, hl with | [_, _], _ => rfl)))
    (case I_worth_of => (refine' BW.defI_mk KX G ?a1 ?l1 ?c1 ?k1 ?b1; (case a1 => k_is); (case l1 => k_is); (case c1 => k_is); (case k1 => k_is); (case b1 => exact fun _ _ _ _ _ _ us hl => match us, hl with | [_, _, _], _ => rfl)))
    (case I_worths_of => (refine' BW.defI_mk KX G ?a1 ?l1 ?c1 ?k1 ?b1; (case a1 => k_is); (case l1 => k_is); (case c1 => k_is); (case k1 => k_is); (case b1 => exact fun _ _ _ _ _ _ us hl => match us, hl with | [_, _], _ => rfl)))
    (case I_worths => (refine' BW.defI_mk KX G ?a1 ?l1 ?c1 ?k1 ?b1; (case a1 => k_is); (case l1 => k_is); (case c1 => k_is); (case k1 => k_is); (case b1 => exact fun _ _ _ _ _ _ us hl => match us, hl with | [_, _], _ => rfl)))
    (case I_mixed_mark => (refine' BW.defI_mk KX G ?a1 ?l1 ?c1 ?k1 ?b1; (case a1 => k_is); (case l1 => k_is); (case c1 => k_is); (case k1 => k_is); (case b1 => exact fun _ _ _ _ _ _ us hl => match us, hl with | [_, _, _], _ => rfl)))
    (case I_scaled_mark => (refine' BW.defI_mk KX G ?a1 ?l1 ?c1 ?k1 ?b1; (case a1 => k_is); (case l1 => k_is); (case c1 => k_is); (case k1 => k_is); (case b1 => exact fun _ _ _ _ _ _ us hl => match us, hl with | [_, _], _ => rfl)))
    (case I_mark_of => (refine' BW.defI_mk KX G ?a1 ?l1 ?c1 ?k1 ?b1; (case a1 => k_is); (case l1 => k_is); (case c1 => k_is); (case k1 => k_is); (case b1 => exact fun _ _ _ _ _ _ us hl => match us, hl with | [_, _, _], _ => rfl)))
    (case I_marks_of => (refine' BW.defI_mk KX G ?a1 ?l1 ?c1 ?k1 ?b1; (case a1 => k_is); (case l1 => k_is); (case c1 => k_is); (case k1 => k_is); (case b1 => exact fun _ _ _ _ _ _ us hl => match us, hl with | [_, _], _ => rfl)))
    (case I_marks => (refine' BW.defI_mk KX G ?a1 ?l1 ?c1 ?k1 ?b1; (case a1 => k_is); (case l1 => k_is); (case c1 => k_is); (case k1 => k_is); (case b1 => exact fun _ _ _ _ _ _ us hl => match us, hl with | [_], _ => rfl)))
    (case I__law_number => (refine' BW.defI_mk KX G ?a1 ?l1 ?c1 ?k1 ?b1; (case a1 => k_is); (case l1 => k_is); (case c1 => k_is); (case k1 => k_is); (case b1 => exact fun _ _ _ _ _ _ us hl => match us, hl with | [_, _, _], _ => rfl)))
    (case I__law_low => (refine' BW.defI_mk KX G ?a1 ?l1 ?c1 ?k1 ?b1; (case a1 => k_is); (case l1 => k_is); (case c1 => k_is); (case k1 => k_is); (case b1 => exact fun _ _ _ _ _ _ us hl => match us, hl with | [_, _], _ => rfl)))
    (case I__law_add => (refine' BW.defI_mk KX G ?a1 ?l1 ?c1 ?k1 ?b1; (case a1 => k_is); (case l1 => k_is); (case c1 => k_is); (case k1 => k_is); (case b1 => exact fun _ _ _ _ _ _ us hl => match us, hl with | [_, _], _ => rfl)))
    (case I__law_by => (refine' BW.defI_mk KX G ?a1 ?l1 ?c1 ?k1 ?b1; (case a1 => k_is); (case l1 => k_is); (case c1 => k_is); (case k1 => k_is); (case b1 => exact fun _ _ _ _ _ _ us hl => match us, hl with | [_, _], _ => rfl)))
    (case I__law_before => (refine' BW.defI_mk KX G ?a1 ?l1 ?c1 ?k1 ?b1; (case a1 => k_is); (case l1 => k_is); (case c1 => k_is); (case k1 => k_is); (case b1 => exact fun _ _ _ _ _ _ us hl => match us, hl with | [_, _], _ => rfl)))
    (case I__law_share => (refine' BW.defI_mk KX G ?a1 ?l1 ?c1 ?k1 ?b1; (case a1 => k_is); (case l1 => k_is); (case c1 => k_is); (case k1 => k_is); (case b1 => exact fun _ _ _ _ _ _ us hl => match us, hl with | [_, _], _ => rfl)))
    (case I__law_places => (refine' BW.defI_mk KX G ?a1 ?l1 ?c1 ?k1 ?b1; (case a1 => k_is); (case l1 => k_is); (case c1 => k_is); (case k1 => k_is); (case b1 => exact fun _ _ _ _ _ _ us hl => match us, hl with | [_, _, _], _ => rfl)))
    (case I__law_body => (refine' BW.defI_mk KX G ?a1 ?l1 ?c1 ?k1 ?b1; (case a1 => k_is); (case l1 => k_is); (case c1 => k_is); (case k1 => k_is); (case b1 => exact fun _ _ _ _ _ _ us hl => match us, hl with | [_], _ => rfl)))
    (case I__law_program => (refine' BW.defI_mk KX G ?a1 ?l1 ?c1 ?k1 ?b1; (case a1 => k_is); (case l1 => k_is); (case c1 => k_is); (case k1 => k_is); (case b1 => exact fun _ _ _ _ _ _ us hl => match us, hl with | [_, _, _, _], _ => rfl)))
    (case I__law_bulging => (refine' BW.defI_mk KX G ?a1 ?l1 ?c1 ?k1 ?b1; (case a1 => k_is); (case l1 => k_is); (case c1 => k_is); (case k1 => k_is); (case b1 => exact fun _ _ _ _ _ _ us hl => match us, hl with | [_, _, _, _], _ => rfl)))
    (case I__law_right => (refine' BW.defI_mk KX G ?a1 ?l1 ?c1 ?k1 ?b1; (case a1 => k_is); (case l1 => k_is); (case c1 => k_is); (case k1 => k_is); (case b1 => exact fun _ _ _ _ _ _ us hl => match us, hl with | [_, _, _, _], _ => rfl)))
    (case a => k_is)
    (case l => k_is)
    (case c => k_is)
    (case k => k_is)
