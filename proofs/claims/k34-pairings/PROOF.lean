import PyProof.Rows.All
import Wide.All
import OpenK.AllK
import Wide.FinOn
import HandS.ForMost
import HandS.More
import HandS.IsInst
import HandS.Style
import HandS.Walk
import PySem.Challenge.RW_aswritten_k34_pairings_and_short_lots
set_option Elab.async false
set_option linter.all false
set_option maxRecDepth 100000
namespace K34

/-! ### plain lists -/
theorem pigeon : ∀ (l U : List Int), l.Nodup → (∀ v ∈ l, v ∈ U) → l.length ≤ U.length
  | [], _, _, _ => Nat.zero_le _
  | a :: r, U, h, s => by
    have h' := List.nodup_cons.mp h
    have ha : a ∈ U := s a (by simp)
    have q := pigeon r (U.erase a) h'.2 (fun v hv => by
      have ne : v ≠ a := fun e => h'.1 (e ▸ hv)
      exact (List.mem_erase_of_ne ne).mpr (s v (by simp [hv])))
    rw [List.length_erase_of_mem ha] at q
    have p : 0 < U.length := List.length_pos_of_mem ha
    rw [List.length_cons]
    omega

/-! ### the dict from integers to numbers of rows -/
abbrev Tk := List (Int × Nat)
def look (t : Tk) (v : Int) : Option Nat := (t.find? fun p => decide (p.1 = v)).map (·.2)
def put (t : Tk) (v : Int) (k : Nat) : Tk :=
  if (t.any fun p => decide (p.1 = v)) = true then t.map (fun p => if p.1 = v then (p.1, k) else p) else t ++ [(v, k)]

theorem look_nil {v : Int} : look [] v = none := rfl
theorem look_pos {p : Int × Nat} {t : Tk} {v : Int} (e : p.1 = v) : look (p :: t) v = some p.2 := by simp [look, List.find?_cons, e]
theorem look_neg {p : Int × Nat} {t : Tk} {v : Int} (e : ¬ p.1 = v) : look (p :: t) v = look t v := by simp [look, List.find?_cons, e]
theorem look_any (v : Int) : ∀ t : Tk, (t.any fun p => decide (p.1 = v)) = (look t v).isSome
  | [] => rfl
  | p :: r => by
    rw [List.any_cons]
    by_cases e : p.1 = v
    · simp only [look_pos e, decide_eq_true e, Bool.true_or, Option.isSome_some]
    · rw [look_neg e, decide_eq_false e, Bool.false_or]; exact look_any v r
theorem look_mem {t : Tk} {v : Int} {r : Nat} (h : look t v = some r) : (v, r) ∈ t := by
  unfold look at h
  obtain ⟨p, hp, e⟩ := Option.map_eq_some_iff.mp h
  have m := List.mem_of_find?_eq_some hp
  have q := List.find?_some hp
  have q' : p.1 = v := of_decide_eq_true q
  have : p = (v, r) := by rw [← q', ← e]
  exact this ▸ m
theorem look_none {t : Tk} {v : Int} (h : look t v = none) : v ∉ t.map (·.1) := by
  intro m
  obtain ⟨p, hp, e⟩ := List.mem_map.mp m
  have q : (t.any fun p => decide (p.1 = v)) = true := List.any_eq_true.mpr ⟨p, hp, decide_eq_true e⟩
  rw [look_any, h] at q
  cases q
theorem look_of_mem : ∀ {t : Tk} {v : Int} {r : Nat}, (t.map (·.1)).Nodup → (v, r) ∈ t → look t v = some r
  | [], _, _, _, m => by cases m
  | p :: t, v, r, hn, m => by
    have hn' : p.1 ∉ t.map (·.1) ∧ (t.map (·.1)).Nodup := List.nodup_cons.mp hn
    rcases List.mem_cons.mp m with e | m
    · subst e; exact look_pos rfl
    · have ne : ¬ p.1 = v := fun e => hn'.1 (e ▸ List.mem_map.mpr ⟨_, m, rfl⟩)
      rw [look_neg ne]
      exact look_of_mem hn'.2 m
theorem put_new {t : Tk} {v : Int} {k : Nat} (h : look t v = none) : put t v k = t ++ [(v, k)] := by
  unfold put
  rw [look_any, h]
  exact if_neg (by decide)
theorem put_old {t : Tk} {v : Int} {k r : Nat} (h : look t v = some r) : put t v k = t.map (fun p => if p.1 = v then (p.1, k) else p) := by
  unfold put
  rw [look_any, h]
  exact if_pos rfl
theorem look_put (t : Tk) (v : Int) (k : Nat) (u : Int) : look (put t v k) u = if u = v then some k else look t u := by
  cases h : look t v with
  | none =>
    rw [put_new h]
    induction t with
    | nil =>
      by_cases e : u = v
      · subst e; rw [if_pos rfl]; exact look_pos rfl
      · rw [if_neg e]; exact look_neg (fun z => e z.symm)
    | cons p t ih =>
      have hpv : ¬ p.1 = v := fun e => by rw [look_pos e] at h; cases h
      rw [look_neg hpv] at h
      have ih := ih h
      show look (p :: (t ++ [(v, k)])) u = _
      by_cases e : p.1 = u
      · rw [look_pos e, look_pos e, if_neg (fun z => hpv (e.trans z))]
      · rw [look_neg e, look_neg e, ih]
  | some r =>
    rw [put_old h]
    induction t generalizing r with
    | nil => cases h
    | cons p t ih =>
      show look ((if p.1 = v then (p.1, k) else p) :: t.map _) u = _
      by_cases e : p.1 = v
      · rw [if_pos e]
        by_cases e2 : u = v
        · rw [if_pos e2]; exact look_pos (p := (p.1, k)) (e.trans e2.symm)
        · rw [if_neg e2, look_neg (p := (p.1, k)) (fun z => e2 (z.symm.trans e)), look_neg (fun z => e2 (z.symm.trans e))]
          cases h2 : look t v with
          | some r2 => rw [ih r2 h2, if_neg e2]
          | none =>
            have : t.map (fun p => if p.1 = v then (p.1, k) else p) = t := by
              rw [List.map_congr_left (g := id)]
              · exact List.map_id _
              · intro q hq
                have : ¬ q.1 = v := fun z => look_none h2 (z ▸ List.mem_map.mpr ⟨q, hq, rfl⟩)
                rw [if_neg this]; rfl
            rw [this]
      · rw [if_neg e]
        rw [look_neg e] at h
        by_cases e2 : p.1 = u
        · rw [look_pos e2, look_pos e2, if_neg (fun z => e (e2.trans z))]
        · rw [look_neg e2, look_neg e2, ih r h]
theorem keys_put_old {t : Tk} {v : Int} {k r : Nat} (h : look t v = some r) : (put t v k).map (·.1) = t.map (·.1) := by
  rw [put_old h, List.map_map]
  refine List.map_congr_left fun p _ => ?_
  show (if p.1 = v then (p.1, k) else p).1 = p.1
  split <;> rfl
theorem keys_put_new {t : Tk} {v : Int} {k : Nat} (h : look t v = none) : (put t v k).map (·.1) = t.map (·.1) ++ [v] := by
  rw [put_new h, List.map_append]; rfl
theorem mem_put {t : Tk} {v : Int} {k : Nat} {p : Int × Nat} (h : p ∈ put t v k) : p = (v, k) ∨ p ∈ t := by
  cases e : look t v with
  | none =>
    rw [put_new e] at h
    rcases List.mem_append.mp h with h | h
    · exact .inr h
    · exact .inl (List.mem_singleton.mp h)
  | some r =>
    rw [put_old e] at h
    obtain ⟨q, hq, e2⟩ := List.mem_map.mp h
    by_cases c : q.1 = v
    · rw [if_pos c] at e2; rw [c] at e2; exact .inl e2.symm
    · rw [if_neg c] at e2; exact .inr (e2 ▸ hq)
theorem nodup_put {t : Tk} {v : Int} {k : Nat} (h : (t.map (·.1)).Nodup) : ((put t v k).map (·.1)).Nodup := by
  cases e : look t v with
  | none =>
    rw [keys_put_new e, List.nodup_append]
    refine ⟨h, by simp, ?_⟩
    intro a ha b hb
    have : b = v := List.mem_singleton.mp hb
    subst this
    exact fun z => look_none e (z ▸ ha)
  | some r => rw [keys_put_old e]; exact h
/-- one entry's row is changed -/
theorem perm_put_old : ∀ {t : Tk} {v : Int} {k r : Nat}, (t.map (·.1)).Nodup → look t v = some r → (r :: (put t v k).map (·.2)).Perm (k :: t.map (·.2))
  | [], _, _, _, _, h => by cases h
  | p :: t, v, k, r, hn, h => by
    have hn' : p.1 ∉ t.map (·.1) ∧ (t.map (·.1)).Nodup := List.nodup_cons.mp hn
    rw [put_old h]
    by_cases e : p.1 = v
    · rw [look_pos e] at h
      have er : p.2 = r := Option.some.inj h
      have : t.map (fun p => if p.1 = v then (p.1, k) else p) = t := by
        rw [List.map_congr_left (g := id)]
        · exact List.map_id _
        · intro q hq
          have : ¬ q.1 = v := fun z => hn'.1 (e ▸ z ▸ List.mem_map.mpr ⟨q, hq, rfl⟩)
          rw [if_neg this]; rfl
      rw [List.map_cons, this, if_pos e, ← er]
      exact List.Perm.swap _ _ _
    · rw [look_neg e] at h
      have ih := perm_put_old (k := k) hn'.2 h
      rw [put_old h] at ih
      rw [List.map_cons, if_neg e]
      show (r :: p.2 :: _).Perm (k :: p.2 :: _)
      exact (List.Perm.swap _ _ _).trans ((ih.cons p.2).trans (List.Perm.swap _ _ _))

/-! ### the search for one row more -/
abbrev R3 := Bool × Tk × List Int
def turn (rec : Nat → Tk → List Int → R3) (k : Nat) : List Int → Tk → List Int → R3
  | [], tk, sn => (false, tk, sn)
  | v :: vs, tk, sn =>
    if v ∈ sn then turn rec k vs tk sn else
    match look tk v with
    | none => (true, put tk v k, sn ++ [v])
    | some r =>
      match rec r tk (sn ++ [v]) with
      | (true, tk', sn') => (true, put tk' v k, sn')
      | (false, tk', sn') => turn rec k vs tk' sn'
def rowAt (rows : List (List Int)) (k : Nat) : List Int := rows.getD k []
def seat (rows : List (List Int)) : Nat → Nat → Tk → List Int → R3
  | 0, _, tk, sn => (false, tk, sn)
  | n + 1, k, tk, sn => turn (seat rows n) k (rowAt rows k) tk sn

structure WfT (rows : List (List Int)) (tk : Tk) : Prop where
  nd : (tk.map (·.1)).Nodup
  ok : ∀ p ∈ tk, p.2 < rows.length ∧ p.1 ∈ rowAt rows p.2
structure WfS (U sn : List Int) : Prop where
  nd : sn.Nodup
  sub : ∀ v ∈ sn, v ∈ U

theorem wfS_snoc {U sn : List Int} {v : Int} (h : WfS U sn) (hv : v ∈ U) (hn : v ∉ sn) : WfS U (sn ++ [v]) :=
  ⟨by
    rw [List.nodup_append]
    refine ⟨h.nd, by simp, fun a ha b hb => ?_⟩
    have : b = v := List.mem_singleton.mp hb
    subst this
    exact fun z => hn (z ▸ ha), fun u hu => by
    rcases List.mem_append.mp hu with z | z
    · exact h.sub u z
    · rw [List.mem_singleton.mp z]; exact hv⟩
theorem wfT_put {rows : List (List Int)} {tk : Tk} {v : Int} {k : Nat} (h : WfT rows tk) (hk : k < rows.length) (hv : v ∈ rowAt rows k) : WfT rows (put tk v k) :=
  ⟨nodup_put h.nd, fun p hp => by
    rcases mem_put hp with e | e
    · subst e; exact ⟨hk, hv⟩
    · exact h.ok p e⟩

/-- what a search leaves -/
structure Out (rows : List (List Int)) (U : List Int) (k : Nat) (tk : Tk) (sn : List Int) (o : R3) : Prop where
  wt : WfT rows o.2.1
  ws : WfS U o.2.2
  sub : ∀ v ∈ sn, v ∈ o.2.2
  len : sn.length ≤ o.2.2.length
  no : o.1 = false → o.2.1 = tk
  yes : o.1 = true → (o.2.1.map (·.2)).Perm (k :: tk.map (·.2))
  kept : ∀ v ∈ sn, look o.2.1 v = look tk v
  keys : ∀ v, look tk v ≠ none → look o.2.1 v ≠ none

theorem turn_out {rows : List (List Int)} {U : List Int} {rec : Nat → Tk → List Int → R3} {k : Nat} (hk : k < rows.length)
    (ih : ∀ r tk sn, r < rows.length → WfT rows tk → WfS U sn → Out rows U r tk sn (rec r tk sn)) :
    ∀ (vs : List Int) (tk : Tk) (sn : List Int), (∀ v ∈ vs, v ∈ rowAt rows k ∧ v ∈ U) → WfT rows tk → WfS U sn → Out rows U k tk sn (turn rec k vs tk sn)
  | [], tk, sn, _, wt, ws => ⟨wt, ws, fun _ h => h, Nat.le_refl _, fun _ => rfl, (fun z => by cases z), fun _ _ => rfl, fun _ h => h⟩
  | v :: vs, tk, sn, hv, wt, ws => by
    have hvs : ∀ u ∈ vs, u ∈ rowAt rows k ∧ u ∈ U := fun u hu => hv u (List.mem_cons_of_mem _ hu)
    have h0 := hv v (by simp)
    unfold turn
    by_cases c : v ∈ sn
    · rw [if_pos c]; exact turn_out hk ih vs tk sn hvs wt ws
    · rw [if_neg c]
      have ws1 : WfS U (sn ++ [v]) := wfS_snoc ws h0.2 c
      cases e : look tk v with
      | none =>
        refine ⟨wfT_put wt hk h0.1, ws1, fun u hu => by simp [hu], by simp, (fun z => by cases z), fun _ => ?_, fun u hu => ?_, fun u hu => ?_⟩
        · show ((put tk v k).map (·.2)).Perm _
          rw [put_new e, List.map_append]
          exact List.perm_append_comm
        · show look (put tk v k) u = look tk u
          rw [look_put, if_neg (show ¬ u = v from fun z => c (z ▸ hu))]
        · show look (put tk v k) u ≠ none
          rw [look_put]; split
          · simp
          · exact hu
      | some r =>
        have hr : r < rows.length := (wt.ok _ (look_mem e)).1
        have q := ih r tk (sn ++ [v]) hr wt ws1
        show Out rows U k tk sn (match rec r tk (sn ++ [v]) with
          | (true, tk', sn') => (true, put tk' v k, sn')
          | (false, tk', sn') => turn rec k vs tk' sn')
        rcases eo : rec r tk (sn ++ [v]) with ⟨b, tk', sn'⟩
        rw [eo] at q
        obtain ⟨q1, q2, q3, q4, q5, q6, q7, q8⟩ := q
        have vin : v ∈ sn' := q3 v (by simp)
        cases b with
        | true =>
          have lv : look tk' v = some r := (q7 v (by simp)).trans e
          refine ⟨wfT_put q1 hk h0.1, q2, fun u hu => q3 u (by simp [hu]), ?_, (fun z => by cases z), fun _ => ?_, fun u hu => ?_, fun u hu => ?_⟩
          · have : (sn ++ [v]).length ≤ sn'.length := q4
            rw [List.length_append] at this
            show sn.length ≤ sn'.length
            omega
          · have p1 := perm_put_old (k := k) q1.nd lv
            have p2 : (tk'.map (·.2)).Perm (r :: tk.map (·.2)) := q6 rfl
            have p3 : (r :: (put tk' v k).map (·.2)).Perm (r :: k :: tk.map (·.2)) := p1.trans ((p2.cons k).trans (List.Perm.swap _ _ _))
            exact List.Perm.cons_inv p3
          · show look (put tk' v k) u = look tk u
            rw [look_put, if_neg (show ¬ u = v from fun z => c (z ▸ hu))]
            exact q7 u (by simp [hu])
          · show look (put tk' v k) u ≠ none
            rw [look_put]; split
            · simp
            · exact q8 u hu
        | false =>
          have et : tk' = tk := q5 rfl
          subst et
          have z := turn_out hk ih vs tk' sn' hvs wt q2
          exact ⟨z.wt, z.ws, fun u hu => z.sub u (q3 u (by simp [hu])), by
            have : (sn ++ [v]).length ≤ sn'.length := q4
            rw [List.length_append] at this
            have := z.len
            show sn.length ≤ (turn rec k vs tk' sn').2.2.length
            omega, z.no, z.yes, fun u hu => (z.kept u (q3 u (by simp [hu]))), fun u hu => z.keys u hu⟩

theorem seat_out {rows : List (List Int)} {U : List Int} (hU : ∀ row ∈ rows, ∀ v ∈ row, v ∈ U) : ∀ (n k : Nat) (tk : Tk) (sn : List Int), k < rows.length → WfT rows tk → WfS U sn → Out rows U k tk sn (seat rows n k tk sn)
  | 0, k, tk, sn, _, wt, ws => ⟨wt, ws, fun _ h => h, Nat.le_refl _, fun _ => rfl, (fun z => by cases z), fun _ _ => rfl, fun _ h => h⟩
  | n + 1, k, tk, sn, hk, wt, ws => by
    refine turn_out hk (fun r tk sn hr => seat_out hU n r tk sn hr) (rowAt rows k) tk sn (fun v hv => ⟨hv, ?_⟩) wt ws
    have : rowAt rows k = rows[k] := by unfold rowAt; simp [List.getD, hk]
    exact hU rows[k] (List.getElem_mem hk) v (this ▸ hv)

/-- a lot of integers whose rows have no others -/
def Closed (rows : List (List Int)) (tk : Tk) (S : List Int) : Prop := ∀ v ∈ S, ∃ r, look tk v = some r ∧ ∀ u ∈ rowAt rows r, u ∈ S

/-- a search that fails has met all -/
theorem turn_closed {rows : List (List Int)} {U : List Int} {rec : Nat → Tk → List Int → R3} {k n : Nat} (hk : k < rows.length)
    (out : ∀ r tk sn, r < rows.length → WfT rows tk → WfS U sn → Out rows U r tk sn (rec r tk sn))
    (ih : ∀ r tk sn, r < rows.length → WfT rows tk → WfS U sn → U.length + 1 ≤ sn.length + n → (rec r tk sn).1 = false →
      (∀ u ∈ rowAt rows r, u ∈ (rec r tk sn).2.2) ∧ ∀ v ∈ (rec r tk sn).2.2, v ∉ sn → ∃ q, look tk v = some q ∧ ∀ u ∈ rowAt rows q, u ∈ (rec r tk sn).2.2) :
    ∀ (vs : List Int) (tk : Tk) (sn : List Int), (∀ v ∈ vs, v ∈ rowAt rows k ∧ v ∈ U) → WfT rows tk → WfS U sn → U.length + 1 ≤ sn.length + (n + 1) → (turn rec k vs tk sn).1 = false →
      (∀ u ∈ vs, u ∈ (turn rec k vs tk sn).2.2) ∧ ∀ v ∈ (turn rec k vs tk sn).2.2, v ∉ sn → ∃ q, look tk v = some q ∧ ∀ u ∈ rowAt rows q, u ∈ (turn rec k vs tk sn).2.2
  | [], tk, sn, _, _, _, _, _ => ⟨(fun _ h => by cases h), fun v h h' => absurd h h'⟩
  | v :: vs, tk, sn, hv, wt, ws, hf, he => by
    have hvs : ∀ u ∈ vs, u ∈ rowAt rows k ∧ u ∈ U := fun u hu => hv u (List.mem_cons_of_mem _ hu)
    have h0 := hv v (by simp)
    unfold turn at he ⊢
    by_cases c : v ∈ sn
    · rw [if_pos c] at he ⊢
      obtain ⟨a, b⟩ := turn_closed hk out ih vs tk sn hvs wt ws hf he
      refine ⟨fun u hu => ?_, b⟩
      rcases List.mem_cons.mp hu with z | z
      · subst z; exact (turn_out hk out vs tk sn hvs wt ws).sub u c
      · exact a u z
    · rw [if_neg c] at he ⊢
      have ws1 : WfS U (sn ++ [v]) := wfS_snoc ws h0.2 c
      cases e : look tk v with
      | none => rw [e] at he; cases he
      | some r =>
        rw [e] at he
        have hr : r < rows.length := (wt.ok _ (look_mem e)).1
        have q := out r tk (sn ++ [v]) hr wt ws1
        have qc := ih r tk (sn ++ [v]) hr wt ws1 (by rw [List.length_append]; simp; omega)
        rcases eo : rec r tk (sn ++ [v]) with ⟨b, tk', sn'⟩
        rw [eo] at q qc
        cases b with
        | true =>
          exfalso
          have he : (match rec r tk (sn ++ [v]) with
            | (true, tk', sn') => ((true, put tk' v k, sn') : R3)
            | (false, tk', sn') => turn rec k vs tk' sn').1 = false := he
          rw [eo] at he
          cases he
        | false =>
          have et : tk' = tk := q.no rfl
          subst et
          have he : (match rec r tk' (sn ++ [v]) with
            | (true, tk', sn') => ((true, put tk' v k, sn') : R3)
            | (false, tk', sn') => turn rec k vs tk' sn').1 = false := he
          rw [eo] at he
          show (∀ u ∈ v :: vs, u ∈ (match rec r tk' (sn ++ [v]) with
            | (true, tk', sn') => ((true, put tk' v k, sn') : R3)
            | (false, tk', sn') => turn rec k vs tk' sn').2.2) ∧ ∀ w ∈ (match rec r tk' (sn ++ [v]) with
            | (true, tk', sn') => ((true, put tk' v k, sn') : R3)
            | (false, tk', sn') => turn rec k vs tk' sn').2.2, w ∉ sn → ∃ q, look tk' w = some q ∧ ∀ u ∈ rowAt rows q, u ∈ (match rec r tk' (sn ++ [v]) with
            | (true, tk', sn') => ((true, put tk' v k, sn') : R3)
            | (false, tk', sn') => turn rec k vs tk' sn').2.2
          rw [eo]
          obtain ⟨c1, c2⟩ := qc rfl
          have hl : (sn ++ [v]).length ≤ sn'.length := q.len
          rw [List.length_append] at hl
          have hl' : sn.length + 1 ≤ sn'.length := hl
          obtain ⟨a, b⟩ := turn_closed hk out ih vs tk' sn' hvs wt q.ws (by omega) he
          have z := turn_out hk out vs tk' sn' hvs wt q.ws
          refine ⟨fun u hu => ?_, fun w hw hn => ?_⟩
          · rcases List.mem_cons.mp hu with y | y
            · subst y; exact z.sub u (q.sub u (by simp))
            · exact a u y
          · by_cases hw' : w ∈ sn'
            · by_cases hwv : w = v
              · subst hwv
                exact ⟨r, e, fun u hu => z.sub u (c1 u hu)⟩
              · obtain ⟨q', e1, e2⟩ := c2 w hw' (by simp [hn, hwv])
                exact ⟨q', e1, fun u hu => z.sub u (e2 u hu)⟩
            · exact b w hw hw'

theorem seat_closed {rows : List (List Int)} {U : List Int} (hU : ∀ row ∈ rows, ∀ v ∈ row, v ∈ U) : ∀ (n k : Nat) (tk : Tk) (sn : List Int), k < rows.length → WfT rows tk → WfS U sn → U.length + 1 ≤ sn.length + n → (seat rows n k tk sn).1 = false →
    (∀ u ∈ rowAt rows k, u ∈ (seat rows n k tk sn).2.2) ∧ ∀ v ∈ (seat rows n k tk sn).2.2, v ∉ sn → ∃ q, look tk v = some q ∧ ∀ u ∈ rowAt rows q, u ∈ (seat rows n k tk sn).2.2
  | 0, k, tk, sn, _, wt, ws, hf, _ => by
    have := pigeon sn U ws.nd ws.sub
    omega
  | n + 1, k, tk, sn, hk, wt, ws, hf, he => by
    refine turn_closed hk (fun r tk sn hr => seat_out hU n r tk sn hr) (fun r tk sn hr wt ws hf he => seat_closed hU n r tk sn hr wt ws hf he) (rowAt rows k) tk sn (fun v hv => ⟨hv, ?_⟩) wt ws hf he
    have : rowAt rows k = rows[k] := by unfold rowAt; simp [List.getD, hk]
    exact hU rows[k] (List.getElem_mem hk) v (this ▸ hv)

/-- a closed lot stays as it is -/
theorem turn_stays {rows : List (List Int)} {U S : List Int} {rec : Nat → Tk → List Int → R3} {k : Nat} (hk : k < rows.length)
    (out : ∀ r tk sn, r < rows.length → WfT rows tk → WfS U sn → Out rows U r tk sn (rec r tk sn))
    (ih : ∀ r tk sn, r < rows.length → WfT rows tk → WfS U sn → Closed rows tk S → ((∀ u ∈ rowAt rows r, u ∈ S) → (rec r tk sn).1 = false) ∧ ∀ v ∈ S, look (rec r tk sn).2.1 v = look tk v) :
    ∀ (vs : List Int) (tk : Tk) (sn : List Int), (∀ v ∈ vs, v ∈ rowAt rows k ∧ v ∈ U) → WfT rows tk → WfS U sn → Closed rows tk S →
      ((∀ u ∈ vs, u ∈ S) → (turn rec k vs tk sn).1 = false) ∧ ∀ v ∈ S, look (turn rec k vs tk sn).2.1 v = look tk v
  | [], tk, sn, _, _, _, _ => ⟨fun _ => rfl, fun _ _ => rfl⟩
  | v :: vs, tk, sn, hv, wt, ws, hc => by
    have hvs : ∀ u ∈ vs, u ∈ rowAt rows k ∧ u ∈ U := fun u hu => hv u (List.mem_cons_of_mem _ hu)
    have h0 := hv v (by simp)
    unfold turn
    by_cases c : v ∈ sn
    · rw [if_pos c]
      obtain ⟨a, b⟩ := turn_stays hk out ih vs tk sn hvs wt ws hc
      exact ⟨fun z => a fun u hu => z u (List.mem_cons_of_mem _ hu), b⟩
    · rw [if_neg c]
      have ws1 : WfS U (sn ++ [v]) := wfS_snoc ws h0.2 c
      cases e : look tk v with
      | none =>
        have vS : v ∉ S := fun m => by
          obtain ⟨r, e', _⟩ := hc v m
          rw [e] at e'; cases e'
        refine ⟨fun z => absurd (z v (by simp)) vS, fun u hu => ?_⟩
        show look (put tk v k) u = look tk u
        rw [look_put, if_neg (show ¬ u = v from fun z => vS (z ▸ hu))]
      | some r =>
        have hr : r < rows.length := (wt.ok _ (look_mem e)).1
        have q := out r tk (sn ++ [v]) hr wt ws1
        obtain ⟨i1, i2⟩ := ih r tk (sn ++ [v]) hr wt ws1 hc
        have hS : v ∈ S → ∀ u ∈ rowAt rows r, u ∈ S := fun m => by
          obtain ⟨r', e', z⟩ := hc v m
          rw [e] at e'; cases e'; exact z
        show ((∀ u ∈ v :: vs, u ∈ S) → (match rec r tk (sn ++ [v]) with
            | (true, tk', sn') => ((true, put tk' v k, sn') : R3)
            | (false, tk', sn') => turn rec k vs tk' sn').1 = false) ∧ ∀ w ∈ S, look (match rec r tk (sn ++ [v]) with
            | (true, tk', sn') => ((true, put tk' v k, sn') : R3)
            | (false, tk', sn') => turn rec k vs tk' sn').2.1 w = look tk w
        rcases eo : rec r tk (sn ++ [v]) with ⟨b, tk', sn'⟩
        rw [eo] at q i1 i2
        cases b with
        | true =>
          have vS : v ∉ S := fun m => by
            have := i1 (hS m)
            cases this
          refine ⟨fun z => absurd (z v (by simp)) vS, fun u hu => ?_⟩
          show look (put tk' v k) u = look tk u
          rw [look_put, if_neg (show ¬ u = v from fun z => vS (z ▸ hu))]
          exact i2 u hu
        | false =>
          have et : tk' = tk := q.no rfl
          subst et
          obtain ⟨a, b⟩ := turn_stays hk out ih vs tk' sn' hvs wt q.ws hc
          exact ⟨fun z => a fun u hu => z u (List.mem_cons_of_mem _ hu), b⟩

theorem seat_stays {rows : List (List Int)} {U S : List Int} (hU : ∀ row ∈ rows, ∀ v ∈ row, v ∈ U) : ∀ (n k : Nat) (tk : Tk) (sn : List Int), k < rows.length → WfT rows tk → WfS U sn → Closed rows tk S →
    ((∀ u ∈ rowAt rows k, u ∈ S) → (seat rows n k tk sn).1 = false) ∧ ∀ v ∈ S, look (seat rows n k tk sn).2.1 v = look tk v
  | 0, k, tk, sn, _, _, _, _ => ⟨fun _ => rfl, fun _ _ => rfl⟩
  | n + 1, k, tk, sn, hk, wt, ws, hc => by
    refine turn_stays hk (fun r tk sn hr => seat_out hU n r tk sn hr) (fun r tk sn hr wt ws hc => seat_stays hU n r tk sn hr wt ws hc) (rowAt rows k) tk sn (fun v hv => ⟨hv, ?_⟩) wt ws hc
    have : rowAt rows k = rows[k] := by unfold rowAt; simp [List.getD, hk]
    exact hU rows[k] (List.getElem_mem hk) v (this ▸ hv)

/-! ### all rows, one after the other -/
/-- how deep a search may go -/
abbrev deep : Nat := 64
def runs (rows : List (List Int)) : Nat → Tk
  | 0 => []
  | i + 1 => (seat rows deep i (runs rows i) []).2.1
def got (rows : List (List Int)) (i : Nat) : Bool := (seat rows deep i (runs rows i) []).1
/-- the rows below i that got one -/
def gots (rows : List (List Int)) (i : Nat) : List Nat := (List.range i).filter (got rows)

structure InvP (rows : List (List Int)) (i : Nat) : Prop where
  wt : WfT rows (runs rows i)
  nd : ((runs rows i).map (·.2)).Nodup
  lt : ∀ r ∈ (runs rows i).map (·.2), r < i
  len : (runs rows i).length = (gots rows i).length
  cl : ∀ r, r < i → r ∉ (runs rows i).map (·.2) → ∃ S, Closed rows (runs rows i) S ∧ ∀ u ∈ rowAt rows r, u ∈ S

theorem inv_runs {rows : List (List Int)} {U : List Int} (hU : ∀ row ∈ rows, ∀ v ∈ row, v ∈ U) (hl : U.length + 1 ≤ deep) : ∀ i, i ≤ rows.length → InvP rows i
  | 0, _ => ⟨⟨List.nodup_nil, (fun _ h => by cases h)⟩, List.nodup_nil, (fun _ h => by cases h), rfl, (fun _ h => by cases h)⟩
  | i + 1, h => by
    obtain ⟨wt, nd, lt, len, cl⟩ := inv_runs hU hl i (by omega)
    have hi : i < rows.length := h
    have ws : WfS U [] := ⟨List.nodup_nil, (fun _ h => by cases h)⟩
    have o := seat_out hU deep i (runs rows i) [] hi wt ws
    have st := fun S hc => seat_stays (S := S) hU deep i (runs rows i) [] hi wt ws hc
    have eg : gots rows (i + 1) = gots rows i ++ (if got rows i = true then [i] else []) := by
      unfold gots
      rw [List.range_succ, List.filter_append]
      congr 1
      by_cases c : got rows i = true
      · rw [if_pos c]; simp [c]
      · rw [if_neg c]; simp [c]
    have keepC : ∀ S, Closed rows (runs rows i) S → Closed rows (runs rows (i + 1)) S := fun S hc v hv => by
      obtain ⟨r, e, z⟩ := hc v hv
      exact ⟨r, ((st S hc).2 v hv).trans e, z⟩
    cases c : got rows i with
    | true =>
      have p : ((runs rows (i + 1)).map (·.2)).Perm (i :: (runs rows i).map (·.2)) := o.yes c
      have ni : i ∉ (runs rows i).map (·.2) := fun m => Nat.lt_irrefl _ (lt i m)
      refine ⟨o.wt, p.nodup_iff.mpr (List.nodup_cons.mpr ⟨ni, nd⟩), fun r hr => ?_, ?_, fun r hr hn => ?_⟩
      · rcases List.mem_cons.mp (p.mem_iff.mp hr) with z | z
        · omega
        · have := lt r z; omega
      · have q := p.length_eq
        simp only [List.length_map, List.length_cons] at q
        rw [eg, c]
        simp only [if_true, List.length_append, List.length_cons, List.length_nil]
        omega
      · have hr' : r ≠ i := fun z => hn (p.mem_iff.mpr (by simp [z]))
        obtain ⟨S, hc, z⟩ := cl r (by omega) (fun m => hn (p.mem_iff.mpr (List.mem_cons_of_mem _ m)))
        exact ⟨S, keepC S hc, z⟩
    | false =>
      have et : runs rows (i + 1) = runs rows i := o.no c
      refine ⟨o.wt, et.symm ▸ nd, fun r hr => ?_, ?_, fun r hr hn => ?_⟩
      · rw [et] at hr
        have := lt r hr; omega
      · rw [et, eg, c]
        simpa using len
      · rw [et] at hn ⊢
        by_cases hri : r = i
        · subst hri
          obtain ⟨a, b⟩ := seat_closed hU deep r (runs rows r) [] hi wt ws (by simpa using hl) c
          refine ⟨(seat rows deep r (runs rows r) []).2.2, fun v hv => b v hv (by simp), a⟩
        · exact cl r (by omega) hn

end K34

namespace K34
theorem pigeonA {α : Type} [DecidableEq α] : ∀ (l U : List α), l.Nodup → (∀ v ∈ l, v ∈ U) → l.length ≤ U.length
  | [], _, _, _ => Nat.zero_le _
  | a :: r, U, h, s => by
    have h' := List.nodup_cons.mp h
    have ha : a ∈ U := s a (by simp)
    have q := pigeonA r (U.erase a) h'.2 (fun v hv => by
      have ne : v ≠ a := fun e => h'.1 (e ▸ hv)
      exact (List.mem_erase_of_ne ne).mpr (s v (by simp [hv])))
    rw [List.length_erase_of_mem ha] at q
    have p : 0 < U.length := List.length_pos_of_mem ha
    rw [List.length_cons]
    omega
theorem perm_of {α : Type} [DecidableEq α] : ∀ (l U : List α), l.Nodup → U.Nodup → (∀ v, v ∈ l ↔ v ∈ U) → l.Perm U
  | [], U, _, _, s => by
    cases U with
    | nil => exact .nil
    | cons a r => exact absurd ((s a).mpr (by simp)) (by simp)
  | a :: r, U, h, hU, s => by
    have h' := List.nodup_cons.mp h
    have ha : a ∈ U := (s a).mp (by simp)
    have q := perm_of r (U.erase a) h'.2 (hU.erase a) (fun v => by
      rw [hU.mem_erase_iff]
      constructor
      · intro hv
        exact ⟨fun e => h'.1 (e ▸ hv), (s v).mp (by simp [hv])⟩
      · intro ⟨ne, hv⟩
        rcases List.mem_cons.mp ((s v).mpr hv) with z | z
        · exact absurd z ne
        · exact z)
    exact (q.cons a).trans (List.perm_cons_erase ha).symm
theorem sorted_same : ∀ {l U : List Int}, l.Perm U → l.Pairwise (· ≤ ·) → U.Pairwise (· ≤ ·) → l = U
  | [], U, p, _, _ => by
    have := p.length_eq
    cases U with
    | nil => rfl
    | cons a r => simp at this
  | a :: r, [], p, _, _ => by
    have := p.length_eq
    simp at this
  | a :: r, b :: s, p, h1, h2 => by
    have q1 := List.pairwise_cons.mp h1
    have q2 := List.pairwise_cons.mp h2
    have e : a = b := by
      have m1 : a ∈ b :: s := p.mem_iff.mp (by simp)
      have m2 : b ∈ a :: r := p.mem_iff.mpr (by simp)
      rcases List.mem_cons.mp m1 with z | z
      · exact z
      · rcases List.mem_cons.mp m2 with y | y
        · exact y.symm
        · exact Int.le_antisymm (q1.1 _ y) (q2.1 _ z)
    subst e
    rw [sorted_same (List.Perm.cons_inv p) q1.2 q2.2]
theorem strict_of : ∀ {l : List Int}, l.Pairwise (· ≤ ·) → l.Nodup → ∀ i x y, l[i]? = some x → l[i + 1]? = some y → x < y
  | [], _, _, i, x, y, h, _ => by simp at h
  | [a], _, _, i, x, y, _, h => by simp at h
  | a :: b :: r, h1, h2, 0, x, y, e1, e2 => by
    have q1 := (List.pairwise_cons.mp h1).1 b (by simp)
    have q2 := (List.nodup_cons.mp h2).1
    simp at e1 e2
    subst e1; subst e2
    have : a ≠ b := fun z => q2 (by simp [z])
    omega
  | a :: b :: r, h1, h2, i + 1, x, y, e1, e2 => strict_of (List.pairwise_cons.mp h1).2 (List.nodup_cons.mp h2).2 i x y (by simpa using e1) (by simpa using e2)

/-! ### the tuple of a greatest pairing -/
def setAll (tk : Tk) (acc : List (Option Int)) : List (Option Int) := tk.foldl (fun acc p => acc.set p.2 (some p.1)) acc
theorem setAll_len : ∀ (tk : Tk) (acc : List (Option Int)), (setAll tk acc).length = acc.length
  | [], _ => rfl
  | p :: t, acc => by
    show (setAll t (acc.set p.2 (some p.1))).length = _
    rw [setAll_len t, List.length_set]
theorem set_perm : ∀ {acc : List (Option Int)} {r : Nat} (v : Int), acc[r]? = some none → ((acc.set r (some v)).filterMap id).Perm (v :: acc.filterMap id)
  | [], r, v, h => by simp at h
  | a :: t, 0, v, h => by
    have : a = none := by simpa using h
    subst this
    exact List.Perm.refl _
  | a :: t, r + 1, v, h => by
    have ih := set_perm (acc := t) (r := r) v (by simpa using h)
    show ((a :: t.set r (some v)).filterMap id).Perm (v :: (a :: t).filterMap id)
    cases a with
    | none => exact ih
    | some b => exact (ih.cons b).trans (List.Perm.swap _ _ _)
theorem setAll_perm : ∀ (tk : Tk) (acc : List (Option Int)), (tk.map (·.2)).Nodup → (∀ r ∈ tk.map (·.2), acc[r]? = some none) → ((setAll tk acc).filterMap id).Perm (tk.map (·.1) ++ acc.filterMap id)
  | [], acc, _, _ => List.Perm.refl _
  | p :: t, acc, hn, h => by
    have hn' : p.2 ∉ t.map (·.2) ∧ (t.map (·.2)).Nodup := List.nodup_cons.mp hn
    have ih := setAll_perm t (acc.set p.2 (some p.1)) hn'.2 (fun r hr => by
      rw [List.getElem?_set_ne (show p.2 ≠ r from fun e => hn'.1 (e ▸ hr))]
      exact h r (by simp only [List.map_cons]; exact List.mem_cons_of_mem _ hr))
    refine ih.trans ?_
    have q := set_perm p.1 (h p.2 (by simp))
    exact (q.append_left _).trans (List.perm_middle)
theorem setAll_mem : ∀ (tk : Tk) (acc : List (Option Int)) {k : Nat} {v : Int}, (setAll tk acc)[k]? = some (some v) → (v, k) ∈ tk ∨ acc[k]? = some (some v)
  | [], _, _, _, h => .inr h
  | p :: t, acc, k, v, h => by
    rcases setAll_mem t (acc.set p.2 (some p.1)) h with z | z
    · exact .inl (by simp [z])
    · by_cases e : p.2 = k
      · subst e
        rw [List.getElem?_set] at z
        simp only [if_true] at z
        split at z
        · have : p.1 = v := by simpa using z
          exact .inl (by rw [← this]; simp)
        · cases z
      · rw [List.getElem?_set_ne e] at z
        exact .inr z
theorem setAll_take (tk : Tk) (acc : List (Option Int)) {i : Nat} {p : Int × Nat} (h : tk[i]? = some p) : setAll (tk.take (i + 1)) acc = (setAll (tk.take i) acc).set p.2 (some p.1) := by
  have : tk.take (i + 1) = tk.take i ++ [p] := by rw [List.take_add_one, h]; rfl
  rw [this]
  unfold setAll
  rw [List.foldl_append]
  rfl
def tkF (rows : List (List Int)) : Tk := runs rows rows.length
def valsF (rows : List (List Int)) : List (Option Int) := setAll (tkF rows) (List.replicate rows.length none)
def usedF (rows : List (List Int)) : List Int := (valsF rows).filterMap id

structure GoodRows (rows : List (List Int)) (U : List Int) : Prop where
  sub : ∀ row ∈ rows, ∀ v ∈ row, v ∈ U
  len : U.length + 1 ≤ deep
section
variable {rows : List (List Int)} {U : List Int} (G : GoodRows rows U)
include G
theorem invF : InvP rows rows.length := inv_runs G.sub G.len rows.length (Nat.le_refl _)
theorem used_perm : (usedF rows).Perm ((tkF rows).map (·.1)) := by
  have I := invF G
  have q := setAll_perm (tkF rows) (List.replicate rows.length none) I.nd (fun r hr => by
    have := I.lt r hr
    rw [List.getElem?_replicate, if_pos this])
  have z : (List.replicate rows.length (none : Option Int)).filterMap id = [] := by
    generalize rows.length = n
    induction n with
    | zero => rfl
    | succ n ih => rw [List.replicate_succ]; exact ih
  rw [z, List.append_nil] at q
  exact q
theorem used_nodup : (usedF rows).Nodup := (used_perm G).nodup_iff.mpr (invF G).wt.nd
theorem used_len : (usedF rows).length = (gots rows rows.length).length := by
  rw [(used_perm G).length_eq, List.length_map]
  exact (invF G).len
theorem vals_in {k : Nat} {v : Int} (h : (valsF rows)[k]? = some (some v)) : v ∈ rowAt rows k := by
  rcases setAll_mem _ _ h with z | z
  · exact ((invF G).wt.ok _ z).2
  · rw [List.getElem?_replicate] at z
    split at z <;> simp at z
end
theorem vals_len (rows : List (List Int)) : (valsF rows).length = rows.length := by
  unfold valsF
  rw [setAll_len, List.length_replicate]

/-! ### the lot of a row that has none -/
def tkv (tk : Tk) (v : Int) : Nat := (look tk v).getD 0
def growV : List Int → List Int → List Int
  | [], vs => vs
  | v :: r, vs => growV r (if v ∈ vs then vs else vs ++ [v])
def lotOf (s : Nat) (tk : Tk) (vs : List Int) : List Nat := s :: vs.map (tkv tk)
def bfs (rows : List (List Int)) (s : Nat) (tk : Tk) : Nat → Nat → List Int → List Int
  | 0, _, vs => vs
  | n + 1, i, vs => if i < vs.length + 1 then bfs rows s tk n (i + 1) (growV (rowAt rows ((lotOf s tk vs).getD i 0)) vs) else vs
theorem growV_ext : ∀ (r vs : List Int), ∃ e, growV r vs = vs ++ e
  | [], vs => ⟨[], (List.append_nil _).symm⟩
  | v :: r, vs => by
    unfold growV
    by_cases c : v ∈ vs
    · rw [if_pos c]; exact growV_ext r vs
    · rw [if_neg c]
      obtain ⟨e, h⟩ := growV_ext r (vs ++ [v])
      exact ⟨v :: e, by rw [h, List.append_assoc]; rfl⟩
theorem growV_mem : ∀ (r vs : List Int) (u : Int), u ∈ growV r vs ↔ u ∈ vs ∨ u ∈ r
  | [], vs, u => by simp [growV]
  | v :: r, vs, u => by
    unfold growV
    rw [growV_mem r]
    by_cases c : v ∈ vs
    · rw [if_pos c]
      constructor
      · rintro (h | h)
        · exact .inl h
        · exact .inr (by simp [h])
      · rintro (h | h)
        · exact .inl h
        · rcases List.mem_cons.mp h with z | z
          · exact .inl (z ▸ c)
          · exact .inr z
    · rw [if_neg c]
      simp only [List.mem_append, List.mem_cons, List.not_mem_nil, or_false]
      constructor
      · rintro ((h | h) | h)
        · exact .inl h
        · exact .inr (.inl h)
        · exact .inr (.inr h)
      · rintro (h | h | h)
        · exact .inl (.inl h)
        · exact .inl (.inr h)
        · exact .inr h
theorem growV_nodup : ∀ (r vs : List Int), vs.Nodup → (growV r vs).Nodup
  | [], vs, h => h
  | v :: r, vs, h => by
    unfold growV
    by_cases c : v ∈ vs
    · rw [if_pos c]; exact growV_nodup r vs h
    · rw [if_neg c]
      refine growV_nodup r _ ?_
      rw [List.nodup_append]
      refine ⟨h, by simp, fun a ha b hb => ?_⟩
      have : b = v := List.mem_singleton.mp hb
      subst this
      exact fun z => c (z ▸ ha)
theorem bfs_end {rows : List (List Int)} {s : Nat} {tk : Tk} (n i : Nat) (vs : List Int) (h : ¬ i < vs.length + 1) : bfs rows s tk n i vs = vs := by
  cases n with
  | zero => rfl
  | succ n => unfold bfs; rw [if_neg h]
structure InvB (rows : List (List Int)) (s : Nat) (tk : Tk) (S : List Int) (i : Nat) (vs : List Int) : Prop where
  nd : vs.Nodup
  sub : ∀ v ∈ vs, v ∈ S
  le : i ≤ vs.length + 1
  all : ∀ j, j < i → ∀ u ∈ rowAt rows ((lotOf s tk vs).getD j 0), u ∈ vs
  from_ : ∀ v ∈ vs, ∃ j, j < i ∧ v ∈ rowAt rows ((lotOf s tk vs).getD j 0)
theorem lot_ext {s : Nat} {tk : Tk} {vs e : List Int} {j : Nat} (h : j < vs.length + 1) : (lotOf s tk (vs ++ e)).getD j 0 = (lotOf s tk vs).getD j 0 := by
  unfold lotOf
  rw [List.map_append, ← List.cons_append]
  simp only [List.getD_eq_getElem?_getD]
  rw [List.getElem?_append_left (by simpa using h)]
theorem lot_len {s : Nat} {tk : Tk} {vs : List Int} : (lotOf s tk vs).length = vs.length + 1 := by simp [lotOf]
theorem lot_row {rows : List (List Int)} {s : Nat} {tk : Tk} {S vs : List Int} (hs : ∀ u ∈ rowAt rows s, u ∈ S) (hc : Closed rows tk S) (hv : ∀ v ∈ vs, v ∈ S) {k : Nat} (h : k ∈ lotOf s tk vs) : ∀ u ∈ rowAt rows k, u ∈ S := by
  rcases List.mem_cons.mp h with z | z
  · subst z; exact hs
  · obtain ⟨v, m, e⟩ := List.mem_map.mp z
    obtain ⟨r, e1, e2⟩ := hc v (hv v m)
    have : tkv tk v = r := by unfold tkv; rw [e1]; rfl
    rw [← e, this]; exact e2
theorem invB_step {rows : List (List Int)} {s : Nat} {tk : Tk} {S vs : List Int} {i : Nat} (hs : ∀ u ∈ rowAt rows s, u ∈ S) (hc : Closed rows tk S) (B : InvB rows s tk S i vs) (hi : i < vs.length + 1) :
    InvB rows s tk S (i + 1) (growV (rowAt rows ((lotOf s tk vs).getD i 0)) vs) := by
  obtain ⟨e, he⟩ := growV_ext (rowAt rows ((lotOf s tk vs).getD i 0)) vs
  have mem := growV_mem (rowAt rows ((lotOf s tk vs).getD i 0)) vs
  have inl : (lotOf s tk vs).getD i 0 ∈ lotOf s tk vs := by
    rw [List.getD_eq_getElem?_getD, List.getElem?_eq_getElem (by rw [lot_len]; exact hi)]
    exact List.getElem_mem _
  have old : ∀ j, j < i + 1 → (lotOf s tk (growV (rowAt rows ((lotOf s tk vs).getD i 0)) vs)).getD j 0 = (lotOf s tk vs).getD j 0 := fun j hj => by
    rw [he, lot_ext (by omega)]
  refine ⟨growV_nodup _ _ B.nd, fun v hv => ?_, ?_, fun j hj u hu => ?_, fun v hv => ?_⟩
  · rcases (mem v).mp hv with z | z
    · exact B.sub v z
    · exact lot_row hs hc B.sub inl v z
  · rw [he, List.length_append]; omega
  · rw [old j hj] at hu
    rw [mem]
    by_cases c : j < i
    · exact .inl (B.all j c u hu)
    · have : j = i := by omega
      subst this; exact .inr hu
  · rcases (mem v).mp hv with z | z
    · obtain ⟨j, hj, q⟩ := B.from_ v z
      exact ⟨j, by omega, by rw [old j (by omega)]; exact q⟩
    · exact ⟨i, by omega, by rw [old i (by omega)]; exact z⟩
/-- what a lot is at its end -/
structure EndB (rows : List (List Int)) (s : Nat) (tk : Tk) (S vs : List Int) : Prop where
  nd : vs.Nodup
  sub : ∀ v ∈ vs, v ∈ S
  all : ∀ v, v ∈ vs ↔ ∃ k ∈ lotOf s tk vs, v ∈ rowAt rows k
theorem invB_end {rows : List (List Int)} {s : Nat} {tk : Tk} {S vs : List Int} {i : Nat} (B : InvB rows s tk S i vs) (hi : ¬ i < vs.length + 1) : EndB rows s tk S vs := by
  refine ⟨B.nd, B.sub, fun v => ⟨fun hv => ?_, fun ⟨k, hk, hv⟩ => ?_⟩⟩
  · obtain ⟨j, hj, q⟩ := B.from_ v hv
    refine ⟨_, ?_, q⟩
    have hj' : j < (lotOf s tk vs).length := by rw [lot_len]; have := B.le; omega
    rw [List.getD_eq_getElem?_getD, List.getElem?_eq_getElem hj']
    exact List.getElem_mem _
  · obtain ⟨j, hj, e⟩ := List.getElem_of_mem hk
    rw [lot_len] at hj
    refine B.all j (by omega) v ?_
    rw [List.getD_eq_getElem?_getD, List.getElem?_eq_getElem (by rw [lot_len]; exact hj), e]
    exact hv
theorem invB_start (rows : List (List Int)) (s : Nat) (tk : Tk) (S : List Int) : InvB rows s tk S 0 [] :=
  ⟨List.nodup_nil, (fun _ h => by cases h), Nat.zero_le _, (fun _ h => by omega), (fun _ h => by cases h)⟩
theorem bfs_endB {rows : List (List Int)} {U : List Int} (G : GoodRows rows U) {s : Nat} {tk : Tk} {S : List Int} (hS : ∀ v ∈ S, v ∈ U) (hs : ∀ u ∈ rowAt rows s, u ∈ S) (hc : Closed rows tk S) :
    ∀ (n i : Nat) (vs : List Int), InvB rows s tk S i vs → U.length + 2 ≤ n + i → EndB rows s tk S (bfs rows s tk n i vs)
  | 0, i, vs, B, h => by
    have := pigeonA vs U B.nd (fun v hv => hS v (B.sub v hv))
    have := B.le
    omega
  | n + 1, i, vs, B, h => by
    unfold bfs
    by_cases c : i < vs.length + 1
    · rw [if_pos c]
      exact bfs_endB G hS hs hc n (i + 1) _ (invB_step hs hc B c) (by omega)
    · rw [if_neg c]; exact invB_end B c

/-! ### the rows that have none -/
def freeF (rows : List (List Int)) : List Nat := (List.range rows.length).filter fun k => decide (k ∉ (tkF rows).map (·.2))
def lotV (rows : List (List Int)) (s : Nat) : List Int := bfs rows s (tkF rows) (deep + 2) 0 []
section
variable {rows : List (List Int)} {U : List Int} (G : GoodRows rows U)
include G
theorem rows_closed {s : Nat} (h : s < rows.length) (hn : s ∉ (tkF rows).map (·.2)) : ∃ S, (∀ v ∈ S, v ∈ U) ∧ Closed rows (tkF rows) S ∧ ∀ u ∈ rowAt rows s, u ∈ S := by
  obtain ⟨S, c1, c2⟩ := (invF G).cl s h hn
  refine ⟨S, fun v hv => ?_, c1, c2⟩
  obtain ⟨r, e, _⟩ := c1 v hv
  have q := (invF G).wt.ok _ (look_mem e)
  have e2 : rowAt rows r = rows[r]'q.1 := by unfold rowAt; simp [List.getD, q.1]
  exact G.sub _ (List.getElem_mem q.1) v (e2 ▸ q.2)
theorem free_nil : freeF rows = [] ↔ (gots rows rows.length).length = rows.length := by
  have I := invF G
  have hl : ((tkF rows).map (·.2)).length = (gots rows rows.length).length := by rw [List.length_map]; exact I.len
  have up : ((tkF rows).map (·.2)).length ≤ rows.length := by
    have := pigeonA ((tkF rows).map (·.2)) (List.range rows.length) I.nd (fun r hr => List.mem_range.mpr (I.lt r hr))
    rwa [List.length_range] at this
  constructor
  · intro h
    have : (List.range rows.length).length ≤ ((tkF rows).map (·.2)).length := pigeonA _ _ List.nodup_range (fun r hr => by
      by_cases c : r ∈ (tkF rows).map (·.2)
      · exact c
      · have : r ∈ freeF rows := List.mem_filter.mpr ⟨hr, decide_eq_true c⟩
        rw [h] at this; cases this)
    rw [List.length_range] at this
    omega
  · intro h
    cases e : freeF rows with
    | nil => rfl
    | cons s t =>
      exfalso
      have hs : s ∈ freeF rows := by rw [e]; simp
      obtain ⟨h1, h2⟩ := List.mem_filter.mp hs
      have h2 := of_decide_eq_true h2
      have := pigeonA (s :: (tkF rows).map (·.2)) (List.range rows.length) (List.nodup_cons.mpr ⟨h2, I.nd⟩) (fun r hr => by
        rcases List.mem_cons.mp hr with z | z
        · rw [z]; exact h1
        · exact List.mem_range.mpr (I.lt r z))
      rw [List.length_range, List.length_cons] at this
      omega
theorem lotV_end {s : Nat} (h : s < rows.length) (hn : s ∉ (tkF rows).map (·.2)) : ∃ S, (∀ v ∈ S, v ∈ U) ∧ Closed rows (tkF rows) S ∧ (∀ u ∈ rowAt rows s, u ∈ S) ∧ EndB rows s (tkF rows) S (lotV rows s) := by
  obtain ⟨S, c0, c1, c2⟩ := rows_closed G h hn
  refine ⟨S, c0, c1, c2, bfs_endB G c0 c2 c1 _ 0 [] (invB_start _ _ _ _) ?_⟩
  have := G.len
  omega
theorem lot_nodup {s : Nat} (hn : s ∉ (tkF rows).map (·.2)) {vs : List Int} (hv : vs.Nodup) (hk : ∀ v ∈ vs, look (tkF rows) v ≠ none) : (lotOf s (tkF rows) vs).Nodup := by
  have I := invF G
  unfold lotOf
  rw [List.nodup_cons]
  have at_ : ∀ v ∈ vs, (v, tkv (tkF rows) v) ∈ tkF rows := fun v m => by
    cases e : look (tkF rows) v with
    | none => exact absurd e (hk v m)
    | some r =>
      have : tkv (tkF rows) v = r := by unfold tkv; rw [e]; rfl
      rw [this]; exact look_mem e
  constructor
  · intro m
    obtain ⟨v, hm, e⟩ := List.mem_map.mp m
    exact hn (List.mem_map.mpr ⟨_, at_ v hm, e⟩)
  · have inj : ∀ {t : Tk}, (t.map (·.2)).Nodup → ∀ {a b : Int} {r : Nat}, (a, r) ∈ t → (b, r) ∈ t → a = b := by
      intro t
      induction t with
      | nil => intro _ a b r h; cases h
      | cons p t ih =>
        intro hd a b r h1 h2
        have hd' : p.2 ∉ t.map (·.2) ∧ (t.map (·.2)).Nodup := List.nodup_cons.mp hd
        rcases List.mem_cons.mp h1 with z1 | z1 <;> rcases List.mem_cons.mp h2 with z2 | z2
        · rw [← z1] at z2; exact (Prod.mk.inj z2).1.symm
        · exact absurd (List.mem_map.mpr ⟨_, z2, (by rw [← z1])⟩) hd'.1
        · exact absurd (List.mem_map.mpr ⟨_, z1, (by rw [← z2])⟩) hd'.1
        · exact ih hd'.2 z1 z2
    have : ∀ (l : List Int), l.Nodup → (∀ v ∈ l, (v, tkv (tkF rows) v) ∈ tkF rows) → (l.map (tkv (tkF rows))).Nodup := by
      intro l
      induction l with
      | nil => intro _ _; exact List.nodup_nil
      | cons a r ih =>
        intro hl hm
        have hl' := List.nodup_cons.mp hl
        rw [List.map_cons, List.nodup_cons]
        refine ⟨fun m => ?_, ih hl'.2 (fun v hv => hm v (List.mem_cons_of_mem _ hv))⟩
        obtain ⟨b, hb, e⟩ := List.mem_map.mp m
        have h1 := hm a (by simp)
        have h2 := hm b (List.mem_cons_of_mem _ hb)
        rw [e] at h2
        have := inj I.nd h1 h2
        exact hl'.1 (this ▸ hb)
    exact this vs hv at_
theorem lot_lt {s : Nat} (h : s < rows.length) {vs : List Int} (hk : ∀ v ∈ vs, look (tkF rows) v ≠ none) : ∀ k ∈ lotOf s (tkF rows) vs, k < rows.length := by
  intro k m
  rcases List.mem_cons.mp m with z | z
  · rw [z]; exact h
  · obtain ⟨v, hm, e⟩ := List.mem_map.mp z
    cases e2 : look (tkF rows) v with
    | none => exact absurd e2 (hk v hm)
    | some r =>
      have : tkv (tkF rows) v = r := by unfold tkv; rw [e2]; rfl
      rw [← e, this]
      exact ((invF G).wt.ok _ (look_mem e2)).1
end
end K34

set_option Elab.async false
set_option linter.all false
set_option maxRecDepth 100000
/-! rules whose readings name the written part K by a letter of their own (so that they stand within a comprehension, too), and a call by keywords alone -/
namespace OwnK
open PySem PySem.Spec PyProof.Rows L2
section
variable {X : Cx} {CX : CXT} {k : Nat} {f : Addr} {fd : FuncData} {ps ks : List Str} {sp : Sp} {E : XK} {x : Str} {p pos : Pos} {kws : List Keyword} {tk : TA} {g : List Value → List Value → List Value} {gV : List V → List V → List V}
/-- f(k = v, ..) -/
theorem pe_callK0 (F : FnOk X.prog X.w X.K X.mg X.base CX k f fd ps sp) (hr : Room k X.A) (hg : Gl X x) (hm : X.mg x = some (.ref f)) (hk : PySem.W.keepIn X.K (.ref f) = true) (hb : KBinds X.K fd ps ks g gV) (hx : Passes CX X E)
    (hkw : PK X kws tk) (hall : (backToKw pos (keywordEach kws X.env)).all (·.1.isSome) = true := by rfl) (hks : (backToKw pos (keywordEach kws X.env)).filterMap (·.1) = ks := by rfl)
    (hdb : (x == ("__debug__" : Str)) = false := by decide)
    (hpl : ((backTo pos (starEach [] X.env)).any (·.1) || (backToKw pos (keywordEach kws X.env)).any (·.1.isNone)) = false := by rfl) :
    PE X (.Call (.Name x p) [] kws pos) (tCallK sp gV E tNil tk) := by
  refine ⟨fun pins s σ H Q I h => ?_⟩
  refine wpAny_Call_Name_kw (ld_glob I hg hm ?_ hdb)
  refine PySem.W.callWith_KW0 (h₀ := X.base) I.ok.mod.kin hk hall ?_ hpl
  refine thn (hkw.run pos pins s σ H _ I h) fun ws s2 ⟨zs, H2, I2, rz, q2⟩ => ⟨I2.kIn, ?_⟩
  rw [hks]
  exact run_fnk (us := []) (vs := []) F hr hb hx I2 .nil rz q2
end
section
variable {X : Cx} {K : PySem.W.Frag} {a : Expr} {ta : TE} {tg : Expr}
theorem ix_listK (h : X.K = K := by rfl) : IxR X (rIxL K) := by subst h; exact ix_list
theorem ix_tupK (h : X.K = K := by rfl) : IxR X (rIxT K) := by subst h; exact ix_tup
theorem sl_listK (h : X.K = K := by rfl) : SlR X (rSlL K) := by subst h; exact sl_list
theorem sl_tupK (h : X.K = K := by rfl) : SlR X (rSlT K) := by subst h; exact sl_tup
theorem op_in_seqK (h : X.K = K := by rfl) : OpR X (compareOp .In) (rIn K false) := by subst h; exact op_in_seq
theorem op_notIn_seqK (h : X.K = K := by rfl) : OpR X (compareOp .NotIn) (rIn K true) := by subst h; exact op_notIn_seq
theorem op_catTK (h : X.K = K := by rfl) : OpR X (binaryOp .Add) (rCatT K) := by subst h; exact op_catT
theorem op_eqDK (hu : X.A.units + 64 < cLine) (h : X.K = K := by rfl) : OpR X (compareOp .Eq) (rEqD K) := by subst h; exact op_eqD hu
theorem op_neDK (hu : X.A.units + 64 < cLine) (h : X.K = K := by rfl) : OpR X (compareOp .NotEq) (rNeD K) := by subst h; exact op_neD hu
theorem call_isiK (h : X.K = K := by rfl) : CallR X (.builtin "isinstance") (rIsi K) := by subst h; exact call_isi
theorem cr_sortedK (h : X.K = K := by rfl) : CallR X (.builtin "sorted") (rSorted K) := by subst h; exact cr_sorted
theorem cr_sumK (hc : X.calm = true) (h : X.K = K := by rfl) : CallR X (.builtin "sum") (rSum K) := by subst h; exact cr_sum hc
theorem cr_allK (hc : X.calm = true) (h : X.K = K := by rfl) : CallR X (.builtin "all") (rAll K) := by subst h; exact cr_all hc
theorem cr_anyK (hc : X.calm = true) (h : X.K = K := by rfl) : CallR X (.builtin "any") (rAny K) := by subst h; exact cr_any hc
def rLenS (K : PySem.W.Frag) : List V → Hp → VK → Prop := fun xs H Q => ∃ p ys, xs = [.ref p] ∧ (SqL K H p ys ∨ SqT K H p ys) ∧ Q (.int ys.length) H
theorem call_len_seqK (h : X.K = K := by rfl) : CallR X (.builtin "len") (rLenS K) := by subst h; exact call_len_seq
def rListOf (K : PySem.W.Frag) : List V → Hp → VK → Prop := fun xs H Q => ∃ p ys, xs = [.ref p] ∧ (SqL K H p ys ∨ SqT K H p ys) ∧ ∀ l, H l = none → Q (.ref l) (upd H l (.lst ys))
theorem call_list_ofK (h : X.K = K := by rfl) : CallR X (.type "list") (rListOf K) := by subst h; exact call_list_of
def rTupOf (K : PySem.W.Frag) : List V → Hp → VK → Prop := fun xs H Q => ∃ p ys, xs = [.ref p] ∧ ((SqL K H p ys ∧ ∀ l, H l = none → Q (.ref l) (upd H l (.tup ys))) ∨ (SqT K H p ys ∧ Q (.ref p) H))
theorem call_tuple_ofK (h : X.K = K := by rfl) : CallR X (.type "tuple") (rTupOf K) := by subst h; exact call_tuple_of
def rDictP (K : PySem.W.Frag) : List V → Hp → VK → Prop := fun xs H Q => ∃ (a : Addr) (ps : List Addr) (kvs : List (Key × V)), xs = [.ref a] ∧ SqL K H a (ps.map V.ref) ∧ Paired (fun p kv => SqT K H p [kV kv.1, kv.2]) ps kvs ∧ ∀ p, H p = none → Q (.ref p) (upd H p (.dK (mergeK [] kvs)))
theorem call_dictPK (hc : X.calm = true) (h : X.K = K := by rfl) : CallR X (.type "dict") (rDictP K) := by subst h; exact call_dictP hc
def tTru (K : PySem.W.Frag) (ta : TE) : TT := fun σ H Q => ta σ H fun x H' => ∃ k, TruV K x H' k ∧ Q k H'
theorem pt_truthK (ha : PE X a ta) (he : ∀ whole, isTrue a X.env whole = (do let v ← whole; standAt a.pos; holding [v] (truthy v))) (h : X.K = K := by rfl) : PT X a (tTru K ta) := by subst h; exact pt_truth ha he
theorem pi_listK {l : Expr} {tl : TE} (hl : PE X l tl) (h : X.K = K := by rfl) : PI X tg l (iList K tl) := by subst h; exact pi_list hl
theorem pi_tupK {l : Expr} {tl : TE} (hl : PE X l tl) (h : X.K = K := by rfl) : PI X tg l (iTup K tl) := by subst h; exact pi_tup hl
theorem pg_tupK {es : List Expr} {kk : Nat} {pos : Pos} {t : TGs} {n : Nat} (hc : X.calm = true) (hg : PGs X es t)
    (hn : (assignEach es X.env).length = n := by rfl) (hst : (assignEach es X.env).findIdx? (·.1) = none := by rfl) (h : X.K = K := by rfl) : PG X (.Tuple es kk pos) (gTup K n t) := by subst h; exact pg_tup hc hg hn hst
theorem pi_enumK {e : Expr} {t : TA} {p pos tpos : Pos} {elts : List Expr} {kk : Nat} (hg : Gl X "enumerate") (hm : X.mg "enumerate" = none) (ha : PA X [e] t) (hs : starEach [e] X.env = [(false, eval e X.env)] := by rfl) (h : X.K = K := by rfl) :
    PI X (.Tuple elts kk tpos) (.Call (.Name "enumerate" p) [e] [] pos) (iEnum K t) := by subst h; exact pi_enum hg hm ha hs
end
theorem walk_range0 {n : Nat} : Walk (Itr 0 n) n (fun _ => True) (fun i H x H' => H' = H ∧ x = V.int (i : Nat)) :=
  walk_range.mono (fun _ h => h) (fun i H x H' _ _ y => ⟨y.1, y.2.trans (congrArg V.int (Int.zero_add _))⟩)
end OwnK

set_option Elab.async false
set_option linter.all false
set_option maxRecDepth 100000
namespace K34W
open PySem PySem.Spec PyProof.Rows L2 OwnK
def gg_short_lot_rows : List Value → List Value → List Value := fun us ws => match us, ws with | [], [w0] => [w0] | _, _ => ([] : List Value)
def gV_short_lot_rows : List V → List V → List V := fun us ws => match us, ws with | [], [w0] => [w0] | _, _ => ([] : List V)
def gg_greatest_pairing_rows : List Value → List Value → List Value := fun us ws => match us, ws with | [], [w0] => [w0] | _, _ => ([] : List Value)
def gV_greatest_pairing_rows : List V → List V → List V := fun us ws => match us, ws with | [], [w0] => [w0] | _, _ => ([] : List V)
def top (i : Nat) : Stmt := PySem.Challenge.pw_aswritten_k34_pairings_and_short_lots.main.body.getD i (.Pass ⟨0, 0, 0, 0⟩)
abbrev s_enlarge : Stmt := top 1
abbrev N_enlarge : List Str := ["rows", "number", "taken", "met", "value"]
abbrev P_enlarge : List Str := ["rows", "number", "taken", "met"]
theorem sc_enlarge : FnScope N_enlarge P_enlarge (defScope s_enlarge) := ⟨rfl, rfl, rfl, by decide +kernel, rfl, by decide +kernel, by decide +kernel⟩
abbrev s_paired : Stmt := top 2
abbrev N_paired : List Str := ["rows", "taken", "number"]
abbrev P_paired : List Str := ["rows"]
theorem sc_paired : FnScope N_paired P_paired (defScope s_paired) := ⟨rfl, rfl, rfl, by decide +kernel, rfl, by decide +kernel, by decide +kernel⟩
abbrev s_greatest_pairing : Stmt := top 3
abbrev N_greatest_pairing : List Str := ["rows", "taken", "values", "value", "number"]
abbrev P_greatest_pairing : List Str := ["rows"]
theorem sc_greatest_pairing : FnScope N_greatest_pairing P_greatest_pairing (defScope s_greatest_pairing) := ⟨rfl, rfl, rfl, by decide +kernel, rfl, by decide +kernel, by decide +kernel⟩
abbrev s_lot_from : Stmt := top 4
abbrev N_lot_from : List Str := ["rows", "start", "taken", "lot", "values", "at", "value"]
abbrev P_lot_from : List Str := ["rows", "start", "taken"]
theorem sc_lot_from : FnScope N_lot_from P_lot_from (defScope s_lot_from) := ⟨rfl, rfl, rfl, by decide +kernel, rfl, by decide +kernel, by decide +kernel⟩
abbrev s_short_lot : Stmt := top 5
abbrev N_short_lot : List Str := ["rows", "taken", "having", "without", "_", "number"]
abbrev P_short_lot : List Str := ["rows"]
theorem sc_short_lot : FnScope N_short_lot P_short_lot (defScope s_short_lot) := ⟨rfl, rfl, rfl, by decide +kernel, rfl, by decide +kernel, by decide +kernel⟩
abbrev s__law_flow : Stmt := top 7
abbrev N__law_flow : List Str := ["script", "cell"]
abbrev P__law_flow : List Str := ["script"]
theorem sc__law_flow : FnScope N__law_flow P__law_flow (defScope s__law_flow) := ⟨rfl, rfl, rfl, by decide +kernel, rfl, by decide +kernel, by decide +kernel⟩
abbrev s__law_draw : Stmt := top 8
abbrev N__law_draw : List Str := ["flow", "many", "got", "cell", "first", "second"]
abbrev P__law_draw : List Str := ["flow", "many"]
theorem sc__law_draw : FnScope N__law_draw P__law_draw (defScope s__law_draw) := ⟨rfl, rfl, rfl, by decide +kernel, rfl, by decide +kernel, by decide +kernel⟩
abbrev s__law_pick : Stmt := top 9
abbrev N__law_pick : List Str := ["flow", "things"]
abbrev P__law_pick : List Str := ["flow", "things"]
theorem sc__law_pick : FnScope N__law_pick P__law_pick (defScope s__law_pick) := ⟨rfl, rfl, rfl, by decide +kernel, rfl, by decide +kernel, by decide +kernel⟩
abbrev s__law_shuffled : Stmt := top 10
abbrev N__law_shuffled : List Str := ["flow", "things", "left", "made", "k"]
abbrev P__law_shuffled : List Str := ["flow", "things"]
theorem sc__law_shuffled : FnScope N__law_shuffled P__law_shuffled (defScope s__law_shuffled) := ⟨rfl, rfl, rfl, by decide +kernel, rfl, by decide +kernel, by decide +kernel⟩
abbrev s__law_whole : Stmt := top 11
abbrev N__law_whole : List Str := ["value"]
abbrev P__law_whole : List Str := ["value"]
theorem sc__law_whole : FnScope N__law_whole P__law_whole (defScope s__law_whole) := ⟨rfl, rfl, rfl, by decide +kernel, rfl, by decide +kernel, by decide +kernel⟩
abbrev s__law_rises : Stmt := top 12
abbrev N__law_rises : List Str := ["row", "k"]
abbrev P__law_rises : List Str := ["row"]
theorem sc__law_rises : FnScope N__law_rises P__law_rises (defScope s__law_rises) := ⟨rfl, rfl, rfl, by decide +kernel, rfl, by decide +kernel, by decide +kernel⟩
abbrev s__law_are_whole : Stmt := top 13
abbrev N__law_are_whole : List Str := ["value", "one"]
abbrev P__law_are_whole : List Str := ["value"]
theorem sc__law_are_whole : FnScope N__law_are_whole P__law_are_whole (defScope s__law_are_whole) := ⟨rfl, rfl, rfl, by decide +kernel, rfl, by decide +kernel, by decide +kernel⟩
abbrev s__law_seat : Stmt := top 14
abbrev N__law_seat : List Str := ["rows", "taken", "k", "seen", "v"]
abbrev P__law_seat : List Str := ["rows", "taken", "k", "seen"]
theorem sc__law_seat : FnScope N__law_seat P__law_seat (defScope s__law_seat) := ⟨rfl, rfl, rfl, by decide +kernel, rfl, by decide +kernel, by decide +kernel⟩
abbrev s__law_most : Stmt := top 15
abbrev N__law_most : List Str := ["rows", "taken", "k"]
abbrev P__law_most : List Str := ["rows"]
theorem sc__law_most : FnScope N__law_most P__law_most (defScope s__law_most) := ⟨rfl, rfl, rfl, by decide +kernel, rfl, by decide +kernel, by decide +kernel⟩
abbrev s__law_rows : Stmt := top 16
abbrev N__law_rows : List Str := ["flow", "many", "style", "wide", "scale", "pool", "most", "rows", "k", "row", "j", "v"]
abbrev P__law_rows : List Str := ["flow"]
theorem sc__law_rows : FnScope N__law_rows P__law_rows (defScope s__law_rows) := ⟨rfl, rfl, rfl, by decide +kernel, rfl, by decide +kernel, by decide +kernel⟩
abbrev s__law_right : Stmt := top 17
abbrev N__law_right : List Str := ["rows", "told", "short", "used", "most", "lot", "values", "every", "k", "v", "one"]
abbrev P__law_right : List Str := ["rows", "told", "short"]
theorem sc__law_right : FnScope N__law_right P__law_right (defScope s__law_right) := ⟨rfl, rfl, rfl, by decide +kernel, rfl, by decide +kernel, by decide +kernel⟩
abbrev s_law : Stmt := top 18
abbrev N_law : List Str := ["script", "flow", "one", "two", "told"]
abbrev P_law : List Str := ["script"]
theorem sc_law : FnScope N_law P_law (defScope s_law) := ⟨rfl, rfl, rfl, by decide +kernel, rfl, by decide +kernel, by decide +kernel⟩
/-- where the defs stand -/
structure Ad where
  a_enlarge : Addr
  a_paired : Addr
  a_greatest_pairing : Addr
  a_lot_from : Addr
  a_short_lot : Addr
  a__law_flow : Addr
  a__law_draw : Addr
  a__law_pick : Addr
  a__law_shuffled : Addr
  a__law_whole : Addr
  a__law_rises : Addr
  a__law_are_whole : Addr
  a__law_seat : Addr
  a__law_most : Addr
  a__law_rows : Addr
  a__law_right : Addr
  a_law : Addr
structure Fd where
  d_enlarge : FuncData
  d_paired : FuncData
  d_greatest_pairing : FuncData
  d_lot_from : FuncData
  d_short_lot : FuncData
  d__law_flow : FuncData
  d__law_draw : FuncData
  d__law_pick : FuncData
  d__law_shuffled : FuncData
  d__law_whole : FuncData
  d__law_rises : FuncData
  d__law_are_whole : FuncData
  d__law_seat : FuncData
  d__law_most : FuncData
  d__law_rows : FuncData
  d__law_right : FuncData
  d_law : FuncData
/-- what the walk asks of the top -/
structure Txt (K : PySem.W.Frag) (mg : Str → Option Value) (a : Ad) (d : Fd) : Prop where
  F_enlarge : Fun K "enlarge" "enlarge" s_enlarge a.a_enlarge d.d_enlarge
  k_enlarge : PySem.W.keepIn K (.ref a.a_enlarge) = true
  b_enlarge : Binds K d.d_enlarge P_enlarge []
  m_enlarge : mg "enlarge" = some (.ref a.a_enlarge)
  F_paired : Fun K "paired" "paired" s_paired a.a_paired d.d_paired
  k_paired : PySem.W.keepIn K (.ref a.a_paired) = true
  b_paired : Binds K d.d_paired P_paired []
  m_paired : mg "paired" = some (.ref a.a_paired)
  F_greatest_pairing : Fun K "greatest_pairing" "greatest_pairing" s_greatest_pairing a.a_greatest_pairing d.d_greatest_pairing
  k_greatest_pairing : PySem.W.keepIn K (.ref a.a_greatest_pairing) = true
  b_greatest_pairing : Binds K d.d_greatest_pairing P_greatest_pairing []
  m_greatest_pairing : mg "greatest_pairing" = some (.ref a.a_greatest_pairing)
  F_lot_from : Fun K "lot_from" "lot_from" s_lot_from a.a_lot_from d.d_lot_from
  k_lot_from : PySem.W.keepIn K (.ref a.a_lot_from) = true
  b_lot_from : Binds K d.d_lot_from P_lot_from []
  m_lot_from : mg "lot_from" = some (.ref a.a_lot_from)
  F_short_lot : Fun K "short_lot" "short_lot" s_short_lot a.a_short_lot d.d_short_lot
  k_short_lot : PySem.W.keepIn K (.ref a.a_short_lot) = true
  b_short_lot : Binds K d.d_short_lot P_short_lot []
  m_short_lot : mg "short_lot" = some (.ref a.a_short_lot)
  F__law_flow : Fun K "_law_flow" "_law_flow" s__law_flow a.a__law_flow d.d__law_flow
  k__law_flow : PySem.W.keepIn K (.ref a.a__law_flow) = true
  b__law_flow : Binds K d.d__law_flow P__law_flow []
  m__law_flow : mg "_law_flow" = some (.ref a.a__law_flow)
  F__law_draw : Fun K "_law_draw" "_law_draw" s__law_draw a.a__law_draw d.d__law_draw
  k__law_draw : PySem.W.keepIn K (.ref a.a__law_draw) = true
  b__law_draw : Binds K d.d__law_draw P__law_draw []
  m__law_draw : mg "_law_draw" = some (.ref a.a__law_draw)
  F__law_pick : Fun K "_law_pick" "_law_pick" s__law_pick a.a__law_pick d.d__law_pick
  k__law_pick : PySem.W.keepIn K (.ref a.a__law_pick) = true
  b__law_pick : Binds K d.d__law_pick P__law_pick []
  m__law_pick : mg "_law_pick" = some (.ref a.a__law_pick)
  F__law_shuffled : Fun K "_law_shuffled" "_law_shuffled" s__law_shuffled a.a__law_shuffled d.d__law_shuffled
  k__law_shuffled : PySem.W.keepIn K (.ref a.a__law_shuffled) = true
  b__law_shuffled : Binds K d.d__law_shuffled P__law_shuffled []
  m__law_shuffled : mg "_law_shuffled" = some (.ref a.a__law_shuffled)
  F__law_whole : Fun K "_law_whole" "_law_whole" s__law_whole a.a__law_whole d.d__law_whole
  k__law_whole : PySem.W.keepIn K (.ref a.a__law_whole) = true
  b__law_whole : Binds K d.d__law_whole P__law_whole []
  m__law_whole : mg "_law_whole" = some (.ref a.a__law_whole)
  F__law_rises : Fun K "_law_rises" "_law_rises" s__law_rises a.a__law_rises d.d__law_rises
  k__law_rises : PySem.W.keepIn K (.ref a.a__law_rises) = true
  b__law_rises : Binds K d.d__law_rises P__law_rises []
  m__law_rises : mg "_law_rises" = some (.ref a.a__law_rises)
  F__law_are_whole : Fun K "_law_are_whole" "_law_are_whole" s__law_are_whole a.a__law_are_whole d.d__law_are_whole
  k__law_are_whole : PySem.W.keepIn K (.ref a.a__law_are_whole) = true
  b__law_are_whole : Binds K d.d__law_are_whole P__law_are_whole []
  m__law_are_whole : mg "_law_are_whole" = some (.ref a.a__law_are_whole)
  F__law_seat : Fun K "_law_seat" "_law_seat" s__law_seat a.a__law_seat d.d__law_seat
  k__law_seat : PySem.W.keepIn K (.ref a.a__law_seat) = true
  b__law_seat : Binds K d.d__law_seat P__law_seat []
  m__law_seat : mg "_law_seat" = some (.ref a.a__law_seat)
  F__law_most : Fun K "_law_most" "_law_most" s__law_most a.a__law_most d.d__law_most
  k__law_most : PySem.W.keepIn K (.ref a.a__law_most) = true
  b__law_most : Binds K d.d__law_most P__law_most []
  m__law_most : mg "_law_most" = some (.ref a.a__law_most)
  F__law_rows : Fun K "_law_rows" "_law_rows" s__law_rows a.a__law_rows d.d__law_rows
  k__law_rows : PySem.W.keepIn K (.ref a.a__law_rows) = true
  b__law_rows : Binds K d.d__law_rows P__law_rows []
  m__law_rows : mg "_law_rows" = some (.ref a.a__law_rows)
  F__law_right : Fun K "_law_right" "_law_right" s__law_right a.a__law_right d.d__law_right
  k__law_right : PySem.W.keepIn K (.ref a.a__law_right) = true
  b__law_right : Binds K d.d__law_right P__law_right []
  m__law_right : mg "_law_right" = some (.ref a.a__law_right)
  F_law : Fun K "law" "law" s_law a.a_law d.d_law
  k_law : PySem.W.keepIn K (.ref a.a_law) = true
  b_law : Binds K d.d_law P_law []
  m_law : mg "law" = some (.ref a.a_law)
  kb_greatest_pairing_rows : KBinds K d.d_greatest_pairing P_greatest_pairing ["rows"] gg_greatest_pairing_rows gV_greatest_pairing_rows
  kb_short_lot_rows : KBinds K d.d_short_lot P_short_lot ["rows"] gg_short_lot_rows gV_short_lot_rows
  z_abs : mg "abs" = none
  z_bool : mg "bool" = none
  z_dict : mg "dict" = none
  z_int : mg "int" = none
  z_isinstance : mg "isinstance" = none
  z_len : mg "len" = none
  z_list : mg "list" = none
  z_max : mg "max" = none
  z_range : mg "range" = none
  z_sorted : mg "sorted" = none
  z_tuple : mg "tuple" = none
end K34W

set_option Elab.async false
set_option linter.all false
set_option maxRecDepth 100000
namespace K34W
open PySem PySem.Spec PyProof.Rows L2 OwnK K34
/-! ### the data -/
def encT (t : Tk) : List (Key × V) := t.map fun p => (Sum.inl p.1, V.int (p.2 : Nat))
def encS (c : V) (s : List Int) : List (Key × V) := s.map fun v => (Sum.inl v, c)
theorem valV_encT : ∀ (t : Tk) (v : Int), valV (encT t) (Sum.inl v : Key) = (look t v).map fun r => V.int (r : Nat)
  | [], v => rfl
  | p :: t, v => by
    show valV ((Sum.inl p.1, V.int (p.2 : Nat)) :: encT t) (Sum.inl v) = _
    by_cases e : p.1 = v
    · rw [valV_pos (show (Sum.inl p.1 : Key) = Sum.inl v from congrArg Sum.inl e), look_pos e]; rfl
    · rw [valV_neg (show ¬ (Sum.inl p.1 : Key) = Sum.inl v from fun z => e (Sum.inl.inj z)), look_neg e]
      exact valV_encT t v
theorem putK_encT (t : Tk) (v : Int) (k : Nat) : putK (encT t) (Sum.inl v : Key) (V.int (k : Nat)) = encT (put t v k) := by
  unfold putK put
  rw [valV_any, valV_encT, look_any]
  cases e : look t v with
  | none =>
    simp only [Option.map_none, Option.isSome_none]
    rw [if_neg (by decide), if_neg (by decide)]
    unfold encT
    rw [List.map_append]; rfl
  | some r =>
    simp only [Option.map_some, Option.isSome_some]
    rw [if_pos trivial, if_pos trivial]
    unfold encT
    rw [List.map_map, List.map_map]
    refine List.map_congr_left fun p _ => ?_
    show (if (Sum.inl p.1 : Key) = Sum.inl v then ((Sum.inl p.1 : Key), V.int (k : Nat)) else (Sum.inl p.1, V.int (p.2 : Nat))) = _
    by_cases c : p.1 = v
    · rw [if_pos (congrArg Sum.inl c)]
      show _ = ((Sum.inl (if p.1 = v then (p.1, k) else p).1 : Key), V.int ((if p.1 = v then (p.1, k) else p).2 : Nat))
      rw [if_pos c]
    · rw [if_neg (fun z => c (Sum.inl.inj z))]
      show _ = ((Sum.inl (if p.1 = v then (p.1, k) else p).1 : Key), V.int ((if p.1 = v then (p.1, k) else p).2 : Nat))
      rw [if_neg c]
theorem valV_encS (c : V) : ∀ (s : List Int) (v : Int), valV (encS c s) (Sum.inl v : Key) = if v ∈ s then some c else none
  | [], v => rfl
  | a :: s, v => by
    show valV ((Sum.inl a, c) :: encS c s) (Sum.inl v) = _
    by_cases e : a = v
    · rw [valV_pos (show (Sum.inl a : Key) = Sum.inl v from congrArg Sum.inl e), if_pos (by simp [e])]
    · rw [valV_neg (show ¬ (Sum.inl a : Key) = Sum.inl v from fun z => e (Sum.inl.inj z)), valV_encS c s v]
      have : v ∈ a :: s ↔ v ∈ s := by
        constructor
        · intro h
          rcases List.mem_cons.mp h with z | z
          · exact absurd z.symm e
          · exact z
        · exact fun h => List.mem_cons_of_mem _ h
      simp only [this]
theorem putK_encS {c : V} {s : List Int} {v : Int} (h : v ∉ s) : putK (encS c s) (Sum.inl v : Key) c = encS c (s ++ [v]) := by
  rw [putK_new c (by rw [valV_encS, if_neg h])]
  unfold encS
  rw [List.map_append]; rfl
theorem encT_len (t : Tk) : (encT t).length = t.length := List.length_map _
theorem encS_len (c : V) (s : List Int) : (encS c s).length = s.length := List.length_map _

/-! ### heaps -/
/-- all but the objects of a list stands as it stood -/
def But (L : List Addr) (H H' : Hp) : Prop := ∀ b o, H b = some o → b ∉ L → H' b = some o
theorem But.refl (L : List Addr) (H : Hp) : But L H H := fun _ _ h _ => h
theorem But.trans {L : List Addr} {H H1 H2 : Hp} (a : But L H H1) (b : But L H1 H2) : But L H H2 := fun c o h n => b c o (a c o h n) n
theorem But.upd {L : List Addr} {H H1 : Hp} {p : Addr} {o : HO} (a : But L H H1) (hp : p ∈ L ∨ H1 p = none) : But L H (upd H1 p o) := fun c u h n => by
  have q := a c u h n
  rw [upd_ne]
  · exact q
  · intro e
    rcases hp with hp | hp
    · exact n (e ▸ hp)
    · rw [e, hp] at q; cases q
theorem But.same {L : List Addr} {H H1 H2 : Hp} (a : But L H H1) (b : Same H1 H2) : But L H H2 := fun c o h n => b c o (a c o h n)
theorem _root_.L2.Same.but {L : List Addr} {H H1 H2 : Hp} (a : Same H H1) (b : But L H1 H2) : But L H H2 := fun c o h n => b c o (a c o h) n
theorem But.weak {L L' : List Addr} {H H1 : Hp} (a : But L H H1) (h : ∀ b ∈ L, b ∈ L') : But L' H H1 := fun c o e n => a c o e fun m => n (h c m)
/-- .. some of the list are new -/
theorem But.cut {L L' : List Addr} {H H1 : Hp} (a : But L H H1) (h : ∀ b ∈ L, b ∈ L' ∨ H b = none) : But L' H H1 := fun c o e n => a c o e fun m => by
  rcases h c m with z | z
  · exact n z
  · rw [e] at z; cases z
theorem But.nil {H H1 : Hp} (a : But [] H H1) : Same H H1 := fun b o e => a b o e (by simp)
theorem _root_.L2.Same.updN {H H1 : Hp} {p : Addr} {o : HO} (a : Same H H1) (h : H1 p = none) : Same H (upd H1 p o) := fun c u e => by
  rw [upd_ne (ne_of_none (a c u e) h)]; exact a c u e
structure RowsAt (H : Hp) (R : Addr) (rows : List (List Int)) : Prop where
  ex : ∃ as : List Addr, H R = some (.tup (as.map V.ref)) ∧ as.length = rows.length ∧ ∀ (i : Nat) a row, as[i]? = some a → rows[i]? = some row → H a = some (.tup (row.map V.int))
/-- an object that is no tuple -/
def NoTup (H : Hp) (b : Addr) : Prop := ∀ xs, H b ≠ some (.tup xs)
theorem noTup_of {H : Hp} {b : Addr} {o : HO} (h : H b = some o) (n : ∀ xs, o ≠ .tup xs) : NoTup H b := fun xs e => by
  rw [h] at e; exact n xs (Option.some.inj e)
theorem noTup_none {H : Hp} {b : Addr} (h : H b = none) : NoTup H b := fun xs e => by rw [h] at e; cases e
theorem RowsAt.but {H H' : Hp} {R : Addr} {rows : List (List Int)} {L : List Addr} (r : RowsAt H R rows) (b : But L H H') (n : ∀ x ∈ L, NoTup H x) : RowsAt H' R rows := by
  obtain ⟨as, h1, h2, h3⟩ := r.ex
  exact ⟨as, b _ _ h1 (fun m => n _ m _ h1), h2, fun i a row e1 e2 => b _ _ (h3 i a row e1 e2) (fun m => n _ m _ (h3 i a row e1 e2))⟩
theorem RowsAt.same {H H' : Hp} {R : Addr} {rows : List (List Int)} (r : RowsAt H R rows) (b : Same H H') : RowsAt H' R rows :=
  r.but (L := []) (fun c o e _ => b c o e) (fun _ m => by cases m)
theorem RowsAt.row {H : Hp} {R : Addr} {rows : List (List Int)} (r : RowsAt H R rows) {k : Nat} (hk : k < rows.length) :
    ∃ (xs : List V) (a : Addr), H R = some (.tup xs) ∧ xs.length = rows.length ∧ xs[k]? = some (.ref a) ∧ H a = some (.tup ((rowAt rows k).map V.int)) := by
  obtain ⟨as, h1, h2, h3⟩ := r.ex
  have hk' : k < as.length := by omega
  refine ⟨_, as[k], h1, by rw [List.length_map]; exact h2, by rw [List.getElem?_map, List.getElem?_eq_getElem hk']; rfl, ?_⟩
  have e : rowAt rows k = rows[k] := by unfold rowAt; simp [List.getD, hk]
  rw [e]
  exact h3 k _ _ (List.getElem?_eq_getElem hk') (List.getElem?_eq_getElem hk)
theorem RowsAt.tup {H : Hp} {R : Addr} {rows : List (List Int)} (r : RowsAt H R rows) : ∃ xs : List V, H R = some (.tup xs) ∧ xs.length = rows.length := by
  obtain ⟨as, h1, h2, h3⟩ := r.ex
  exact ⟨_, h1, by rw [List.length_map]; exact h2⟩
theorem atN {xs : List V} {j : Nat} {v : V} (h : xs[j]? = some v) : atI xs (j : Int) = some v := atI_nat h
theorem map_at {α : Type} {f : α → V} {l : List α} {i : Nat} {x : V} (h : (l.map f)[i]? = some x) : ∃ a, l[i]? = some a ∧ x = f a := by
  rw [List.getElem?_map] at h
  obtain ⟨a, h1, h2⟩ := Option.map_eq_some_iff.mp h
  exact ⟨a, h1, h2.symm⟩

/-! ### a row more -/
def spSeat (c : V) (n : Nat) : Sp := fun vs H Q _ => ∃ (R T S : Addr) (rows : List (List Int)) (U : List Int) (k : Nat) (tk : Tk) (sn : List Int),
  vs = [.ref R, .int (k : Nat), .ref T, .ref S] ∧ RowsAt H R rows ∧ k < rows.length ∧ (∀ row ∈ rows, ∀ v ∈ row, v ∈ U) ∧ U.length ≤ 1000 ∧ WfT rows tk ∧ WfS U sn ∧ U.length + 1 ≤ sn.length + n ∧
  H T = some (.dK (encT tk)) ∧ H S = some (.dK (encS c sn)) ∧ T ≠ S ∧
  ∀ H', But [T, S] H H' → H' T = some (.dK (encT (seat rows n k tk sn).2.1)) → H' S = some (.dK (encS c (seat rows n k tk sn).2.2)) → Q (.bl (seat rows n k tk sn).1) H'
theorem wfT_len {rows : List (List Int)} {U : List Int} {tk : Tk} (hU : ∀ row ∈ rows, ∀ v ∈ row, v ∈ U) (w : WfT rows tk) : tk.length ≤ U.length := by
  have := pigeon (tk.map (·.1)) U w.nd (fun v hv => by
    obtain ⟨p, hp, e⟩ := List.mem_map.mp hv
    have q := w.ok p hp
    have e2 : rowAt rows p.2 = rows[p.2]'q.1 := by unfold rowAt; simp [List.getD, q.1]
    exact hU _ (List.getElem_mem q.1) v (by rw [← e2, ← e]; exact q.2))
  rwa [List.length_map] at this
theorem no_seat {P : Program} {w : World} {K : PySem.W.Frag} {mg : Str → Option Value} {base : Heap} {f : Addr} {fd : FuncData} {ps : List Str} {c : V} : FnOk P w K mg base CX0 0 f fd ps (spSeat c 0) := by
  have no : ∀ vs H Q E, ¬ spSeat c 0 vs H Q E := fun vs H Q E h => by
    obtain ⟨R, T, S, rows, U, k, tk, sn, _, _, _, _, _, _, ws, hl, _⟩ := h
    have := pigeon sn U ws.nd ws.sub
    omega
  exact ⟨fun vs H Q E h => absurd h (no vs H Q E), fun A outer s H args us vs Q E _ _ _ _ h => absurd h (no vs H Q E)⟩
section
variable {P : Program} {w : World} {K : PySem.W.Frag} {mg : Str → Option Value} {base : Heap} {a : Ad} {d : Fd}
theorem turn_in {rec : Nat → Tk → List Int → R3} {k : Nat} {v : Int} {vs : List Int} {tk : Tk} {sn : List Int} (h : v ∈ sn) : turn rec k (v :: vs) tk sn = turn rec k vs tk sn := by
  show (if v ∈ sn then _ else _) = _
  rw [if_pos h]
theorem turn_new {rec : Nat → Tk → List Int → R3} {k : Nat} {v : Int} {vs : List Int} {tk : Tk} {sn : List Int} (h : v ∉ sn) (e : look tk v = none) : turn rec k (v :: vs) tk sn = (true, put tk v k, sn ++ [v]) := by
  show (if v ∈ sn then _ else _) = _
  rw [if_neg h, e]
theorem turn_yes {rec : Nat → Tk → List Int → R3} {k : Nat} {v : Int} {vs : List Int} {tk : Tk} {sn : List Int} {r : Nat} (h : v ∉ sn) (e : look tk v = some r) (y : (rec r tk (sn ++ [v])).1 = true) :
    turn rec k (v :: vs) tk sn = (true, put (rec r tk (sn ++ [v])).2.1 v k, (rec r tk (sn ++ [v])).2.2) := by
  show (if v ∈ sn then _ else _) = _
  rw [if_neg h, e]
  show (match rec r tk (sn ++ [v]) with
      | (true, tk', sn') => ((true, put tk' v k, sn') : R3)
      | (false, tk', sn') => turn rec k vs tk' sn') = _
  rcases eo : rec r tk (sn ++ [v]) with ⟨b, tk', sn'⟩
  rw [eo] at y
  cases y
  rfl
theorem turn_no {rec : Nat → Tk → List Int → R3} {k : Nat} {v : Int} {vs : List Int} {tk : Tk} {sn : List Int} {r : Nat} (h : v ∉ sn) (e : look tk v = some r) (y : (rec r tk (sn ++ [v])).1 = false) :
    turn rec k (v :: vs) tk sn = turn rec k vs (rec r tk (sn ++ [v])).2.1 (rec r tk (sn ++ [v])).2.2 := by
  show (if v ∈ sn then _ else _) = _
  rw [if_neg h, e]
  show (match rec r tk (sn ++ [v]) with
      | (true, tk', sn') => ((true, put tk' v k, sn') : R3)
      | (false, tk', sn') => turn rec k vs tk' sn') = _
  rcases eo : rec r tk (sn ++ [v]) with ⟨b, tk', sn'⟩
  rw [eo] at y
  cases y
  rfl
/-- the state between two turns -/
def PvSeat (R T S : Addr) (H : Hp) (c : V) (rows : List (List Int)) (U : List Int) (n k : Nat) (tk : Tk) (sn : List Int) (i : Nat) (σ : L2.St) (H2 : Hp) : Prop :=
  ∃ (tk2 : Tk) (sn2 : List Int) (x : Option V), σ = [some (.ref R), some (.int (k : Nat)), some (.ref T), some (.ref S), x] ∧ But [T, S] H H2 ∧ H2 T = some (.dK (encT tk2)) ∧ H2 S = some (.dK (encS c sn2)) ∧
    WfT rows tk2 ∧ WfS U sn2 ∧ sn.length ≤ sn2.length ∧ turn (seat rows n) k (rowAt rows k) tk sn = turn (seat rows n) k ((rowAt rows k).drop i) tk2 sn2
theorem ok_enlarge_step {n : Nat} (T' : Txt K mg a d) (G : FnOk P w K mg base CX0 n a.a_enlarge d.d_enlarge P_enlarge (spSeat (.bl true) n)) : FnOk P w K mg base CX0 (n + 1) a.a_enlarge d.d_enlarge P_enlarge (spSeat (.bl true) (n + 1)) := by
  have T := T'
  refine T.F_enlarge.ok sc_enlarge (fun vs H Q E h => ?_) (fun cdv A outer s H vs Q E hr h => ?_)
  · obtain ⟨R, T, S, rows, U, k, tk, sn, rfl, _⟩ := h
    rfl
  obtain ⟨R, TT, S, rows, U, k, tk, sn, rfl, hR, hk, hU, hU1, wt, ws, hl, hT, hS, hne, q⟩ := h
  have hu := hu_of hr
  refine ⟨_, (pss_cons (ps_for PassesOwn.never rfl (pi_tupK (K := K) (pe_ix (ix_tupK (K := K)) (pv 0) (pv 1) (fun _ _ => rfl))) (pg_name (i := 4) sc_enlarge.nd rfl (Or.inl rfl))
      (pss_one (ps_if (pt_cmp (pc_dnotin (hu_of hr) (pv 4) (pv 3))) (pss_cons (ps_dput (hu_of hr) (pv 3) (pv 4) pe_bl rfl)
      (pss_one (ps_if (PW.pt (pw_or (pt_cmp (pc_dnotin (hu_of hr) (pv 4) (pv 2))) (pw_or1 (pt_val (pe_call G hr (by rfl) T.m_enlarge T.k_enlarge T.b_enlarge .nil pass0 (pa_cons (pv 0) (pa_cons (pe_dget (hu_of hr) (pv 2) (pv 4) (fun _ _ => rfl)) (pa_cons (pv 2) (pa_cons (pv 3) pa_nil))))))))) (pss_cons (ps_dput (hu_of hr) (pv 2) (pv 4) (pv 1) rfl)
      (pss_one (ps_ret pe_bl))) pss_nil))) pss_nil)))
      (pss_one (ps_ret pe_bl))), ?_⟩
  obtain ⟨xs, ra, e1, e2, e3, e4⟩ := hR.row hk
  refine ⟨_, rfl, _, rfl, R, xs, _, _, rfl, rfl, SqT.of e1, atN e3, ra, rfl, ⟨_, SqT.of e4⟩, ?_⟩
  have inU : ∀ v ∈ rowAt rows k, v ∈ U := fun v hv => by
    have e : rowAt rows k = rows[k] := by unfold rowAt; simp [List.getD, hk]
    exact hU rows[k] (List.getElem_mem hk) v (e ▸ hv)
  refine for_it (walk_tup (xs := (rowAt rows k).map V.int)) (PvSeat R TT S H (.bl true) rows U n k tk sn)
    ⟨tk, sn, none, rfl, But.refl _ _, hT, hS, wt, ws, Nat.le_refl _, rfl⟩ (fun i σ H2 _ p => ?_) (fun i x σ H2 H3 hi p y => ?_) (fun σ H2 p => ?_)
  · obtain ⟨_, _, _, _, b, _⟩ := p
    refine SqT.of (b _ _ e4 (fun m => ?_))
    rcases List.mem_cons.mp m with z | z
    · rw [z, hT] at e4; cases e4
    · rw [List.mem_singleton.mp z, hS] at e4; cases e4
  · obtain ⟨tk2, sn2, x0, rfl, b, hT2, hS2, wt2, ws2, hl2, he⟩ := p
    obtain ⟨rfl, hx⟩ := y
    obtain ⟨v, hv, rfl⟩ := map_at hx
    have hi' : i < (rowAt rows k).length := (List.getElem?_eq_some_iff.mp hv).1
    have vin : v ∈ rowAt rows k := List.mem_of_getElem? hv
    have ed : (rowAt rows k).drop i = v :: (rowAt rows k).drop (i + 1) := by
      rw [List.drop_eq_getElem_cons hi']
      congr 1
      rw [List.getElem?_eq_getElem hi'] at hv
      exact Option.some.inj hv
    rw [ed] at he
    -- if value not in met
    refine ⟨_, rfl, _, rfl, S, _, rfl, DGet.k (k := Sum.inl v) hS2, _, rfl, ?_⟩
    rw [valV_encS]
    by_cases c : v ∈ sn2
    · rw [if_pos c]
      refine iteF ?_
      rw [turn_in c] at he
      exact ⟨tk2, sn2, _, rfl, b, hT2, hS2, wt2, ws2, hl2, he⟩
    · rw [if_neg c]
      refine iteT ?_
      have vU := inU v vin
      have ws3 := wfS_snoc ws2 vU c
      have ls := pigeon sn2 U ws2.nd ws2.sub
      have lt := wfT_len hU wt2
      -- met[value] = True
      refine ⟨_, rfl, _, rfl, S, _, rfl, DPut.k (k := Sum.inl v) hS2 (small1000 (by rw [encS_len]; omega)), ?_⟩
      rw [putK_encS c]
      have hT3 : upd H3 S (.dK (encS (.bl true) (sn2 ++ [v]))) TT = some (.dK (encT tk2)) := by rw [upd_ne hne]; exact hT2
      have b3 : But [TT, S] H (upd H3 S (.dK (encS (.bl true) (sn2 ++ [v])))) := b.upd (.inl (by simp))
      -- if value not in taken
      refine ⟨_, rfl, _, rfl, TT, _, rfl, DGet.k (k := Sum.inl v) hT3, _, rfl, ?_⟩
      rw [valV_encT]
      cases e : look tk2 v with
      | none =>
        refine iteT (iteT ?_)
        refine ⟨_, rfl, _, rfl, _, rfl, TT, _, rfl, DPut.k (k := Sum.inl v) hT3 (small1000 (by rw [encT_len]; omega)), ?_⟩
        rw [turn_new c e] at he
        rw [putK_encT]
        have eo : seat rows (n + 1) k tk sn = (true, put tk2 v k, sn2 ++ [v]) := he
        have qq := q (upd (upd H3 S (.dK (encS (.bl true) (sn2 ++ [v])))) TT (.dK (encT (put tk2 v k)))) (b3.upd (.inl (by simp))) (by rw [eo]; exact upd_same) (by rw [eo, upd_ne hne.symm]; exact upd_same)
        rw [eo] at qq
        exact qq
      | some r =>
        refine iteF ?_
        have hr2 : r < rows.length := (wt2.ok _ (look_mem e)).1
        -- enlarge(rows, taken[value], taken, met)
        refine ⟨_, rfl, _, rfl, _, rfl, TT, _, rfl, (show DGet _ TT (.int v) (some (.int (r : Nat))) from by have := DGet.k (k := Sum.inl v) hT3; rw [valV_encT, e] at this; exact this), _, rfl, _, rfl, ?_⟩
        have hT4 : ∀ x ∈ [TT, S], NoTup H x := fun x m => by
          rcases List.mem_cons.mp m with z | z
          · rw [z]; exact noTup_of hT (fun _ z => by cases z)
          · rw [List.mem_singleton.mp z]; exact noTup_of hS (fun _ z => by cases z)
        refine ⟨R, TT, S, rows, U, r, tk2, sn2 ++ [v], rfl, hR.but b3 hT4, hr2, hU, hU1, wt2, ws3, by rw [List.length_append]; show _ ≤ _ + 1 + n; omega, hT3, upd_same, hne, fun H4 b4 hT5 hS5 => ?_⟩
        have o := seat_out hU n r tk2 (sn2 ++ [v]) hr2 wt2 ws3
        have ol : (sn2 ++ [v]).length ≤ _ := o.len
        rw [List.length_append] at ol
        have lt2 := wfT_len hU o.wt
        refine ⟨_, rfl, ?_⟩
        cases eb : (seat rows n r tk2 (sn2 ++ [v])).1 with
        | true =>
          refine iteT ?_
          refine ⟨_, rfl, _, rfl, _, rfl, TT, _, rfl, DPut.k (k := Sum.inl v) hT5 (small1000 (by rw [encT_len]; omega)), ?_⟩
          rw [turn_yes c e eb] at he
          rw [putK_encT]
          have eo : seat rows (n + 1) k tk sn = _ := he
          have qq := q _ ((b3.trans b4).upd (p := TT) (o := .dK (encT (put (seat rows n r tk2 (sn2 ++ [v])).2.1 v k))) (.inl (by simp))) (by rw [eo]; exact upd_same) (by rw [eo, upd_ne hne.symm]; exact hS5)
          rw [eo] at qq
          exact qq
        | false =>
          refine iteF ?_
          rw [turn_no c e eb] at he
          exact ⟨_, _, _, rfl, b3.trans b4, hT5, hS5, o.wt, o.ws, by show sn.length ≤ _; have : (sn2.length + [v].length) ≤ _ := ol; omega, he⟩
  · obtain ⟨tk2, sn2, x0, rfl, b, hT2, hS2, wt2, ws2, hl2, he⟩ := p
    rw [List.length_map, List.drop_length] at he
    have eo : seat rows (n + 1) k tk sn = (false, tk2, sn2) := he
    have qq := q H2 b (by rw [eo]; exact hT2) (by rw [eo]; exact hS2)
    rw [eo] at qq
    exact qq
end
end K34W

set_option Elab.async false
set_option linter.all false
set_option maxRecDepth 100000
namespace K34W
open PySem PySem.Spec PyProof.Rows L2 OwnK K34
/-! ### the law's own search: the same -/
def spSeatL (n : Nat) : Sp := fun vs H Q _ => ∃ (R T S : Addr) (rows : List (List Int)) (U : List Int) (k : Nat) (tk : Tk) (sn : List Int),
  vs = [.ref R, .ref T, .int (k : Nat), .ref S] ∧ RowsAt H R rows ∧ k < rows.length ∧ (∀ row ∈ rows, ∀ v ∈ row, v ∈ U) ∧ U.length ≤ 1000 ∧ WfT rows tk ∧ WfS U sn ∧ U.length + 1 ≤ sn.length + n ∧
  H T = some (.dK (encT tk)) ∧ H S = some (.dK (encS (.int 1) sn)) ∧ T ≠ S ∧
  ∀ H', But [T, S] H H' → H' T = some (.dK (encT (seat rows n k tk sn).2.1)) → H' S = some (.dK (encS (.int 1) (seat rows n k tk sn).2.2)) → Q (.bl (seat rows n k tk sn).1) H'
theorem no_seatL {P : Program} {w : World} {K : PySem.W.Frag} {mg : Str → Option Value} {base : Heap} {f : Addr} {fd : FuncData} {ps : List Str} : FnOk P w K mg base CX0 0 f fd ps (spSeatL 0) := by
  have no : ∀ vs H Q E, ¬ spSeatL 0 vs H Q E := fun vs H Q E h => by
    obtain ⟨R, T, S, rows, U, k, tk, sn, _, _, _, _, _, _, ws, hl, _⟩ := h
    have := pigeon sn U ws.nd ws.sub
    omega
  exact ⟨fun vs H Q E h => absurd h (no vs H Q E), fun A outer s H args us vs Q E _ _ _ _ h => absurd h (no vs H Q E)⟩
section
variable {P : Program} {w : World} {K : PySem.W.Frag} {mg : Str → Option Value} {base : Heap} {a : Ad} {d : Fd}
def PvSeatL (R T S : Addr) (H : Hp) (c : V) (rows : List (List Int)) (U : List Int) (n k : Nat) (tk : Tk) (sn : List Int) (i : Nat) (σ : L2.St) (H2 : Hp) : Prop :=
  ∃ (tk2 : Tk) (sn2 : List Int) (x : Option V), σ = [some (.ref R), some (.ref T), some (.int (k : Nat)), some (.ref S), x] ∧ But [T, S] H H2 ∧ H2 T = some (.dK (encT tk2)) ∧ H2 S = some (.dK (encS c sn2)) ∧
    WfT rows tk2 ∧ WfS U sn2 ∧ sn.length ≤ sn2.length ∧ turn (seat rows n) k (rowAt rows k) tk sn = turn (seat rows n) k ((rowAt rows k).drop i) tk2 sn2
theorem ok_seat_step {n : Nat} (T' : Txt K mg a d) (G : FnOk P w K mg base CX0 n a.a__law_seat d.d__law_seat P__law_seat (spSeatL n)) : FnOk P w K mg base CX0 (n + 1) a.a__law_seat d.d__law_seat P__law_seat (spSeatL (n + 1)) := by
  have T := T'
  refine T.F__law_seat.ok sc__law_seat (fun vs H Q E h => ?_) (fun cdv A outer s H vs Q E hr h => ?_)
  · obtain ⟨R, T, S, rows, U, k, tk, sn, rfl, _⟩ := h
    rfl
  obtain ⟨R, TT, S, rows, U, k, tk, sn, rfl, hR, hk, hU, hU1, wt, ws, hl, hT, hS, hne, q⟩ := h
  have hu := hu_of hr
  refine ⟨_, (pss_cons (ps_for PassesOwn.never rfl (pi_tupK (K := K) (pe_ix (ix_tupK (K := K)) (pv 0) (pv 2) (fun _ _ => rfl))) (pg_name (i := 4) sc__law_seat.nd rfl (Or.inl rfl))
      (pss_one (ps_if (pt_cmp (pc_dnotin (hu_of hr) (pv 4) (pv 3))) (pss_cons (ps_dput (hu_of hr) (pv 3) (pv 4) pe_int rfl)
      (pss_one (ps_if (PW.pt (pw_or (pt_cmp (pc_dnotin (hu_of hr) (pv 4) (pv 1))) (pw_or1 (pt_val (pe_call G hr (by rfl) T.m__law_seat T.k__law_seat T.b__law_seat .nil pass0 (pa_cons (pv 0) (pa_cons (pv 1) (pa_cons (pe_dget (hu_of hr) (pv 1) (pv 4) (fun _ _ => rfl)) (pa_cons (pv 3) pa_nil))))))))) (pss_cons (ps_dput (hu_of hr) (pv 1) (pv 4) (pv 2) rfl)
      (pss_one (ps_ret pe_bl))) pss_nil))) pss_nil)))
      (pss_one (ps_ret pe_bl))), ?_⟩
  obtain ⟨xs, ra, e1, e2, e3, e4⟩ := hR.row hk
  refine ⟨_, rfl, _, rfl, R, xs, _, _, rfl, rfl, SqT.of e1, atN e3, ra, rfl, ⟨_, SqT.of e4⟩, ?_⟩
  have inU : ∀ v ∈ rowAt rows k, v ∈ U := fun v hv => by
    have e : rowAt rows k = rows[k] := by unfold rowAt; simp [List.getD, hk]
    exact hU rows[k] (List.getElem_mem hk) v (e ▸ hv)
  refine for_it (walk_tup (xs := (rowAt rows k).map V.int)) (PvSeatL R TT S H (.int 1) rows U n k tk sn)
    ⟨tk, sn, none, rfl, But.refl _ _, hT, hS, wt, ws, Nat.le_refl _, rfl⟩ (fun i σ H2 _ p => ?_) (fun i x σ H2 H3 hi p y => ?_) (fun σ H2 p => ?_)
  · obtain ⟨_, _, _, _, b, _⟩ := p
    refine SqT.of (b _ _ e4 (fun m => ?_))
    rcases List.mem_cons.mp m with z | z
    · rw [z, hT] at e4; cases e4
    · rw [List.mem_singleton.mp z, hS] at e4; cases e4
  · obtain ⟨tk2, sn2, x0, rfl, b, hT2, hS2, wt2, ws2, hl2, he⟩ := p
    obtain ⟨rfl, hx⟩ := y
    obtain ⟨v, hv, rfl⟩ := map_at hx
    have hi' : i < (rowAt rows k).length := (List.getElem?_eq_some_iff.mp hv).1
    have vin : v ∈ rowAt rows k := List.mem_of_getElem? hv
    have ed : (rowAt rows k).drop i = v :: (rowAt rows k).drop (i + 1) := by
      rw [List.drop_eq_getElem_cons hi']
      congr 1
      rw [List.getElem?_eq_getElem hi'] at hv
      exact Option.some.inj hv
    rw [ed] at he
    -- if value not in met
    refine ⟨_, rfl, _, rfl, S, _, rfl, DGet.k (k := Sum.inl v) hS2, _, rfl, ?_⟩
    rw [valV_encS]
    by_cases c : v ∈ sn2
    · rw [if_pos c]
      refine iteF ?_
      rw [turn_in c] at he
      exact ⟨tk2, sn2, _, rfl, b, hT2, hS2, wt2, ws2, hl2, he⟩
    · rw [if_neg c]
      refine iteT ?_
      have vU := inU v vin
      have ws3 := wfS_snoc ws2 vU c
      have ls := pigeon sn2 U ws2.nd ws2.sub
      have lt := wfT_len hU wt2
      -- met[value] = True
      refine ⟨_, rfl, _, rfl, S, _, rfl, DPut.k (k := Sum.inl v) hS2 (small1000 (by rw [encS_len]; omega)), ?_⟩
      rw [putK_encS c]
      have hT3 : upd H3 S (.dK (encS (.int 1) (sn2 ++ [v]))) TT = some (.dK (encT tk2)) := by rw [upd_ne hne]; exact hT2
      have b3 : But [TT, S] H (upd H3 S (.dK (encS (.int 1) (sn2 ++ [v])))) := b.upd (.inl (by simp))
      -- if value not in taken
      refine ⟨_, rfl, _, rfl, TT, _, rfl, DGet.k (k := Sum.inl v) hT3, _, rfl, ?_⟩
      rw [valV_encT]
      cases e : look tk2 v with
      | none =>
        refine iteT (iteT ?_)
        refine ⟨_, rfl, _, rfl, _, rfl, TT, _, rfl, DPut.k (k := Sum.inl v) hT3 (small1000 (by rw [encT_len]; omega)), ?_⟩
        rw [turn_new c e] at he
        rw [putK_encT]
        have eo : seat rows (n + 1) k tk sn = (true, put tk2 v k, sn2 ++ [v]) := he
        have qq := q (upd (upd H3 S (.dK (encS (.int 1) (sn2 ++ [v])))) TT (.dK (encT (put tk2 v k)))) (b3.upd (.inl (by simp))) (by rw [eo]; exact upd_same) (by rw [eo, upd_ne hne.symm]; exact upd_same)
        rw [eo] at qq
        exact qq
      | some r =>
        refine iteF ?_
        have hr2 : r < rows.length := (wt2.ok _ (look_mem e)).1
        -- _law_seat(rows, taken[value], taken, met)
        refine ⟨_, rfl, _, rfl, _, rfl, _, rfl, TT, _, rfl, (show DGet _ TT (.int v) (some (.int (r : Nat))) from by have := DGet.k (k := Sum.inl v) hT3; rw [valV_encT, e] at this; exact this), _, rfl, ?_⟩
        have hT4 : ∀ x ∈ [TT, S], NoTup H x := fun x m => by
          rcases List.mem_cons.mp m with z | z
          · rw [z]; exact noTup_of hT (fun _ z => by cases z)
          · rw [List.mem_singleton.mp z]; exact noTup_of hS (fun _ z => by cases z)
        refine ⟨R, TT, S, rows, U, r, tk2, sn2 ++ [v], rfl, hR.but b3 hT4, hr2, hU, hU1, wt2, ws3, by rw [List.length_append]; show _ ≤ _ + 1 + n; omega, hT3, upd_same, hne, fun H4 b4 hT5 hS5 => ?_⟩
        have o := seat_out hU n r tk2 (sn2 ++ [v]) hr2 wt2 ws3
        have ol : (sn2 ++ [v]).length ≤ _ := o.len
        rw [List.length_append] at ol
        have lt2 := wfT_len hU o.wt
        refine ⟨_, rfl, ?_⟩
        cases eb : (seat rows n r tk2 (sn2 ++ [v])).1 with
        | true =>
          refine iteT ?_
          refine ⟨_, rfl, _, rfl, _, rfl, TT, _, rfl, DPut.k (k := Sum.inl v) hT5 (small1000 (by rw [encT_len]; omega)), ?_⟩
          rw [turn_yes c e eb] at he
          rw [putK_encT]
          have eo : seat rows (n + 1) k tk sn = _ := he
          have qq := q _ ((b3.trans b4).upd (p := TT) (o := .dK (encT (put (seat rows n r tk2 (sn2 ++ [v])).2.1 v k))) (.inl (by simp))) (by rw [eo]; exact upd_same) (by rw [eo, upd_ne hne.symm]; exact hS5)
          rw [eo] at qq
          exact qq
        | false =>
          refine iteF ?_
          rw [turn_no c e eb] at he
          exact ⟨_, _, _, rfl, b3.trans b4, hT5, hS5, o.wt, o.ws, by show sn.length ≤ _; have : (sn2.length + [v].length) ≤ _ := ol; omega, he⟩
  · obtain ⟨tk2, sn2, x0, rfl, b, hT2, hS2, wt2, ws2, hl2, he⟩ := p
    rw [List.length_map, List.drop_length] at he
    have eo : seat rows (n + 1) k tk sn = (false, tk2, sn2) := he
    have qq := q H2 b (by rw [eo]; exact hT2) (by rw [eo]; exact hS2)
    rw [eo] at qq
    exact qq
theorem ok_enlarge (T : Txt K mg a d) : ∀ n, FnOk P w K mg base CX0 n a.a_enlarge d.d_enlarge P_enlarge (spSeat (.bl true) n)
  | 0 => no_seat
  | n + 1 => ok_enlarge_step T (ok_enlarge T n)
theorem ok_seat (T : Txt K mg a d) : ∀ n, FnOk P w K mg base CX0 n a.a__law_seat d.d__law_seat P__law_seat (spSeatL n)
  | 0 => no_seatL
  | n + 1 => ok_seat_step T (ok_seat T n)
end
end K34W

set_option Elab.async false
set_option linter.all false
set_option maxRecDepth 100000
namespace K34W
open PySem PySem.Spec PyProof.Rows L2 OwnK K34
/-! ### the program's other defs -/
structure Good60 (rows : List (List Int)) : Prop where
  ex : ∃ U : List Int, (∀ row ∈ rows, ∀ v ∈ row, v ∈ U) ∧ U.length ≤ 60
  len : rows.length ≤ 1000
theorem Good60.to {rows : List (List Int)} (g : Good60 rows) : ∃ U, GoodRows rows U ∧ U.length ≤ 60 := by
  obtain ⟨U, h1, h2⟩ := g.ex
  exact ⟨U, ⟨h1, by show U.length + 1 ≤ 64; omega⟩, h2⟩
def spPaired : Sp := fun vs H Q _ => ∃ (R : Addr) (rows : List (List Int)), vs = [.ref R] ∧ RowsAt H R rows ∧ Good60 rows ∧
  ∀ H' T, Same H H' → H T = none → H' T = some (.dK (encT (tkF rows))) → Q (.ref T) H'
def oV : Option Int → V
  | none => .non
  | some i => .int i
def spGp : Sp := fun vs H Q _ => ∃ (R : Addr) (rows : List (List Int)), vs = [.ref R] ∧ RowsAt H R rows ∧ Good60 rows ∧
  ∀ H' T, Same H H' → H T = none → H' T = some (.tup ((valsF rows).map oV)) → Q (.ref T) H'
def natV (k : Nat) : V := .int (k : Nat)
/-- the answer of lot_from: a pair of ascending tuples -/
structure LotAt (H : Hp) (p : Addr) (rows : List (List Int)) (s : Nat) : Prop where
  ex : ∃ (a b : Addr) (L1 L2 : List Int), H p = some (.tup [.ref a, .ref b]) ∧ H a = some (.tup (L1.map V.int)) ∧ H b = some (.tup (L2.map V.int)) ∧
    L1.Perm ((lotOf s (tkF rows) (lotV rows s)).map fun k : Nat => (k : Int)) ∧ L1.Pairwise (· ≤ ·) ∧ L2.Perm (lotV rows s) ∧ L2.Pairwise (· ≤ ·)
theorem LotAt.same {H H' : Hp} {p : Addr} {rows : List (List Int)} {s : Nat} (l : LotAt H p rows s) (e : Same H H') : LotAt H' p rows s := by
  obtain ⟨a, b, L1, L2, h1, h2, h3, r⟩ := l.ex
  exact ⟨a, b, L1, L2, e _ _ h1, e _ _ h2, e _ _ h3, r⟩
def spLot : Sp := fun vs H Q _ => ∃ (R T : Addr) (rows : List (List Int)) (s : Nat), vs = [.ref R, .int (s : Nat), .ref T] ∧ RowsAt H R rows ∧ Good60 rows ∧ H T = some (.dK (encT (tkF rows))) ∧ s < rows.length ∧ s ∉ (tkF rows).map (·.2) ∧
  ∀ H' p, Same H H' → H p = none → LotAt H' p rows s → Q (.ref p) H'
/-- None, or the answer for the first row that has none -/
def ShortAt (H : Hp) (v : V) (rows : List (List Int)) : Prop := (freeF rows = [] ∧ v = .non) ∨ ∃ (s : Nat) (r : List Nat) (p : Addr), freeF rows = s :: r ∧ v = .ref p ∧ LotAt H p rows s
theorem ShortAt.same {H H' : Hp} {v : V} {rows : List (List Int)} (l : ShortAt H v rows) (e : Same H H') : ShortAt H' v rows := by
  rcases l with ⟨h1, h2⟩ | ⟨s, r, p, h1, h2, h3⟩
  · exact .inl ⟨h1, h2⟩
  · exact .inr ⟨s, r, p, h1, h2, h3.same e⟩
def spShort : Sp := fun vs H Q _ => ∃ (R : Addr) (rows : List (List Int)), vs = [.ref R] ∧ RowsAt H R rows ∧ Good60 rows ∧ ∀ H' v, Same H H' → ShortAt H' v rows → Q v H'
theorem flat_rep (n : Nat) (v : V) : (List.replicate n [v]).flatten = List.replicate n v := by
  induction n with
  | zero => rfl
  | succ n ih => rw [List.replicate_succ, List.flatten_cons, ih]; rfl
theorem map_set {α β : Type} (f : α → β) (l : List α) (i : Nat) (x : α) : (l.set i x).map f = (l.map f).set i (f x) := List.map_set
theorem zadd (i : Nat) : (0 : Int) + (i : Int) = (i : Int) := Int.zero_add _
theorem len_le {n : Nat} (h : n ≤ 1000) : n ≤ sizeLine := Nat.le_of_lt (small1000 h)
theorem ixN_nat {n j : Nat} (h : j < n) : ixN n (j : Int) = some j := by
  unfold ixN
  rw [if_pos (by omega), if_pos (by omega)]; simp
section
variable {P : Program} {w : World} {K : PySem.W.Frag} {mg : Str → Option Value} {base : Heap} {a : Ad} {d : Fd}
theorem ok_paired (T' : Txt K mg a d) : FnOk P w K mg base CX0 65 a.a_paired d.d_paired P_paired spPaired := by
  have T := T'
  have G_enlarge := ok_enlarge (P := P) (w := w) (base := base) T 64
  refine T.F_paired.ok sc_paired (fun vs H Q E h => ?_) (fun cdv A outer s H vs Q E hr h => ?_)
  · obtain ⟨R, rows, rfl, _⟩ := h
    rfl
  obtain ⟨R, rows, rfl, hR, hG, q⟩ := h
  refine ⟨_, (pss_cons (ps_set (i := 1) sc_paired.nd rfl (Or.inl rfl) pe_dnewK)
      (pss_cons (ps_for PassesOwn.never rfl (pi_range1 (by rfl) T.z_range (pa_cons (pe_callB (call_len_seqK (K := K)) (by rfl) T.z_len (by decide +kernel) (pa_cons (pv 0) pa_nil)) pa_nil)) (pg_name (i := 2) sc_paired.nd rfl (Or.inl rfl))
      (pss_one (ps_expr (pe_call G_enlarge (hr.mono (by decide)) (by rfl) T.m_enlarge T.k_enlarge T.b_enlarge .nil pass0 (pa_cons (pv 0) (pa_cons (pv 2) (pa_cons (pv 1) (pa_cons pe_dnewK pa_nil))))))))
      (pss_one (ps_ret (pv 1))))), ?_⟩
  obtain ⟨U, hU, hU60⟩ := hG.to
  obtain ⟨xs, ex, el⟩ := hR.tup
  have hrl := hG.len
  intro TT nT
  have s1 : Same H (upd H TT (.dK [])) := (Same.refl H).updN nT
  refine ⟨_, rfl, R, xs, rfl, .inr (SqT.of (s1 _ _ ex)), (rows.length : Nat), by rw [el], by omega, by omega, ?_⟩
  refine for_it walk_range (fun i σ H2 => ∃ x, σ = [some (.ref R), some (.ref TT), x] ∧ Same H H2 ∧ H2 TT = some (.dK (encT (runs rows i))))
    ⟨none, rfl, s1, upd_same⟩ (fun _ _ _ _ _ => trivial) (fun i x σ H2 H3 hi p y => ?_) (fun σ H2 p => ?_)
  · obtain ⟨x0, rfl, s2, hT⟩ := p
    obtain ⟨rfl, rfl⟩ := y
    have hi : i < rows.length := hi
    refine ⟨_, rfl, _, rfl, _, rfl, fun S nS => ?_⟩
    have hne : TT ≠ S := ne_of_none hT nS
    have I := inv_runs hU.sub hU.len i (Nat.le_of_lt hi)
    refine ⟨R, TT, S, rows, U, i, runs rows i, [], (by show [V.ref R, V.int (0 + (i : Int)), V.ref TT, V.ref S] = _; rw [zadd]), (hR.same s2).same ((Same.refl _).updN nS), hi, hU.sub, by omega, I.wt, ⟨List.nodup_nil, fun _ h => by cases h⟩, (by have h : U.length + 1 ≤ 64 := hU.len; show U.length + 1 ≤ 0 + 64; omega),
      by rw [upd_ne hne]; exact hT, upd_same, hne, fun H4 b4 hT4 hS4 => ?_⟩
    refine ⟨_, rfl, fun b o e => ?_, hT4⟩
    have e2 := s2 b o e
    refine b4 b o (by rw [upd_ne (ne_of_none e2 nS)]; exact e2) (fun m => ?_)
    rcases List.mem_cons.mp m with z | z
    · rw [z, nT] at e; cases e
    · rw [List.mem_singleton.mp z, nS] at e2; cases e2
  · obtain ⟨x0, rfl, s2, hT⟩ := p
    exact ⟨_, rfl, q H2 TT s2 nT hT⟩
theorem ok_greatest (T' : Txt K mg a d) : FnOk P w K mg base CX0 66 a.a_greatest_pairing d.d_greatest_pairing P_greatest_pairing spGp := by
  have T := T'
  have G_paired := ok_paired (P := P) (w := w) (base := base) T
  refine T.F_greatest_pairing.ok sc_greatest_pairing (fun vs H Q E h => ?_) (fun cdv A outer s H vs Q E hr h => ?_)
  · obtain ⟨R, rows, rfl, _⟩ := h
    rfl
  obtain ⟨R, rows, rfl, hR, hG, q⟩ := h
  refine ⟨_, (pss_cons (ps_set (i := 1) sc_greatest_pairing.nd rfl (Or.inl rfl) (pe_call G_paired (hr.mono (by decide)) (by rfl) T.m_paired T.k_paired T.b_paired .nil pass0 (pa_cons (pv 0) pa_nil)))
      (pss_cons (ps_set (i := 2) sc_greatest_pairing.nd rfl (Or.inl rfl) (pe_op op_rep (pe_lst (pa_cons pe_non pa_nil)) (pe_callB (call_len_seqK (K := K)) (by rfl) T.z_len (by decide +kernel) (pa_cons (pv 0) pa_nil))))
      (pss_cons (ps_lock (ps_for PassesOwn.never rfl (pi_items (pv 1)) (pg_tupK (K := K) (n := 2) rfl (pgs_cons (pg_name (i := 3) sc_greatest_pairing.nd rfl (Or.inl rfl)) (pgs_cons (pg_name (i := 4) sc_greatest_pairing.nd rfl (Or.inl rfl)) pgs_nil)))
      (pss_one (ps_asg (pv 3) (pg_sub (pv 2) (pv 4) set_list)))))
      (pss_one (ps_ret (pe_callTy (call_tuple_ofK (K := K)) (by rfl) T.z_tuple (by decide +kernel) (pa_cons (pv 2) pa_nil))))))), ?_⟩
  obtain ⟨U, hU, hU60⟩ := hG.to
  obtain ⟨xs, ex, el⟩ := hR.tup
  have hrl := hG.len
  have I := invF hU
  refine ⟨_, rfl, R, rows, rfl, hR, hG, fun H1 TT s1 nT hT => ?_⟩
  refine ⟨len_le (by decide), fun l nl => ?_⟩
  have s2 : Same H1 (upd H1 l (.lst [.non])) := (Same.refl H1).updN nl
  refine ⟨_, rfl, R, xs, rfl, .inr (SqT.of (s2 _ _ (s1 _ _ ex))), l, _, _, rfl, rfl, upd_same, by omega, by omega, ?_, fun v nv => ?_⟩
  · show 1 * _ ≤ _
    rw [el]
    exact len_le (by simpa using hrl)
  have e0 : (List.replicate ((xs.length : Int)).toNat [V.non]).flatten = ((List.replicate rows.length (none : Option Int)).map oV) := by
    rw [el, flat_rep, List.map_replicate]; rfl
  rw [e0]
  have s3 : Same H1 (upd (upd H1 l (.lst [.non])) v (.lst ((List.replicate rows.length (none : Option Int)).map oV))) := s2.updN nv
  have hT3 := s3 _ _ hT
  have neTv : v ≠ TT := by
    intro e
    rw [e] at nv
    rw [s2 _ _ hT] at nv; cases nv
  -- for value, number in taken.items()
  refine ⟨TT, _, hT3, trivial, fun od => ?_⟩
  refine ⟨_, rfl, TT, od, _, rfl, upd_same, ?_⟩
  refine for_it walk_items (fun i σ H2 => ∃ x y, σ = [some (.ref R), some (.ref TT), some (.ref v), x, y] ∧ But [TT, v] H1 H2 ∧ H2 TT = some (.frz od (.dK (encT (tkF rows)))) ∧ H2 v = some (.lst ((setAll ((tkF rows).take i) (List.replicate rows.length none)).map oV)))
    ⟨none, none, rfl, ?_, upd_same, ?_⟩ (fun i σ H2 _ p => ?_) (fun i x σ H2 H3 hi p y => ?_) (fun σ H2 p => ?_)
  · exact (((But.refl [TT, v] H1).same s2).upd (p := v) (.inl (by simp))).upd (p := TT) (.inl (by simp))
  · rw [upd_ne neTv]; exact upd_same
  · obtain ⟨_, _, _, _, h, _⟩ := p
    exact h
  · obtain ⟨x1, y1, rfl, b, hT2, hv2⟩ := p
    obtain ⟨Tu, kx, vx, rfl, nTu, rfl, g1, g2⟩ := y
    rw [encT_len] at hi
    have gi : (encT (tkF rows))[i]? = some (Sum.inl (tkF rows)[i].1, V.int ((tkF rows)[i].2 : Nat)) := by
      unfold encT
      rw [List.getElem?_map, List.getElem?_eq_getElem hi]; rfl
    dsimp only at g1 g2
    rw [gi] at g1 g2
    have g1 := Option.some.inj g1
    have g2 := Option.some.inj g2
    subst g1; subst g2
    have nTv : v ≠ Tu := ne_of_none hv2 nTu
    have nTT : TT ≠ Tu := ne_of_none hT2 nTu
    refine ⟨Tu, _, rfl, SqT.of upd_same, rfl, _, _, rfl, _, _, rfl, rfl, ?_⟩
    have hlt : (tkF rows)[i].2 < rows.length := (I.wt.ok _ (List.getElem_mem hi)).1
    refine ⟨_, rfl, _, rfl, _, rfl, v, _, _, (tkF rows)[i].2, rfl, rfl, (by rw [upd_ne nTv]; exact hv2), ?_, ?_⟩
    · refine ixN_nat ?_
      rw [List.length_map, setAll_len, List.length_replicate]
      exact hlt
    · refine ⟨_, _, rfl, ?_, ?_, ?_⟩
      · exact (b.upd (.inr nTu)).upd (p := v) (.inl (by simp))
      · rw [upd_ne neTv.symm, upd_ne nTT]; exact hT2
      · rw [upd_same, setAll_take _ _ (List.getElem?_eq_getElem hi), map_set]; rfl
  · obtain ⟨x1, y1, rfl, b, hT2, hv2⟩ := p
    rw [encT_len, List.take_length] at hv2
    refine ⟨hT2, ?_⟩
    refine ⟨_, rfl, v, _, rfl, .inl ⟨SqL.of (by rw [upd_ne neTv]; exact hv2), fun p np => ?_⟩⟩
    have nTp : TT ≠ p := by intro e; rw [e, upd_same] at np; cases np
    refine q _ p (fun b' o e => ?_) ?_ (by rw [upd_same]; rfl)
    · have e1 := s1 _ _ e
      by_cases h1 : b' = TT
      · rw [h1, nT] at e; cases e
      · have nbv : b' ≠ v := by
          intro z
          have := s2 _ _ e1
          rw [z, nv] at this; cases this
        have e2 : H2 b' = some o := b _ _ e1 (fun m => by
          rcases List.mem_cons.mp m with z | z
          · exact h1 z
          · exact nbv (List.mem_singleton.mp z))
        have nbp : b' ≠ p := by
          intro z
          rw [upd_ne (by rw [← z]; exact h1), ← z, e2] at np; cases np
        rw [upd_ne nbp, upd_ne h1]; exact e2
    · cases ep : H p with
      | none => rfl
      | some o =>
        exfalso
        have e1 := s1 _ _ ep
        have npT : p ≠ TT := fun z => nTp z.symm
        have npv : p ≠ v := by
          intro z
          have := s2 _ _ e1
          rw [z, nv] at this; cases this
        have e2 : H2 p = some o := b _ _ e1 (fun m => by
          rcases List.mem_cons.mp m with z | z
          · exact npT z
          · exact npv (List.mem_singleton.mp z))
        rw [upd_ne npT, e2] at np; cases np
end
end K34W

set_option Elab.async false
set_option linter.all false
set_option maxRecDepth 100000
namespace K34W
open PySem PySem.Spec PyProof.Rows L2 OwnK K34
theorem _root_.L2.Same.updF {H H1 : Hp} {p : Addr} {o : HO} (a : Same H H1) (h : H p = none) : Same H (upd H1 p o) := fun c u e => by
  rw [upd_ne (ne_of_none e h)]; exact a c u e
theorem But.unlock {H H1 : Hp} {t : Addr} {u : HO} {L : List Addr} (b : But (t :: L) H H1) (ht : H t = some u) (hL : ∀ x ∈ L, H x = none) : Same H (L2.upd H1 t u) := fun c o e => by
  by_cases h : c = t
  · rw [h, L2.upd_same, ← e, h, ht]
  · rw [L2.upd_ne h]
    refine b c o e fun m => ?_
    rcases List.mem_cons.mp m with z | z
    · exact h z
    · rw [hL c z] at e; cases e
theorem natV_map (l : List Nat) : l.map natV = (l.map fun k : Nat => (k : Int)).map V.int := by rw [List.map_map]; rfl
theorem growV_in {v : Int} {r vs : List Int} (h : v ∈ vs) : growV (v :: r) vs = growV r vs := by
  show growV r (if v ∈ vs then _ else _) = _
  rw [if_pos h]
theorem growV_out {v : Int} {r vs : List Int} (h : v ∉ vs) : growV (v :: r) vs = growV r (vs ++ [v]) := by
  show growV r (if v ∈ vs then _ else _) = _
  rw [if_neg h]
theorem lotOf_snoc {s : Nat} {tk : Tk} {vs : List Int} {v : Int} : lotOf s tk (vs ++ [v]) = lotOf s tk vs ++ [tkv tk v] := by
  unfold lotOf
  rw [List.map_append]; rfl
theorem encS_keys (c : V) (s : List Int) : (encS c s).map (·.1) = s.map Sum.inl := by
  unfold encS
  rw [List.map_map]; rfl
theorem nodup_snoc {vs : List Int} {v : Int} (h : vs.Nodup) (hn : v ∉ vs) : (vs ++ [v]).Nodup := by
  rw [List.nodup_append]
  refine ⟨h, by simp, fun a ha b hb => ?_⟩
  have : b = v := List.mem_singleton.mp hb
  subst this
  exact fun z => hn (z ▸ ha)
section
variable {P : Program} {w : World} {K : PySem.W.Frag} {mg : Str → Option Value} {base : Heap} {a : Ad} {d : Fd}
def WLot (H : Hp) (R T l D : Addr) (rows : List (List Int)) (s : Nat) (S : List Int) (i : Nat) (vs : List Int) (σ : L2.St) (H2 : Hp) : Prop :=
  ∃ x : Option V, σ = [some (.ref R), some (.int (s : Nat)), some (.ref T), some (.ref l), some (.ref D), some (.int (i : Nat)), x] ∧ Same H H2 ∧ H2 l = some (.lst ((lotOf s (tkF rows) vs).map natV)) ∧ H2 D = some (.dK (encS (.bl true) vs))
theorem ok_lot_from (T' : Txt K mg a d) : FnOk P w K mg base CX0 1 a.a_lot_from d.d_lot_from P_lot_from spLot := by
  have T := T'
  refine T.F_lot_from.ok sc_lot_from (fun vs H Q E h => ?_) (fun cdv A outer st H vs Q E hr h => ?_)
  · obtain ⟨R, T, rows, s, rfl, _⟩ := h
    rfl
  obtain ⟨R, TT, rows, s, rfl, hR, hG, hT, hs, hns, q⟩ := h
  refine ⟨_, (pss_cons (ps_par3 (i := 3) (j := 4) (l := 5) (by rfl) sc_lot_from.nd rfl rfl rfl (by decide) (by decide) (by decide) rfl rfl rfl (pa_cons (pe_lst (pa_cons (pv 1) pa_nil)) (pa_cons pe_dnewK (pa_cons pe_int pa_nil))) (by rfl))
      (pss_cons (ps_while PassesOwn.never (pt_cmpR op_lt (pv 5) (pe_callB (call_len_seqK (K := K)) (by rfl) T.z_len (by decide +kernel) (pa_cons (pv 3) pa_nil)) (nomark _))
      (pss_cons (ps_for PassesOwn.never rfl (pi_tupK (K := K) (pe_ix (ix_tupK (K := K)) (pv 0) (pe_ix (ix_listK (K := K)) (pv 3) (pv 5) (fun _ _ => rfl)) (fun _ _ => rfl))) (pg_name (i := 6) sc_lot_from.nd rfl (Or.inl rfl))
      (pss_one (ps_if (pt_cmp (pc_dnotin (hu_of hr) (pv 6) (pv 4))) (pss_cons (ps_dput (hu_of hr) (pv 4) (pv 6) pe_bl rfl)
      (pss_one (ps_expr (pe_bm PySem.F.plainAttrs_list PySem.F.slot_list_append PySem.F.type_list_append mt_append (pv 3) (pa_cons (pe_dget (hu_of hr) (pv 2) (pv 6) (fun _ _ => rfl)) pa_nil))))) pss_nil)))
      (pss_one (ps_aug (i := 5) sc_lot_from.nd rfl (Or.inl rfl) pe_int ip_add))))
      (pss_one (ps_ret (pe_tup (pa_cons (pe_callTy (call_tuple_ofK (K := K)) (by rfl) T.z_tuple (by decide +kernel) (pa_cons (pe_callB (cr_sortedK (K := K)) (by rfl) T.z_sorted (by decide +kernel) (pa_cons (pv 3) pa_nil)) pa_nil)) (pa_cons (pe_callTy (call_tuple_ofK (K := K)) (by rfl) T.z_tuple (by decide +kernel) (pa_cons (pe_callB (call_sortedDI rfl) (by rfl) T.z_sorted (by decide +kernel) (pa_cons (pv 4) pa_nil)) pa_nil)) pa_nil))))))), ?_⟩
  obtain ⟨U, hU, hU60⟩ := hG.to
  have hrl := hG.len
  have I := invF hU
  obtain ⟨S, sU, sC, sR, sE⟩ := lotV_end hU hs hns
  have small : ∀ vs : List Int, vs.Nodup → (∀ v ∈ vs, v ∈ S) → vs.length ≤ 60 := fun vs h1 h2 => by
    have := pigeonA vs U h1 (fun v hv => sU v (h2 v hv))
    omega
  have inTk : ∀ v ∈ S, look (tkF rows) v ≠ none := fun v hv => by
    obtain ⟨r, e, _⟩ := sC v hv
    rw [e]; simp
  refine ⟨_, rfl, len_le (by show 1 ≤ 1000; decide), fun l nl => fun D nD => ⟨_, _, _, rfl, ?_⟩⟩
  have nD0 : H D = none := by
    cases e : H D with
    | none => rfl
    | some o => rw [upd_ne (ne_of_none e nl), e] at nD; cases nD
  have hlD : l ≠ D := by intro e; rw [← e, upd_same] at nD; cases nD
  have s1 : Same H (upd (upd H l (.lst [.int (s : Nat)])) D (.dK [])) := ((Same.refl H).updN nl).updN nD
  refine ⟨fun m σ H2 => ∃ (i : Nat) (vs : List Int), m = 66 - i ∧ InvB rows s (tkF rows) S i vs ∧ bfs rows s (tkF rows) (66 - i) i vs = lotV rows s ∧ WLot H R TT l D rows s S i vs σ H2, ⟨66, 0, [], rfl, invB_start _ _ _ _, rfl, none, rfl, s1, by rw [upd_ne hlD, upd_same]; rfl, upd_same⟩, fun m σ H2 hW => ?_⟩
  obtain ⟨i, vs, rfl, B, eB, x0, rfl, s2, hl2, hD2⟩ := hW
  have lv := small vs B.nd B.sub
  refine ⟨_, rfl, _, rfl, l, _, rfl, .inl (SqL.of hl2), _, _, rfl, rfl, _, rfl, ?_⟩
  refine ite2 (fun c => ?_) (fun c => ?_)
  · have c := of_decide_eq_true c
    rw [List.length_map, lot_len] at c
    have ci : i < vs.length + 1 := by omega
    have hil : i < (lotOf s (tkF rows) vs).length := by rw [lot_len]; exact ci
    -- the row looked at
    obtain ⟨k, hk0⟩ : ∃ k, (lotOf s (tkF rows) vs)[i]? = some k := ⟨_, List.getElem?_eq_getElem hil⟩
    have hkin : k ∈ lotOf s (tkF rows) vs := List.mem_of_getElem? hk0
    have hk : k < rows.length := lot_lt hU hs (fun v hv => inTk v (B.sub v hv)) k hkin
    have hgd : (lotOf s (tkF rows) vs).getD i 0 = k := by rw [List.getD_eq_getElem?_getD, hk0]; rfl
    have rS : ∀ u ∈ rowAt rows k, u ∈ S := lot_row sR sC B.sub hkin
    have step := invB_step sR sC B ci
    rw [hgd] at step
    have eB2 : bfs rows s (tkF rows) (66 - (i + 1)) (i + 1) (growV (rowAt rows k) vs) = lotV rows s := by
      have e66 : 66 - i = (66 - (i + 1)) + 1 := by omega
      rw [e66] at eB
      unfold bfs at eB
      rw [if_pos ci, hgd] at eB
      exact eB
    refine ⟨fun σ' H' => WLot H R TT l D rows s S (i + 1) (growV (rowAt rows k) vs) σ' H', fun σ' H' h => ⟨66 - (i + 1), by omega, i + 1, _, rfl, step, eB2, h⟩, ?_⟩
    obtain ⟨xs, ra, e1, e2, e3, e4⟩ := (hR.same s2).row hk
    refine ⟨_, rfl, _, rfl, _, rfl, l, _, _, natV k, rfl, rfl, SqL.of hl2, atN (by rw [List.getElem?_map, hk0]; rfl), R, xs, _, _, rfl, rfl, SqT.of e1, atN e3, ra, rfl, ⟨_, SqT.of e4⟩, ?_⟩
    have ral : ra ≠ l := by intro z; rw [z, hl2] at e4; cases e4
    have raD : ra ≠ D := by intro z; rw [z, hD2] at e4; cases e4
    refine for_it (walk_tup (xs := (rowAt rows k).map V.int)) (fun j σ H3 => ∃ (vs3 : List Int), WLot H R TT l D rows s S i vs3 σ H3 ∧ H3 ra = some (.tup ((rowAt rows k).map V.int)) ∧ growV (rowAt rows k) vs = growV ((rowAt rows k).drop j) vs3 ∧ vs3.Nodup ∧ ∀ v ∈ vs3, v ∈ S)
      ⟨vs, ⟨x0, rfl, s2, hl2, hD2⟩, e4, rfl, B.nd, B.sub⟩ (fun j σ H3 _ p => ?_) (fun j x σ H3 H4 hj p y => ?_) (fun σ H3 p => ?_)
    · obtain ⟨_, _, h, _⟩ := p
      exact SqT.of h
    · obtain ⟨vs3, ⟨x1, rfl, s3, hl3, hD3⟩, h4, eg, nd3, sub3⟩ := p
      obtain ⟨rfl, hx⟩ := y
      obtain ⟨v, hv, rfl⟩ := map_at hx
      have hj' : j < (rowAt rows k).length := (List.getElem?_eq_some_iff.mp hv).1
      have vin : v ∈ rowAt rows k := List.mem_of_getElem? hv
      have ed : (rowAt rows k).drop j = v :: (rowAt rows k).drop (j + 1) := by
        rw [List.drop_eq_getElem_cons hj']
        congr 1
        rw [List.getElem?_eq_getElem hj'] at hv
        exact Option.some.inj hv
      rw [ed] at eg
      have lv3 := small vs3 nd3 sub3
      refine ⟨_, rfl, _, rfl, D, _, rfl, DGet.k (k := Sum.inl v) hD3, _, rfl, ?_⟩
      rw [valV_encS]
      by_cases c2 : v ∈ vs3
      · rw [if_pos c2]
        refine iteF ?_
        rw [growV_in c2] at eg
        exact ⟨vs3, ⟨_, rfl, s3, hl3, hD3⟩, h4, eg, nd3, sub3⟩
      · rw [if_neg c2]
        refine iteT ?_
        rw [growV_out c2] at eg
        refine ⟨_, rfl, _, rfl, D, _, rfl, DPut.k (k := Sum.inl v) hD3 (small1000 (by rw [encS_len]; omega)), ?_⟩
        rw [putK_encS c2]
        have hl4 : upd H4 D (.dK (encS (.bl true) (vs3 ++ [v]))) l = some (.lst ((lotOf s (tkF rows) vs3).map natV)) := by rw [upd_ne hlD]; exact hl3
        have s4 : Same H (upd H4 D (.dK (encS (.bl true) (vs3 ++ [v])))) := s3.updF nD0
        obtain ⟨r, er, _⟩ := sC v (rS v vin)
        have etk : tkv (tkF rows) v = r := by unfold tkv; rw [er]; rfl
        refine ⟨_, rfl, .inl ⟨rfl, _, SqL.of hl4⟩, _, rfl, _, rfl, TT, .int (r : Nat), rfl, (by have := DGet.k (k := Sum.inl v) (s4 _ _ hT); rw [valV_encT, er] at this; exact this), l, _, _, rfl, rfl, hl4, small1000 (by rw [List.length_map, lot_len]; omega), ?_⟩
        refine ⟨vs3 ++ [v], ⟨_, rfl, s4.updF nl, ?_, ?_⟩, ?_, eg, nodup_snoc nd3 c2, ?_⟩
        · rw [upd_same, lotOf_snoc, List.map_append, etk]; rfl
        · rw [upd_ne hlD.symm, upd_same]
        · rw [upd_ne ral, upd_ne raD]; exact h4
        · intro u hu
          rcases List.mem_append.mp hu with z | z
          · exact sub3 u z
          · rw [List.mem_singleton.mp z]; exact rS v vin
    · obtain ⟨vs3, ⟨x1, rfl, s3, hl3, hD3⟩, h4, eg, nd3, sub3⟩ := p
      rw [List.length_map, List.drop_length] at eg
      have eg : growV (rowAt rows k) vs = vs3 := eg
      refine ⟨_, rfl, _, _, rfl, rfl, ?_⟩
      rw [eg]
      exact ⟨x1, rfl, s3, hl3, hD3⟩
  · have c := of_decide_eq_false (Bool.eq_false_iff.mpr c)
    rw [List.length_map, lot_len] at c
    have ci : ¬ i < vs.length + 1 := by omega
    rw [bfs_end _ _ _ ci] at eB
    subst eB
    refine ⟨_, rfl, l, (lotOf s (tkF rows) (lotV rows s)).map (fun k : Nat => (k : Int)), rfl, SqL.of (by rw [← natV_map]; exact hl2), by rw [List.length_map, lot_len]; omega, fun L1 p1 perm1 up1 np1 => ?_⟩
    refine ⟨p1, _, rfl, .inl ⟨SqL.of upd_same, fun p2 np2 => ?_⟩⟩
    have s3 : Same H2 (upd (upd H2 p1 (.lst (L1.map V.int))) p2 (.tup (L1.map V.int))) := ((Same.refl H2).updN np1).updN np2
    refine ⟨_, rfl, D, _, lotV rows s, rfl, Rd.of (s3 _ _ hD2), encS_keys _ _, by omega, fun L2 p3 perm2 up2 np3 => ?_⟩
    refine ⟨p3, _, rfl, .inl ⟨SqL.of upd_same, fun p4 np4 => ?_⟩⟩
    refine ⟨len_le (by show 2 ≤ 1000; decide), fun p np => ?_⟩
    have s4 : Same (upd (upd H2 p1 (.lst (L1.map V.int))) p2 (.tup (L1.map V.int))) _ := (((Same.refl _).updN np3).updN np4).updN (o := .tup [.ref p2, .ref p4]) np
    have n4 : p4 ≠ p := by intro z; rw [← z, upd_same] at np; cases np
    refine q _ p (s2.trans (s3.trans s4)) ?_ ⟨p2, p4, L1, L2, upd_same, s4 _ _ upd_same, by rw [upd_ne n4, upd_same], perm1, up1, perm2, up2⟩
    exact Same.free (s2.trans (s3.trans (((Same.refl _).updN np3).updN np4))) np
end
end K34W

set_option Elab.async false
set_option linter.all false
set_option maxRecDepth 100000
namespace K34W
open PySem PySem.Spec PyProof.Rows L2 OwnK K34
theorem inV_nat (k : Nat) : ∀ l : List Nat, inV (natV k) (l.map natV) = decide (k ∈ l)
  | [] => rfl
  | a :: l => by
    show (eqV (natV a) (natV k) || inV (natV k) (l.map natV)) = _
    rw [inV_nat k l]
    have e : eqV (natV a) (natV k) = decide (k = a) := by
      show ((a : Int) == (k : Int)) = decide (k = a)
      rw [Bool.beq_eq_decide_eq]
      exact decide_eq_decide.mpr ⟨fun h => by omega, fun h => by omega⟩
    rw [e, ← Bool.decide_or]
    exact decide_eq_decide.mpr List.mem_cons.symm
theorem flat_nat (l : List Nat) : (l.map natV).all flatV = true := by
  rw [List.all_map, List.all_eq_true]
  intro x _
  rfl
section
variable {P : Program} {w : World} {K : PySem.W.Frag} {mg : Str → Option Value} {base : Heap} {a : Ad} {d : Fd}
theorem ok_short (T' : Txt K mg a d) : FnOk P w K mg base CX0 66 a.a_short_lot d.d_short_lot P_short_lot spShort := by
  have T := T'
  have G_paired := ok_paired (P := P) (w := w) (base := base) T
  have G_lot_from := ok_lot_from (P := P) (w := w) (base := base) T
  refine T.F_short_lot.ok sc_short_lot (fun vs H Q E h => ?_) (fun cdv A outer st H vs Q E hr h => ?_)
  · obtain ⟨R, rows, rfl, _⟩ := h
    rfl
  obtain ⟨R, rows, rfl, hR, hG, q⟩ := h
  refine ⟨_, (pss_cons (ps_set (i := 1) sc_short_lot.nd rfl (Or.inl rfl) (pe_call G_paired (hr.mono (by decide)) (by rfl) T.m_paired T.k_paired T.b_paired .nil pass0 (pa_cons (pv 0) pa_nil)))
      (pss_cons (ps_set (i := 2) sc_short_lot.nd rfl (Or.inr rfl) (pe_lock (pe_lc (own := [("_", 4), ("number", 5)]) rfl sc_short_lot.nd (pi_items (pv 1)) (blkOk_by (own := [("_", 4), ("number", 5)]) (N := N_short_lot) (sc := defScope s_short_lot) (by decide +kernel)) (fun _ _ _ _ _ => (pg_tupK (K := K) (n := 2) rfl (pgs_cons (pg_name (i := 4) sc_short_lot.nd rfl (Or.inl rfl)) (pgs_cons (pg_name (i := 5) sc_short_lot.nd rfl (Or.inl rfl)) pgs_nil)))) (fun _ _ _ _ _ => pts_nil) (fun _ _ _ _ _ => (pv 5)))))
      (pss_cons (ps_setLc (i := 3) (own := [("number", 5)]) (g := gName 5) rfl sc_short_lot.nd rfl rfl (sw_true rfl rfl rfl (by decide +kernel)) (pi_range1 (by rfl) T.z_range (pa_cons (pe_callB (call_len_seqK (K := K)) (by rfl) T.z_len (by decide +kernel) (pa_cons (pv 0) pa_nil)) pa_nil)) (blkOk_by (own := [("number", 5)]) (N := N_short_lot) (sc := defScope s_short_lot) (by decide +kernel)) (fun _ _ _ _ _ => (pg_name (i := 5) sc_short_lot.nd rfl (Or.inl rfl))) (fun _ _ _ _ _ => pts_one (pt_cmpR (op_notIn_seqK (K := K)) (pv 5) (pv 2) (by rfl))) (fun _ _ _ _ _ => (pv 5)))
      (pss_one (ps_ret (pe_ifExp (pt_truthK (K := K) (pv 3) (by intro _; rfl)) (pe_call G_lot_from (hr.mono (by decide)) (by rfl) T.m_lot_from T.k_lot_from T.b_lot_from .nil pass0 (pa_cons (pv 0) (pa_cons (pe_ix (ix_listK (K := K)) (pv 3) pe_int (fun _ _ => rfl)) (pa_cons (pv 1) pa_nil)))) pe_non)))))), ?_⟩
  obtain ⟨U, hU, hU60⟩ := hG.to
  obtain ⟨xs, ex, el⟩ := hR.tup
  have hrl := hG.len
  have I := invF hU
  have tl : (tkF rows).length ≤ 1000 := by
    have := wfT_len hU.sub I.wt
    have e : (runs rows rows.length).length = (tkF rows).length := rfl
    omega
  refine ⟨_, rfl, R, rows, rfl, hR, hG, fun H1 TT s1 nT hT => ?_⟩
  -- having
  refine ⟨TT, _, hT, trivial, fun od => ?_⟩
  refine ⟨_, rfl, TT, od, _, rfl, upd_same, fun D nD => ?_⟩
  have hTD : TT ≠ D := by intro z; rw [← z, upd_same] at nD; cases nD
  have nD1 : H1 D = none := by rw [upd_ne hTD.symm] at nD; exact nD
  refine lc_it walk_items (fun i H2 => But [TT, D] H1 H2 ∧ H2 TT = some (.frz od (.dK (encT (tkF rows)))) ∧ H2 D = some (.lst ((((tkF rows).map (·.2)).take i).map natV)))
    ⟨((But.refl [TT, D] H1).upd (p := TT) (.inl (by simp))).upd (.inl (by simp)), by rw [upd_ne hTD, upd_same], upd_same⟩ (fun i H2 _ p => p.2.1) (fun i x H2 H3 hi p y => ?_) (fun H2 p => ?_)
  · obtain ⟨b, hT2, hD2⟩ := p
    obtain ⟨Tu, kx, vx, rfl, nTu, rfl, g1, g2⟩ := y
    rw [encT_len] at hi
    have gi : (encT (tkF rows))[i]? = some (Sum.inl (tkF rows)[i].1, V.int ((tkF rows)[i].2 : Nat)) := by
      unfold encT
      rw [List.getElem?_map, List.getElem?_eq_getElem hi]; rfl
    dsimp only at g1 g2
    rw [gi] at g1 g2
    have g1 := Option.some.inj g1
    have g2 := Option.some.inj g2
    subst g1; subst g2
    have nTT : TT ≠ Tu := ne_of_none hT2 nTu
    have nTD : D ≠ Tu := ne_of_none hD2 nTu
    refine ⟨Tu, _, rfl, SqT.of upd_same, rfl, _, _, rfl, _, _, rfl, rfl, ?_⟩
    refine ⟨rfl, ?_⟩
    refine ⟨_, rfl, _, (by rw [upd_ne nTD]; exact hD2), small1000 (by rw [List.length_map, List.length_take, List.length_map]; omega), ?_, ?_, ?_⟩
    · exact (b.upd (.inr nTu)).upd (p := D) (.inl (by simp))
    · rw [upd_ne hTD, upd_ne nTT]; exact hT2
    · rw [upd_same]
      have : ((tkF rows).map (·.2)).take (i + 1) = ((tkF rows).map (·.2)).take i ++ [(tkF rows)[i].2] := by
        rw [List.take_add_one, List.getElem?_map, List.getElem?_eq_getElem hi]; rfl
      rw [this, List.map_append]; rfl
  · obtain ⟨b, hT2, hD2⟩ := p
    have e9 : ((tkF rows).map (·.2)).take (encT (tkF rows)).length = (tkF rows).map (·.2) := List.take_of_length_le (by rw [encT_len, List.length_map]; exact Nat.le_refl _)
    rw [e9] at hD2
    refine ⟨hT2, ?_⟩
    have s2 : Same H1 (upd H2 TT (.dK (encT (tkF rows)))) := b.unlock hT (fun x m => by rw [List.mem_singleton.mp m]; exact nD1)
    have hD3 : upd H2 TT (.dK (encT (tkF rows))) D = some (.lst (((tkF rows).map (·.2)).map natV)) := by rw [upd_ne hTD.symm]; exact hD2
    generalize upd H2 TT (.dK (encT (tkF rows))) = H3 at s2 hD3 ⊢
    -- without
    refine ⟨_, rfl, R, xs, rfl, .inr (SqT.of (s2 _ _ (s1 _ _ ex))), (rows.length : Nat), by rw [el], by omega, by omega, fun W nW => ?_⟩
    refine lc_it walk_range (fun i H4 => Same H3 H4 ∧ H4 W = some (.lst (((List.range i).filter (fun k => decide (k ∉ (tkF rows).map (·.2)))).map natV)))
      ⟨(Same.refl _).updN nW, upd_same⟩ (fun _ _ _ _ => trivial) (fun i x H4 H5 hi p y => ?_) (fun H4 p => ?_)
    · obtain ⟨s3, hW3⟩ := p
      obtain ⟨rfl, rfl⟩ := y
      refine ⟨rfl, _, rfl, _, rfl, D, _, rfl, .inl (SqL.of (s3 _ _ hD3)), rfl, flat_nat _, _, rfl, ?_⟩
      have ei : inV ((fun i => V.int (0 + (i : Int))) i) (((tkF rows).map (·.2)).map natV) = decide (i ∈ (tkF rows).map (·.2)) := by
        have := inV_nat i ((tkF rows).map (·.2))
        show inV (V.int (0 + (i : Int))) _ = _
        rw [zadd]; exact this
      have er : (List.range (i + 1)).filter (fun k => decide (k ∉ (tkF rows).map (·.2))) = (List.range i).filter (fun k => decide (k ∉ (tkF rows).map (·.2))) ++ (if i ∈ (tkF rows).map (·.2) then [] else [i]) := by
        rw [List.range_succ, List.filter_append]
        congr 1
        by_cases c : i ∈ (tkF rows).map (·.2)
        · rw [if_pos c, List.filter_cons, if_neg (by simp only [decide_not, Bool.not_eq_true', decide_eq_false_iff_not, Decidable.not_not]; exact c)]; rfl
        · rw [if_neg c, List.filter_cons, if_pos (decide_eq_true c)]; rfl
      rw [ei]
      have hlen : ((List.range i).filter (fun k => decide (k ∉ (tkF rows).map (·.2)))).length ≤ 1000 := by
        refine Nat.le_trans (List.length_filter_le _ _) ?_
        have hi : i < rows.length := hi
        rw [List.length_range]; omega
      by_cases c : i ∈ (tkF rows).map (·.2)
      · rw [decide_eq_true c]
        refine iteF ⟨s3, ?_⟩
        rw [er, if_pos c, List.append_nil]; exact hW3
      · rw [decide_eq_false c]
        refine iteT ⟨_, rfl, _, hW3, small1000 (by rw [List.length_map]; exact hlen), s3.updF nW, ?_⟩
        rw [er, if_neg c, upd_same, List.map_append]
        show some (HO.lst (_ ++ [V.int (0 + (i : Int))])) = some (HO.lst (_ ++ [V.int (i : Int)]))
        rw [zadd]
    · obtain ⟨s3, hW3⟩ := p
      have hW3 : H4 W = some (.lst ((freeF rows).map natV)) := hW3
      have sA : Same H H4 := s1.trans (s2.trans s3)
      refine ⟨_, rfl, _, .inl ⟨_, SqL.of hW3, rfl⟩, ?_⟩
      cases ef : freeF rows with
      | nil =>
        exact q _ _ sA (.inl ⟨ef, rfl⟩)
      | cons s r =>
        refine iteT ?_
        have hs : s ∈ freeF rows := by rw [ef]; simp
        obtain ⟨h1, h2⟩ := List.mem_filter.mp hs
        rw [ef] at hW3
        refine ⟨_, rfl, _, rfl, W, _, (0 : Nat), natV s, rfl, rfl, SqL.of hW3, atN rfl, _, rfl, R, TT, rows, s, rfl, hR.same sA, hG, s3 _ _ (s2 _ _ hT), List.mem_range.mp h1, of_decide_eq_true h2, fun H5 p s5 np lat => ?_⟩
        exact q _ _ (sA.trans s5) (.inr ⟨s, r, p, ef, rfl, lat⟩)
end
end K34W

set_option Elab.async false
set_option linter.all false
set_option maxRecDepth 100000
namespace K34W
open PySem PySem.Spec PyProof.Rows L2 OwnK K34
/-! ### draws -/
/-- a statement and what follows it: what lies between is told by M -/
theorem seq_cut {t u : TS} {D : Ends} {σ : L2.St} {H : Hp} (M : L2.St → Hp → Prop) (h2 : ∀ σ' H', M σ' H' → u D σ' H') (h1 : ∀ nx : L2.St → Hp → Prop, (∀ σ' H', M σ' H' → nx σ' H') → t { D with nx := nx } σ H) : tSeq t u D σ H := h1 (u D) h2
theorem seq_cut2 {s t u : TS} {D : Ends} {σ : L2.St} {H : Hp} (M : L2.St → Hp → Prop) (h2 : ∀ σ' H', M σ' H' → u D σ' H') (h1 : ∀ nx : L2.St → Hp → Prop, (∀ σ' H', M σ' H' → nx σ' H') → s { D with nx := t { D with nx := nx } } σ H) : tSeq s (tSeq t u) D σ H := h1 (u D) h2
abbrev l5 (a b c d : Int) (C : Addr) : List V := [.int a, .int b, .int c, .int d, .ref C]
structure FlowAt (H : Hp) (f C : Addr) : Prop where
  ex : ∃ (ns : List Int) (a b c d : Int), H f = some (.lst (l5 a b c d C)) ∧ 0 ≤ c ∧ H C = some (.lst (ns.map V.int)) ∧ ns.length ≤ 63 ∧ f ≠ C
theorem FlowAt.same {H H' : Hp} {f C : Addr} (F : FlowAt H f C) (s : Same H H') : FlowAt H' f C := by
  obtain ⟨ns, a, b, c, d, h1, h2, h3, h4, h5⟩ := F.ex
  exact ⟨ns, a, b, c, d, s _ _ h1, h2, s _ _ h3, h4, h5⟩
theorem FlowAt.at_f {H : Hp} {f C : Addr} (F : FlowAt H f C) : ∃ o, H f = some o := by
  obtain ⟨ns, a, b, c, d, h1, _⟩ := F.ex
  exact ⟨_, h1⟩
theorem FlowAt.at_C {H : Hp} {f C : Addr} (F : FlowAt H f C) : ∃ o, H C = some o := by
  obtain ⟨ns, a, b, c, d, h1, _, h3, _⟩ := F.ex
  exact ⟨_, h3⟩
theorem FlowAt.upd {H : Hp} {f C p : Addr} {o : HO} (F : FlowAt H f C) (h1 : p ≠ f) (h2 : p ≠ C) : FlowAt (L2.upd H p o) f C := by
  obtain ⟨ns, a, b, c, d, h3, h4, h5, h6, h7⟩ := F.ex
  exact ⟨ns, a, b, c, d, by rw [L2.upd_ne h1.symm]; exact h3, h4, by rw [L2.upd_ne h2.symm]; exact h5, h6, h7⟩
theorem FlowAt.new {H : Hp} {f C p : Addr} {o : HO} (F : FlowAt H f C) (h : H p = none) : FlowAt (L2.upd H p o) f C := F.same ((Same.refl H).updN h)
/-- the cells are an elder object: what is new is none of them -/
theorem FlowAt.ne {H : Hp} {f C p : Addr} (F : FlowAt H f C) (h : H p = none) : p ≠ f ∧ p ≠ C := by
  obtain ⟨o1, e1⟩ := F.at_f
  obtain ⟨o2, e2⟩ := F.at_C
  exact ⟨(ne_of_none e1 h).symm, (ne_of_none e2 h).symm⟩
theorem FlowAt.noTup {H : Hp} {f C : Addr} (F : FlowAt H f C) : NoTup H f := by
  obtain ⟨ns, a, b, c, d, h1, _⟩ := F.ex
  exact noTup_of h1 (fun _ z => by cases z)
def spFlow (K : PySem.W.Frag) : Sp := fun vs H Q _ => ∃ (S : Addr) (ns : List Int), vs = [.ref S] ∧ SqL K H S (ns.map V.int) ∧ ns.length ≤ 63 ∧ ∀ H' f C, Same H H' → H f = none → FlowAt H' f C → Q (.ref f) H'
def spDraw : Sp := fun vs H Q _ => ∃ (f C : Addr) (m : Int), vs = [.ref f, .int m] ∧ FlowAt H f C ∧ 0 < m ∧ m < 1073741824 ∧ ∀ H' r, But [f] H H' → FlowAt H' f C → 0 ≤ r → r < m → Q (.int r) H'
theorem at0 {a b c d : Int} {C : Addr} : atI (l5 a b c d C) 0 = some (.int a) := atN (j := 0) rfl
theorem at1 {a b c d : Int} {C : Addr} : atI (l5 a b c d C) 1 = some (.int b) := atN (j := 1) rfl
theorem at2 {a b c d : Int} {C : Addr} : atI (l5 a b c d C) 2 = some (.int c) := atN (j := 2) rfl
theorem at3 {a b c d : Int} {C : Addr} : atI (l5 a b c d C) 3 = some (.int d) := atN (j := 3) rfl
theorem at4 {a b c d : Int} {C : Addr} : atI (l5 a b c d C) 4 = some (.ref C) := atN (j := 4) rfl
theorem cut_ints (ns : List Int) (lo hi : Option Int) : ∃ ms : List Int, cutV (ns.map V.int) lo hi = ms.map V.int ∧ ms.length ≤ ns.length ∧ ∀ v ∈ ms, v ∈ ns := by
  unfold cutV
  refine ⟨(ns.drop (HT.sIx (ns.map V.int).length 0 lo)).take (HT.sIx (ns.map V.int).length (ns.map V.int).length hi - HT.sIx (ns.map V.int).length 0 lo), ?_, ?_, ?_⟩
  · rw [List.map_take, List.map_drop]
  · rw [List.length_take, List.length_drop]; omega
  · intro v hv
    exact List.mem_of_mem_drop (List.mem_of_mem_take hv)
theorem map_int_at {ns : List Int} {i : Nat} {x : V} (h : (ns.map V.int)[i]? = some x) : ∃ v, ns[i]? = some v ∧ x = V.int v := map_at h
section
variable {P : Program} {w : World} {K : PySem.W.Frag} {mg : Str → Option Value} {base : Heap} {a : Ad} {d : Fd}
theorem ok_flow (T' : Txt K mg a d) : FnOk P w K mg base CX0 1 a.a__law_flow d.d__law_flow P__law_flow (spFlow K) := by
  have T := T'
  refine T.F__law_flow.ok sc__law_flow (fun vs H Q E h => ?_) (fun cdv A outer st H vs Q E hr h => ?_)
  · obtain ⟨S, ns, rfl, _⟩ := h
    rfl
  obtain ⟨S, ns, rfl, hS, hn, q⟩ := h
  refine ⟨_, (pss_one (ps_ret (pe_lst (pa_cons pe_int (pa_cons pe_int (pa_cons pe_int (pa_cons pe_int (pa_cons (pe_lc (own := [("cell", 1)]) (g := gName 1) rfl sc__law_flow.nd (pi_listK (K := K) (pe_slice (sl_listK (K := K)) (pv 0) po_none (po_some pe_int))) (blkOk_by (own := [("cell", 1)]) (N := N__law_flow) (sc := defScope s__law_flow) (by decide +kernel)) (fun _ _ _ _ _ => (pg_name (i := 1) sc__law_flow.nd rfl (Or.inl rfl))) (fun _ _ _ _ _ => pts_nil) (fun _ _ _ _ _ => (pe_callB call_abs (by rfl) T.z_abs (by decide +kernel) (pa_cons (pe_callTy call_int1 (by rfl) T.z_int (by decide +kernel) (pa_cons (pv 1) pa_nil)) pa_nil)))) pa_nil)))))))), ?_⟩
  refine ⟨_, rfl, _, rfl, S, _, rfl, hS, fun p np => ?_⟩
  obtain ⟨ms, em, lm, _⟩ := cut_ints ns none (some 63)
  rw [em]
  have s1 : Same H (upd H p (.lst (ms.map V.int))) := (Same.refl H).updN np
  refine ⟨p, rfl, ⟨_, SqL.of upd_same⟩, fun D nD => ?_⟩
  have hpD : p ≠ D := by intro z; rw [← z, upd_same] at nD; cases nD
  refine lc_it (walk_list (xs := ms.map V.int)) (fun i H2 => Same (upd H p (.lst (ms.map V.int))) H2 ∧ ∃ ks : List Int, ks.length = i ∧ H2 D = some (.lst (ks.map V.int)))
    ⟨(Same.refl _).updN nD, [], rfl, upd_same⟩ (fun i H2 _ p' => SqL.of (p'.1 _ _ upd_same)) (fun i x H2 H3 hi p' y => ?_) (fun H2 p' => ?_)
  · obtain ⟨s2, ks, lk, hD⟩ := p'
    obtain ⟨rfl, hx⟩ := y
    obtain ⟨v, hv, rfl⟩ := map_int_at hx
    rw [List.length_map] at hi
    refine ⟨rfl, _, rfl, .inl ⟨_, rfl, _, rfl, _, hD, small1000 (by rw [List.length_map]; omega), s2.updF nD, ks ++ [if v < 0 then -v else v], by rw [List.length_append, lk]; rfl, ?_⟩⟩
    rw [upd_same, List.map_append]; rfl
  · obtain ⟨s2, ks, lk, hD⟩ := p'
    rw [List.length_map] at lk
    refine ⟨len_le (by show 5 ≤ 1000; decide), fun f nf => ?_⟩
    have s3 : Same H (upd H2 f (.lst (l5 0 0 0 0 D))) := (s1.trans s2).updN nf
    have hfD : f ≠ D := by intro z; rw [z, hD] at nf; cases nf
    exact q _ f D s3 ((s1.trans s2).free nf) ⟨ks, 0, 0, 0, 0, upd_same, Int.le_refl _, by rw [upd_ne hfD.symm]; exact hD, by omega, hfD⟩
theorem ok_draw (T' : Txt K mg a d) : FnOk P w K mg base CX0 1 a.a__law_draw d.d__law_draw P__law_draw spDraw := by
  have T := T'
  refine T.F__law_draw.ok sc__law_draw (fun vs H Q E h => ?_) (fun cdv A outer st H vs Q E hr h => ?_)
  · obtain ⟨f, C, m, rfl, _⟩ := h
    rfl
  obtain ⟨f, C, m, rfl, hF, hm0, hm1, q⟩ := h
  refine ⟨_, (pss_cons (ps_asg (pe_op op_add (pe_ix (ix_listK (K := K)) (pv 0) pe_int (fun _ _ => rfl)) pe_int) (pg_sub (pv 0) pe_int set_list))
      (pss_cons (ps_if (PW.pt (pw_and (pt_cmpR op_eq (pe_ix (ix_listK (K := K)) (pv 0) pe_int (fun _ _ => rfl)) pe_int (nomark _)) (pw_and (pt_cmpR op_lt (pe_ix (ix_listK (K := K)) (pv 0) pe_int (fun _ _ => rfl)) (pe_callB (call_len_seqK (K := K)) (by rfl) T.z_len (by decide +kernel) (pa_cons (pe_ix (ix_listK (K := K)) (pv 0) pe_int (fun _ _ => rfl)) pa_nil)) (nomark _)) (pw_and1 (pt_cmpR op_ge (pe_ix (ix_listK (K := K)) (pe_ix (ix_listK (K := K)) (pv 0) pe_int (fun _ _ => rfl)) (pe_ix (ix_listK (K := K)) (pv 0) pe_int (fun _ _ => rfl)) (fun _ _ => rfl)) (pe_op op_pow pe_int pe_int) (nomark _)))))) (pss_cons (ps_asg (pe_ix (ix_listK (K := K)) (pe_ix (ix_listK (K := K)) (pv 0) pe_int (fun _ _ => rfl)) (pe_ix (ix_listK (K := K)) (pv 0) pe_int (fun _ _ => rfl)) (fun _ _ => rfl)) (pg_sub (pv 0) pe_int set_list))
      (pss_cons (ps_asg pe_int (pg_sub (pv 0) pe_int set_list))
      (pss_one (ps_asg (pe_op op_add (pe_ix (ix_listK (K := K)) (pv 0) pe_int (fun _ _ => rfl)) pe_int) (pg_sub (pv 0) pe_int set_list))))) pss_nil)
      (pss_cons (ps_if (pt_cmpR op_gt (pe_ix (ix_listK (K := K)) (pv 0) pe_int (fun _ _ => rfl)) pe_int (nomark _)) (pss_cons (ps_set (i := 2) sc__law_draw.nd rfl (Or.inl rfl) (pe_op op_modN (pe_callTy call_int1 (by rfl) T.z_int (by decide +kernel) (pa_cons (pe_ix (ix_listK (K := K)) (pv 0) pe_int (fun _ _ => rfl)) pa_nil)) (pv 1)))
      (pss_cons (ps_asg (pe_op op_fdivN (pe_ix (ix_listK (K := K)) (pv 0) pe_int (fun _ _ => rfl)) (pv 1)) (pg_sub (pv 0) pe_int set_list))
      (pss_cons (ps_asg (pe_op op_mul (pe_op op_sub (pe_ix (ix_listK (K := K)) (pv 0) pe_int (fun _ _ => rfl)) pe_int) (pe_callTy call_int1 (by rfl) T.z_int (by decide +kernel) (pa_cons (pe_cmpR op_gt (pe_ix (ix_listK (K := K)) (pv 0) pe_int (fun _ _ => rfl)) pe_int (nomark _)) pa_nil))) (pg_sub (pv 0) pe_int set_list))
      (pss_one (ps_ret (pv 2)))))) pss_nil)
      (pss_cons (ps_set (i := 3) sc__law_draw.nd rfl (Or.inl rfl) pe_int)
      (pss_cons (ps_if (pt_cmpR op_gt (pe_callB (call_len_seqK (K := K)) (by rfl) T.z_len (by decide +kernel) (pa_cons (pe_ix (ix_listK (K := K)) (pv 0) pe_int (fun _ _ => rfl)) pa_nil)) pe_int (nomark _)) (pss_cons (ps_set (i := 3) sc__law_draw.nd rfl (Or.inl rfl) (pe_ix (ix_listK (K := K)) (pe_ix (ix_listK (K := K)) (pv 0) pe_int (fun _ _ => rfl)) (pe_op op_modN (pe_callTy call_int1 (by rfl) T.z_int (by decide +kernel) (pa_cons (pe_ix (ix_listK (K := K)) (pv 0) pe_int (fun _ _ => rfl)) pa_nil)) (pe_callB (call_len_seqK (K := K)) (by rfl) T.z_len (by decide +kernel) (pa_cons (pe_ix (ix_listK (K := K)) (pv 0) pe_int (fun _ _ => rfl)) pa_nil))) (fun _ _ => rfl)))
      (pss_one (ps_asg (pe_op op_add (pe_ix (ix_listK (K := K)) (pv 0) pe_int (fun _ _ => rfl)) pe_int) (pg_sub (pv 0) pe_int set_list)))) pss_nil)
      (pss_cons (ps_set (i := 4) sc__law_draw.nd rfl (Or.inl rfl) (pe_op op_modN (pe_callTy call_int1 (by rfl) T.z_int (by decide +kernel) (pa_cons (pe_op op_add (pe_op op_mul (pv 3) pe_int) (pe_op op_mul (pe_ix (ix_listK (K := K)) (pv 0) pe_int (fun _ _ => rfl)) pe_int)) pa_nil)) pe_int))
      (pss_cons (ps_set (i := 5) sc__law_draw.nd rfl (Or.inl rfl) (pe_op op_modN (pe_callTy call_int1 (by rfl) T.z_int (by decide +kernel) (pa_cons (pe_op op_add (pe_op op_mul (pv 4) (pv 4)) (pe_op op_mul (pe_ix (ix_listK (K := K)) (pv 0) pe_int (fun _ _ => rfl)) pe_int)) pa_nil)) pe_int))
      (pss_one (ps_ret (pe_op op_modN (pe_callTy call_int1 (by rfl) T.z_int (by decide +kernel) (pa_cons (pe_op op_modN (pe_callTy call_int1 (by rfl) T.z_int (by decide +kernel) (pa_cons (pe_op op_add (pe_op op_mul (pv 5) (pv 5)) (pv 4)) pa_nil)) pe_int) pa_nil)) (pv 1))))))))))), ?_⟩
  obtain ⟨ns, a0, b0, c0, d0, hf, hc, hC, hn, hfC⟩ := hF.ex
  have mx : m ≠ 0 := by omega
  have hCb : ∀ H2, But [f] H H2 → H2 C = some (.lst (ns.map V.int)) := fun H2 b => b _ _ hC (fun z => hfC (List.mem_singleton.mp z).symm)
  have fin : ∀ H2 a b c e r, But [f] H H2 → H2 f = some (.lst (l5 a b c e C)) → 0 ≤ c → 0 ≤ r → r < m → Q (.int r) H2 := fun H2 a b c e r bt h1 h2 h3 h4 =>
    q H2 r bt ⟨ns, a, b, c, e, h1, h2, hCb H2 bt, hn, hfC⟩ h3 h4
  have bu : ∀ {H2 o}, But [f] H H2 → But [f] H (upd H2 f o) := fun b => b.upd (.inl (by simp))
  -- flow[3] = flow[3] + 1
  refine ⟨_, rfl, f, _, _, _, rfl, rfl, SqL.of hf, at3, _, _, rfl, rfl, _, rfl, f, _, _, 3, rfl, rfl, hf, rfl, ?_⟩
  -- the next great cell
  dsimp only
  refine seq_cut (fun σ' H' => σ' = [some (.ref f), some (.int m), none, none, none, none] ∧ But [f] H H' ∧ ∃ a b c e, H' f = some (.lst (l5 a b c e C)) ∧ 0 ≤ c) (fun σ' H' p => ?_) (fun nx hnx => ?_)
  · obtain ⟨rfl, bt, a1, b1, c1, e1, h1, hc1⟩ := p
    have hC1 := hCb _ bt
    -- if flow[1] > 0
    refine ⟨_, rfl, f, _, _, _, rfl, rfl, SqL.of h1, at1, _, _, rfl, rfl, _, rfl, ite2 (fun _ => ?_) (fun _ => ?_)⟩
    · -- got = int(flow[0]) % many
      refine ⟨_, rfl, f, _, _, _, rfl, rfl, SqL.of h1, at0, .inl ⟨_, rfl, _, rfl, _, _, rfl, rfl, mx, ?_⟩⟩
      -- flow[0] = flow[0] // many
      refine ⟨_, rfl, f, _, _, _, rfl, rfl, SqL.of h1, at0, _, rfl, _, _, rfl, rfl, ⟨mx, by omega⟩, _, rfl, f, _, _, 0, rfl, rfl, h1, rfl, ?_⟩
      -- flow[1] = (flow[1] - 1) * int(flow[0] > 0)
      refine ⟨_, rfl, f, _, _, _, rfl, rfl, SqL.of upd_same, at1, _, _, rfl, rfl, _, rfl, f, _, _, _, rfl, rfl, SqL.of upd_same, at0, _, _, rfl, rfl, .inr ⟨_, rfl, _, _, rfl, rfl, .inr ?_, _, rfl, f, _, _, 1, rfl, rfl, upd_same, rfl, ?_⟩⟩
      · split
        · exact ⟨by decide, by decide⟩
        · exact ⟨by decide, by decide⟩
      · refine ⟨_, rfl, ?_⟩
        exact fin _ _ _ _ _ _ (bu (bu bt)) upd_same hc1 (Int.fmod_nonneg_of_pos _ hm0) (Int.fmod_lt_of_pos _ hm0)
    · -- cell = 7
      unfold tNext
      dsimp only
      refine seq_cut2 (fun σ' H' => (∃ z : Int, σ' = [some (.ref f), some (.int m), none, some (.int z), none, none]) ∧ But [f] H H' ∧ ∃ a b c e, H' f = some (.lst (l5 a b c e C)) ∧ 0 ≤ c) (fun σ' H' p => ?_) (fun nx hnx => ?_)
      · obtain ⟨⟨z, rfl⟩, bt2, a2, b2, c2, e2, h2, hc2⟩ := p
        -- first = int(cell * 48271 + flow[3] * 69621) % 2147483647
        refine ⟨_, rfl, _, _, rfl, rfl, .inr ⟨by decide, by decide⟩, _, rfl, f, _, _, _, rfl, rfl, SqL.of h2, at3, _, _, rfl, rfl, .inr ⟨by decide, by decide⟩, _, _, rfl, rfl, .inl ⟨_, rfl, _, _, rfl, rfl, (by show (2147483647 : Int) ≠ 0; decide), ?_⟩⟩
        dsimp only
        generalize hfirst : (z * 48271 + e2 * 69621).fmod 2147483647 = first
        have f0 : 0 ≤ first := hfirst ▸ Int.fmod_nonneg_of_pos _ (by decide)
        have f1 : first < 2147483647 := hfirst ▸ Int.fmod_lt_of_pos _ (by decide)
        -- second
        refine ⟨_, rfl, _, rfl, _, _, rfl, rfl, .inl ⟨by omega, by omega⟩, _, rfl, f, _, _, _, rfl, rfl, SqL.of h2, at3, _, _, rfl, rfl, .inr ⟨by decide, by decide⟩, _, _, rfl, rfl, .inl ⟨_, rfl, _, _, rfl, rfl, (by show (2147483399 : Int) ≠ 0; decide), ?_⟩⟩
        dsimp only
        generalize hsecond : (first * first + e2 * 40692).fmod 2147483399 = second
        have g0 : 0 ≤ second := hsecond ▸ Int.fmod_nonneg_of_pos _ (by decide)
        have g1 : second < 2147483399 := hsecond ▸ Int.fmod_lt_of_pos _ (by decide)
        refine ⟨_, rfl, _, rfl, _, _, rfl, rfl, .inl ⟨by omega, by omega⟩, _, rfl, _, _, rfl, rfl, .inl ⟨_, rfl, _, _, rfl, rfl, (by show (2147483647 : Int) ≠ 0; decide), .inl ⟨_, rfl, _, rfl, _, _, rfl, rfl, mx, ?_⟩⟩⟩
        exact fin _ _ _ _ _ _ bt2 h2 hc2 (Int.fmod_nonneg_of_pos _ hm0) (Int.fmod_lt_of_pos _ hm0)
      · -- if len(flow[4]) > 0
        refine ⟨_, rfl, f, _, _, _, rfl, rfl, SqL.of h1, at4, C, _, rfl, .inl (SqL.of hC1), _, _, rfl, rfl, _, rfl, ite2 (fun c => ?_) (fun c => ?_)⟩
        · have c := of_decide_eq_true c
          have cp : 0 < ns.length := by rw [List.length_map] at c; omega
          have hj0 := Int.fmod_nonneg_of_pos c1 (show (0 : Int) < (ns.length : Nat) by omega)
          have hj1 := Int.fmod_lt_of_pos c1 (show (0 : Int) < (ns.length : Nat) by omega)
          have hjn : (c1.fmod (ns.length : Nat)).toNat < ns.length := by omega
          refine ⟨_, rfl, f, _, _, _, rfl, rfl, SqL.of h1, at4, _, rfl, f, _, _, _, rfl, rfl, SqL.of h1, at2, .inl ⟨_, rfl, _, rfl, f, _, _, _, rfl, rfl, SqL.of h1, at4, C, _, rfl, .inl (SqL.of hC1), _, _, rfl, rfl, (by rw [List.length_map]; omega), C, _, _, .int (ns[(c1.fmod (ns.length : Nat)).toNat]'hjn), rfl, rfl, SqL.of hC1, ?_, ?_⟩⟩
          · rw [List.length_map]
            refine at_of (j := (c1.fmod (ns.length : Nat)).toNat) (by omega) ?_
            rw [List.getElem?_map, List.getElem?_eq_getElem hjn]; rfl
          · refine ⟨_, rfl, f, _, _, _, rfl, rfl, SqL.of h1, at2, _, _, rfl, rfl, _, rfl, f, _, _, 2, rfl, rfl, h1, rfl, ?_⟩
            exact hnx _ _ ⟨⟨_, rfl⟩, bu bt, _, _, _, _, upd_same, by omega⟩
        · exact hnx _ _ ⟨⟨_, rfl⟩, bt, _, _, _, _, h1, hc1⟩
  · -- if flow[1] == 0 and ..
    have b1 : But [f] H (upd H f (.lst (l5 a0 b0 c0 (d0 + 1) C))) := bu (But.refl _ _)
    have hC1 := hCb _ b1
    have done := hnx [some (.ref f), some (.int m), none, none, none, none] _ ⟨rfl, b1, _, _, _, _, upd_same, hc⟩
    refine ⟨_, rfl, f, _, _, _, rfl, rfl, SqL.of upd_same, at1, rfl, _, rfl, ite2 (fun _ => ?_) (fun _ => iteF done)⟩
    refine ⟨_, rfl, f, _, _, _, rfl, rfl, SqL.of upd_same, at2, _, rfl, f, _, _, _, rfl, rfl, SqL.of upd_same, at4, C, _, rfl, .inl (SqL.of hC1), _, _, rfl, rfl, _, rfl, ite2 (fun c => ?_) (fun _ => iteF done)⟩
    have c := of_decide_eq_true c
    rw [List.length_map] at c
    have hjn : c0.toNat < ns.length := by omega
    have hat : atI (ns.map V.int) c0 = some (.int ns[c0.toNat]) := at_of (j := c0.toNat) (by omega) (by rw [List.getElem?_map, List.getElem?_eq_getElem hjn]; rfl)
    refine ⟨_, rfl, f, _, _, _, rfl, rfl, SqL.of upd_same, at4, _, rfl, f, _, _, _, rfl, rfl, SqL.of upd_same, at2, C, _, _, _, rfl, rfl, SqL.of hC1, hat, _, _, rfl, rfl, ⟨by decide, by decide, by decide⟩, _, _, rfl, rfl, _, rfl, ite2 (fun _ => ?_) (fun _ => done)⟩
    -- flow[0] = flow[4][flow[2]]; flow[1] = 60; flow[2] = flow[2] + 1
    refine ⟨_, rfl, f, _, _, _, rfl, rfl, SqL.of upd_same, at4, _, rfl, f, _, _, _, rfl, rfl, SqL.of upd_same, at2, C, _, _, _, rfl, rfl, SqL.of hC1, hat, _, rfl, f, _, _, 0, rfl, rfl, upd_same, rfl, ?_⟩
    refine ⟨_, rfl, f, _, _, 1, rfl, rfl, upd_same, rfl, ?_⟩
    refine ⟨_, rfl, f, _, _, _, rfl, rfl, SqL.of upd_same, at2, _, _, rfl, rfl, _, rfl, f, _, _, 2, rfl, rfl, upd_same, rfl, ?_⟩
    exact hnx _ _ ⟨rfl, bu (bu (bu b1)), _, _, _, _, upd_same, by omega⟩
end
end K34W

set_option Elab.async false
set_option linter.all false
set_option maxRecDepth 100000
namespace K34W
open PySem PySem.Spec PyProof.Rows L2 OwnK K34
def spPick : Sp := fun vs H Q _ => ∃ (f C t : Addr) (xs : List V), vs = [.ref f, .ref t] ∧ FlowAt H f C ∧ H t = some (.lst xs) ∧ t ≠ f ∧ xs ≠ [] ∧ xs.length ≤ 1000 ∧ ∀ H' x, But [f] H H' → FlowAt H' f C → x ∈ xs → Q x H'
def spShuf : Sp := fun vs H Q _ => ∃ (f C t : Addr) (xs : List V), vs = [.ref f, .ref t] ∧ FlowAt H f C ∧ H t = some (.lst xs) ∧ t ≠ f ∧ xs.length ≤ 1000 ∧
  ∀ H' l ys, But [f] H H' → FlowAt H' f C → H l = none → H' l = some (.lst ys) → ys.length = xs.length → (∀ y ∈ ys, y ∈ xs) → Q (.ref l) H'
theorem seq_nat {n : Nat} {r : Int} (h0 : 0 ≤ r) (h1 : r < n) : seqIndex? r n = some r.toNat := by
  obtain ⟨h, _⟩ := ixN_seq (n := n) (i := r) (j := r.toNat) (by unfold ixN; rw [if_pos h0, if_pos h1])
  exact h
def isW : V → Bool
  | .int _ => true
  | _ => false
/-- a value that is an int, a tuple or None -/
def spWhole (K : PySem.W.Frag) : Sp := fun vs H Q _ => ∃ i : Int, vs = [.int i] ∧ ∀ H', H' = H → Q (.bl true) H'
def spAre : Sp := fun vs H Q _ => ∃ (t : Addr) (ns : List Int), vs = [.ref t] ∧ H t = some (.tup (ns.map V.int)) ∧ ns.length ≤ 1000 ∧ ∀ H', Same H H' → Q (.bl true) H'
def spRises : Sp := fun vs H Q _ => ∃ (t : Addr) (ns : List Int), vs = [.ref t] ∧ H t = some (.tup (ns.map V.int)) ∧ ns.length ≤ 1000 ∧ ns.Pairwise (· ≤ ·) ∧ ns.Nodup ∧ ∀ H', Same H H' → Q (.bl true) H'
def spMost : Sp := fun vs H Q _ => ∃ (R : Addr) (rows : List (List Int)), vs = [.ref R] ∧ RowsAt H R rows ∧ Good60 rows ∧ ∀ H', Same H H' → Q (.int ((gots rows rows.length).length : Nat)) H'
section
variable {P : Program} {w : World} {K : PySem.W.Frag} {mg : Str → Option Value} {base : Heap} {a : Ad} {d : Fd}
theorem ok_pick (T' : Txt K mg a d) : FnOk P w K mg base CX0 2 a.a__law_pick d.d__law_pick P__law_pick spPick := by
  have T := T'
  have G__law_draw := ok_draw (P := P) (w := w) (base := base) T
  refine T.F__law_pick.ok sc__law_pick (fun vs H Q E h => ?_) (fun cdv A outer st H vs Q E hr h => ?_)
  · obtain ⟨f, C, t, xs, rfl, _⟩ := h
    rfl
  obtain ⟨f, C, t, xs, rfl, hF, ht, hne, hx, hl, q⟩ := h
  refine ⟨_, (pss_one (ps_ret (pe_ix (ix_listK (K := K)) (pv 1) (pe_call G__law_draw (hr.mono (by decide)) (by rfl) T.m__law_draw T.k__law_draw T.b__law_draw .nil pass0 (pa_cons (pv 0) (pa_cons (pe_callB (call_len_seqK (K := K)) (by rfl) T.z_len (by decide +kernel) (pa_cons (pv 1) pa_nil)) pa_nil))) (fun _ _ => rfl)))), ?_⟩
  have hp : 0 < xs.length := List.length_pos_iff.mpr hx
  refine ⟨_, rfl, _, rfl, _, rfl, t, xs, rfl, .inl (SqL.of ht), f, C, _, rfl, hF, by omega, by omega, fun H1 r b F1 r0 r1 => ?_⟩
  have ht1 : H1 t = some (.lst xs) := b _ _ ht (fun z => hne (List.mem_singleton.mp z))
  have hr : r.toNat < xs.length := by omega
  refine ⟨t, xs, _, xs[r.toNat], rfl, rfl, SqL.of ht1, at_of (j := r.toNat) (by omega) (List.getElem?_eq_getElem hr), ?_⟩
  exact q H1 _ b F1 (List.getElem_mem hr)
theorem ok_shuf (T' : Txt K mg a d) : FnOk P w K mg base CX0 2 a.a__law_shuffled d.d__law_shuffled P__law_shuffled spShuf := by
  have T := T'
  have G__law_draw := ok_draw (P := P) (w := w) (base := base) T
  refine T.F__law_shuffled.ok sc__law_shuffled (fun vs H Q E h => ?_) (fun cdv A outer st H vs Q E hr h => ?_)
  · obtain ⟨f, C, t, xs, rfl, _⟩ := h
    rfl
  obtain ⟨f, C, t, xs, rfl, hF, ht, hne, hl, q⟩ := h
  refine ⟨_, (pss_cons (ps_set (i := 2) sc__law_shuffled.nd rfl (Or.inl rfl) (pe_callTy (call_list_ofK (K := K)) (by rfl) T.z_list (by decide +kernel) (pa_cons (pv 1) pa_nil)))
      (pss_cons (ps_set (i := 3) sc__law_shuffled.nd rfl (Or.inl rfl) (pe_lst pa_nil))
      (pss_cons (ps_for PassesOwn.never rfl (pi_range1 (by rfl) T.z_range (pa_cons (pe_callB (call_len_seqK (K := K)) (by rfl) T.z_len (by decide +kernel) (pa_cons (pv 1) pa_nil)) pa_nil)) (pg_name (i := 4) sc__law_shuffled.nd rfl (Or.inl rfl))
      (pss_one (ps_expr (pe_bm PySem.F.plainAttrs_list PySem.F.slot_list_append PySem.F.type_list_append mt_append (pv 3) (pa_cons (pe_bm PySem.F.plainAttrs_list PySem.F.slot_list_pop PySem.F.type_list_pop mt_popAt (pv 2) (pa_cons (pe_call G__law_draw (hr.mono (by decide)) (by rfl) T.m__law_draw T.k__law_draw T.b__law_draw .nil pass0 (pa_cons (pv 0) (pa_cons (pe_callB (call_len_seqK (K := K)) (by rfl) T.z_len (by decide +kernel) (pa_cons (pv 2) pa_nil)) pa_nil))) pa_nil)) pa_nil)))))
      (pss_one (ps_ret (pv 3)))))), ?_⟩
  refine ⟨_, rfl, t, xs, rfl, .inl (SqL.of ht), fun l nl => ?_⟩
  refine ⟨len_le (by show 0 ≤ 1000; decide), fun md nmd => ?_⟩
  have hlm : l ≠ md := by intro z; rw [← z, upd_same] at nmd; cases nmd
  have nm0 : H md = none := by rw [upd_ne hlm.symm] at nmd; exact nmd
  obtain ⟨lf, lC⟩ := hF.ne nl
  obtain ⟨mf, mC⟩ := hF.ne nm0
  have s1 : Same H (upd (upd H l (.lst xs)) md (.lst [])) := ((Same.refl H).updN nl).updN nmd
  refine ⟨_, rfl, t, xs, rfl, .inl (SqL.of (s1 _ _ ht)), (xs.length : Nat), rfl, by omega, by omega, ?_⟩
  refine for_it walk_range0 (fun i σ H2 => ∃ ys zs x, σ = [some (.ref f), some (.ref t), some (.ref l), some (.ref md), x] ∧ But [f] H H2 ∧ FlowAt H2 f C ∧ H2 l = some (.lst ys) ∧ H2 md = some (.lst zs) ∧ ys.length + i = xs.length ∧ zs.length = i ∧ (∀ y ∈ ys, y ∈ xs) ∧ ∀ z ∈ zs, z ∈ xs)
    ⟨xs, [], none, rfl, fun b o e _ => s1 b o e, hF.same s1, by rw [upd_ne hlm, upd_same], upd_same, rfl, rfl, fun _ h => h, fun _ h => by cases h⟩ (fun _ _ _ _ _ => trivial) (fun i x σ H2 H3 hi p y => ?_) (fun σ H2 p => ?_)
  · obtain ⟨ys, zs, x0, rfl, b, F2, hl2, hm2, ly, lz, iy, iz⟩ := p
    obtain ⟨rfl, rfl⟩ := y
    have hi : i < xs.length := hi
    refine ⟨_, rfl, .inl ⟨rfl, _, SqL.of hm2⟩, _, rfl, .inl ⟨rfl, _, SqL.of hl2⟩, _, rfl, _, rfl, l, ys, rfl, .inl (SqL.of hl2), f, C, _, rfl, F2, by omega, by omega, fun H4 r b4 F4 r0 r1 => ?_⟩
    have hl4 : H4 l = some (.lst ys) := b4 _ _ hl2 (fun z => lf (List.mem_singleton.mp z))
    have hm4 : H4 md = some (.lst zs) := b4 _ _ hm2 (fun z => mf (List.mem_singleton.mp z))
    have hr : r.toNat < ys.length := by omega
    refine ⟨l, ys, r, r.toNat, ys[r.toNat], rfl, rfl, hl4, by omega, by omega, seq_nat r0 r1, List.getElem?_eq_getElem hr, ?_⟩
    refine ⟨md, zs, _, rfl, rfl, by rw [upd_ne hlm.symm]; exact hm4, small1000 (by omega), ?_⟩
    refine ⟨_, _, _, rfl, ?_, (F4.upd lf lC).upd mf mC, by rw [upd_ne hlm, upd_same], upd_same, ?_, ?_, ?_, ?_⟩
    · intro b' o e n
      have := b4 _ _ (b _ _ e n) n
      rw [upd_ne (ne_of_none e nm0), upd_ne (ne_of_none e nl)]
      exact this
    · rw [List.length_eraseIdx, if_pos hr]; omega
    · rw [List.length_append, lz]; rfl
    · exact fun y hy => iy y (List.mem_of_mem_eraseIdx hy)
    · intro z hz
      rcases List.mem_append.mp hz with h | h
      · exact iz z h
      · rw [List.mem_singleton.mp h]; exact iy _ (List.getElem_mem hr)
  · obtain ⟨ys, zs, x0, rfl, b, F2, hl2, hm2, ly, lz, iy, iz⟩ := p
    exact ⟨_, rfl, q H2 md zs b F2 nm0 hm2 lz iz⟩
theorem ok_whole (T' : Txt K mg a d) : FnOk P w K mg base CX0 1 a.a__law_whole d.d__law_whole P__law_whole (spWhole K) := by
  have T := T'
  refine T.F__law_whole.ok sc__law_whole (fun vs H Q E h => ?_) (fun cdv A outer st H vs Q E hr h => ?_)
  · obtain ⟨i, rfl, _⟩ := h
    rfl
  obtain ⟨i, rfl, q⟩ := h
  refine ⟨_, (pss_one (ps_ret (pe_and (pe_callB (call_isiK (K := K)) (by rfl) T.z_isinstance (by decide +kernel) (pa_cons (pv 0) (pa_cons (pe_bltn (v := .ty "int") (by rfl) T.z_int (by decide +kernel) rfl) pa_nil))) (pe_one (pe_not (pe_callB (call_isiK (K := K)) (by rfl) T.z_isinstance (by decide +kernel) (pa_cons (pv 0) (pa_cons (pe_bltn (v := .ty "bool") (by rfl) T.z_bool (by decide +kernel) rfl) pa_nil)))))))), ?_⟩
  refine ⟨_, rfl, _, _, _, _, true, rfl, .ty "int", .base (.int i), kit_ty (by decide +kernel), true, rfl, iteT ?_⟩
  refine ⟨_, rfl, _, _, _, _, false, rfl, .ty "bool", .base (.int i), kit_ty (by decide +kernel), false, rfl, ?_⟩
  exact q H rfl
theorem ok_are (T' : Txt K mg a d) : FnOk P w K mg base CX0 2 a.a__law_are_whole d.d__law_are_whole P__law_are_whole spAre := by
  have T := T'
  have G__law_whole := ok_whole (P := P) (w := w) (base := base) T
  refine T.F__law_are_whole.ok sc__law_are_whole (fun vs H Q E h => ?_) (fun cdv A outer st H vs Q E hr h => ?_)
  · obtain ⟨t, ns, rfl, _⟩ := h
    rfl
  obtain ⟨t, ns, rfl, ht, hl, q⟩ := h
  refine ⟨_, (pss_one (ps_ret (pe_and (pe_callB (call_isiK (K := K)) (by rfl) T.z_isinstance (by decide +kernel) (pa_cons (pv 0) (pa_cons (pe_bltn (v := .ty "tuple") (by rfl) T.z_tuple (by decide +kernel) rfl) pa_nil))) (pe_one (pe_cmpR op_eq (pe_callB (call_len_seqK (K := K)) (by rfl) T.z_len (by decide +kernel) (pa_cons (pe_lc (own := [("one", 1)]) (g := gName 1) rfl sc__law_are_whole.nd (pi_tupK (K := K) (pv 0)) (blkOk_by (own := [("one", 1)]) (N := N__law_are_whole) (sc := defScope s__law_are_whole) (by decide +kernel)) (fun _ _ _ _ _ => (pg_name (i := 1) sc__law_are_whole.nd rfl (Or.inl rfl))) (fun _ _ _ _ _ => pts_one (pt_not (pt_val (pe_call G__law_whole (hr.mono (by decide)) (by rfl) T.m__law_whole T.k__law_whole T.b__law_whole .nil pass0 (pa_cons (pv 1) pa_nil))))) (fun _ _ _ _ _ => (pv 1))) pa_nil)) pe_int (nomark _)))))), ?_⟩
  refine ⟨_, rfl, _, _, _, _, true, rfl, .ty "tuple", .base (.tup ht), kit_ty (by decide +kernel), true, rfl, iteT ?_⟩
  refine ⟨_, rfl, t, rfl, ⟨_, SqT.of ht⟩, fun D nD => ?_⟩
  refine lc_it (walk_tup (xs := ns.map V.int)) (fun i H2 => Same H H2 ∧ H2 D = some (.lst [])) ⟨(Same.refl H).updN nD, upd_same⟩ (fun i H2 _ p => SqT.of (p.1 _ _ ht)) (fun i x H2 H3 hi p y => ?_) (fun H2 p => ?_)
  · obtain ⟨rfl, hx⟩ := y
    obtain ⟨v, hv, rfl⟩ := map_int_at hx
    refine ⟨rfl, _, rfl, v, rfl, fun H4 e4 => ?_⟩
    subst e4
    exact ⟨_, rfl, iteF p⟩
  · refine ⟨D, _, rfl, .inl (SqL.of p.2), rfl, ?_⟩
    exact q H2 p.1
theorem ok_rises (T' : Txt K mg a d) : FnOk P w K mg base CX0 1 a.a__law_rises d.d__law_rises P__law_rises spRises := by
  have T := T'
  refine T.F__law_rises.ok sc__law_rises (fun vs H Q E h => ?_) (fun cdv A outer st H vs Q E hr h => ?_)
  · obtain ⟨t, ns, rfl, _⟩ := h
    rfl
  obtain ⟨t, ns, rfl, ht, hl, hs, hn, q⟩ := h
  refine ⟨_, (pss_one (ps_ret (pe_cmpR op_eq (pe_callB (call_len_seqK (K := K)) (by rfl) T.z_len (by decide +kernel) (pa_cons (pe_lc (own := [("k", 1)]) (g := gName 1) rfl sc__law_rises.nd (pi_range2 (by rfl) T.z_range (pa_cons pe_int (pa_cons (pe_callB (call_len_seqK (K := K)) (by rfl) T.z_len (by decide +kernel) (pa_cons (pv 0) pa_nil)) pa_nil))) (blkOk_by (own := [("k", 1)]) (N := N__law_rises) (sc := defScope s__law_rises) (by decide +kernel)) (fun _ _ _ _ _ => (pg_name (i := 1) sc__law_rises.nd rfl (Or.inl rfl))) (fun _ _ _ _ _ => pts_one (pt_cmpR op_ge (pe_ix (ix_tupK (K := K)) (pv 0) (pe_op op_sub (pv 1) pe_int) (fun _ _ => rfl)) (pe_ix (ix_tupK (K := K)) (pv 0) (pv 1) (fun _ _ => rfl)) (nomark _))) (fun _ _ _ _ _ => (pv 1))) pa_nil)) pe_int (nomark _)))), ?_⟩
  refine ⟨_, rfl, t, _, rfl, .inr (SqT.of ht), 1, (ns.length : Nat), by rw [List.length_map], ⟨by decide, by decide, by omega, by omega⟩, fun D nD => ?_⟩
  refine lc_it walk_range (fun i H2 => Same H H2 ∧ H2 D = some (.lst [])) ⟨(Same.refl H).updN nD, upd_same⟩ (fun _ _ _ _ => trivial) (fun i x H2 H3 hi p y => ?_) (fun H2 p => ?_)
  · obtain ⟨rfl, rfl⟩ := y
    have hi : i < ((ns.length : Int) - 1).toNat := hi
    have h1 : i < ns.length := by omega
    have h2 : i + 1 < ns.length := by omega
    have ht3 := p.1 _ _ ht
    refine ⟨rfl, _, rfl, _, rfl, _, _, rfl, rfl, t, _, _, .int ns[i], rfl, rfl, SqT.of ht3, at_of (j := i) (by omega) (by rw [List.getElem?_map, List.getElem?_eq_getElem h1]; rfl), ?_⟩
    refine ⟨_, rfl, _, rfl, t, _, _, .int ns[i + 1], rfl, rfl, SqT.of ht3, at_of (j := i + 1) (by omega) (by rw [List.getElem?_map, List.getElem?_eq_getElem h2]; rfl), ?_⟩
    have lt := strict_of hs hn i _ _ (List.getElem?_eq_getElem h1) (List.getElem?_eq_getElem h2)
    refine ⟨_, _, rfl, rfl, _, rfl, ?_⟩
    rw [decide_eq_false (show ¬ ns[i + 1] ≤ ns[i] by omega)]
    exact iteF p
  · refine ⟨D, _, rfl, .inl (SqL.of p.2), rfl, ?_⟩
    exact q H2 p.1
theorem ok_most (T' : Txt K mg a d) : FnOk P w K mg base CX0 65 a.a__law_most d.d__law_most P__law_most spMost := by
  have T := T'
  have G__law_seat := ok_seat (P := P) (w := w) (base := base) T 64
  refine T.F__law_most.ok sc__law_most (fun vs H Q E h => ?_) (fun cdv A outer s H vs Q E hr h => ?_)
  · obtain ⟨R, rows, rfl, _⟩ := h
    rfl
  obtain ⟨R, rows, rfl, hR, hG, q⟩ := h
  refine ⟨_, (pss_cons (ps_set (i := 1) sc__law_most.nd rfl (Or.inr rfl) pe_dnewK)
      (pss_one (ps_ret (pe_callB (call_len_seqK (K := K)) (by rfl) T.z_len (by decide +kernel) (pa_cons (pe_lc (own := [("k", 2)]) (g := gName 2) rfl sc__law_most.nd (pi_range1 (by rfl) T.z_range (pa_cons (pe_callB (call_len_seqK (K := K)) (by rfl) T.z_len (by decide +kernel) (pa_cons (pv 0) pa_nil)) pa_nil)) (blkOk_by (own := [("k", 2)]) (N := N__law_most) (sc := defScope s__law_most) (by decide +kernel)) (fun _ _ _ _ _ => (pg_name (i := 2) sc__law_most.nd rfl (Or.inl rfl))) (fun _ _ _ _ _ => pts_one (pt_val (pe_call G__law_seat (hr.mono (by decide)) (by rfl) T.m__law_seat T.k__law_seat T.b__law_seat .nil pass0 (pa_cons (pv 0) (pa_cons (pv 1) (pa_cons (pv 2) (pa_cons pe_dnewK pa_nil))))))) (fun _ _ _ _ _ => (pv 2))) pa_nil))))), ?_⟩
  obtain ⟨U, hU, hU60⟩ := hG.to
  obtain ⟨xs, ex, el⟩ := hR.tup
  have hrl := hG.len
  intro TT nT
  have s1 : Same H (upd H TT (.dK [])) := (Same.refl H).updN nT
  refine ⟨_, rfl, R, xs, rfl, .inr (SqT.of (s1 _ _ ex)), (rows.length : Nat), by rw [el], by omega, by omega, fun D nD => ?_⟩
  have hTD : TT ≠ D := by intro z; rw [← z, upd_same] at nD; cases nD
  have nD0 : H D = none := by rw [upd_ne hTD.symm] at nD; exact nD
  refine lc_it walk_range0 (fun i H2 => Same H H2 ∧ H2 TT = some (.dK (encT (runs rows i))) ∧ H2 D = some (.lst ((gots rows i).map natV)))
    ⟨s1.updN nD, by rw [upd_ne hTD, upd_same]; rfl, upd_same⟩ (fun _ _ _ _ => trivial) (fun i x H2 H3 hi p y => ?_) (fun H2 p => ?_)
  · obtain ⟨s2, hT, hD⟩ := p
    obtain ⟨rfl, rfl⟩ := y
    have hi : i < rows.length := hi
    have I := inv_runs hU.sub hU.len i (Nat.le_of_lt hi)
    refine ⟨rfl, _, rfl, _, rfl, _, rfl, fun S nS => ?_⟩
    have hne : TT ≠ S := ne_of_none hT nS
    have hDS : D ≠ S := ne_of_none hD nS
    refine ⟨R, TT, S, rows, U, i, runs rows i, [], rfl, (hR.same s2).same ((Same.refl _).updN nS), hi, hU.sub, by omega, I.wt, ⟨List.nodup_nil, fun _ h => by cases h⟩, (by have h : U.length + 1 ≤ 64 := hU.len; show U.length + 1 ≤ 0 + 64; omega),
      by rw [upd_ne hne]; exact hT, upd_same, hne, fun H4 b4 hT4 hS4 => ?_⟩
    have hD4 : H4 D = some (.lst ((gots rows i).map natV)) := b4 _ _ (by rw [upd_ne hDS]; exact hD) (fun m => by
      rcases List.mem_cons.mp m with z | z
      · exact hTD z.symm
      · exact hDS (List.mem_singleton.mp z))
    have s4 : Same H H4 := fun b o e => by
      have e2 := s2 b o e
      refine b4 b o (by rw [upd_ne (ne_of_none e2 nS)]; exact e2) (fun m => ?_)
      rcases List.mem_cons.mp m with z | z
      · rw [z, nT] at e; cases e
      · rw [List.mem_singleton.mp z, nS] at e2; cases e2
    have eg : gots rows (i + 1) = gots rows i ++ (if got rows i = true then [i] else []) := by
      unfold gots
      rw [List.range_succ, List.filter_append]
      congr 1
      by_cases c : got rows i = true
      · rw [if_pos c]; simp [c]
      · rw [if_neg c]; simp [c]
    have gl : (gots rows i).length ≤ 1000 := by
      unfold gots
      refine Nat.le_trans (List.length_filter_le _ _) ?_
      rw [List.length_range]; omega
    refine ⟨_, rfl, ?_⟩
    cases c : got rows i with
    | true =>
      have c2 : (seat rows 64 i (runs rows i) []).1 = true := c
      rw [c2]
      refine iteT ⟨_, rfl, _, hD4, small1000 (by rw [List.length_map]; exact gl), s4.updF nD0, ?_, ?_⟩
      · rw [upd_ne hTD]; exact hT4
      · rw [upd_same, eg, c, List.map_append]; rfl
    | false =>
      have c2 : (seat rows 64 i (runs rows i) []).1 = false := c
      rw [c2]
      refine iteF ⟨s4, hT4, ?_⟩
      rw [eg, c]
      simpa using hD4
  · obtain ⟨s2, hT, hD⟩ := p
    refine ⟨D, _, rfl, .inl (SqL.of hD), ?_⟩
    rw [List.length_map]
    exact q H2 s2
end
end K34W

set_option Elab.async false
set_option linter.all false
set_option maxRecDepth 100000
namespace K34W
open PySem PySem.Spec PyProof.Rows L2 OwnK K34
theorem pick_int {ns : List Int} {r : Int} (h0 : 0 ≤ r) (h1 : r < (ns.length : Nat)) : ∃ v ∈ ns, atI (ns.map V.int) r = some (.int v) := by
  have h : r.toNat < ns.length := by omega
  exact ⟨ns[r.toNat], List.getElem_mem h, at_of (j := r.toNat) (by omega) (by rw [List.getElem?_map, List.getElem?_eq_getElem h]; rfl)⟩
theorem fdiv2 {w : Int} (h : 0 ≤ w) : 0 ≤ w.fdiv 2 ∧ w.fdiv 2 ≤ w := by
  rw [Int.fdiv_eq_ediv_of_nonneg _ (by decide)]
  omega
theorem snoc_P {α β : Type} {F : α → β → Prop} : ∀ {xs : List α} {ys : List β} {x : α} {y : β}, Paired F xs ys → F x y → Paired F (xs ++ [x]) (ys ++ [y])
  | _, _, _, _, .nil, h => .cons h .nil
  | _, _, _, _, .cons r t, h => .cons r (snoc_P t h)
/-- pairs (v, 1) that stand at addresses -/
def Prs (H : Hp) (ps : List Addr) (vs : List Int) : Prop := Paired (fun p v => H p = some (.tup [.int v, .int 1])) ps vs
theorem Prs.keep {H H' : Hp} {ps : List Addr} {vs : List Int} (h : Prs H ps vs) (k : ∀ b xs, H b = some (.tup xs) → H' b = some (.tup xs)) : Prs H' ps vs := Paired.mapP h fun _ _ q => k _ _ q
theorem Prs.to {K : PySem.W.Frag} {H : Hp} {ps : List Addr} {vs : List Int} (h : Prs H ps vs) : Paired (fun p kv => SqT K H p [kV kv.1, kv.2]) ps (encS (.int 1) vs) := by
  unfold Prs at h
  induction h with
  | nil => exact .nil
  | cons r t ih => exact .cons (SqT.of r) ih
theorem put_same {c : V} {s : List Int} {v : Int} (h : v ∈ s) : putK (encS c s) (Sum.inl v : Key) c = encS c s := by
  unfold putK
  rw [valV_any, valV_encS, if_pos h]
  show (if true = true then _ else _) = _
  rw [if_pos rfl]
  unfold encS
  rw [List.map_map]
  refine List.map_congr_left fun u _ => ?_
  show (if (Sum.inl u : Key) = Sum.inl v then ((Sum.inl u : Key), c) else (Sum.inl u, c)) = (Sum.inl u, c)
  split <;> rfl
theorem merge_encS (c : V) : ∀ (r s : List Int), mergeK (encS c s) (encS c r) = encS c (growV r s)
  | [], s => rfl
  | v :: r, s => by
    show mergeK (putK (encS c s) (Sum.inl v) c) (encS c r) = encS c (growV r (if v ∈ s then s else s ++ [v]))
    by_cases h : v ∈ s
    · rw [put_same h, if_pos h]; exact merge_encS c r s
    · rw [putK_encS h, if_neg h]; exact merge_encS c r (s ++ [v])
structure RowsI (H H2 : Hp) (f C D L : Addr) (pl : List Int) (as : List Addr) : Prop where
  hb : But [f] H H2
  hF : FlowAt H2 f C
  hD : H2 D = some (.lst (pl.map V.int))
  hL : H2 L = some (.lst (as.map V.ref))
  rows : ∀ a ∈ as, ∃ row : List Int, H2 a = some (.tup (row.map V.int)) ∧ ∀ v ∈ row, v ∈ pl
  nf : ∀ x : Addr, H2 x = none → x ≠ f ∧ x ≠ C
  Df : D ≠ f
  Lf : L ≠ f
  LD : L ≠ D
section
variable {H H2 H3 : Hp} {f C D L p : Addr} {pl : List Int} {as : List Addr} {o : HO}
theorem keep_f (b : But [f] H2 H3) {x : Addr} {u : HO} (h : H2 x = some u) (n : x ≠ f) : H3 x = some u := b _ _ h fun m => n (List.mem_singleton.mp m)
theorem RowsI.but (R : RowsI H H2 f C D L pl as) (b : But [f] H2 H3) (F : FlowAt H3 f C) : RowsI H H3 f C D L pl as :=
  ⟨R.hb.trans b, F, keep_f b R.hD R.Df, keep_f b R.hL R.Lf, fun a ha => by
    obtain ⟨row, h1, h2⟩ := R.rows a ha
    exact ⟨row, keep_f b h1 (fun z => R.hF.noTup _ (z ▸ h1)), h2⟩, fun x h => F.ne h, R.Df, R.Lf, R.LD⟩
theorem RowsI.new (R : RowsI H H2 f C D L pl as) (h : H2 p = none) : RowsI H (upd H2 p o) f C D L pl as :=
  R.but (fun b u e _ => ((Same.refl H2).updN h) b u e) (R.hF.new h)
theorem RowsI.updT (R : RowsI H H2 f C D L pl as) (hp : H p = none) (h1 : p ≠ f) (h2 : p ≠ C) (h3 : p ≠ D) (h4 : p ≠ L) (h5 : NoTup H2 p) : RowsI H (upd H2 p o) f C D L pl as :=
  ⟨fun b u e n => by rw [upd_ne (ne_of_none e hp)]; exact R.hb b u e n, R.hF.upd h1 h2, by rw [upd_ne h3.symm]; exact R.hD, by rw [upd_ne h4.symm]; exact R.hL, fun a ha => by
    obtain ⟨row, q1, q2⟩ := R.rows a ha
    have : a ≠ p := fun z => h5 _ (z ▸ q1)
    exact ⟨row, by rw [upd_ne this]; exact q1, q2⟩, fun x h => (R.hF.upd h1 h2).ne h, R.Df, R.Lf, R.LD⟩
theorem RowsI.isNone (R : RowsI H H2 f C D L pl as) (h : H2 p = none) : H p = none := by
  cases e : H p with
  | none => rfl
  | some u =>
    have : p = f := by
      by_cases c : p = f
      · exact c
      · have := keep_f R.hb e c
        rw [this] at h; cases h
    exact absurd this (R.nf p h).1
theorem RowsI.neD (R : RowsI H H2 f C D L pl as) (h : H2 p = none) : p ≠ D := (ne_of_none R.hD h).symm
theorem RowsI.neL (R : RowsI H H2 f C D L pl as) (h : H2 p = none) : p ≠ L := (ne_of_none R.hL h).symm
end
/-- a dict of a row -/
structure RowD (H2 : Hp) (r : Addr) (s pl : List Int) : Prop where
  at_ : H2 r = some (.dK (encS (.int 1) s))
  nd : s.Nodup
  sub : ∀ v ∈ s, v ∈ pl
def spRows : Sp := fun vs H Q _ => ∃ (f C : Addr), vs = [.ref f] ∧ FlowAt H f C ∧ ∀ H' R rows, But [f] H H' → FlowAt H' f C → RowsAt H' R rows → Good60 rows → Q (.ref R) H'
theorem refs_of {as : List Addr} : ∀ {ys : List V}, (∀ y ∈ ys, y ∈ as.map V.ref) → ∃ bs : List Addr, ys = bs.map V.ref ∧ ∀ b ∈ bs, b ∈ as
  | [], _ => ⟨[], rfl, fun _ h => by cases h⟩
  | y :: ys, h => by
    obtain ⟨bs, e, hb⟩ := refs_of (ys := ys) fun z hz => h z (List.mem_cons_of_mem _ hz)
    obtain ⟨a, ha, ea⟩ := List.mem_map.mp (h y (by simp))
    refine ⟨a :: bs, by rw [List.map_cons, ea, e], fun b m => ?_⟩
    rcases List.mem_cons.mp m with z | z
    · rw [z]; exact ha
    · exact hb b z
theorem rows_of {H : Hp} {R : Addr} {as bs : List Addr} {pl : List Int} (hR : H R = some (.tup (bs.map V.ref))) (hb : ∀ b ∈ bs, b ∈ as) (h : ∀ a ∈ as, ∃ row : List Int, H a = some (.tup (row.map V.int)) ∧ ∀ v ∈ row, v ∈ pl) :
    ∃ rows, RowsAt H R rows ∧ rows.length = bs.length ∧ ∀ row ∈ rows, ∀ v ∈ row, v ∈ pl := by
  have q : ∀ cs : List Addr, (∀ b ∈ cs, b ∈ as) → ∃ rows : List (List Int), cs.length = rows.length ∧ (∀ (i : Nat) a row, cs[i]? = some a → rows[i]? = some row → H a = some (.tup (row.map V.int))) ∧ ∀ row ∈ rows, ∀ v ∈ row, v ∈ pl := by
    intro cs
    induction cs with
    | nil => intro _; exact ⟨[], rfl, (fun i a row h => by simp at h), fun _ h => by cases h⟩
    | cons c cs ih =>
      intro hc
      obtain ⟨rows, e1, e2, e3⟩ := ih fun b hb => hc b (List.mem_cons_of_mem _ hb)
      obtain ⟨row, g1, g2⟩ := h c (hc c (by simp))
      refine ⟨row :: rows, by rw [List.length_cons, List.length_cons, e1], fun i a r h1 h2 => ?_, fun r hr => ?_⟩
      · cases i with
        | zero =>
          have z1 : c = a := by simpa using h1
          have z2 : row = r := by simpa using h2
          rw [← z1, ← z2]; exact g1
        | succ i => exact e2 i a r (by simpa using h1) (by simpa using h2)
      · rcases List.mem_cons.mp hr with z | z
        · rw [z]; exact g2
        · exact e3 r z
  obtain ⟨rows, e1, e2, e3⟩ := q bs hb
  exact ⟨rows, ⟨bs, hR, e1, e2⟩, e1.symm, e3⟩
theorem cut_head {pl : List Int} {k : Int} (hk : 1 ≤ k) (hp : pl ≠ []) : cutV (pl.map V.int) none (some k) ≠ [] := by
  have ek : k = ((k.toNat : Nat) : Int) := by omega
  have hl : 0 < pl.length := List.length_pos_iff.mpr hp
  unfold cutV
  rw [HT.sIx_none, ek, HT.sIx_nat, List.drop_zero]
  intro e
  have := congrArg List.length e
  rw [List.length_take, List.length_map, List.length_nil] at this
  omega
end K34W

set_option Elab.async false
set_option linter.all false
set_option maxRecDepth 100000
namespace K34W
open PySem PySem.Spec PyProof.Rows L2 OwnK K34
/-- the slots of _law_rows within a turn -/
abbrev sgR (f : Addr) (m st wd sc : Int) (D : Addr) (mo : Int) (L : Addr) (x8 x9 : Option V) : L2.St :=
  [some (.ref f), some (.int m), some (.int st), some (.int wd), some (.int sc), some (.ref D), some (.int mo), some (.ref L), x8, x9, none, none]
/-- a row's dict, and all else -/
structure RowI (H H2 : Hp) (f C D L r : Addr) (pl : List Int) (as : List Addr) (s : List Int) : Prop where
  R : RowsI H H2 f C D L pl as
  d : RowD H2 r s pl
  h0 : H r = none
  nf : r ≠ f
  nC : r ≠ C
  nD : r ≠ D
  nL : r ≠ L
theorem RowI.put {H H2 : Hp} {f C D L r : Addr} {pl : List Int} {as : List Addr} {s : List Int} (W : RowI H H2 f C D L r pl as s) {v : Int} (hv : v ∈ pl) : ∃ s', RowI H (upd H2 r (.dK (putK (encS (.int 1) s) (Sum.inl v) (.int 1)))) f C D L r pl as s' := by
  have nt : NoTup H2 r := noTup_of W.d.at_ (fun _ z => by cases z)
  by_cases c : v ∈ s
  · rw [put_same c]
    exact ⟨s, W.R.updT W.h0 W.nf W.nC W.nD W.nL nt, ⟨upd_same, W.d.nd, W.d.sub⟩, W.h0, W.nf, W.nC, W.nD, W.nL⟩
  · rw [putK_encS c]
    refine ⟨s ++ [v], W.R.updT W.h0 W.nf W.nC W.nD W.nL nt, ⟨upd_same, nodup_snoc W.d.nd c, fun u hu => ?_⟩, W.h0, W.nf, W.nC, W.nD, W.nL⟩
    rcases List.mem_append.mp hu with z | z
    · exact W.d.sub u z
    · rw [List.mem_singleton.mp z]; exact hv
/-- a list of new pairs, and all else -/
structure PrsI (H H2 : Hp) (f C D L E : Addr) (pl : List Int) (as : List Addr) (n : Nat) : Prop where
  R : RowsI H H2 f C D L pl as
  ex : ∃ ps vs, H2 E = some (.lst (ps.map V.ref)) ∧ Prs H2 ps vs ∧ ps.length = n ∧ ∀ v ∈ vs, v ∈ pl
  h0 : H E = none
  nf : E ≠ f
  nC : E ≠ C
  nD : E ≠ D
  nL : E ≠ L
theorem PrsI.start {H H2 : Hp} {f C D L E : Addr} {pl : List Int} {as : List Addr} (R : RowsI H H2 f C D L pl as) (h : H2 E = none) : PrsI H (upd H2 E (.lst [])) f C D L E pl as 0 :=
  ⟨R.new h, ⟨[], [], upd_same, .nil, rfl, fun _ z => by cases z⟩, R.isNone h, (R.nf E h).1, (R.nf E h).2, R.neD h, R.neL h⟩
theorem PrsI.but {H H2 H3 : Hp} {f C D L E : Addr} {pl : List Int} {as : List Addr} {n : Nat} (W : PrsI H H2 f C D L E pl as n) (b : But [f] H2 H3) (F : FlowAt H3 f C) : PrsI H H3 f C D L E pl as n := by
  obtain ⟨ps, vs, h1, h2, h3, h4⟩ := W.ex
  exact ⟨W.R.but b F, ⟨ps, vs, keep_f b h1 W.nf, h2.keep (fun x xs q => keep_f b q (fun z => W.R.hF.noTup _ (z ▸ q))), h3, h4⟩, W.h0, W.nf, W.nC, W.nD, W.nL⟩
theorem PrsI.new {H H2 : Hp} {f C D L E p : Addr} {pl : List Int} {as : List Addr} {n : Nat} {o : HO} (W : PrsI H H2 f C D L E pl as n) (h : H2 p = none) : PrsI H (upd H2 p o) f C D L E pl as n :=
  W.but (fun b u e _ => ((Same.refl H2).updN h) b u e) (W.R.hF.new h)
theorem PrsI.push {H H2 : Hp} {f C D L E p : Addr} {pl : List Int} {as : List Addr} {n : Nat} {v : Int} (W : PrsI H H2 f C D L E pl as n) (hn : n ≤ 1000) (hv : v ∈ pl) (h : H2 p = none) :
    ∃ acc, (upd H2 p (.tup [.int v, .int 1])) E = some (.lst acc) ∧ acc.length < sizeLine ∧ PrsI H (upd (upd H2 p (.tup [.int v, .int 1])) E (.lst (acc ++ [.ref p]))) f C D L E pl as (n + 1) := by
  obtain ⟨ps, vs, h1, h2, h3, h4⟩ := W.ex
  have nEp : E ≠ p := ne_of_none h1 h
  have W2 := W.new (o := .tup [.int v, .int 1]) h
  have h1' : (upd H2 p (.tup [.int v, .int 1])) E = some (.lst (ps.map V.ref)) := by rw [upd_ne nEp]; exact h1
  refine ⟨_, h1', small1000 (by rw [List.length_map]; omega), W2.R.updT W.h0 W.nf W.nC W.nD W.nL (noTup_of h1' (fun _ z => by cases z)), ⟨ps ++ [p], vs ++ [v], ?_, ?_, ?_, ?_⟩, W.h0, W.nf, W.nC, W.nD, W.nL⟩
  · rw [upd_same, List.map_append]; rfl
  · refine snoc_P (h2.keep fun x xs q => ?_) ?_
    · have : x ≠ E := fun z => by rw [z, h1] at q; cases q
      rw [upd_ne this, upd_ne (ne_of_none q h)]; exact q
    · rw [upd_ne nEp.symm, upd_same]
  · rw [List.length_append, h3]; rfl
  · intro u hu
    rcases List.mem_append.mp hu with z | z
    · exact h4 u z
    · rw [List.mem_singleton.mp z]; exact hv
/-- dict(pairs) -/
theorem PrsI.dict {K : PySem.W.Frag} {H H2 : Hp} {f C D L E : Addr} {pl : List Int} {as : List Addr} {n : Nat} (W : PrsI H H2 f C D L E pl as n) {Q : VK} (q : ∀ r s H3, RowI H H3 f C D L r pl as s → Q (.ref r) H3) : rDictP K [.ref E] H2 Q := by
  obtain ⟨ps, vs, h1, h2, h3, h4⟩ := W.ex
  refine ⟨E, ps, _, rfl, SqL.of h1, h2.to, fun r nr => ?_⟩
  have e := merge_encS (.int 1) vs []
  have e : mergeK [] (encS (.int 1) vs) = encS (.int 1) (growV vs []) := e
  rw [e]
  refine q r (growV vs []) _ ⟨W.R.new nr, ⟨upd_same, growV_nodup vs [] List.nodup_nil, fun v hv => ?_⟩, W.R.isNone nr, (W.R.nf r nr).1, (W.R.nf r nr).2, W.R.neD nr, W.R.neL nr⟩
  rcases (growV_mem vs [] v).mp hv with z | z
  · cases z
  · exact h4 v z
theorem b01 (b : Bool) : (0 : Int) ≤ (if b = true then 1 else 0) ∧ (if b = true then (1 : Int) else 0) ≤ 1 := by cases b <;> decide
section
variable {P : Program} {w : World} {K : PySem.W.Frag} {mg : Str → Option Value} {base : Heap} {a : Ad} {d : Fd}
theorem ok_rows (T' : Txt K mg a d) : FnOk P w K mg base CX0 3 a.a__law_rows d.d__law_rows P__law_rows spRows := by
  have T := T'
  have G__law_draw := ok_draw (P := P) (w := w) (base := base) T
  have G__law_pick := ok_pick (P := P) (w := w) (base := base) T
  have G__law_shuffled := ok_shuf (P := P) (w := w) (base := base) T
  refine T.F__law_rows.ok sc__law_rows (fun vs H Q E h => ?_) (fun cdv A outer s H vs Q E hr h => ?_)
  · obtain ⟨f, C, rfl, _⟩ := h
    rfl
  obtain ⟨f, C, rfl, hF, q⟩ := h
  refine ⟨_, (pss_cons (ps_set (i := 1) sc__law_rows.nd rfl (Or.inr rfl) (pe_ix (ix_listK (K := K)) (pe_lst (pa_cons pe_int (pa_cons pe_int (pa_cons pe_int (pa_cons pe_int (pa_cons pe_int (pa_cons pe_int (pa_cons pe_int (pa_cons (pe_op op_add pe_int (pe_call G__law_draw (hr.mono (by decide)) (by rfl) T.m__law_draw T.k__law_draw T.b__law_draw .nil pass0 (pa_cons (pv 0) (pa_cons pe_int pa_nil)))) pa_nil))))))))) (pe_call G__law_draw (hr.mono (by decide)) (by rfl) T.m__law_draw T.k__law_draw T.b__law_draw .nil pass0 (pa_cons (pv 0) (pa_cons pe_int pa_nil))) (fun _ _ => rfl)))
      (pss_cons (ps_set (i := 2) sc__law_rows.nd rfl (Or.inl rfl) (pe_call G__law_draw (hr.mono (by decide)) (by rfl) T.m__law_draw T.k__law_draw T.b__law_draw .nil pass0 (pa_cons (pv 0) (pa_cons pe_int pa_nil))))
      (pss_cons (ps_set (i := 3) sc__law_rows.nd rfl (Or.inr rfl) (pe_ix (ix_listK (K := K)) (pe_lst (pa_cons (pe_callB (call_max2 rfl) (by rfl) T.z_max (by decide +kernel) (pa_cons pe_int (pa_cons (pe_op op_sub (pv 1) pe_int) pa_nil))) (pa_cons (pv 1) (pa_cons (pe_op op_add (pv 1) pe_int) (pa_cons (pe_op op_add (pv 1) pe_int) (pa_cons pe_int (pa_cons pe_int pa_nil))))))) (pe_call G__law_draw (hr.mono (by decide)) (by rfl) T.m__law_draw T.k__law_draw T.b__law_draw .nil pass0 (pa_cons (pv 0) (pa_cons pe_int pa_nil))) (fun _ _ => rfl)))
      (pss_cons (ps_set (i := 4) sc__law_rows.nd rfl (Or.inr rfl) (pe_ix (ix_listK (K := K)) (pe_lst (pa_cons pe_int (pa_cons pe_int (pa_cons pe_int (pa_cons pe_int (pa_cons (pe_un un_neg pe_int) (pa_cons (pe_op op_pow pe_int pe_int) pa_nil))))))) (pe_call G__law_draw (hr.mono (by decide)) (by rfl) T.m__law_draw T.k__law_draw T.b__law_draw .nil pass0 (pa_cons (pv 0) (pa_cons pe_int pa_nil))) (fun _ _ => rfl)))
      (pss_cons (ps_set (i := 5) sc__law_rows.nd rfl (Or.inr rfl) (pe_lc (own := [("k", 8)]) (g := gName 8) rfl sc__law_rows.nd (pi_range1 (by rfl) T.z_range (pa_cons (pv 3) pa_nil)) (blkOk_by (own := [("k", 8)]) (N := N__law_rows) (sc := defScope s__law_rows) (by decide +kernel)) (fun _ _ _ _ _ => (pg_name (i := 8) sc__law_rows.nd rfl (Or.inl rfl))) (fun _ _ _ _ _ => pts_nil) (fun _ _ _ _ _ => (pe_op op_mul (pv 4) (pe_op op_sub (pv 8) (pe_op op_fdivN (pv 3) pe_int))))))
      (pss_cons (ps_set (i := 6) sc__law_rows.nd rfl (Or.inl rfl) (pe_ix (ix_listK (K := K)) (pe_lst (pa_cons pe_int (pa_cons pe_int (pa_cons pe_int (pa_cons pe_int (pa_cons (pv 3) pa_nil)))))) (pe_call G__law_draw (hr.mono (by decide)) (by rfl) T.m__law_draw T.k__law_draw T.b__law_draw .nil pass0 (pa_cons (pv 0) (pa_cons pe_int pa_nil))) (fun _ _ => rfl)))
      (pss_cons (ps_set (i := 7) sc__law_rows.nd rfl (Or.inl rfl) (pe_lst pa_nil))
      (pss_cons (ps_for PassesOwn.never rfl (pi_range1 (by rfl) T.z_range (pa_cons (pv 1) pa_nil)) (pg_name (i := 8) sc__law_rows.nd rfl (Or.inl rfl))
      (pss_cons (ps_set (i := 9) sc__law_rows.nd rfl (Or.inl rfl) (pe_callTy (call_dictPK (K := K) rfl) (by rfl) T.z_dict (by decide +kernel) (pa_cons (pe_lc (own := [("j", 10)]) (g := gName 10) rfl sc__law_rows.nd (pi_range1 (by rfl) T.z_range (pa_cons (pe_op op_add (pe_call G__law_draw (hr.mono (by decide)) (by rfl) T.m__law_draw T.k__law_draw T.b__law_draw .nil pass0 (pa_cons (pv 0) (pa_cons (pe_op op_add (pv 6) pe_int) pa_nil))) (pe_callTy call_int1 (by rfl) T.z_int (by decide +kernel) (pa_cons (pe_cmpR op_lt (pv 2) pe_int (nomark _)) pa_nil))) pa_nil)) (blkOk_by (own := [("j", 10)]) (N := N__law_rows) (sc := defScope s__law_rows) (by decide +kernel)) (fun _ _ _ _ _ => (pg_name (i := 10) sc__law_rows.nd rfl (Or.inl rfl))) (fun _ _ _ _ _ => pts_nil) (fun _ _ _ _ _ => (pe_tup (pa_cons (pe_call G__law_pick (hr.mono (by decide)) (by rfl) T.m__law_pick T.k__law_pick T.b__law_pick .nil pass0 (pa_cons (pv 0) (pa_cons (pv 5) pa_nil))) (pa_cons pe_int pa_nil))))) pa_nil)))
      (pss_cons (ps_if (pt_cmpR op_eq (pv 2) pe_int (nomark _)) (pss_one (ps_dput (hu_of hr) (pv 9) (pe_ix (ix_listK (K := K)) (pv 5) (pe_op op_modN (pe_callTy call_int1 (by rfl) T.z_int (by decide +kernel) (pa_cons (pv 8) pa_nil)) (pv 3)) (fun _ _ => rfl)) pe_int rfl)) pss_nil)
      (pss_cons (ps_if (PW.pt (pw_and (pt_cmpR op_eq (pv 2) pe_int (nomark _)) (pw_and1 (pt_cmpR op_lt (pv 8) (pe_op op_add (pe_op op_fdivN (pv 1) pe_int) pe_int) (nomark _))))) (pss_one (ps_set (i := 9) sc__law_rows.nd rfl (Or.inl rfl) (pe_callTy (call_dictPK (K := K) rfl) (by rfl) T.z_dict (by decide +kernel) (pa_cons (pe_lc (own := [("j", 10)]) (g := gName 10) rfl sc__law_rows.nd (pi_range1 (by rfl) T.z_range (pa_cons (pe_op op_add pe_int (pe_call G__law_draw (hr.mono (by decide)) (by rfl) T.m__law_draw T.k__law_draw T.b__law_draw .nil pass0 (pa_cons (pv 0) (pa_cons pe_int pa_nil)))) pa_nil)) (blkOk_by (own := [("j", 10)]) (N := N__law_rows) (sc := defScope s__law_rows) (by decide +kernel)) (fun _ _ _ _ _ => (pg_name (i := 10) sc__law_rows.nd rfl (Or.inl rfl))) (fun _ _ _ _ _ => pts_nil) (fun _ _ _ _ _ => (pe_tup (pa_cons (pe_call G__law_pick (hr.mono (by decide)) (by rfl) T.m__law_pick T.k__law_pick T.b__law_pick .nil pass0 (pa_cons (pv 0) (pa_cons (pe_slice (sl_listK (K := K)) (pv 5) po_none (po_some (pe_callB (call_max2 rfl) (by rfl) T.z_max (by decide +kernel) (pa_cons pe_int (pa_cons (pe_op op_fdivN (pv 1) pe_int) pa_nil))))) pa_nil))) (pa_cons pe_int pa_nil))))) pa_nil)))) pss_nil)
      (pss_cons (ps_if (PW.pt (pw_and (pt_cmpR op_eq (pv 2) pe_int (nomark _)) (pw_and1 (pt_cmpR op_eq (pe_call G__law_draw (hr.mono (by decide)) (by rfl) T.m__law_draw T.k__law_draw T.b__law_draw .nil pass0 (pa_cons (pv 0) (pa_cons pe_int pa_nil))) pe_int (nomark _))))) (pss_one (ps_set (i := 9) sc__law_rows.nd rfl (Or.inl rfl) (pe_callTy (call_dictPK (K := K) rfl) (by rfl) T.z_dict (by decide +kernel) (pa_cons (pe_lc (own := [("v", 11)]) (g := gName 11) rfl sc__law_rows.nd (pi_listK (K := K) (pv 5)) (blkOk_by (own := [("v", 11)]) (N := N__law_rows) (sc := defScope s__law_rows) (by decide +kernel)) (fun _ _ _ _ _ => (pg_name (i := 11) sc__law_rows.nd rfl (Or.inl rfl))) (fun _ _ _ _ _ => pts_nil) (fun _ _ _ _ _ => (pe_tup (pa_cons (pv 11) (pa_cons pe_int pa_nil))))) pa_nil)))) pss_nil)
      (pss_one (ps_expr (pe_bm PySem.F.plainAttrs_list PySem.F.slot_list_append PySem.F.type_list_append mt_append (pv 7) (pa_cons (pe_callTy (call_tuple_ofK (K := K)) (by rfl) T.z_tuple (by decide +kernel) (pa_cons (pe_callB (call_sortedDI rfl) (by rfl) T.z_sorted (by decide +kernel) (pa_cons (pv 9) pa_nil)) pa_nil)) pa_nil)))))))))
      (pss_one (ps_ret (pe_callTy (call_tuple_ofK (K := K)) (by rfl) T.z_tuple (by decide +kernel) (pa_cons (pe_call G__law_shuffled (hr.mono (by decide)) (by rfl) T.m__law_shuffled T.k__law_shuffled T.b__law_shuffled .nil pass0 (pa_cons (pv 0) (pa_cons (pv 7) pa_nil))) pa_nil)))))))))))), ?_⟩
  -- many
  refine ⟨_, rfl, f, C, 24, rfl, hF, by decide, by decide, fun H1 r1 b1 F1 r10 r11 => ?_⟩
  refine ⟨_, _, rfl, rfl, len_le (by show 8 ≤ 1000; decide), fun p1 np1 => ?_⟩
  obtain ⟨n1f, n1C⟩ := F1.ne np1
  refine ⟨_, rfl, f, C, 8, rfl, F1.new np1, by decide, by decide, fun H2 r2 b2 F2 r20 r21 => ?_⟩
  obtain ⟨m, hm, em⟩ := pick_int (ns := [1, 2, 3, 5, 8, 12, 24, 1 + r1]) r20 r21
  have hm0 : 1 ≤ m ∧ m ≤ 24 := by
    simp only [List.mem_cons, List.not_mem_nil, or_false] at hm
    omega
  have B2 : But [f] H H2 := (b1.upd (.inr np1)).trans b2
  refine ⟨p1, _, r2, .int m, rfl, rfl, SqL.of (keep_f b2 upd_same n1f), em, ?_⟩
  -- style
  refine ⟨_, rfl, f, C, 5, rfl, F2, by decide, by decide, fun H3 st b3 F3 st0 st1 => ?_⟩
  have B3 := B2.trans b3
  -- wide
  refine ⟨_, rfl, _, _, rfl, rfl, _, _, rfl, ?_⟩
  refine ⟨_, rfl, _, rfl, _, _, rfl, rfl, _, rfl, _, _, rfl, rfl, len_le (by show 6 ≤ 1000; decide), fun p2 np2 => ?_⟩
  obtain ⟨n2f, n2C⟩ := F3.ne np2
  refine ⟨_, rfl, f, C, 6, rfl, F3.new np2, by decide, by decide, fun H4 r4 b4 F4 r40 r41 => ?_⟩
  obtain ⟨wd, hw, ew⟩ := pick_int (ns := [if m - 1 > 1 then m - 1 else 1, m, m + 1, m + 9, 2, 40]) r40 r41
  have hw0 : 1 ≤ wd ∧ wd ≤ 40 := by
    simp only [List.mem_cons, List.not_mem_nil, or_false] at hw
    rcases hw with e | e | e | e | e | e
    · split at e <;> omega
    all_goals omega
  have B4 : But [f] H H4 := (B3.upd (.inr np2)).trans b4
  refine ⟨p2, _, r4, .int wd, rfl, rfl, SqL.of (keep_f b4 upd_same n2f), ew, ?_⟩
  -- scale
  refine ⟨3, rfl, _, _, rfl, rfl, ⟨by decide, by decide, by decide⟩, len_le (by show 6 ≤ 1000; decide), fun p3 np3 => ?_⟩
  obtain ⟨n3f, n3C⟩ := F4.ne np3
  refine ⟨_, rfl, f, C, 6, rfl, F4.new np3, by decide, by decide, fun H5 r5 b5 F5 r50 r51 => ?_⟩
  obtain ⟨sc, hsc, esc⟩ := pick_int (ns := [1, 1, 1, 7, -3, 10 ^ 27]) r50 r51
  have B5 : But [f] H H5 := (B4.upd (.inr np3)).trans b5
  refine ⟨p3, _, r5, .int sc, rfl, rfl, SqL.of (keep_f b5 upd_same n3f), esc, ?_⟩
  -- pool
  refine ⟨_, rfl, wd, rfl, by omega, by omega, fun D nD => ?_⟩
  obtain ⟨nDf, nDC⟩ := F5.ne nD
  have nDH : H D = none := by
    cases e : H D with
    | none => rfl
    | some u => rw [keep_f B5 e nDf] at nD; cases nD
  have fw := fdiv2 (w := wd) (by omega)
  refine lc_it walk_range0 (fun i H6 => But [f] H5 H6 ∧ FlowAt H6 f C ∧ ∃ pl : List Int, pl.length = i ∧ H6 D = some (.lst (pl.map V.int)))
    ⟨fun b u e _ => ((Same.refl H5).updN nD) b u e, F5.new nD, [], rfl, upd_same⟩ (fun _ _ _ _ => trivial) (fun i x H6 H7 hi p y => ?_) (fun H6 p => ?_)
  · obtain ⟨b6, F6, pl, lp, h6⟩ := p
    obtain ⟨rfl, rfl⟩ := y
    have hi : i < wd.toNat := hi
    refine ⟨rfl, _, rfl, _, rfl, _, rfl, _, _, rfl, rfl, ⟨by decide, by decide⟩, _, _, rfl, rfl, _, _, rfl, rfl, .inr ⟨?_, ?_⟩, _, h6, small1000 (by rw [List.length_map]; omega), ?_, F6.upd nDf nDC, pl ++ [sc * ((i : Int) - wd.fdiv 2)], by rw [List.length_append, lp]; rfl, ?_⟩
    · omega
    · omega
    · intro b u e n
      rw [upd_ne (ne_of_none e nD)]; exact b6 b u e n
    · rw [upd_same, List.map_append]; rfl
  obtain ⟨b6, F6, pl, lp, h6⟩ := p
  have B6 := B5.trans b6
  have hpl0 : pl ≠ [] := by
    intro z
    rw [z] at lp
    simp only [List.length_nil] at lp
    omega
  have hpl1 : pl.length ≤ 40 := by omega
  -- most
  refine ⟨_, rfl, len_le (by show 5 ≤ 1000; decide), fun p4 np4 => ?_⟩
  obtain ⟨n4f, n4C⟩ := F6.ne np4
  refine ⟨_, rfl, f, C, 5, rfl, F6.new np4, by decide, by decide, fun H8 r8 b8 F8 r80 r81 => ?_⟩
  obtain ⟨mo, hmo, emo⟩ := pick_int (ns := [1, 2, 3, 5, wd]) r80 r81
  have hmo0 : 1 ≤ mo ∧ mo ≤ 40 := by
    simp only [List.mem_cons, List.not_mem_nil, or_false] at hmo
    omega
  have B8 : But [f] H H8 := (B6.upd (.inr np4)).trans b8
  refine ⟨p4, _, r8, .int mo, rfl, rfl, SqL.of (keep_f b8 upd_same n4f), emo, ?_⟩
  have h8 : H8 D = some (.lst (pl.map V.int)) := keep_f b8 (by rw [upd_ne (ne_of_none h6 np4)]; exact h6) nDf
  -- rows
  refine ⟨len_le (by show 0 ≤ 1000; decide), fun L nL => ?_⟩
  obtain ⟨nLf, nLC⟩ := F8.ne nL
  have nLD : L ≠ D := (ne_of_none h8 nL).symm
  have RI0 : RowsI H (upd H8 L (.lst [])) f C D L pl [] :=
    ⟨B8.upd (.inr nL), F8.new nL, by rw [upd_ne nLD.symm]; exact h8, upd_same, (fun _ h => by cases h), fun x h => (F8.new (o := .lst []) nL).ne h, nDf, nLf, nLD⟩
  have nLH : H L = none := by
    cases e : H L with
    | none => rfl
    | some u => rw [keep_f B8 e nLf] at nL; cases nL
  refine ⟨_, rfl, m, rfl, by omega, by omega, ?_⟩
  refine for_it walk_range0 (fun i σ H9 => ∃ as x8 x9, σ = sgR f m st wd sc D mo L x8 x9 ∧ RowsI H H9 f C D L pl as ∧ as.length = i)
    ⟨[], none, none, rfl, RI0, rfl⟩ (fun _ _ _ _ _ => trivial) (fun i x σ H9 H10 hi p y => ?_) (fun σ H9 p => ?_)
  · obtain ⟨as, x8, x9, rfl, RI, la⟩ := p
    obtain ⟨rfl, rfl⟩ := y
    have hi : i < m.toNat := hi
    -- row = dict([(pick, 1) ..])
    refine ⟨_, rfl, _, rfl, _, _, rfl, rfl, f, C, _, rfl, RI.hF, by omega, by omega, fun Ha ra ba Fa ra0 ra1 => ?_⟩
    refine ⟨_, rfl, _, _, rfl, rfl, .inr ⟨_, rfl, _, _, rfl, rfl, ?_⟩⟩
    have hb := b01 (decide (st < 4))
    refine ⟨_, rfl, by omega, by omega, fun Ea nEa => ?_⟩
    have RIa := RI.but ba Fa
    refine lc_it walk_range0 (fun j Hb => PrsI H Hb f C D L Ea pl as j) (PrsI.start RIa nEa) (fun _ _ _ _ => trivial) (fun j x Hb Hc hj p y => ?_) (fun Hb p => ?_)
    · obtain ⟨rfl, rfl⟩ := y
      have hj := hj
      refine ⟨rfl, _, rfl, _, rfl, f, C, D, _, rfl, p.R.hF, p.R.hD, p.R.Df, ?_, ?_, fun Hd xd bd Fd hxd => ?_⟩
      · intro z
        exact hpl0 (List.map_eq_nil_iff.mp z)
      · rw [List.length_map]; omega
      · obtain ⟨v, hv, rfl⟩ := List.mem_map.mp hxd
        refine ⟨len_le (by show 2 ≤ 1000; decide), fun pp npp => ?_⟩
        exact (p.but bd Fd).push (by omega) hv npp
    unfold tNil
    dsimp only
    refine p.dict fun r s1 Hr W => ?_
    -- if style == 0
    refine seq_cut (fun σ' H' => ∃ r s, σ' = sgR f m st wd sc D mo L (some (.int (i : Nat))) (some (.ref r)) ∧ RowI H H' f C D L r pl as s) (fun σ' H' p => ?_) (fun nx hnx => ?_)
    · obtain ⟨r2, s2, rfl, W2⟩ := p
      -- if style == 1 and k < many // 2 + 1
      refine seq_cut (fun σ' H' => ∃ r s, σ' = sgR f m st wd sc D mo L (some (.int (i : Nat))) (some (.ref r)) ∧ RowI H H' f C D L r pl as s) (fun σ' H' p => ?_) (fun nx hnx => ?_)
      · obtain ⟨r3, s3, rfl, W3⟩ := p
        -- if style == 2 and draw(flow, 8) == 0
        refine seq_cut (fun σ' H' => ∃ r s, σ' = sgR f m st wd sc D mo L (some (.int (i : Nat))) (some (.ref r)) ∧ RowI H H' f C D L r pl as s) (fun σ' H' p => ?_) (fun nx hnx => ?_)
        · obtain ⟨r4, s4, rfl, W4⟩ := p
          -- rows.append(tuple(sorted(row)))
          have sl : s4.length ≤ 40 := Nat.le_trans (pigeonA s4 pl W4.d.nd W4.d.sub) hpl1
          refine ⟨_, rfl, .inl ⟨rfl, _, SqL.of W4.R.hL⟩, _, rfl, r4, _, s4, rfl, Rd.of W4.d.at_, encS_keys _ _, by omega, fun ys p5 perm5 up5 np5 => ?_⟩
          refine ⟨p5, _, rfl, .inl ⟨SqL.of upd_same, fun p6 np6 => ?_⟩⟩
          have W5 := (W4.R.new (o := .lst (ys.map V.int)) np5).new (o := .tup (ys.map V.int)) np6
          refine ⟨L, _, _, rfl, rfl, W5.hL, small1000 (by rw [List.length_map]; omega), ?_⟩
          refine ⟨as ++ [p6], _, _, rfl, ⟨fun b u e n => ?_, W5.hF.upd nLf nLC, ?_, ?_, ?_, fun x h => (W5.hF.upd nLf nLC).ne h, nDf, nLf, nLD⟩, by rw [List.length_append, la]; rfl⟩
          · rw [upd_ne (ne_of_none e nLH)]; exact W5.hb b u e n
          · rw [upd_ne nLD.symm]; exact W5.hD
          · rw [upd_same, List.map_append]; rfl
          · intro b hb
            have nbL : ∀ b xs, (upd (upd H' p5 (.lst (ys.map V.int))) p6 (.tup (ys.map V.int))) b = some (.tup xs) → b ≠ L := fun b xs e z => by
              rw [z, W5.hL] at e; cases e
            rcases List.mem_append.mp hb with z | z
            · obtain ⟨row, e1, e2⟩ := W5.rows b z
              exact ⟨row, by rw [upd_ne (nbL _ _ e1)]; exact e1, e2⟩
            · rw [List.mem_singleton.mp z]
              refine ⟨ys, ?_, fun v hv => W4.d.sub v (perm5.mem_iff.mp hv)⟩
              rw [upd_ne (nbL p6 _ upd_same), upd_same]
        · refine ⟨_, rfl, rfl, _, rfl, ite2 (fun _ => ?_) (fun _ => iteF (hnx _ _ ⟨r3, s3, rfl, W3⟩))⟩
          refine ⟨_, rfl, f, C, 8, rfl, W3.R.hF, by decide, by decide, fun Ha ra ba Fa ra0 ra1 => ?_⟩
          have RIa := W3.R.but ba Fa
          refine ⟨rfl, _, rfl, ite2 (fun _ => ?_) (fun _ => ?_)⟩
          · refine ⟨_, rfl, D, rfl, ⟨_, SqL.of RIa.hD⟩, fun Ea nEa => ?_⟩
            refine lc_it (walk_list (xs := pl.map V.int)) (fun j Hb => PrsI H Hb f C D L Ea pl as j) (PrsI.start RIa nEa) (fun _ _ _ p => SqL.of p.R.hD) (fun j x Hb Hc hj p y => ?_) (fun Hb p => ?_)
            · obtain ⟨rfl, hx⟩ := y
              obtain ⟨v, hv, rfl⟩ := map_int_at hx
              rw [List.length_map] at hj
              refine ⟨rfl, _, rfl, len_le (by show 2 ≤ 1000; decide), fun pp npp => ?_⟩
              exact p.push (by omega) (List.mem_of_getElem? hv) npp
            · dsimp only
              exact p.dict fun r s1 Hr W => hnx _ _ ⟨r, s1, rfl, W⟩
          · refine hnx _ _ ⟨r3, s3, rfl, RIa, ⟨keep_f ba W3.d.at_ W3.nf, W3.d.nd, W3.d.sub⟩, W3.h0, W3.nf, W3.nC, W3.nD, W3.nL⟩
      · refine ⟨_, rfl, rfl, _, rfl, ite2 (fun _ => ?_) (fun _ => iteF (hnx _ _ ⟨r2, s2, rfl, W2⟩))⟩
        refine ⟨_, rfl, _, rfl, _, _, rfl, rfl, ⟨by decide, by decide⟩, _, _, rfl, rfl, _, _, rfl, rfl, _, rfl, ite2 (fun _ => ?_) (fun _ => hnx _ _ ⟨r2, s2, rfl, W2⟩)⟩
        refine ⟨_, rfl, f, C, 4, rfl, W2.R.hF, by decide, by decide, fun Ha ra ba Fa ra0 ra1 => ?_⟩
        have RIa := W2.R.but ba Fa
        refine ⟨_, _, rfl, rfl, _, rfl, by omega, by omega, fun Ea nEa => ?_⟩
        refine lc_it walk_range0 (fun j Hb => PrsI H Hb f C D L Ea pl as j) (PrsI.start RIa nEa) (fun _ _ _ _ => trivial) (fun j x Hb Hc hj p y => ?_) (fun Hb p => ?_)
        · obtain ⟨rfl, rfl⟩ := y
          have hj := hj
          refine ⟨rfl, _, rfl, _, rfl, _, rfl, _, _, rfl, rfl, ⟨by decide, by decide⟩, _, _, rfl, _, rfl, D, _, rfl, SqL.of p.R.hD, fun pc npc => ?_⟩
          have pn := p.new (o := .lst (cutV (pl.map V.int) none (some (if m.fdiv 2 > 1 then m.fdiv 2 else 1)))) npc
          obtain ⟨ms, em, lm, im⟩ := cut_ints pl none (some (if m.fdiv 2 > 1 then m.fdiv 2 else 1))
          refine ⟨f, C, pc, _, rfl, pn.R.hF, upd_same, (p.R.nf pc npc).1, cut_head (by split <;> omega) hpl0, ?_, fun Hd xd bd Fd hxd => ?_⟩
          · show (cutV (pl.map V.int) none (some (if m.fdiv 2 > 1 then m.fdiv 2 else 1))).length ≤ 1000
            rw [em, List.length_map]; omega
          · have hxd : xd ∈ cutV (pl.map V.int) none (some (if m.fdiv 2 > 1 then m.fdiv 2 else 1)) := hxd
            rw [em] at hxd
            obtain ⟨v, hv, rfl⟩ := List.mem_map.mp hxd
            refine ⟨len_le (by show 2 ≤ 1000; decide), fun pp npp => ?_⟩
            exact (pn.but bd Fd).push (by omega) (im v hv) npp
        · dsimp only
          exact p.dict fun r s1 Hr W => hnx _ _ ⟨r, s1, rfl, W⟩
    · refine ⟨_, rfl, rfl, _, rfl, ite2 (fun _ => ?_) (fun _ => hnx _ _ ⟨r, s1, rfl, W⟩)⟩
      have wp : 0 < wd := by omega
      have k0 := Int.fmod_nonneg_of_pos (i : Int) wp
      have k1 := Int.fmod_lt_of_pos (i : Int) wp
      obtain ⟨v, hv, ev⟩ := pick_int (ns := pl) (r := (i : Int).fmod wd) k0 (by rw [lp]; omega)
      refine ⟨_, rfl, _, rfl, _, rfl, .inl ⟨_, rfl, _, rfl, _, _, rfl, rfl, (by show wd ≠ 0; omega), D, _, _, .int v, rfl, rfl, SqL.of W.R.hD, ev, ?_⟩⟩
      have sl : s1.length ≤ 40 := Nat.le_trans (pigeonA s1 pl W.d.nd W.d.sub) hpl1
      refine ⟨r, _, rfl, DPut.k (k := Sum.inl v) W.d.at_ (small1000 (by rw [encS_len]; omega)), ?_⟩
      obtain ⟨s', W'⟩ := W.put hv
      exact hnx _ _ ⟨r, s', rfl, W'⟩
  · obtain ⟨as, x8, x9, rfl, RI, la⟩ := p
    refine ⟨_, rfl, _, rfl, f, C, L, _, rfl, RI.hF, RI.hL, nLf, by rw [List.length_map]; omega, fun Ha l ys ba Fa nl hl ly iy => ?_⟩
    refine ⟨l, ys, rfl, .inl ⟨SqL.of hl, fun R nR => ?_⟩⟩
    obtain ⟨bs, ebs, hbs⟩ := refs_of iy
    have RIa := (RI.but ba Fa).new (o := .tup ys) nR
    obtain ⟨rows, g1, g2, g3⟩ := rows_of (R := R) (by rw [upd_same, ebs]) hbs RIa.rows
    refine q _ R rows RIa.hb RIa.hF g1 ⟨⟨pl, g3, by omega⟩, ?_⟩
    rw [g2]
    have := congrArg List.length ebs
    rw [List.length_map, ly, List.length_map] at this
    omega
end
end K34W

set_option Elab.async false
set_option linter.all false
set_option maxRecDepth 100000
namespace K34W
open PySem PySem.Spec PyProof.Rows L2 OwnK K34
/-! ### equal data -/
def dO : Option Int → PyData
  | none => .none
  | some i => .int i
theorem dO_all {K : PySem.W.Frag} {H : Hp} : ∀ l : List (Option Int), DpAll K H (l.map oV) (l.map dO)
  | [] => .nil
  | none :: l => .cons .non (dO_all l)
  | some i :: l => .cons (.int i) (dO_all l)
theorem dO_lay : ∀ l : List (Option Int), PyData.canLayAll0 (l.map dO) = true
  | [] => rfl
  | none :: l => by simp [PyData.canLayAll0, PyData.canLay0, dO, dO_lay l]
  | some i :: l => by simp [PyData.canLayAll0, PyData.canLay0, dO, dO_lay l]
theorem dO_depth : ∀ l : List (Option Int), PyData.depthAll (l.map dO) = 0
  | [] => rfl
  | none :: l => by simp [PyData.depthAll, PyData.depth, dO, dO_depth l]
  | some i :: l => by simp [PyData.depthAll, PyData.depth, dO, dO_depth l]
theorem dI_all {K : PySem.W.Frag} {H : Hp} : ∀ l : List Int, DpAll K H (l.map V.int) (l.map PyData.int)
  | [] => .nil
  | i :: l => .cons (.int i) (dI_all l)
theorem dI_lay : ∀ l : List Int, PyData.canLayAll0 (l.map PyData.int) = true
  | [] => rfl
  | i :: l => by simp [PyData.canLayAll0, PyData.canLay0, dI_lay l]
theorem dI_depth : ∀ l : List Int, PyData.depthAll (l.map PyData.int) = 0
  | [] => rfl
  | i :: l => by simp [PyData.depthAll, PyData.depth, dI_depth l]
theorem lay_O (l : List (Option Int)) : PyData.canLay0 (.tuple (l.map dO)) = true := by simp only [PyData.canLay0]; exact dO_lay l
theorem lay_I (l : List Int) : PyData.canLay0 (.tuple (l.map PyData.int)) = true := by simp only [PyData.canLay0]; exact dI_lay l
theorem shaped_O (l : List (Option Int)) : SeqAt.shaped (.tuple (l.map dO)) = true := by simp [SeqAt.shaped, PyData.canLay0, PyData.depth, dO_lay, dO_depth]
theorem shaped_I (l : List Int) : SeqAt.shaped (.tuple (l.map PyData.int)) = true := by simp [SeqAt.shaped, PyData.canLay0, PyData.depth, dI_lay, dI_depth]
def dP (a b : List Int) : PyData := .tuple [.tuple (a.map PyData.int), .tuple (b.map PyData.int)]
theorem shaped_P (a b : List Int) : SeqAt.shaped (dP a b) = true := by simp [dP, SeqAt.shaped, PyData.canLay0, PyData.canLayAll0, PyData.depth, PyData.depthAll, dI_lay, dI_depth]
theorem eqv_same {d : PyData} (h : SeqAt.shaped d = true) : PyData.eqv d d = true := SeqAt.eqv_refl d (SeqAt.canLay_of_shaped h)
/-! ### the promise of the law's look -/
def spRight : Sp := fun vs H Q _ => ∃ (R t : Addr) (sv : V) (rows : List (List Int)), vs = [.ref R, .ref t, sv] ∧ RowsAt H R rows ∧ Good60 rows ∧ H t = some (.tup ((valsF rows).map oV)) ∧ ShortAt H sv rows ∧ ∀ H', Same H H' → Q (.bl true) H'
theorem grow_id : ∀ (r s : List Int), (s ++ r).Nodup → growV r s = s ++ r
  | [], s, _ => (List.append_nil s).symm
  | v :: r, s, h => by
    have hv : v ∉ s := by
      rw [List.nodup_append] at h
      intro m
      exact h.2.2 v m v (by simp) rfl
    rw [growV_out hv, grow_id r (s ++ [v]) (by rw [List.append_assoc]; exact h), List.append_assoc]
    rfl
theorem put_grow {c : V} {s : List Int} {v : Int} : putK (encS c s) (Sum.inl v : Key) c = encS c (growV [v] s) := by
  by_cases h : v ∈ s
  · rw [put_same h, growV_in h]; rfl
  · rw [putK_encS h, growV_out h]; rfl
theorem grow_app : ∀ (a b s : List Int), growV (a ++ b) s = growV b (growV a s)
  | [], _, _ => rfl
  | v :: a, b, s => by
    show growV (a ++ b) (if v ∈ s then s else s ++ [v]) = growV b (growV a (if v ∈ s then s else s ++ [v]))
    exact grow_app a b _
theorem inV_int (v : Int) : ∀ l : List Int, v ∈ l → inV (.int v) (l.map V.int) = true
  | [], h => by cases h
  | a :: l, h => by
    show (eqV (V.int a) (V.int v) || inV (.int v) (l.map V.int)) = true
    rcases List.mem_cons.mp h with z | z
    · subst z
      have : eqV (V.int v) (V.int v) = true := by show ((v : Int) == v) = true; exact beq_self_eq_true v
      rw [this]; rfl
    · rw [inV_int v l z, Bool.or_true]
theorem flat_int (l : List Int) : (l.map V.int).all flatV = true := by
  rw [List.all_map, List.all_eq_true]
  intro x _
  rfl
section
variable {P : Program} {w : World} {K : PySem.W.Frag} {mg : Str → Option Value} {base : Heap} {a : Ad} {d : Fd}
theorem ok_right (T' : Txt K mg a d) : FnOk P w K mg base CX0 66 a.a__law_right d.d__law_right P__law_right spRight := by
  have T := T'
  have G__law_are_whole := ok_are (P := P) (w := w) (base := base) T
  have G__law_rises := ok_rises (P := P) (w := w) (base := base) T
  have G__law_most := ok_most (P := P) (w := w) (base := base) T
  refine T.F__law_right.ok sc__law_right (fun vs H Q E h => ?_) (fun cdv A outer st H vs Q E hr h => ?_)
  · obtain ⟨R, t, sv, rows, rfl, _⟩ := h
    rfl
  obtain ⟨R, t, sv, rows, rfl, hR, hG, ht, hS, q⟩ := h
  refine ⟨_, (pss_cons (ps_if (PW.pt (pw_or (pt_not (pt_val (pe_callB (call_isiK (K := K)) (by rfl) T.z_isinstance (by decide +kernel) (pa_cons (pv 1) (pa_cons (pe_bltn (v := .ty "tuple") (by rfl) T.z_tuple (by decide +kernel) rfl) pa_nil))))) (pw_or1 (pt_cmpR op_ne (pe_callB (call_len_seqK (K := K)) (by rfl) T.z_len (by decide +kernel) (pa_cons (pv 1) pa_nil)) (pe_callB (call_len_seqK (K := K)) (by rfl) T.z_len (by decide +kernel) (pa_cons (pv 0) pa_nil)) (nomark _))))) (pss_one (ps_ret pe_bl)) pss_nil)
      (pss_cons (ps_setLc (i := 3) (own := [("one", 10)]) (g := gName 10) rfl sc__law_right.nd rfl rfl (sw_true rfl rfl rfl (by decide +kernel)) (pi_tupK (K := K) (pv 1)) (blkOk_by (own := [("one", 10)]) (N := N__law_right) (sc := defScope s__law_right) (by decide +kernel)) (fun _ _ _ _ _ => (pg_name (i := 10) sc__law_right.nd rfl (Or.inl rfl))) (fun _ _ _ _ _ => pts_one (pt_cmpR op_notN (pv 10) pe_non (nomark _))) (fun _ _ _ _ _ => (pv 10)))
      (pss_cons (ps_if (PW.pt (pw_or (pt_not (pt_val (pe_call G__law_are_whole (hr.mono (by decide)) (by rfl) T.m__law_are_whole T.k__law_are_whole T.b__law_are_whole .nil pass0 (pa_cons (pe_callTy (call_tuple_ofK (K := K)) (by rfl) T.z_tuple (by decide +kernel) (pa_cons (pv 3) pa_nil)) pa_nil)))) (pw_or1 (pt_cmpR op_ne (pe_callB call_lenD (by rfl) T.z_len (by decide +kernel) (pa_cons (pe_callTy (call_dictPK (K := K) rfl) (by rfl) T.z_dict (by decide +kernel) (pa_cons (pe_lc (own := [("one", 10)]) (g := gName 10) rfl sc__law_right.nd (pi_listK (K := K) (pv 3)) (blkOk_by (own := [("one", 10)]) (N := N__law_right) (sc := defScope s__law_right) (by decide +kernel)) (fun _ _ _ _ _ => (pg_name (i := 10) sc__law_right.nd rfl (Or.inl rfl))) (fun _ _ _ _ _ => pts_nil) (fun _ _ _ _ _ => (pe_tup (pa_cons (pv 10) (pa_cons pe_int pa_nil))))) pa_nil)) pa_nil)) (pe_callB (call_len_seqK (K := K)) (by rfl) T.z_len (by decide +kernel) (pa_cons (pv 3) pa_nil)) (nomark _))))) (pss_one (ps_ret pe_bl)) pss_nil)
      (pss_cons (ps_if (pt_cmpR op_gt (pe_callB (call_len_seqK (K := K)) (by rfl) T.z_len (by decide +kernel) (pa_cons (pe_lc (own := [("k", 8)]) (g := gName 8) rfl sc__law_right.nd (pi_range1 (by rfl) T.z_range (pa_cons (pe_callB (call_len_seqK (K := K)) (by rfl) T.z_len (by decide +kernel) (pa_cons (pv 0) pa_nil)) pa_nil)) (blkOk_by (own := [("k", 8)]) (N := N__law_right) (sc := defScope s__law_right) (by decide +kernel)) (fun _ _ _ _ _ => (pg_name (i := 8) sc__law_right.nd rfl (Or.inl rfl))) (fun _ _ _ _ _ => pts_one (PW.pt (pw_and (pt_cmpR op_notN (pe_ix (ix_tupK (K := K)) (pv 1) (pv 8) (fun _ _ => rfl)) pe_non (nomark _)) (pw_and1 (pt_cmpR (op_notIn_seqK (K := K)) (pe_ix (ix_tupK (K := K)) (pv 1) (pv 8) (fun _ _ => rfl)) (pe_ix (ix_tupK (K := K)) (pv 0) (pv 8) (fun _ _ => rfl)) (by rfl)))))) (fun _ _ _ _ _ => (pv 8))) pa_nil)) pe_int (nomark _)) (pss_one (ps_ret pe_bl)) pss_nil)
      (pss_cons (ps_set (i := 4) sc__law_right.nd rfl (Or.inl rfl) (pe_call G__law_most (hr.mono (by decide)) (by rfl) T.m__law_most T.k__law_most T.b__law_most .nil pass0 (pa_cons (pv 0) pa_nil)))
      (pss_cons (ps_if (PW.pt (pw_or (pt_cmpR op_ne (pe_callB (call_len_seqK (K := K)) (by rfl) T.z_len (by decide +kernel) (pa_cons (pv 3) pa_nil)) (pv 4) (nomark _)) (pw_or1 (pt_cmpR op_eq (pv 4) (pe_callB (call_len_seqK (K := K)) (by rfl) T.z_len (by decide +kernel) (pa_cons (pv 0) pa_nil)) (nomark _))))) (pss_one (ps_ret (pe_and (pe_cmpR op_eq (pe_callB (call_len_seqK (K := K)) (by rfl) T.z_len (by decide +kernel) (pa_cons (pv 3) pa_nil)) (pv 4) (nomark _)) (pe_one (pe_cmpR op_isN (pv 2) pe_non (nomark _)))))) pss_nil)
      (pss_cons (ps_if (PW.pt (pw_or (pt_not (pt_val (pe_callB (call_isiK (K := K)) (by rfl) T.z_isinstance (by decide +kernel) (pa_cons (pv 2) (pa_cons (pe_bltn (v := .ty "tuple") (by rfl) T.z_tuple (by decide +kernel) rfl) pa_nil))))) (pw_or (pt_cmpR op_ne (pe_callB (call_len_seqK (K := K)) (by rfl) T.z_len (by decide +kernel) (pa_cons (pv 2) pa_nil)) pe_int (nomark _)) (pw_or (pt_not (pt_val (pe_call G__law_are_whole (hr.mono (by decide)) (by rfl) T.m__law_are_whole T.k__law_are_whole T.b__law_are_whole .nil pass0 (pa_cons (pe_ix (ix_tupK (K := K)) (pv 2) pe_int (fun _ _ => rfl)) pa_nil)))) (pw_or1 (pt_not (pt_val (pe_call G__law_are_whole (hr.mono (by decide)) (by rfl) T.m__law_are_whole T.k__law_are_whole T.b__law_are_whole .nil pass0 (pa_cons (pe_ix (ix_tupK (K := K)) (pv 2) pe_int (fun _ _ => rfl)) pa_nil))))))))) (pss_one (ps_ret pe_bl)) pss_nil)
      (pss_cons (ps_asg (pv 2) (pg_tupK (K := K) (n := 2) rfl (pgs_cons (pg_name (i := 5) sc__law_right.nd rfl (Or.inl rfl)) (pgs_cons (pg_name (i := 6) sc__law_right.nd rfl (Or.inl rfl)) pgs_nil))))
      (pss_cons (ps_if (PW.pt (pw_or (pt_not (pt_val (pe_call G__law_rises (hr.mono (by decide)) (by rfl) T.m__law_rises T.k__law_rises T.b__law_rises .nil pass0 (pa_cons (pv 5) pa_nil)))) (pw_or (pt_not (pt_val (pe_call G__law_rises (hr.mono (by decide)) (by rfl) T.m__law_rises T.k__law_rises T.b__law_rises .nil pass0 (pa_cons (pv 6) pa_nil)))) (pw_or (pt_cmpR op_eq (pe_callB (call_len_seqK (K := K)) (by rfl) T.z_len (by decide +kernel) (pa_cons (pv 5) pa_nil)) pe_int (nomark _)) (pw_or (pt_cmpR op_lt (pe_ix (ix_tupK (K := K)) (pv 5) pe_int (fun _ _ => rfl)) pe_int (nomark _)) (pw_or1 (pt_cmpR op_ge (pe_ix (ix_tupK (K := K)) (pv 5) (pe_un un_neg pe_int) (fun _ _ => rfl)) (pe_callB (call_len_seqK (K := K)) (by rfl) T.z_len (by decide +kernel) (pa_cons (pv 0) pa_nil)) (nomark _)))))))) (pss_one (ps_ret pe_bl)) pss_nil)
      (pss_cons (ps_set (i := 7) sc__law_right.nd rfl (Or.inl rfl) pe_dnewK)
      (pss_cons (ps_for PassesOwn.never rfl (pi_tupK (K := K) (pv 5)) (pg_name (i := 8) sc__law_right.nd rfl (Or.inl rfl))
      (pss_one (ps_for PassesOwn.never rfl (pi_tupK (K := K) (pe_ix (ix_tupK (K := K)) (pv 0) (pv 8) (fun _ _ => rfl))) (pg_name (i := 9) sc__law_right.nd rfl (Or.inl rfl))
      (pss_one (ps_dput (hu_of hr) (pv 7) (pv 9) pe_int rfl)))))
      (pss_one (ps_ret (pe_and (pe_cmpR (op_eqDK (K := K) hr.units) (pv 6) (pe_callTy (call_tuple_ofK (K := K)) (by rfl) T.z_tuple (by decide +kernel) (pa_cons (pe_callB (call_sortedDI rfl) (by rfl) T.z_sorted (by decide +kernel) (pa_cons (pv 7) pa_nil)) pa_nil)) (nomark _)) (pe_one (pe_cmpR op_lt (pe_callB (call_len_seqK (K := K)) (by rfl) T.z_len (by decide +kernel) (pa_cons (pv 6) pa_nil)) (pe_callB (call_len_seqK (K := K)) (by rfl) T.z_len (by decide +kernel) (pa_cons (pv 5) pa_nil)) (nomark _))))))))))))))))), ?_⟩
  obtain ⟨U, hU, hU60⟩ := hG.to
  obtain ⟨xs, ex, el⟩ := hR.tup
  have hrl := hG.len
  have I := invF hU
  have vl := vals_len rows
  have ul : (usedF rows).length ≤ 60 := by
    have := wfT_len hU.sub I.wt
    have e1 := (used_perm hU).length_eq
    rw [List.length_map] at e1
    have e : (runs rows rows.length).length = (tkF rows).length := rfl
    omega
  -- isinstance(told, tuple), len(told) == len(rows)
  refine ⟨_, rfl, _, _, _, _, true, rfl, .ty "tuple", .base (.tup ht), kit_ty (by decide +kernel), true, rfl, iteF ?_⟩
  refine ⟨_, rfl, t, _, rfl, .inr (SqT.of ht), _, rfl, R, xs, rfl, .inr (SqT.of ex), rfl, _, rfl, iteNS (by rw [List.length_map, vl, el]) ?_⟩
  -- used
  refine ⟨_, rfl, t, rfl, ⟨_, SqT.of ht⟩, fun D nD => ?_⟩
  refine lc_it (walk_tup (xs := (valsF rows).map oV)) (fun i H2 => Same H H2 ∧ H2 D = some (.lst ((((valsF rows).take i).filterMap id).map V.int))) ⟨(Same.refl H).updN nD, upd_same⟩ (fun i H2 _ p => SqT.of (p.1 _ _ ht)) (fun i x H2 H3 hi p y => ?_) (fun H2 p => ?_)
  · obtain ⟨s2, hD⟩ := p
    obtain ⟨rfl, hx⟩ := y
    obtain ⟨o, ho, rfl⟩ := map_at hx
    have et : (valsF rows).take (i + 1) = (valsF rows).take i ++ [o] := by rw [List.take_add_one, ho]; rfl
    rw [List.length_map, vl] at hi
    refine ⟨rfl, _, rfl, rfl, _, rfl, ?_⟩
    cases o with
    | none =>
      refine iteF ⟨s2, ?_⟩
      rw [et, List.filterMap_append]
      show _ = some (HO.lst (((List.filterMap id ((valsF rows).take i)) ++ []).map V.int))
      rw [List.append_nil]; exact hD
    | some v =>
      have fl : (((valsF rows).take i).filterMap id).length ≤ 1000 := by
        refine Nat.le_trans (List.length_filterMap_le _ _) ?_
        rw [List.length_take]; omega
      refine iteT ⟨_, rfl, _, hD, small1000 (by rw [List.length_map]; exact fl), s2.updF nD, ?_⟩
      rw [upd_same, et, List.filterMap_append, List.map_append]; rfl
  obtain ⟨s2, hD⟩ := p
  have e9 : (valsF rows).take ((valsF rows).map oV).length = valsF rows := List.take_of_length_le (by rw [List.length_map]; exact Nat.le_refl _)
  rw [e9] at hD
  have hD : H2 D = some (.lst ((usedF rows).map V.int)) := hD
  -- _law_are_whole(tuple(used))
  refine ⟨_, rfl, D, _, rfl, .inl ⟨SqL.of hD, fun p1 np1 => ?_⟩⟩
  refine ⟨p1, usedF rows, rfl, upd_same, by omega, fun H3 s3 => ⟨_, rfl, iteF ?_⟩⟩
  have sA : Same H2 H3 := ((Same.refl H2).updN np1).trans s3
  have hD3 := sA _ _ hD
  -- len(dict(..))
  refine ⟨_, rfl, D, rfl, ⟨_, SqL.of hD3⟩, fun E nE => ?_⟩
  refine lc_it (walk_list (xs := (usedF rows).map V.int)) (fun i H4 => Same H3 H4 ∧ ∃ ps, H4 E = some (.lst (ps.map V.ref)) ∧ Prs H4 ps ((usedF rows).take i) ∧ ps.length = i) ⟨(Same.refl H3).updN nE, [], upd_same, .nil, rfl⟩ (fun i H4 _ p => SqL.of (p.1 _ _ hD3)) (fun i x H4 H5 hi p y => ?_) (fun H4 p => ?_)
  · obtain ⟨s4, ps, h1, h2, h3⟩ := p
    obtain ⟨rfl, hx⟩ := y
    obtain ⟨v, hv, rfl⟩ := map_int_at hx
    rw [List.length_map] at hi
    refine ⟨rfl, _, rfl, len_le (by show 2 ≤ 1000; decide), fun pp npp => ?_⟩
    have nEp : E ≠ pp := ne_of_none h1 npp
    refine ⟨_, by rw [upd_ne nEp]; exact h1, small1000 (by rw [List.length_map]; omega), (s4.updN npp).updF nE, ps ++ [pp], ?_, ?_, by rw [List.length_append, h3]; rfl⟩
    · rw [upd_same, List.map_append]; rfl
    · have et : (usedF rows).take (i + 1) = (usedF rows).take i ++ [v] := by rw [List.take_add_one, hv]; rfl
      rw [et]
      refine snoc_P (h2.keep fun x xs q => ?_) ?_
      · have : x ≠ E := fun z => by rw [z, h1] at q; cases q
        rw [upd_ne this, upd_ne (ne_of_none q npp)]; exact q
      · rw [upd_ne nEp.symm, upd_same]
  obtain ⟨s4, ps, h1, h2, h3⟩ := p
  have e9 : (usedF rows).take ((usedF rows).map V.int).length = usedF rows := List.take_of_length_le (by rw [List.length_map]; exact Nat.le_refl _)
  rw [e9] at h2
  refine ⟨E, ps, _, rfl, SqL.of h1, h2.to, fun r nr => ?_⟩
  have em : mergeK [] (encS (.int 1) (usedF rows)) = encS (.int 1) (usedF rows) := by
    have e := merge_encS (.int 1) (usedF rows) []
    rw [grow_id (usedF rows) [] (by rw [List.nil_append]; exact used_nodup hU)] at e
    exact e
  rw [em]
  have sB : Same H2 (upd H4 r (.dK (encS (.int 1) (usedF rows)))) := sA.trans (s4.updN nr)
  refine ⟨r, _, rfl, upd_same, _, rfl, D, _, rfl, .inl (SqL.of (sB _ _ hD)), rfl, _, rfl, iteNS (by rw [encS_len, List.length_map]) ?_⟩
  have hD4 := sB _ _ hD
  have sC : Same H (upd H4 r (.dK (encS (.int 1) (usedF rows)))) := s2.trans sB
  generalize upd H4 r (.dK (encS (.int 1) (usedF rows))) = H6 at hD4 sC ⊢
  have ht6 := sC _ _ ht
  have hR6 := hR.same sC
  have ex6 := sC _ _ ex
  -- each is of its row
  refine ⟨_, rfl, R, xs, rfl, .inr (SqT.of ex6), (rows.length : Nat), by rw [el], by omega, by omega, fun W nW => ?_⟩
  refine lc_it walk_range0 (fun i H7 => Same H6 H7 ∧ H7 W = some (.lst [])) ⟨(Same.refl H6).updN nW, upd_same⟩ (fun _ _ _ _ => trivial) (fun i x H7 H8 hi p y => ?_) (fun H7 p => ?_)
  · obtain ⟨s7, hW⟩ := p
    obtain ⟨rfl, rfl⟩ := y
    have hi : i < rows.length := hi
    have hiv : i < (valsF rows).length := by omega
    obtain ⟨ys, ra, e1, e2, e3, e4⟩ := (hR6.same s7).row hi
    have vt : ((valsF rows).map oV)[i]? = some (oV (valsF rows)[i]) := by rw [List.getElem?_map, List.getElem?_eq_getElem hiv]; rfl
    refine ⟨rfl, _, rfl, _, rfl, t, _, _, _, rfl, rfl, SqT.of (s7 _ _ ht6), atN vt, rfl, _, rfl, ?_⟩
    cases eo : (valsF rows)[i] with
    | none => exact iteF (iteF ⟨s7, hW⟩)
    | some v =>
      have vin : v ∈ rowAt rows i := vals_in hU (by rw [List.getElem?_eq_getElem hiv, eo])
      rw [eo] at vt
      refine iteT ⟨_, rfl, _, rfl, t, _, _, _, rfl, rfl, SqT.of (s7 _ _ ht6), atN vt, _, rfl, _, rfl, R, ys, _, _, rfl, rfl, SqT.of e1, atN e3, ra, _, rfl, .inr (SqT.of e4), rfl, flat_int _, _, rfl, ?_⟩
      have : inV (oV (some v)) ((rowAt rows i).map V.int) = true := inV_int v _ vin
      rw [this]
      exact iteF ⟨s7, hW⟩
  obtain ⟨s7, hW⟩ := p
  refine ⟨W, _, rfl, .inl (SqL.of hW), _, _, rfl, rfl, _, rfl, iteF ?_⟩
  have sD : Same H H7 := sC.trans s7
  have hD7 := s7 _ _ hD4
  -- most
  refine ⟨_, rfl, R, rows, rfl, hR.same sD, hG, fun H8 s8 => ?_⟩
  have sE : Same H H8 := sD.trans s8
  have hD8 := s8 _ _ hD7
  have eul : ((usedF rows).length : Int) = ((gots rows rows.length).length : Nat) := by rw [used_len hU]
  refine ⟨_, rfl, D, _, rfl, .inl (SqL.of hD8), _, rfl, rfl, _, rfl, iteNS (by rw [List.length_map, eul]) ?_⟩
  refine ⟨_, rfl, _, rfl, R, xs, rfl, .inr (SqT.of (sE _ _ ex)), rfl, _, rfl, ?_⟩
  have fn := free_nil hU
  rcases hS.same sE with ⟨f1, rfl⟩ | ⟨s0, rr, p, f1, rfl, lat⟩
  · have em := fn.mp f1
    rw [decide_eq_true (show V.int ((gots rows rows.length).length : Nat) = V.int (xs.length : Nat) by rw [em, el])]
    refine iteT ⟨_, rfl, D, _, rfl, .inl (SqL.of hD8), _, rfl, rfl, true, ?_, iteT ?_⟩
    · rw [decide_eq_true (by rw [List.length_map, eul])]
    · refine ⟨_, rfl, rfl, ?_⟩
      exact q H8 sE
  · have em : ¬ (gots rows rows.length).length = rows.length := fun z => by
      rw [fn.mpr z] at f1; cases f1
    rw [decide_eq_false (show ¬ V.int ((gots rows rows.length).length : Nat) = V.int (xs.length : Nat) from fun z => em (by
      have := V.int.inj z
      omega))]
    refine iteF ?_
    obtain ⟨pa, pb, L1, L2, g1, g2, g3, perm1, up1, perm2, up2⟩ := lat.ex
    have hs : s0 ∈ freeF rows := by rw [f1]; simp
    obtain ⟨hs1, hs2⟩ := List.mem_filter.mp hs
    have hs1 := List.mem_range.mp hs1
    have hs2 := of_decide_eq_true hs2
    obtain ⟨S, sU, sC', sR, sEn⟩ := lotV_end hU hs1 hs2
    have inTk : ∀ v ∈ lotV rows s0, look (tkF rows) v ≠ none := fun v hv => by
      obtain ⟨r, e, _⟩ := sC' v (sEn.sub v hv)
      rw [e]; simp
    have lvl : (lotV rows s0).length ≤ 60 := by
      have := pigeonA (lotV rows s0) U sEn.nd (fun v hv => sU v (sEn.sub v hv))
      omega
    have l2 : L2.length = (lotV rows s0).length := perm2.length_eq
    have l1 : L1.length = (lotV rows s0).length + 1 := by rw [perm1.length_eq, List.length_map, lot_len]
    have nd2 : L2.Nodup := perm2.nodup_iff.mpr sEn.nd
    have nd1 : L1.Nodup := perm1.nodup_iff.mpr (by
      have h1 := lot_nodup hU hs2 sEn.nd inTk
      have : ∀ l : List Nat, l.Nodup → (l.map fun k : Nat => (k : Int)).Nodup := by
        intro l
        induction l with
        | nil => intro _; exact List.nodup_nil
        | cons b l ih =>
          intro hl
          have hl' := List.nodup_cons.mp hl
          rw [List.map_cons, List.nodup_cons]
          refine ⟨fun m => ?_, ih hl'.2⟩
          obtain ⟨c, hc, e⟩ := List.mem_map.mp m
          have e : c = b := by omega
          exact hl'.1 (e ▸ hc)
      exact this _ h1)
    have lt1 : ∀ k ∈ L1, ∃ n : Nat, k = (n : Int) ∧ n < rows.length ∧ n ∈ lotOf s0 (tkF rows) (lotV rows s0) := fun k hk => by
      obtain ⟨n, hn, e⟩ := List.mem_map.mp (perm1.mem_iff.mp hk)
      exact ⟨n, e.symm, lot_lt hU hs1 inTk n hn, hn⟩
    -- isinstance(short, tuple), len(short) == 2, whole
    refine ⟨_, rfl, _, _, _, _, true, rfl, .ty "tuple", .base (.tup g1), kit_ty (by decide +kernel), true, rfl, iteF ?_⟩
    refine ⟨_, rfl, p, _, rfl, .inr (SqT.of g1), rfl, _, rfl, iteNS rfl ?_⟩
    refine ⟨_, rfl, p, _, _, .ref pa, rfl, rfl, SqT.of g1, atN (j := 0) rfl, pa, L1, rfl, g2, by omega, fun H9 s9 => ⟨_, rfl, iteF ?_⟩⟩
    refine ⟨_, rfl, p, _, _, .ref pb, rfl, rfl, SqT.of (s9 _ _ g1), atN (j := 1) rfl, pb, L2, rfl, s9 _ _ g3, by omega, fun H10 s10 => ⟨_, rfl, iteF ?_⟩⟩
    have sF : Same H8 H10 := s9.trans s10
    -- lot, values = short
    refine ⟨_, rfl, p, _, rfl, SqT.of (sF _ _ g1), rfl, _, _, rfl, _, _, rfl, rfl, ?_⟩
    -- rising, no row beyond
    refine ⟨_, rfl, pa, L1, rfl, sF _ _ g2, by omega, up1, nd1, fun H11 s11 => ⟨_, rfl, iteF ?_⟩⟩
    refine ⟨_, rfl, pb, L2, rfl, s11 _ _ (sF _ _ g3), by omega, up2, nd2, fun H12 s12 => ⟨_, rfl, iteF ?_⟩⟩
    have sG : Same H8 H12 := sF.trans (s11.trans s12)
    have sH : Same H H12 := sE.trans sG
    refine ⟨_, rfl, pa, _, rfl, .inr (SqT.of (sG _ _ g2)), rfl, _, rfl, ?_⟩
    rw [decide_eq_false (show ¬ V.int ((L1.map V.int).length : Nat) = V.int 0 from fun z => by
      have := V.int.inj z
      rw [List.length_map] at this; omega)]
    refine iteF ?_
    have i0 : 0 < L1.length := by omega
    have iz : L1.length - 1 < L1.length := by omega
    have a0 : atI (L1.map V.int) 0 = some (.int L1[0]) := atN (j := 0) (by rw [List.getElem?_map, List.getElem?_eq_getElem i0]; rfl)
    have az : atI (L1.map V.int) (-1) = some (.int L1[L1.length - 1]) := by
      have hne : L1 ≠ [] := List.length_pos_iff.mp i0
      have hz : L1.map V.int = L1.dropLast.map V.int ++ [.int (L1.getLast hne)] := by
        rw [← List.map_singleton, ← List.map_append, List.dropLast_concat_getLast]
      rw [hz, atI_last, List.getLast_eq_getElem]
    obtain ⟨n0, en0, _⟩ := lt1 L1[0] (List.getElem_mem i0)
    obtain ⟨nz, enz, ltz, _⟩ := lt1 L1[L1.length - 1] (List.getElem_mem iz)
    refine ⟨_, rfl, pa, _, _, _, rfl, rfl, SqT.of (sG _ _ g2), a0, _, _, rfl, rfl, _, rfl, ?_⟩
    rw [decide_eq_false (show ¬ L1[0] < 0 by omega)]
    refine iteF ?_
    refine ⟨_, rfl, 1, rfl, pa, _, _, _, rfl, rfl, SqT.of (sG _ _ g2), az, _, rfl, R, xs, rfl, .inr (SqT.of (sH _ _ ex)), _, _, rfl, rfl, _, rfl, ?_⟩
    rw [decide_eq_false (show ¬ ((xs.length : Nat) : Int) ≤ L1[L1.length - 1] by omega)]
    refine iteF ?_
    -- every
    intro Ev nV
    have sV : Same H12 (upd H12 Ev (.dK [])) := (Same.refl H12).updN nV
    refine ⟨_, rfl, pa, rfl, ⟨_, SqT.of (sV _ _ (sG _ _ g2))⟩, ?_⟩
    have subU : ∀ i, ∀ v ∈ growV ((L1.take i).flatMap fun k => rowAt rows k.toNat) [], v ∈ lotV rows s0 := fun i v hv => by
      rcases (growV_mem _ _ v).mp hv with z | z
      · cases z
      · obtain ⟨k, hk, hv⟩ := List.mem_flatMap.mp z
        obtain ⟨n, en, _, hn⟩ := lt1 k (List.mem_of_mem_take hk)
        exact (sEn.all v).mpr ⟨n, hn, by rw [en, Int.toNat_natCast] at hv; exact hv⟩
    refine for_it (walk_tup (xs := L1.map V.int)) (fun i σ H13 => ∃ x8 x9, σ = [some (.ref R), some (.ref t), some (.ref p), some (.ref D), some (.int ((gots rows rows.length).length : Nat)), some (.ref pa), some (.ref pb), some (.ref Ev), x8, x9, none] ∧ Same H12 H13 ∧ H13 Ev = some (.dK (encS (.int 1) (growV ((L1.take i).flatMap fun k => rowAt rows k.toNat) []))))
      ⟨none, none, rfl, sV, upd_same⟩ (fun i σ H13 _ p' => ?_) (fun i x σ H13 H14 hi p' y => ?_) (fun σ H13 p' => ?_)
    · obtain ⟨_, _, _, s13, _⟩ := p'
      exact SqT.of (s13 _ _ (sG _ _ g2))
    · obtain ⟨x8, x9, rfl, s13, hV⟩ := p'
      obtain ⟨rfl, hx⟩ := y
      obtain ⟨k, hk, rfl⟩ := map_int_at hx
      obtain ⟨n, en, ltn, hn⟩ := lt1 k (List.mem_of_getElem? hk)
      subst en
      obtain ⟨ys, ra, e1, e2, e3, e4⟩ := (hR.same (sH.trans s13)).row ltn
      refine ⟨_, rfl, _, rfl, R, ys, _, _, rfl, rfl, SqT.of e1, atN e3, ra, rfl, ⟨_, SqT.of e4⟩, ?_⟩
      have et : L1.take (i + 1) = L1.take i ++ [(n : Int)] := by rw [List.take_add_one, hk]; rfl
      have eg : ∀ m, growV ((L1.take i).flatMap (fun k => rowAt rows k.toNat) ++ (rowAt rows n).take m) [] = growV ((rowAt rows n).take m) (growV ((L1.take i).flatMap fun k => rowAt rows k.toNat) []) := fun m => grow_app _ _ _
      have s13V : Same H14 H14 := Same.refl _
      refine for_it (walk_tup (xs := (rowAt rows n).map V.int)) (fun j σ H15 => ∃ x9, σ = [some (.ref R), some (.ref t), some (.ref p), some (.ref D), some (.int ((gots rows rows.length).length : Nat)), some (.ref pa), some (.ref pb), some (.ref Ev), some (.int (n : Nat)), x9, none] ∧ Same H12 H15 ∧ H15 Ev = some (.dK (encS (.int 1) (growV ((rowAt rows n).take j) (growV ((L1.take i).flatMap fun k => rowAt rows k.toNat) [])))) ∧ H15 ra = some (.tup ((rowAt rows n).map V.int)))
        ⟨_, rfl, s13, hV, e4⟩ (fun j σ H15 _ p' => ?_) (fun j x σ H15 H16 hj p' y => ?_) (fun σ H15 p' => ?_)
      · obtain ⟨_, _, _, _, h⟩ := p'
        exact SqT.of h
      · obtain ⟨x9, rfl, s15, hV15, hra⟩ := p'
        obtain ⟨rfl, hx⟩ := y
        obtain ⟨v, hv, rfl⟩ := map_int_at hx
        have gl : (growV ((rowAt rows n).take j) (growV ((L1.take i).flatMap fun k => rowAt rows k.toNat) [])).length ≤ 60 := by
          refine Nat.le_trans (pigeonA _ (lotV rows s0) (growV_nodup _ _ (growV_nodup _ _ List.nodup_nil)) fun u hu => ?_) lvl
          rcases (growV_mem _ _ u).mp hu with z | z
          · exact subU i u z
          · exact (sEn.all u).mpr ⟨n, hn, List.mem_of_mem_take z⟩
        refine ⟨_, rfl, _, rfl, Ev, _, rfl, DPut.k (k := Sum.inl v) hV15 (small1000 (by rw [encS_len]; omega)), ?_⟩
        have raV : ra ≠ Ev := fun z => by rw [z, hV15] at hra; cases hra
        refine ⟨_, rfl, s15.updF nV, ?_, by rw [upd_ne raV]; exact hra⟩
        have et2 : (rowAt rows n).take (j + 1) = (rowAt rows n).take j ++ [v] := by rw [List.take_add_one, hv]; rfl
        rw [upd_same, put_grow, et2, grow_app]
      · obtain ⟨x9, rfl, s15, hV15, hra⟩ := p'
        rw [List.length_map, List.take_length] at hV15
        refine ⟨_, _, rfl, s15, ?_⟩
        rw [hV15, et, List.flatMap_append, grow_app]
        simp only [List.flatMap_cons, List.flatMap_nil, List.append_nil, Int.toNat_natCast]
    · obtain ⟨x8, x9, rfl, s13, hV⟩ := p'
      rw [List.length_map, List.take_length] at hV
      have ev_mem : ∀ v, v ∈ growV (L1.flatMap fun k => rowAt rows k.toNat) [] ↔ v ∈ lotV rows s0 := fun v => by
        constructor
        · intro hv
          have := subU L1.length v
          rw [List.take_length] at this
          exact this hv
        · intro hv
          obtain ⟨n, hn, hv2⟩ := (sEn.all v).mp hv
          refine (growV_mem _ _ v).mpr (.inr (List.mem_flatMap.mpr ⟨(n : Int), perm1.mem_iff.mpr (List.mem_map.mpr ⟨n, hn, rfl⟩), ?_⟩))
          rw [Int.toNat_natCast]; exact hv2
      have ev_nd : (growV (L1.flatMap fun k => rowAt rows k.toNat) []).Nodup := growV_nodup _ _ List.nodup_nil
      have ev_perm := perm_of _ _ ev_nd sEn.nd ev_mem
      have ev_len := ev_perm.length_eq
      refine ⟨_, rfl, _, rfl, Ev, _, growV (L1.flatMap fun k => rowAt rows k.toNat) [], rfl, Rd.of hV, encS_keys _ _, by omega, fun ys p5 perm5 up5 np5 => ?_⟩
      refine ⟨p5, _, rfl, .inl ⟨SqL.of upd_same, fun p6 np6 => ?_⟩⟩
      have ey : ys = L2 := sorted_same (perm5.trans (ev_perm.trans perm2.symm)) up5 up2
      subst ey
      have s14 : Same H13 (upd (upd H13 p5 (.lst (ys.map V.int))) p6 (.tup (ys.map V.int))) := ((Same.refl H13).updN np5).updN np6
      have g3' := s14 _ _ (s13 _ _ (sG _ _ g3))
      refine ⟨.tuple (ys.map PyData.int), .tuple (ys.map PyData.int), .tup (SqT.of g3') (dI_all ys), .tup (SqT.of upd_same) (dI_all ys), shaped_I ys, shaped_I ys, true, by rw [eqv_same (shaped_I ys)], iteT ?_⟩
      refine ⟨_, rfl, pb, _, rfl, .inr (SqT.of g3'), _, rfl, pa, _, rfl, .inr (SqT.of (s14 _ _ (s13 _ _ (sG _ _ g2)))), _, _, rfl, rfl, ?_⟩
      have : decide (((ys.map V.int).length : Int) < ((L1.map V.int).length : Nat)) = true := by
        rw [List.length_map, List.length_map]
        exact decide_eq_true (by omega)
      have qq := q _ (sH.trans (s13.trans s14))
      dsimp only
      rw [this]
      exact qq
end
end K34W

set_option Elab.async false
set_option linter.all false
set_option maxRecDepth 100000
namespace K34W
open PySem PySem.Spec PyProof.Rows L2 OwnK K34
def spLaw (K : PySem.W.Frag) : Sp := fun vs H Q _ => ∃ (a : Addr) (ns : List Int), vs = [.ref a] ∧ SqL K H a (ns.map V.int) ∧ ns.length ≤ 63 ∧ ∀ H', Q (.bl true) H'
section
variable {P : Program} {w : World} {K : PySem.W.Frag} {mg : Str → Option Value} {base : Heap} {a : Ad} {d : Fd}
theorem ok_law (T' : Txt K mg a d) : FnOk P w K mg base CX0 67 a.a_law d.d_law P_law (spLaw K) := by
  have T := T'
  have G__law_flow := ok_flow (P := P) (w := w) (base := base) T
  have G__law_rows := ok_rows (P := P) (w := w) (base := base) T
  have G_greatest_pairing := ok_greatest (P := P) (w := w) (base := base) T
  have G_short_lot := ok_short (P := P) (w := w) (base := base) T
  have G__law_right := ok_right (P := P) (w := w) (base := base) T
  refine T.F_law.ok sc_law (fun vs H Q E h => ?_) (fun cdv A outer st H vs Q E hr h => ?_)
  · obtain ⟨S, ns, rfl, _⟩ := h
    rfl
  obtain ⟨S, ns, rfl, hS, hn, q⟩ := h
  refine ⟨_, (pss_cons (ps_set (i := 1) sc_law.nd rfl (Or.inl rfl) (pe_call G__law_flow (hr.mono (by decide)) (by rfl) T.m__law_flow T.k__law_flow T.b__law_flow .nil pass0 (pa_cons (pv 0) pa_nil)))
      (pss_cons (ps_set (i := 2) sc_law.nd rfl (Or.inl rfl) (pe_call G__law_rows (hr.mono (by decide)) (by rfl) T.m__law_rows T.k__law_rows T.b__law_rows .nil pass0 (pa_cons (pv 1) pa_nil)))
      (pss_cons (ps_set (i := 3) sc_law.nd rfl (Or.inl rfl) (pe_call G__law_rows (hr.mono (by decide)) (by rfl) T.m__law_rows T.k__law_rows T.b__law_rows .nil pass0 (pa_cons (pv 1) pa_nil)))
      (pss_cons (ps_set (i := 4) sc_law.nd rfl (Or.inl rfl) (pe_lst (pa_cons (pe_call G_greatest_pairing (hr.mono (by decide)) (by rfl) T.m_greatest_pairing T.k_greatest_pairing T.b_greatest_pairing .nil pass0 (pa_cons (pv 2) pa_nil)) (pa_cons (pe_callK0 G_greatest_pairing (hr.mono (by decide)) (by rfl) T.m_greatest_pairing T.k_greatest_pairing T.kb_greatest_pairing_rows pass0 (pk_cons (pv 3) pk_nil)) (pa_cons (pe_call G_short_lot (hr.mono (by decide)) (by rfl) T.m_short_lot T.k_short_lot T.b_short_lot .nil pass0 (pa_cons (pv 2) pa_nil)) (pa_cons (pe_callK0 G_short_lot (hr.mono (by decide)) (by rfl) T.m_short_lot T.k_short_lot T.kb_short_lot_rows pass0 (pk_cons (pv 3) pk_nil)) pa_nil))))))
      (pss_cons (ps_if (PW.pt (pw_or (pt_not (pt_val (pe_call G__law_right (hr.mono (by decide)) (by rfl) T.m__law_right T.k__law_right T.b__law_right .nil pass0 (pa_cons (pv 2) (pa_cons (pe_ix (ix_listK (K := K)) (pv 4) pe_int (fun _ _ => rfl)) (pa_cons (pe_ix (ix_listK (K := K)) (pv 4) pe_int (fun _ _ => rfl)) pa_nil)))))) (pw_or1 (pt_not (pt_val (pe_call G__law_right (hr.mono (by decide)) (by rfl) T.m__law_right T.k__law_right T.b__law_right .nil pass0 (pa_cons (pv 3) (pa_cons (pe_ix (ix_listK (K := K)) (pv 4) pe_int (fun _ _ => rfl)) (pa_cons (pe_ix (ix_listK (K := K)) (pv 4) pe_int (fun _ _ => rfl)) pa_nil))))))))) (pss_one (ps_ret pe_bl)) pss_nil)
      (pss_one (ps_ret (pe_and (pe_cmpR (op_eqDK (K := K) hr.units) (pe_call G_greatest_pairing (hr.mono (by decide)) (by rfl) T.m_greatest_pairing T.k_greatest_pairing T.b_greatest_pairing .nil pass0 (pa_cons (pv 2) pa_nil)) (pe_ix (ix_listK (K := K)) (pv 4) pe_int (fun _ _ => rfl)) (nomark _)) (pe_one (pe_cmpR (op_eqDK (K := K) hr.units) (pe_call G_short_lot (hr.mono (by decide)) (by rfl) T.m_short_lot T.k_short_lot T.b_short_lot .nil pass0 (pa_cons (pv 3) pa_nil)) (pe_ix (ix_listK (K := K)) (pv 4) pe_int (fun _ _ => rfl)) (nomark _))))))))))), ?_⟩
  refine ⟨_, rfl, S, ns, rfl, hS, hn, fun H1 f C s1 nf F1 => ?_⟩
  refine ⟨_, rfl, f, C, rfl, F1, fun H2 R1 rows1 b2 F2 RA1 G1 => ?_⟩
  refine ⟨_, rfl, f, C, rfl, F2, fun H3 R2 rows2 b3 F3 RA2 G2 => ?_⟩
  have RA1 : RowsAt H3 R1 rows1 := RA1.but b3 (fun x m => by rw [List.mem_singleton.mp m]; exact F2.noTup)
  -- told
  refine ⟨_, rfl, R1, rows1, rfl, RA1, G1, fun H4 p1 s4 np1 hp1 => ?_⟩
  refine ⟨_, rfl, R2, rows2, rfl, RA2.same s4, G2, fun H5 p2 s5 np2 hp2 => ?_⟩
  have s35 := s4.trans s5
  refine ⟨_, rfl, R1, rows1, rfl, RA1.same s35, G1, fun H6 v3 s6 hv3 => ?_⟩
  have s36 := s35.trans s6
  refine ⟨_, rfl, R2, rows2, rfl, RA2.same s36, G2, fun H7 v4 s7 hv4 => ?_⟩
  have s37 := s36.trans s7
  refine ⟨len_le (by show 4 ≤ 1000; decide), fun t nt => ?_⟩
  have s8 : Same H7 (upd H7 t (.lst [.ref p1, .ref p2, v3, v4])) := (Same.refl H7).updN nt
  have s38 := s37.trans s8
  have hp1 := s8 _ _ (s7 _ _ (s6 _ _ (s5 _ _ hp1)))
  have hp2 := s8 _ _ (s7 _ _ (s6 _ _ hp2))
  have hv3 := (hv3.same s7).same s8
  have hv4 := hv4.same s8
  have ht : (upd H7 t (.lst [.ref p1, .ref p2, v3, v4])) t = some (.lst [.ref p1, .ref p2, v3, v4]) := upd_same
  generalize upd H7 t (.lst [.ref p1, .ref p2, v3, v4]) = H8 at *
  have RA1 := RA1.same s38
  have RA2 := RA2.same s38
  refine ⟨_, rfl, _, rfl, t, _, _, .ref p1, rfl, rfl, SqL.of ht, atN (j := 0) rfl, _, rfl, t, _, _, v3, rfl, rfl, SqL.of ht, atN (j := 2) rfl, R1, p1, v3, rows1, rfl, RA1, G1, hp1, hv3, fun H9 s9 => ⟨_, rfl, iteF ?_⟩⟩
  refine ⟨_, rfl, _, rfl, t, _, _, .ref p2, rfl, rfl, SqL.of (s9 _ _ ht), atN (j := 1) rfl, _, rfl, t, _, _, v4, rfl, rfl, SqL.of (s9 _ _ ht), atN (j := 3) rfl, R2, p2, v4, rows2, rfl, RA2.same s9, G2, s9 _ _ hp2, hv4.same s9, fun H10 s10 => ⟨_, rfl, iteF ?_⟩⟩
  have sA := s9.trans s10
  refine ⟨_, rfl, R1, rows1, rfl, RA1.same sA, G1, fun H11 p5 s11 np5 hp5 => ?_⟩
  have sB := sA.trans s11
  refine ⟨_, rfl, t, _, _, .ref p1, rfl, rfl, SqL.of (sB _ _ ht), atN (j := 0) rfl, .tuple ((valsF rows1).map dO), .tuple ((valsF rows1).map dO), .tup (SqT.of hp5) (dO_all _), .tup (SqT.of (sB _ _ hp1)) (dO_all _), shaped_O _, shaped_O _, true, by rw [eqv_same (shaped_O _)], iteT ?_⟩
  refine ⟨_, rfl, R2, rows2, rfl, RA2.same sB, G2, fun H12 v6 s12 hv6 => ?_⟩
  have sC := sB.trans s12
  have h4 := hv4.same sC
  refine ⟨_, rfl, t, _, _, v4, rfl, rfl, SqL.of (sC _ _ ht), atN (j := 3) rfl, ?_⟩
  rcases hv6 with ⟨e1, rfl⟩ | ⟨s1', r1', q1, e1, rfl, l1⟩
  · rcases h4 with ⟨e2, rfl⟩ | ⟨s2', r2', q2, e2, rfl, l2⟩
    · exact ⟨.none, .none, .non, .non, rfl, rfl, q H12⟩
    · rw [e1] at e2; cases e2
  · rcases h4 with ⟨e2, rfl⟩ | ⟨s2', r2', q2, e2, rfl, l2⟩
    · rw [e1] at e2; cases e2
    · rw [e1] at e2
      have es : s1' = s2' := (List.cons.inj e2).1
      subst es
      obtain ⟨a1, b1, A1, B1, x1, x2, x3, pA1, uA1, pB1, uB1⟩ := l1.ex
      obtain ⟨a2, b2, A2, B2, y1, y2, y3, pA2, uA2, pB2, uB2⟩ := l2.ex
      have eA : A1 = A2 := sorted_same (pA1.trans pA2.symm) uA1 uA2
      have eB : B1 = B2 := sorted_same (pB1.trans pB2.symm) uB1 uB2
      subst eA; subst eB
      refine ⟨dP A1 B1, dP A1 B1, .tup (SqT.of x1) (.cons (.tup (SqT.of x2) (dI_all _)) (.cons (.tup (SqT.of x3) (dI_all _)) .nil)), .tup (SqT.of y1) (.cons (.tup (SqT.of y2) (dI_all _)) (.cons (.tup (SqT.of y3) (dI_all _)) .nil)), shaped_P _ _, shaped_P _ _, ?_⟩
      rw [eqv_same (shaped_P _ _)]
      exact q H12
end
theorem kb_to_greatest_pairing_rows {kV doc pm cdv ct : Value} {an : Option Addr} (s : Shared) (us ws : List Value) (hl : (gg_greatest_pairing_rows us ws).length = P_greatest_pairing.length) : BindsTo s (PySem.W.fnOf "greatest_pairing" "greatest_pairing" (defArgs s_greatest_pairing) (defBody s_greatest_pairing) (defScope s_greatest_pairing) .none kV doc pm an cdv ct) ⟨us, [("rows" : Str)].zip ws⟩ (P_greatest_pairing.zip (gg_greatest_pairing_rows us ws)) := by
  unfold gg_greatest_pairing_rows at hl ⊢
  split at hl
  · exact .of_eq rfl
  · exact absurd hl (by decide)
theorem kb_rel_greatest_pairing_rows {vs zs : List V} {us ws : List Value} (r : Vals vs us) (q : Vals zs ws) : Vals (gV_greatest_pairing_rows vs zs) (gg_greatest_pairing_rows us ws) := by
  unfold gg_greatest_pairing_rows gV_greatest_pairing_rows
  cases r with
  | nil =>
    cases q with
    | nil => exact .nil
    | cons b0 q =>
      cases q with
      | nil => exact (.cons b0 .nil)
      | cons _ _ => exact .nil
  | cons _ _ => exact .nil
theorem kb_to_short_lot_rows {kV doc pm cdv ct : Value} {an : Option Addr} (s : Shared) (us ws : List Value) (hl : (gg_short_lot_rows us ws).length = P_short_lot.length) : BindsTo s (PySem.W.fnOf "short_lot" "short_lot" (defArgs s_short_lot) (defBody s_short_lot) (defScope s_short_lot) .none kV doc pm an cdv ct) ⟨us, [("rows" : Str)].zip ws⟩ (P_short_lot.zip (gg_short_lot_rows us ws)) := by
  unfold gg_short_lot_rows at hl ⊢
  split at hl
  · exact .of_eq rfl
  · exact absurd hl (by decide)
theorem kb_rel_short_lot_rows {vs zs : List V} {us ws : List Value} (r : Vals vs us) (q : Vals zs ws) : Vals (gV_short_lot_rows vs zs) (gg_short_lot_rows us ws) := by
  unfold gg_short_lot_rows gV_short_lot_rows
  cases r with
  | nil =>
    cases q with
    | nil => exact .nil
    | cons b0 q =>
      cases q with
      | nil => exact (.cons b0 .nil)
      | cons _ _ => exact .nil
  | cons _ _ => exact .nil
theorem all_mk {l : PySem.W.OpenLaw} {w : World} {K : PySem.W.Frag} {h : Heap} {mg : Str → Option Value} {fa : Addr} {f0 f1 f2 f3 f4 f5 f6 f7 f8 f9 f10 f11 f12 f13 f14 f15 f16 : Addr} (X : K.In h) (G : h.Ns mainGlobals mg) (hfa : mg "law" = some (.ref fa))
    {od0 an0 od1 an1 od2 an2 od3 an3 od4 an4 od5 an5 od6 an6 od7 an7 od8 an8 od9 an9 od10 an10 od11 an11 od12 an12 od13 an13 od14 an14 od15 an15 od16 an16 : Option Addr} {sl0 sl1 sl2 sl3 sl4 sl5 sl6 sl7 sl8 sl9 sl10 sl11 sl12 sl13 sl14 sl15 sl16 : Array (Option Value)} {oc0 kV0 dc0 pm0 cd0 ct0 oc1 kV1 dc1 pm1 cd1 ct1 oc2 kV2 dc2 pm2 cd2 ct2 oc3 kV3 dc3 pm3 cd3 ct3 oc4 kV4 dc4 pm4 cd4 ct4 oc5 kV5 dc5 pm5 cd5 ct5 oc6 kV6 dc6 pm6 cd6 ct6 oc7 kV7 dc7 pm7 cd7 ct7 oc8 kV8 dc8 pm8 cd8 ct8 oc9 kV9 dc9 pm9 cd9 ct9 oc10 kV10 dc10 pm10 cd10 ct10 oc11 kV11 dc11 pm11 cd11 ct11 oc12 kV12 dc12 pm12 cd12 ct12 oc13 kV13 dc13 pm13 cd13 ct13 oc14 kV14 dc14 pm14 cd14 ct14 oc15 kV15 dc15 pm15 cd15 ct15 oc16 kV16 dc16 pm16 cd16 ct16 : Value}
    (a0 : PySem.W.nsIn K mainGlobals "enlarge" = some (some (.ref f0))) (l0 : K.lookup f0 = some ⟨oc0, od0, .func (PySem.W.fnOf "enlarge" "enlarge" (defArgs s_enlarge) (defBody s_enlarge) (defScope s_enlarge) .none kV0 dc0 pm0 an0 cd0 ct0), sl0⟩) (c0 : PySem.W.codeIn K cd0 "enlarge" = true) (k0 : PySem.W.keepIn K (.ref f0) = true)
    (a1 : PySem.W.nsIn K mainGlobals "paired" = some (some (.ref f1))) (l1 : K.lookup f1 = some ⟨oc1, od1, .func (PySem.W.fnOf "paired" "paired" (defArgs s_paired) (defBody s_paired) (defScope s_paired) .none kV1 dc1 pm1 an1 cd1 ct1), sl1⟩) (c1 : PySem.W.codeIn K cd1 "paired" = true) (k1 : PySem.W.keepIn K (.ref f1) = true)
    (a2 : PySem.W.nsIn K mainGlobals "greatest_pairing" = some (some (.ref f2))) (l2 : K.lookup f2 = some ⟨oc2, od2, .func (PySem.W.fnOf "greatest_pairing" "greatest_pairing" (defArgs s_greatest_pairing) (defBody s_greatest_pairing) (defScope s_greatest_pairing) .none kV2 dc2 pm2 an2 cd2 ct2), sl2⟩) (c2 : PySem.W.codeIn K cd2 "greatest_pairing" = true) (k2 : PySem.W.keepIn K (.ref f2) = true)
    (a3 : PySem.W.nsIn K mainGlobals "lot_from" = some (some (.ref f3))) (l3 : K.lookup f3 = some ⟨oc3, od3, .func (PySem.W.fnOf "lot_from" "lot_from" (defArgs s_lot_from) (defBody s_lot_from) (defScope s_lot_from) .none kV3 dc3 pm3 an3 cd3 ct3), sl3⟩) (c3 : PySem.W.codeIn K cd3 "lot_from" = true) (k3 : PySem.W.keepIn K (.ref f3) = true)
    (a4 : PySem.W.nsIn K mainGlobals "short_lot" = some (some (.ref f4))) (l4 : K.lookup f4 = some ⟨oc4, od4, .func (PySem.W.fnOf "short_lot" "short_lot" (defArgs s_short_lot) (defBody s_short_lot) (defScope s_short_lot) .none kV4 dc4 pm4 an4 cd4 ct4), sl4⟩) (c4 : PySem.W.codeIn K cd4 "short_lot" = true) (k4 : PySem.W.keepIn K (.ref f4) = true)
    (a5 : PySem.W.nsIn K mainGlobals "_law_flow" = some (some (.ref f5))) (l5 : K.lookup f5 = some ⟨oc5, od5, .func (PySem.W.fnOf "_law_flow" "_law_flow" (defArgs s__law_flow) (defBody s__law_flow) (defScope s__law_flow) .none kV5 dc5 pm5 an5 cd5 ct5), sl5⟩) (c5 : PySem.W.codeIn K cd5 "_law_flow" = true) (k5 : PySem.W.keepIn K (.ref f5) = true)
    (a6 : PySem.W.nsIn K mainGlobals "_law_draw" = some (some (.ref f6))) (l6 : K.lookup f6 = some ⟨oc6, od6, .func (PySem.W.fnOf "_law_draw" "_law_draw" (defArgs s__law_draw) (defBody s__law_draw) (defScope s__law_draw) .none kV6 dc6 pm6 an6 cd6 ct6), sl6⟩) (c6 : PySem.W.codeIn K cd6 "_law_draw" = true) (k6 : PySem.W.keepIn K (.ref f6) = true)
    (a7 : PySem.W.nsIn K mainGlobals "_law_pick" = some (some (.ref f7))) (l7 : K.lookup f7 = some ⟨oc7, od7, .func (PySem.W.fnOf "_law_pick" "_law_pick" (defArgs s__law_pick) (defBody s__law_pick) (defScope s__law_pick) .none kV7 dc7 pm7 an7 cd7 ct7), sl7⟩) (c7 : PySem.W.codeIn K cd7 "_law_pick" = true) (k7 : PySem.W.keepIn K (.ref f7) = true)
    (a8 : PySem.W.nsIn K mainGlobals "_law_shuffled" = some (some (.ref f8))) (l8 : K.lookup f8 = some ⟨oc8, od8, .func (PySem.W.fnOf "_law_shuffled" "_law_shuffled" (defArgs s__law_shuffled) (defBody s__law_shuffled) (defScope s__law_shuffled) .none kV8 dc8 pm8 an8 cd8 ct8), sl8⟩) (c8 : PySem.W.codeIn K cd8 "_law_shuffled" = true) (k8 : PySem.W.keepIn K (.ref f8) = true)
    (a9 : PySem.W.nsIn K mainGlobals "_law_whole" = some (some (.ref f9))) (l9 : K.lookup f9 = some ⟨oc9, od9, .func (PySem.W.fnOf "_law_whole" "_law_whole" (defArgs s__law_whole) (defBody s__law_whole) (defScope s__law_whole) .none kV9 dc9 pm9 an9 cd9 ct9), sl9⟩) (c9 : PySem.W.codeIn K cd9 "_law_whole" = true) (k9 : PySem.W.keepIn K (.ref f9) = true)
    (a10 : PySem.W.nsIn K mainGlobals "_law_rises" = some (some (.ref f10))) (l10 : K.lookup f10 = some ⟨oc10, od10, .func (PySem.W.fnOf "_law_rises" "_law_rises" (defArgs s__law_rises) (defBody s__law_rises) (defScope s__law_rises) .none kV10 dc10 pm10 an10 cd10 ct10), sl10⟩) (c10 : PySem.W.codeIn K cd10 "_law_rises" = true) (k10 : PySem.W.keepIn K (.ref f10) = true)
    (a11 : PySem.W.nsIn K mainGlobals "_law_are_whole" = some (some (.ref f11))) (l11 : K.lookup f11 = some ⟨oc11, od11, .func (PySem.W.fnOf "_law_are_whole" "_law_are_whole" (defArgs s__law_are_whole) (defBody s__law_are_whole) (defScope s__law_are_whole) .none kV11 dc11 pm11 an11 cd11 ct11), sl11⟩) (c11 : PySem.W.codeIn K cd11 "_law_are_whole" = true) (k11 : PySem.W.keepIn K (.ref f11) = true)
    (a12 : PySem.W.nsIn K mainGlobals "_law_seat" = some (some (.ref f12))) (l12 : K.lookup f12 = some ⟨oc12, od12, .func (PySem.W.fnOf "_law_seat" "_law_seat" (defArgs s__law_seat) (defBody s__law_seat) (defScope s__law_seat) .none kV12 dc12 pm12 an12 cd12 ct12), sl12⟩) (c12 : PySem.W.codeIn K cd12 "_law_seat" = true) (k12 : PySem.W.keepIn K (.ref f12) = true)
    (a13 : PySem.W.nsIn K mainGlobals "_law_most" = some (some (.ref f13))) (l13 : K.lookup f13 = some ⟨oc13, od13, .func (PySem.W.fnOf "_law_most" "_law_most" (defArgs s__law_most) (defBody s__law_most) (defScope s__law_most) .none kV13 dc13 pm13 an13 cd13 ct13), sl13⟩) (c13 : PySem.W.codeIn K cd13 "_law_most" = true) (k13 : PySem.W.keepIn K (.ref f13) = true)
    (a14 : PySem.W.nsIn K mainGlobals "_law_rows" = some (some (.ref f14))) (l14 : K.lookup f14 = some ⟨oc14, od14, .func (PySem.W.fnOf "_law_rows" "_law_rows" (defArgs s__law_rows) (defBody s__law_rows) (defScope s__law_rows) .none kV14 dc14 pm14 an14 cd14 ct14), sl14⟩) (c14 : PySem.W.codeIn K cd14 "_law_rows" = true) (k14 : PySem.W.keepIn K (.ref f14) = true)
    (a15 : PySem.W.nsIn K mainGlobals "_law_right" = some (some (.ref f15))) (l15 : K.lookup f15 = some ⟨oc15, od15, .func (PySem.W.fnOf "_law_right" "_law_right" (defArgs s__law_right) (defBody s__law_right) (defScope s__law_right) .none kV15 dc15 pm15 an15 cd15 ct15), sl15⟩) (c15 : PySem.W.codeIn K cd15 "_law_right" = true) (k15 : PySem.W.keepIn K (.ref f15) = true)
    (a16 : PySem.W.nsIn K mainGlobals "law" = some (some (.ref f16))) (l16 : K.lookup f16 = some ⟨oc16, od16, .func (PySem.W.fnOf "law" "law" (defArgs s_law) (defBody s_law) (defScope s_law) .none kV16 dc16 pm16 an16 cd16 ct16), sl16⟩) (c16 : PySem.W.codeIn K cd16 "law" = true) (k16 : PySem.W.keepIn K (.ref f16) = true)
    (z0 : PySem.W.nsIn K mainGlobals "abs" = some none)
    (z1 : PySem.W.nsIn K mainGlobals "bool" = some none)
    (z2 : PySem.W.nsIn K mainGlobals "dict" = some none)
    (z3 : PySem.W.nsIn K mainGlobals "int" = some none)
    (z4 : PySem.W.nsIn K mainGlobals "isinstance" = some none)
    (z5 : PySem.W.nsIn K mainGlobals "len" = some none)
    (z6 : PySem.W.nsIn K mainGlobals "list" = some none)
    (z7 : PySem.W.nsIn K mainGlobals "max" = some none)
    (z8 : PySem.W.nsIn K mainGlobals "range" = some none)
    (z9 : PySem.W.nsIn K mainGlobals "sorted" = some none)
    (z10 : PySem.W.nsIn K mainGlobals "tuple" = some none)
    : ∃ fd : FuncData, (∀ (s : Shared) (v : Value), BindsTo s fd ⟨[v], []⟩ [("script", v)]) ∧ ∀ base : Heap, K.In base → base.Ns mainGlobals mg → FnOk l.prog w K mg base CX0 67 fa fd ["script"] (spLaw K) := by
  have e := hfa.symm.trans (PySem.W.mg_of X G a16)
  cases e
  have F0 := fun_mk (st := s_enlarge) l0 c0 k0
  have F1 := fun_mk (st := s_paired) l1 c1 k1
  have F2 := fun_mk (st := s_greatest_pairing) l2 c2 k2
  have F3 := fun_mk (st := s_lot_from) l3 c3 k3
  have F4 := fun_mk (st := s_short_lot) l4 c4 k4
  have F5 := fun_mk (st := s__law_flow) l5 c5 k5
  have F6 := fun_mk (st := s__law_draw) l6 c6 k6
  have F7 := fun_mk (st := s__law_pick) l7 c7 k7
  have F8 := fun_mk (st := s__law_shuffled) l8 c8 k8
  have F9 := fun_mk (st := s__law_whole) l9 c9 k9
  have F10 := fun_mk (st := s__law_rises) l10 c10 k10
  have F11 := fun_mk (st := s__law_are_whole) l11 c11 k11
  have F12 := fun_mk (st := s__law_seat) l12 c12 k12
  have F13 := fun_mk (st := s__law_most) l13 c13 k13
  have F14 := fun_mk (st := s__law_rows) l14 c14 k14
  have F15 := fun_mk (st := s__law_right) l15 c15 k15
  have F16 := fun_mk (st := s_law) l16 c16 k16
  let A : Ad := ⟨f0, f1, f2, f3, f4, f5, f6, f7, f8, f9, f10, f11, f12, f13, f14, f15, fa⟩
  let D : Fd := ⟨PySem.W.fnOf "enlarge" "enlarge" (defArgs s_enlarge) (defBody s_enlarge) (defScope s_enlarge) .none kV0 dc0 pm0 an0 cd0 ct0, PySem.W.fnOf "paired" "paired" (defArgs s_paired) (defBody s_paired) (defScope s_paired) .none kV1 dc1 pm1 an1 cd1 ct1, PySem.W.fnOf "greatest_pairing" "greatest_pairing" (defArgs s_greatest_pairing) (defBody s_greatest_pairing) (defScope s_greatest_pairing) .none kV2 dc2 pm2 an2 cd2 ct2, PySem.W.fnOf "lot_from" "lot_from" (defArgs s_lot_from) (defBody s_lot_from) (defScope s_lot_from) .none kV3 dc3 pm3 an3 cd3 ct3, PySem.W.fnOf "short_lot" "short_lot" (defArgs s_short_lot) (defBody s_short_lot) (defScope s_short_lot) .none kV4 dc4 pm4 an4 cd4 ct4, PySem.W.fnOf "_law_flow" "_law_flow" (defArgs s__law_flow) (defBody s__law_flow) (defScope s__law_flow) .none kV5 dc5 pm5 an5 cd5 ct5, PySem.W.fnOf "_law_draw" "_law_draw" (defArgs s__law_draw) (defBody s__law_draw) (defScope s__law_draw) .none kV6 dc6 pm6 an6 cd6 ct6, PySem.W.fnOf "_law_pick" "_law_pick" (defArgs s__law_pick) (defBody s__law_pick) (defScope s__law_pick) .none kV7 dc7 pm7 an7 cd7 ct7, PySem.W.fnOf "_law_shuffled" "_law_shuffled" (defArgs s__law_shuffled) (defBody s__law_shuffled) (defScope s__law_shuffled) .none kV8 dc8 pm8 an8 cd8 ct8, PySem.W.fnOf "_law_whole" "_law_whole" (defArgs s__law_whole) (defBody s__law_whole) (defScope s__law_whole) .none kV9 dc9 pm9 an9 cd9 ct9, PySem.W.fnOf "_law_rises" "_law_rises" (defArgs s__law_rises) (defBody s__law_rises) (defScope s__law_rises) .none kV10 dc10 pm10 an10 cd10 ct10, PySem.W.fnOf "_law_are_whole" "_law_are_whole" (defArgs s__law_are_whole) (defBody s__law_are_whole) (defScope s__law_are_whole) .none kV11 dc11 pm11 an11 cd11 ct11, PySem.W.fnOf "_law_seat" "_law_seat" (defArgs s__law_seat) (defBody s__law_seat) (defScope s__law_seat) .none kV12 dc12 pm12 an12 cd12 ct12, PySem.W.fnOf "_law_most" "_law_most" (defArgs s__law_most) (defBody s__law_most) (defScope s__law_most) .none kV13 dc13 pm13 an13 cd13 ct13, PySem.W.fnOf "_law_rows" "_law_rows" (defArgs s__law_rows) (defBody s__law_rows) (defScope s__law_rows) .none kV14 dc14 pm14 an14 cd14 ct14, PySem.W.fnOf "_law_right" "_law_right" (defArgs s__law_right) (defBody s__law_right) (defScope s__law_right) .none kV15 dc15 pm15 an15 cd15 ct15, PySem.W.fnOf "law" "law" (defArgs s_law) (defBody s_law) (defScope s_law) .none kV16 dc16 pm16 an16 cd16 ct16⟩
  have T : Txt K mg A D := ⟨F0, k0, (F0.binds (ps := P_enlarge) fun _ _ _ _ _ _ us hl => match us, hl with | [_, _, _, _], _ => rfl), PySem.W.mg_of X G a0,
    F1, k1, (F1.binds (ps := P_paired) fun _ _ _ _ _ _ us hl => match us, hl with | [_], _ => rfl), PySem.W.mg_of X G a1,
    F2, k2, (F2.binds (ps := P_greatest_pairing) fun _ _ _ _ _ _ us hl => match us, hl with | [_], _ => rfl), PySem.W.mg_of X G a2,
    F3, k3, (F3.binds (ps := P_lot_from) fun _ _ _ _ _ _ us hl => match us, hl with | [_, _, _], _ => rfl), PySem.W.mg_of X G a3,
    F4, k4, (F4.binds (ps := P_short_lot) fun _ _ _ _ _ _ us hl => match us, hl with | [_], _ => rfl), PySem.W.mg_of X G a4,
    F5, k5, (F5.binds (ps := P__law_flow) fun _ _ _ _ _ _ us hl => match us, hl with | [_], _ => rfl), PySem.W.mg_of X G a5,
    F6, k6, (F6.binds (ps := P__law_draw) fun _ _ _ _ _ _ us hl => match us, hl with | [_, _], _ => rfl), PySem.W.mg_of X G a6,
    F7, k7, (F7.binds (ps := P__law_pick) fun _ _ _ _ _ _ us hl => match us, hl with | [_, _], _ => rfl), PySem.W.mg_of X G a7,
    F8, k8, (F8.binds (ps := P__law_shuffled) fun _ _ _ _ _ _ us hl => match us, hl with | [_, _], _ => rfl), PySem.W.mg_of X G a8,
    F9, k9, (F9.binds (ps := P__law_whole) fun _ _ _ _ _ _ us hl => match us, hl with | [_], _ => rfl), PySem.W.mg_of X G a9,
    F10, k10, (F10.binds (ps := P__law_rises) fun _ _ _ _ _ _ us hl => match us, hl with | [_], _ => rfl), PySem.W.mg_of X G a10,
    F11, k11, (F11.binds (ps := P__law_are_whole) fun _ _ _ _ _ _ us hl => match us, hl with | [_], _ => rfl), PySem.W.mg_of X G a11,
    F12, k12, (F12.binds (ps := P__law_seat) fun _ _ _ _ _ _ us hl => match us, hl with | [_, _, _, _], _ => rfl), PySem.W.mg_of X G a12,
    F13, k13, (F13.binds (ps := P__law_most) fun _ _ _ _ _ _ us hl => match us, hl with | [_], _ => rfl), PySem.W.mg_of X G a13,
    F14, k14, (F14.binds (ps := P__law_rows) fun _ _ _ _ _ _ us hl => match us, hl with | [_], _ => rfl), PySem.W.mg_of X G a14,
    F15, k15, (F15.binds (ps := P__law_right) fun _ _ _ _ _ _ us hl => match us, hl with | [_, _, _], _ => rfl), PySem.W.mg_of X G a15,
    F16, k16, (F16.binds (ps := P_law) fun _ _ _ _ _ _ us hl => match us, hl with | [_], _ => rfl), PySem.W.mg_of X G a16,
    ⟨fun s us ws _ hl => kb_to_greatest_pairing_rows s us ws hl, fun r q => kb_rel_greatest_pairing_rows r q⟩,
    ⟨fun s us ws _ hl => kb_to_short_lot_rows s us ws hl, fun r q => kb_rel_short_lot_rows r q⟩,
    PySem.W.mg_none_of X G z0,
    PySem.W.mg_none_of X G z1,
    PySem.W.mg_none_of X G z2,
    PySem.W.mg_none_of X G z3,
    PySem.W.mg_none_of X G z4,
    PySem.W.mg_none_of X G z5,
    PySem.W.mg_none_of X G z6,
    PySem.W.mg_none_of X G z7,
    PySem.W.mg_none_of X G z8,
    PySem.W.mg_none_of X G z9,
    PySem.W.mg_none_of X G z10⟩
  exact ⟨D.d_law, fun s v => .of_eq rfl, fun base _ _ => ok_law T⟩
end K34W
open PySem PySem.W PyProof.Rows
set_option maxRecDepth 100000 in
set_option maxHeartbeats 0 in
theorem PySem.Challenge.cw_aswritten_k34_pairings_and_short_lots_holds : PySem.Challenge.rw_aswritten_k34_pairings_and_short_lots.Holds := by
  w_on; o_law; k_head; (case hw => w_witness2)
  k_fill
  refine L2.walk_of (l := PySem.Challenge.rw_aswritten_k34_pairings_and_short_lots) (n := 63) (k := 67) (x := "script") (CX := fun _ => L2.CX0) (sp := fun w => K34W.spLaw _) rfl (by decide) rfl ⟨rfl, by decide, by decide⟩ (fun w h Y => PySem.W.kIn_of Y) ?F (fun _ _ a ns hl _ hS => ⟨a, ns, rfl, hS, hl, fun _ => rfl⟩) (fun _ _ _ _ _ h => h)
  case F =>
    intro w mg fa h KX G hmg
    refine' K34W.all_mk KX G hmg ?a0 ?l0 ?c0 ?k0 ?a1 ?l1 ?c1 ?k1 ?a2 ?l2 ?c2 ?k2 ?a3 ?l3 ?c3 ?k3 ?a4 ?l4 ?c4 ?k4 ?a5 ?l5 ?c5 ?k5 ?a6 ?l6 ?c6 ?k6 ?a7 ?l7 ?c7 ?k7 ?a8 ?l8 ?c8 ?k8 ?a9 ?l9 ?c9 ?k9 ?a10 ?l10 ?c10 ?k10 ?a11 ?l11 ?c11 ?k11 ?a12 ?l12 ?c12 ?k12 ?a13 ?l13 ?c13 ?k13 ?a14 ?l14 ?c14 ?k14 ?a15 ?l15 ?c15 ?k15 ?a16 ?l16 ?c16 ?k16 ?z0 ?z1 ?z2 ?z3 ?z4 ?z5 ?z6 ?z7 ?z8 ?z9 ?z10
    (case a0 => k_is); (case l0 => k_is); (case c0 => k_is); (case k0 => k_is)
    (case a1 => k_is); (case l1 => k_is); (case c1 => k_is); (case k1 => k_is)
    (case a2 => k_is); (case l2 => k_is); (case c2 => k_is); (case k2 => k_is)
    (case a3 => k_is); (case l3 => k_is); (case c3 => k_is); (case k3 => k_is)
    (case a4 => k_is); (case l4 => k_is); (case c4 => k_is); (case k4 => k_is)
    (case a5 => k_is); (case l5 => k_is); (case c5 => k_is); (case k5 => k_is)
    (case a6 => k_is); (case l6 => k_is); (case c6 => k_is); (case k6 => k_is)
    (case a7 => k_is); (case l7 => k_is); (case c7 => k_is); (case k7 => k_is)
    (case a8 => k_is); (case l8 => k_is); (case c8 => k_is); (case k8 => k_is)
    (case a9 => k_is); (case l9 => k_is); (case c9 => k_is); (case k9 => k_is)
    (case a10 => k_is); (case l10 => k_is); (case c10 => k_is); (case k10 => k_is)
    (case a11 => k_is); (case l11 => k_is); (case c11 => k_is); (case k11 => k_is)
    (case a12 => k_is); (case l12 => k_is); (case c12 => k_is); (case k12 => k_is)
    (case a13 => k_is); (case l13 => k_is); (case c13 => k_is); (case k13 => k_is)
    (case a14 => k_is); (case l14 => k_is); (case c14 => k_is); (case k14 => k_is)
    (case a15 => k_is); (case l15 => k_is); (case c15 => k_is); (case k15 => k_is)
    (case a16 => k_is); (case l16 => k_is); (case c16 => k_is); (case k16 => k_is)
    (case z0 => k_is)
    (case z1 => k_is)
    (case z2 => k_is)
    (case z3 => k_is)
    (case z4 => k_is)
    (case z5 => k_is)
    (case z6 => k_is)
    (case z7 => k_is)
    (case z8 => k_is)
    (case z9 => k_is)
    (case z10 => k_is)

