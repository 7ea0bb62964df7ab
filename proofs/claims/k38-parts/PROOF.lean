import PyProof.Rows.All
import Wide.All
import OpenK.AllK
import Wide.FinOn
import HandS.ForMost
import HandS.More
import HandS.IsInst
import HandS.Style
import HandS.Walk
import HandS.AnyAll
import HandS.GenList
import HandS.Lambda
import HandS.TupAny
import HandS.TupLe
import HandS.Deep
import HandS.SortInts
import HandS.Codes
import HandS.Text
import HandS.Small
import HandS.RaiseMore
import HandS.Zip
import HandS.Words
import HandS.DictComp
import HandS.SetFor
import HandS.Strs
import HandS.Conv
import HandS.WrittenGet
import HandS.Dict
import KE.GoesZip
import KE.GoesMore
import KE.GoesEnum
import HandS.TupSets
import HandS.TupLen
import KE.DataCmp
import HandS.Star
import PyProof.Rows.SortStr
import PyProof.Rows.StrMeet
import PyProof.ListStr
import KE.KTupSum
import HandS.Rev
import KE.SortData
import KE.KDictPairs
import HandS.Iter
import PyProof.P3Eq
import HandS.SortKw
import KE.SortKeyed
import HandS.SetBool
import HandS.TupMul
import HandS.SetKeys
import KE.DatumOrd
import HandS.EndTab
import PySem.Challenge.RW_aswritten_k38_parts_of_models
set_option Elab.async false
set_option linter.all false
set_option Elab.async false
set_option linter.all false
set_option maxRecDepth 100000
namespace OwnK
open PySem PySem.Spec PyProof.Rows L2
section
variable {X : Cx} {CX : CXT} {k : Nat} {f : Addr} {fd : FuncData} {ps ks : List Str} {sp : Sp} {E : XK} {x : Str} {p pos : Pos} {kws : List Keyword} {tk : TA} {g : List Value → List Value → List Value} {gV : List V → List V → List V}
theorem pe_callK0 (F : FnOk X.prog X.w X.K X.mg X.base CX k f fd ps sp) (hr : Room k X.A) (hg : Gl X x) (hm : X.mg x = some (.ref f)) (hk : PySem.W.keepIn X.K (.ref f) = true) (hb : KBinds X.K fd ps ks g gV) (hx : Passes CX X E)
    (hkw : PK X kws tk) (hall : (backToKw pos (keywordEach kws X.env)).all (·.1.isSome) = true := by rfl) (hks : (backToKw pos (keywordEach kws X.env)).filterMap (·.1) = ks := by rfl)
    (hdb : (x == ("__debug__" : Str)) = false := by decide)
    (hpl : ((backTo pos (starEach [] X.env)).any (·.1) || (backToKw pos (keywordEach kws X.env)).any (·.1.isNone)) = false := by rfl) :
    PE X (.Call (.Name x p) [] kws pos) (tCallK sp gV E tNil tk) := by
  refine ⟨fun pins s σ H Q I h => ?_⟩
  refine wpAny_Call_Name_kw (ld_glob I hg hm ?_ hdb)
  refine PySem.W.callWith_KW0 (h₀ := X.base) I.ok.mod.kin hk hall ?_ hpl
  refine thn (hkw.run pos pins s σ H _ I h) fun ws s2 ⟨zs, H2, I2, rz, q2⟩ => ⟨I2.kIn, ?_⟩
  rw [hks]
  exact run_fnk (us := []) (vs := []) F hr hb hx I2 .nil rz q2
end
section
variable {X : Cx} {K : PySem.W.Frag} {a : Expr} {ta : TE} {tg : Expr}
end
end OwnK
set_option Elab.async false
set_option linter.all false
set_option maxRecDepth 100000
set_option maxHeartbeats 2000000
namespace GenX
open PySem PySem.Spec PyProof.Rows L2 GxR GenW
abbrev gcx (X : Cx) (s : Shared) (H : Hp) (cenv : Env) (fp : List Addr) (pn : List (Addr × Obj)) (Ag : Around) : Cx :=
  { X with s_0 := s, H_0 := H, env := cenv, outer := X.stack, stack := cenv :: X.stack, A := Ag, ex := fp, fn := fun _ => false, pn := pn, xe := fun _ _ => False }
structure GOk (N : List Str) (sc scope : Scope) (own : List (Str × Nat)) : Prop where
  blk : BlkOk N sc scope own
  co : scope.isCoroutine = false
  cell : ∀ y ∈ scope.names, y.2 ≠ .cell
  dot : scope.names.lookup (".0" : Str) = some NameKind.local
section
variable {X : Cx} {pins : List (Addr × Obj)} {σ : L2.St} {H : Hp} {s : Shared}
theorem gen_start {scope : Scope} {own : List (Str × Nat)} {fp : List Addr} {code : Value} {h' : Heap} {m0 : Str → Option Value} {go fr : Obj} {gs : GenState} {tk : Nat} {Ag : Around} (I : Inv X pins σ H s) (ok : GOk X.N X.env.scope scope own) (hN : X.N.Nodup) (hfp : ∀ b ∈ fp, FpOk X pins H b ∧ b < s.heap.objs.size)
    (hA : Ag.handled = none) (hfr : Ag.frames = some (genEnv scope (cloFrom X.env.cells scope.names []) s.heap.objs.size code builtinsNs X.env :: X.stack))
    (hn : h'.Ns s.heap.objs.size m0) (sb : Heap.SameBut s.heap.objs.size (s.heap.push fr) h') (hgo : ∀ v, go.data ≠ .cell v) (hgb : gs.bare = true) (hgg : (h'.push go).get? h'.objs.size = some go) :
    Inv (gcx X s H (genEnv scope (cloFrom X.env.cells scope.names []) s.heap.objs.size code builtinsNs X.env) fp [(h'.objs.size, go)] Ag) [] (wipe σ (own.map (·.2))) H { s with heap := h'.push go, gens := s.gens.push gs, toks := tk } := by
  have hfree : ∀ y ∈ scope.names, y.2 = .free → ∃ c, X.env.cells.lookup y.1 = some c := fun y hy e => by
    rcases ok.blk.free y hy e with k | k
    · exact I.ok.has _ (.inl k)
    · exact I.ok.has _ (.inr k)
  have hsz : h'.objs.size = s.heap.objs.size + 1 := by rw [sb.1, Heap.size_push]
  generalize hcenv : genEnv scope (cloFrom X.env.cells scope.names []) s.heap.objs.size code builtinsNs X.env = cenv at hfr ⊢
  have kp0 : ∀ b o, s.heap.get? b = some o → h'.get? b = some o := fun b o e => sb.extBut b o (Nat.ne_of_lt (Heap.lt_size e)) (Heap.get?_push_of_some _ e)
  have kp : ∀ b o, s.heap.get? b = some o → (h'.push go).get? b = some o := fun b o e => Heap.get?_push_of_some _ (kp0 b o e)
  have hL : cenv.locals = s.heap.objs.size := by rw [← hcenv]; rfl
  have hcl : cenv.cells = cloFrom X.env.cells scope.names [] := by rw [← hcenv]; rfl
  have hsc : cenv.scope = scope := by rw [← hcenv]; rfl
  have cm : ∀ {y c}, (y, c) ∈ cloFrom X.env.cells scope.names [] → X.env.cells.lookup y = some c ∧ c < s.heap.objs.size := fun {y c} hm => by
    rcases cloFrom_mem hm with hm | ⟨h1, rfl⟩
    · cases hm
    · obtain ⟨c, hc⟩ := hfree _ h1 rfl
      rw [hc]
      obtain ⟨w, z⟩ := I.cell _ _ hc
      exact ⟨rfl, z.lt⟩
  have mem : ∀ {y c}, cenv.cells.lookup y = some c → X.env.cells.lookup y = some c ∧ c < s.heap.objs.size := fun {y c} e => by
    rw [hcl] at e
    exact cm (PySem.mem_of_lookup e)
  have look : ∀ {y}, scope.names.lookup y = some .free → ∃ c, cenv.cells.lookup y = some c ∧ X.env.cells.lookup y = some c := fun {y} hl => by
    have hy : (y, NameKind.free) ∈ scope.names := PySem.mem_of_lookup hl
    obtain ⟨c', e'⟩ := mem_lookup (cloFrom_has (cells := X.env.cells) (acc := []) hy)
    refine ⟨c', by rw [hcl]; exact e', ?_⟩
    exact (cm (PySem.mem_of_lookup e')).1
  have okB : (gcx X s H cenv fp [(h'.objs.size, go)] Ag).Ok := by
    refine ⟨I.ok.mod, by show cenv.scope.kind = _; rw [hsc]; exact ok.blk.kind, by show cenv.globals = _; rw [← hcenv]; exact I.ok.glob, by show cenv.builtins = _; rw [← hcenv]; rfl, by show s.heap.objs.size ≤ cenv.locals; rw [hL]; exact Nat.le_refl _,
      fun y z c e1 e2 => ?_, fun y hy => ?_, fun y c z e => ?_, fun _ => hA, hfr, .inr ⟨rfl, by rw [← hcenv]; rfl⟩, fun b hb => ⟨?_, fun y c e z => ?_⟩, I.bs, Nat.le_trans I.ok.bsz I.sz, fun b o e hb => ?_, fun b hb z => ?_, I.stack, I.stkFree⟩
    · exact I.ok.inj y z c (mem e1).1 (mem e2).1
    · show ∃ c, cenv.cells.lookup y = some c
      rcases hy with hy | hy
      · have hy : cenv.scope.names.lookup y = some .cell := hy
        rw [hsc] at hy
        exact absurd rfl (ok.cell _ (PySem.mem_of_lookup hy))
      · have hy : cenv.scope.names.lookup y = some .free := hy
        rw [hsc] at hy
        obtain ⟨c, h1, _⟩ := look hy
        exact ⟨c, h1⟩
    · exact absurd z (by simp)
    · show b ≠ cenv.locals
      rw [hL]; exact Nat.ne_of_lt (hfp b hb).2
    · have e : cenv.cells.lookup y = some c := e
      exact (hfp b hb).1.2.2.2.2.1 y c (mem e).1 z
    · rcases (hfp b hb).1.2.2.2.1 with z | z
      · exact I.ok.noex b o e z
      · exact absurd (Nat.lt_of_lt_of_le (Heap.lt_size e) (Nat.le_trans I.ok.bsz z)) (Nat.lt_irrefl _)
    · rcases List.mem_cons.mp (I.stkSub b z) with z | z
      · exact (hfp b hb).1.2.1 z
      · exact (hfp b hb).1.2.2.1 z
  refine ⟨okB, rfl, I.bare.push hgb, Un.kept kp, ⟨m0, ?_, fun i y av e1 e2 e3 => ?_⟩, fun y c e => ?_, ?_, fun y c e => ?_, fun p hp => ?_, I.hok.kept kp, by rw [wipe_length]; exact I.len⟩
  · show Heap.Ns _ cenv.locals _
    rw [hL]
    exact hn.push _
  · obtain ⟨e2, hne⟩ := wipe_some e2
    have e3 : Vis cenv.scope y := e3
    have hfr : scope.names.lookup y = some .free := by
      have no : ∀ k, scope.names.lookup y = some k → k = .local ∨ k = .cell → False := fun k hk hh => by
        rcases ok.blk.own _ (PySem.mem_of_lookup hk) hh with e' | e'
        · obtain ⟨p, hp, hpy⟩ := List.mem_map.mp e'
          have e3 := ok.blk.ix p hp
          have hpy : p.1 = y := hpy
          rw [hpy] at e3
          exact hne (List.mem_map.mpr ⟨p, hp, nodup_ix hN e3 e1⟩)
        · exact e' (List.mem_of_getElem? e1)
      rw [hsc] at e3
      rcases e3 with e3 | e3 | e3
      · exact (no _ e3 (.inl rfl)).elim
      · exact (no _ e3 (.inr rfl)).elim
      · exact e3
    obtain ⟨m, hn, hl⟩ := I.loc
    have hvis : Vis X.env.scope y := (ok.blk.free _ (PySem.mem_of_lookup hfr) rfl).elim (fun k => .inr (.inl k)) (fun k => .inr (.inr k))
    obtain ⟨w, r, q⟩ := hl i y av e1 e2 hvis
    refine ⟨w, r, .inr ⟨.inr (by show cenv.scope.names.lookup y = _; rw [hsc]; exact hfr), ?_⟩⟩
    obtain ⟨c, h1, h2⟩ := look hfr
    rcases q with ⟨k, _⟩ | ⟨_, c', e', z⟩
    · have k : X.env.scope.names.lookup y = some .local := k
      rcases ok.blk.free _ (PySem.mem_of_lookup hfr) rfl with k' | k' <;> rw [show X.env.scope.names.lookup y = _ from k'] at k <;> cases k
    · rw [h2] at e'; cases e'
      exact ⟨c, h1, z.keeps kp⟩
  · have e : cenv.cells.lookup y = some c := e
    obtain ⟨w, z⟩ := I.cell y c (mem e).1
    exact ⟨w, z.keeps kp⟩
  · show H cenv.locals = none
    rw [hL]; exact I.hok.fresh (Nat.le_refl _)
  · have e : cenv.cells.lookup y = some c := e
    exact I.freeC y c (mem e).1
  · rcases List.mem_append.mp hp with z | z
    · rw [List.mem_singleton.mp z]
      refine ⟨hgg, I.hok.fresh (by rw [hsz]; exact Nat.le_succ _), ?_, fun hm => ?_, hgo⟩
      · show h'.objs.size ≠ cenv.locals
        rw [hL, hsz]; exact Nat.succ_ne_self _
      · have hm : h'.objs.size ∈ frs X.stack := hm
        have q := (I.stack.mem hm)
        obtain ⟨_, o, ho, _⟩ := q
        have q2 : h'.objs.size < s.heap.objs.size := Heap.lt_size ho
        rw [hsz] at q2
        exact absurd (Nat.lt_of_succ_lt q2) (Nat.lt_irrefl _)
    · exact absurd z (by simp)
structure Wk (S : List Addr) (s s' : Shared) : Prop where
  os : s'.os = s.os
  bare : AllBare s'.gens
  keep : ∀ b o, b ∉ S → s.heap.get? b = some o → s'.heap.get? b = some o
  own : ∀ b ∈ S, ∃ o, s'.heap.get? b = some o ∧ ∀ v, o.data ≠ .cell v
def SOk (X : Cx) (S : List Addr) : Prop := ∀ b ∈ S, b ≠ X.env.locals ∧ b ∉ X.fs ∧ (b ∈ X.ex ∨ X.s_0.heap.objs.size ≤ b) ∧ (∀ x c, X.env.cells.lookup x = some c → c ≠ b) ∧ ∀ p ∈ X.pn, p.1 ≠ b
theorem SOk.fp {S : List Addr} (h : SOk X S) (hn : ∀ b ∈ S, H b = none) : ∀ b ∈ S, FpOk X [] H b := fun b hb =>
  let ⟨h1, h2, h3, h4, h5⟩ := h b hb
  ⟨hn b hb, h1, h2, h3, h4, fun p hp => h5 p (by simpa using hp)⟩
theorem inv_wake {S : List Addr} {s' : Shared} (I : Inv X [] σ H s) (hS : ∀ b ∈ S, FpOk X [] H b) (z : Wk S s s') : Inv X (pinsAt S s'.heap) σ H s' := by
  have nt : ∀ b u, H b = some u → b ∉ S := fun b u q hb => by rw [(hS b hb).1] at q; cases q
  obtain ⟨hh, g, d, t, o⟩ := s'
  obtain ⟨z1, z2, z3, z4⟩ := z
  have ho : o = s.os := z1
  subst ho
  have J : Inv X [] σ H { s with heap := hh, gens := g, drawn := d, toks := t } := by
    refine I.step (g' := g) (t' := t) (d' := d) (ch := S) (fun b hb => ⟨(hS b hb).2.2.2.1, (hS b hb).2.1, (hS b hb).2.2.2.2.1, (hS b hb).2.2.2.2.2⟩)
      (fun b ob _ _ hc q _ => z3 b ob hc q) (fun b ob _ _ hc q _ => ⟨ob.slots, z3 b ob hc q⟩) (fun _ _ _ _ n => n) (fun b ob hc q => ⟨ob, z3 b ob hc q⟩)
      (fun _ _ q => q) (fun _ _ _ q => q) (fun b ps q => ⟨#[], by rw [q]; simp⟩) (fun m hm => ?_) (fun b u q => ?_) z2
    · obtain ⟨ob, es, ep, ho, r⟩ := hm
      exact ⟨ob, es, ep, z3 _ ob (fun hb => (hS _ hb).2.1 rfl) ho, r⟩
    · refine (I.hok b u q).stay (fun c v hc y => z3 c v ?_ y) (fun _ y => y) fun _ _ y => y
      rcases hc with y | y
      · rw [y]; exact nt b u q
      · exact nt c _ y
  exact J.pinned hS z4
theorem inv_free {S : List Addr} {h0 : Heap} (I : Inv X (pinsAt S h0) σ H s) (he : ∀ b ∈ S, ∃ o, h0.get? b = some o) : ∀ b ∈ S, H b = none := fun b hb => by
  obtain ⟨o, e⟩ := he b hb
  exact (I.pin (b, o) (List.mem_append_right _ (mem_pinsAt hb e))).2.1
end
section
def GY (Xg : Cx) (S : List Addr) (Gh : List V → Heap → Prop) (σw : L2.St) (U : List V → V → Hp → (Hp → Prop) → Prop) : Protocol := fun _ s₀ v s kap =>
  ∃ ys y H Nx, Gh ys s₀.heap ∧ RelV y v ∧ Inv Xg (pinsAt S s₀.heap) σw H s ∧ U ys y H Nx ∧ (Nx H → ∀ s', Wk S s s' → Gh (ys ++ [y]) s'.heap → kap (.send .none) s')
def GE (Xg : Cx) (S : List Addr) (Gh : List V → Heap → Prop) (σw : L2.St) (Qd : List V → Hp → Prop) (s₀ s1 : Shared) : Prop := ∃ ys H, Gh ys s₀.heap ∧ Inv Xg (pinsAt S s₀.heap) σw H s1 ∧ Qd ys H
def Turns (J : It) (W : Nat → Nat → List V → Hp → Prop) (g : TG) (tt : TT) (te : TE) (U : List V → V → Hp → (Hp → Prop) → Prop) (vs : List Nat) (σw : L2.St) (Qd : List V → Hp → Prop) : Prop :=
  ∀ i m ys H, W i m ys H → (J.stop i H ∧ Qd ys H) ∨ (J.go i H ∧ ∃ Nx : List V → Hp → Prop, (∀ ys' H', Nx ys' H' → ∃ m', m' < m ∧ W (i + 1) m' ys' H') ∧
    ∀ x H', J.yld i H x H' → g x σw H' fun σ2 H2 => wipe σ2 vs = σw ∧ tt σ2 H2 fun b H3 => if b = true then te σ2 H3 fun y H4 => U ys y H4 (Nx (ys ++ [y])) else Nx ys H3)
variable {X : Cx}
theorem seg_loop {elt tg iter : Expr} {ifs : List Expr} {scope : Scope} {pos : Pos} {it : Addr} {fp : List Addr} {tn : Nat → Heap → Prop} {J : It} {W : Nat → Nat → List V → Hp → Prop} {g : TG} {tt : TT} {te : TE} {U : List V → V → Hp → (Hp → Prop) → Prop} {vs : List Nat} {σ0 : L2.St} {Qd : List V → Hp → Prop} {Gh : List V → Heap → Prop} {S : List Addr} {Ab : Around}
    (hex : X.ex = fp) (hxe : X.xe = fun _ _ => False) (hc : X.calm = true) (T : Turn X.prog X.w X.K tg J fp it tn) (pg : PG X tg g) (pt : PTs X ifs tt) (pe : PE X elt te)
    (hA : Ab.over (.compLoop (.GeneratorExp elt [⟨tg, iter, ifs, 0⟩] scope pos) 0 (.ref it) .none X.env) [] = X.A) (hco : X.env.scope.isCoroutine = false) (hS : SOk X S) (hfS : ∀ b ∈ fp, b ∉ S) (hfp : ∀ b ∈ fp, ∀ p ∈ X.pn, p.1 ≠ b)
    (turn : Turns J W g tt te U vs (wipe σ0 vs) Qd) : ∀ (m n i : Nat) (ys : List V) (H : Hp) (s s₀ : Shared), m < n → W i m ys H → Gh ys s₀.heap → Inv X (pinsAt S s₀.heap) (wipe σ0 vs) H s → (∀ b ∈ S, ∃ o, s₀.heap.get? b = some o) → tn i s.heap → (∀ b ∈ fp, H b = none) →
      Seg (model X.prog X.w) Ab (fun n s₀ r s₁ => r = .ok .next ∧ GE X S Gh (wipe σ0 vs) Qd s₀ s₁) (GY X S Gh (wipe σ0 vs) U) n s₀
        (.compLoop (.GeneratorExp elt [⟨tg, iter, ifs, 0⟩] scope pos) 0 (.ref it) .none X.env) ((model X.prog X.w).den (.compLoop (.GeneratorExp elt [⟨tg, iter, ifs, 0⟩] scope pos) 0 (.ref it) .none X.env)) [] s := by
  intro m
  induction m using Nat.strongRecOn with
  | ind m ih =>
    intro n i ys H s s₀ hmn hW hG I hSe st hfn
    have stat : ∀ {σ' : L2.St} {H' : Hp} {s' : Shared}, Inv X (pinsAt S s₀.heap) σ' H' s' → (∀ b ∈ fp, H' b = none) → ∀ b ∈ fp, FpOk X (pinsAt S s₀.heap) H' b := fun {σ' H' s'} I' hn b hb =>
      ⟨hn b hb, (I'.ok.exf b (by rw [hex]; exact hb)).1, I'.ok.exfs b (by rw [hex]; exact hb), .inl (by rw [hex]; exact hb), fun x c e => (I'.ok.exf b (by rw [hex]; exact hb)).2 x c e, fun p hp => by
        rcases List.mem_append.mp hp with z | z
        · exact hfp b hb p z
        · exact fun e => hfS b hb (e ▸ (of_pinsAt z).1)⟩
    show Seg _ Ab _ _ n s₀ _ ((compTurn (.GeneratorExp elt [⟨tg, iter, ifs, 0⟩] scope pos) 0 (.ref it) .none X.env).onRaise (leaving X.env)) [] s
    rw [compTurn_gen, Sem.onRaise_eq_wrap]
    refine seg_bind_wrap (wpAny_standAt ?_)
    rcases turn i m ys H hW with ⟨stop, qq⟩ | ⟨go, Nx, hNx, step⟩
    · refine seg_bind_wrap ?_
      rw [hA]
      refine thnF (T.done X rfl rfl rfl hc i _ s _ H (fun _ _ => False) I (stat I hfn) st stop) fun r s6 ⟨hr, I6⟩ => ?_
      subst hr
      exact seg_end (.ok .next) ⟨rfl, ys, H, hG, I6, qq⟩
    · refine seg_bind_wrap ?_
      rw [hA]
      refine thnF (T.item X rfl rfl rfl hc i _ s _ H (fun _ _ => False) I (stat I hfn) st go) fun r s6 ⟨u, hr, h6⟩ => ?_
      subst hr
      refine seg_bind_wrap ?_
      rw [hA]
      refine thnF h6 fun _ s7 ⟨x, H7, I7, r7, y7, st7, n7⟩ => ?_
      have I7' := I7.pinned (stat I7 n7) (T.obj _ _ st7)
      refine seg_bind_wrap ?_
      rw [hA]
      have pgr := pg.run _ s7 _ H7 x u _ I7' r7 (step x H7 y7)
      rw [hxe] at pgr
      refine thnF pgr fun _ s8 ⟨σ8, H8, I8, hw8, q8⟩ => ?_
      refine seg_bind_wrap ?_
      rw [hA]
      have ptr := pt.run _ s8 σ8 H8 _ I8 q8
      rw [hxe] at ptr
      refine thnF ptr fun b s9 ⟨H9, I9, q9⟩ => ?_
      have fin : ∀ {s' : Shared} {H' : Hp}, Inv X (pinsAt S s₀.heap ++ pinsAt fp s7.heap) σ8 H' s' → Inv X (pinsAt S s₀.heap) (wipe σ0 vs) H' s' ∧ tn (i + 1) s'.heap ∧ (∀ b ∈ fp, H' b = none) := fun {s' H'} I' => by
        have pin' : ∀ b ∈ fp, ∀ o, s7.heap.get? b = some o → s'.heap.get? b = some o ∧ H' b = none := fun b hb o e =>
          let z := I'.pin (b, o) (List.mem_append_right _ (List.mem_append_right _ (mem_pinsAt hb e)))
          ⟨z.1, z.2.1⟩
        have hl : (wipe σ0 vs).length = σ8.length := by rw [← hw8, wipe_length]
        refine ⟨(I'.unpinned (pins := pinsAt S s₀.heap)).weak hl (fun j v e => ?_), T.keep _ _ _ st7 fun b hb o e => (pin' b hb o e).1, fun b hb => ?_⟩
        · rw [← hw8] at e
          exact (wipe_some e).1
        · obtain ⟨o, e, _⟩ := T.obj _ _ st7 b hb
          exact (pin' b hb o e).2
      cases b with
      | false =>
        simp only [Bool.false_eq_true, if_false] at q9 ⊢
        obtain ⟨J1, J2, J3⟩ := fin I9
        obtain ⟨m', hm', w'⟩ := hNx ys H9 q9
        exact seg_again rfl (ih m' hm' n (i + 1) ys H9 s9 s₀ (Nat.lt_trans hm' hmn) w' hG J1 hSe J2 J3)
      | true =>
        simp only [if_true] at q9 ⊢
        have hy : ∀ v, yieldOut X.env v = yieldValue v := fun v => by simp only [yieldOut, hco, Bool.false_eq_true, if_false]
        simp only [hy]
        rw [Sem.bind_eq_wrap', Sem.bind_eq_wrap', Sem.wrap_wrap, Sem.wrap_wrap]
        refine seg_wrap ?_
        rw [hA]
        have per := pe.run _ s9 σ8 H9 _ I9 q9
        rw [hxe] at per
        refine thnF per fun z s10 ⟨yv, H10, I10, r10, u10⟩ => ?_
        obtain ⟨J1, J2, J3⟩ := fin I10
        obtain ⟨n', rfl⟩ : ∃ n', n = n' + 1 := ⟨n - 1, by omega⟩
        refine seg_at (seg_yield rfl rfl rfl ⟨ys, yv, H10, Nx (ys ++ [yv]), hG, r10, J1, u10, fun hnx s' wk hG' => ?_⟩)
        obtain ⟨m', hm', w'⟩ := hNx _ H10 hnx
        have K1 : Inv X [] (wipe σ0 vs) H10 s10 := J1.pins_of fun p hp => absurd hp (by simp)
        have hSn := inv_free J1 hSe
        refine seg_again rfl (ih m' hm' n' (i + 1) _ H10 s' s' (by omega) w' hG' (inv_wake K1 (hS.fp hSn) wk) (fun b hb => let ⟨o, e, _⟩ := wk.own b hb; ⟨o, e⟩) (T.keep _ _ _ J2 fun b hb o e => wk.keep b o (hfS b hb) e) J3)
theorem seg_start {elt tg iter : Expr} {ifs : List Expr} {scope : Scope} {pos : Pos} {it : Addr} {fp : List Addr} {tn : Nat → Heap → Prop} {J : It} {W : Nat → Nat → List V → Hp → Prop} {g : TG} {tt : TT} {te : TE} {U : List V → V → Hp → (Hp → Prop) → Prop} {vs : List Nat} {σ0 : L2.St} {Qd : List V → Hp → Prop} {Gh : List V → Heap → Prop} {S : List Addr} {Ab : Around}
    (hex : X.ex = fp) (hxe : X.xe = fun _ _ => False) (hc : X.calm = true) (T : Turn X.prog X.w X.K tg J fp it tn) (pg : PG X tg g) (pt : PTs X ifs tt) (pe : PE X elt te)
    (hA : Ab.over (.compLoop (.GeneratorExp elt [⟨tg, iter, ifs, 0⟩] scope pos) 0 (.ref it) .none X.env) [] = X.A) (hco : X.env.scope.isCoroutine = false) (hS : SOk X S) (hfS : ∀ b ∈ fp, b ∉ S) (hfp : ∀ b ∈ fp, ∀ p ∈ X.pn, p.1 ≠ b)
    (turn : Turns J W g tt te U vs (wipe σ0 vs) Qd) {m n : Nat} {H : Hp} {s : Shared} (hmn : m < n) (hW : W 0 m [] H) (hG : Gh [] s.heap) (I : Inv X (pinsAt S s.heap) (wipe σ0 vs) H s) (hSe : ∀ b ∈ S, ∃ o, s.heap.get? b = some o) (st : tn 0 s.heap) (hfn : ∀ b ∈ fp, H b = none) :
      Seg (model X.prog X.w) Ab (fun n s₀ r s₁ => r = .ok .next ∧ GE X S Gh (wipe σ0 vs) Qd s₀ s₁) (GY X S Gh (wipe σ0 vs) U) n s
        (.compStart (.GeneratorExp elt [⟨tg, iter, ifs, 0⟩] scope pos) 0 (.ref it) .none X.env) ((model X.prog X.w).den (.compStart (.GeneratorExp elt [⟨tg, iter, ifs, 0⟩] scope pos) 0 (.ref it) .none X.env)) [] s := by
  have loop := seg_loop hex hxe hc T pg pt pe hA hco hS hfS hfp turn m n 0 [] H s s hmn hW hG I hSe st hfn
  show Seg _ Ab _ _ _ s _ ((compStart (.GeneratorExp elt [⟨tg, iter, ifs, 0⟩] scope pos) 0 (.ref it) .none X.env).onRaise (leaving X.env)) [] s
  unfold compStart
  rw [Sem.onRaise_eq_wrap]
  show Seg _ Ab _ _ _ s _ ((ask >>= _).wrap _ _ _ _) [] s
  refine seg_bind_wrap (wpAny_askSetting ?_)
  split
  · exact seg_again rfl loop
  · first
      | exact seg_bind_wrap (wpAny_rule (seg_bind_wrap (wpAny_standAt (seg_bind_wrap (T.self _ 0 s _ _ st (seg_again rfl loop))))))
      | (refine seg_bind_wrap (wpAny_rule ?_); show Seg _ Ab _ _ _ s _ ((standAt iter.pos >>= _).wrap _ _ _ _) [] s; exact seg_bind_wrap (wpAny_standAt (seg_bind_wrap (T.self _ 0 s _ _ st (seg_again rfl loop)))))
structure Wq (S : List Addr) (s s' : Shared) : Prop where
  os : s'.os = s.os
  gens : s'.gens = s.gens
  keep : ∀ b o, b ∉ S → s.heap.get? b = some o → s'.heap.get? b = some o
  own : ∀ b ∈ S, ∃ o, s'.heap.get? b = some o ∧ ∀ v, o.data ≠ .cell v
def KeepS (S : List Addr) (s s' : Shared) : Prop := ∀ b ∈ S, ∀ o, s.heap.get? b = some o → s'.heap.get? b = some o
def Pull (X : Cx) (pins : List (Addr × Obj)) (σ : L2.St) (U : List V → V → Hp → (Hp → Prop) → Prop) (Qd : List V → Hp → Prop) (a : Addr) (S : List Addr) (Gh : List V → Heap → Prop) : Nat → List V → Shared → Prop
  | 0 => fun ys s => ∀ s', Wq S s s' → Gh ys s'.heap → wpAny (model X.prog X.w) X.A.in1 (pyNext (.ref a)) (fun r s1 => KeepS S s' s1 ∧ match r with
    | none => ∃ ys H, Gh ys s'.heap ∧ Inv X pins σ H s1 ∧ Qd ys H
    | some v => ∃ ys y H Nx, Gh ys s'.heap ∧ RelV y v ∧ Inv X pins σ H s1 ∧ U ys y H Nx ∧ (Nx H → ∀ s'', Wq S s1 s'' → ¬ Gh (ys ++ [y]) s''.heap)) (fun _ _ => False) s'
  | n + 1 => fun ys s => ∀ s', Wq S s s' → Gh ys s'.heap → wpAny (model X.prog X.w) X.A.in1 (pyNext (.ref a)) (fun r s1 => KeepS S s' s1 ∧ match r with
    | none => ∃ ys H, Gh ys s'.heap ∧ Inv X pins σ H s1 ∧ Qd ys H
    | some v => ∃ ys y H Nx, Gh ys s'.heap ∧ RelV y v ∧ Inv X pins σ H s1 ∧ U ys y H Nx ∧ (Nx H → Pull X pins σ U Qd a S Gh n (ys ++ [y]) s1)) (fun _ _ => False) s'
theorem pull_of {pins : List (Addr × Obj)} {σ σw : L2.St} {U : List V → V → Hp → (Hp → Prop) → Prop} {Qd : List V → Hp → Prop} {Gh : List V → Heap → Prop} {a : Addr} {g : Nat} {S : List Addr} {H4 : Hp} {s4 : Shared} {cenv : Env} {fp : List Addr} {go : Obj} {Ag : Around}
    (I0 : Inv X pins σ H4 s4) (ffp : ∀ b ∈ fp, FpOk X pins H4 b) (hh : X.A.handled = none) (hd : X.A.depth < recursionLimit) (hgen : ∀ h : Heap, h.get? a = some go → h.IsGen a g) (haS : a ∉ S) (hcS : cStatics ∉ S) :
    ∀ (n : Nat) (ys : List V) (s : Shared) (gs : GenState), s.heap.get? a = some go → s.gens[g]? = some gs → AllBare s.gens → s.heap.NoLimit →
      (∀ s', Wk S s s' → Gh ys s'.heap → gs.Goes (model X.prog X.w) X.A.in1.in1 (fun n s₀ r s₁ => r = .ok .next ∧ GE (gcx X s4 H4 cenv fp [(a, go)] Ag) S Gh σw Qd s₀ s₁) (GY (gcx X s4 H4 cenv fp [(a, go)] Ag) S Gh σw U) n (.send .none) s') →
      Pull X pins σ U Qd a S Gh n ys s := by
  have back : ∀ {s₁ s₂ : Shared} {pp : List (Addr × Obj)} {H : Hp}, Inv (gcx X s4 H4 cenv fp [(a, go)] Ag) pp σw H s₁ → s₂.os = s₁.os → AllBare s₂.gens → (∀ b o, s₁.heap.get? b = some o → s₂.heap.get? b = some o) → Inv X pins σ H s₂ :=
    fun {s₁ s₂ pp H} I e1 e2 hk => I0.call' (ch := fp) (e1.trans I.os) (Un.trans I.base (Un.kept hk)) (I.hok.kept hk) e2 fun b hb => ⟨(ffp b hb).2.2.2.1, (ffp b hb).2.1, (ffp b hb).2.2.2.2.1, (ffp b hb).2.2.2.2.2⟩
  have prep : ∀ {s s' : Shared} {gs : GenState}, s.heap.get? a = some go → s.gens[g]? = some gs → AllBare s.gens → s.heap.NoLimit → Wq S s s' → s'.heap.get? a = some go ∧ s'.gens[g]? = some gs ∧ s'.heap.NoLimit ∧ g + 1 ≤ s'.gens.size ∧ Wk S s (s'.setGen g .running) := by
    intro s s' gs h1 h2 h3 h4 wq
    refine ⟨wq.keep _ _ haS h1, by rw [wq.gens]; exact h2, ?_, ?_, wq.os, ?_, wq.keep, wq.own⟩
    · obtain ⟨mc, hns, hnn⟩ := h4
      exact ⟨mc, hns.at' fun o e => wq.keep _ o hcS e, hnn⟩
    · rw [wq.gens]
      exact (Array.getElem?_eq_some_iff.mp h2).1
    · exact allBare_setGen (by rw [wq.gens]; exact h3) rfl
  intro n
  induction n with
  | zero =>
    intro ys s gs h1 h2 h3 h4 hgo s' wq hG
    obtain ⟨k1, k2, k3, k4, k5⟩ := prep h1 h2 h3 h4 wq
    refine wpAny_pyNext_genexpQ (A := X.A.in1) hh k3 hd (hgen _ k1) k2 (hgo _ k5 hG) (fun v s₁ gs' hb hv => ?_) (fun s₁ hp h' hk => ?_)
    · obtain ⟨ys', y, H, Nx, hG', ry, I, u, k⟩ := hv
      have I0' : Inv X pins σ H (s₁.setGen g gs') := back I rfl (allBare_setGen I.bare hb) fun _ _ e => e
      refine ⟨fun b hb o e => (I.pin (b, o) (List.mem_append_right _ (mem_pinsAt hb e))).1, ys', y, H, Nx, hG', ry, I0', u, fun hnx => ?_⟩
      exact fun s'' wq'' hG'' => k hnx s'' ⟨wq''.os, by rw [wq''.gens]; exact allBare_setGen I.bare hb, wq''.keep, wq''.own⟩ hG''
    · obtain ⟨ys', H, hG', I, hq⟩ := hp
      exact ⟨fun b hb o e => hk _ _ (I.pin (b, o) (List.mem_append_right _ (mem_pinsAt hb e))).1, ys', H, hG', back I rfl (allBare_setGen I.bare rfl) hk, hq⟩
  | succ n ih =>
    intro ys s gs h1 h2 h3 h4 hgo s' wq hG
    obtain ⟨k1, k2, k3, k4, k5⟩ := prep h1 h2 h3 h4 wq
    refine wpAny_gsz (n := g + 1) k4 (wpAny_pyNext_genexpQ (A := X.A.in1) hh k3 hd (hgen _ k1) k2 (hgo _ k5 hG) (fun v s₁ gs' hb hv => ?_) (fun s₁ hp h' hk => ?_))
    · intro hsz
      obtain ⟨ys', y, H, Nx, hG', ry, I, u, k⟩ := hv
      have I0' : Inv X pins σ H (s₁.setGen g gs') := back I rfl (allBare_setGen I.bare hb) fun _ _ e => e
      refine ⟨fun b hb o e => (I.pin (b, o) (List.mem_append_right _ (mem_pinsAt hb e))).1, ys', y, H, Nx, hG', ry, I0', u, fun hnx => ?_⟩
      have hsz1 : g < s₁.gens.size := by
        have q : (s₁.setGen g gs').gens.size = s₁.gens.size := setGen_size _ _ _
        omega
      refine ih _ (s₁.setGen g gs') gs' (I.pin (a, go) (List.mem_append_left _ List.mem_cons_self)).1 (setGen_at hsz1) (allBare_setGen I.bare hb) I.nolimit fun s'' wk hG'' => ?_
      exact k hnx s'' ⟨wk.os, wk.bare, wk.keep, wk.own⟩ hG''
    · intro hsz
      obtain ⟨ys', H, hG', I, hq⟩ := hp
      exact ⟨fun b hb o e => hk _ _ (I.pin (b, o) (List.mem_append_right _ (mem_pinsAt hb e))).1, ys', H, hG', back I rfl (allBare_setGen I.bare rfl) hk, hq⟩
def TabN (H : Hp) (P : Addr) : Prop := ∃ ps : Array Value, H P = some (.tbl ps) ∧ TriplesOk ps.toList ∧ ∀ (at_ : Pos) (cv : Value), codeAmong at_ ps.toList = some cv → ∃ c q, cv = .ref c ∧ H c = some (LamX.CodeO c q)
def TabdN (P : Addr) (H H' : Hp) : Prop := TabN H' P ∧ ∀ b o, b ≠ P → H b = some o → H' b = some o
theorem TabN.nil {H : Hp} {P : Addr} (h : H P = some (.tbl #[])) : TabN H P := ⟨#[], h, True.intro, fun at_ cv hc => by
  have z : codeAmong at_ [] = some cv := hc
  simp [codeAmong] at z⟩
def tGen (P : Addr) (wi : TI) (g : TG) (tt : TT) (te : TE) (vs : List Nat) (U : List V → V → Hp → (Hp → Prop) → Prop) (Qd : List V → Hp → Prop) : L2.St → Hp → Prop := fun σ H =>
  wi σ H fun J H2 => TabN H2 P ∧ ∀ H3, TabdN P H2 H3 → ∃ W : Nat → Nat → List V → Hp → Prop, (∃ m, W 0 m [] H3) ∧ Turns J W g tt te U vs (wipe σ vs) Qd
theorem gen_laid {elt tg iter : Expr} {ifs : List Expr} {gpos : Pos} {scope : Scope} {own : List (Str × Nat)} {g : TG} {tt : TT} {te : TE} {U : List V → V → Hp → (Hp → Prop) → Prop} {Qd : List V → Hp → Prop} {k : Nat} {pins : List (Addr × Obj)} {σ : L2.St} {H3 : Hp} {s4 : Shared} {fp : List Addr} {it : Addr} {tn : Nat → Heap → Prop} {J : It} {W : Nat → Nat → List V → Hp → Prop} {m : Nat} {code : Value}
    (hr : Room k X.A) (hcalm : X.calm = true) (hN : X.N.Nodup) (ok : GOk X.N X.env.scope scope own)
    (hg : ∀ (s : Shared) (H : Hp) (C : Addr) (code : Value) (fp : List Addr) (pn : List (Addr × Obj)), PG (gcx X s H (genEnv scope (cloFrom X.env.cells scope.names []) C code builtinsNs X.env) fp pn (X.A.in1.in1.deeper (genEnv scope (cloFrom X.env.cells scope.names []) C code builtinsNs X.env))) tg g)
    (ht : ∀ (s : Shared) (H : Hp) (C : Addr) (code : Value) (fp : List Addr) (pn : List (Addr × Obj)), PTs (gcx X s H (genEnv scope (cloFrom X.env.cells scope.names []) C code builtinsNs X.env) fp pn (X.A.in1.in1.deeper (genEnv scope (cloFrom X.env.cells scope.names []) C code builtinsNs X.env))) ifs tt)
    (he : ∀ (s : Shared) (H : Hp) (C : Addr) (code : Value) (fp : List Addr) (pn : List (Addr × Obj)), PE (gcx X s H (genEnv scope (cloFrom X.env.cells scope.names []) C code builtinsNs X.env) fp pn (X.A.in1.in1.deeper (genEnv scope (cloFrom X.env.cells scope.names []) C code builtinsNs X.env))) elt te)
    (I4 : Inv X pins σ H3 s4) (T : Turn X.prog X.w X.K tg J fp it tn) (f3 : ∀ b ∈ fp, FpOk X pins H3 b ∧ b < s4.heap.objs.size) (st3 : tn 0 s4.heap) (hW : W 0 m [] H3) (turn : Turns J W g tt te U (own.map (·.2)) (wipe σ (own.map (·.2))) Qd) :
    ∀ h', h'.Ns s4.heap.objs.size (fun y => if y = ".0" then some (.ref it) else none) → Heap.SameBut s4.heap.objs.size (s4.heap.push { cls := .type "frame", data := .dict #[] }) h' →
          ∃ a gi n, Value.ref h'.objs.size = .ref a ∧ (h'.push { cls := .type "generator", data := .fields #[.int s4.gens.size 0, .str "<genexpr>" (s4.toks + 1), .str (X.env.qual ++ "<genexpr>") (s4.toks + 1 + 1)] }).IsGen a gi ∧ a < (h'.push { cls := .type "generator", data := .fields #[.int s4.gens.size 0, .str "<genexpr>" (s4.toks + 1), .str (X.env.qual ++ "<genexpr>") (s4.toks + 1 + 1)] }).objs.size ∧ ∀ S Gh, (∀ b ∈ S, (h'.push { cls := .type "generator", data := .fields #[.int s4.gens.size 0, .str "<genexpr>" (s4.toks + 1), .str (X.env.qual ++ "<genexpr>") (s4.toks + 1 + 1)] }).objs.size ≤ b) → Pull X pins σ U Qd a S Gh n [] { s4 with
            gens := s4.gens.push (.fresh (.compStart (.GeneratorExp elt [⟨tg, iter, ifs, 0⟩] scope gpos) 0 (.ref it) .none (genEnv scope (cloFrom X.env.cells scope.names []) s4.heap.objs.size code builtinsNs X.env))),
            toks := s4.toks + 1 + 1 + 1,
            heap := h'.push { cls := .type "generator", data := .fields #[.int s4.gens.size 0, .str "<genexpr>" (s4.toks + 1), .str (X.env.qual ++ "<genexpr>") (s4.toks + 1 + 1)] } } := by
  intro h' hn' sb
  have main : ∀ (go : Obj) (nm qn : Value) (tk2 : Nat), go.cls = .type "generator" → go.data = .fields #[.int s4.gens.size 0, nm, qn] → go.slots = #[] → (∀ h : Heap, (h.push go).get? h.objs.size = some go) →
      ∃ a gi n, Value.ref h'.objs.size = .ref a ∧ (h'.push go).IsGen a gi ∧ a < (h'.push go).objs.size ∧ ∀ S Gh, (∀ b ∈ S, (h'.push go).objs.size ≤ b) → Pull X pins σ U Qd a S Gh n [] { s4 with
            gens := s4.gens.push (.fresh (.compStart (.GeneratorExp elt [⟨tg, iter, ifs, 0⟩] scope gpos) 0 (.ref it) .none (genEnv scope (cloFrom X.env.cells scope.names []) s4.heap.objs.size code builtinsNs X.env))),
            toks := tk2, heap := h'.push go } := by
    intro go nm qn tk2 hgc hgd hgs hgp
    have hgen : ∀ h : Heap, h.get? h'.objs.size = some go → h.IsGen h'.objs.size s4.gens.size := fun h e => ⟨go, nm, qn, e, hgc, hgd, hgs⟩
    have hsz : h'.objs.size = s4.heap.objs.size + 1 := by rw [sb.1, Heap.size_push]
    have hsz2 : (h'.push go).objs.size = s4.heap.objs.size + 1 + 1 := by rw [Heap.size_push, hsz]
    have kp : ∀ b o, s4.heap.get? b = some o → (h'.push go).get? b = some o := fun b o e => Heap.get?_push_of_some _ (sb.extBut b o (Nat.ne_of_lt (Heap.lt_size e)) (Heap.get?_push_of_some _ e))
    have hgo : ∀ v, go.data ≠ .cell v := fun v q => by rw [hgd] at q; cases q
    have hA : ∀ cenv : Env, X.A.in1.in1.over (.compLoop (.GeneratorExp elt [⟨tg, iter, ifs, 0⟩] scope gpos) 0 (.ref it) .none cenv) [] = X.A.in1.in1.deeper cenv := fun cenv => rfl
    have Ig := gen_start (Ag := X.A.in1.in1.deeper (genEnv scope (cloFrom X.env.cells scope.names []) s4.heap.objs.size code builtinsNs X.env)) (go := go) (tk := tk2)
      (gs := .fresh (.compStart (.GeneratorExp elt [⟨tg, iter, ifs, 0⟩] scope gpos) 0 (.ref it) .none (genEnv scope (cloFrom X.env.cells scope.names []) s4.heap.objs.size code builtinsNs X.env))) I4 ok hN f3 hr.hd (by show X.A.frames.map _ = _; rw [I4.ok.frames]; rfl) hn' sb hgo rfl (hgp _)
    have pg := hg s4 H3 s4.heap.objs.size code fp [(h'.objs.size, go)]
    have pt := ht s4 H3 s4.heap.objs.size code fp [(h'.objs.size, go)]
    have pe := he s4 H3 s4.heap.objs.size code fp [(h'.objs.size, go)]
    refine ⟨h'.objs.size, s4.gens.size, m + 1, rfl, hgen _ (hgp _), by rw [Heap.size_push]; exact Nat.lt_succ_self _, fun S Gh hS => ?_⟩
    have hcs : cStatics < s4.heap.objs.size := let ⟨_, hns, _⟩ := I4.nolimit; hns.lt
    have old : ∀ b, b < s4.heap.objs.size → b ∉ S := fun b hb hm => by
      have q := hS b hm
      rw [hsz2] at q
      exact absurd (Nat.lt_of_lt_of_le hb (Nat.le_trans (Nat.le_succ_of_le (Nat.le_succ _)) q)) (Nat.lt_irrefl _)
    have haS : h'.objs.size ∉ S := fun hm => by
      have q := hS _ hm
      rw [hsz2, hsz] at q
      exact absurd (Nat.lt_of_lt_of_le (Nat.lt_succ_self _) q) (Nat.lt_irrefl _)
    have hk : SOk (gcx X s4 H3 (genEnv scope (cloFrom X.env.cells scope.names []) s4.heap.objs.size code builtinsNs X.env) fp [(h'.objs.size, go)] (X.A.in1.in1.deeper (genEnv scope (cloFrom X.env.cells scope.names []) s4.heap.objs.size code builtinsNs X.env))) S := by
      intro b hb
      have q := hS b hb
      rw [hsz2] at q
      refine ⟨fun e => ?_, fun hm => ?_, .inr (Nat.le_trans (Nat.le_succ_of_le (Nat.le_succ _)) q), fun x c e z => ?_, fun p hp e => ?_⟩
      · have e : b = s4.heap.objs.size := e
        rw [e] at q
        exact absurd (Nat.lt_of_lt_of_le (Nat.lt_succ_of_le (Nat.le_succ _)) q) (Nat.lt_irrefl _)
      · have hm : b ∈ frs X.stack := hm
        obtain ⟨_, o, ho, _⟩ := I4.stack.mem hm
        exact old b (Heap.lt_size ho) hb
      · obtain ⟨v, o, ho, _⟩ := Ig.cell x c e
        have q2 : c < s4.heap.objs.size := by
          have e : (cloFrom X.env.cells scope.names []).lookup x = some c := e
          rcases cloFrom_mem (PySem.mem_of_lookup e) with hm | ⟨h1, h2⟩
          · cases hm
          · have : ∃ c, X.env.cells.lookup x = some c := by
              rcases ok.blk.free _ h1 rfl with k | k
              · exact I4.ok.has _ (.inl k)
              · exact I4.ok.has _ (.inr k)
            obtain ⟨c', hc'⟩ := this
            rw [hc'] at h2
            have h2 : c = c' := h2
            rw [h2]
            obtain ⟨w, z⟩ := I4.cell _ _ hc'
            exact z.lt
        exact old c q2 (z ▸ hb)
      · rw [List.mem_singleton.mp hp] at e
        have e : h'.objs.size = b := e
        exact haS (by rw [e]; exact hb)
    refine pull_of (cenv := genEnv scope (cloFrom X.env.cells scope.names []) s4.heap.objs.size code builtinsNs X.env) (fp := fp) (go := go) (Ag := X.A.in1.in1.deeper (genEnv scope (cloFrom X.env.cells scope.names []) s4.heap.objs.size code builtinsNs X.env)) (g := s4.gens.size) (σw := wipe σ (own.map (·.2))) I4 (fun b hb => (f3 b hb).1) hr.hd hr.depth hgen haS (old _ hcs) (m + 1) [] _ _ (hgp _) (Array.getElem?_push_size ..) Ig.bare Ig.nolimit fun s' wk hG => ?_
    have hSn : ∀ b ∈ S, H3 b = none := fun b hb => Ig.hok.fresh (hS b hb)
    refine ⟨rfl, ?_⟩
    refine seg_start (X := gcx X s4 H3 (genEnv scope (cloFrom X.env.cells scope.names []) s4.heap.objs.size code builtinsNs X.env) fp [(h'.objs.size, go)] (X.A.in1.in1.deeper (genEnv scope (cloFrom X.env.cells scope.names []) s4.heap.objs.size code builtinsNs X.env))) rfl rfl hcalm T pg pt pe (hA _) ok.co hk (fun b hb => old b (f3 b hb).2) (fun b hb p hp e => ?_) turn (Nat.lt_succ_self m) hW hG (inv_wake Ig (hk.fp hSn) wk) (fun b hb => let ⟨o, e, _⟩ := wk.own b hb; ⟨o, e⟩) (T.keep _ _ _ st3 fun b hb o e => wk.keep b o (old b (f3 b hb).2) (kp b o e)) fun b hb => (f3 b hb).1.1
    rw [List.mem_singleton.mp hp] at e
    have q := (f3 b hb).2
    rw [← e] at q
    have q : h'.objs.size < s4.heap.objs.size := q
    rw [hsz] at q
    exact absurd (Nat.lt_of_succ_lt q) (Nat.lt_irrefl _)
  exact main _ _ _ _ rfl rfl rfl fun h => Heap.get?_push_size _ rfl
theorem gen_make {c P : Addr} {elt tg iter : Expr} {ifs : List Expr} {gpos : Pos} {scope : Scope} {own : List (Str × Nat)} {wi : TI} {g : TG} {tt : TT} {te : TE} {U : List V → V → Hp → (Hp → Prop) → Prop} {Qd : List V → Hp → Prop} {k : Nat} {pins : List (Addr × Obj)} {σ : L2.St} {H : Hp} {s : Shared}
    (hr : Room k X.A) (hcalm : X.calm = true) (hN : X.N.Nodup) (TB : TabB X.base X.mg c P) (hcode : X.env.code = .ref c) (ok : GOk X.N X.env.scope scope own) (hi : PI X tg iter wi)
    (hg : ∀ (s : Shared) (H : Hp) (C : Addr) (code : Value) (fp : List Addr) (pn : List (Addr × Obj)), PG (gcx X s H (genEnv scope (cloFrom X.env.cells scope.names []) C code builtinsNs X.env) fp pn (X.A.in1.in1.deeper (genEnv scope (cloFrom X.env.cells scope.names []) C code builtinsNs X.env))) tg g)
    (ht : ∀ (s : Shared) (H : Hp) (C : Addr) (code : Value) (fp : List Addr) (pn : List (Addr × Obj)), PTs (gcx X s H (genEnv scope (cloFrom X.env.cells scope.names []) C code builtinsNs X.env) fp pn (X.A.in1.in1.deeper (genEnv scope (cloFrom X.env.cells scope.names []) C code builtinsNs X.env))) ifs tt)
    (he : ∀ (s : Shared) (H : Hp) (C : Addr) (code : Value) (fp : List Addr) (pn : List (Addr × Obj)), PE (gcx X s H (genEnv scope (cloFrom X.env.cells scope.names []) C code builtinsNs X.env) fp pn (X.A.in1.in1.deeper (genEnv scope (cloFrom X.env.cells scope.names []) C code builtinsNs X.env))) elt te)
    (hs : ∀ v, genFold iter X.env v = pure v) (I : Inv X pins σ H s) (h : tGen P wi g tt te (own.map (·.2)) U Qd σ H) :
    wpAny (model X.prog X.w) X.A (eval (.GeneratorExp elt [⟨tg, iter, ifs, 0⟩] scope gpos) X.env) (fun u s5 => ∃ a gi n, u = .ref a ∧ s5.heap.IsGen a gi ∧ a < s5.heap.objs.size ∧ ∀ S Gh, (∀ b ∈ S, s5.heap.objs.size ≤ b) → Pull X pins σ U Qd a S Gh n [] s5) X.xe s := by
  have hcl : ∀ y ∈ scope.names, y.2 = .free → ∃ c, X.env.cells.lookup y.1 = some c := fun y hy e => by
    rcases ok.blk.free y hy e with k | k
    · exact I.ok.has _ (.inl k)
    · exact I.ok.has _ (.inr k)
  refine wpAny_GeneratorExp_make ok.co (closure_ok hcl) ok.cell ok.dot ok.blk.kind (by have := hr.dp; omega) ?_ hs
  refine thn (hi.run pins s σ H _ I h) fun xv s1 hx => thn hx fun itv s2 h2 => ?_
  obtain ⟨it, fp, tn, J, H2, e, I2, T, st2, f2, ⟨⟨ps, hP, ht3, hcd3⟩, q⟩⟩ := h2
  subst e
  have hPs : s2.heap.get? P = some { cls := .none, data := .fields ps } := I2.hok P _ hP
  have hPlt : P < s2.heap.objs.size := Heap.lt_size hPs
  have cd : PySem.W.CodeHd s2.heap c P := TB.code.keeps fun b u e => I2.bk b u e
  have lim2 : s2.heap.NoLimit := I2.nolimit
  have cont : ∀ (code : Value) (h3 : Heap) (tk : Nat) (H3 : Hp), Heap.ExtBut P s2.heap h3 → s2.heap.objs.size ≤ h3.objs.size → Inv X pins σ H3 { s2 with heap := h3, toks := tk } → TabdN P H2 H3 → (∀ b ∈ fp, H3 b = none) →
      wpAny (model X.prog X.w) X.A (builtinsFor X.env.globals X.env.builtins) (fun bi s₄ =>
        ∀ h', h'.Ns s₄.heap.objs.size (fun y => if y = ".0" then some (.ref it) else none) → Heap.SameBut s₄.heap.objs.size (s₄.heap.push { cls := .type "frame", data := .dict #[] }) h' →
          ∃ a gi n, Value.ref h'.objs.size = .ref a ∧ (h'.push { cls := .type "generator", data := .fields #[.int s₄.gens.size 0, .str "<genexpr>" (s₄.toks + 1), .str (X.env.qual ++ "<genexpr>") (s₄.toks + 1 + 1)] }).IsGen a gi ∧ a < (h'.push { cls := .type "generator", data := .fields #[.int s₄.gens.size 0, .str "<genexpr>" (s₄.toks + 1), .str (X.env.qual ++ "<genexpr>") (s₄.toks + 1 + 1)] }).objs.size ∧ ∀ S Gh, (∀ b ∈ S, (h'.push { cls := .type "generator", data := .fields #[.int s₄.gens.size 0, .str "<genexpr>" (s₄.toks + 1), .str (X.env.qual ++ "<genexpr>") (s₄.toks + 1 + 1)] }).objs.size ≤ b) → Pull X pins σ U Qd a S Gh n [] { s₄ with
            gens := s₄.gens.push (.fresh (.compStart (.GeneratorExp elt [⟨tg, iter, ifs, 0⟩] scope gpos) 0 (.ref it) .none (genEnv scope (cloFrom X.env.cells scope.names []) s₄.heap.objs.size code bi X.env))),
            toks := s₄.toks + 1 + 1 + 1,
            heap := h'.push { cls := .type "generator", data := .fields #[.int s₄.gens.size 0, .str "<genexpr>" (s₄.toks + 1), .str (X.env.qual ++ "<genexpr>") (s₄.toks + 1 + 1)] } }) X.xe { s2 with heap := h3, toks := tk } := by
    intro code h3 tk H3 hx hsz J3 TBd hfp
    obtain ⟨bm, ob, e1, e2, e3, e4, e5, e6, e7, e8⟩ := TB.bm
    refine wpAny_builtinsFor (m := X.mg) (by rw [I2.ok.glob]; exact (I2.mod.glob.keeps I2.bk).extBut hx TB.gP) e1 e2 (hx _ _ e4 (I2.bk _ _ e5)) e6 e7 e8 ?_
    obtain ⟨W, ⟨m, hW⟩, turn⟩ := q _ TBd
    have fpP : ∀ b ∈ fp, b ≠ P := fun b hb z => by
      have := (f2 b hb).1
      rw [z, hP] at this
      cases this
    have f3 : ∀ b ∈ fp, FpOk X pins H3 b ∧ b < h3.objs.size := fun b hb => by
      obtain ⟨o, eo, _⟩ := T.obj _ _ st2 b hb
      exact ⟨⟨hfp b hb, (f2 b hb).2⟩, Nat.lt_of_lt_of_le (Heap.lt_size eo) hsz⟩
    have st3 : tn 0 h3 := T.keep _ _ _ st2 fun b hb o e => hx b o (fpP b hb) e
    exact gen_laid hr hcalm hN ok hg ht he J3 T f3 st3 hW turn
  cases hf : codeAmong gpos ps.toList with
  | none =>
    refine ⟨lim2, wpAny_genexprCodeX hcode (cd.code hPs ht3) (cd.tab hPs) hf fun c' h' tk hx hge hlt hco' hrec htab' _ => ?_⟩
    obtain ⟨o1, vs, f1, tf, fl, tg', inF, tx, tt', op, _, _, _, _, _, _, _, _, _, htr, _⟩ := hco'
    obtain ⟨c2, oc, vs2, t2, ec2, hoc, hdc, hvc⟩ := hrec
    cases ec2
    have nC : H2 c' = none := I2.hok.fresh hge
    have nPc : P ≠ c' := ne_of_none hP nC
    have J3 := LamX.inv_table (t' := tk) (more := #[rawInt gpos.line, rawInt gpos.col, .ref c']) (h' := h') I2 hP (fun b o hb e => hx b o hb e) htab'.2 hge ⟨oc, vs2, t2, hoc, hdc, hvc⟩
    have up : ∀ b o, b ≠ P → H2 b = some o → upd (upd H2 P (.tbl (ps ++ #[rawInt gpos.line, rawInt gpos.col, .ref c']))) c' (LamX.CodeO c' (X.env.qual ++ "<genexpr>")) b = some o := fun b o hb e => by
      rw [upd_ne (ne_of_none e nC), upd_ne hb]
      exact e
    refine cont _ h' tk _ hx (Nat.le_trans hge (Nat.le_of_lt hlt)) J3 ⟨⟨_, by rw [upd_ne nPc, upd_same], htr, fun at_ cv hc => ?_⟩, up⟩ fun b hb => ?_
    · have eL : (ps ++ #[rawInt gpos.line, rawInt gpos.col, Value.ref c']).toList = ps.toList ++ [rawInt gpos.line, rawInt gpos.col, .ref c'] := by simp
      rw [eL] at hc
      rcases LamX.among_app _ ht3 hc with z | z
      · obtain ⟨c1, q1, a1, a2⟩ := hcd3 at_ cv z
        refine ⟨c1, q1, a1, up _ _ (fun z => ?_) a2⟩
        rw [z, hP] at a2
        exact LamX.codeO_ne _ (Option.some.inj a2).symm
      · exact ⟨c', _, z, upd_same⟩
    · obtain ⟨o, eo, _⟩ := T.obj _ _ st2 b hb
      have h1 := (f2 b hb).1
      rw [upd_ne (Nat.ne_of_lt (Nat.lt_of_lt_of_le (Heap.lt_size eo) hge)), upd_ne (fun z => by rw [z, hP] at h1; cases h1)]
      exact h1
  | some cv =>
    refine ⟨lim2, wpAny_genexprCode_hit hcode (cd.code hPs ht3) hf ?_⟩
    exact cont cv s2.heap s2.toks H2 (Heap.ExtBut.refl _ _) (Nat.le_refl _) I2 ⟨⟨ps, hP, ht3, hcd3⟩, fun b o _ e => e⟩ fun b hb => (f2 b hb).1
end
end GenX
set_option Elab.async false
set_option linter.all false
set_option maxRecDepth 100000
set_option maxHeartbeats 2000000
namespace GenX
open PySem PySem.Spec PyProof.Rows L2 GxR GenW
section
variable {X : Cx} {pins : List (Addr × Obj)} {σ : L2.St} {U : List V → V → Hp → (Hp → Prop) → Prop} {Qd : List V → Hp → Prop} {a : Addr} {S : List Addr} {Gh : List V → Heap → Prop}
theorem Pull.elim {n : Nat} {ys : List V} {s s' : Shared} (h : Pull X pins σ U Qd a S Gh n ys s) (wq : Wq S s s') (hG : Gh ys s'.heap) :
    wpAny (model X.prog X.w) X.A.in1 (pyNext (.ref a)) (fun r s1 => KeepS S s' s1 ∧ match r with
    | none => ∃ ys H, Gh ys s'.heap ∧ Inv X pins σ H s1 ∧ Qd ys H
    | some v => ∃ ys y H Nx, Gh ys s'.heap ∧ RelV y v ∧ Inv X pins σ H s1 ∧ U ys y H Nx ∧ (Nx H → (∃ s'', Wq S s1 s'' ∧ Gh (ys ++ [y]) s''.heap) → ∃ m, m < n ∧ Pull X pins σ U Qd a S Gh m (ys ++ [y]) s1)) (fun _ _ => False) s' := by
  cases n with
  | zero =>
    refine thnF (h s' wq hG) fun r s1 ⟨k, q⟩ => ⟨k, ?_⟩
    cases r with
    | none => exact q
    | some v =>
      obtain ⟨ys', y, H, Nx, q1, q2, q3, q4, q5⟩ := q
      exact ⟨ys', y, H, Nx, q1, q2, q3, q4, fun hn ⟨s'', w, g⟩ => (q5 hn s'' w g).elim⟩
  | succ n =>
    refine thnF (h s' wq hG) fun r s1 ⟨k, q⟩ => ⟨k, ?_⟩
    cases r with
    | none => exact q
    | some v =>
      obtain ⟨ys', y, H, Nx, q1, q2, q3, q4, q5⟩ := q
      exact ⟨ys', y, H, Nx, q1, q2, q3, q4, fun hn _ => ⟨n, Nat.lt_succ_self _, q5 hn⟩⟩
theorem Wq.refl0 {s : Shared} : Wq [] s s := ⟨rfl, rfl, fun _ _ _ e => e, fun b hb => absurd hb (by simp)⟩
def uAny (Q : VK) : List V → V → Hp → (Hp → Prop) → Prop := fun _ y H nx => ∃ c, y = .bl c ∧ if c = true then Q (.bl true) H else nx H
theorem any_loop {Q : VK} : ∀ (n : Nat) (ys : List V) (s : Shared), Pull X pins σ (uAny Q) (fun _ => Q (.bl false)) a [] (fun _ _ => True) n ys s →
    codeAny (model X.prog X.w) X.A (.builtin "any.loop" ⟨[.ref a], []⟩) (fun r s' => ∃ b H, r = .ok (.ret (.bool b)) ∧ Inv X pins σ H s' ∧ Q (.bl b) H) s := by
  intro n
  induction n using Nat.strongRecOn with
  | ind n ih =>
    intro ys s hp
    refine codeAny_builtin F.entry_any_loop ?_
    rw [Around.under_plainId F.plain_any_loop _]
    show wpAny _ X.A.in1 (pyNext (.ref a) >>= _) _ _ s
    refine wpAny_bind (thnF (hp.elim .refl0 trivial) fun r s1 ⟨_, q⟩ => ?_)
    cases r with
    | none =>
      obtain ⟨_, H, _, I, q⟩ := q
      exact wpAny_bind (wpAny_rule (wpAny_pure ⟨false, H, rfl, I, q⟩))
    | some v =>
      obtain ⟨ys', y, H, Nx, _, r, I, ⟨c, rfl, u⟩, k⟩ := q
      obtain rfl : v = Value.bool c := r
      refine wpAny_bind (wpAny_holding (wpAny_truthy_bool ?_))
      refine wpAny_bind (wpAny_letGo ?_)
      cases c with
      | true =>
        simp only [if_true] at u ⊢
        exact wpAny_bind (wpAny_rule (wpAny_pure ⟨true, H, rfl, I, u⟩))
      | false =>
        simp only [Bool.false_eq_true, if_false] at u ⊢
        obtain ⟨m, hm, hp'⟩ := k u ⟨s1, .refl0, trivial⟩
        exact wpAny_pure ⟨plainId_quiet F.plain_any_loop _, ih m hm _ s1 hp'⟩
structure PGX (X : Cx) (e : Expr) (t : (List V → V → Hp → (Hp → Prop) → Prop) → (List V → Hp → Prop) → L2.St → Hp → Prop) : Prop where
  run : ∀ (U : List V → V → Hp → (Hp → Prop) → Prop) (Qd : List V → Hp → Prop) (pins : List (Addr × Obj)) (s : Shared) (σ : L2.St) (H : Hp), Inv X pins σ H s → t U Qd σ H →
    wpAny (model X.prog X.w) X.A (eval e X.env) (fun u s5 => ∃ a gi n, u = .ref a ∧ s5.heap.IsGen a gi ∧ a < s5.heap.objs.size ∧ ∀ S Gh, (∀ b ∈ S, s5.heap.objs.size ≤ b) → Pull X pins σ U Qd a S Gh n [] s5) X.xe s
abbrev TGX := (List V → V → Hp → (Hp → Prop) → Prop) → (List V → Hp → Prop) → L2.St → Hp → Prop
def tAnyG (t : TGX) : TE := fun σ H Q => t (uAny Q) (fun _ => Q (.bl false)) σ H
theorem pe_anyG {e : Expr} {t : TGX} {p pos : Pos} (hx : PGX X e t) (hg : Gl X "any") (hm : X.mg "any" = none)
    (he : starEach [e] X.env = (false, eval e X.env) :: starEach [] X.env := by rfl) :
    PE X (.Call (.Name "any" p) [e] [] pos) (tAnyG t) := by
  refine ⟨fun pins s σ H Q I h => ?_⟩
  refine wpAny_Call_Name_kw (ld_blt I hg hm boot_any ?_)
  refine PyProof.Rows.callWith_builtin1 ?_ he (by rfl)
  rw [he]
  show wpAny _ _ (spliced ((false, eval e X.env) :: backTo pos (starEach [] X.env))) _ _ s
  refine Calls.spliced_cons (thn (hx.run _ _ pins s σ H I h) fun u s5 ⟨a, gi, n, eu, hgen, _, hp⟩ => ?_)
  subst eu
  refine Calls.spliced_nil ?_
  refine call_function_tree F.kind_any F.plain_any F.entry_any (F.args_any1 _) ?_
  unfold Builtin.«any»
  refine wpAny_bind (m := oneArg "any" _) (wpAny_pure ?_)
  refine wpAny_bind (wpAny_pyIter_gen hgen ?_)
  refine wpAny_pure ⟨plainId_quiet F.plain_any_loop _, codeAny_mono (any_loop n [] s5 (hp [] _ (by simp))) fun r s' ⟨b, H', er, I', q⟩ => ?_⟩
  subst er
  exact ⟨.bl b, H', I', rfl, q⟩
theorem pg_gen {c P : Addr} {elt tg iter : Expr} {ifs : List Expr} {gpos : Pos} {scope : Scope} {own : List (Str × Nat)} {wi : TI} {g : TG} {tt : TT} {te : TE} {k : Nat}
    (hr : Room k X.A) (hcalm : X.calm = true) (hN : X.N.Nodup) (TB : TabB X.base X.mg c P) (hcode : X.env.code = .ref c) (ok : GOk X.N X.env.scope scope own) (hi : PI X tg iter wi)
    (hg : ∀ (s : Shared) (H : Hp) (C : Addr) (code : Value) (fp : List Addr) (pn : List (Addr × Obj)), PG (gcx X s H (genEnv scope (cloFrom X.env.cells scope.names []) C code builtinsNs X.env) fp pn (X.A.in1.in1.deeper (genEnv scope (cloFrom X.env.cells scope.names []) C code builtinsNs X.env))) tg g)
    (ht : ∀ (s : Shared) (H : Hp) (C : Addr) (code : Value) (fp : List Addr) (pn : List (Addr × Obj)), PTs (gcx X s H (genEnv scope (cloFrom X.env.cells scope.names []) C code builtinsNs X.env) fp pn (X.A.in1.in1.deeper (genEnv scope (cloFrom X.env.cells scope.names []) C code builtinsNs X.env))) ifs tt)
    (he : ∀ (s : Shared) (H : Hp) (C : Addr) (code : Value) (fp : List Addr) (pn : List (Addr × Obj)), PE (gcx X s H (genEnv scope (cloFrom X.env.cells scope.names []) C code builtinsNs X.env) fp pn (X.A.in1.in1.deeper (genEnv scope (cloFrom X.env.cells scope.names []) C code builtinsNs X.env))) elt te)
    (hs : ∀ v, genFold iter X.env v = pure v := by intro _; rfl) : PGX X (.GeneratorExp elt [⟨tg, iter, ifs, 0⟩] scope gpos) (tGen P wi g tt te (own.map (·.2))) :=
  ⟨fun U Qd pins s σ H I h => gen_make hr hcalm hN TB hcode ok hi hg ht he hs I (by exact h)⟩
end
end GenX
set_option Elab.async false
set_option linter.all false
set_option maxRecDepth 100000
set_option maxHeartbeats 2000000
namespace FrzT
open PySem PySem.Spec PyProof.Rows L2
def TupF (H : Hp) (a : Addr) (xs : List V) : Prop := ∃ o : Obj, H a = some (.frz o (.tup xs)) ∧ o.cls = .type "tuple" ∧ o.dict = none
theorem TupF.rd {H : Hp} {a : Addr} {xs : List V} (h : TupF H a xs) : Rd H a (.tup xs) := let ⟨o, e, _⟩ := h; .inr ⟨o, e⟩
def LayT (H : Hp) (xs : List V) (Q : VK) : Prop := ∀ q o, H q = none → o.cls = .type "tuple" → o.dict = none → Q (.ref q) (upd H q (.frz o (.tup xs)))
theorem lay_frz {X : Cx} {pins : List (Addr × Obj)} {σ : L2.St} {H : Hp} {s : Shared} {Q : VK} {its : List Value} {ys : List V} (I : Inv X pins σ H s) (r : Vals ys its) (hz : ys.length ≤ sizeLine) (q : LayT H ys Q) :
    EP X pins σ Q (.ref s.heap.objs.size) { s with heap := s.heap.push { cls := .type "tuple", data := .seq its.toArray } } :=
  ⟨.ref s.heap.objs.size, upd H s.heap.objs.size (.frz { cls := .type "tuple", data := .seq its.toArray } (.tup ys)), I.laid (t' := s.toks) (fun b u e => Heap.get?_push_of_some _ e) (Nat.le_refl _) (show ObjOk X.prog X.w _ _ _ (.frz { cls := .type "tuple", data := .seq its.toArray } (.tup ys)) from ⟨Heap.get?_push_size _ rfl, hz, its, r, IsTup.new _ _⟩), rfl, q _ _ (I.hok.fresh (Nat.le_refl _)) rfl rfl⟩
section
variable {X : Cx} {es : List Expr} {t : TA} {pos : Pos}
def tTupF (t : TA) : TE := fun σ H Q => t σ H fun vs H1 => vs.length ≤ sizeLine ∧ LayT H1 vs Q
theorem pe_tupF {x1} (h : PA X es t) : PE X (.Tuple es x1 pos) (tTupF t) := by
  refine ⟨fun pins s σ H Q I hq => ?_⟩
  refine wpAny_Tuple_spliced (thn (h.run pos pins s σ H _ I hq) fun us s1 ⟨xs, H1, I1, r, z, q⟩ => ⟨by rw [← r.length]; exact z, ?_⟩)
  have hf : H1 s1.heap.objs.size = none := I1.hok.fresh (Nat.le_refl _)
  refine ⟨.ref s1.heap.objs.size, upd H1 s1.heap.objs.size (.frz { cls := .type "tuple", data := .seq us.toArray } (.tup xs)), I1.laid (t' := s1.toks) (fun b u e => Heap.get?_push_of_some _ e) (Nat.le_refl _) ?_, rfl, q _ _ hf rfl rfl⟩
  exact ⟨Heap.get?_push_size _ rfl, z, us, r, ⟨_, Heap.get?_push_size _ rfl, rfl, _, rfl⟩⟩
theorem call_tuple_ofF : CallR X (.type "tuple") (fun xs H Q => ∃ p ys, xs = [.ref p] ∧ ((SqL X.K H p ys ∧ LayT H ys Q) ∨ (SqT X.K H p ys ∧ Q (.ref p) H))) := by
  intro pins s σ H xs us Q I r h
  obtain ⟨p, ys, rfl, h⟩ := h
  obtain ⟨u, rfl, rx⟩ := vals1 r
  cases rx
  rcases h with ⟨hq, q⟩ | ⟨hq, q⟩
  · obtain ⟨its, r', pl, hz⟩ := I.list hq
    have hlen := r'.length
    refine call_tuple_list pl.isList (fun h' kp => ?_) (by simp only [List.size_toArray] <;> omega)
    have I1 : Inv X pins σ H { s with heap := h' } := I.kept (t' := s.toks) kp
    have I2 : Inv X pins σ (upd H h'.objs.size (.frz { cls := .type "tuple", data := .seq its.toArray } (.tup ys))) { s with heap := h'.push { cls := .type "tuple", data := .seq its.toArray } } :=
      I1.laid (t' := s.toks) (fun b o e => Heap.get?_push_of_some _ e) (Nat.le_refl _) (show ObjOk X.prog X.w _ _ _ (.frz { cls := .type "tuple", data := .seq its.toArray } (.tup ys)) from ⟨Heap.get?_push_size _ rfl, hz, its, r', IsTup.new _ _⟩)
    exact ⟨.ref h'.objs.size, _, I2, rfl, q _ _ (I1.hok.fresh (Nat.le_refl _)) rfl rfl⟩
  · obtain ⟨its, r', pl, hz⟩ := I.tuple hq
    exact call_tuple_same pl ⟨.ref p, H, I, rfl, q⟩
def rSlTF (K : PySem.W.Frag) : V → Option Int → Option Int → Hp → VK → Prop := fun x lo hi H Q => ∃ a xs, x = .ref a ∧ SqT K H a xs ∧
  ¬ (HT.sIx xs.length 0 lo = 0 ∧ HT.sIx xs.length xs.length hi = xs.length) ∧ LayT H (cutV xs lo hi) Q
theorem sl_tupF : SlR X (rSlTF X.K) := by
  intro pins s σ H x v vl vu lo hi sl Q I rx hs pl pu h
  obtain ⟨a, xs, rfl, hx, hw, q⟩ := h
  cases rx
  obtain ⟨its, r, ht, hz⟩ := I.tuple hx
  have hlen : its.toArray.size = xs.length := by rw [List.size_toArray]; exact r.length.symm
  refine ⟨"tuple", _, PyProof.Rows.slot_tuple_getitem.lookup, ht.typeIs, ?_⟩
  refine HT.getItem_tuple_cut ht hs pl pu (by rw [hlen]; exact hw) ?_ (by rw [hlen]; exact hz)
  rw [hlen]
  exact lay_frz I ((r.drop (HT.sIx xs.length 0 lo)).take (HT.sIx xs.length xs.length hi - HT.sIx xs.length 0 lo)) (Nat.le_trans (cutV_length xs lo hi) hz) q
def rCatTF (K : PySem.W.Frag) : R2 := fun x y H Q => ∃ a b xs ys, x = .ref a ∧ y = .ref b ∧ SqT K H a xs ∧ SqT K H b ys ∧ xs ≠ [] ∧ xs.length + ys.length ≤ sizeLine ∧
  (ys = [] → Q (.ref a) H) ∧ (ys ≠ [] → LayT H (xs ++ ys) Q)
theorem op_catTF : OpR X (binaryOp .Add) (rCatTF X.K) := by
  intro pins s σ H x y v u Q I rx ry h
  obtain ⟨a, b, xs, ys, rfl, rfl, ha, hb, hx, hz, q1, q2⟩ := h
  cases rx
  cases ry
  obtain ⟨its, r1, p1, _⟩ := I.tuple ha
  obtain ⟨its2, r2, p2, _⟩ := I.tuple hb
  refine HT.cat_tup p1 p2 (fun z => hx (r1.nil_iff.mp z)) (fun z => ⟨.ref a, H, I, rfl, q1 (r2.nil_iff.mp z)⟩) (fun z => ?_) (by rw [← r1.length, ← r2.length]; exact hz)
  exact lay_frz I (r1.append r2) (by rw [List.length_append]; exact hz) (q2 fun w => z (r2.nil_iff.mpr w))
def rCatAF (K : PySem.W.Frag) : R2 := fun x y H Q => ∃ a b xs ys, x = .ref a ∧ y = .ref b ∧ SqT K H a xs ∧ SqT K H b ys ∧ xs.length + ys.length ≤ sizeLine ∧
  (xs = [] → Q (.ref b) H) ∧ (xs ≠ [] → ys = [] → Q (.ref a) H) ∧ (xs ≠ [] → ys ≠ [] → LayT H (xs ++ ys) Q)
theorem op_catAF : OpR X (binaryOp .Add) (rCatAF X.K) := by
  intro pins s σ H x y v u Q I rx ry h
  obtain ⟨a, b, xs, ys, rfl, rfl, ha, hb, hz, q0, q1, q2⟩ := h
  by_cases hx : xs = []
  · exact op_catA pins s σ H _ _ v u Q I rx ry ⟨a, b, xs, ys, rfl, rfl, ha, hb, hz, q0, fun z => absurd hx z, fun z => absurd hx z⟩
  · exact op_catTF pins s σ H _ _ v u Q I rx ry ⟨a, b, xs, ys, rfl, rfl, ha, hb, hx, hz, q1 hx, q2 hx⟩
def rSlAF (K : PySem.W.Frag) : V → Option Int → Option Int → Hp → VK → Prop := fun x lo hi H Q => ∃ a xs, x = .ref a ∧ SqT K H a xs ∧
  (HT.sIx xs.length 0 lo = 0 ∧ HT.sIx xs.length xs.length hi = xs.length → Q (.ref a) H) ∧ (¬ (HT.sIx xs.length 0 lo = 0 ∧ HT.sIx xs.length xs.length hi = xs.length) → LayT H (cutV xs lo hi) Q)
theorem sl_tupAF : SlR X (rSlAF X.K) := by
  intro pins s σ H x v vl vu lo hi sl Q I rx hs pl pu h
  obtain ⟨a, xs, rfl, hx, q1, q2⟩ := h
  by_cases hw : HT.sIx xs.length 0 lo = 0 ∧ HT.sIx xs.length xs.length hi = xs.length
  · exact sl_tupA pins s σ H _ v vl vu lo hi sl Q I rx hs pl pu ⟨a, xs, rfl, hx, q1, fun z => absurd hw z⟩
  · exact sl_tupF pins s σ H _ v vl vu lo hi sl Q I rx hs pl pu ⟨a, xs, rfl, hx, hw, q2 hw⟩
end
end FrzT
set_option Elab.async false
set_option linter.all false
set_option maxRecDepth 100000
set_option maxHeartbeats 2000000
namespace PD
open PySem PySem.Spec PyProof.Rows L2 GxR GenX
abbrev D := PyData
def kD : Key → D
  | .inl i => .int i
  | .inr x => .str x
def KL (K : PySem.W.Frag) (a : Addr) (xs : List V) : Prop := ∃ (o : Obj) (its : Array Value) (n : Nat), K.lookup a = some o ∧ o.cls = .type "list" ∧ o.dict = none ∧ o.data = .seq its n ∧ its.size ≤ sizeLine ∧ Vals xs its.toList
def KT (K : PySem.W.Frag) (a : Addr) (xs : List V) : Prop := ∃ (o : Obj) (its : Array Value) (n : Nat), K.lookup a = some o ∧ o.cls = .type "tuple" ∧ o.dict = none ∧ o.data = .seq its n ∧ its.size ≤ sizeLine ∧ Vals xs its.toList
theorem KT.sq {K : PySem.W.Frag} {a : Addr} {xs : List V} (h : KT K a xs) : ∃ (o : Obj) (its : Array Value) (n : Nat), K.lookup a = some o ∧ o.cls = .type "tuple" ∧ o.data = .seq its n ∧ its.size ≤ sizeLine ∧ Vals xs its.toList := let ⟨o, its, n, e, c, _, r⟩ := h; ⟨o, its, n, e, c, r⟩
def hashT (ks : List Int) : Int := PySem.reduceHash (PySem.Builtin.Tuple.tupleHashOf (ks.map PySem.hashInt))
def TDict (a : Addr) (xs : List (List Int × Addr × Value)) (h : Heap) : Prop :=
  (a == sysModules) = false ∧ xs.length ≤ sizeLine ∧ ∃ o es ep, h.get? a = some o ∧ o.ExactDict ∧ o.data = .dict es ep ∧ es.toList = xs.map (fun x => (⟨hashT x.1, .ref x.2.1, x.2.2⟩ : DictEntry)) ∧ (xs.map (·.1)).Nodup
def KeyAt (K : PySem.W.Frag) (S : Addr → Prop) (H : Hp) (b : Addr) (ks : List Int) : Prop := (¬ S b ∧ FrzT.TupF H b (ks.map V.int)) ∨ KT K b (ks.map V.int)
def isT : List (D × D) → Bool
  | (.list _, _) :: _ => true
  | _ => false
def Fz (H : Hp) (a : Addr) (u : HO) : Prop := ∃ o, H a = some (.frz o u)
theorem Fz.rd {H : Hp} {a : Addr} {u : HO} (h : Fz H a u) : Rd H a u := .inr h
mutual
inductive RelD (K : PySem.W.Frag) (S : Addr → Prop) (H : Hp) : V → D → Prop
  | non : RelD K S H .non .none
  | bl (b : Bool) : RelD K S H (.bl b) (.bool b)
  | int (i : Int) : RelD K S H (.int i) (.int i)
  | str (x : Str) : RelD K S H (.str x) (.str x)
  | lst {a : Addr} {xs : List V} {ds : List D} : ¬ S a → Rd H a (.lst xs) → RelDs K S H xs ds → RelD K S H (.ref a) (.list ds)
  | lstK {a : Addr} {xs : List V} {ds : List D} : KL K a xs → RelDs K S H xs ds → RelD K S H (.ref a) (.list ds)
  | tup {a : Addr} {xs : List V} {ds : List D} : ¬ S a → FrzT.TupF H a xs → RelDs K S H xs ds → RelD K S H (.ref a) (.tuple ds)
  | tupK {a : Addr} {xs : List V} {ds : List D} : KT K a xs → RelDs K S H xs ds → RelD K S H (.ref a) (.tuple ds)
  | dic {a : Addr} {kvs : List (Key × V)} {ds : List (D × D)} : ¬ S a → Fz H a (.dK kvs) → RelKs K S H kvs ds → RelD K S H (.ref a) (.dict ds)
  | dit {a : Addr} {xs : List (List Int × Addr × Value)} {ds : List (D × D)} : ¬ S a → Fz H a (.ext (TDict a xs)) → RelMk K S H xs ds → RelD K S H (.ref a) (.dict ds)
inductive RelDs (K : PySem.W.Frag) (S : Addr → Prop) (H : Hp) : List V → List D → Prop
  | nil : RelDs K S H [] []
  | cons {v : V} {vs : List V} {d : D} {ds : List D} : RelD K S H v d → RelDs K S H vs ds → RelDs K S H (v :: vs) (d :: ds)
inductive RelKs (K : PySem.W.Frag) (S : Addr → Prop) (H : Hp) : List (Key × V) → List (D × D) → Prop
  | nil : RelKs K S H [] []
  | cons {k : Key} {v : V} {kvs : List (Key × V)} {d : D} {ds : List (D × D)} : RelD K S H v d → RelKs K S H kvs ds → RelKs K S H ((k, v) :: kvs) ((kD k, d) :: ds)
inductive RelMk (K : PySem.W.Frag) (S : Addr → Prop) (H : Hp) : List (List Int × Addr × Value) → List (D × D) → Prop
  | mk {xs : List (List Int × Addr × Value)} {ds : List (D × D)} : RelTs K S H xs ds → RelMk K S H xs ((.list [], .none) :: ds)
inductive RelTs (K : PySem.W.Frag) (S : Addr → Prop) (H : Hp) : List (List Int × Addr × Value) → List (D × D) → Prop
  | nil : RelTs K S H [] []
  | cons {ks : List Int} {b : Addr} {u : Value} {v : V} {d : D} {xs : List (List Int × Addr × Value)} {ds : List (D × D)} : KeyAt K S H b ks → RelV v u → RelD K S H v d → RelTs K S H xs ds → RelTs K S H ((ks, b, u) :: xs) ((.tuple (ks.map .int), d) :: ds)
end
structure Gro (C : Addr → Prop) (H H' : Hp) : Prop where
  keep : ∀ a o, H a = some o → ¬ C a → (∀ ps, o ≠ .tbl ps) → H' a = some o
  tabs : ∀ P, TabN H P → TabN H' P
  live : ∀ a, H a ≠ none → H' a ≠ none
def Ext (H H' : Hp) : Prop := ∀ a o, H a = some o → H' a = some o
theorem Ext.refl (H : Hp) : Ext H H := fun _ _ e => e
theorem Ext.trans {H H1 H2 : Hp} (a : Ext H H1) (b : Ext H1 H2) : Ext H H2 := fun x o e => b x o (a x o e)
theorem Ext.new {H : Hp} {p : Addr} {o : HO} (h : H p = none) : Ext H (upd H p o) := fun a u e => by rw [upd_ne (ne_of_none e h)]; exact e
theorem Ext.live {H H' : Hp} (h : Ext H H') {a : Addr} (n : H a ≠ none) : H' a ≠ none := by
  cases q : H a with
  | none => exact absurd q n
  | some o => rw [h a o q]; simp
theorem tabN_mv {H H' : Hp} {P : Addr} (t : TabN H P) (hP : ∀ ps, H P = some (.tbl ps) → H' P = some (.tbl ps)) (hc : ∀ c q, H c = some (LamX.CodeO c q) → H' c = some (LamX.CodeO c q)) : TabN H' P :=
  let ⟨ps, e, t, k⟩ := t
  ⟨ps, hP ps e, t, fun a v z => let ⟨c, q, e1, e2⟩ := k a v z; ⟨c, q, e1, hc c q e2⟩⟩
theorem Ext.gro {C : Addr → Prop} {H H' : Hp} (h : Ext H H') : Gro C H H' := ⟨fun a o e _ _ => h a o e, fun P t => tabN_mv t (fun ps => h _ _) fun c q => h _ _, fun a n => h.live n⟩
def codeHeap (c : Addr) (q : Str) : Heap := { objs := Array.replicate (c + 1) { cls := .none, data := .fields #[.none, .str q 0] } }
theorem codeHeap_at (c : Addr) (q : Str) : (codeHeap c q).get? c = some { cls := .none, data := .fields #[.none, .str q 0] } := by
  simp [codeHeap, Heap.get?]
theorem codeHeap_all (c : Addr) (q : Str) (a : Addr) (o : Obj) (h : (codeHeap c q).get? a = some o) : ∃ vs, o.data = .fields vs := by
  unfold codeHeap Heap.get? at h
  simp only [Array.getElem?_replicate] at h
  split at h
  · cases h
  · split at h
    · cases h; exact ⟨_, rfl⟩
    · cases h
theorem TDict.noCode {a c : Addr} {q : Str} {xs : List (List Int × Addr × Value)} (z : HO.ext (TDict a xs) = LamX.CodeO c q) : False := by
  unfold LamX.CodeO at z
  have e := congrFun (HO.ext.inj z) (codeHeap c q)
  obtain ⟨_, _, o, es, ep, h1, _, h2, _⟩ := e.mpr ⟨_, _, _, codeHeap_at c q, rfl, rfl⟩
  obtain ⟨vs, hv⟩ := codeHeap_all c q a o h1
  rw [hv] at h2
  cases h2
theorem Gro.refl {C : Addr → Prop} (H : Hp) : Gro C H H := (Ext.refl H).gro
theorem Gro.trans {C : Addr → Prop} {H H1 H2 : Hp} (a : Gro C H H1) (b : Gro C H1 H2) : Gro C H H2 := ⟨fun x o e n t => b.keep x o (a.keep x o e n t) n t, fun P t => b.tabs P (a.tabs P t), fun x n => b.live x (a.live x n)⟩
theorem Gro.mono {C C' : Addr → Prop} {H H' : Hp} (h : Gro C H H') (hc : ∀ a, C a → C' a) : Gro C' H H' := ⟨fun a o e n t => h.keep a o e (fun z => n (hc a z)) t, h.tabs, h.live⟩
theorem Gro.tabbed {C : Addr → Prop} {P : Addr} {H H' : Hp} (h0 : TabN H P) (h : TabdN P H H') : Gro C H H' := by
  obtain ⟨ps, e0, _⟩ := h0
  refine ⟨fun a o e _ n => h.2 a o (fun z => n ps (Option.some.inj (e.symm.trans (by rw [z]; exact e0)))) e, fun P' t => ?_, fun a n => ?_⟩
  · by_cases hb : P' = P
    · rw [hb]; exact h.1
    · exact tabN_mv t (fun qs e => h.2 _ _ hb e) fun c q e => h.2 _ _ (fun z => LamX.codeO_ne ps (Option.some.inj (e.symm.trans (by rw [z]; exact e0)))) e
  · by_cases hb : a = P
    · obtain ⟨qs, e, _⟩ := h.1
      rw [hb, e]; simp
    · cases q : H a with
      | none => exact absurd q n
      | some o => rw [h.2 a o hb q]; simp
section
variable {K : PySem.W.Frag} {S S' C : Addr → Prop} {H H' : Hp}
theorem Gro.rd {a : Addr} {u : HO} (g : Gro C H H') (hn : ¬ C a) (hu : ∀ ps, u ≠ .tbl ps) (h : Rd H a u) : Rd H' a u := by
  rcases h with h | ⟨o, h⟩
  · exact .inl (g.keep _ _ h hn hu)
  · exact .inr ⟨o, g.keep _ _ h hn fun ps z => nomatch z⟩
theorem Gro.fz {a : Addr} {u : HO} (g : Gro C H H') (hn : ¬ C a) (h : Fz H a u) : Fz H' a u := let ⟨o, h⟩ := h; ⟨o, g.keep _ _ h hn fun ps z => nomatch z⟩
theorem Gro.tupF {a : Addr} {xs : List V} (g : Gro C H H') (hn : ¬ C a) (h : FrzT.TupF H a xs) : FrzT.TupF H' a xs := let ⟨o, e, c, d⟩ := h; ⟨o, g.keep _ _ e hn (fun ps z => nomatch z), c, d⟩
mutual
theorem RelD.mono' (g : Gro C H H') (h1 : ∀ a, S' a → S a) (h2 : ∀ a, C a → S a) : ∀ (d : D) (v : V), RelD K S H v d → RelD K S' H' v d
  | .none, _, h => by cases h; exact .non
  | .bool b, _, h => by cases h; exact .bl b
  | .int b, _, h => by cases h; exact .int b
  | .str b, _, h => by cases h; exact .str b
  | .list ds, _, h => by
    cases h with
    | lst n s r => exact .lst (fun z => n (h1 _ z)) (g.rd (fun z => n (h2 _ z)) (fun ps z => nomatch z) s) (RelDs.mono' g h1 h2 ds _ r)
    | lstK s r => exact .lstK s (RelDs.mono' g h1 h2 ds _ r)
  | .tuple ds, _, h => by
    cases h with
    | tup n s r => exact .tup (fun z => n (h1 _ z)) (g.tupF (fun z => n (h2 _ z)) s) (RelDs.mono' g h1 h2 ds _ r)
    | tupK s r => exact .tupK s (RelDs.mono' g h1 h2 ds _ r)
  | .dict ds, _, h => by
    cases h with
    | dic n s r => exact .dic (fun z => n (h1 _ z)) (g.fz (fun z => n (h2 _ z)) s) (RelKs.mono' g h1 h2 ds _ r)
    | dit n s r => exact .dit (fun z => n (h1 _ z)) (g.fz (fun z => n (h2 _ z)) s) (RelMk.mono' g h1 h2 ds _ r)
theorem RelDs.mono' (g : Gro C H H') (h1 : ∀ a, S' a → S a) (h2 : ∀ a, C a → S a) : ∀ (d : List D) (v : List V), RelDs K S H v d → RelDs K S' H' v d
  | [], _, h => by cases h; exact .nil
  | d :: ds, _, h => by
    cases h with
    | cons r t => exact .cons (RelD.mono' g h1 h2 d _ r) (RelDs.mono' g h1 h2 ds _ t)
theorem RelKs.mono' (g : Gro C H H') (h1 : ∀ a, S' a → S a) (h2 : ∀ a, C a → S a) : ∀ (d : List (D × D)) (v : List (Key × V)), RelKs K S H v d → RelKs K S' H' v d
  | [], _, h => by cases h; exact .nil
  | (k, d) :: ds, _, h => by
    cases h with
    | cons r t => exact .cons (RelD.mono' g h1 h2 d _ r) (RelKs.mono' g h1 h2 ds _ t)
theorem RelMk.mono' (g : Gro C H H') (h1 : ∀ a, S' a → S a) (h2 : ∀ a, C a → S a) : ∀ (d : List (D × D)) (v : List (List Int × Addr × Value)), RelMk K S H v d → RelMk K S' H' v d
  | [], _, h => by cases h
  | (k, d) :: ds, _, h => by
    cases h with
    | mk r => exact .mk (RelTs.mono' g h1 h2 ds _ r)
theorem RelTs.mono' (g : Gro C H H') (h1 : ∀ a, S' a → S a) (h2 : ∀ a, C a → S a) : ∀ (d : List (D × D)) (v : List (List Int × Addr × Value)), RelTs K S H v d → RelTs K S' H' v d
  | [], _, h => by cases h; exact .nil
  | (k, d) :: ds, _, h => by
    cases h with
    | cons s q r t => exact .cons (s.imp (fun ⟨n, s⟩ => ⟨fun z => n (h1 _ z), g.tupF (fun z => n (h2 _ z)) s⟩) id) q (RelD.mono' g h1 h2 d _ r) (RelTs.mono' g h1 h2 ds _ t)
end
theorem RelD.mono {v : V} {d : D} (r : RelD K S H v d) (g : Gro C H H') (h1 : ∀ a, S' a → S a) (h2 : ∀ a, C a → S a) : RelD K S' H' v d := RelD.mono' g h1 h2 _ _ r
theorem RelDs.mono {v : List V} {d : List D} (r : RelDs K S H v d) (g : Gro C H H') (h1 : ∀ a, S' a → S a) (h2 : ∀ a, C a → S a) : RelDs K S' H' v d := RelDs.mono' g h1 h2 _ _ r
theorem RelKs.mono {v : List (Key × V)} {d : List (D × D)} (r : RelKs K S H v d) (g : Gro C H H') (h1 : ∀ a, S' a → S a) (h2 : ∀ a, C a → S a) : RelKs K S' H' v d := RelKs.mono' g h1 h2 _ _ r
theorem Rd.some {a : Addr} {u : HO} (h : Rd H a u) : H a ≠ none := by
  rcases h with h | ⟨o, h⟩ <;> rw [h] <;> simp
mutual
theorem RelD.away' {p : Addr} (hp : H p = none) (h1 : ∀ a, S' a → S a ∨ a = p) : ∀ (d : D) (v : V), RelD K S H v d → RelD K S' H v d
  | .none, _, h => by cases h; exact .non
  | .bool b, _, h => by cases h; exact .bl b
  | .int b, _, h => by cases h; exact .int b
  | .str b, _, h => by cases h; exact .str b
  | .list ds, _, h => by
    cases h with
    | lst n s r => exact .lst (fun z => (h1 _ z).elim n fun e => Rd.some s (e ▸ hp)) s (RelDs.away' hp h1 ds _ r)
    | lstK s r => exact .lstK s (RelDs.away' hp h1 ds _ r)
  | .tuple ds, _, h => by
    cases h with
    | tup n s r => exact .tup (fun z => (h1 _ z).elim n fun e => Rd.some s.rd (e ▸ hp)) s (RelDs.away' hp h1 ds _ r)
    | tupK s r => exact .tupK s (RelDs.away' hp h1 ds _ r)
  | .dict ds, _, h => by
    cases h with
    | dic n s r => exact .dic (fun z => (h1 _ z).elim n fun e => Rd.some s.rd (e ▸ hp)) s (RelKs.away' hp h1 ds _ r)
    | dit n s r => exact .dit (fun z => (h1 _ z).elim n fun e => Rd.some s.rd (e ▸ hp)) s (RelMk.away' hp h1 ds _ r)
theorem RelDs.away' {p : Addr} (hp : H p = none) (h1 : ∀ a, S' a → S a ∨ a = p) : ∀ (d : List D) (v : List V), RelDs K S H v d → RelDs K S' H v d
  | [], _, h => by cases h; exact .nil
  | d :: ds, _, h => by
    cases h with
    | cons r t => exact .cons (RelD.away' hp h1 d _ r) (RelDs.away' hp h1 ds _ t)
theorem RelKs.away' {p : Addr} (hp : H p = none) (h1 : ∀ a, S' a → S a ∨ a = p) : ∀ (d : List (D × D)) (v : List (Key × V)), RelKs K S H v d → RelKs K S' H v d
  | [], _, h => by cases h; exact .nil
  | (k, d) :: ds, _, h => by
    cases h with
    | cons r t => exact .cons (RelD.away' hp h1 d _ r) (RelKs.away' hp h1 ds _ t)
theorem RelMk.away' {p : Addr} (hp : H p = none) (h1 : ∀ a, S' a → S a ∨ a = p) : ∀ (d : List (D × D)) (v : List (List Int × Addr × Value)), RelMk K S H v d → RelMk K S' H v d
  | [], _, h => by cases h
  | (k, d) :: ds, _, h => by
    cases h with
    | mk r => exact .mk (RelTs.away' hp h1 ds _ r)
theorem RelTs.away' {p : Addr} (hp : H p = none) (h1 : ∀ a, S' a → S a ∨ a = p) : ∀ (d : List (D × D)) (v : List (List Int × Addr × Value)), RelTs K S H v d → RelTs K S' H v d
  | [], _, h => by cases h; exact .nil
  | (k, d) :: ds, _, h => by
    cases h with
    | cons s q r t => exact .cons (s.imp (fun ⟨n, s⟩ => ⟨fun z => (h1 _ z).elim n fun e => Rd.some s.rd (e ▸ hp), s⟩) id) q (RelD.away' hp h1 d _ r) (RelTs.away' hp h1 ds _ t)
end
theorem RelMk.mono {v : List (List Int × Addr × Value)} {d : List (D × D)} (r : RelMk K S H v d) (g : Gro C H H') (h1 : ∀ a, S' a → S a) (h2 : ∀ a, C a → S a) : RelMk K S' H' v d := RelMk.mono' g h1 h2 _ _ r
theorem RelMk.away {p : Addr} {v : List (List Int × Addr × Value)} {d : List (D × D)} (r : RelMk K S H v d) (hp : H p = none) (h1 : ∀ a, S' a → S a ∨ a = p) : RelMk K S' H v d := RelMk.away' hp h1 _ _ r
theorem RelMk.isT {v : List (List Int × Addr × Value)} {d : List (D × D)} (r : RelMk K S H v d) : PD.isT d = true := by
  cases r; rfl
theorem RelD.away {p : Addr} {v : V} {d : D} (r : RelD K S H v d) (hp : H p = none) (h1 : ∀ a, S' a → S a ∨ a = p) : RelD K S' H v d := RelD.away' hp h1 _ _ r
theorem RelDs.away {p : Addr} {v : List V} {d : List D} (r : RelDs K S H v d) (hp : H p = none) (h1 : ∀ a, S' a → S a ∨ a = p) : RelDs K S' H v d := RelDs.away' hp h1 _ _ r
theorem RelKs.away {p : Addr} {v : List (Key × V)} {d : List (D × D)} (r : RelKs K S H v d) (hp : H p = none) (h1 : ∀ a, S' a → S a ∨ a = p) : RelKs K S' H v d := RelKs.away' hp h1 _ _ r
theorem RelD.ext (g : Ext H H') {v : V} {d : D} (r : RelD K S H v d) : RelD K S H' v d := r.mono (C := fun _ => False) g.gro (fun _ z => z) fun _ z => z.elim
theorem RelDs.ext (g : Ext H H') {v : List V} {d : List D} (r : RelDs K S H v d) : RelDs K S H' v d := r.mono (C := fun _ => False) g.gro (fun _ z => z) fun _ z => z.elim
theorem RelKs.ext (g : Ext H H') {v : List (Key × V)} {d : List (D × D)} (r : RelKs K S H v d) : RelKs K S H' v d := r.mono (C := fun _ => False) g.gro (fun _ z => z) fun _ z => z.elim
theorem RelDs.length : ∀ {vs : List V} {ds : List D}, RelDs K S H vs ds → vs.length = ds.length
  | _, _, .nil => rfl
  | _, _, .cons _ t => congrArg (· + 1) t.length
theorem RelDs.get : ∀ {vs : List V} {ds : List D} {i : Nat} {d : D}, RelDs K S H vs ds → ds[i]? = some d → ∃ v, vs[i]? = some v ∧ RelD K S H v d
  | _, _, _, _, .nil, e => by simp at e
  | _, _, 0, _, .cons r _, e => by simp at e; subst e; exact ⟨_, rfl, r⟩
  | _, _, i + 1, d, .cons _ t, e => by
    obtain ⟨v, h1, h2⟩ := RelDs.get (i := i) (d := d) t (by simpa using e)
    exact ⟨v, by simpa using h1, h2⟩
theorem RelDs.getV : ∀ {vs : List V} {ds : List D} {i : Nat} {v : V}, RelDs K S H vs ds → vs[i]? = some v → ∃ d, ds[i]? = some d ∧ RelD K S H v d
  | _, _, _, _, .nil, e => by simp at e
  | _, _, 0, _, .cons r _, e => by simp at e; subst e; exact ⟨_, rfl, r⟩
  | _, _, i + 1, d, .cons _ t, e => by
    obtain ⟨v, h1, h2⟩ := RelDs.getV (i := i) (v := d) t (by simpa using e)
    exact ⟨v, by simpa using h1, h2⟩
theorem RelDs.append : ∀ {xs ys : List V} {ds es : List D}, RelDs K S H xs ds → RelDs K S H ys es → RelDs K S H (xs ++ ys) (ds ++ es)
  | _, _, _, _, .nil, s => s
  | _, _, _, _, .cons r t, s => .cons r (RelDs.append t s)
theorem RelDs.take : ∀ {xs : List V} {ds : List D} (n : Nat), RelDs K S H xs ds → RelDs K S H (xs.take n) (ds.take n)
  | _, _, 0, _ => .nil
  | _, _, _ + 1, .nil => .nil
  | _, _, n + 1, .cons r t => .cons r (RelDs.take n t)
theorem RelDs.drop : ∀ {xs : List V} {ds : List D} (n : Nat), RelDs K S H xs ds → RelDs K S H (xs.drop n) (ds.drop n)
  | _, _, 0, r => r
  | _, _, _ + 1, .nil => .nil
  | _, _, n + 1, .cons _ t => RelDs.drop n t
theorem RelDs.set {v : V} {d : D} (r : RelD K S H v d) : ∀ {xs : List V} {ds : List D} (i : Nat), RelDs K S H xs ds → RelDs K S H (xs.set i v) (ds.set i d)
  | _, _, _, .nil => .nil
  | _, _, 0, .cons _ t => .cons r t
  | _, _, i + 1, .cons q t => .cons q (RelDs.set r i t)
def RelO (K : PySem.W.Frag) (S : Addr → Prop) (H : Hp) (a : Addr) : D → Prop
  | .list ds => ∃ xs, H a = some (.lst xs) ∧ RelDs K S H xs ds
  | .dict ds => (∃ kvs, H a = some (.dK kvs) ∧ RelKs K S H kvs ds) ∨ ∃ xs, H a = some (.ext (TDict a xs)) ∧ RelMk K S H xs ds
  | _ => False
theorem RelO.mono {a : Addr} {d : D} (g : Gro C H H') (h1 : ∀ a, S' a → S a) (h2 : ∀ a, C a → S a) (hn : ¬ C a) (r : RelO K S H a d) : RelO K S' H' a d := by
  cases d with
  | list ds => obtain ⟨xs, e, r⟩ := r; exact ⟨xs, g.keep _ _ e hn (fun ps z => nomatch z), r.mono g h1 h2⟩
  | dict ds =>
    rcases r with ⟨xs, e, r⟩ | ⟨xs, e, r⟩
    · exact .inl ⟨xs, g.keep _ _ e hn (fun ps z => nomatch z), r.mono g h1 h2⟩
    · exact .inr ⟨xs, g.keep _ _ e hn (fun ps z => nomatch z), r.mono g h1 h2⟩
  | _ => exact r.elim
theorem RelO.some {a : Addr} {d : D} (r : RelO K S H a d) : H a ≠ none := by
  cases d with
  | list ds => obtain ⟨xs, e, r⟩ := r; rw [e]; simp
  | dict ds => rcases r with ⟨xs, e, r⟩ | ⟨xs, e, r⟩ <;> (rw [e]; simp)
  | _ => exact r.elim
theorem RelO.away {p a : Addr} {d : D} (r : RelO K S H a d) (hp : H p = none) (h1 : ∀ a, S' a → S a ∨ a = p) : RelO K S' H a d := by
  cases d with
  | list ds => obtain ⟨xs, e, r⟩ := r; exact ⟨xs, e, r.away hp h1⟩
  | dict ds =>
    rcases r with ⟨xs, e, r⟩ | ⟨xs, e, r⟩
    · exact .inl ⟨xs, e, r.away hp h1⟩
    · exact .inr ⟨xs, e, r.away hp h1⟩
  | _ => exact r.elim
def isDc : D → Bool
  | .dict _ => true
  | _ => false
theorem RelO.relD {a : Addr} {d : D} (hd : isDc d = false) (h1 : ∀ a, S' a → S a) (hn : ¬ S' a) (r : RelO K S H a d) : RelD K S' H (.ref a) d := by
  cases d with
  | list ds => obtain ⟨xs, e, r⟩ := r; exact .lst hn (.inl e) (r.mono (C := fun _ => False) (Gro.refl _) h1 fun _ z => z.elim)
  | dict ds => cases hd
  | _ => exact r.elim
theorem RelO.mut {a : Addr} {d : D} (r : RelO K S H a d) : ∃ u, H a = Option.some u ∧ Mut (Option.some u) ∧ ∀ ps, u ≠ .tbl ps := by
  cases d with
  | list ds => obtain ⟨xs, e, r⟩ := r; exact ⟨_, e, True.intro, fun ps z => nomatch z⟩
  | dict ds => rcases r with ⟨xs, e, r⟩ | ⟨xs, e, r⟩ <;> exact ⟨_, e, True.intro, fun ps z => nomatch z⟩
  | _ => exact r.elim
theorem RelO.noCode {a : Addr} {d : D} {u : HO} (r : RelO K S H a d) (e : H a = Option.some u) : ∀ c q, u ≠ LamX.CodeO c q := by
  cases d with
  | list ds => obtain ⟨xs, e2, r⟩ := r; rw [e] at e2; cases e2; (intro c q z; first | exact PD.TDict.noCode z | (unfold LamX.CodeO at z; cases z))
  | dict ds => rcases r with ⟨xs, e2, r⟩ | ⟨xs, e2, r⟩ <;> (rw [e] at e2; cases e2; (intro c q z; first | exact PD.TDict.noCode z | (unfold LamX.CodeO at z; cases z)))
  | _ => exact r.elim
theorem gro_frz {a : Addr} {u o : HO} (h : H a = Option.some o) (hn : ∀ ps, o ≠ .tbl ps) (hc : ∀ c q, o ≠ LamX.CodeO c q := by (intro c q z; first | exact PD.TDict.noCode z | (unfold LamX.CodeO at z; cases z))) : Gro (fun b => b = a) H (upd H a u) := by
  refine ⟨fun b o' e n _ => by rw [upd_ne n]; exact e, fun P t => tabN_mv t (fun ps e => ?_) fun c q e => ?_, fun b n => ?_⟩
  · have : P ≠ a := fun z => by rw [z, h] at e; exact hn ps (Option.some.inj e)
    rw [upd_ne this]; exact e
  · have : c ≠ a := fun z => by rw [z, h] at e; exact hc _ q (Option.some.inj e)
    rw [upd_ne this]; exact e
  · by_cases z : b = a
    · rw [z, upd_same]; simp
    · rw [upd_ne z]; exact n
theorem RelO.relF {a : Addr} {d : D} {u : HO} {od : Obj} (hd : isDc d = true) (e : H a = Option.some u) (hu : S a) (h1 : ∀ a, S' a → S a) (hn : ¬ S' a) (r : RelO K S H a d) : RelD K S' (upd H a (.frz od u)) (.ref a) d := by
  have hm : ∀ {o : HO}, H a = Option.some o → (∀ ps, o ≠ .tbl ps) → (∀ c q, o ≠ LamX.CodeO c q) → Gro (fun b => b = a) H (upd H a (.frz od u)) := fun h hn hc => gro_frz h hn hc
  cases d with
  | dict ds =>
    rcases r with ⟨xs, e2, r⟩ | ⟨xs, e2, r⟩
    · rw [e] at e2; cases e2
      exact .dic hn ⟨od, upd_same⟩ (r.mono (hm e (fun ps z => nomatch z) (by (intro c q z; first | exact PD.TDict.noCode z | (unfold LamX.CodeO at z; cases z)))) h1 fun b z => z ▸ hu)
    · rw [e] at e2; cases e2
      exact .dit hn ⟨od, upd_same⟩ (r.mono (hm e (fun ps z => nomatch z) (by (intro c q z; first | exact PD.TDict.noCode z | (unfold LamX.CodeO at z; cases z)))) h1 fun b z => z ▸ hu)
  | _ => cases hd
def isBg : D → Bool
  | .tuple _ => true
  | _ => false
def BagAt (K : PySem.W.Frag) (S : Addr → Prop) (H : Hp) (a b : Addr) (ds : List D) : Prop :=
  ∃ (x0 x1 : Int) (gs : List Int) (vc : V) (dc : D), ds = [.int x0, .int x1, .list (gs.map .int), dc] ∧ H a = some (.lst [.int x0, .int x1, .ref b, vc]) ∧ H b = some (.lst (gs.map V.int)) ∧ RelD K S H vc dc
theorem BagAt.ne {a b : Addr} {ds : List D} (h : BagAt K S H a b ds) : a ≠ b := fun e => by
  obtain ⟨x0, x1, gs, vc, dc, _, h1, h2, _⟩ := h
  rw [e, h2] at h1
  have h3 := HO.lst.inj (Option.some.inj h1)
  have h4 := congrArg (fun l => l[2]?) h3
  simp only [List.getElem?_map, List.getElem?_cons_succ, List.getElem?_cons_zero] at h4
  cases q : gs[2]? with
  | none => rw [q] at h4; cases h4
  | some g => rw [q] at h4; cases h4
def Own (K : PySem.W.Frag) (S : Addr → Prop) (H : Hp) (A : Nat → Addr) (i : Nat) : D → Prop
  | .tuple ds => BagAt K S H (A i) (A (i + 1000)) ds
  | d => RelO K S H (A i) d
def Pt (A : Nat → Addr) (i : Nat) (d : D) (a : Addr) : Prop := a = A i ∨ (isBg d = true ∧ a = A (i + 1000))
theorem RelO.notB {a : Addr} {d : D} (r : RelO K S H a d) : isBg d = false := by
  cases d <;> first | rfl | exact r.elim
theorem RelO.toOwn {A : Nat → Addr} {i : Nat} {d : D} (r : RelO K S H (A i) d) : Own K S H A i d := by
  cases d <;> first | exact r | exact r.elim
theorem Own.relO {A : Nat → Addr} {i : Nat} {d : D} (r : Own K S H A i d) (h : isBg d = false) : RelO K S H (A i) d := by
  cases d <;> first | exact r | cases h
theorem Pt.of_not {A : Nat → Addr} {i : Nat} {d : D} {a : Addr} (h : isBg d = false) (p : Pt A i d a) : a = A i := p.elim id fun z => by rw [h] at z; cases z.1
theorem Pt.self {A : Nat → Addr} {i : Nat} {d : D} : Pt A i d (A i) := .inl rfl
theorem Pt.imp {A : Nat → Addr} {i : Nat} {d e : D} {a : Addr} (h : isBg d = true → isBg e = true) (p : Pt A i d a) : Pt A i e a := Or.imp id (fun z => ⟨h z.1, z.2⟩) p
theorem Own.mono {A : Nat → Addr} {i : Nat} {d : D} (g : Gro C H H') (h1 : ∀ a, S' a → S a) (h2 : ∀ a, C a → S a) (hn : ∀ a, Pt A i d a → ¬ C a) (r : Own K S H A i d) : Own K S' H' A i d := by
  cases d with
  | tuple ds =>
    obtain ⟨x0, x1, gs, vc, dc, e, e1, e2, r⟩ := r
    exact ⟨x0, x1, gs, vc, dc, e, g.keep _ _ e1 (hn _ (.inl rfl)) (fun ps z => nomatch z), g.keep _ _ e2 (hn _ (.inr ⟨rfl, rfl⟩)) (fun ps z => nomatch z), r.mono g h1 h2⟩
  | _ => exact (Own.relO r rfl).mono g h1 h2 (hn _ (.inl rfl)) |>.toOwn
theorem Own.some {A : Nat → Addr} {i : Nat} {d : D} {a : Addr} (r : Own K S H A i d) (p : Pt A i d a) : H a ≠ none := by
  cases d with
  | tuple ds =>
    obtain ⟨x0, x1, gs, vc, dc, e, e1, e2, r⟩ := r
    rcases p with p | ⟨_, p⟩
    · rw [p, e1]; simp
    · rw [p, e2]; simp
  | _ => rw [p.of_not rfl]; exact (Own.relO r rfl).some
theorem Own.away {p : Addr} {A : Nat → Addr} {i : Nat} {d : D} (r : Own K S H A i d) (hp : H p = none) (h1 : ∀ a, S' a → S a ∨ a = p) : Own K S' H A i d := by
  cases d with
  | tuple ds =>
    obtain ⟨x0, x1, gs, vc, dc, e, e1, e2, r⟩ := r
    exact ⟨x0, x1, gs, vc, dc, e, e1, e2, r.away hp h1⟩
  | _ => exact ((Own.relO r rfl).away hp h1).toOwn
theorem Own.at_ {A A' : Nat → Addr} {i j : Nat} {d : D} (r : Own K S H A i d) (h1 : A' j = A i) (h2 : isBg d = true → A' (j + 1000) = A (i + 1000)) : Own K S H A' j d := by
  cases d with
  | tuple ds => show BagAt K S H (A' j) (A' (j + 1000)) ds; rw [h1, h2 rfl]; exact r
  | _ => exact RelO.toOwn (by rw [h1]; exact Own.relO r rfl)
def RR (K : PySem.W.Frag) (S : Addr → Prop) (H : Hp) (v : V) (d : D) : Prop := RelD K S H v d ∨ ∃ a, v = .ref a ∧ RelO K S H a d
theorem RR.ext (g : Ext H H') {v : V} {d : D} (r : RR K S H v d) : RR K S H' v d := r.imp (·.ext g) fun ⟨a, e, r⟩ => ⟨a, e, r.mono (C := fun _ => False) g.gro (fun _ z => z) (fun _ z => z.elim) id⟩
theorem RR.list {v : V} {ds : List D} (r : RR K S H v (.list ds)) : ∃ a xs, v = .ref a ∧ SqL K H a xs ∧ RelDs K S H xs ds := by
  rcases r with r | ⟨a, e, xs, h, r⟩
  · cases r with
    | lst n s r => exact ⟨_, _, rfl, .inl s, r⟩
    | lstK s r => exact ⟨_, _, rfl, .inr s, r⟩
  · exact ⟨a, xs, e, SqL.of h, r⟩
theorem RR.tuple {v : V} {ds : List D} (r : RR K S H v (.tuple ds)) : ∃ a xs, v = .ref a ∧ SqT K H a xs ∧ RelDs K S H xs ds := by
  rcases r with r | ⟨a, e, r⟩
  · cases r with
    | tup n s r => exact ⟨_, _, rfl, .inl s.rd, r⟩
    | tupK s r => exact ⟨_, _, rfl, .inr (KT.sq s), r⟩
  · exact r.elim
theorem RR.dict2 {v : V} {ds : List (D × D)} (r : RR K S H v (.dict ds)) : (∃ a kvs, v = .ref a ∧ Rd H a (.dK kvs) ∧ RelKs K S H kvs ds) ∨ ∃ a xs, v = .ref a ∧ Rd H a (.ext (TDict a xs)) ∧ RelMk K S H xs ds := by
  rcases r with r | ⟨a, e, r⟩
  · cases r with
    | dic n s r => exact .inl ⟨_, _, rfl, s.rd, r⟩
    | dit n s r => exact .inr ⟨_, _, rfl, s.rd, r⟩
  · rcases r with ⟨xs, h, r⟩ | ⟨xs, h, r⟩
    · exact .inl ⟨a, xs, e, .inl h, r⟩
    · exact .inr ⟨a, xs, e, .inl h, r⟩
theorem RR.dict {v : V} {ds : List (D × D)} (hn : isT ds = false) (r : RR K S H v (.dict ds)) : ∃ a kvs, v = .ref a ∧ Rd H a (.dK kvs) ∧ RelKs K S H kvs ds := by
  rcases r.dict2 with h | ⟨a, xs, _, _, h⟩
  · exact h
  · rw [h.isT] at hn; cases hn
theorem RR.int {v : V} {i : Int} (r : RR K S H v (.int i)) : v = .int i := by
  rcases r with r | ⟨a, e, r⟩
  · cases r; rfl
  · exact r.elim
theorem RR.bool {v : V} {i : Bool} (r : RR K S H v (.bool i)) : v = .bl i := by
  rcases r with r | ⟨a, e, r⟩
  · cases r; rfl
  · exact r.elim
theorem RR.str {v : V} {i : Str} (r : RR K S H v (.str i)) : v = .str i := by
  rcases r with r | ⟨a, e, r⟩
  · cases r; rfl
  · exact r.elim
theorem RR.none {v : V} (r : RR K S H v .none) : v = .non := by
  rcases r with r | ⟨a, e, r⟩
  · cases r; rfl
  · exact r.elim
end
abbrev Rt := (V × D) ⊕ (Addr × HO)
def RelG (K : PySem.W.Frag) (S : Addr → Prop) (H : Hp) : Rt → Prop
  | .inl r => RelD K S H r.1 r.2
  | .inr p => ¬ S p.1 ∧ H p.1 = some p.2 ∧ ∀ ps, p.2 ≠ .tbl ps
section
variable {K : PySem.W.Frag} {S S' C : Addr → Prop} {H H' : Hp}
theorem RelG.mono {r : Rt} (h : RelG K S H r) (g : Gro C H H') (h1 : ∀ a, S' a → S a) (h2 : ∀ a, C a → S a) : RelG K S' H' r := by
  cases r with
  | inl r => exact RelD.mono h g h1 h2
  | inr p => exact ⟨fun z => h.1 (h1 _ z), g.keep _ _ h.2.1 (fun z => h.1 (h2 _ z)) h.2.2, h.2.2⟩
theorem RelG.away {p : Addr} {r : Rt} (h : RelG K S H r) (hp : H p = none) (h1 : ∀ a, S' a → S a ∨ a = p) : RelG K S' H r := by
  cases r with
  | inl r => exact RelD.away h hp h1
  | inr q => exact ⟨fun z => (h1 _ z).elim h.1 fun e => (by have := h.2.1; rw [e, hp] at this; exact nomatch this), h.2⟩
theorem RelG.ext (g : Ext H H') {r : Rt} (h : RelG K S H r) : RelG K S H' r := h.mono (C := fun _ => False) g.gro (fun _ z => z) fun _ z => z.elim
end
structure Frm where
  K : PySem.W.Frag
  /-- what the callers hold: not ours to touch but for io -/
  S : Addr → Prop
  /-- the parameters that are written -/
  io : List Nat
  T : List Addr
  H0 : Hp
  A0 : Nat → Addr
  /-- values that stay while a loop runs -/
  G : List Rt := []
  /-- the def answers with a new list or dict -/
  new : Bool := false
abbrev Rho := List (Option (Bool × D))
def Ow (A : Nat → Addr) (ρ : Rho) (a : Addr) : Prop := ∃ (i : Nat) (d : D), ρ[i]? = some (some (true, d)) ∧ Pt A i d a
def Av (F : Frm) (B : List Addr) (A : Nat → Addr) (ρ : Rho) (a : Addr) : Prop := F.S a ∨ a ∈ B ∨ Ow A ρ a
structure Ev (F : Frm) (B : List Addr) (A : Nat → Addr) (σ : L2.St) (H : Hp) (ρ : Rho) : Prop where
  len : ρ.length = σ.length
  plain : ∀ (i : Nat) (d : D), ρ[i]? = some (some (false, d)) → ∃ v, σ[i]? = some (some v) ∧ RelD F.K (Av F B A ρ) H v d
  own : ∀ (i : Nat) (d : D), ρ[i]? = some (some (true, d)) → σ[i]? = some (some (.ref (A i))) ∧ Own F.K (Av F B A ρ) H A i d
  inj : ∀ (i j : Nat) (d e : D) (a : Addr), ρ[i]? = some (some (true, d)) → ρ[j]? = some (some (true, e)) → Pt A i d a → Pt A j e a → i = j
  nS : ∀ (i : Nat) (d : D) (a : Addr), ρ[i]? = some (some (true, d)) → Pt A i d a → i ∉ F.io → ¬ F.S a ∧ a ∉ B ∧ F.H0 a = none
  ios : ∀ i ∈ F.io, ∃ d : D, ρ[i]? = some (some (true, d)) ∧ A i = F.A0 i ∧ (isBg d = true → A (i + 1000) = F.A0 (i + 1000)) ∧ ∀ a, Pt A i d a → F.S a ∧ a ∉ B
  few : ρ.length ≤ 1000
  occ : ∀ a, F.S a → H a ≠ none
  occB : ∀ b ∈ B, H b ≠ none ∧ F.H0 b = none ∧ ¬ F.S b
  chg : Gro (fun a => ∃ i ∈ F.io, a = F.A0 i ∨ a = F.A0 (i + 1000)) F.H0 H
  tabs : ∀ P ∈ F.T, TabN H P
  roots : ∀ r ∈ F.G, RelG F.K (Av F B A ρ) H r
section
variable {F : Frm} {B : List Addr} {A : Nat → Addr} {σ : L2.St} {H H' : Hp} {ρ ρ' : Rho}
theorem Ev.occA (E : Ev F B A σ H ρ) : ∀ a, Av F B A ρ a → H a ≠ none := fun a h => by
  rcases h with h | h | ⟨i, d, e, h⟩
  · exact E.occ a h
  · exact (E.occB a h).1
  · exact (E.own i d e).2.some h
theorem Ev.fresh (E : Ev F B A σ H ρ) {p : Addr} (h : H p = none) : ¬ Av F B A ρ p := fun z => E.occA p z h
theorem Ev.ext (E : Ev F B A σ H ρ) (g : Ext H H') : Ev F B A σ H' ρ where
  len := E.len
  plain := fun i d e => let ⟨v, h1, h2⟩ := E.plain i d e; ⟨v, h1, h2.ext g⟩
  own := fun i d e => let ⟨h1, h2⟩ := E.own i d e; ⟨h1, h2.mono (C := fun _ => False) g.gro (fun _ z => z) (fun _ z => z.elim) fun _ _ => id⟩
  inj := E.inj
  nS := E.nS
  ios := E.ios
  few := E.few
  occ := fun a h => by
    cases q : H a with
    | none => exact absurd q (E.occ a h)
    | some o => rw [g a o q]; simp
  occB := fun b hb => ⟨by
    cases q : H b with
    | none => exact absurd q (E.occB b hb).1
    | some o => rw [g b o q]; simp, (E.occB b hb).2⟩
  chg := E.chg.trans g.gro
  tabs := fun P hP => (g.gro (C := fun _ => False)).tabs P (E.tabs P hP)
  roots := fun r hr => (E.roots r hr).ext g
theorem Ev.hide {p : Addr} (E : Ev F B A σ H ρ) (hp : H p = none) : ∀ {H' : Hp}, Ext H H' → H' p ≠ none → Ev F (p :: B) A σ H' ρ := by
  intro H' g hn
  have h0 : F.H0 p = none := by
    cases q : F.H0 p with
    | none => rfl
    | some o => exact absurd hp (E.chg.live p (by rw [q]; simp))
  have hS : ∀ a, Av F (p :: B) A ρ a → Av F B A ρ a ∨ a = p := fun a h => by
    rcases h with h | h | h
    · exact .inl (.inl h)
    · rcases List.mem_cons.mp h with h | h
      · exact .inr h
      · exact .inl (.inr (.inl h))
    · exact .inl (.inr (.inr h))
  have E' := E.ext g
  exact ⟨E.len, fun i d e => let ⟨v, h1, h2⟩ := E.plain i d e; ⟨v, h1, (h2.away hp hS).ext g⟩, fun i d e => let ⟨h1, h2⟩ := E.own i d e; ⟨h1, (h2.away hp hS).mono (C := fun _ => False) g.gro (fun _ z => z) (fun _ z => z.elim) fun _ _ => id⟩, E.inj,
    fun i d a e hpt hi => let ⟨h1, h2, h3⟩ := E.nS i d a e hpt hi; ⟨h1, fun z => by
      rcases List.mem_cons.mp z with z | z
      · exact (E.own i d e).2.some hpt (z ▸ hp)
      · exact h2 z, h3⟩, fun i hi => let ⟨d, h4, h1, h2, h3⟩ := E.ios i hi; ⟨d, h4, h1, h2, fun a hpt => ⟨(h3 a hpt).1, fun z => by
      rcases List.mem_cons.mp z with z | z
      · exact (E.own i d h4).2.some hpt (z ▸ hp)
      · exact (h3 a hpt).2 z⟩⟩, E.few, E'.occ, fun b hb => by
      rcases List.mem_cons.mp hb with hb | hb
      · rw [hb]
        exact ⟨hn, h0, fun z => E.occ p z hp⟩
      · exact E'.occB b hb, E'.chg, E'.tabs, fun r hr => ((E.roots r hr).away hp hS).ext g⟩
theorem Ev.unhide {p : Addr} (E : Ev F (p :: B) A σ H ρ) : Ev F B A σ H ρ := by
  have hS : ∀ a, Av F B A ρ a → Av F (p :: B) A ρ a := fun a h => by
    rcases h with h | h | h
    · exact .inl h
    · exact .inr (.inl (List.mem_cons_of_mem _ h))
    · exact .inr (.inr h)
  exact ⟨E.len, fun i d e => let ⟨v, h1, h2⟩ := E.plain i d e; ⟨v, h1, h2.mono (C := fun _ => False) (Gro.refl _) hS fun _ z => z.elim⟩, fun i d e => let ⟨h1, h2⟩ := E.own i d e; ⟨h1, h2.mono (C := fun _ => False) (Gro.refl _) hS (fun _ z => z.elim) fun _ _ => id⟩, E.inj,
    fun i d a e hpt hi => let ⟨h1, h2, h3⟩ := E.nS i d a e hpt hi; ⟨h1, fun z => h2 (List.mem_cons_of_mem _ z), h3⟩, fun i hi => let ⟨d, h1, h2, h3, h4⟩ := E.ios i hi; ⟨d, h1, h2, h3, fun a hpt => ⟨(h4 a hpt).1, fun z => (h4 a hpt).2 (List.mem_cons_of_mem _ z)⟩⟩, E.few, E.occ, fun b hb => E.occB b (List.mem_cons_of_mem _ hb), E.chg, E.tabs, fun r hr => (E.roots r hr).mono (C := fun _ => False) (Gro.refl _) hS fun _ z => z.elim⟩
theorem Ev.quiet (E : Ev F B A σ H ρ) (g : Gro (fun _ => False) H H') : Ev F B A σ H' ρ where
  len := E.len
  plain := fun i d e => let ⟨v, h1, h2⟩ := E.plain i d e; ⟨v, h1, h2.mono g (fun _ z => z) (fun _ z => z.elim)⟩
  own := fun i d e => let ⟨h1, h2⟩ := E.own i d e; ⟨h1, h2.mono g (fun _ z => z) (fun _ z => z.elim) fun _ _ => id⟩
  inj := E.inj
  nS := E.nS
  ios := E.ios
  few := E.few
  occ := fun a h => g.live a (E.occ a h)
  occB := fun b hb => ⟨g.live b (E.occB b hb).1, (E.occB b hb).2⟩
  chg := E.chg.trans (g.mono fun _ z => z.elim)
  tabs := fun P hP => g.tabs P (E.tabs P hP)
  roots := fun r hr => (E.roots r hr).mono g (fun _ z => z) (fun _ z => z.elim)
structure Lv (eff : List Nat) (ρ ρ' : Rho) : Prop where
  keep : ∀ i : Nat, i ∉ eff → ρ'[i]? = ρ[i]?
  own : ∀ (i : Nat) (d : D), ρ'[i]? = some (some (true, d)) → ∃ e : D, ρ[i]? = some (some (true, e)) ∧ (isBg d = true → isBg e = true)
theorem Lv.refl (ρ : Rho) : Lv [] ρ ρ := ⟨fun _ _ => rfl, fun i d e => ⟨d, e, id⟩⟩
theorem Lv.trans {e1 e2 : List Nat} {ρ1 ρ2 : Rho} (a : Lv e1 ρ ρ1) (b : Lv e2 ρ1 ρ2) : Lv (e1 ++ e2) ρ ρ2 :=
  ⟨fun i h => (b.keep i fun z => h (List.mem_append_right _ z)).trans (a.keep i fun z => h (List.mem_append_left _ z)), fun i d e => let ⟨d1, e1, k1⟩ := b.own i d e; let ⟨d2, e2, k2⟩ := a.own i d1 e1; ⟨d2, e2, fun z => k2 (k1 z)⟩⟩
theorem Lv.ow {eff : List Nat} (h : Lv eff ρ ρ') {a : Addr} (z : Ow A ρ' a) : Ow A ρ a := by
  obtain ⟨i, d, e, p⟩ := z
  obtain ⟨d', e', k⟩ := h.own i d e
  exact ⟨i, d', e', p.imp k⟩
theorem Lv.av {eff : List Nat} (h : Lv eff ρ ρ') {a : Addr} (z : Av F B A ρ' a) : Av F B A ρ a := by
  rcases z with z | z | z
  · exact .inl z
  · exact .inr (.inl z)
  · exact .inr (.inr (h.ow z))
def Val (F : Frm) (B : List Addr) (A : Nat → Addr) (ρ : Rho) (H : Hp) (dep : List Nat) (v : V) (d : D) : Prop :=
  RelD F.K (Av F B A ρ) H v d ∨ ∃ i ∈ dep, ρ[i]? = some (some (true, d)) ∧ v = .ref (A i) ∧ isBg d = false
theorem Val.rr {dep : List Nat} {v : V} {d : D} (E : Ev F B A σ H ρ) (h : Val F B A ρ H dep v d) : RR F.K (Av F B A ρ) H v d := by
  rcases h with h | ⟨i, _, e, rfl, hb⟩
  · exact .inl h
  · exact .inr ⟨_, rfl, (E.own i d e).2.relO hb⟩
theorem Val.later {dep eff : List Nat} {v : V} {d : D} (h : Val F B A ρ H dep v d) (g : Gro (Ow A ρ) H H') (l : Lv eff ρ ρ') (hd : ∀ i ∈ dep, i ∉ eff) : Val F B A ρ' H' dep v d := by
  rcases h with h | ⟨i, hi, e, rfl, hb⟩
  · exact .inl (h.mono g (fun a z => l.av z) fun a z => .inr (.inr z))
  · exact .inr ⟨i, hi, by rw [l.keep i (hd i hi)]; exact e, rfl, hb⟩
theorem Val.plain {v : V} {d : D} (h : Val F B A ρ H [] v d) : RelD F.K (Av F B A ρ) H v d := by
  rcases h with h | ⟨i, hi, _⟩
  · exact h
  · exact absurd hi (by simp)
structure Post (F : Frm) (B : List Addr) (A : Nat → Addr) (σ : L2.St) (H : Hp) (ρ : Rho) (eff : List Nat) (H' : Hp) (ρ' : Rho) : Prop where
  env : Ev F B A σ H' ρ'
  gro : Gro (Ow A ρ) H H'
  lv : Lv eff ρ ρ'
theorem Post.refl (E : Ev F B A σ H ρ) : Post F B A σ H ρ [] H ρ := ⟨E, Gro.refl _, Lv.refl _⟩
theorem Post.trans {e1 e2 : List Nat} {H1 H2 : Hp} {ρ1 ρ2 : Rho} (a : Post F B A σ H ρ e1 H1 ρ1) (b : Post F B A σ H1 ρ1 e2 H2 ρ2) : Post F B A σ H ρ (e1 ++ e2) H2 ρ2 :=
  ⟨b.env, a.gro.trans (b.gro.mono fun x z => a.lv.ow z), a.lv.trans b.lv⟩
theorem Post.ext {eff : List Nat} {H1 H2 : Hp} {ρ1 : Rho} (a : Post F B A σ H ρ eff H1 ρ1) (g : Ext H1 H2) : Post F B A σ H ρ eff H2 ρ1 := ⟨a.env.ext g, a.gro.trans g.gro, a.lv⟩
end
abbrev M (α : Type) := Rho → Option (α × Rho)
def rd (F : Frm) (m : M D) (dep eff : List Nat) : TE := fun σ H Q => ∃ B A ρ d ρ', Ev F B A σ H ρ ∧ m ρ = some (d, ρ') ∧ ∀ v H', Post F B A σ H ρ eff H' ρ' → Val F B A ρ' H' dep v d → Q v H'
def rdT (F : Frm) (m : M Bool) (eff : List Nat) : TT := fun σ H Q => ∃ B A ρ b ρ', Ev F B A σ H ρ ∧ m ρ = some (b, ρ') ∧ ∀ H', Post F B A σ H ρ eff H' ρ' → Q b H'
def rdA (F : Frm) (m : M (List D)) (dep eff : List Nat) : TA := fun σ H Q => ∃ B A ρ ds ρ', Ev F B A σ H ρ ∧ m ρ = some (ds, ρ') ∧ ∀ vs H', Post F B A σ H ρ eff H' ρ' → Paired (Val F B A ρ' H' dep) vs ds → Q vs H'
section
variable {X : Cx}
theorem PE.mono {e : Expr} {t t' : TE} (h : PE X e t) (hm : ∀ σ H Q, t' σ H Q → t σ H Q) : PE X e t' := ⟨fun pins s σ H Q I q => h.run pins s σ H Q I (hm σ H Q q)⟩
theorem PT.mono {e : Expr} {t t' : TT} (h : PT X e t) (hm : ∀ σ H Q, t' σ H Q → t σ H Q) : PT X e t' := ⟨fun pins s σ H Q I q => h.run pins s σ H Q I (hm σ H Q q)⟩
theorem PA.mono {es : List Expr} {t t' : TA} (h : PA X es t) (hm : ∀ σ H Q, t' σ H Q → t σ H Q) : PA X es t' := ⟨fun p pins s σ H Q I q => h.run p pins s σ H Q I (hm σ H Q q)⟩
theorem PS.mono {st : Stmt} {t t' : TS} (h : PS X st t) (hm : ∀ Dn σ H, t' Dn σ H → t Dn σ H) : PS X st t' := ⟨fun pins s σ H Dn I q => h.run pins s σ H Dn I (hm Dn σ H q)⟩
end
end PD
set_option Elab.async false
set_option linter.all false
set_option maxRecDepth 100000
set_option maxHeartbeats 2000000
namespace PD
open PySem PySem.Spec PyProof.Rows L2 GxR
section
variable {X : Cx} {F : Frm} {pos p : Pos}
def mVar (i : Nat) : M D := fun ρ => match ρ[i]? with
  | some (some (true, d)) => if isBg d = true then none else some (d, ρ)
  | some (some (false, d)) => some (d, ρ)
  | _ => none
def mFrz (i : Nat) : M D := fun ρ => match ρ[i]? with
  | some (some (true, d)) => if isBg d = true then none else some (d, ρ.set i (some (false, d)))
  | some (some (false, d)) => some (d, ρ)
  | _ => none
def mC (d : D) : M D := fun ρ => some (d, ρ)
theorem mVar_some {i : Nat} {ρ ρ' : Rho} {d : D} (h : mVar i ρ = some (d, ρ')) : ρ' = ρ ∧ ∃ b, ρ[i]? = some (some (b, d)) ∧ (b = true → isBg d = false) := by
  unfold mVar at h
  split at h
  · rename_i d' e
    split at h
    · cases h
    · rename_i hb
      cases h
      exact ⟨rfl, true, e, fun _ => by simpa using hb⟩
  · rename_i d' e
    cases h
    exact ⟨rfl, false, e, fun z => by cases z⟩
  · cases h
theorem x_var {i : Nat} {x : Str} (hN : X.N[i]? = some x) (hv : Vis X.env.scope x) (hd : (x == ("__debug__" : Str)) = false := by decide) (hcd : (x == ("__classdict__" : Str)) = false := by decide) : PE X (.Name x pos) (rd F (mVar i) [i] []) := by
  refine PE.mono (pe_var hN hv hd hcd) fun σ H Q ⟨B, A, ρ, d, ρ', E, hm, k⟩ => ?_
  obtain ⟨rfl, b, e, hb⟩ := mVar_some hm
  cases b with
  | true =>
    obtain ⟨h1, h2⟩ := E.own i d e
    exact ⟨_, h1, k _ H (Post.refl E) (.inr ⟨i, by simp, e, rfl, hb rfl⟩)⟩
  | false =>
    obtain ⟨v, h1, h2⟩ := E.plain i d e
    exact ⟨_, h1, k _ H (Post.refl E) (.inl h2)⟩
theorem get_set {ρ : Rho} {i j : Nat} {z : Option (Bool × D)} : (ρ.set i z)[j]? = if i = j then (if i < ρ.length then some z else none) else ρ[j]? := by
  rw [List.getElem?_set]
theorem Gro.fresh' {C : Addr → Prop} {H H1 H2 : Hp} {b : Addr} (g : Gro C H H1) (hb : H b = none) (w : Gro (fun a => a = b) H1 H2) : Gro C H H2 :=
  ⟨fun a o e n t => w.keep a o (g.keep a o e n t) (fun z => by rw [z, hb] at e; cases e) t, fun P t => w.tabs P (g.tabs P t), fun a n => w.live a (g.live a n)⟩
theorem Ev.frzG {B : List Addr} {A : Nat → Addr} {σ : L2.St} {H H' : Hp} {ρ : Rho} {i : Nat} {d : D} (E : Ev F B A σ H ρ) (hi : i ∉ F.io) (e : ρ[i]? = some (some (true, d))) (hb : isBg d = false) (g : Gro (fun a => a = A i) H H')
    (hr : ∀ S', (∀ a, S' a → Av F B A ρ a) → ¬ S' (A i) → RelD F.K S' H' (.ref (A i)) d) :
    Post F B A σ H ρ [i] H' (ρ.set i (some (false, d))) ∧ RelD F.K (Av F B A (ρ.set i (some (false, d)))) H' (.ref (A i)) d := by
  have own' : ∀ (j : Nat) (e' : D), (ρ.set i (some (false, d)))[j]? = some (some (true, e')) → i ≠ j ∧ ρ[j]? = some (some (true, e')) := fun j e' h => by
    by_cases hij : i = j
    · subst hij
      rw [get_set, if_pos rfl] at h
      split at h <;> cases h
    · rw [get_set, if_neg hij] at h
      exact ⟨hij, h⟩
  have L : Lv [i] ρ (ρ.set i (some (false, d))) := ⟨fun j hj => by rw [get_set, if_neg (fun z => hj (by rw [z]; simp))], fun j e' h => ⟨e', (own' j e' h).2, id⟩⟩
  have hn : ¬ Av F B A (ρ.set i (some (false, d))) (A i) := fun z => by
    obtain ⟨n1, n2, n3⟩ := E.nS i d _ e .self hi
    rcases z with z | z | ⟨j, e', h, z⟩
    · exact n1 z
    · exact n2 z
    · obtain ⟨h1, h2⟩ := own' j e' h
      exact h1 (E.inj i j d e' _ e h2 .self z)
  have hC : ∀ a, a = A i → Av F B A ρ a := fun a z => .inr (.inr ⟨i, d, e, .inl z⟩)
  have hR := hr (Av F B A (ρ.set i (some (false, d)))) (fun a z => L.av z) hn
  refine ⟨⟨⟨?_, fun j e' h => ?_, fun j e' h => ?_, fun j k e1 e2 a h1 h2 => E.inj j k e1 e2 a (own' j e1 h1).2 (own' k e2 h2).2, fun j e' a h => E.nS j e' a (own' j e' h).2, fun j hj => ?_, by rw [List.length_set]; exact E.few, fun a h => g.live a (E.occ a h), fun b h => ⟨g.live b (E.occB b h).1, (E.occB b h).2⟩, E.chg.fresh' (E.nS i d _ e .self hi).2.2 g, fun P h => g.tabs P (E.tabs P h), fun r hr => (E.roots r hr).mono g (fun a z => L.av z) hC⟩, g.mono fun a z => ⟨i, d, e, .inl z⟩, L⟩, hR⟩
  · rw [List.length_set]; exact E.len
  · by_cases hij : i = j
    · subst hij
      rw [get_set, if_pos rfl] at h
      split at h
      · cases h
        exact ⟨_, (E.own i d e).1, hR⟩
      · cases h
    · rw [get_set, if_neg hij] at h
      obtain ⟨v, h1, h2⟩ := E.plain j e' h
      exact ⟨v, h1, h2.mono g (fun a z => L.av z) hC⟩
  · obtain ⟨h1, h2⟩ := own' j e' h
    obtain ⟨g1, g2⟩ := E.own j e' h2
    exact ⟨g1, g2.mono g (fun a z => L.av z) hC fun a p z => h1 (E.inj i j d e' _ e h2 .self (z ▸ p))⟩
  · obtain ⟨d', a4, a1⟩ := E.ios j hj
    refine ⟨d', ?_, a1⟩
    rw [get_set, if_neg (fun z => hi (by rw [z]; exact hj))]
    exact a4
theorem Ev.frz {B : List Addr} {A : Nat → Addr} {σ : L2.St} {H : Hp} {ρ : Rho} {i : Nat} {d : D} (E : Ev F B A σ H ρ) (hi : i ∉ F.io) (e : ρ[i]? = some (some (true, d))) (hb : isBg d = false) (hd : isDc d = false) :
    Post F B A σ H ρ [i] H (ρ.set i (some (false, d))) ∧ RelD F.K (Av F B A (ρ.set i (some (false, d)))) H (.ref (A i)) d :=
  E.frzG hi e hb (Gro.refl _) fun S' h1 h2 => ((E.own i d e).2.relO hb).relD hd h1 h2
theorem Ev.frzD {B : List Addr} {A : Nat → Addr} {σ : L2.St} {H : Hp} {ρ : Rho} {i : Nat} {d : D} {u : HO} {od : Obj} (E : Ev F B A σ H ρ) (hi : i ∉ F.io) (e : ρ[i]? = some (some (true, d))) (hb : isBg d = false) (hd : isDc d = true) (hu : H (A i) = some u) (ht : ∀ ps, u ≠ .tbl ps) :
    Post F B A σ H ρ [i] (upd H (A i) (.frz od u)) (ρ.set i (some (false, d))) ∧ RelD F.K (Av F B A (ρ.set i (some (false, d)))) (upd H (A i) (.frz od u)) (.ref (A i)) d :=
  E.frzG hi e hb (gro_frz hu ht (((E.own i d e).2.relO hb).noCode hu)) fun S' h1 h2 => ((E.own i d e).2.relO hb).relF hd hu (.inr (.inr ⟨i, d, e, .inl rfl⟩)) h1 h2
def tFz (t : TE) : TE := fun σ H Q => t σ H fun v H1 => Q v H1 ∨ ∃ a u, H1 a = some u ∧ Mut (some u) ∧ ∀ od, Q v (upd H1 a (.frz od u))
theorem pe_fz {e : Expr} {t : TE} (h : PE X e t) : PE X e (tFz t) := by
  refine ⟨fun pins s σ H Q I hw => ?_⟩
  refine thn (h.run pins s σ H _ I hw) fun v s1 ⟨x, H1, I1, r, q⟩ => ?_
  rcases q with q | ⟨a, u, hu, mu, q⟩
  · exact ⟨x, H1, I1, r, q⟩
  · obtain ⟨od, I2⟩ := I1.lock hu mu
    exact ⟨x, _, I2, r, q od⟩
theorem x_frz {i : Nat} {x : Str} (hN : X.N[i]? = some x) (hv : Vis X.env.scope x) (hi : i ∉ F.io) (hd : (x == ("__debug__" : Str)) = false := by decide) (hcd : (x == ("__classdict__" : Str)) = false := by decide) : PE X (.Name x pos) (rd F (mFrz i) [] [i]) := by
  refine PE.mono (pe_fz (pe_var hN hv hd hcd)) fun σ H Q ⟨B, A, ρ, d, ρ', E, hm, k⟩ => ?_
  unfold mFrz at hm
  split at hm
  · rename_i d' e
    split at hm
    · cases hm
    · rename_i hb
      cases hm
      have hb : isBg d = false := by simpa using hb
      cases hc : isDc d with
      | false =>
        obtain ⟨P, r⟩ := E.frz hi e hb hc
        exact ⟨_, (E.own i d e).1, .inl (k _ H P (.inl r))⟩
      | true =>
        obtain ⟨u, hu, mu, ht⟩ := ((E.own i d e).2.relO hb).mut
        refine ⟨_, (E.own i d e).1, .inr ⟨A i, u, hu, mu, fun od => ?_⟩⟩
        obtain ⟨P, r⟩ := E.frzD (od := od) hi e hb hc hu ht
        exact k _ _ P (.inl r)
  · rename_i d' e
    cases hm
    obtain ⟨v, h1, h2⟩ := E.plain i d e
    exact ⟨v, h1, .inl (k _ H ⟨E, Gro.refl _, ⟨fun _ _ => rfl, fun i d e => ⟨d, e, id⟩⟩⟩ (.inl h2))⟩
  · cases hm
theorem x_c {e : Expr} {v : V} {d : D} (h : PE X e (tC v)) (hr : ∀ S H, RelD F.K S H v d) : PE X e (rd F (mC d) [] []) := by
  refine PE.mono h fun σ H Q ⟨B, A, ρ, d', ρ', E, hm, k⟩ => ?_
  cases hm
  exact k v H (Post.refl E) (.inl (hr _ _))
theorem x_int {i : Int} {j} : PE X (.Constant (.int i) j pos) (rd F (mC (.int i)) [] []) := x_c pe_int fun _ _ => .int i
theorem x_bl {i : Bool} {j} : PE X (.Constant (.bool i) j pos) (rd F (mC (.bool i)) [] []) := x_c pe_bl fun _ _ => .bl i
theorem x_str {i : Str} {j} : PE X (.Constant (.str i) j pos) (rd F (mC (.str i)) [] []) := x_c pe_str fun _ _ => .str i
theorem x_non {j} : PE X (.Constant .none j pos) (rd F (mC .none) [] []) := x_c pe_non fun _ _ => .non
def rop (K : PySem.W.Frag) (g : D → D → Option D) : R2 := fun x y H Q => ∃ S d1 d2 d, RR K S H x d1 ∧ RR K S H y d2 ∧ g d1 d2 = some d ∧ (∀ a, S a → H a ≠ none) ∧ ∀ v H', Ext H H' → RelD K S H' v d → Q v H'
def mBin (g : D → D → Option D) (m1 m2 : M D) : M D := fun ρ => match m1 ρ with
  | some (d1, ρ1) => (match m2 ρ1 with
    | some (d2, ρ2) => (match g d1 d2 with
      | some d => some (d, ρ2)
      | none => none)
    | none => none)
  | none => none
theorem mBin_some {g : D → D → Option D} {m1 m2 : M D} {ρ ρ2 : Rho} {d : D} (h : mBin g m1 m2 ρ = some (d, ρ2)) : ∃ d1 ρ1 d2, m1 ρ = some (d1, ρ1) ∧ m2 ρ1 = some (d2, ρ2) ∧ g d1 d2 = some d := by
  unfold mBin at h
  split at h
  · rename_i d1 ρ1 e1
    split at h
    · rename_i d2 ρ2' e2
      split at h
      · rename_i d' e3
        cases h
        exact ⟨d1, ρ1, d2, e1, e2, e3⟩
      · cases h
    · cases h
  · cases h
theorem rd_bin {g : D → D → Option D} {m1 m2 : M D} {dep1 eff1 dep2 eff2 : List Nat} (hd : ∀ i ∈ dep1, i ∉ eff2) {σ : L2.St} {H : Hp} {Q : VK} (h : rd F (mBin g m1 m2) [] (eff1 ++ eff2) σ H Q) : tOp (rop F.K g) (rd F m1 dep1 eff1) (rd F m2 dep2 eff2) σ H Q := by
  obtain ⟨B, A, ρ, d, ρ2, E, hm, k⟩ := h
  obtain ⟨d1, ρ1, d2, e1, e2, e3⟩ := mBin_some hm
  refine ⟨B, A, ρ, d1, ρ1, E, e1, fun v1 H1 P1 r1 => ⟨B, A, ρ1, d2, ρ2, P1.env, e2, fun v2 H2 P2 r2 => ?_⟩⟩
  refine ⟨Av F B A ρ2, d1, d2, d, (r1.later P2.gro P2.lv hd).rr P2.env, r2.rr P2.env, e3, P2.env.occA, fun v H' g r => ?_⟩
  exact k v H' ((P1.trans P2).ext g) (.inl r)
theorem x_bin {op : Operator} {a b : Expr} {g : D → D → Option D} {m1 m2 : M D} {dep1 eff1 dep2 eff2 : List Nat} (ho : OpR X (binaryOp op) (rop F.K g)) (ha : PE X a (rd F m1 dep1 eff1)) (hb : PE X b (rd F m2 dep2 eff2)) (hd : ∀ i ∈ dep1, i ∉ eff2 := by decide) :
    PE X (.BinOp a op b pos) (rd F (mBin g m1 m2) [] (eff1 ++ eff2)) := PE.mono (pe_op ho ha hb) fun σ H Q h => rd_bin hd h
theorem x_cmp {op : CmpOp} {a b : Expr} {g : D → D → Option D} {m1 m2 : M D} {dep1 eff1 dep2 eff2 : List Nat} (ho : OpR X (compareOp op) (rop F.K g)) (ha : PE X a (rd F m1 dep1 eff1)) (hb : PE X b (rd F m2 dep2 eff2)) (hd : ∀ i ∈ dep1, i ∉ eff2 := by decide)
    (hm : behindInMarks op b = false := by first | exact nobehind _ (by decide) (by decide) | rfl) :
    PE X (.Compare a [op] [b] pos) (rd F (mBin g m1 m2) [] (eff1 ++ eff2)) := PE.mono (pe_cmpR ho ha hb hm) fun σ H Q h => rd_bin hd h
theorem x_ix {a b : Expr} {g : D → D → Option D} {m1 m2 : M D} {dep1 eff1 dep2 eff2 : List Nat} (ho : IxR X (rop F.K g)) (ha : PE X a (rd F m1 dep1 eff1)) (hb : PE X b (rd F m2 dep2 eff2)) (hs : PlainIx b) (hd : ∀ i ∈ dep1, i ∉ eff2 := by decide) :
    PE X (.Subscript a b pos) (rd F (mBin g m1 m2) [] (eff1 ++ eff2)) := PE.mono (pe_ix ho ha hb hs) fun σ H Q h => rd_bin hd h
def mNil : M (List D) := fun ρ => some ([], ρ)
def mCons (m : M D) (ms : M (List D)) : M (List D) := fun ρ => match m ρ with
  | some (d, ρ1) => (match ms ρ1 with
    | some (ds, ρ2) => some (d :: ds, ρ2)
    | none => none)
  | none => none
theorem mCons_some {m : M D} {ms : M (List D)} {ρ ρ2 : Rho} {ds : List D} (h : mCons m ms ρ = some (ds, ρ2)) : ∃ d ρ1 ds', m ρ = some (d, ρ1) ∧ ms ρ1 = some (ds', ρ2) ∧ ds = d :: ds' := by
  unfold mCons at h
  split at h
  · rename_i d ρ1 e1
    split at h
    · rename_i ds' ρ2' e2
      cases h
      exact ⟨d, ρ1, ds', e1, e2, rfl⟩
    · cases h
  · cases h
theorem xa_nil : PA X [] (rdA F mNil [] []) := by
  refine PA.mono pa_nil fun σ H Q ⟨B, A, ρ, ds, ρ', E, hm, k⟩ => ?_
  cases hm
  exact k [] H (Post.refl E) .nil
theorem xa_cons {e : Expr} {es : List Expr} {m : M D} {ms : M (List D)} {dep1 eff1 dep2 eff2 : List Nat} (ha : PE X e (rd F m dep1 eff1)) (hr : PA X es (rdA F ms dep2 eff2)) (hd : ∀ i ∈ dep1, i ∉ eff2 := by decide)
    (hs : starEach (e :: es) X.env = (false, eval e X.env) :: starEach es X.env := by rfl) : PA X (e :: es) (rdA F (mCons m ms) (dep1 ++ dep2) (eff1 ++ eff2)) := by
  refine PA.mono (pa_cons ha hr hs) fun σ H Q ⟨B, A, ρ, ds, ρ2, E, hm, k⟩ => ?_
  obtain ⟨d, ρ1, ds', e1, e2, rfl⟩ := mCons_some hm
  refine ⟨B, A, ρ, d, ρ1, E, e1, fun v1 H1 P1 r1 => ⟨B, A, ρ1, ds', ρ2, P1.env, e2, fun vs H2 P2 r2 => ?_⟩⟩
  refine k _ H2 (P1.trans P2) (.cons ?_ ?_)
  · exact (r1.later P2.gro P2.lv hd).imp id fun ⟨i, hi, r⟩ => ⟨i, List.mem_append_left _ hi, r⟩
  · exact Paired.mapP r2 fun a b r => r.imp id fun ⟨i, hi, r⟩ => ⟨i, List.mem_append_right _ hi, r⟩
theorem Val.rrs {B : List Addr} {A : Nat → Addr} {σ : L2.St} {H : Hp} {ρ : Rho} {dep : List Nat} {vs : List V} {ds : List D} (E : Ev F B A σ H ρ) (h : Paired (Val F B A ρ H dep) vs ds) : Paired (RR F.K (Av F B A ρ) H) vs ds := Paired.mapP h fun _ _ r => r.rr E
theorem Val.plains {B : List Addr} {A : Nat → Addr} {H : Hp} {ρ : Rho} : ∀ {vs : List V} {ds : List D}, Paired (Val F B A ρ H []) vs ds → RelDs F.K (Av F B A ρ) H vs ds
  | _, _, .nil => .nil
  | _, _, .cons r t => .cons r.plain (Val.plains t)
def rcall (K : PySem.W.Frag) (g : List D → Option D) : List V → Hp → VK → Prop := fun xs H Q => ∃ S ds d, Paired (RR K S H) xs ds ∧ g ds = some d ∧ (∀ a, S a → H a ≠ none) ∧ ∀ v H', Ext H H' → RelD K S H' v d → Q v H'
def mApp (g : List D → Option D) (m : M (List D)) : M D := fun ρ => match m ρ with
  | some (ds, ρ1) => (match g ds with
    | some d => some (d, ρ1)
    | none => none)
  | none => none
theorem mApp_some {g : List D → Option D} {m : M (List D)} {ρ ρ1 : Rho} {d : D} (h : mApp g m ρ = some (d, ρ1)) : ∃ ds, m ρ = some (ds, ρ1) ∧ g ds = some d := by
  unfold mApp at h
  split at h
  · rename_i ds ρ1' e1
    split at h
    · rename_i d' e2
      cases h
      exact ⟨ds, e1, e2⟩
    · cases h
  · cases h
theorem rd_app {g : List D → Option D} {m : M (List D)} {dep eff : List Nat} {σ : L2.St} {H : Hp} {Q : VK} (h : rd F (mApp g m) [] eff σ H Q) : rdA F m dep eff σ H fun vs H1 => rcall F.K g vs H1 Q := by
  obtain ⟨B, A, ρ, d, ρ1, E, hm, k⟩ := h
  obtain ⟨ds, e1, e2⟩ := mApp_some hm
  exact ⟨B, A, ρ, ds, ρ1, E, e1, fun vs H1 P1 r1 => ⟨Av F B A ρ1, ds, d, Val.rrs P1.env r1, e2, P1.env.occA, fun v H' g r => k v H' (P1.ext g) (.inl r)⟩⟩
theorem x_callB {x : Str} {id : String} {e : Expr} {es : List Expr} {g : List D → Option D} {m : M (List D)} {dep eff : List Nat} (hc : CallR X (.builtin id) (rcall F.K g)) (hg : Gl X x) (hm : X.mg x = none) (hv : bootBuiltins x = some (.builtin id)) (ha : PA X (e :: es) (rdA F m dep eff)) (hn : x ≠ "__name__" := by decide) (hdb : (x == ("__debug__" : Str)) = false := by decide)
    (he : starEach (e :: es) X.env = (false, eval e X.env) :: starEach es X.env := by rfl) (hpl : (backTo pos (starEach es X.env)).any (·.1) = false := by rfl) : PE X (.Call (.Name x p) (e :: es) [] pos) (rd F (mApp g m) [] eff) :=
  PE.mono (pe_callB hc hg hm hv ha hn hdb he hpl) fun σ H Q h => rd_app h
theorem x_callTy {x : Str} {T : String} {e : Expr} {es : List Expr} {g : List D → Option D} {m : M (List D)} {dep eff : List Nat} (hc : CallR X (.type T) (rcall F.K g)) (hg : Gl X x) (hm : X.mg x = none) (hv : bootBuiltins x = some (.type T)) (ha : PA X (e :: es) (rdA F m dep eff)) (hn : x ≠ "__name__" := by decide) (hdb : (x == ("__debug__" : Str)) = false := by decide)
    (he : starEach (e :: es) X.env = (false, eval e X.env) :: starEach es X.env := by rfl) (hpl : (backTo pos (starEach es X.env)).any (·.1) = false := by rfl) : PE X (.Call (.Name x p) (e :: es) [] pos) (rd F (mApp g m) [] eff) :=
  PE.mono (pe_callTy hc hg hm hv ha hn hdb he hpl) fun σ H Q h => rd_app h
def gTupD : List D → Option D := fun ds => if ds.length ≤ sizeLine then some (.tuple ds) else none
def gLstD : List D → Option D := fun ds => if ds.length ≤ sizeLine then some (.list ds) else none
theorem x_tup {es : List Expr} {kk : Nat} {m : M (List D)} {eff : List Nat} (h : PE X (.Tuple es kk pos) (FrzT.tTupF (rdA F m [] eff))) : PE X (.Tuple es kk pos) (rd F (mApp gTupD m) [] eff) := by
  refine PE.mono h fun σ H Q ⟨B, A, ρ, d, ρ1, E, hm, k⟩ => ?_
  obtain ⟨ds, e1, e2⟩ := mApp_some hm
  unfold gTupD at e2
  split at e2
  · rename_i hl
    cases e2
    refine ⟨B, A, ρ, ds, ρ1, E, e1, fun vs H1 P1 r1 => ?_⟩
    have r := Val.plains r1
    refine ⟨by rw [r.length]; exact hl, fun q o hq hc hd => ?_⟩
    exact k _ _ (P1.ext (Ext.new hq)) (.inl (.tup (P1.env.fresh hq) ⟨o, upd_same, hc, hd⟩ (r.ext (Ext.new hq))))
  · cases e2
theorem x_lst {es : List Expr} {m : M (List D)} {eff : List Nat} (h : PE X (.List es pos) (tLst (rdA F m [] eff))) : PE X (.List es pos) (rd F (mApp gLstD m) [] eff) := by
  refine PE.mono h fun σ H Q ⟨B, A, ρ, d, ρ1, E, hm, k⟩ => ?_
  obtain ⟨ds, e1, e2⟩ := mApp_some hm
  unfold gLstD at e2
  split at e2
  · rename_i hl
    cases e2
    refine ⟨B, A, ρ, ds, ρ1, E, e1, fun vs H1 P1 r1 => ?_⟩
    have r := Val.plains r1
    refine ⟨by rw [r.length]; exact hl, fun q hq => ?_⟩
    exact k _ _ (P1.ext (Ext.new hq)) (.inl (.lst (P1.env.fresh hq) (.inl upd_same) (r.ext (Ext.new hq))))
  · cases e2
def mB (m : M D) : M Bool := fun ρ => match m ρ with
  | some (.bool b, ρ1) => some (b, ρ1)
  | _ => none
theorem mB_some {m : M D} {ρ ρ1 : Rho} {b : Bool} (h : mB m ρ = some (b, ρ1)) : m ρ = some (.bool b, ρ1) := by
  unfold mB at h
  split at h
  · rename_i b' ρ1' e
    cases h
    exact e
  · cases h
theorem rd_tB {m : M D} {dep eff : List Nat} {σ : L2.St} {H : Hp} {Q : Bool → Hp → Prop} (h : rdT F (mB m) eff σ H Q) : tB (rd F m dep eff) σ H Q := by
  obtain ⟨B, A, ρ, b, ρ1, E, hm, k⟩ := h
  refine ⟨B, A, ρ, _, ρ1, E, mB_some hm, fun v H1 P1 r1 => ⟨b, (r1.rr P1.env).bool, k H1 P1⟩⟩
theorem t_val {e : Expr} {m : M D} {dep eff : List Nat} (h : PE X e (rd F m dep eff)) (he : ∀ whole, isTrue e X.env whole = (do let v ← whole; standAt e.pos; holding [v] (truthy v)) := by intro _; rfl) : PT X e (rdT F (mB m) eff) := PT.mono (pt_val h he) fun _ _ _ h => rd_tB h
def mAndT (m1 m2 : M Bool) : M Bool := fun ρ => match m1 ρ with
  | some (true, ρ1) => m2 ρ1
  | some (false, ρ1) => some (false, ρ1)
  | none => none
def mOrT (m1 m2 : M Bool) : M Bool := fun ρ => match m1 ρ with
  | some (false, ρ1) => m2 ρ1
  | some (true, ρ1) => some (true, ρ1)
  | none => none
def mNotT (m : M Bool) : M Bool := fun ρ => match m ρ with
  | some (b, ρ1) => some (!b, ρ1)
  | none => none
theorem Post.more {B : List Addr} {A : Nat → Addr} {σ : L2.St} {H H' : Hp} {ρ ρ' : Rho} {e1 e2 : List Nat} (P : Post F B A σ H ρ e1 H' ρ') (h : ∀ i ∈ e1, i ∈ e2) : Post F B A σ H ρ e2 H' ρ' := ⟨P.env, P.gro, fun i hi => P.lv.keep i fun z => hi (h i z), P.lv.own⟩
theorem t_and1 {a : Expr} {m : M Bool} {eff : List Nat} (ha : PT X a (rdT F m eff)) : PW X (.BoolOp .And [a] pos) (rdT F m eff) := pw_and1 ha
theorem t_or1 {a : Expr} {m : M Bool} {eff : List Nat} (ha : PT X a (rdT F m eff)) : PW X (.BoolOp .Or [a] pos) (rdT F m eff) := pw_or1 ha
theorem PW.mono {e : Expr} {t t' : TT} (h : PW X e t) (hm : ∀ σ H Q, t' σ H Q → t σ H Q) : PW X e t' := ⟨fun w pins s σ H Q I q => h.run w pins s σ H Q I (hm σ H Q q)⟩
theorem t_and {a b : Expr} {rest : List Expr} {m1 m2 : M Bool} {eff1 eff2 : List Nat} (ha : PT X a (rdT F m1 eff1)) (hb : PW X (.BoolOp .And (b :: rest) pos) (rdT F m2 eff2)) : PW X (.BoolOp .And (a :: b :: rest) pos) (rdT F (mAndT m1 m2) (eff1 ++ eff2)) := by
  refine PW.mono (pw_and ha hb) fun σ H Q ⟨B, A, ρ, d, ρ2, E, hm, k⟩ => ?_
  unfold mAndT at hm
  split at hm
  · rename_i ρ1 e1
    refine ⟨B, A, ρ, true, ρ1, E, e1, fun H1 P1 => ?_⟩
    simp only [if_true, Bool.false_eq_true, if_false]
    exact ⟨B, A, ρ1, d, ρ2, P1.env, hm, fun H2 P2 => k H2 (P1.trans P2)⟩
  · rename_i ρ1 e1
    cases hm
    refine ⟨B, A, ρ, false, _, E, e1, fun H1 P1 => ?_⟩
    simp only [if_true, Bool.false_eq_true, if_false]
    exact k H1 (P1.more fun i hi => List.mem_append_left _ hi)
  · cases hm
theorem t_or {a b : Expr} {rest : List Expr} {m1 m2 : M Bool} {eff1 eff2 : List Nat} (ha : PT X a (rdT F m1 eff1)) (hb : PW X (.BoolOp .Or (b :: rest) pos) (rdT F m2 eff2)) : PW X (.BoolOp .Or (a :: b :: rest) pos) (rdT F (mOrT m1 m2) (eff1 ++ eff2)) := by
  refine PW.mono (pw_or ha hb) fun σ H Q ⟨B, A, ρ, d, ρ2, E, hm, k⟩ => ?_
  unfold mOrT at hm
  split at hm
  · rename_i ρ1 e1
    refine ⟨B, A, ρ, false, ρ1, E, e1, fun H1 P1 => ?_⟩
    simp only [if_true, Bool.false_eq_true, if_false]
    exact ⟨B, A, ρ1, d, ρ2, P1.env, hm, fun H2 P2 => k H2 (P1.trans P2)⟩
  · rename_i ρ1 e1
    cases hm
    refine ⟨B, A, ρ, true, _, E, e1, fun H1 P1 => ?_⟩
    simp only [if_true, Bool.false_eq_true, if_false]
    exact k H1 (P1.more fun i hi => List.mem_append_left _ hi)
  · cases hm
theorem t_not {a : Expr} {m : M Bool} {eff : List Nat} (ha : PT X a (rdT F m eff)) : PT X (.UnaryOp .Not a pos) (rdT F (mNotT m) eff) := by
  refine PT.mono (pt_not ha) fun σ H Q ⟨B, A, ρ, d, ρ2, E, hm, k⟩ => ?_
  unfold mNotT at hm
  split at hm
  · rename_i b ρ1 e1
    cases hm
    exact ⟨B, A, ρ, b, _, E, e1, fun H1 P1 => k H1 P1⟩
  · cases hm
def mAndV (m1 m2 : M D) : M D := fun ρ => match m1 ρ with
  | some (.bool true, ρ1) => m2 ρ1
  | some (.bool false, ρ1) => some (.bool false, ρ1)
  | _ => none
def mOrV (m1 m2 : M D) : M D := fun ρ => match m1 ρ with
  | some (.bool false, ρ1) => m2 ρ1
  | some (.bool true, ρ1) => some (.bool true, ρ1)
  | _ => none
def mNotV (m : M D) : M D := fun ρ => match m ρ with
  | some (.bool b, ρ1) => some (.bool (!b), ρ1)
  | _ => none
theorem x_one {op} {a : Expr} {m : M D} {dep eff : List Nat} (h : PE X a (rd F m dep eff)) : PE X (.BoolOp op [a] pos) (rd F m dep eff) := pe_one h
theorem x_and {a b : Expr} {rest : List Expr} {m1 m2 : M D} {dep1 dep2 eff1 eff2 : List Nat} (ha : PE X a (rd F m1 dep1 eff1)) (hb : PE X (.BoolOp .And (b :: rest) pos) (rd F m2 dep2 eff2)) : PE X (.BoolOp .And (a :: b :: rest) pos) (rd F (mAndV m1 m2) dep2 (eff1 ++ eff2)) := by
  refine PE.mono (pe_and ha hb) fun σ H Q ⟨B, A, ρ, d, ρ2, E, hm, k⟩ => ?_
  unfold mAndV at hm
  split at hm
  · rename_i ρ1 e1
    refine ⟨B, A, ρ, .bool true, ρ1, E, e1, fun v H1 P1 r1 => ⟨true, (r1.rr P1.env).bool, ?_⟩⟩
    simp only [if_true, Bool.false_eq_true, if_false]
    exact ⟨B, A, ρ1, d, ρ2, P1.env, hm, fun v H2 P2 r2 => k v H2 (P1.trans P2) r2⟩
  · rename_i ρ1 e1
    cases hm
    refine ⟨B, A, ρ, .bool false, _, E, e1, fun v H1 P1 r1 => ⟨false, (r1.rr P1.env).bool, ?_⟩⟩
    simp only [if_true, Bool.false_eq_true, if_false]
    exact k _ H1 (P1.more fun i hi => List.mem_append_left _ hi) (.inl (.bl false))
  · cases hm
theorem x_not {a : Expr} {m : M D} {dep eff : List Nat} (ha : PE X a (rd F m dep eff)) : PE X (.UnaryOp .Not a pos) (rd F (mNotV m) [] eff) := by
  refine PE.mono (pe_not ha) fun σ H Q ⟨B, A, ρ, d, ρ2, E, hm, k⟩ => ?_
  unfold mNotV at hm
  split at hm
  · rename_i b ρ1 e1
    cases hm
    exact ⟨B, A, ρ, .bool b, _, E, e1, fun v H1 P1 r1 => ⟨b, (r1.rr P1.env).bool, k _ H1 P1 (.inl (.bl _))⟩⟩
  · cases hm
def mIf (c : M Bool) (m1 m2 : M D) : M D := fun ρ => match c ρ with
  | some (true, ρ1) => m1 ρ1
  | some (false, ρ1) => m2 ρ1
  | none => none
theorem x_if {c a b : Expr} {mc : M Bool} {m1 m2 : M D} {dep1 dep2 eff0 eff1 eff2 : List Nat} (hc : PT X c (rdT F mc eff0)) (ha : PE X a (rd F m1 dep1 eff1)) (hb : PE X b (rd F m2 dep2 eff2)) : PE X (.IfExp c a b pos) (rd F (mIf mc m1 m2) (dep1 ++ dep2) (eff0 ++ (eff1 ++ eff2))) := by
  refine PE.mono (pe_ifExp hc ha hb) fun σ H Q ⟨B, A, ρ, d, ρ2, E, hm, k⟩ => ?_
  unfold mIf at hm
  split at hm
  · rename_i ρ1 e1
    refine ⟨B, A, ρ, true, ρ1, E, e1, fun H1 P1 => ?_⟩
    simp only [if_true, Bool.false_eq_true, if_false]
    exact ⟨B, A, ρ1, d, ρ2, P1.env, hm, fun v H2 P2 r2 => k v H2 (P1.trans (P2.more fun i hi => List.mem_append_left _ hi)) (r2.imp id fun ⟨i, hi, r⟩ => ⟨i, List.mem_append_left _ hi, r⟩)⟩
  · rename_i ρ1 e1
    refine ⟨B, A, ρ, false, ρ1, E, e1, fun H1 P1 => ?_⟩
    simp only [if_true, Bool.false_eq_true, if_false]
    exact ⟨B, A, ρ1, d, ρ2, P1.env, hm, fun v H2 P2 r2 => k v H2 (P1.trans (P2.more fun i hi => List.mem_append_right _ hi)) (r2.imp id fun ⟨i, hi, r⟩ => ⟨i, List.mem_append_right _ hi, r⟩)⟩
  · cases hm
end
end PD
set_option Elab.async false
set_option linter.all false
set_option maxRecDepth 100000
set_option maxHeartbeats 2000000
namespace PD
open PySem PySem.Spec PyProof.Rows L2 GxR
mutual
def noD : D → Bool
  | .dict _ => false
  | .list l => noDs l
  | .tuple l => noDs l
  | _ => true
def noDs : List D → Bool
  | [] => true
  | d :: ds => noD d && noDs ds
end
section
variable {K : PySem.W.Frag} {S : Addr → Prop} {H : Hp}
mutual
theorem RelD.dp : ∀ (d : D) (v : V), RelD K S H v d → noD d = true → Dp K H v d
  | .none, _, h, _ => by cases h; exact .non
  | .bool b, _, h, _ => by cases h; exact .bl b
  | .int b, _, h, _ => by cases h; exact .int b
  | .str b, _, h, _ => by cases h; exact .str b
  | .list ds, _, h, n => by
    cases h with
    | lst _ s r => exact .lst (.inl s) (RelDs.dp ds _ r n)
    | lstK s r => exact .lst (.inr s) (RelDs.dp ds _ r n)
  | .tuple ds, _, h, n => by
    cases h with
    | tup _ s r => exact .tup (.inl s.rd) (RelDs.dp ds _ r n)
    | tupK s r => exact .tup (.inr s.sq) (RelDs.dp ds _ r n)
  | .dict ds, _, h, n => by cases n
theorem RelDs.dp : ∀ (d : List D) (v : List V), RelDs K S H v d → noDs d = true → DpAll K H v d
  | [], _, h, _ => by cases h; exact .nil
  | d :: ds, _, h, n => by
    cases h with
    | cons r t =>
      have n : (noD d && noDs ds) = true := n
      rw [Bool.and_eq_true] at n
      exact .cons (RelD.dp d _ r n.1) (RelDs.dp ds _ t n.2)
end
theorem RR.dp {v : V} {d : D} (r : RR K S H v d) (n : noD d = true) : Dp K H v d := by
  rcases r with r | ⟨a, e, r⟩
  · exact RelD.dp _ _ r n
  · cases d with
    | list ds => obtain ⟨xs, h, r⟩ := r; rw [e]; exact .lst (SqL.of h) (RelDs.dp _ _ r n)
    | dict ds => cases n
    | _ => exact r.elim
end
def okE (d : D) : Bool := noD d && SeqAt.shaped d
def gEq (a b : D) : Option D := if (okE a && okE b) = true then some (.bool (PyData.eqv a b)) else none
def gNe (a b : D) : Option D := if (okE a && okE b) = true then some (.bool (!PyData.eqv a b)) else none
def gAdd : D → D → Option D
  | .int a, .int b => some (.int (a + b))
  | .str a, .str b => if a.length + b.length ≤ sizeLine then some (.str (a ++ b)) else none
  | .list a, .list b => if a.length + b.length ≤ sizeLine then some (.list (a ++ b)) else none
  | .tuple a, .tuple b => if a.length + b.length ≤ sizeLine then some (.tuple (a ++ b)) else none
  | _, _ => none
def gSub : D → D → Option D
  | .int a, .int b => some (.int (a - b))
  | _, _ => none
instance : Decidable (CMul i j) := inferInstanceAs (Decidable (_ ∨ _))
instance : Decidable (CDivN i j) := inferInstanceAs (Decidable (_ ∧ _))
def gMul : D → D → Option D
  | .int a, .int b => if CMul a b then some (.int (a * b)) else none
  | .str a, .int n => if n = 0 then some (.str Str.empty) else if n = 1 then some (.str a) else none
  | _, _ => none
def gDiv : D → D → Option D
  | .int a, .int b => if CDivN a b then some (.int (a.fdiv b)) else none
  | _, _ => none
def gMod : D → D → Option D
  | .int a, .int b => if b ≠ 0 then some (.int (a.fmod b)) else none
  | _, _ => none
def gLt : D → D → Option D
  | .int a, .int b => some (.bool (decide (a < b)))
  | .str a, .str b => some (.bool (decide (a.cps.toList < b.cps.toList)))
  | _, _ => none
def gGt : D → D → Option D
  | .int a, .int b => some (.bool (decide (b < a)))
  | .str a, .str b => some (.bool (decide (b.cps.toList < a.cps.toList)))
  | _, _ => none
def leI (ns ms : List Int) : Bool := Ob.lexAt (fun j => decide (ns.getD j 0 = ms.getD j 0)) (fun j => decide (ns.getD j 0 ≤ ms.getD j 0)) (decide (ns.length ≤ ms.length)) 0 (min ns.length ms.length)
def gLe : D → D → Option D
  | .int a, .int b => some (.bool (decide (a ≤ b)))
  | .str a, .str b => some (.bool (!decide (b.cps.toList < a.cps.toList)))
  | .tuple a, .tuple b => match allInts a, allInts b with
    | some ns, some ms => some (.bool (leI ns ms))
    | _, _ => none
  | _, _ => none
where allInts : List D → Option (List Int)
  | [] => some []
  | .int i :: r => (allInts r).map (i :: ·)
  | _ => none
def gGe : D → D → Option D
  | .int a, .int b => some (.bool (decide (b ≤ a)))
  | .str a, .str b => some (.bool (!decide (a.cps.toList < b.cps.toList)))
  | _, _ => none
def isN : D → Bool
  | .none => true
  | _ => false
def gIs : D → D → Option D
  | d, .none => some (.bool (isN d))
  | .bool a, .bool b => some (.bool (decide (a = b)))
  | _, _ => none
def gIsNot : D → D → Option D
  | d, .none => some (.bool (!isN d))
  | .bool a, .bool b => some (.bool (!decide (a = b)))
  | _, _ => none
theorem RR.tupleD {K : PySem.W.Frag} {S : Addr → Prop} {H : Hp} {v : V} {ds : List D} (r : RR K S H v (.tuple ds)) : RelD K S H v (.tuple ds) := by
  rcases r with r | ⟨a, e, r⟩
  · exact r
  · exact r.elim
section
variable {X : Cx} {K : PySem.W.Frag}
theorem op_catL : OpR X (binaryOp .Add) (fun x y H Q => ∃ a b xs ys, x = .ref a ∧ y = .ref b ∧ SqL X.K H a xs ∧ SqL X.K H b ys ∧ xs.length + ys.length ≤ sizeLine ∧ ∀ p, H p = none → Q (.ref p) (upd H p (.lst (xs ++ ys)))) := by
  intro pins s σ H x y v u Q I rx ry ⟨a, b, xs, ys, e1, e2, h1, h2, hz, q⟩
  subst e1 e2
  cases rx
  cases ry
  obtain ⟨its, w1, ⟨⟨cls, dd, data, sl⟩, n, ho, hc, hdn, hd⟩, z1⟩ := I.list h1
  obtain ⟨its2, w2, ⟨⟨cls2, dd2, data2, sl2⟩, n2, ho2, hc2, hdn2, hd2⟩, z2⟩ := I.list h2
  simp only at hc hd hc2 hd2
  subst hc hd hc2 hd2
  have l1 := w1.length
  have l2 := w2.length
  have ea : its.toArray ++ its2.toArray = (its ++ its2).toArray := by simp
  refine concat_meets ⟨_, ho, rfl⟩ ⟨_, ho2, rfl⟩ noFill_list_add seq_list_add PySem.F.slot_list_add PySem.F.entry_list_add (PySem.F.args_list_add_2 _ _) (list_addW a b its.toArray its2.toArray n n2 dd dd2 sl sl2 (by rw [List.size_toArray, List.size_toArray]; omega)) ⟨ho, ho2, ?_⟩
  rw [ea]
  exact ⟨.ref _, _, I.lnew (t' := s.toks) (w1.append w2) (by rw [List.length_append]; omega), rfl, q _ I.fresh⟩
theorem o_add (hK : X.K = K := by rfl) : OpR X (binaryOp .Add) (rop K gAdd) := by
  subst hK
  intro pins s σ H x y v u Q I rx ry ⟨S, d1, d2, d, r1, r2, e, occ, k⟩
  unfold gAdd at e
  split at e
  · cases e
    exact op_add pins s σ H x y v u Q I rx ry ⟨_, _, r1.int, r2.int, k _ H (Ext.refl H) (.int _)⟩
  · split at e
    · rename_i hl
      cases e
      exact op_add_str pins s σ H x y v u Q I rx ry ⟨_, _, r1.str, r2.str, hl, k _ H (Ext.refl H) (.str _)⟩
    · cases e
  · split at e
    · rename_i hl
      cases e
      obtain ⟨a, xs, rfl, h1, q1⟩ := r1.list
      obtain ⟨b, ys, rfl, h2, q2⟩ := r2.list
      refine op_catL pins s σ H _ _ v u Q I rx ry ⟨a, b, xs, ys, rfl, rfl, h1, h2, by rw [q1.length, q2.length]; exact hl, fun p hp => ?_⟩
      exact k _ _ (Ext.new hp) (.lst (fun z => occ _ z hp) (.inl upd_same) ((q1.append q2).ext (Ext.new hp)))
    · cases e
  · split at e
    · rename_i hl
      cases e
      have R1 := r1.tupleD
      have R2 := r2.tupleD
      obtain ⟨a, xs, rfl, h1, q1⟩ := r1.tuple
      obtain ⟨b, ys, rfl, h2, q2⟩ := r2.tuple
      refine FrzT.op_catAF pins s σ H _ _ v u Q I rx ry ⟨a, b, xs, ys, rfl, rfl, h1, h2, by rw [q1.length, q2.length]; exact hl, fun hx => ?_, fun _ hy => ?_, fun _ _ p o hp hc hd => ?_⟩
      · subst hx
        cases q1
        exact k _ H (Ext.refl H) R2
      · subst hy
        cases q2
        rw [List.append_nil] at k
        exact k _ H (Ext.refl H) R1
      · exact k _ _ (Ext.new hp) (.tup (fun z => occ _ z hp) ⟨o, upd_same, hc, hd⟩ ((q1.append q2).ext (Ext.new hp)))
    · cases e
  · cases e
theorem o_sub : OpR X (binaryOp .Sub) (rop K gSub) := by
  intro pins s σ H x y v u Q I rx ry ⟨S, d1, d2, d, r1, r2, e, occ, k⟩
  unfold gSub at e
  split at e
  · cases e
    exact op_sub pins s σ H x y v u Q I rx ry ⟨_, _, r1.int, r2.int, k _ H (Ext.refl H) (.int _)⟩
  · cases e
theorem o_mul : OpR X (binaryOp .Mult) (rop K gMul) := by
  intro pins s σ H x y v u Q I rx ry ⟨S, d1, d2, d, r1, r2, e, occ, k⟩
  unfold gMul at e
  split at e
  · split at e
    · rename_i hc
      cases e
      exact op_mul pins s σ H x y v u Q I rx ry ⟨_, _, r1.int, r2.int, hc, k _ H (Ext.refl H) (.int _)⟩
    · cases e
  · rename_i a n
    have ex := r1.str
    have ey := r2.int
    subst ex ey
    obtain ⟨t, rfl⟩ := (show ∃ t, v = Value.str a t from rx)
    obtain ⟨t', rfl⟩ := (show ∃ t, u = Value.int n t from ry)
    split at e
    · rename_i hn
      cases e
      subst hn
      exact PySem.P.mul_str_none (by decide) (by decide) ⟨.str Str.empty, H, I.tok _, ⟨_, rfl⟩, k _ H (Ext.refl H) (.str _)⟩
    · split at e
      · rename_i hn
        cases e
        subst hn
        exact PySem.P.mul_str (by decide) (fun _ h => absurd h (by simp)) (fun _ h => absurd h (by simp)) (by
          rw [if_neg (by decide), if_pos (by simp)]
          exact ⟨.str a, H, I, ⟨_, rfl⟩, k _ H (Ext.refl H) (.str _)⟩)
      · cases e
  · cases e
theorem o_div : OpR X (binaryOp .FloorDiv) (rop K gDiv) := by
  intro pins s σ H x y v u Q I rx ry ⟨S, d1, d2, d, r1, r2, e, occ, k⟩
  unfold gDiv at e
  split at e
  · split at e
    · rename_i hc
      cases e
      exact op_fdivN pins s σ H x y v u Q I rx ry ⟨_, _, r1.int, r2.int, hc, k _ H (Ext.refl H) (.int _)⟩
    · cases e
  · cases e
theorem o_mod : OpR X (binaryOp .Mod) (rop K gMod) := by
  intro pins s σ H x y v u Q I rx ry ⟨S, d1, d2, d, r1, r2, e, occ, k⟩
  unfold gMod at e
  split at e
  · split at e
    · rename_i hc
      cases e
      exact op_modN pins s σ H x y v u Q I rx ry ⟨_, _, r1.int, r2.int, hc, k _ H (Ext.refl H) (.int _)⟩
    · cases e
  · cases e
theorem o_lt : OpR X (compareOp .Lt) (rop K gLt) := by
  intro pins s σ H x y v u Q I rx ry ⟨S, d1, d2, d, r1, r2, e, occ, k⟩
  unfold gLt at e
  split at e
  · cases e
    exact op_lt pins s σ H x y v u Q I rx ry ⟨_, _, r1.int, r2.int, k _ H (Ext.refl H) (.bl _)⟩
  · cases e
    exact op_lt_str pins s σ H x y v u Q I rx ry ⟨_, _, r1.str, r2.str, k _ H (Ext.refl H) (.bl _)⟩
  · cases e
theorem o_gt : OpR X (compareOp .Gt) (rop K gGt) := by
  intro pins s σ H x y v u Q I rx ry ⟨S, d1, d2, d, r1, r2, e, occ, k⟩
  unfold gGt at e
  split at e
  · cases e
    exact op_gt pins s σ H x y v u Q I rx ry ⟨_, _, r1.int, r2.int, k _ H (Ext.refl H) (.bl _)⟩
  · cases e
    exact op_gt_str pins s σ H x y v u Q I rx ry ⟨_, _, r1.str, r2.str, k _ H (Ext.refl H) (.bl _)⟩
  · cases e
theorem o_ge : OpR X (compareOp .GtE) (rop K gGe) := by
  intro pins s σ H x y v u Q I rx ry ⟨S, d1, d2, d, r1, r2, e, occ, k⟩
  unfold gGe at e
  split at e
  · cases e
    exact op_ge pins s σ H x y v u Q I rx ry ⟨_, _, r1.int, r2.int, k _ H (Ext.refl H) (.bl _)⟩
  · cases e
    exact op_ge_str pins s σ H x y v u Q I rx ry ⟨_, _, r1.str, r2.str, k _ H (Ext.refl H) (.bl _)⟩
  · cases e
theorem allInts_rel {S : Addr → Prop} {H : Hp} : ∀ {ds : List D} {ns : List Int} {xs : List V}, gLe.allInts ds = some ns → RelDs K S H xs ds → xs = ns.map V.int
  | [], _, _, e, r => by
    cases r
    cases e
    rfl
  | d :: ds, ns, _, e, r => by
    cases r with
    | cons r t =>
      cases d <;> unfold gLe.allInts at e <;> try cases e
      rename_i i
      cases q : gLe.allInts ds with
      | none => rw [q] at e; cases e
      | some ms =>
        rw [q] at e
        cases e
        cases r
        rw [allInts_rel q t]
        rfl
theorem o_eq (hu : X.A.units + 64 < cLine) (hK : X.K = K := by rfl) : OpR X (compareOp .Eq) (rop K gEq) := by
  subst hK
  intro pins s σ H x y v u Q I rx ry ⟨S, d1, d2, d, r1, r2, e, occ, k⟩
  unfold gEq at e
  split at e
  · rename_i h
    cases e
    unfold okE at h
    simp only [Bool.and_eq_true] at h
    obtain ⟨⟨h1, h2⟩, h3, h4⟩ := h
    exact op_eqD hu pins s σ H x y v u Q I rx ry ⟨d1, d2, r1.dp h1, r2.dp h3, h2, h4, k _ H (Ext.refl H) (.bl _)⟩
  · cases e
theorem o_ne (hu : X.A.units + 64 < cLine) (hK : X.K = K := by rfl) : OpR X (compareOp .NotEq) (rop K gNe) := by
  subst hK
  intro pins s σ H x y v u Q I rx ry ⟨S, d1, d2, d, r1, r2, e, occ, k⟩
  unfold gNe at e
  split at e
  · rename_i h
    cases e
    unfold okE at h
    simp only [Bool.and_eq_true] at h
    obtain ⟨⟨h1, h2⟩, h3, h4⟩ := h
    exact op_neD hu pins s σ H x y v u Q I rx ry ⟨d1, d2, r1.dp h1, r2.dp h3, h2, h4, k _ H (Ext.refl H) (.bl _)⟩
  · cases e
theorem RR.non_iff {S : Addr → Prop} {H : Hp} {v : V} {d : D} (r : RR K S H v d) : decide (v = .non) = isN d := by
  rcases r with r | ⟨a, e, r⟩
  · cases r <;> rfl
  · subst e
    cases d <;> first | rfl | exact r.elim
theorem o_is : OpR X (compareOp .Is) (rop K gIs) := by
  intro pins s σ H x y v u Q I rx ry ⟨S, d1, d2, d, r1, r2, e, occ, k⟩
  unfold gIs at e
  split at e
  · cases e
    refine op_isN pins s σ H x y v u Q I rx ry ⟨r2.none, ?_⟩
    rw [r1.non_iff]
    exact k _ H (Ext.refl H) (.bl _)
  · cases e
    exact op_isBl pins s σ H x y v u Q I rx ry ⟨_, _, r1.bool, r2.bool, k _ H (Ext.refl H) (.bl _)⟩
  · cases e
end
end PD
set_option Elab.async false
set_option linter.all false
set_option maxRecDepth 100000
set_option maxHeartbeats 2000000
namespace PD
open PySem PySem.Spec PyProof.Rows L2 GxR
def keyD : D → Option Key
  | .int i => some (.inl i)
  | .str x => some (.inr x)
  | _ => none
theorem keyD_some {d : D} {k : Key} (h : keyD d = some k) : d = kD k := by
  cases d <;> first | (cases h; rfl) | cases h
theorem keyD_kD (k : Key) : keyD (kD k) = some k := by cases k <;> rfl
def dget : List (D × D) → Key → Option D
  | [], _ => none
  | (kd, d) :: r, k => if keyD kd = some k then some d else dget r k
section
variable {K : PySem.W.Frag} {S : Addr → Prop} {H : Hp}
theorem RR.key {v : V} {k : Key} (r : RR K S H v (kD k)) : v = kV k := by
  cases k with
  | inl i => exact r.int
  | inr x => exact r.str
end
section
variable {X : Cx} {K : PySem.W.Frag} {S : Addr → Prop} {H : Hp}
theorem RelKs.valV : ∀ {kvs : List (Key × V)} {ds : List (D × D)} (k : Key), RelKs K S H kvs ds → (L2.valV kvs k = none ∧ dget ds k = none) ∨ ∃ v d, L2.valV kvs k = some v ∧ dget ds k = some d ∧ RelD K S H v d
  | _, _, _, .nil => .inl ⟨by first | rfl | simp [L2.valV], rfl⟩
  | _, _, k, .cons (k := k0) (v := v) (kvs := kvs) (d := d) (ds := ds) r t => by
    by_cases e : k0 = k
    · subst e
      exact .inr ⟨v, d, by first | (unfold L2.valV; simp) | simp [L2.valV], by unfold dget; rw [keyD_kD, if_pos rfl], r⟩
    · have e1 : L2.valV ((k0, v) :: kvs) k = L2.valV kvs k := by
        first
          | (unfold L2.valV; simp [List.find?, e])
          | simp [L2.valV, e]
      have e2 : dget ((kD k0, d) :: ds) k = dget ds k := by
        unfold dget
        rw [keyD_kD, if_neg (fun z => e (Option.some.inj z))]
        cases ds <;> rfl
      rw [e1, e2]
      exact RelKs.valV k t
theorem RelTs.dget : ∀ {xs : List (List Int × Addr × Value)} {ds : List (D × D)} (k : Key), RelTs K S H xs ds → PD.dget ds k = none
  | _, _, _, .nil => rfl
  | _, _, k, .cons _ _ _ t => (if_neg (fun z : none = some k => nomatch z)).trans (RelTs.dget k t)
theorem RelMk.dget {xs : List (List Int × Addr × Value)} {ds : List (D × D)} {k : Key} (r : RelMk K S H xs ds) : PD.dget ds k = none := by
  cases r with
  | mk r => exact (if_neg (fun z : none = some k => nomatch z)).trans (RelTs.dget k r)
end
def gInB (a : D) : D → Option Bool
  | .list ds => if (okE a && okE (.list ds)) = true then some (ds.any fun z => PyData.eqv z a) else none
  | .tuple ds => if (okE a && okE (.tuple ds)) = true then some (ds.any fun z => PyData.eqv z a) else none
  | .dict kvs => if isT kvs then none else (keyD a).map fun k => (dget kvs k).isSome
  | .str t => match a with
    | .str x => some (!(Builtin.Str.occurrences t x 0 t.length 1).isEmpty)
    | _ => none
  | _ => none
def gIn (a b : D) : Option D := (gInB a b).map fun c => .bool c
def gNotIn (a b : D) : Option D := (gInB a b).map fun c => .bool (!c)
def gIx : D → D → Option D
  | .list ds, .int i => atI ds i
  | .tuple ds, .int i => atI ds i
  | .str z, .int i => if z.length ≤ sizeLine then (atI z.cps.toList i).map fun c => .str ⟨#[c]⟩ else none
  | .dict kvs, a => (keyD a).bind fun k => dget kvs k
  | _, _ => none
section
variable {X : Cx} {K : PySem.W.Frag} {S : Addr → Prop} {H : Hp}
theorem RelDs.atI {xs : List V} {ds : List D} {i : Int} {d : D} (r : RelDs K S H xs ds) (h : L2.atI ds i = some d) : ∃ v, L2.atI xs i = some v ∧ RelD K S H v d := by
  unfold L2.atI at h ⊢
  rw [← r.length] at h
  cases e : ixN xs.length i with
  | none => rw [e] at h; cases h
  | some j =>
    rw [e] at h
    exact r.get h
theorem ix_dict (hu : X.A.units + 1 < cLine) : IxR X (fun x y H Q => ∃ a v, x = .ref a ∧ DGet H a y (some v) ∧ Q v H) := by
  intro value slice pins s σ H x y v u Q I rx ry ⟨a, v0, e, g, q⟩ hs
  subst e
  cases rx
  have hT := dict_typeIs I g
  unfold subscriptTail
  refine wpAny_bind ?_
  rw [getitemInPython_of_ne hT.not_modules]
  refine wpAny_bind (wpAny_specialOf hT PySem.F.slot_dict_getitem.lookup ?_)
  have fin : wpAny (model X.prog X.w) X.A (subscripted slice false (.ref a) u) (fun r s₃ => wpAny (model X.prog X.w) X.A (letTemporaryGo value (.ref a) r >>= fun _ => pure r) (EP X pins σ Q) X.xe s₃) X.xe s := by
    rw [hs]
    exact wpAny_operating (d_getItem hu I g ry fun w' s3 I3 rw' => wpAny_bind (wpAny_letTemporaryGo (wpAny_pure ⟨v0, H, I3, rw', q⟩)))
  first
    | exact wpAny_pure (wpAny_bind fin)
    | exact wpAny_bind (wpAny_pure (wpAny_bind fin))
    | exact wpAny_bind fin
theorem op_dict_in (hu : X.A.units + 1 < cLine) : OpR X (compareOp .In) (fun x y H Q => ∃ a o, y = .ref a ∧ DGet H a x o ∧ Q (.bl o.isSome) H) := by
  intro pins s σ H x y v u Q I rx ry ⟨a, o, e, g, q⟩
  subst e
  cases ry
  exact d_in hu I g rx fun s3 I3 => ⟨.bl o.isSome, H, I3, rfl, q⟩
theorem op_dict_notIn (hu : X.A.units + 1 < cLine) : OpR X (compareOp .NotIn) (fun x y H Q => ∃ a o, y = .ref a ∧ DGet H a x o ∧ Q (.bl (!o.isSome)) H) := by
  intro pins s σ H x y v u Q I rx ry ⟨a, o, e, g, q⟩
  subst e
  cases ry
  exact d_notIn hu I g rx fun s3 I3 => ⟨.bl (!o.isSome), H, I3, rfl, q⟩
theorem op_in_tupD (hu : X.A.units + 65 < cLine) : OpR X (compareOp .In) (fun x y H Q => ∃ d ds, Dp X.K H x d ∧ Dp X.K H y (.tuple ds) ∧ SeqAt.shaped d = true ∧ SeqAt.shaped (.tuple ds) = true ∧ Q (.bl (ds.any fun z => PyData.eqv z d)) H) := by
  intro pins s σ H x y v u Q I rx ry ⟨d, ds, hd, he, sd, se, q⟩
  obtain ⟨as, r1⟩ := Dp.reads I d x v hd rx
  obtain ⟨bs, r2⟩ := Dp.reads I (.tuple ds) y u he ry
  exact SeqAt.in_tuple_reads r2 r1 (SeqAt.canLay_of_shaped se) (SeqAt.canLay_of_shaped sd) (room_in_shaped sd hu) ⟨.bl _, H, I, rfl, q⟩
theorem op_notIn_tupD (hu : X.A.units + 65 < cLine) : OpR X (compareOp .NotIn) (fun x y H Q => ∃ d ds, Dp X.K H x d ∧ Dp X.K H y (.tuple ds) ∧ SeqAt.shaped d = true ∧ SeqAt.shaped (.tuple ds) = true ∧ Q (.bl (!ds.any fun z => PyData.eqv z d)) H) := by
  intro pins s σ H x y v u Q I rx ry ⟨d, ds, hd, he, sd, se, q⟩
  obtain ⟨as, r1⟩ := Dp.reads I d x v hd rx
  obtain ⟨bs, r2⟩ := Dp.reads I (.tuple ds) y u he ry
  exact SeqAt.notIn_tuple_reads r2 r1 (SeqAt.canLay_of_shaped se) (SeqAt.canLay_of_shaped sd) (room_in_shaped sd hu) ⟨.bl _, H, I, rfl, q⟩
theorem okE_both {a b : D} (h : (okE a && okE b) = true) : (noD a = true ∧ SeqAt.shaped a = true) ∧ noD b = true ∧ SeqAt.shaped b = true := by
  unfold okE at h
  simp only [Bool.and_eq_true] at h
  exact h
theorem RelKs.dget {a : Addr} {kvs : List (Key × V)} {ds : List (D × D)} {x : V} {k : Key} (hR : Rd H a (.dK kvs)) (r : RelKs K S H kvs ds) (hx : x = kV k) : ∃ o, DGet H a x o ∧ o.isSome = (PD.dget ds k).isSome ∧ ∀ d, PD.dget ds k = some d → ∃ v, o = some v ∧ RelD K S H v d := by
  rcases r.valV k with ⟨e1, e2⟩ | ⟨v, d, e1, e2, r'⟩
  · exact ⟨none, .inl ⟨kvs, k, hR, hx, e1.symm⟩, by rw [e2]; rfl, fun d e => by rw [e2] at e; cases e⟩
  · exact ⟨some v, .inl ⟨kvs, k, hR, hx, e1.symm⟩, by rw [e2]; rfl, fun d' e => by rw [e2] at e; cases e; exact ⟨v, rfl, r'⟩⟩
theorem o_in (hu : X.A.units + 65 < cLine) (hK : X.K = K := by rfl) : OpR X (compareOp .In) (rop K gIn) := by
  subst hK
  intro pins s σ H x y v u Q I rx ry ⟨S, d1, d2, d, r1, r2, e, occ, k⟩
  unfold gIn at e
  cases q : gInB d1 d2 with
  | none => rw [q] at e; cases e
  | some c =>
    rw [q] at e
    cases e
    have kk := k (.bl c) H (Ext.refl H) (.bl c)
    unfold gInB at q
    split at q
    · split at q
      · rename_i h
        cases q
        obtain ⟨⟨h1, h2⟩, h3, h4⟩ := okE_both h
        exact op_inD hu pins s σ H x y v u Q I rx ry ⟨d1, _, r1.dp h1, r2.dp h3, h2, h4, kk⟩
      · cases q
    · split at q
      · rename_i h
        cases q
        obtain ⟨⟨h1, h2⟩, h3, h4⟩ := okE_both h
        exact op_in_tupD hu pins s σ H x y v u Q I rx ry ⟨d1, _, r1.dp h1, r2.dp h3, h2, h4, kk⟩
      · cases q
    · split at q
      · cases q
      rename_i hnT
      have hnT := Bool.eq_false_iff.mpr hnT
      cases ek : keyD d1 with
      | none => rw [ek] at q; cases q
      | some key =>
        rw [ek] at q
        cases q
        have e1 := keyD_some ek
        subst e1
        obtain ⟨a, kvs, rfl, hR, rk⟩ := r2.dict hnT
        obtain ⟨o, g, e2, _⟩ := rk.dget (x := x) (k := key) hR r1.key
        refine op_dict_in (by omega) pins s σ H x _ v u Q I rx ry ⟨a, o, rfl, g, ?_⟩
        rw [e2]
        exact kk
    · split at q
      · cases q
        exact op_in_str pins s σ H x y v u Q I rx ry ⟨_, _, r1.str, r2.str, kk⟩
      · cases q
    · cases q
theorem o_notIn (hu : X.A.units + 65 < cLine) (hK : X.K = K := by rfl) : OpR X (compareOp .NotIn) (rop K gNotIn) := by
  subst hK
  intro pins s σ H x y v u Q I rx ry ⟨S, d1, d2, d, r1, r2, e, occ, k⟩
  unfold gNotIn at e
  cases q : gInB d1 d2 with
  | none => rw [q] at e; cases e
  | some c =>
    rw [q] at e
    cases e
    have kk := k (.bl (!c)) H (Ext.refl H) (.bl _)
    unfold gInB at q
    split at q
    · split at q
      · rename_i h
        cases q
        obtain ⟨⟨h1, h2⟩, h3, h4⟩ := okE_both h
        exact op_notInD hu pins s σ H x y v u Q I rx ry ⟨d1, _, r1.dp h1, r2.dp h3, h2, h4, kk⟩
      · cases q
    · split at q
      · rename_i h
        cases q
        obtain ⟨⟨h1, h2⟩, h3, h4⟩ := okE_both h
        exact op_notIn_tupD hu pins s σ H x y v u Q I rx ry ⟨d1, _, r1.dp h1, r2.dp h3, h2, h4, kk⟩
      · cases q
    · split at q
      · cases q
      rename_i hnT
      have hnT := Bool.eq_false_iff.mpr hnT
      cases ek : keyD d1 with
      | none => rw [ek] at q; cases q
      | some key =>
        rw [ek] at q
        cases q
        have e1 := keyD_some ek
        subst e1
        obtain ⟨a, kvs, rfl, hR, rk⟩ := r2.dict hnT
        obtain ⟨o, g, e2, _⟩ := rk.dget (x := x) (k := key) hR r1.key
        refine op_dict_notIn (by omega) pins s σ H x _ v u Q I rx ry ⟨a, o, rfl, g, ?_⟩
        rw [e2]
        exact kk
    · split at q
      · cases q
        exact op_notIn_str pins s σ H x y v u Q I rx ry ⟨_, _, r1.str, r2.str, kk⟩
      · cases q
    · cases q
theorem o_ix (hu : X.A.units + 1 < cLine) (hK : X.K = K := by rfl) : IxR X (rop K gIx) := by
  subst hK
  intro value slice pins s σ H x y v u Q I rx ry ⟨S, d1, d2, d, r1, r2, e, occ, k⟩ hs
  unfold gIx at e
  split at e
  · obtain ⟨a, xs, rfl, h1, q1⟩ := r1.list
    obtain ⟨w, e1, q2⟩ := q1.atI e
    exact ix_list value slice pins s σ H _ y v u Q I rx ry ⟨a, xs, _, w, rfl, r2.int, h1, e1, k w H (Ext.refl H) q2⟩ hs
  · obtain ⟨a, xs, rfl, h1, q1⟩ := r1.tuple
    obtain ⟨w, e1, q2⟩ := q1.atI e
    exact ix_tup value slice pins s σ H _ y v u Q I rx ry ⟨a, xs, _, w, rfl, r2.int, h1, e1, k w H (Ext.refl H) q2⟩ hs
  · split at e
    · rename_i z i hl
      cases ec : L2.atI z.cps.toList i with
      | none => rw [ec] at e; cases e
      | some c =>
        rw [ec] at e
        cases e
        exact ix_str value slice pins s σ H x y v u Q I rx ry ⟨z, i, c, r1.str, r2.int, hl, ec, k _ H (Ext.refl H) (.str _)⟩ hs
    · cases e
  · rename_i _ a
    cases ek : keyD d2 with
    | none => rw [ek] at e; cases e
    | some key =>
      rw [ek] at e
      have e1 := keyD_some ek
      subst e1
      rcases r1.dict2 with ⟨ad, kv, rfl, hR, rk⟩ | ⟨_, _, _, _, hT⟩
      rotate_left
      · have e : dget _ key = some d := e
        rw [hT.dget] at e; cases e
      obtain ⟨o, g, _, e3⟩ := rk.dget (x := y) (k := key) hR r2.key
      obtain ⟨w, rfl, rw'⟩ := e3 d e
      exact ix_dict hu value slice pins s σ H _ y v u Q I rx ry ⟨ad, w, rfl, g, k w H (Ext.refl H) rw'⟩ hs
  · cases e
end
def cutD (ds : List D) (lo hi : Option Int) : List D := (ds.drop (HT.sIx ds.length 0 lo)).take (HT.sIx ds.length ds.length hi - HT.sIx ds.length 0 lo)
def gSl (lo hi : Option Int) : D → Option D
  | .list ds => some (.list (cutD ds lo hi))
  | .tuple ds => some (.tuple (cutD ds lo hi))
  | .str z => if z.length ≤ sizeLine then some (.str (cutS z lo hi)) else none
  | _ => none
def rsl (K : PySem.W.Frag) : V → Option Int → Option Int → Hp → VK → Prop := fun x lo hi H Q => ∃ S d1 d, RR K S H x d1 ∧ gSl lo hi d1 = some d ∧ (∀ a, S a → H a ≠ none) ∧ ∀ v H', Ext H H' → RelD K S H' v d → Q v H'
section
variable {X : Cx} {F : Frm} {K : PySem.W.Frag} {S : Addr → Prop} {H : Hp}
theorem RelDs.cut {xs : List V} {ds : List D} {lo hi : Option Int} (r : RelDs K S H xs ds) : RelDs K S H (cutV xs lo hi) (cutD ds lo hi) := by
  unfold cutV cutD
  rw [r.length]
  exact (r.drop _).take _
theorem o_sl (hK : X.K = K := by rfl) : SlR X (rsl K) := by
  subst hK
  intro pins s σ H x v vl vu lo hi sl Q I rx hs pl pu ⟨S, d1, d, r1, e, occ, k⟩
  unfold gSl at e
  split at e
  · cases e
    obtain ⟨a, xs, rfl, h1, q1⟩ := r1.list
    exact sl_list pins s σ H _ v vl vu lo hi sl Q I rx hs pl pu ⟨a, xs, rfl, h1, fun p hp => k _ _ (Ext.new hp) (.lst (fun z => occ _ z hp) (.inl upd_same) (q1.cut.ext (Ext.new hp)))⟩
  · cases e
    have R1 := r1.tupleD
    obtain ⟨a, xs, rfl, h1, q1⟩ := r1.tuple
    refine FrzT.sl_tupAF pins s σ H _ v vl vu lo hi sl Q I rx hs pl pu ⟨a, xs, rfl, h1, fun hw => ?_, fun _ p o hp hc hd => k _ _ (Ext.new hp) (.tup (fun z => occ _ z hp) ⟨o, upd_same, hc, hd⟩ (q1.cut.ext (Ext.new hp)))⟩
    have e : ∀ ds : List D, xs.length = ds.length → cutD ds lo hi = ds := fun ds hl => by
      unfold cutD
      rw [← hl, hw.1, hw.2, List.drop_zero, Nat.sub_zero, List.take_of_length_le (by omega)]
    rw [e _ q1.length] at k
    exact k _ H (Ext.refl H) R1
  · split at e
    · rename_i hl
      cases e
      exact sl_str pins s σ H x v vl vu lo hi sl Q I rx hs pl pu ⟨_, r1.str, hl, k _ H (Ext.refl H) (.str _)⟩
    · cases e
  · cases e
def rdO (F : Frm) (m : M (Option Int)) (eff : List Nat) : TO := fun σ H Q => ∃ B A ρ o ρ', Ev F B A σ H ρ ∧ m ρ = some (o, ρ') ∧ ∀ H', Post F B A σ H ρ eff H' ρ' → Q o H'
def mNoP : M (Option Int) := fun ρ => some (none, ρ)
def mP (m : M D) : M (Option Int) := fun ρ => match m ρ with
  | some (.int i, ρ1) => some (some i, ρ1)
  | _ => none
theorem PO.mono {e : Option Expr} {t t' : TO} (h : PO X e t) (hm : ∀ σ H Q, t' σ H Q → t σ H Q) : PO X e t' := ⟨fun pins s σ H Q I q => h.run pins s σ H Q I (hm σ H Q q)⟩
theorem xo_none : PO X none (rdO F mNoP []) := PO.mono po_none fun σ H Q ⟨B, A, ρ, o, ρ', E, hm, k⟩ => by
  cases hm
  exact k H (Post.refl E)
theorem xo_some {e : Expr} {m : M D} {dep eff : List Nat} (h : PE X e (rd F m dep eff)) : PO X (some e) (rdO F (mP m) eff) := PO.mono (po_some h) fun σ H Q ⟨B, A, ρ, o, ρ', E, hm, k⟩ => by
  unfold mP at hm
  split at hm
  · rename_i i ρ1 e1
    cases hm
    exact ⟨B, A, ρ, _, _, E, e1, fun v H1 P1 r1 => ⟨i, (r1.rr P1.env).int, k H1 P1⟩⟩
  · cases hm
def mSl (m : M D) (ml mh : M (Option Int)) : M D := fun ρ => match m ρ with
  | some (d, ρ1) => (match ml ρ1 with
    | some (lo, ρ2) => (match mh ρ2 with
      | some (hi, ρ3) => (match gSl lo hi d with
        | some r => some (r, ρ3)
        | none => none)
      | none => none)
    | none => none)
  | none => none
theorem x_slice {e : Expr} {lo hi : Option Expr} {p2 pos : Pos} {m : M D} {ml mh : M (Option Int)} {dep eff effl effh : List Nat} (he : PE X e (rd F m dep eff)) (hl : PO X lo (rdO F ml effl)) (hh : PO X hi (rdO F mh effh)) (hd1 : ∀ i ∈ dep, i ∉ effl := by decide) (hd2 : ∀ i ∈ dep, i ∉ effh := by decide) (hK : X.K = F.K := by rfl) :
    PE X (.Subscript e (.Slice lo hi none p2) pos) (rd F (mSl m ml mh) [] (eff ++ (effl ++ effh))) := by
  refine PE.mono (pe_slice (o_sl hK) he hl hh) fun σ H Q ⟨B, A, ρ, d, ρ', E, hm, k⟩ => ?_
  unfold mSl at hm
  split at hm
  · rename_i d1 ρ1 e1
    split at hm
    · rename_i lo ρ2 e2
      split at hm
      · rename_i hi ρ3 e3
        split at hm
        · rename_i r e4
          cases hm
          refine ⟨B, A, ρ, d1, ρ1, E, e1, fun v H1 P1 r1 => ⟨B, A, ρ1, lo, ρ2, P1.env, e2, fun H2 P2 => ⟨B, A, ρ2, hi, _, P2.env, e3, fun H3 P3 => ?_⟩⟩⟩
          exact ⟨_, d1, d, ((r1.later P2.gro P2.lv hd1).later P3.gro P3.lv hd2).rr P3.env, e4, P3.env.occA, fun v H' g r => k v H' ((P1.trans (P2.trans P3)).ext g) (.inl r)⟩
        · cases hm
      · cases hm
    · cases hm
  · cases hm
end
end PD
set_option Elab.async false
set_option linter.all false
set_option maxRecDepth 100000
set_option maxHeartbeats 2000000
namespace PD
open PySem PySem.Spec PyProof.Rows L2 GxR
abbrev allInts := gLe.allInts
def gLen : List D → Option D
  | [.list ds] => some (.int ds.length)
  | [.tuple ds] => some (.int ds.length)
  | [.dict ds] => if isT ds then none else some (.int ds.length)
  | [.str z] => if z.length ≤ sizeLine then some (.int z.length) else none
  | _ => none
def gAbs : List D → Option D
  | [.int i] => some (.int (if i < 0 then -i else i))
  | _ => none
def gInt : List D → Option D
  | [.int i] => some (.int i)
  | [.bool k] => some (.int (if k then 1 else 0))
  | _ => none
def gMax2 : List D → Option D
  | [.int i, .int j] => some (.int (if j > i then j else i))
  | _ => none
def gMin2 : List D → Option D
  | [.int i, .int j] => some (.int (if j < i then j else i))
  | _ => none
def gStr : List D → Option D
  | [.int i] => if i.natAbs.log2 < 1920 then some (.str (toString i)) else none
  | [.str z] => some (.str z)
  | _ => none
def gListOf : List D → Option D
  | [.list ds] => some (.list ds)
  | [.tuple ds] => some (.list ds)
  | [.dict ds] => if isT ds then none else some (.list (ds.map (·.1)))
  | _ => none
def gTupOf : List D → Option D
  | [.list ds] => some (.tuple ds)
  | [.tuple ds] => some (.tuple ds)
  | _ => none
def gSum : List D → Option D
  | [.list ds] => (allInts ds).map fun ns => .int ns.sum
  | _ => none
def sortI (ns : List Int) : List Int := ns.mergeSort (fun a b => decide (a ≤ b))
def gSorted : List D → Option D
  | [.list ds] => (allInts ds).map fun ns => .list ((sortI ns).map .int)
  | [.dict kvs] => (allInts (kvs.map (·.1))).bind fun ks => if ks.length < 64 then some (.list ((sortI ks).map .int)) else none
  | _ => none
theorem sortI_perm (ns : List Int) : (sortI ns).Perm ns := List.mergeSort_perm ns _
theorem sortI_sorted (ns : List Int) : (sortI ns).Pairwise (· ≤ ·) := by
  have h := List.pairwise_mergeSort (le := fun a b : Int => decide (a ≤ b)) (fun a b c h1 h2 => by simp only [decide_eq_true_eq] at *; omega) (fun a b => by simp only [Bool.or_eq_true, decide_eq_true_eq]; omega) ns
  exact h.imp fun h => by simpa using h
theorem sorted_uniq {xs ys : List Int} (p : xs.Perm ys) (hx : xs.Pairwise (· ≤ ·)) (hy : ys.Pairwise (· ≤ ·)) : xs = ys := List.Perm.eq_of_pairwise (fun a b _ _ h1 h2 => by omega) hx hy p
section
variable {X : Cx} {K : PySem.W.Frag} {S : Addr → Prop} {H : Hp}
theorem prs1 {vs : List V} {d : D} (h : Paired (RR K S H) vs [d]) : ∃ v, vs = [v] ∧ RR K S H v d := by
  cases h with
  | cons r t => cases t; exact ⟨_, rfl, r⟩
theorem prs2 {vs : List V} {d e : D} (h : Paired (RR K S H) vs [d, e]) : ∃ v w, vs = [v, w] ∧ RR K S H v d ∧ RR K S H w e := by
  cases h with
  | cons r t => cases t with
    | cons r' t => cases t; exact ⟨_, _, rfl, r, r'⟩
theorem RelKs.length : ∀ {vs : List (Key × V)} {ds : List (D × D)}, RelKs K S H vs ds → vs.length = ds.length
  | _, _, .nil => rfl
  | _, _, .cons _ t => congrArg (· + 1) t.length
theorem RelKs.keys : ∀ {vs : List (Key × V)} {ds : List (D × D)}, RelKs K S H vs ds → RelDs K S H (vs.map fun kv => kV kv.1) (ds.map (·.1))
  | _, _, .nil => .nil
  | _, _, .cons (k := k) _ t => .cons (by cases k; exact .int _; exact .str _) t.keys
theorem call_lenDK : CallR X (.builtin "len") (fun xs H Q => ∃ a kvs, xs = [V.ref a] ∧ Rd H a (.dK kvs) ∧ Q (.int kvs.length) H) := by
  intro pins s σ H xs us Q I r ⟨a, kvs, ex, hd, q⟩
  subst ex
  obtain ⟨u, rfl, ru⟩ := vals1 r
  cases ru
  exact d_len I hd fun t s' I' => ⟨.int kvs.length, H, I', ⟨t, rfl⟩, q⟩
theorem c_len (hK : X.K = K := by rfl) : CallR X (.builtin "len") (rcall K gLen) := by
  subst hK
  intro pins s σ H xs us Q I r ⟨S, ds, d, hr, e, occ, k⟩
  unfold gLen at e
  split at e
  · cases e
    obtain ⟨v, rfl, r1⟩ := prs1 hr
    obtain ⟨a, ys, rfl, h1, q1⟩ := r1.list
    exact call_len pins s σ H _ us Q I r ⟨_, ys.length, rfl, .inl ⟨ys, h1, rfl⟩, by rw [q1.length]; exact k _ H (Ext.refl H) (.int _)⟩
  · cases e
    obtain ⟨v, rfl, r1⟩ := prs1 hr
    obtain ⟨a, ys, rfl, h1, q1⟩ := r1.tuple
    exact call_len pins s σ H _ us Q I r ⟨_, ys.length, rfl, .inr ⟨ys, h1, rfl⟩, by rw [q1.length]; exact k _ H (Ext.refl H) (.int _)⟩
  · split at e
    · cases e
    rename_i hnT
    cases e
    obtain ⟨v, rfl, r1⟩ := prs1 hr
    obtain ⟨a, ys, rfl, h1, q1⟩ := r1.dict (Bool.eq_false_iff.mpr hnT)
    exact call_lenDK pins s σ H _ us Q I r ⟨a, ys, rfl, h1, by rw [q1.length]; exact k _ H (Ext.refl H) (.int _)⟩
  · split at e
    · rename_i z hl
      cases e
      obtain ⟨v, rfl, r1⟩ := prs1 hr
      exact call_len pins s σ H _ us Q I r ⟨_, z.length, rfl, by rw [r1.str]; exact ⟨hl, rfl⟩, k _ H (Ext.refl H) (.int _)⟩
    · cases e
  · cases e
theorem c_abs : CallR X (.builtin "abs") (rcall K gAbs) := by
  intro pins s σ H xs us Q I r ⟨S, ds, d, hr, e, occ, k⟩
  unfold gAbs at e
  split at e
  · cases e
    obtain ⟨v, rfl, r1⟩ := prs1 hr
    exact call_abs pins s σ H _ us Q I r ⟨_, by rw [r1.int], k _ H (Ext.refl H) (.int _)⟩
  · cases e
theorem c_int : CallR X (.type "int") (rcall K gInt) := by
  intro pins s σ H xs us Q I r ⟨S, ds, d, hr, e, occ, k⟩
  unfold gInt at e
  split at e
  · cases e
    obtain ⟨v, rfl, r1⟩ := prs1 hr
    exact call_int1 pins s σ H _ us Q I r (.inl ⟨_, by rw [r1.int], k _ H (Ext.refl H) (.int _)⟩)
  · cases e
    obtain ⟨v, rfl, r1⟩ := prs1 hr
    exact call_int1 pins s σ H _ us Q I r (.inr ⟨_, by rw [r1.bool], k _ H (Ext.refl H) (.int _)⟩)
  · cases e
theorem c_max2 (hc : X.calm = true) : CallR X (.builtin "max") (rcall K gMax2) := by
  intro pins s σ H xs us Q I r ⟨S, ds, d, hr, e, occ, k⟩
  unfold gMax2 at e
  split at e
  · cases e
    obtain ⟨v, w, rfl, r1, r2⟩ := prs2 hr
    exact call_max2 hc pins s σ H _ us Q I r ⟨_, _, by rw [r1.int, r2.int], k _ H (Ext.refl H) (.int _)⟩
  · cases e
theorem c_min2 (hc : X.calm = true) : CallR X (.builtin "min") (rcall K gMin2) := by
  intro pins s σ H xs us Q I r ⟨S, ds, d, hr, e, occ, k⟩
  unfold gMin2 at e
  split at e
  · cases e
    obtain ⟨v, w, rfl, r1, r2⟩ := prs2 hr
    exact call_min2 hc pins s σ H _ us Q I r ⟨_, _, by rw [r1.int, r2.int], k _ H (Ext.refl H) (.int _)⟩
  · cases e
theorem c_str : CallR X (.type "str") (rcall K gStr) := by
  intro pins s σ H xs us Q I r ⟨S, ds, d, hr, e, occ, k⟩
  unfold gStr at e
  split at e
  · split at e
    · rename_i i hz
      cases e
      obtain ⟨v, rfl, r1⟩ := prs1 hr
      exact call_str_int pins s σ H _ us Q I r ⟨_, by rw [r1.int], hz, k _ H (Ext.refl H) (.str _)⟩
    · cases e
  · cases e
    obtain ⟨v, rfl, r1⟩ := prs1 hr
    exact SkE.call_str_str pins s σ H _ us Q I r ⟨_, by rw [r1.str], k _ H (Ext.refl H) (.str _)⟩
  · cases e
theorem c_tuple (hK : X.K = K := by rfl) : CallR X (.type "tuple") (rcall K gTupOf) := by
  subst hK
  intro pins s σ H xs us Q I r ⟨S, ds, d, hr, e, occ, k⟩
  unfold gTupOf at e
  split at e
  · cases e
    obtain ⟨v, rfl, r1⟩ := prs1 hr
    obtain ⟨a, ys, rfl, h1, q1⟩ := r1.list
    exact FrzT.call_tuple_ofF pins s σ H _ us Q I r ⟨a, ys, rfl, .inl ⟨h1, fun p o hp hc hd => k _ _ (Ext.new hp) (.tup (fun z => occ _ z hp) ⟨o, upd_same, hc, hd⟩ (q1.ext (Ext.new hp)))⟩⟩
  · cases e
    obtain ⟨v, rfl, r1⟩ := prs1 hr
    have R1 := r1.tupleD
    obtain ⟨a, ys, rfl, h1, q1⟩ := r1.tuple
    exact call_tuple_of pins s σ H _ us Q I r ⟨a, ys, rfl, .inr ⟨h1, k _ H (Ext.refl H) R1⟩⟩
  · cases e
theorem rels_ints (ns : List Int) : RelDs K S H (ns.map V.int) (ns.map .int) := by
  induction ns with
  | nil => exact .nil
  | cons n ns ih => exact .cons (.int n) ih
theorem keys_ints {S : Addr → Prop} {H : Hp} : ∀ {kvs : List (Key × V)} {ds : List (D × D)} {ks : List Int}, RelKs K S H kvs ds → allInts (ds.map (·.1)) = some ks → kvs.map (·.1) = ks.map Sum.inl
  | _, _, ks, .nil, e => by cases e; rfl
  | _, _, ks, .cons (k := k) (ds := ds) r t, e => by
    cases k with
    | inl i =>
      have e : (allInts (ds.map (·.1))).map (i :: ·) = some ks := e
      cases q : allInts (ds.map (·.1)) with
      | none => rw [q] at e; cases e
      | some ks' =>
        rw [q] at e
        cases e
        rw [List.map_cons, keys_ints t q]; rfl
    | inr x => cases e
theorem c_sorted (hcalm : X.calm = true) (hK : X.K = K := by rfl) : CallR X (.builtin "sorted") (rcall K gSorted) := by
  subst hK
  intro pins s σ H xs us Q I r ⟨S, ds, d, hr, e, occ, k⟩
  unfold gSorted at e
  split at e
  · rename_i l
    cases q : allInts l with
    | none => rw [q] at e; cases e
    | some ns =>
      rw [q] at e
      cases e
      obtain ⟨v, rfl, r1⟩ := prs1 hr
      obtain ⟨a, ys, rfl, h1, q1⟩ := r1.list
      have z := allInts_rel q q1
      subst z
      refine cr_sortedI pins s σ H _ us Q I r ⟨a, ns, rfl, h1, fun ns' p hp hs hn => ?_⟩
      have e : ns' = sortI ns := sorted_uniq (hp.trans (sortI_perm ns).symm) hs (sortI_sorted ns)
      subst e
      exact k _ _ (Ext.new hn) (.lst (fun z => occ _ z hn) (.inl upd_same) ((rels_ints _).ext (Ext.new hn)))
  · rename_i kvs
    cases q : allInts (kvs.map (·.1)) with
    | none => rw [q] at e; cases e
    | some ks =>
      rw [q] at e
      have e : (if ks.length < 64 then some (PyData.list ((sortI ks).map .int)) else none) = some d := e
      split at e
      · rename_i h64
        cases e
        obtain ⟨v, rfl, r1⟩ := prs1 hr
        rcases r1.dict2 with ⟨a, ys, rfl, h1, q1⟩ | ⟨_, _, _, _, hT⟩
        rotate_left
        · cases hT with
          | mk _ => cases q
        refine call_sortedDI hcalm pins s σ H _ us Q I r ⟨a, ys, ks, rfl, h1, keys_ints q1 q, h64, fun ns' p hp hs hn => ?_⟩
        have e : ns' = sortI ks := sorted_uniq (hp.trans (sortI_perm ks).symm) hs (sortI_sorted ks)
        subst e
        exact k _ _ (Ext.new hn) (.lst (fun z => occ _ z hn) (.inl upd_same) ((rels_ints _).ext (Ext.new hn)))
      · cases e
  · cases e
end
end PD
set_option Elab.async false
set_option linter.all false
set_option maxRecDepth 100000
set_option maxHeartbeats 2000000
namespace PD
open PySem PySem.Spec PyProof.Rows L2 GxR
section
variable {F : Frm} {B : List Addr} {A : Nat → Addr} {σ : L2.St} {H H' : Hp} {ρ ρ' : Rho}
theorem own_set {i : Nat} {z : Option (Bool × D)} {j : Nat} {e : D} (h : (ρ.set i z)[j]? = some (some (true, e))) : (i = j ∧ z = some (true, e)) ∨ (i ≠ j ∧ ρ[j]? = some (some (true, e))) := by
  rw [get_set] at h
  by_cases hij : i = j
  · rw [if_pos hij] at h
    split at h
    · exact .inl ⟨hij, Option.some.inj h⟩
    · cases h
  · rw [if_neg hij] at h
    exact .inr ⟨hij, h⟩
theorem sig_set {σ : L2.St} {i j : Nat} {z : Option V} (h : i ≠ j) : (σ.set i z)[j]? = σ[j]? := by rw [List.getElem?_set]; rw [if_neg h]
theorem Ev.setPlain (E : Ev F B A σ H ρ) {i : Nat} {v : V} {d : D} (hi : i ∉ F.io) (hl : i < ρ.length) (r : RelD F.K (Av F B A ρ) H v d) : Ev F B A (σ.set i (some v)) H (ρ.set i (some (false, d))) := by
  have hav : ∀ a, Av F B A (ρ.set i (some (false, d))) a → Av F B A ρ a := fun a h => by
    rcases h with h | h | ⟨j, e, h, z⟩
    · exact .inl h
    · exact .inr (.inl h)
    · rcases own_set h with ⟨_, q⟩ | ⟨_, q⟩
      · cases q
      · exact .inr (.inr ⟨j, e, q, z⟩)
  have own' : ∀ {j : Nat} {e : D}, (ρ.set i (some (false, d)))[j]? = some (some (true, e)) → i ≠ j ∧ ρ[j]? = some (some (true, e)) := fun h => by
    rcases own_set h with ⟨_, q⟩ | q
    · cases q
    · exact q
  refine ⟨by rw [List.length_set, List.length_set]; exact E.len, fun j e h => ?_, fun j e h => ?_, fun j k e1 e2 a h1 h2 => E.inj j k e1 e2 a (own' h1).2 (own' h2).2, fun j e a h => E.nS j e a (own' h).2, fun j hj => ?_, by rw [List.length_set]; exact E.few, E.occ, E.occB, E.chg, E.tabs, fun r hr => (E.roots r hr).mono (C := fun _ => False) (Gro.refl _) hav fun _ z => z.elim⟩
  · rw [get_set] at h
    by_cases hij : i = j
    · subst hij
      rw [if_pos rfl, if_pos hl] at h
      cases h
      exact ⟨v, by rw [List.getElem?_set, if_pos rfl, if_pos (by rw [← E.len]; exact hl)], r.mono (C := fun _ => False) (Gro.refl _) hav fun _ z => z.elim⟩
    · rw [if_neg hij] at h
      obtain ⟨w, h1, h2⟩ := E.plain j e h
      exact ⟨w, by rw [sig_set hij]; exact h1, h2.mono (C := fun _ => False) (Gro.refl _) hav fun _ z => z.elim⟩
  · obtain ⟨hij, h⟩ := own' h
    obtain ⟨h1, h2⟩ := E.own j e h
    exact ⟨by rw [sig_set hij]; exact h1, h2.mono (C := fun _ => False) (Gro.refl _) hav (fun _ z => z.elim) fun _ _ => id⟩
  · obtain ⟨e, h4, h1⟩ := E.ios j hj
    exact ⟨e, by rw [get_set, if_neg (show ¬ i = j from fun z => hi (z ▸ hj))]; exact h4, h1⟩
def upA (A : Nat → Addr) (i : Nat) (p : Addr) : Nat → Addr := fun j => if j = i then p else A j
theorem upA_same {i : Nat} {p : Addr} : upA A i p i = p := if_pos rfl
theorem upA_ne {i j : Nat} {p : Addr} (h : i ≠ j) : upA A i p j = A j := if_neg (Ne.symm h)
theorem upA_in {i j : Nat} {p : Addr} (hi : i < 1000) : upA A i p (j + 1000) = A (j + 1000) := upA_ne (by omega)
theorem Pt.upA_ne {i j : Nat} {p a : Addr} {d : D} (hi : i < 1000) (h : i ≠ j) (z : Pt (upA A i p) j d a) : Pt A j d a := by
  unfold Pt at z ⊢
  rwa [PD.upA_ne h, upA_in hi] at z
theorem Ev.setOwn (E : Ev F (p :: B) A σ H ρ) {i : Nat} {d : D} (hi : i ∉ F.io) (hl : i < ρ.length) (r : RelO F.K (Av F (p :: B) A ρ) H p d) (hp : p ∉ B) : Ev F B (upA A i p) (σ.set i (some (.ref p))) H (ρ.set i (some (true, d))) := by
  have hb := r.notB
  have hi1 : i < 1000 := Nat.lt_of_lt_of_le hl E.few
  have hav : ∀ a, Av F B (upA A i p) (ρ.set i (some (true, d))) a → Av F (p :: B) A ρ a := fun a h => by
    rcases h with h | h | ⟨j, e, h, z⟩
    · exact .inl h
    · exact .inr (.inl (List.mem_cons_of_mem _ h))
    · rcases own_set h with ⟨hij, q⟩ | ⟨hij, q⟩
      · cases q
        rw [z.of_not hb, ← hij, upA_same]
        exact .inr (.inl List.mem_cons_self)
      · exact .inr (.inr ⟨j, e, q, z.upA_ne hi1 hij⟩)
  obtain ⟨hn, h0, hS⟩ := E.occB p List.mem_cons_self
  have apart : ∀ {j : Nat} {e : D}, ρ[j]? = some (some (true, e)) → ¬ Pt A j e p := fun {j e} h z => by
    by_cases hj : j ∈ F.io
    · obtain ⟨e', h4, _, _, h3⟩ := E.ios j hj
      rw [h] at h4
      cases h4
      exact (h3 p z).2 List.mem_cons_self
    · exact (E.nS j e p h z hj).2.1 List.mem_cons_self
  refine ⟨by rw [List.length_set, List.length_set]; exact E.len, fun j e h => ?_, fun j e h => ?_, fun j k e1 e2 a h1 h2 z1 z2 => ?_, fun j e a h z hj => ?_, fun j hj => ?_, by rw [List.length_set]; exact E.few, E.occ, fun b hb => E.occB b (List.mem_cons_of_mem _ hb), E.chg, E.tabs, fun r hr => (E.roots r hr).mono (C := fun _ => False) (Gro.refl _) hav fun _ z => z.elim⟩
  · rw [get_set] at h
    by_cases hij : i = j
    · subst hij
      rw [if_pos rfl, if_pos hl] at h
      cases h
    · rw [if_neg hij] at h
      obtain ⟨w, h1, h2⟩ := E.plain j e h
      exact ⟨w, by rw [sig_set hij]; exact h1, h2.mono (C := fun _ => False) (Gro.refl _) hav fun _ z => z.elim⟩
  · rcases own_set h with ⟨hij, q⟩ | ⟨hij, q⟩
    · subst hij
      cases q
      exact ⟨by rw [List.getElem?_set, if_pos rfl, if_pos (by rw [← E.len]; exact hl), upA_same], RelO.toOwn (by rw [upA_same]; exact r.mono (C := fun _ => False) (Gro.refl _) hav (fun _ z => z.elim) id)⟩
    · obtain ⟨h1, h2⟩ := E.own j e q
      exact ⟨by rw [sig_set hij, upA_ne hij]; exact h1, (h2.mono (C := fun _ => False) (Gro.refl _) hav (fun _ z => z.elim) fun _ _ => id).at_ (upA_ne hij) fun _ => upA_in hi1⟩
  · rcases own_set h1 with ⟨hij, q1⟩ | ⟨hij, q1⟩ <;> rcases own_set h2 with ⟨hik, q2⟩ | ⟨hik, q2⟩
    · exact hij.symm.trans hik
    · cases q1
      have e := z1.of_not hb
      rw [← hij, upA_same] at e
      exact absurd (e ▸ z2.upA_ne hi1 hik) (apart q2)
    · cases q2
      have e := z2.of_not hb
      rw [← hik, upA_same] at e
      exact absurd (e ▸ z1.upA_ne hi1 hij) (apart q1)
    · exact E.inj j k e1 e2 a q1 q2 (z1.upA_ne hi1 hij) (z2.upA_ne hi1 hik)
  · rcases own_set h with ⟨hij, q⟩ | ⟨hij, q⟩
    · cases q
      have e := z.of_not hb
      rw [← hij, upA_same] at e
      rw [e]
      exact ⟨hS, hp, h0⟩
    · obtain ⟨g1, g2, g3⟩ := E.nS j e a q (z.upA_ne hi1 hij) hj
      exact ⟨g1, fun z => g2 (List.mem_cons_of_mem _ z), g3⟩
  · obtain ⟨e, h4, h1, h2, h3⟩ := E.ios j hj
    have hij : i ≠ j := fun z => hi (z ▸ hj)
    exact ⟨e, by rw [get_set, if_neg hij]; exact h4, by rw [upA_ne hij]; exact h1, by rw [upA_in hi1]; exact h2, fun a z => ⟨(h3 a (z.upA_ne hi1 hij)).1, fun z2 => (h3 a (z.upA_ne hi1 hij)).2 (List.mem_cons_of_mem _ z2)⟩⟩
theorem Ev.writeP (E : Ev F B A σ H ρ) {i : Nat} {d d' : D} (e : ρ[i]? = some (some (true, d))) (g : Gro (Pt A i d) H H') (r : Own F.K (Av F B A ρ) H' A i d') (hk : isBg d' = isBg d) : Ev F B A σ H' (ρ.set i (some (true, d'))) := by
  have hl : i < ρ.length := (List.getElem?_eq_some_iff.mp e).1
  have hC : ∀ a, Pt A i d a → Av F B A ρ a := fun a h => .inr (.inr ⟨i, d, e, h⟩)
  have own' : ∀ {j : Nat} {e' : D}, (ρ.set i (some (true, d')))[j]? = some (some (true, e')) → ∃ e0, ρ[j]? = some (some (true, e0)) ∧ isBg e' = isBg e0 := fun {j e'} h => by
    rcases own_set h with ⟨hij, z⟩ | ⟨_, q⟩
    · cases z
      exact ⟨d, hij ▸ e, hk⟩
    · exact ⟨e', q, rfl⟩
  have pt' : ∀ {j : Nat} {e' e0 : D} {a : Addr}, isBg e' = isBg e0 → Pt A j e' a → Pt A j e0 a := fun h z => z.imp fun q => h ▸ q
  have hav : ∀ a, Av F B A (ρ.set i (some (true, d'))) a → Av F B A ρ a := fun a h => by
    rcases h with h | h | ⟨j, e', h, z⟩
    · exact .inl h
    · exact .inr (.inl h)
    · obtain ⟨e0, q, hk0⟩ := own' h
      exact .inr (.inr ⟨j, e0, q, pt' hk0 z⟩)
  refine ⟨by rw [List.length_set]; exact E.len, fun j e' h => ?_, fun j e' h => ?_, fun j k e1 e2 a h1 h2 z1 z2 => ?_, fun j e' a h z hj => ?_, fun j hj => ?_, by rw [List.length_set]; exact E.few, fun a h => g.live a (E.occ a h), fun b hb => ⟨g.live b (E.occB b hb).1, (E.occB b hb).2⟩, ⟨fun a o h n t => ?_, fun P t => g.tabs P (E.chg.tabs P t), fun a n => g.live a (E.chg.live a n)⟩, fun P hP => g.tabs P (E.tabs P hP), fun r hr => (E.roots r hr).mono g hav hC⟩
  · rw [get_set] at h
    by_cases hij : i = j
    · subst hij
      rw [if_pos rfl, if_pos hl] at h
      cases h
    · rw [if_neg hij] at h
      obtain ⟨w, h1, h2⟩ := E.plain j e' h
      exact ⟨w, h1, h2.mono g hav hC⟩
  · rcases own_set h with ⟨hij, q⟩ | ⟨hij, q⟩
    · subst hij
      cases q
      exact ⟨(E.own i d e).1, r.mono (C := fun _ => False) (Gro.refl _) hav (fun _ z => z.elim) fun _ _ => id⟩
    · obtain ⟨h1, h2⟩ := E.own j e' q
      exact ⟨h1, h2.mono g hav hC fun a z1 z2 => hij (E.inj i j d e' a e q z2 z1)⟩
  · obtain ⟨f1, q1, k1⟩ := own' h1
    obtain ⟨f2, q2, k2⟩ := own' h2
    exact E.inj j k f1 f2 a q1 q2 (pt' k1 z1) (pt' k2 z2)
  · obtain ⟨f1, q1, k1⟩ := own' h
    exact E.nS j f1 a q1 (pt' k1 z) hj
  · obtain ⟨e', h4, h1, h2, h3⟩ := E.ios j hj
    by_cases hij : i = j
    · subst hij
      rw [e] at h4
      cases h4
      exact ⟨d', by rw [get_set, if_pos rfl, if_pos hl], h1, fun z => h2 (hk ▸ z), fun a z => h3 a (pt' hk z)⟩
    · exact ⟨e', by rw [get_set, if_neg hij]; exact h4, h1, h2, h3⟩
  · refine g.keep a o (E.chg.keep a o h n t) (fun z => ?_) t
    by_cases hj : i ∈ F.io
    · obtain ⟨e', h4, h1, h2, h3⟩ := E.ios i hj
      rw [e] at h4
      cases h4
      rcases z with z | ⟨zb, z⟩
      · exact n ⟨i, hj, .inl (z.trans h1)⟩
      · exact n ⟨i, hj, .inr (z.trans (h2 zb))⟩
    · rw [(E.nS i d a e z hj).2.2] at h
      cases h
theorem Ev.write (E : Ev F B A σ H ρ) {i : Nat} {d d' : D} (e : ρ[i]? = some (some (true, d))) (g : Gro (fun a => a = A i) H H') (r : RelO F.K (Av F B A ρ) H' (A i) d') (hb : isBg d = false) : Ev F B A σ H' (ρ.set i (some (true, d'))) :=
  E.writeP e (g.mono fun a z => .inl z) r.toOwn (by rw [hb, r.notB])
theorem Post.writeP {eff : List Nat} {H0 : Hp} {ρ0 : Rho} (P : Post F B A σ H0 ρ0 eff H ρ) {i : Nat} {d d' : D} (e : ρ[i]? = some (some (true, d))) (g : Gro (Pt A i d) H H') (r : Own F.K (Av F B A ρ) H' A i d') (hk : isBg d' = isBg d) : Post F B A σ H0 ρ0 (eff ++ [i]) H' (ρ.set i (some (true, d'))) := by
  refine P.trans ⟨P.env.writeP e g r hk, g.mono fun a z => ⟨i, d, e, z⟩, ⟨fun j hj => by rw [get_set, if_neg (fun z => hj (by rw [z]; simp))], fun j e' h => ?_⟩⟩
  rcases own_set h with ⟨hij, z⟩ | ⟨_, q⟩
  · cases z
    exact ⟨d, hij ▸ e, fun z => hk ▸ z⟩
  · exact ⟨e', q, id⟩
theorem Post.write {eff : List Nat} {H0 : Hp} {ρ0 : Rho} (P : Post F B A σ H0 ρ0 eff H ρ) {i : Nat} {d d' : D} (e : ρ[i]? = some (some (true, d))) (g : Gro (fun a => a = A i) H H') (r : RelO F.K (Av F B A ρ) H' (A i) d') (hb : isBg d = false := by first | rfl | assumption) : Post F B A σ H0 ρ0 (eff ++ [i]) H' (ρ.set i (some (true, d'))) :=
  P.writeP e (g.mono fun a z => .inl z) r.toOwn (by rw [hb, r.notB])
theorem Gro.upd {a : Addr} {o o' : HO} (h : H a = some o) (hn : ∀ ps, o ≠ .tbl ps) (hc : ∀ c q, o ≠ LamX.CodeO c q := by (intro c q z; first | exact PD.TDict.noCode z | (unfold LamX.CodeO at z; cases z))) : Gro (fun b => b = a) H (upd H a o') := gro_frz h hn hc
end
inductive Out where
  | nx (ρ : Rho) | rt (d : D) (ρ : Rho) | bk (ρ : Rho) | ct (ρ : Rho)
def Ret (F : Frm) (ρ : Rho) (H : Hp) (v : V) (d : D) : Prop := if F.new then ∃ p, v = .ref p ∧ F.H0 p = none ∧ RelO F.K (fun a => F.S a ∨ a = p) H p d ∧ ∀ j ∈ F.io, ∀ d', ρ[j]? = some (some (true, d')) → Own F.K (fun a => F.S a ∨ a = p) H F.A0 j d' else RelD F.K F.S H v d
theorem Ret.plain {F : Frm} (hn : F.new = false) {ρ : Rho} {H : Hp} {v : V} {d : D} (r : RelD F.K F.S H v d) : Ret F ρ H v d := by unfold Ret; rw [hn]; exact r
theorem Ret.fresh {F : Frm} (hn : F.new = true) {B : List Addr} {A : Nat → Addr} {σ : L2.St} {ρ : Rho} {H : Hp} {p : Addr} {d : D} (E : Ev F B A σ H ρ) (h0 : F.H0 p = none) (hp : Av F B A ρ p) (r : RelO F.K (Av F B A ρ) H p d) : Ret F ρ H (.ref p) d := by
  have hS : ∀ a, (F.S a ∨ a = p) → Av F B A ρ a := fun a z => z.elim .inl fun z => z ▸ hp
  unfold Ret; rw [hn]
  exact ⟨p, rfl, h0, r.mono (C := fun _ => False) (Gro.refl _) hS (fun _ z => z.elim) id, fun j hj d' e => by
    obtain ⟨e', h4, h1, h2, _⟩ := E.ios j hj
    rw [e] at h4
    cases h4
    exact ((E.own j d' e).2.mono (C := fun _ => False) (Gro.refl _) hS (fun _ z => z.elim) fun _ _ => id).at_ h1.symm fun z => (h2 z).symm⟩
def Done (F : Frm) (Dn : Ends) : Out → Prop
  | .nx ρ => ∀ A σ H, Ev F [] A σ H ρ → Dn.nx σ H
  | .bk ρ => ∀ A σ H, Ev F [] A σ H ρ → Dn.bk σ H
  | .ct ρ => ∀ A σ H, Ev F [] A σ H ρ → Dn.ct σ H
  | .rt d ρ => ∀ A σ v H, Ev F [] A σ H ρ → Ret F ρ H v d → Dn.rt v H
abbrev MS := Rho → Option Out
def rdS (F : Frm) (m : MS) : TS := fun Dn σ H => ∃ A ρ out, Ev F [] A σ H ρ ∧ m ρ = some out ∧ Done F Dn out
section
variable {X : Cx} {F : Frm} {pos : Pos}
theorem PSs.mono {st : List Stmt} {t t' : TS} (h : PSs X st t) (hm : ∀ Dn σ H, t' Dn σ H → t Dn σ H) : PSs X st t' := ⟨fun pins s σ H Dn I q => h.run pins s σ H Dn I (hm Dn σ H q)⟩
def mNext : MS := fun ρ => some (.nx ρ)
def mSeq (m1 m2 : MS) : MS := fun ρ => match m1 ρ with
  | some (.nx ρ1) => m2 ρ1
  | r => r
theorem ss_nil : PSs X [] (rdS F mNext) := PSs.mono pss_nil fun Dn σ H ⟨A, ρ, out, E, hm, k⟩ => by
  cases hm
  exact k A σ H E
theorem ss_cons {st : Stmt} {rest : List Stmt} {m1 m2 : MS} (h1 : PS X st (rdS F m1)) (h2 : PSs X rest (rdS F m2)) : PSs X (st :: rest) (rdS F (mSeq m1 m2)) := PSs.mono (pss_cons h1 h2) fun Dn σ H ⟨A, ρ, out, E, hm, k⟩ => by
  unfold mSeq at hm
  split at hm
  · rename_i ρ1 e1
    exact ⟨A, ρ, .nx ρ1, E, e1, fun A' σ' H' E' => ⟨A', ρ1, out, E', hm, k⟩⟩
  · rename_i r hr
    refine ⟨A, ρ, out, E, hm, ?_⟩
    cases out with
    | nx ρ1 => exact absurd hm (hr ρ1)
    | rt d ρ1 => exact k
    | bk ρ1 => exact k
    | ct ρ1 => exact k
def mBreak : MS := fun ρ => some (.bk ρ)
def mCont : MS := fun ρ => some (.ct ρ)
theorem s_break : PS X (.Break pos) (rdS F mBreak) := PS.mono ps_break fun Dn σ H ⟨A, ρ, out, E, hm, k⟩ => by cases hm; exact k A σ H E
def mRet (m : M D) : MS := fun ρ => (m ρ).map fun r => .rt r.1 r.2
theorem Val.out {A : Nat → Addr} {H : Hp} {ρ : Rho} {v : V} {d : D} (r : Val F [] A ρ H [] v d) : RelD F.K F.S H v d := r.plain.mono (C := fun _ => False) (Gro.refl _) (fun a z => .inl z) fun _ z => z.elim
theorem s_ret {e : Expr} {m : M D} {eff : List Nat} (h : PE X e (rd F m [] eff)) (hnw : F.new = false := by rfl) : PS X (.Return (some e) pos) (rdS F (mRet m)) := PS.mono (ps_ret h) fun Dn σ H ⟨A, ρ, out, E, hm, k⟩ => by
  unfold mRet at hm
  cases q : m ρ with
  | none => rw [q] at hm; cases hm
  | some r =>
    rw [q] at hm
    cases hm
    exact ⟨[], A, ρ, r.1, r.2, E, q, fun v H' P r' => k A σ v H' P.env (.plain hnw r'.out)⟩
def mDrop (m : M D) : MS := fun ρ => (m ρ).map fun r => .nx r.2
theorem s_expr {e : Expr} {m : M D} {dep eff : List Nat} (h : PE X e (rd F m dep eff)) (hs : swapsWith e none pos.line X.env = pure false := by rfl) : PS X (.Expr e pos) (rdS F (mDrop m)) := PS.mono (ps_expr h hs) fun Dn σ H ⟨A, ρ, out, E, hm, k⟩ => by
  unfold mDrop at hm
  cases q : m ρ with
  | none => rw [q] at hm; cases hm
  | some r =>
    rw [q] at hm
    cases hm
    exact ⟨[], A, ρ, r.1, r.2, E, q, fun v H' P r' => k A σ H' P.env⟩
def mIfS (c : M Bool) (m1 m2 : MS) : MS := fun ρ => match c ρ with
  | some (true, ρ1) => m1 ρ1
  | some (false, ρ1) => m2 ρ1
  | none => none
theorem s_if {c : Expr} {a b : List Stmt} {mc : M Bool} {eff : List Nat} {m1 m2 : MS} (hc : PT X c (rdT F mc eff)) (ha : PSs X a (rdS F m1)) (hb : PSs X b (rdS F m2)) : PS X (.If c a b pos) (rdS F (mIfS mc m1 m2)) := PS.mono (ps_if hc ha hb) fun Dn σ H ⟨A, ρ, out, E, hm, k⟩ => by
  unfold mIfS at hm
  split at hm
  · rename_i ρ1 e1
    refine ⟨[], A, ρ, true, ρ1, E, e1, fun H' P => ?_⟩
    simp only [if_true]
    exact ⟨A, ρ1, out, P.env, hm, k⟩
  · rename_i ρ1 e1
    refine ⟨[], A, ρ, false, ρ1, E, e1, fun H' P => ?_⟩
    simp only [Bool.false_eq_true, if_false]
    exact ⟨A, ρ1, out, P.env, hm, k⟩
  · cases hm
def rdG (F : Frm) (B : List Addr) (m : D → Rho → Option Rho) : TG := fun v σ H Q => ∃ A ρ d ρ', Ev F B A σ H ρ ∧ RelD F.K (Av F B A ρ) H v d ∧ m d ρ = some ρ' ∧ ∀ σ' H', Ev F B A σ' H' ρ' → Gro (fun _ => False) H H' → Q σ' H'
def gSet (i : Nat) : D → Rho → Option Rho := fun d ρ => if i < ρ.length then some (ρ.set i (some (false, d))) else none
theorem PG.mono {e : Expr} {t t' : TG} (h : PG X e t) (hm : ∀ v σ H Q, t' v σ H Q → t v σ H Q) : PG X e t' := ⟨fun pins s σ H v u Q I r q => h.run pins s σ H v u Q I r (hm v σ H Q q)⟩
theorem g_name {B : List Addr} {i : Nat} {x : Str} (hN : X.N.Nodup) (hi : X.N[i]? = some x) (hx : Loc X.env.scope x) (hio : i ∉ F.io) (hf : X.fn x = true ∨ X.env.scope.names.lookup x = some .local := by first | exact .inl rfl | exact .inr rfl | assumption) : PG X (.Name x pos) (rdG F B (gSet i)) :=
  PG.mono (pg_name hN hi hx hf) fun v σ H Q ⟨A, ρ, d, ρ', E, r, hm, k⟩ => by
    unfold gSet at hm
    split at hm
    · rename_i hl
      cases hm
      exact k _ H (E.setPlain hio hl r) (Gro.refl _)
    · cases hm
def mAsg (m : M D) (g : D → Rho → Option Rho) : MS := fun ρ => match m ρ with
  | some (d, ρ1) => (g d ρ1).map .nx
  | none => none
theorem s_asg {tg e : Expr} {m : M D} {g : D → Rho → Option Rho} {eff : List Nat} (he : PE X e (rd F m [] eff)) (hg : PG X tg (rdG F [] g)) (hs : swapsWithSole [tg] e pos.line X.env = pure false := by rfl) (hw : swappedStores [tg] e X.env = pure none := by rfl)
    (h1 : (assignEach [tg] X.env).map (·.2) = [assign tg X.env] := by rfl) : PS X (.Assign [tg] e pos) (rdS F (mAsg m g)) := PS.mono (ps_asg he hg hs hw h1) fun Dn σ H ⟨A, ρ, out, E, hm, k⟩ => by
  unfold mAsg at hm
  cases q : m ρ with
  | none => rw [q] at hm; cases hm
  | some r =>
    rw [q] at hm
    obtain ⟨d, ρ1⟩ := r
    cases q2 : g d ρ1 with
    | none => simp only [q2] at hm; cases hm
    | some ρ2 =>
      simp only [q2] at hm
      cases hm
      exact ⟨[], A, ρ, d, ρ1, E, q, fun v H' P r' => ⟨A, ρ1, d, ρ2, P.env, r'.plain, q2, fun σ' H2 E2 _ => k A σ' H2 E2⟩⟩
theorem Ev.notOw0 {F : Frm} {B : List Addr} {A : Nat → Addr} {σ : L2.St} {H : Hp} {ρ : Rho} {b : Addr} (E : Ev F B A σ H ρ) (hb : b ∈ B) : ¬ Ow A ρ b := fun ⟨i, d, h, z⟩ => by
  by_cases hi : i ∈ F.io
  · obtain ⟨e, h4, _, _, h3⟩ := E.ios i hi
    rw [h] at h4
    cases h4
    exact (h3 b z).2 hb
  · exact (E.nS i d b h z hi).2.1 hb
def rdN (F : Frm) (m : M D) (eff : List Nat) : TE := fun σ H Q => ∃ B A ρ d ρ', Ev F B A σ H ρ ∧ m ρ = some (d, ρ') ∧ ∀ p H', Post F B A σ H ρ eff H' ρ' → Ev F (p :: B) A σ H' ρ' → (p ∉ B ∧ H p = none) → RelO F.K (Av F (p :: B) A ρ') H' p d → Q (.ref p) H'
theorem Ev.writeB {B : List Addr} {A : Nat → Addr} {σ : L2.St} {H H' : Hp} {ρ : Rho} {b : Addr} (E : Ev F B A σ H ρ) (hb : b ∈ B) (g : Gro (fun a => a = b) H H') : Ev F B A σ H' ρ := by
  have hC : ∀ a, a = b → Av F B A ρ a := fun a h => .inr (.inl (h ▸ hb))
  have hA : ∀ {i : Nat} {d : D}, ρ[i]? = some (some (true, d)) → ∀ a, Pt A i d a → ¬ a = b := fun {i d} h a p z => E.notOw0 hb ⟨i, d, h, z ▸ p⟩
  exact ⟨E.len, fun i d e => let ⟨v, h1, h2⟩ := E.plain i d e; ⟨v, h1, h2.mono g (fun _ z => z) hC⟩, fun i d e => let ⟨h1, h2⟩ := E.own i d e; ⟨h1, h2.mono g (fun _ z => z) hC (hA e)⟩, E.inj, E.nS, E.ios, E.few, fun a h => g.live a (E.occ a h), fun c hc => ⟨g.live c (E.occB c hc).1, (E.occB c hc).2⟩,
    ⟨fun a o e n t => g.keep a o (E.chg.keep a o e n t) (fun z => by
      have h0 := (E.occB b hb).2.1
      rw [z, h0] at e
      cases e) t, fun P t => g.tabs P (E.chg.tabs P t), fun a n => g.live a (E.chg.live a n)⟩, fun P hP => g.tabs P (E.tabs P hP), fun r hr => (E.roots r hr).mono g (fun _ z => z) hC⟩
theorem newOut {B : List Addr} {A : Nat → Addr} {σ : L2.St} {H' : Hp} {ρ' : Rho} {p : Addr} (E' : Ev F (p :: B) A σ H' ρ') (hp : p ∉ B) : ¬ Av F B A ρ' p := fun z => by
  obtain ⟨hn, h0, hS⟩ := E'.occB p List.mem_cons_self
  rcases z with z | z | ⟨j, e, q, z⟩
  · exact hS z
  · exact hp z
  · exact E'.notOw0 List.mem_cons_self ⟨j, e, q, z⟩
theorem av_more {B : List Addr} {A : Nat → Addr} {ρ : Rho} {p : Addr} : ∀ a, Av F B A ρ a → Av F (p :: B) A ρ a := fun a z => by
  rcases z with z | z | z
  · exact .inl z
  · exact .inr (.inl (List.mem_cons_of_mem _ z))
  · exact .inr (.inr z)
theorem newFz {B : List Addr} {A : Nat → Addr} {σ : L2.St} {H H' : Hp} {ρ ρ' : Rho} {eff : List Nat} {p : Addr} {d : D} {u : HO} {od : Obj} (P : Post F B A σ H ρ eff H' ρ') (E' : Ev F (p :: B) A σ H' ρ') (hp : p ∉ B ∧ H p = none) (hd : isDc d = true) (r : RelO F.K (Av F (p :: B) A ρ') H' p d) (hu : H' p = some u) (ht : ∀ ps, u ≠ .tbl ps) :
    Post F B A σ H ρ eff (upd H' p (.frz od u)) ρ' ∧ RelD F.K (Av F B A ρ') (upd H' p (.frz od u)) (.ref p) d :=
  ⟨⟨(E'.writeB List.mem_cons_self (gro_frz hu ht (r.noCode hu))).unhide, P.gro.fresh' hp.2 (gro_frz hu ht (r.noCode hu)), P.lv⟩, r.relF hd hu (.inr (.inl List.mem_cons_self)) av_more (newOut E' hp.1)⟩
theorem x_new {e : Expr} {m : M D} {eff : List Nat} (h : PE X e (rdN F m eff)) : PE X e (rd F m [] eff) := PE.mono (pe_fz h) fun σ H Q ⟨B, A, ρ, d, ρ', E, hm, k⟩ =>
  ⟨B, A, ρ, d, ρ', E, hm, fun p H' P E' hp r => by
    cases hc : isDc d with
    | false => exact .inl (k (.ref p) H' P (.inl (r.relD hc av_more (newOut E' hp.1))))
    | true =>
      obtain ⟨u, hu, mu, ht⟩ := r.mut
      refine .inr ⟨p, u, hu, mu, fun od => ?_⟩
      obtain ⟨P', r'⟩ := newFz (od := od) P E' hp hc r hu ht
      exact k (.ref p) _ P' (.inl r')⟩
def gOwn (i : Nat) : D → Rho → Option Rho := fun d ρ => if i < ρ.length then some (ρ.set i (some (true, d))) else none
theorem s_own {i : Nat} {x : Str} {e : Expr} {m : M D} {eff : List Nat} {pos' : Pos} (hN : X.N.Nodup) (hi : X.N[i]? = some x) (hx : Loc X.env.scope x) (hio : i ∉ F.io) (he : PE X e (rdN F m eff)) (hs : swapsWith e (some (.Name x pos')) pos.line X.env = pure false := by rfl) (hf : X.fn x = true ∨ X.env.scope.names.lookup x = some .local := by first | exact .inl rfl | exact .inr rfl | assumption) :
    PS X (.Assign [.Name x pos'] e pos) (rdS F (mAsg m (gOwn i))) := PS.mono (ps_set hN hi hx he hs hf) fun Dn σ H ⟨A, ρ, out, E, hm, k⟩ => by
  unfold mAsg at hm
  cases q : m ρ with
  | none => rw [q] at hm; cases hm
  | some r =>
    rw [q] at hm
    obtain ⟨d, ρ1⟩ := r
    unfold gOwn at hm
    by_cases hl : i < ρ1.length
    · simp only [if_pos hl] at hm
      cases hm
      exact ⟨[], A, ρ, d, ρ1, E, q, fun p H' P E' hp r' => k _ _ H' (E'.setOwn hio hl r' hp.1)⟩
    · simp only [if_neg hl] at hm
      cases hm
theorem rdN_lay {B : List Addr} {A : Nat → Addr} {σ : L2.St} {H H1 : Hp} {ρ ρ1 : Rho} {eff : List Nat} {d : D} {Q : VK} (P : Post F B A σ H ρ eff H1 ρ1) (k : ∀ p H', Post F B A σ H ρ eff H' ρ1 → Ev F (p :: B) A σ H' ρ1 → (p ∉ B ∧ H p = none) → RelO F.K (Av F (p :: B) A ρ1) H' p d → Q (.ref p) H')
    {p : Addr} {H' : Hp} (hp : H1 p = none) (g : Ext H1 H') (r : RelO F.K (Av F (p :: B) A ρ1) H' p d) : Q (.ref p) H' :=
  k p H' (P.ext g) (P.env.hide hp g r.some) ⟨fun z => (P.env.occB p z).1 hp, by
    cases q : H p with
    | none => rfl
    | some o => exact absurd hp (P.gro.live p (by rw [q]; simp))⟩ r
theorem av_cons {B : List Addr} {A : Nat → Addr} {ρ : Rho} {p : Addr} : ∀ a, Av F (p :: B) A ρ a → Av F B A ρ a ∨ a = p := fun a z => by
  rcases z with z | z | z
  · exact .inl (.inl z)
  · rcases List.mem_cons.mp z with z | z
    · exact .inr z
    · exact .inl (.inr (.inl z))
  · exact .inl (.inr (.inr z))
theorem x_lstN {es : List Expr} {m : M (List D)} {eff : List Nat} (h : PE X (.List es pos) (tLst (rdA F m [] eff))) : PE X (.List es pos) (rdN F (mApp gLstD m) eff) := by
  refine PE.mono h fun σ H Q ⟨B, A, ρ, d, ρ1, E, hm, k⟩ => ?_
  obtain ⟨ds, e1, e2⟩ := mApp_some hm
  unfold gLstD at e2
  split at e2
  · rename_i hl
    cases e2
    refine ⟨B, A, ρ, ds, ρ1, E, e1, fun vs H1 P1 r1 => ?_⟩
    have r := Val.plains r1
    refine ⟨by rw [r.length]; exact hl, fun q hq => ?_⟩
    exact rdN_lay P1 k hq (Ext.new hq) ⟨vs, upd_same, (r.away hq av_cons).ext (Ext.new hq)⟩
  · cases e2
theorem x_dicN {pos : Pos} : PE X (.Dict [] [] pos) (rdN F (mC (.dict [])) []) := by
  refine PE.mono pe_dnewK fun σ H Q ⟨B, A, ρ, d, ρ1, E, hm, k⟩ => ?_
  cases hm
  exact fun q hq => rdN_lay (Post.refl E) k hq (Ext.new hq) (.inl ⟨[], upd_same, .nil⟩)
theorem c_listN (hc : X.calm = true) {K : PySem.W.Frag} (hK : X.K = K := by rfl) : CallR X (.type "list") (fun xs H Q => ∃ S ds d, Paired (RR K S H) xs ds ∧ gListOf ds = some d ∧ ∀ p H', H p = none → Ext H H' → (∀ S' : Addr → Prop, (∀ a, S' a → S a ∨ a = p) → RelO K S' H' p d) → Q (.ref p) H') := by
  subst hK
  intro pins s σ H xs us Q I r ⟨S, ds, d, hr, e, k⟩
  unfold gListOf at e
  split at e
  · cases e
    obtain ⟨v, rfl, r1⟩ := prs1 hr
    obtain ⟨a, ys, rfl, h1, q1⟩ := r1.list
    exact call_list_of pins s σ H _ us Q I r ⟨a, ys, rfl, .inl h1, fun p hp => k p _ hp (Ext.new hp) fun S' hs => ⟨ys, upd_same, (q1.away hp hs).ext (Ext.new hp)⟩⟩
  · cases e
    obtain ⟨v, rfl, r1⟩ := prs1 hr
    obtain ⟨a, ys, rfl, h1, q1⟩ := r1.tuple
    exact call_list_of pins s σ H _ us Q I r ⟨a, ys, rfl, .inr h1, fun p hp => k p _ hp (Ext.new hp) fun S' hs => ⟨ys, upd_same, (q1.away hp hs).ext (Ext.new hp)⟩⟩
  · split at e
    · cases e
    rename_i hnT
    cases e
    obtain ⟨v, rfl, r1⟩ := prs1 hr
    obtain ⟨a, ys, rfl, h1, q1⟩ := r1.dict (Bool.eq_false_iff.mpr hnT)
    exact call_listD hc pins s σ H _ us Q I r ⟨a, ys, rfl, h1, fun p hp => k p _ hp (Ext.new hp) fun S' hs => ⟨_, upd_same, (q1.keys.away hp hs).ext (Ext.new hp)⟩⟩
  · cases e
theorem x_callTyN {p : Pos} {x : Str} {T : String} {e : Expr} {es : List Expr} {g : List D → Option D} {m : M (List D)} {dep eff : List Nat} (hc : CallR X (.type T) (fun xs H Q => ∃ S ds d, Paired (RR F.K S H) xs ds ∧ g ds = some d ∧ ∀ p H', H p = none → Ext H H' → (∀ S' : Addr → Prop, (∀ a, S' a → S a ∨ a = p) → RelO F.K S' H' p d) → Q (.ref p) H')) (hg : Gl X x) (hm : X.mg x = none) (hv : bootBuiltins x = some (.type T)) (ha : PA X (e :: es) (rdA F m dep eff)) (hn : x ≠ "__name__" := by decide) (hdb : (x == ("__debug__" : Str)) = false := by decide)
    (he : starEach (e :: es) X.env = (false, eval e X.env) :: starEach es X.env := by rfl) (hpl : (backTo pos (starEach es X.env)).any (·.1) = false := by rfl) : PE X (.Call (.Name x p) (e :: es) [] pos) (rdN F (mApp g m) eff) :=
  PE.mono (pe_callTy hc hg hm hv ha hn hdb he hpl) fun σ H Q ⟨B, A, ρ, d, ρ1, E, hm, k⟩ => by
    obtain ⟨ds, e1, e2⟩ := mApp_some hm
    exact ⟨B, A, ρ, ds, ρ1, E, e1, fun vs H1 P1 r1 => ⟨Av F B A ρ1, ds, d, Val.rrs P1.env r1, e2, fun p H' hp g' r => rdN_lay P1 k hp g' (r _ av_cons)⟩⟩
def mMut (i : Nat) (g : D → D → Option (D × D)) (m : M D) : M D := fun ρ => match ρ[i]? with
  | some (some (true, o)) => (match m ρ with
    | some (d, ρ1) => (match g o d with
      | some (r, o') => some (r, ρ1.set i (some (true, o')))
      | none => none)
    | none => none)
  | _ => none
theorem mMut_some {i : Nat} {g : D → D → Option (D × D)} {m : M D} {ρ ρ2 : Rho} {r : D} (h : mMut i g m ρ = some (r, ρ2)) : ∃ d ρ1 o o', ρ[i]? = some (some (true, o)) ∧ m ρ = some (d, ρ1) ∧ g o d = some (r, o') ∧ ρ2 = ρ1.set i (some (true, o')) := by
  unfold mMut at h
  split at h
  · rename_i o e2
    split at h
    · rename_i d ρ1 e1
      split at h
      · rename_i r' o' e3
        cases h
        exact ⟨d, ρ1, o, o', e2, e1, e3, rfl⟩
      · cases h
    · cases h
  · cases h
def gApp : D → D → Option (D × D)
  | .list ds, d => if ds.length < sizeLine then some (.none, .list (ds ++ [d])) else none
  | _, _ => none
theorem x_append {i : Nat} {x : Str} {e : Expr} {m : M D} {eff : List Nat} {apos cpos xp : Pos} (hN : X.N[i]? = some x) (hv : Vis X.env.scope x) (he : PE X e (rd F m [] eff)) (hne : i ∉ eff := by decide) (hK : X.K = F.K := by rfl)
    (hd : (x == ("__debug__" : Str)) = false := by decide) (hcd : (x == ("__classdict__" : Str)) = false := by decide) 
    (hbase : attributeBase (.Name x xp) "append" X.env (eval (.Name x xp) X.env) = eval (.Name x xp) X.env := by rfl)
    (hfew : ((backTo cpos (starEach [e] X.env)).all (fun x => !x.1) && (backToKw cpos (keywordEach [] X.env)).all (fun x => x.1.isSome)
      && decide (([e] : List Expr).length + ([] : List Keyword).length + (if ([] : List Keyword).isEmpty then 0 else 1) < 30)) = true := by rfl)
    (hline : (apos.endLine == cpos.line) = true := by rfl) (hs : starEach [e] X.env = (false, eval e X.env) :: starEach [] X.env := by rfl) (hplain : (backTo cpos (starEach [] X.env)).any (·.1) = false := by rfl) :
    PE X (.Call (.Attribute (.Name x xp) "append" apos) [e] [] cpos) (rd F (mMut i gApp m) [] (eff ++ [i])) := by
  refine PE.mono (pe_bm PySem.F.plainAttrs_list PySem.F.slot_list_append PySem.F.type_list_append mt_append (pe_var hN hv hd hcd) (pa_cons he pa_nil hs) hbase hfew hline hs hplain) fun σ H Q ⟨B, A, ρ, r, ρ2, E, hm, k⟩ => ?_
  obtain ⟨d, ρ1, o, o', e2, e1, e3, rfl⟩ := mMut_some hm
  have hl : ∃ ds, o = .list ds ∧ ds.length < sizeLine ∧ r = .none ∧ o' = .list (ds ++ [d]) := by
    unfold gApp at e3
    split at e3
    · rename_i ds d'
      split at e3
      · rename_i hz
        cases e3
        exact ⟨_, rfl, hz, rfl, rfl⟩
      · cases e3
    · cases e3
  obtain ⟨ds, rfl, hz, rfl, rfl⟩ := hl
  obtain ⟨h1, xs, h2, h3⟩ := E.own i _ e2
  refine ⟨_, h1, .inl ⟨rfl, xs, SqL.of h2⟩, B, A, ρ, d, ρ1, E, e1, fun v H1 P1 r1 => ?_⟩
  have e4 : ρ1[i]? = some (some (true, .list ds)) := by rw [P1.lv.keep i hne]; exact e2
  obtain ⟨_, ys, g2, g3⟩ := P1.env.own i _ e4
  have G : Gro (fun b => b = A i) H1 (upd H1 (A i) (.lst (ys ++ [v]))) := Gro.upd g2 fun ps z => nomatch z
  have hC : ∀ a, a = A i → Av F B A ρ1 a := fun a h => .inr (.inr ⟨i, _, e4, .inl h⟩)
  refine ⟨A i, ys, v, rfl, rfl, g2, by rw [g3.length]; exact hz, ?_⟩
  exact k .non _ (P1.write e4 G ⟨_, upd_same, (g3.append (.cons r1.plain .nil)).mono G (fun _ z => z) hC⟩) (.inl .non)
def gPopAt : D → D → Option (D × D)
  | .list ds, .int i => if -(2 ^ 63) ≤ i ∧ i < 2 ^ 63 then (match seqIndex? i ds.length with
    | some k => (match ds[k]? with
      | some d => some (d, .list (ds.eraseIdx k))
      | none => none)
    | none => none) else none
  | _, _ => none
theorem RelDs.eraseIdx {K : PySem.W.Frag} {S : Addr → Prop} {H : Hp} : ∀ {xs : List V} {ds : List D} (i : Nat), RelDs K S H xs ds → RelDs K S H (xs.eraseIdx i) (ds.eraseIdx i)
  | _, _, _, .nil => .nil
  | _, _, 0, .cons _ t => t
  | _, _, i + 1, .cons r t => .cons r (RelDs.eraseIdx i t)
theorem x_popAt {i : Nat} {x : Str} {e : Expr} {m : M D} {dep eff : List Nat} {apos cpos xp : Pos} (hN : X.N[i]? = some x) (hv : Vis X.env.scope x) (he : PE X e (rd F m dep eff)) (hne : i ∉ eff := by decide) (hK : X.K = F.K := by rfl)
    (hd : (x == ("__debug__" : Str)) = false := by decide) (hcd : (x == ("__classdict__" : Str)) = false := by decide)
    (hbase : attributeBase (.Name x xp) "pop" X.env (eval (.Name x xp) X.env) = eval (.Name x xp) X.env := by rfl)
    (hfew : ((backTo cpos (starEach [e] X.env)).all (fun x => !x.1) && (backToKw cpos (keywordEach [] X.env)).all (fun x => x.1.isSome)
      && decide (([e] : List Expr).length + ([] : List Keyword).length + (if ([] : List Keyword).isEmpty then 0 else 1) < 30)) = true := by rfl)
    (hline : (apos.endLine == cpos.line) = true := by rfl) (hs : starEach [e] X.env = (false, eval e X.env) :: starEach [] X.env := by rfl) (hplain : (backTo cpos (starEach [] X.env)).any (·.1) = false := by rfl) :
    PE X (.Call (.Attribute (.Name x xp) "pop" apos) [e] [] cpos) (rd F (mMut i gPopAt m) [] (eff ++ [i])) := by
  refine PE.mono (pe_bm PySem.F.plainAttrs_list PySem.F.slot_list_pop PySem.F.type_list_pop mt_popAt (pe_var hN hv hd hcd) (pa_cons he pa_nil hs) hbase hfew hline hs hplain) fun σ H Q ⟨B, A, ρ, r, ρ2, E, hm, k⟩ => ?_
  obtain ⟨d, ρ1, o, o', e2, e1, e3, rfl⟩ := mMut_some hm
  have hl : ∃ ds z j, o = .list ds ∧ d = .int z ∧ -(2 ^ 63) ≤ z ∧ z < 2 ^ 63 ∧ seqIndex? z ds.length = some j ∧ ds[j]? = some r ∧ o' = .list (ds.eraseIdx j) := by
    unfold gPopAt at e3
    split at e3
    · rename_i ds z
      split at e3
      · rename_i hz
        split at e3
        · rename_i j ej
          split at e3
          · rename_i d' ed
            cases e3
            exact ⟨ds, z, j, rfl, rfl, hz.1, hz.2, ej, ed, rfl⟩
          · cases e3
        · cases e3
      · cases e3
    · cases e3
  obtain ⟨ds, z, j, rfl, rfl, hz1, hz2, hj, hr, rfl⟩ := hl
  obtain ⟨h1, xs, h2, h3⟩ := E.own i _ e2
  refine ⟨_, h1, .inl ⟨rfl, xs, SqL.of h2⟩, B, A, ρ, .int z, ρ1, E, e1, fun v H1 P1 r1 => ?_⟩
  have e4 : ρ1[i]? = some (some (true, .list ds)) := by rw [P1.lv.keep i hne]; exact e2
  obtain ⟨_, ys, g2, g3⟩ := P1.env.own i _ e4
  obtain ⟨y, hy, ry⟩ := g3.get hr
  have G : Gro (fun b => b = A i) H1 (upd H1 (A i) (.lst (ys.eraseIdx j))) := Gro.upd g2 fun ps z => nomatch z
  have hC : ∀ a, a = A i → Av F B A ρ1 a := fun a h => .inr (.inr ⟨i, _, e4, .inl h⟩)
  have hv : v = .int z := (r1.rr P1.env).int
  subst hv
  refine ⟨A i, ys, z, j, y, rfl, rfl, g2, hz1, hz2, by rw [g3.length]; exact hj, hy, ?_⟩
  have P2 := P1.write (d' := .list (ds.eraseIdx j)) e4 G ⟨_, upd_same, (g3.eraseIdx j).mono G (fun _ z => z) hC⟩
  exact k y _ P2 (.inl (ry.mono G (fun a z => by
    rcases z with z | z | ⟨q, e', h, z⟩
    · exact .inl z
    · exact .inr (.inl z)
    · rcases own_set h with ⟨hij, hq⟩ | ⟨_, h⟩
      · cases hq
        exact .inr (.inr ⟨q, _, hij ▸ e4, .inl (z.of_not rfl)⟩)
      · exact .inr (.inr ⟨q, e', h, z⟩)) hC))
def gPut : D → D → D → Option D
  | .list ds, .int k, d => (ixN ds.length k).map fun j => .list (ds.set j d)
  | .dict kvs, kd, d => (keyD kd).bind fun k => if isT kvs = false ∧ kvs.length < sizeLine then some (.dict (dput kvs k d)) else none
  | _, _, _ => none
where dput (kvs : List (D × D)) (k : Key) (d : D) : List (D × D) := if (dget kvs k).isSome then kvs.map (fun e => if keyD e.1 = some k then (e.1, d) else e) else kvs ++ [(kD k, d)]
theorem RelKs.append {K : PySem.W.Frag} {S : Addr → Prop} {H : Hp} : ∀ {xs ys : List (Key × V)} {ds es : List (D × D)}, RelKs K S H xs ds → RelKs K S H ys es → RelKs K S H (xs ++ ys) (ds ++ es)
  | _, _, _, _, .nil, s => s
  | _, _, _, _, .cons r t, s => .cons r (RelKs.append t s)
theorem RelKs.mapPut {K : PySem.W.Frag} {S : Addr → Prop} {H : Hp} {k : Key} {v : V} {d : D} (r : RelD K S H v d) : ∀ {xs : List (Key × V)} {ds : List (D × D)}, RelKs K S H xs ds →
    RelKs K S H (xs.map fun kv => if kv.1 = k then (kv.1, v) else kv) (ds.map fun e => if keyD e.1 = some k then (e.1, d) else e)
  | _, _, .nil => .nil
  | _, _, .cons (k := k0) (v := v0) (d := d0) q t => by
    rw [List.map_cons, List.map_cons]
    have e : keyD (kD k0) = some k0 := keyD_kD k0
    by_cases h : k0 = k
    · rw [if_pos h, if_pos (by rw [e, h])]
      exact .cons r (RelKs.mapPut r t)
    · rw [if_neg h, if_neg (by rw [e]; exact fun z => h (Option.some.inj z))]
      exact .cons q (RelKs.mapPut r t)
theorem RelKs.put {K : PySem.W.Frag} {S : Addr → Prop} {H : Hp} {k : Key} {v : V} {d : D} (r : RelD K S H v d) {xs : List (Key × V)} {ds : List (D × D)} (q : RelKs K S H xs ds) : RelKs K S H (putK xs k v) (gPut.dput ds k d) := by
  unfold putK gPut.dput
  have e : (xs.any fun kv => decide (kv.1 = k)) = (PD.dget ds k).isSome := by
    rw [valV_any]
    rcases q.valV k with ⟨e1, e2⟩ | ⟨w, d', e1, e2, _⟩ <;> rw [e1, e2] <;> rfl
  rw [e]
  cases (PD.dget ds k).isSome with
  | true => exact RelKs.mapPut r q
  | false => exact RelKs.append q (.cons r .nil)
theorem put_ok {A : Nat → Addr} {σ : L2.St} {B : List Addr} {H : Hp} {ρ : Rho} {i : Nat} {o kd d o' : D} {kv v : V} (E : Ev F B A σ H ρ) (e : ρ[i]? = some (some (true, o))) (hg : gPut o kd d = some o') (rk : RR F.K (Av F B A ρ) H kv kd) (rv : RelD F.K (Av F B A ρ) H v d) :
    (∃ xs k j, H (A i) = some (.lst xs) ∧ kv = .int k ∧ ixN xs.length k = some j ∧ Gro (fun b => b = A i) H (upd H (A i) (.lst (xs.set j v))) ∧ RelO F.K (Av F B A ρ) (upd H (A i) (.lst (xs.set j v))) (A i) o') ∨
    ∃ kvs k, H (A i) = some (.dK kvs) ∧ kv = kV k ∧ kvs.length < sizeLine ∧ Gro (fun b => b = A i) H (upd H (A i) (.dK (putK kvs k v))) ∧ RelO F.K (Av F B A ρ) (upd H (A i) (.dK (putK kvs k v))) (A i) o' := by
  have hC : ∀ a, a = A i → Av F B A ρ a := fun a h => .inr (.inr ⟨i, _, e, .inl h⟩)
  obtain ⟨_, r⟩ := E.own i _ e
  cases o with
  | list ds =>
    obtain ⟨xs, h1, h2⟩ := r
    cases kd with
    | int k =>
      have hg : ((ixN ds.length k).map fun j => PyData.list (ds.set j d)) = some o' := hg
      cases q : ixN ds.length k with
      | none => rw [q] at hg; cases hg
      | some j =>
        rw [q] at hg
        cases hg
        have G : Gro (fun b => b = A i) H (upd H (A i) (.lst (xs.set j v))) := Gro.upd h1 fun ps z => nomatch z
        exact .inl ⟨xs, k, j, h1, rk.int, by rw [h2.length]; exact q, G, _, upd_same, (RelDs.set rv j h2).mono G (fun _ z => z) hC⟩
    | _ => cases hg
  | dict kvs =>
    have hg : ((keyD kd).bind fun k => if isT kvs = false ∧ kvs.length < sizeLine then some (PyData.dict (gPut.dput kvs k d)) else none) = some o' := hg
    cases q : keyD kd with
    | none => rw [q] at hg; cases hg
    | some k =>
      rw [q] at hg
      have e1 := keyD_some q
      have hg3 : (if isT kvs = false ∧ kvs.length < sizeLine then some (PyData.dict (gPut.dput kvs k d)) else none) = some o' := hg
      subst e1
      split at hg3
      · rename_i hz
        cases hg3
        rcases r with ⟨xs, h1, h2⟩ | ⟨_, _, hT⟩
        rotate_left
        · have := hz.1
          rw [hT.isT] at this
          cases this
        have hz := hz.2
        have G : Gro (fun b => b = A i) H (upd H (A i) (.dK (putK xs k v))) := Gro.upd h1 fun ps z => nomatch z
        exact .inr ⟨xs, k, h1, rk.key, by rw [h2.length]; exact hz, G, .inl ⟨_, upd_same, (RelKs.put rv h2).mono G (fun _ z => z) hC⟩⟩
      · cases hg3
  | _ => first | exact r.elim | cases (show (none : Option D) = some o' from hg)
theorem gPut_notB {o kd d o' : D} (h : gPut o kd d = some o') : isBg o = false := by
  cases o <;> first | rfl | cases (show (none : Option D) = some o' from h)
def mPut (i : Nat) (mk mv : M D) : MS := fun ρ => match mv ρ with
  | some (d, ρ1) => (match ρ1[i]? with
    | some (some (true, o)) => (match mk ρ1 with
      | some (kd, ρ2) => (match gPut o kd d with
        | some o' => some (.nx (ρ2.set i (some (true, o'))))
        | none => none)
      | none => none)
    | _ => none)
  | none => none
theorem s_put {i : Nat} {x : Str} {k value : Expr} {mk mv : M D} {depk effk effv : List Nat} {xp pos' : Pos} (hu : X.A.units + 1 < cLine) (hN : X.N[i]? = some x) (hv : Vis X.env.scope x) (hk : PE X k (rd F mk depk effk)) (hval : PE X value (rd F mv [] effv)) (hne : i ∉ effk := by decide)
    (hs : swapsWith value (some (.Subscript (.Name x xp) k pos')) pos.line X.env = pure false := by rfl) (hd : (x == ("__debug__" : Str)) = false := by decide) (hcd : (x == ("__classdict__" : Str)) = false := by decide) :
    PS X (.Assign [.Subscript (.Name x xp) k pos'] value pos) (rdS F (mPut i mk mv)) := by
  refine ⟨fun pins s σ H Dn I ⟨A, ρ, out, E, hm, kk⟩ => ?_⟩
  unfold mPut at hm
  split at hm
  · rename_i d ρ1 e1
    split at hm
    · rename_i o e2
      split at hm
      · rename_i kd ρ2 e3
        split at hm
        · rename_i o' e4
          cases hm
          refine wpAny_Assign_Subscript (thn (hval.run pins s σ H (fun v H1 => Post F [] A σ H ρ effv H1 ρ1 ∧ Val F [] A ρ1 H1 [] v d) I ⟨[], A, ρ, d, ρ1, E, e1, fun v H1 P r => ⟨P, r⟩⟩) fun r s1 ⟨v, H1, I1, rv, P1, r1⟩ => ?_) hs
          obtain ⟨h1, h2⟩ := P1.env.own i o e2
          refine thn ((pe_var (pos := xp) hN hv hd hcd).run pins s1 σ H1 (fun w H2 => w = .ref (A i) ∧ H2 = H1) I1 ⟨_, h1, rfl, rfl⟩) fun u s2 ⟨x, H2, I2, rx, q1, q2⟩ => ?_
          subst q1 q2
          cases rx
          refine thn (hk.run pins s2 σ H2 (fun w H3 => Post F [] A σ H2 ρ1 effk H3 ρ2 ∧ Val F [] A ρ2 H3 depk w kd) I2 ⟨[], A, ρ1, kd, ρ2, P1.env, e3, fun v H1 P r => ⟨P, r⟩⟩) fun iv s3 ⟨y, H3, I3, ry, P2, r2⟩ => ?_
          have e5 : ρ2[i]? = some (some (true, o)) := by rw [P2.lv.keep i hne]; exact e2
          have rv' := (r1.later P2.gro P2.lv (by simp)).plain
          rcases put_ok P2.env e5 e4 (r2.rr P2.env) rv' with ⟨xs, z, j, g1, g2, g3, G, R⟩ | ⟨kvs, z, g1, g2, g3, G, R⟩
          · exact thn (set_list pins s3 σ H3 (.ref (A i)) y v (.ref (A i)) iv r (fun H4 => Dn.nx σ H4) I3 rfl ry rv ⟨A i, xs, z, j, rfl, g2, g1, g3, kk A σ _ (P2.write e5 G R (gPut_notB e4)).env⟩) fun _ s4 ⟨H4, I4, q⟩ => ⟨σ, H4, I4, q⟩
          · subst g2
            exact d_setItem hu I3 (.inl ⟨kvs, z, g1, rfl, g3, rfl⟩) ry rv fun s4 I4 => ⟨σ, _, I4, kk A σ _ (P2.write e5 G R (gPut_notB e4)).env⟩
        · cases hm
      · cases hm
    · cases hm
  · cases hm
def mAug (i : Nat) (g : D → D → Option D) (m : M D) : MS := fun ρ => match ρ[i]? with
  | some (some (false, x)) => (match m ρ with
    | some (d, ρ1) => (match g x d with
      | some r => if i < ρ1.length then some (.nx (ρ1.set i (some (false, r)))) else none
      | none => none)
    | none => none)
  | _ => none
def gAddI : D → D → Option D
  | .int a, .int b => some (.int (a + b))
  | _, _ => none
def gSubI : D → D → Option D
  | .int a, .int b => some (.int (a - b))
  | _, _ => none
end
end PD
set_option Elab.async false
set_option linter.all false
set_option maxRecDepth 100000
set_option maxHeartbeats 2000000
namespace PD
open PySem PySem.Spec PyProof.Rows L2 GxR GenX
abbrev Frm.more (F : Frm) (G : List Rt) : Frm := { F with G := G ++ F.G }
section
variable {F : Frm} {B : List Addr} {A : Nat → Addr} {σ : L2.St} {H H' : Hp} {ρ : Rho} {G : List Rt}
theorem Ev.less (E : Ev (F.more G) B A σ H ρ) : Ev F B A σ H ρ := ⟨E.len, E.plain, E.own, E.inj, E.nS, E.ios, E.few, E.occ, E.occB, E.chg, E.tabs, fun r hr => E.roots r (List.mem_append_right _ hr)⟩
theorem Ev.more (E : Ev F B A σ H ρ) (h : ∀ r ∈ G, RelG F.K (Av F B A ρ) H r) : Ev (F.more G) B A σ H ρ := ⟨E.len, E.plain, E.own, E.inj, E.nS, E.ios, E.few, E.occ, E.occB, E.chg, E.tabs, fun r hr => (List.mem_append.mp hr).elim (h r) (E.roots r)⟩
theorem Ev.rootsG (E : Ev (F.more G) B A σ H ρ) : ∀ r ∈ G, RelG F.K (Av F B A ρ) H r := fun r hr => E.roots r (List.mem_append_left _ hr)
theorem Post.less {eff : List Nat} {ρ' : Rho} {H0 : Hp} {ρ0 : Rho} (P : Post (F.more G) B A σ H ρ eff H' ρ') : Post F B A σ H ρ eff H' ρ' := ⟨P.env.less, P.gro, P.lv⟩
end
structure ItOk (K : PySem.W.Frag) (J : It) (ds : List D) (G : List Rt) : Prop where
  goes : ∀ i S H, (∀ r ∈ G, RelG K S H r) → i < ds.length → J.go i H
  stops : ∀ S H, (∀ r ∈ G, RelG K S H r) → J.stop ds.length H
  yields : ∀ i S H x H', (∀ r ∈ G, RelG K S H r) → (∀ a, S a → H a ≠ none) → i < ds.length → J.yld i H x H' → Ext H H' ∧ ∃ d, ds[i]? = some d ∧ RelD K S H' x d
def rdI (F : Frm) (m : M (List D)) (eff : List Nat) : TI := fun σ H R => ∃ B A ρ ds ρ', Ev F B A σ H ρ ∧ m ρ = some (ds, ρ') ∧ ∀ J G H', Post F B A σ H ρ eff H' ρ' → (∀ r ∈ G, RelG F.K (Av F B A ρ') H' r) → ItOk F.K J ds G → R J H'
section
variable {K : PySem.W.Frag}
theorem it_list {a : Addr} {ds : List D} : ItOk K (Itl K a) ds [.inl (.ref a, .list ds)] := by
  have h : ∀ S H, RelD K S H (.ref a) (.list ds) → ∃ xs, SqL K H a xs ∧ RelDs K S H xs ds := fun S H r => by
    obtain ⟨b, xs, e, q, rr⟩ := RR.list (.inl r)
    cases e
    exact ⟨xs, q, rr⟩
  refine ⟨fun i S H r hi => ?_, fun S H r => ?_, fun i S H x H' r _ hi y => ?_⟩
  · obtain ⟨xs, q, rr⟩ := h S H (r _ List.mem_cons_self)
    have hl := rr.length
    exact ⟨xs, xs[i]'(by omega), q, by simp [show i < xs.length by omega]⟩
  · obtain ⟨xs, q, rr⟩ := h S H (r _ List.mem_cons_self)
    exact ⟨xs, q, Nat.le_of_eq rr.length⟩
  · obtain ⟨xs, q, rr⟩ := h S H (r _ List.mem_cons_self)
    obtain ⟨e, y⟩ := y
    subst e
    obtain ⟨d, e1, e2⟩ := rr.getV (y xs q)
    exact ⟨Ext.refl _, d, e1, e2⟩
theorem it_tup {a : Addr} {ds : List D} : ItOk K (Itt K a) ds [.inl (.ref a, .tuple ds)] := by
  have h : ∀ S H, RelD K S H (.ref a) (.tuple ds) → ∃ xs, SqT K H a xs ∧ RelDs K S H xs ds := fun S H r => by
    obtain ⟨b, xs, e, q, rr⟩ := RR.tuple (.inl r)
    cases e
    exact ⟨xs, q, rr⟩
  refine ⟨fun i S H r hi => ?_, fun S H r => ?_, fun i S H x H' r _ hi y => ?_⟩
  · obtain ⟨xs, q, rr⟩ := h S H (r _ List.mem_cons_self)
    have hl := rr.length
    exact ⟨xs, xs[i]'(by omega), q, by simp [show i < xs.length by omega]⟩
  · obtain ⟨xs, q, rr⟩ := h S H (r _ List.mem_cons_self)
    exact ⟨xs, q, Nat.le_of_eq rr.length⟩
  · obtain ⟨xs, q, rr⟩ := h S H (r _ List.mem_cons_self)
    obtain ⟨e, y⟩ := y
    subst e
    obtain ⟨d, e1, e2⟩ := rr.getV (y xs q)
    exact ⟨Ext.refl _, d, e1, e2⟩
def rangeD (lo : Int) (n : Nat) : List D := (List.range n).map fun i => .int (lo + (i : Nat))
theorem rangeD_len (lo : Int) (n : Nat) : (rangeD lo n).length = n := by unfold rangeD; simp
theorem rangeD_get {lo : Int} {n i : Nat} (h : i < n) : (rangeD lo n)[i]? = some (.int (lo + (i : Nat))) := by unfold rangeD; simp [h]
theorem it_rng {lo : Int} {n : Nat} : ItOk K (Itr lo n) (rangeD lo n) [] := by
  refine ⟨fun i S H r hi => by rw [rangeD_len] at hi; exact hi, fun S H r => by rw [rangeD_len]; exact Nat.le_refl _, fun i S H x H' r _ hi y => ?_⟩
  rw [rangeD_len] at hi
  obtain ⟨e, y⟩ := y
  subst e y
  exact ⟨Ext.refl _, _, rangeD_get hi, .int _⟩
end
section
variable {X : Cx} {F : Frm} {pos p : Pos} {tg : Expr}
theorem PI.mono {e : Expr} {t t' : TI} (h : PI X tg e t) (hm : ∀ σ H R, t' σ H R → t σ H R) : PI X tg e t' := ⟨fun pins s σ H R I q => h.run pins s σ H R I (hm σ H R q)⟩
def gItems : D → Option (List D)
  | .list ds => some ds
  | .tuple ds => some ds
  | _ => none
def mItems (m : M D) : M (List D) := fun ρ => match m ρ with
  | some (d, ρ1) => (match gItems d with
    | some ds => some (ds, ρ1)
    | none => none)
  | none => none
theorem w_seq {e : Expr} {m : M D} {eff : List Nat} (he : PE X e (rd F m [] eff)) (hK : X.K = F.K := by rfl) : PI X tg e (rdI F (mItems m) eff) := by
  refine ⟨fun pins s σ H R I ⟨B, A, ρ, ds, ρ', E, hm, k⟩ => ?_⟩
  unfold mItems at hm
  split at hm
  · rename_i d ρ1 e1
    split at hm
    · rename_i ds' e2
      cases hm
      cases d with
      | list ds0 =>
        cases e2
        refine (pi_list he).run pins s σ H R I ⟨B, A, ρ, .list ds, ρ', E, e1, fun v H' P r => ?_⟩
        have r' := r.plain
        obtain ⟨a, xs, rfl, h1, h2⟩ := RR.list (.inl r')
        exact ⟨a, rfl, ⟨xs, by rw [hK]; exact h1⟩, by rw [hK]; exact k _ [.inl (.ref a, .list ds)] H' P (fun r hr => by rw [List.mem_singleton.mp hr]; exact r') it_list⟩
      | tuple ds0 =>
        cases e2
        refine (pi_tup he).run pins s σ H R I ⟨B, A, ρ, .tuple ds, ρ', E, e1, fun v H' P r => ?_⟩
        have r' := r.plain
        obtain ⟨a, xs, rfl, h1, h2⟩ := RR.tuple (.inl r')
        exact ⟨a, rfl, ⟨xs, by rw [hK]; exact h1⟩, by rw [hK]; exact k _ [.inl (.ref a, .tuple ds)] H' P (fun r hr => by rw [List.mem_singleton.mp hr]; exact r') it_tup⟩
      | _ => cases e2
    · cases hm
  · cases hm
def gRange1 : List D → Option (List D)
  | [.int n] => if -(2 ^ 62) ≤ n ∧ n < 2 ^ 62 then some (rangeD 0 n.toNat) else none
  | _ => none
def mRange (g : List D → Option (List D)) (m : M (List D)) : M (List D) := fun ρ => match m ρ with
  | some (ds, ρ1) => (match g ds with
    | some r => some (r, ρ1)
    | none => none)
  | none => none
theorem mRange_some {g : List D → Option (List D)} {m : M (List D)} {ρ ρ' : Rho} {ds : List D} (hm : mRange g m ρ = some (ds, ρ')) : ∃ l, m ρ = some (l, ρ') ∧ g l = some ds := by
  unfold mRange at hm
  split at hm
  · rename_i l ρ1 q
    split at hm
    · rename_i r q2
      cases hm
      exact ⟨l, q, q2⟩
    · cases hm
  · cases hm
theorem w_range1 {a : Expr} {m : M (List D)} {dep eff : List Nat} (hg : Gl X "range") (hm : X.mg "range" = none) (ha : PA X [a] (rdA F m dep eff)) (hs : starEach [a] X.env = [(false, eval a X.env)] := by rfl) : PI X tg (.Call (.Name "range" p) [a] [] pos) (rdI F (mRange gRange1 m) eff) := by
  refine PI.mono (pi_range1 hg hm ha hs) fun σ H R ⟨B, A, ρ, ds, ρ', E, hm, k⟩ => ?_
  obtain ⟨l, q, q2⟩ := mRange_some hm
  refine ⟨B, A, ρ, l, ρ', E, q, fun vs H1 P1 r1 => ?_⟩
  have rs := Val.rrs P1.env r1
  unfold gRange1 at q2
  split at q2
  · rename_i n
    split at q2
    · rename_i hz
      cases q2
      obtain ⟨v, rfl, r2⟩ := prs1 rs
      exact ⟨n, by rw [r2.int], hz.1, hz.2, k _ [] H1 P1 (fun r hr => absurd hr (by simp)) it_rng⟩
    · cases q2
  · cases q2
def mForL (g : D → Rho → Option Rho) (mb : MS) : List D → MS
  | [] => fun ρ => some (.nx ρ)
  | d :: r => fun ρ => match g d ρ with
    | none => none
    | some ρ1 => (match mb ρ1 with
      | some (.nx ρ2) => mForL g mb r ρ2
      | some (.ct ρ2) => mForL g mb r ρ2
      | some (.bk ρ2) => some (.nx ρ2)
      | some (.rt v ρ2) => some (.rt v ρ2)
      | none => none)
def mFor (mi : M (List D)) (g : D → Rho → Option Rho) (mb : MS) : MS := fun ρ => match mi ρ with
  | some (ds, ρ1) => mForL g mb ds ρ1
  | none => none
theorem drop_cons' {α : Type} {l : List α} {i : Nat} {d : α} (h : l[i]? = some d) : l.drop i = d :: l.drop (i + 1) := by
  obtain ⟨hi, e⟩ := List.getElem?_eq_some_iff.mp h
  rw [List.drop_eq_getElem_cons hi, e]
def gE (F : Frm) (B : List Addr) (g : D → Rho → Option Rho) : TG := fun v σ H Q => ∃ G, rdG (F.more G) B g v σ H Q
def sE (F : Frm) (m : MS) : TS := fun Dn σ H => ∃ G, rdS (F.more G) m Dn σ H
theorem PG.ex {B : List Addr} {g : D → Rho → Option Rho} (h : ∀ G, PG X tg (rdG (F.more G) B g)) : PG X tg (gE F B g) := ⟨fun pins s σ H v u Q I r ⟨G, q⟩ => (h G).run pins s σ H v u Q I r q⟩
theorem PSs.ex {st : List Stmt} {m : MS} (h : ∀ G, PSs X st (rdS (F.more G) m)) : PSs X st (sE F m) := ⟨fun pins s σ H Dn I ⟨G, q⟩ => (h G).run pins s σ H Dn I q⟩
theorem s_for {iter : Expr} {body : List Stmt} {mi : M (List D)} {eff : List Nat} {g : D → Rho → Option Rho} {mb : MS} (hp : PassesOwn (model X.prog X.w) X.A X.env X.xe) (hc : X.calm = true) (hi : PI X tg iter (rdI F mi eff))
    (hg : ∀ G, PG X tg (rdG (F.more G) [] g)) (hb : ∀ G, PSs X body (rdS (F.more G) mb)) (hs : ∀ x, foldedSetIterable iter X.env x = pure x := by intro _; rfl) : PS X (.For tg iter body [] pos) (rdS F (mFor mi g mb)) := by
  refine PS.mono (ps_for hp hc hi (PG.ex hg) (PSs.ex hb) hs) fun Dn σ H ⟨A, ρ, out, E, hm, k⟩ => ?_
  unfold mFor at hm
  split at hm
  · rename_i ds ρ1 e1
    refine ⟨[], A, ρ, ds, ρ1, E, e1, fun J G H1 P1 hG it => ?_⟩
    refine ⟨fun i m σ H => m = ds.length - i ∧ i ≤ ds.length ∧ ∃ A ρ out, Ev (F.more G) [] A σ H ρ ∧ mForL g mb (ds.drop i) ρ = some out ∧ Done F Dn out, ⟨ds.length, by simp, Nat.zero_le _, A, ρ1, out, P1.env.more hG, by rw [List.drop_zero]; exact hm, k⟩, ?_⟩
    rintro i m σ H ⟨rfl, hi, A, ρ, out, E, hm, k⟩
    by_cases hlt : i < ds.length
    · refine .inr ⟨it.goes i _ H E.rootsG hlt, fun σ' H' => ∃ A ρ out, Ev (F.more G) [] A σ' H' ρ ∧ mForL g mb (ds.drop (i + 1)) ρ = some out ∧ Done F Dn out, fun σ' H' q => ⟨ds.length - (i + 1), by omega, rfl, hlt, q⟩, fun x H' y => ?_⟩
      obtain ⟨ext, d, ed, rd⟩ := it.yields i _ H x H' E.rootsG E.less.occA hlt y
      rw [drop_cons' ed] at hm
      unfold mForL at hm
      split at hm
      · cases hm
      · rename_i ρ2 e2
        refine ⟨G, A, ρ, d, ρ2, E.ext ext, rd, e2, fun σ2 H2 E2 _ => ?_⟩
        split at hm
        · rename_i ρ3 e3
          exact ⟨G, A, ρ2, .nx ρ3, E2, e3, fun A' σ' H' E' => ⟨A', ρ3, out, E', hm, k⟩⟩
        · rename_i ρ3 e3
          exact ⟨G, A, ρ2, .ct ρ3, E2, e3, fun A' σ' H' E' => ⟨A', ρ3, out, E', hm, k⟩⟩
        · rename_i ρ3 e3
          cases hm
          exact ⟨G, A, ρ2, .bk ρ3, E2, e3, fun A' σ' H' E' => k A' σ' H' E'.less⟩
        · rename_i v ρ3 e3
          cases hm
          exact ⟨G, A, ρ2, .rt v ρ3, E2, e3, fun A' σ' w H' E' r => k A' σ' w H' E'.less r⟩
        · cases hm
    · have e : i = ds.length := by omega
      subst e
      rw [List.drop_length] at hm
      cases hm
      exact .inl ⟨it.stops _ H E.rootsG, k A σ H E.less⟩
  · cases hm
def wipeR (ρ : Rho) : List Nat → Rho
  | [] => ρ
  | v :: vs => (wipeR ρ vs).set v none
theorem wipeR_length (ρ : Rho) : ∀ vs, (wipeR ρ vs).length = ρ.length
  | [] => rfl
  | v :: vs => by unfold wipeR; rw [List.length_set, wipeR_length ρ vs]
theorem wipeR_some {ρ : Rho} {i : Nat} {z : Bool × D} : ∀ {vs : List Nat}, (wipeR ρ vs)[i]? = some (some z) → ρ[i]? = some (some z) ∧ i ∉ vs
  | [], h => ⟨h, by simp⟩
  | v :: vs, h => by
    unfold wipeR at h
    rw [get_set] at h
    by_cases hi : v = i
    · rw [if_pos hi] at h
      split at h <;> cases h
    · rw [if_neg hi] at h
      obtain ⟨h1, h2⟩ := wipeR_some h
      exact ⟨h1, by simp only [List.mem_cons, not_or]; exact ⟨fun e => hi e.symm, h2⟩⟩
theorem wipeR_ne {ρ : Rho} {i : Nat} : ∀ {vs : List Nat}, i ∉ vs → (wipeR ρ vs)[i]? = ρ[i]?
  | [], _ => rfl
  | v :: vs, h => by
    unfold wipeR
    rw [get_set, if_neg (fun e => h (by rw [e]; simp))]
    exact wipeR_ne fun z => h (List.mem_cons_of_mem _ z)
theorem wipe_ne {σ : L2.St} {i : Nat} : ∀ {vs : List Nat}, i ∉ vs → (wipe σ vs)[i]? = σ[i]?
  | [], _ => rfl
  | v :: vs, h => by
    unfold wipe
    rw [List.getElem?_set, if_neg (fun e => h (by rw [e]; simp))]
    exact wipe_ne fun z => h (List.mem_cons_of_mem _ z)
theorem Ev.wipe {B : List Addr} {A : Nat → Addr} {σ σ' : L2.St} {H : Hp} {ρ : Rho} {vs : List Nat} (E : Ev F B A σ H ρ) (hl : σ'.length = σ.length) (hσ : ∀ i, i ∉ vs → σ'[i]? = σ[i]?) (hv : ∀ i ∈ vs, i ∉ F.io) : Ev F B A σ' H (wipeR ρ vs) := by
  have hav : ∀ a, Av F B A (wipeR ρ vs) a → Av F B A ρ a := fun a h => by
    rcases h with h | h | ⟨j, e, h, z⟩
    · exact .inl h
    · exact .inr (.inl h)
    · exact .inr (.inr ⟨j, e, (wipeR_some h).1, z⟩)
  refine ⟨by rw [wipeR_length, hl]; exact E.len, fun i d h => ?_, fun i d h => ?_, fun i j d e a h1 h2 => E.inj i j d e a (wipeR_some h1).1 (wipeR_some h2).1, fun i d a h => E.nS i d a (wipeR_some h).1, fun i hi => ?_, by rw [wipeR_length]; exact E.few, E.occ, E.occB, E.chg, E.tabs, fun r hr => (E.roots r hr).mono (C := fun _ => False) (Gro.refl _) hav fun _ z => z.elim⟩
  · obtain ⟨h1, h2⟩ := wipeR_some h
    obtain ⟨v, g1, g2⟩ := E.plain i d h1
    exact ⟨v, by rw [hσ i h2]; exact g1, g2.mono (C := fun _ => False) (Gro.refl _) hav fun _ z => z.elim⟩
  · obtain ⟨h1, h2⟩ := wipeR_some h
    obtain ⟨g1, g2⟩ := E.own i d h1
    exact ⟨by rw [hσ i h2]; exact g1, g2.mono (C := fun _ => False) (Gro.refl _) hav (fun _ z => z.elim) fun _ _ => id⟩
  · obtain ⟨e, h4, h1⟩ := E.ios i hi
    exact ⟨e, by rw [wipeR_ne (fun z => hv i z hi)]; exact h4, h1⟩
theorem wipe_eq {σ σ2 : L2.St} {vs : List Nat} (h : L2.wipe σ2 vs = L2.wipe σ vs) : σ2.length = σ.length ∧ ∀ i, i ∉ vs → σ2[i]? = σ[i]? := by
  refine ⟨by rw [← wipe_length σ2 vs, h, wipe_length], fun i hi => ?_⟩
  rw [← wipe_ne (σ := σ2) hi, h, wipe_ne hi]
theorem wipe_in {σ : L2.St} {i : Nat} : ∀ {vs : List Nat}, i ∈ vs → (L2.wipe σ vs)[i]? = if i < σ.length then some none else none
  | v :: vs, h => by
    unfold L2.wipe
    rw [List.getElem?_set, wipe_length]
    by_cases hv : v = i
    · subst hv
      rw [if_pos rfl]
    · rw [if_neg hv]
      exact wipe_in ((List.mem_cons.mp h).resolve_left fun e => hv e.symm)
theorem wipe_set {σ : L2.St} {i : Nat} {z : Option V} {vs : List Nat} (h : i ∈ vs) : L2.wipe (σ.set i z) vs = L2.wipe σ vs := by
  apply List.ext_getElem?
  intro j
  by_cases hj : j ∈ vs
  · rw [wipe_in hj, wipe_in hj, List.length_set]
  · rw [wipe_ne hj, wipe_ne hj, List.getElem?_set, if_neg (show ¬ i = j from fun e => hj (e ▸ h))]
def rdW (F : Frm) (vs : List Nat) (m : D → Rho → Option Rho) : TG := fun v σ H Q => ∃ B A ρ d ρ', Ev F B A σ H ρ ∧ RelD F.K (Av F B A ρ) H v d ∧ m d ρ = some ρ' ∧ ∀ σ' H', Ev F B A σ' H' ρ' → Gro (fun _ => False) H H' → L2.wipe σ' vs = L2.wipe σ vs → Lv vs ρ ρ' → Q σ' H'
theorem gSet_lv {i : Nat} {vs : List Nat} (h : i ∈ vs) {d : D} {ρ ρ' : Rho} (e : gSet i d ρ = some ρ') : Lv vs ρ ρ' := by
  unfold gSet at e
  split at e
  · cases e
    refine ⟨fun j hj => by rw [get_set, if_neg (show ¬ i = j from fun z => hj (z ▸ h))], fun j e' q => ?_⟩
    rcases own_set q with ⟨_, q⟩ | ⟨_, q⟩
    · cases q
    · exact ⟨e', q, id⟩
  · cases e
theorem g_nameW {i : Nat} {x : Str} {vs : List Nat} (hN : X.N.Nodup) (hi : X.N[i]? = some x) (hx : Loc X.env.scope x) (hio : i ∉ F.io) (hvs : i ∈ vs := by decide) (hf : X.fn x = true ∨ X.env.scope.names.lookup x = some .local := by first | exact .inl rfl | exact .inr rfl | assumption) : PG X (.Name x pos) (rdW F vs (gSet i)) :=
  PG.mono (pg_name hN hi hx hf) fun v σ H Q ⟨B, A, ρ, d, ρ', E, r, hm, k⟩ => by
    have L := gSet_lv hvs hm
    unfold gSet at hm
    split at hm
    · rename_i hl
      cases hm
      exact k _ H (E.setPlain hio hl r) (Gro.refl _) (wipe_set hvs) L
    · cases hm
def mYes : M Bool := fun ρ => some (true, ρ)
theorem PTs.mono {ifs : List Expr} {t t' : TT} (h : PTs X ifs t) (hm : ∀ σ H Q, t' σ H Q → t σ H Q) : PTs X ifs t' := ⟨fun pins s σ H Q I q => h.run pins s σ H Q I (hm σ H Q q)⟩
theorem ts_nil : PTs X [] (rdT F mYes []) := PTs.mono pts_nil fun σ H Q ⟨B, A, ρ, b, ρ', E, hm, k⟩ => by
  cases hm
  exact k H (Post.refl E)
theorem ts_one {c : Expr} {m : M Bool} {eff : List Nat} (h : PT X c (rdT F m eff)) : PTs X [c] (rdT F m eff) := pts_one h
def lcL (g : D → Rho → Option Rho) (mt : M Bool) (me : M D) (vs : List Nat) : List D → List D → Rho → Option (List D × Rho)
  | [], acc, ρ => some (acc, ρ)
  | d :: r, acc, ρ => match g d ρ with
    | none => none
    | some ρ1 => (match mt ρ1 with
      | some (true, ρ2) => (match me ρ2 with
        | some (y, ρ3) => if acc.length < sizeLine then lcL g mt me vs r (acc ++ [y]) (wipeR ρ3 vs) else none
        | none => none)
      | some (false, ρ2) => lcL g mt me vs r acc (wipeR ρ2 vs)
      | none => none)
def mLc (mi : M (List D)) (g : D → Rho → Option Rho) (mt : M Bool) (me : M D) (vs : List Nat) : M D := fun ρ => match mi ρ with
  | some (ds, ρ1) => (match lcL g mt me vs ds [] (wipeR ρ1 vs) with
    | some (acc, ρ2) => some (.list acc, wipeR ρ2 vs)
    | none => none)
  | none => none
def wE (F : Frm) (vs : List Nat) (g : D → Rho → Option Rho) : TG := fun v σ H Q => ∃ G, rdW (F.more G) vs g v σ H Q
def tE (F : Frm) (m : M Bool) (eff : List Nat) : TT := fun σ H Q => ∃ G, rdT (F.more G) m eff σ H Q
def eE (F : Frm) (m : M D) (dep eff : List Nat) : TE := fun σ H Q => ∃ G, rd (F.more G) m dep eff σ H Q
theorem PG.exW {vs : List Nat} {g : D → Rho → Option Rho} (h : ∀ G, PG X tg (rdW (F.more G) vs g)) : PG X tg (wE F vs g) := ⟨fun pins s σ H v u Q I r ⟨G, q⟩ => (h G).run pins s σ H v u Q I r q⟩
theorem PTs.ex {ifs : List Expr} {m : M Bool} {eff : List Nat} (h : ∀ G, PTs X ifs (rdT (F.more G) m eff)) : PTs X ifs (tE F m eff) := ⟨fun pins s σ H Q I ⟨G, q⟩ => (h G).run pins s σ H Q I q⟩
theorem PE.ex {e : Expr} {m : M D} {dep eff : List Nat} (h : ∀ G, PE X e (rd (F.more G) m dep eff)) : PE X e (eE F m dep eff) := ⟨fun pins s σ H Q I ⟨G, q⟩ => (h G).run pins s σ H Q I q⟩
theorem wipeR_lv {ρ : Rho} {vs : List Nat} : Lv vs ρ (wipeR ρ vs) := ⟨fun i hi => wipeR_ne hi, fun i d h => ⟨d, (wipeR_some h).1, id⟩⟩
theorem Lv.more {e1 e2 : List Nat} {ρ ρ' : Rho} (h : Lv e1 ρ ρ') (hs : ∀ i ∈ e1, i ∈ e2) : Lv e2 ρ ρ' := ⟨fun i hi => h.keep i fun z => hi (hs i z), h.own⟩
theorem Lv.trans' {e : List Nat} {ρ ρ1 ρ2 : Rho} (a : Lv e ρ ρ1) (b : Lv e ρ1 ρ2) : Lv e ρ ρ2 := (a.trans b).more fun i hi => (List.mem_append.mp hi).elim id id
theorem wipe_wipe {σ : L2.St} {vs : List Nat} : L2.wipe (L2.wipe σ vs) vs = L2.wipe σ vs := by
  apply List.ext_getElem?
  intro j
  by_cases hj : j ∈ vs
  · rw [wipe_in hj, wipe_in hj, wipe_length]
  · rw [wipe_ne hj]
theorem Ev.notOw {B : List Addr} {A : Nat → Addr} {σ : L2.St} {H : Hp} {ρ : Rho} {b : Addr} (E : Ev F B A σ H ρ) (hb : b ∈ B) : ¬ Ow A ρ b := E.notOw0 hb
theorem Gro.fresh {C : Addr → Prop} {H H1 H2 : Hp} {b : Addr} (g : Gro C H H1) (hb : H b = none) (w : Gro (fun a => a = b) H1 H2) : Gro C H H2 :=
  ⟨fun a o e n t => w.keep a o (g.keep a o e n t) (fun z => by rw [z, hb] at e; cases e) t, fun P t => w.tabs P (g.tabs P t), fun a n => w.live a (g.live a n)⟩
theorem Gro.back {C : Addr → Prop} {H H1 : Hp} {b : Addr} (g : Gro C H H1) (hb : H1 b = none) : H b = none := by
  cases q : H b with
  | none => rfl
  | some o => exact absurd hb (g.live b (by rw [q]; simp))
theorem wipeR_av {B : List Addr} {A : Nat → Addr} {ρ : Rho} {vs : List Nat} : ∀ a, Av F B A (wipeR ρ vs) a → Av F B A ρ a := fun a z => (wipeR_lv (vs := vs)).av z
theorem rd_lc {mi : M (List D)} {g : D → Rho → Option Rho} {mt : M Bool} {me : M D} {effi efft effe vs : List Nat} (hv : ∀ i ∈ vs, i ∉ F.io) {σ : L2.St} {H : Hp} {Q : VK} (h : rdN F (mLc mi g mt me vs) (effi ++ (vs ++ (efft ++ effe))) σ H Q) :
    tLc (rdI F mi effi) (wE F vs g) (tE F mt efft) (eE F me [] effe) vs σ H Q := by
  obtain ⟨B, A, ρ, d, ρ', E, hm, k⟩ := h
  unfold mLc at hm
  split at hm
  · rename_i ds ρ1 e1
    split at hm
    · rename_i res ρ2 e2
      cases hm
      refine ⟨B, A, ρ, ds, ρ1, E, e1, fun J G H1 P1 hG it D hD => ?_⟩
      have Elay : Ev F (D :: B) A σ (upd H1 D (.lst [])) ρ1 := P1.env.hide hD (Ext.new hD) (by rw [upd_same]; simp)
      have ew : ∀ i, i ∉ vs → (L2.wipe σ vs)[i]? = σ[i]? := fun i h => wipe_ne h
      have E0 : Ev (F.more G) (D :: B) A (L2.wipe σ vs) (upd H1 D (.lst [])) (wipeR ρ1 vs) := by
        refine Ev.more ((Elay).wipe (wipe_length σ vs) ew hv) fun r hr => ?_
        refine ((hG r hr).away hD av_cons).ext (Ext.new hD) |>.mono (C := fun _ => False) (Gro.refl _) (fun a z => ?_) fun _ z => z.elim
        rcases z with z | z | ⟨j, e, h, z⟩
        · exact .inl z
        · exact .inr (.inl z)
        · exact .inr (.inr ⟨j, e, (wipeR_some h).1, z⟩)
      refine ⟨fun i m Hc => m = ds.length - i ∧ i ≤ ds.length ∧ ∃ acc xs ρc, Ev (F.more G) (D :: B) A (L2.wipe σ vs) Hc ρc ∧ Hc D = some (.lst xs) ∧ RelDs F.K (Av F (D :: B) A ρc) Hc xs acc ∧ Gro (Ow A ρ) H Hc ∧ Lv (effi ++ (vs ++ (efft ++ effe))) ρ ρc ∧ lcL g mt me vs (ds.drop i) acc ρc = some (res, ρ2),
        ⟨ds.length, by simp, Nat.zero_le _, [], [], wipeR ρ1 vs, E0, upd_same, .nil, P1.gro.trans (Ext.new hD).gro, (P1.lv.more fun i h => List.mem_append_left _ h).trans' (wipeR_lv.more fun i h => List.mem_append_right _ (List.mem_append_left _ h)), by rw [List.drop_zero]; exact e2⟩, ?_⟩
      rintro i m Hc ⟨rfl, hi, acc, xs, ρc, Ec, hDc, rc, gc, lc, hm⟩
      by_cases hlt : i < ds.length
      · refine .inr ⟨it.goes i _ Hc Ec.rootsG hlt, fun H' => ∃ acc xs ρc, Ev (F.more G) (D :: B) A (L2.wipe σ vs) H' ρc ∧ H' D = some (.lst xs) ∧ RelDs F.K (Av F (D :: B) A ρc) H' xs acc ∧ Gro (Ow A ρ) H H' ∧ Lv (effi ++ (vs ++ (efft ++ effe))) ρ ρc ∧ lcL g mt me vs (ds.drop (i + 1)) acc ρc = some (res, ρ2), fun H' q => ⟨ds.length - (i + 1), by omega, rfl, hlt, q⟩, fun x H' y => ?_⟩
        obtain ⟨ext, d, ed, rd⟩ := it.yields i _ Hc x H' Ec.rootsG Ec.less.occA hlt y
        rw [drop_cons' ed] at hm
        unfold lcL at hm
        split at hm
        · cases hm
        · rename_i ρg eg
          refine ⟨G, D :: B, A, ρc, d, ρg, Ec.ext ext, rd, eg, fun σ2 H2 E2 g2 hw l2 => ⟨by rw [hw, wipe_wipe], ?_⟩⟩
          have hw2 : L2.wipe σ2 vs = L2.wipe σ vs := by rw [hw, wipe_wipe]
          have hD0 : H D = none := P1.gro.back hD
          have hD2 : H2 D = some (.lst xs) := g2.keep _ _ (ext _ _ hDc) (fun z => z) fun ps z => nomatch z
          have ow1 : ∀ a, Ow A ρg a → Ow A ρ a := fun a z => lc.ow (l2.ow z)
          have gro2 : Gro (Ow A ρ) H H2 := gc.trans ((ext.gro).trans (g2.mono fun _ z => z.elim))
          have av1 : ∀ a, Av F (D :: B) A ρg a → Av F (D :: B) A ρc a := fun a z => l2.av z
          have rc2 : RelDs F.K (Av F (D :: B) A ρg) H2 xs acc := ((rc.ext ext).mono g2 (fun a z => z) fun _ z => z.elim).mono (C := fun _ => False) (Gro.refl _) av1 fun _ z => z.elim
          have lg : Lv (effi ++ (vs ++ (efft ++ effe))) ρ ρg := lc.trans' (l2.more fun i h => List.mem_append_right _ (List.mem_append_left _ h))
          split at hm
          · rename_i ρt et
            refine ⟨G, D :: B, A, ρg, true, ρt, E2, et, fun H3 P3 => ?_⟩
            simp only [if_true]
            have hD3 : H3 D = some (.lst xs) := P3.gro.keep _ _ hD2 (E2.notOw List.mem_cons_self) fun ps z => nomatch z
            have rc3 : RelDs F.K (Av F (D :: B) A ρt) H3 xs acc := rc2.mono P3.gro (fun a z => P3.lv.av z) fun a z => .inr (.inr z)
            have lt : Lv (effi ++ (vs ++ (efft ++ effe))) ρ ρt := lg.trans' (P3.lv.more fun i h => List.mem_append_right _ (List.mem_append_right _ (List.mem_append_left _ h)))
            split at hm
            · rename_i yd ρe ee
              split at hm
              · rename_i hz
                refine ⟨G, D :: B, A, ρt, yd, ρe, P3.env, ee, fun yv H4 P4 r4 => ?_⟩
                have hD4 : H4 D = some (.lst xs) := P4.gro.keep _ _ hD3 (P3.env.notOw List.mem_cons_self) fun ps z => nomatch z
                have rc4 : RelDs F.K (Av F (D :: B) A ρe) H4 xs acc := rc3.mono P4.gro (fun a z => P4.lv.av z) fun a z => .inr (.inr z)
                have W : Gro (fun a => a = D) H4 (upd H4 D (.lst (xs ++ [yv]))) := Gro.upd hD4 fun ps z => nomatch z
                have le : Lv (effi ++ (vs ++ (efft ++ effe))) ρ ρe := lt.trans' (P4.lv.more fun i h => List.mem_append_right _ (List.mem_append_right _ (List.mem_append_right _ h)))
                refine ⟨xs, hD4, by rw [rc4.length]; exact hz, acc ++ [yd], xs ++ [yv], wipeR ρe vs, ?_, upd_same, ?_, ?_, le.trans' (wipeR_lv.more fun i h => List.mem_append_right _ (List.mem_append_left _ h)), hm⟩
                · have E5 := (P4.env.writeB List.mem_cons_self W).wipe (σ' := L2.wipe σ2 vs) (vs := vs) (wipe_length _ _) (fun i h => wipe_ne h) hv
                  rw [hw2] at E5
                  exact E5
                · refine RelDs.append ?_ (.cons ?_ .nil)
                  · exact rc4.mono W (fun a z => wipeR_av a z) fun a z => .inr (.inl (z ▸ List.mem_cons_self))
                  · exact r4.plain.mono W (fun a z => wipeR_av (F := F) a z) fun a z => .inr (.inl (z ▸ List.mem_cons_self))
                · exact Gro.fresh (gro2.trans ((P3.gro.mono ow1).trans (P4.gro.mono fun a z => ow1 a (P3.lv.ow z)))) hD0 W
              · cases hm
            · cases hm
          · rename_i ρt et
            refine ⟨G, D :: B, A, ρg, false, ρt, E2, et, fun H3 P3 => ?_⟩
            simp only [Bool.false_eq_true, if_false]
            have hD3 : H3 D = some (.lst xs) := P3.gro.keep _ _ hD2 (E2.notOw List.mem_cons_self) fun ps z => nomatch z
            have rc3 : RelDs F.K (Av F (D :: B) A ρt) H3 xs acc := rc2.mono P3.gro (fun a z => P3.lv.av z) fun a z => .inr (.inr z)
            have lt : Lv (effi ++ (vs ++ (efft ++ effe))) ρ ρt := lg.trans' (P3.lv.more fun i h => List.mem_append_right _ (List.mem_append_right _ (List.mem_append_left _ h)))
            refine ⟨acc, xs, wipeR ρt vs, ?_, hD3, ?_, gro2.trans (P3.gro.mono ow1), lt.trans' (wipeR_lv.more fun i h => List.mem_append_right _ (List.mem_append_left _ h)), hm⟩
            · have E5 := P3.env.wipe (σ' := L2.wipe σ2 vs) (vs := vs) (wipe_length _ _) (fun i h => wipe_ne h) hv
              rw [hw2] at E5
              exact E5
            · exact rc3.mono (C := fun _ => False) (Gro.refl _) (fun a z => wipeR_av a z) fun _ z => z.elim
          · cases hm
      · have e : i = ds.length := by omega
        subst e
        rw [List.drop_length] at hm
        cases hm
        have Eb : Ev F (D :: B) A σ Hc (wipeR ρ2 vs) := Ec.less.wipe (wipe_length σ vs).symm (fun i h => (wipe_ne h).symm) hv
        exact .inl ⟨it.stops _ Hc Ec.rootsG, k D Hc ⟨Eb.unhide, gc, lc.trans' (wipeR_lv.more fun i h => List.mem_append_right _ (List.mem_append_left _ h))⟩ Eb ⟨fun z => (P1.env.occB D z).1 hD, P1.gro.back hD⟩ ⟨xs, hDc, rc.mono (C := fun _ => False) (Gro.refl _) (fun a z => wipeR_av a z) fun _ z => z.elim⟩⟩
    · cases hm
  · cases hm
theorem x_lc {elt iter : Expr} {ifs : List Expr} {scope : Scope} {own : List (Str × Nat)} {mi : M (List D)} {g : D → Rho → Option Rho} {mt : M Bool} {me : M D} {effi efft effe : List Nat} (hc : X.calm = true) (hN : X.N.Nodup) (hi : PI X tg iter (rdI F mi effi)) (ok : BlkOk X.N X.env.scope scope own)
    (hg : ∀ (s : Shared) (H : Hp) (C : Addr) (cl : List (Str × Addr)) (fp : List Addr) G, PG (X.blk s H scope (compEnvC scope cl C X.env) fp) tg (rdW (F.more G) (own.map (·.2)) g))
    (ht : ∀ (s : Shared) (H : Hp) (C : Addr) (cl : List (Str × Addr)) (fp : List Addr) G, PTs (X.blk s H scope (compEnvC scope cl C X.env) fp) ifs (rdT (F.more G) mt efft))
    (he : ∀ (s : Shared) (H : Hp) (C : Addr) (cl : List (Str × Addr)) (fp : List Addr) G, PE (X.blk s H scope (compEnvC scope cl C X.env) fp) elt (rd (F.more G) me [] effe))
    (hv : ∀ i ∈ own.map (·.2), i ∉ F.io := by decide) (hs : ∀ x, foldedSetIterable iter X.env x = pure x := by intro _; rfl) :
    PE X (.ListComp elt [⟨tg, iter, ifs, 0⟩] scope pos) (rdN F (mLc mi g mt me (own.map (·.2))) (effi ++ (own.map (·.2) ++ (efft ++ effe)))) :=
  PE.mono (pe_lc hc hN hi ok (fun s H C cl fp => PG.exW (hg s H C cl fp)) (fun s H C cl fp => PTs.ex (ht s H C cl fp)) (fun s H C cl fp => PE.ex (he s H C cl fp)) hs) fun σ H Q h => rd_lc hv h
end
end PD
set_option Elab.async false
set_option linter.all false
set_option maxRecDepth 100000
set_option maxHeartbeats 2000000
namespace PD
open PySem PySem.Spec PyProof.Rows L2 GxR GenX
def anL (k : Bool) (g : D → Rho → Option Rho) (mt : M Bool) (me : M D) (vs : List Nat) : List D → Rho → Option (Bool × Rho)
  | [], ρ => some (!k, ρ)
  | d :: r, ρ => match g d ρ with
    | none => none
    | some ρ1 => (match mt ρ1 with
      | some (true, ρ2) => (match me ρ2 with
        | some (.bool c, ρ3) => if c = k then some (k, wipeR ρ3 vs) else anL k g mt me vs r (wipeR ρ3 vs)
        | _ => none)
      | some (false, ρ2) => anL k g mt me vs r (wipeR ρ2 vs)
      | none => none)
def mAn (k : Bool) (mi : M (List D)) (g : D → Rho → Option Rho) (mt : M Bool) (me : M D) (vs : List Nat) : M D := fun ρ => match mi ρ with
  | some (ds, ρ1) => (match anL k g mt me vs ds (wipeR ρ1 vs) with
    | some (b, ρ2) => some (.bool b, wipeR ρ2 vs)
    | none => none)
  | none => none
instance (z : Int) : Decidable (InLong z) := inferInstanceAs (Decidable (_ ∧ _))
def suL (g : D → Rho → Option Rho) (mt : M Bool) (me : M D) (vs : List Nat) : List D → Int → Rho → Option (Int × Rho)
  | [], acc, ρ => some (acc, ρ)
  | d :: r, acc, ρ => match g d ρ with
    | none => none
    | some ρ1 => (match mt ρ1 with
      | some (true, ρ2) => (match me ρ2 with
        | some (.int z, ρ3) => if InLong z ∧ InLong (acc + z) then suL g mt me vs r (acc + z) (wipeR ρ3 vs) else none
        | _ => none)
      | some (false, ρ2) => suL g mt me vs r acc (wipeR ρ2 vs)
      | none => none)
def mSu (mi : M (List D)) (g : D → Rho → Option Rho) (mt : M Bool) (me : M D) (vs : List Nat) : M D := fun ρ => match mi ρ with
  | some (ds, ρ1) => (match suL g mt me vs ds 0 (wipeR ρ1 vs) with
    | some (z, ρ2) => some (.int z, wipeR ρ2 vs)
    | none => none)
  | none => none
def uK (k : Bool) (Q : VK) : List V → V → Hp → (Hp → Prop) → Prop := fun _ y H nx => ∃ c, y = .bl c ∧ if c = k then Q (.bl k) H else nx H
section
variable {X : Cx} {F : Frm} {pos p gpos : Pos} {tg : Expr}
theorem gen_an {k : Bool} {mi : M (List D)} {g : D → Rho → Option Rho} {mt : M Bool} {me : M D} {effi efft effe vs : List Nat} {P : Addr} (hP : P ∈ F.T) (hv : ∀ i ∈ vs, i ∉ F.io) {σ : L2.St} {H : Hp} {Q : VK}
    (h : rd F (mAn k mi g mt me vs) [] (effi ++ (vs ++ (efft ++ effe))) σ H Q) : tGen P (rdI F mi effi) (wE F vs g) (tE F mt efft) (eE F me [] effe) vs (uK k Q) (fun _ => Q (.bl (!k))) σ H := by
  obtain ⟨B, A, ρ, d, ρ', E, hm, kq⟩ := h
  unfold mAn at hm
  split at hm
  · rename_i ds ρ1 e1
    split at hm
    · rename_i res ρ2 e2
      cases hm
      refine ⟨B, A, ρ, ds, ρ1, E, e1, fun J G H1 P1 hG it => ⟨P1.env.tabs P hP, fun H3 hT => ?_⟩⟩
      have tg : ∀ {C : Addr → Prop}, Gro C H1 H3 := Gro.tabbed (P1.env.tabs P hP) hT
      have E3 : Ev F B A σ H3 ρ1 := P1.env.quiet tg
      have hwip : ∀ i, i ∉ vs → (L2.wipe σ vs)[i]? = σ[i]? := fun i h => wipe_ne h
      have E0 : Ev (F.more G) B A (L2.wipe σ vs) H3 (wipeR ρ1 vs) :=
        Ev.more (E3.wipe (wipe_length σ vs) hwip hv) fun r hr => ((hG r hr).mono (C := fun _ => False) tg (fun a z => wipeR_av a z) fun _ z => z.elim)
      -- the end, from any slots that agree with σ outside vs
      have fin : ∀ {σ' : L2.St} {Hc : Hp} {ρc : Rho} {b : Bool}, Ev (F.more G) B A σ' Hc ρc → σ'.length = σ.length → (∀ i, i ∉ vs → σ'[i]? = σ[i]?) → Gro (Ow A ρ) H Hc → Lv (effi ++ (vs ++ (efft ++ effe))) ρ ρc → (b, wipeR ρc vs) = (res, wipeR ρ2 vs) → Q (.bl b) Hc := fun {σ' Hc ρc b} Ec hl hσ gc lc he => by
        have h1 : b = res := congrArg Prod.fst he
        have h2 : wipeR ρc vs = wipeR ρ2 vs := congrArg Prod.snd he
        subst h1
        have Eb := Ec.less.wipe (σ' := σ) hl.symm (fun i h => (hσ i h).symm) hv
        rw [h2] at Eb
        exact kq (.bl b) Hc ⟨Eb, gc, by rw [← h2]; exact lc.trans' (wipeR_lv.more fun i h => List.mem_append_right _ (List.mem_append_left _ h))⟩ (.inl (.bl b))
      refine ⟨fun i m _ Hc => m = ds.length - i ∧ i ≤ ds.length ∧ ∃ ρc, Ev (F.more G) B A (L2.wipe σ vs) Hc ρc ∧ Gro (Ow A ρ) H Hc ∧ Lv (effi ++ (vs ++ (efft ++ effe))) ρ ρc ∧ anL k g mt me vs (ds.drop i) ρc = some (res, ρ2),
        ⟨ds.length, by simp, Nat.zero_le _, wipeR ρ1 vs, E0, P1.gro.trans tg, (P1.lv.more fun i h => List.mem_append_left _ h).trans' (wipeR_lv.more fun i h => List.mem_append_right _ (List.mem_append_left _ h)), by rw [List.drop_zero]; exact e2⟩, ?_⟩
      rintro i m ys Hc ⟨rfl, hi, ρc, Ec, gc, lc, hm⟩
      by_cases hlt : i < ds.length
      · refine .inr ⟨it.goes i _ Hc Ec.rootsG hlt, fun _ H' => ∃ ρc, Ev (F.more G) B A (L2.wipe σ vs) H' ρc ∧ Gro (Ow A ρ) H H' ∧ Lv (effi ++ (vs ++ (efft ++ effe))) ρ ρc ∧ anL k g mt me vs (ds.drop (i + 1)) ρc = some (res, ρ2), fun _ H' q => ⟨ds.length - (i + 1), by omega, rfl, hlt, q⟩, fun x H' y => ?_⟩
        obtain ⟨ext, d, ed, rd⟩ := it.yields i _ Hc x H' Ec.rootsG Ec.less.occA hlt y
        rw [drop_cons' ed] at hm
        unfold anL at hm
        split at hm
        · cases hm
        · rename_i ρg eg
          refine ⟨G, B, A, ρc, d, ρg, Ec.ext ext, rd, eg, fun σ2 H2 E2 g2 hw l2 => ⟨by rw [hw, wipe_wipe], ?_⟩⟩
          have hw2 : L2.wipe σ2 vs = L2.wipe σ vs := by rw [hw, wipe_wipe]
          obtain ⟨wl, wσ⟩ := wipe_eq hw2
          have ow1 : ∀ a, Ow A ρg a → Ow A ρ a := fun a z => lc.ow (l2.ow z)
          have gro2 : Gro (Ow A ρ) H H2 := gc.trans ((ext.gro).trans (g2.mono fun _ z => z.elim))
          have lg : Lv (effi ++ (vs ++ (efft ++ effe))) ρ ρg := lc.trans' (l2.more fun i h => List.mem_append_right _ (List.mem_append_left _ h))
          split at hm
          · rename_i ρt et
            refine ⟨G, B, A, ρg, true, ρt, E2, et, fun H3 P3 => ?_⟩
            simp only [if_true]
            have lt : Lv (effi ++ (vs ++ (efft ++ effe))) ρ ρt := lg.trans' (P3.lv.more fun i h => List.mem_append_right _ (List.mem_append_right _ (List.mem_append_left _ h)))
            have gro3 := gro2.trans (P3.gro.mono ow1)
            split at hm
            · rename_i c ρe ee
              refine ⟨G, B, A, ρt, .bool c, ρe, P3.env, ee, fun yv H4 P4 r4 => ⟨c, (r4.rr P4.env).bool, ?_⟩⟩
              have le : Lv (effi ++ (vs ++ (efft ++ effe))) ρ ρe := lt.trans' (P4.lv.more fun i h => List.mem_append_right _ (List.mem_append_right _ (List.mem_append_right _ h)))
              have gro4 := gro3.trans (P4.gro.mono fun a z => ow1 a (P3.lv.ow z))
              have E5 := P4.env.wipe (σ' := L2.wipe σ2 vs) (vs := vs) (wipe_length _ _) (fun i h => wipe_ne h) hv
              rw [hw2] at E5
              have l5 := le.trans' (wipeR_lv (vs := vs) |>.more fun i h => List.mem_append_right effi (List.mem_append_left (efft ++ effe) h))
              by_cases hck : c = k
              · rw [if_pos hck] at hm ⊢
                cases hm
                exact fin E5 (wipe_length σ vs) hwip gro4 l5 rfl
              · rw [if_neg hck] at hm ⊢
                exact ⟨_, E5, gro4, l5, hm⟩
            · cases hm
          · rename_i ρt et
            refine ⟨G, B, A, ρg, false, ρt, E2, et, fun H3 P3 => ?_⟩
            simp only [Bool.false_eq_true, if_false]
            have lt : Lv (effi ++ (vs ++ (efft ++ effe))) ρ ρt := lg.trans' (P3.lv.more fun i h => List.mem_append_right _ (List.mem_append_right _ (List.mem_append_left _ h)))
            have E5 := P3.env.wipe (σ' := L2.wipe σ2 vs) (vs := vs) (wipe_length _ _) (fun i h => wipe_ne h) hv
            rw [hw2] at E5
            exact ⟨_, E5, gro2.trans (P3.gro.mono ow1), lt.trans' (wipeR_lv.more fun i h => List.mem_append_right _ (List.mem_append_left _ h)), hm⟩
          · cases hm
      · have e : i = ds.length := by omega
        subst e
        rw [List.drop_length] at hm
        cases hm
        exact .inl ⟨it.stops _ Hc Ec.rootsG, fin Ec (wipe_length σ vs) hwip gc lc rfl⟩
    · cases hm
  · cases hm
theorem tGen_mono {P : Addr} {wi : TI} {g : TG} {tt : TT} {te : TE} {vs : List Nat} {U U' : List V → V → Hp → (Hp → Prop) → Prop} {Qd : List V → Hp → Prop} {σ : L2.St} {H : Hp} (hwi : ∀ σ H (R R' : It → Hp → Prop), (∀ J H, R J H → R' J H) → wi σ H R → wi σ H R')
    (hg : ∀ x σ H (Q Q' : L2.St → Hp → Prop), (∀ σ H, Q σ H → Q' σ H) → g x σ H Q → g x σ H Q') (ht : ∀ σ H (Q Q' : Bool → Hp → Prop), (∀ b H, Q b H → Q' b H) → tt σ H Q → tt σ H Q') (he : ∀ σ H (Q Q' : VK), (∀ v H, Q v H → Q' v H) → te σ H Q → te σ H Q')
    (hU : ∀ ys y H nx, U ys y H nx → U' ys y H nx) (h : tGen P wi g tt te vs U Qd σ H) : tGen P wi g tt te vs U' Qd σ H := by
  refine hwi _ _ _ _ (fun J H2 q => ⟨q.1, fun H3 hT => ?_⟩) h
  obtain ⟨W, hW, T⟩ := q.2 H3 hT
  refine ⟨W, hW, fun i m ys H w => ?_⟩
  rcases T i m ys H w with z | ⟨go, Nx, h1, h2⟩
  · exact .inl z
  · refine .inr ⟨go, Nx, h1, fun x H' y => hg _ _ _ _ _ (fun σ2 H2 q => ⟨q.1, ht _ _ _ _ (fun b H3 q => ?_) q.2⟩) (h2 x H' y)⟩
    cases b with
    | true =>
      simp only [if_true] at q ⊢
      exact he _ _ _ _ (fun v H q => hU _ _ _ _ q) q
    | false =>
      simp only [Bool.false_eq_true, if_false] at q ⊢
      exact q
theorem rdI_mono {m : M (List D)} {eff : List Nat} (σ : L2.St) (H : Hp) (R R' : It → Hp → Prop) (h : ∀ J H, R J H → R' J H) : rdI F m eff σ H R → rdI F m eff σ H R' := fun ⟨B, A, ρ, ds, ρ', E, hm, k⟩ => ⟨B, A, ρ, ds, ρ', E, hm, fun J G H' P hG it => h _ _ (k J G H' P hG it)⟩
theorem wE_mono {vs : List Nat} {g : D → Rho → Option Rho} (x : V) (σ : L2.St) (H : Hp) (Q Q' : L2.St → Hp → Prop) (h : ∀ σ H, Q σ H → Q' σ H) : wE F vs g x σ H Q → wE F vs g x σ H Q' := fun ⟨G, B, A, ρ, d, ρ', E, r, hm, k⟩ => ⟨G, B, A, ρ, d, ρ', E, r, hm, fun σ' H' E' g' hw l => h _ _ (k σ' H' E' g' hw l)⟩
theorem tE_mono {m : M Bool} {eff : List Nat} (σ : L2.St) (H : Hp) (Q Q' : Bool → Hp → Prop) (h : ∀ b H, Q b H → Q' b H) : tE F m eff σ H Q → tE F m eff σ H Q' := fun ⟨G, B, A, ρ, b, ρ', E, hm, k⟩ => ⟨G, B, A, ρ, b, ρ', E, hm, fun H' P => h _ _ (k H' P)⟩
theorem eE_mono {m : M D} {dep eff : List Nat} (σ : L2.St) (H : Hp) (Q Q' : VK) (h : ∀ b H, Q b H → Q' b H) : eE F m dep eff σ H Q → eE F m dep eff σ H Q' := fun ⟨G, B, A, ρ, b, ρ', E, hm, k⟩ => ⟨G, B, A, ρ, b, ρ', E, hm, fun v H' P r => h _ _ (k v H' P r)⟩
section
variable {c P : Addr} {elt iter : Expr} {ifs : List Expr} {scope : Scope} {own : List (Str × Nat)} {mi : M (List D)} {g : D → Rho → Option Rho} {mt : M Bool} {me : M D} {effi efft effe : List Nat} {k : Nat}
theorem x_any (hP : P ∈ F.T) (hr : Room k X.A) (hcalm : X.calm = true) (hN : X.N.Nodup) (TB : TabB X.base X.mg c P) (hcode : X.env.code = .ref c) (ok : GOk X.N X.env.scope scope own) (hi : PI X tg iter (rdI F mi effi))
    (hg : ∀ (s : Shared) (H : Hp) (C : Addr) (code : Value) (fp : List Addr) (pn : List (Addr × Obj)) G, PG (gcx X s H (genEnv scope (cloFrom X.env.cells scope.names []) C code builtinsNs X.env) fp pn (X.A.in1.in1.deeper (genEnv scope (cloFrom X.env.cells scope.names []) C code builtinsNs X.env))) tg (rdW (F.more G) (own.map (·.2)) g))
    (ht : ∀ (s : Shared) (H : Hp) (C : Addr) (code : Value) (fp : List Addr) (pn : List (Addr × Obj)) G, PTs (gcx X s H (genEnv scope (cloFrom X.env.cells scope.names []) C code builtinsNs X.env) fp pn (X.A.in1.in1.deeper (genEnv scope (cloFrom X.env.cells scope.names []) C code builtinsNs X.env))) ifs (rdT (F.more G) mt efft))
    (he : ∀ (s : Shared) (H : Hp) (C : Addr) (code : Value) (fp : List Addr) (pn : List (Addr × Obj)) G, PE (gcx X s H (genEnv scope (cloFrom X.env.cells scope.names []) C code builtinsNs X.env) fp pn (X.A.in1.in1.deeper (genEnv scope (cloFrom X.env.cells scope.names []) C code builtinsNs X.env))) elt (rd (F.more G) me [] effe))
    (hga : Gl X "any") (hma : X.mg "any" = none) (hv : ∀ i ∈ own.map (·.2), i ∉ F.io := by decide) (hs : ∀ v, genFold iter X.env v = pure v := by intro _; rfl)
    (hst : starEach [.GeneratorExp elt [⟨tg, iter, ifs, 0⟩] scope gpos] X.env = (false, eval (.GeneratorExp elt [⟨tg, iter, ifs, 0⟩] scope gpos) X.env) :: starEach [] X.env := by rfl) :
    PE X (.Call (.Name "any" p) [.GeneratorExp elt [⟨tg, iter, ifs, 0⟩] scope gpos] [] pos) (rd F (mAn true mi g mt me (own.map (·.2))) [] (effi ++ (own.map (·.2) ++ (efft ++ effe)))) := by
  refine PE.mono (pe_anyG (pg_gen hr hcalm hN TB hcode ok hi (fun s H C code fp pn => PG.exW (hg s H C code fp pn)) (fun s H C code fp pn => PTs.ex (ht s H C code fp pn)) (fun s H C code fp pn => PE.ex (he s H C code fp pn)) hs) hga hma hst) fun σ H Q h => ?_
  exact tGen_mono rdI_mono wE_mono tE_mono eE_mono (fun ys y H nx ⟨c, e, q⟩ => ⟨c, e, q⟩) (gen_an (k := true) hP hv h)
end
end
end PD
set_option Elab.async false
set_option linter.all false
set_option maxRecDepth 100000
set_option maxHeartbeats 2000000
namespace PD
open PySem PySem.Spec PyProof.Rows L2 GxR GenX
structure ArgsOk (K : PySem.W.Frag) (S : Addr → Prop) (io : List Nat) (A0 : Nat → Addr) (H : Hp) (vs : List V) (ds : List D) : Prop where
  len : vs.length = ds.length
  at_ : ∀ (j : Nat) (v : V) (d : D), vs[j]? = some v → ds[j]? = some d → (j ∈ io → v = .ref (A0 j) ∧ Own K S H A0 j d) ∧ (j ∉ io → RelD K S H v d)
  ioS : ∀ j ∈ io, ∃ d, ds[j]? = some d ∧ ∀ a, Pt A0 j d a → S a
  inj : ∀ i ∈ io, ∀ j ∈ io, ∀ d e a, ds[i]? = some d → ds[j]? = some e → Pt A0 i d a → Pt A0 j e a → i = j
def spD (K : PySem.W.Frag) (T : List Addr) (io : List Nat) (n : Nat) (f : List D → Option (D × List D)) : Sp := fun vs H Q _ => ∃ S A0 ds r ds', f ds = some (r, ds') ∧ ds.length = n ∧ ds'.length = n ∧ ArgsOk K S io A0 H vs ds ∧ (∀ a, S a → H a ≠ none) ∧ (∀ P ∈ T, TabN H P) ∧
  ∀ v H', Gro (fun a => ∃ j ∈ io, a = A0 j ∨ a = A0 (j + 1000)) H H' → (∀ j ∈ io, ∀ d', ds'[j]? = some d' → Own K S H' A0 j d') → RelD K S H' v r → Q v H'
theorem spD_len {K : PySem.W.Frag} {T : List Addr} {io : List Nat} {n : Nat} {f : List D → Option (D × List D)} (vs : List V) (H : Hp) (Q : VK) (E : XK) (h : spD K T io n f vs H Q E) : vs.length = n := by
  obtain ⟨S, A0, ds, r, ds', _, h1, _, h2, _⟩ := h
  rw [h2.len, h1]
def ioR (io : List Nat) : Nat → List D → Rho
  | _, [] => []
  | j, d :: ds => some (decide (j ∈ io), d) :: ioR io (j + 1) ds
def startR (io : List Nat) (n : Nat) (ds : List D) : Rho := ioR io 0 ds ++ List.replicate (n - ds.length) none
def backR (ρ : Rho) (n : Nat) : List D := (List.range n).map fun j => match ρ[j]? with
  | some (some (_, d)) => d
  | _ => .none
def runD (n : Nat) (io : List Nat) (mb : MS) (ds : List D) : Option (D × List D) := match mb (startR io n ds) with
  | some (.rt d ρ) => some (d, backR ρ ds.length)
  | some (.nx ρ) => some (.none, backR ρ ds.length)
  | _ => none
theorem ioR_get {io : List Nat} : ∀ {ds : List D} {j i : Nat}, (ioR io j ds)[i]? = (ds[i]?).map fun d => some (decide (j + i ∈ io), d)
  | [], _, _ => by simp [ioR]
  | d :: ds, j, 0 => by simp [ioR]
  | d :: ds, j, i + 1 => by
    unfold ioR
    rw [List.getElem?_cons_succ, ioR_get, List.getElem?_cons_succ]
    have : j + 1 + i = j + (i + 1) := by omega
    rw [this]
theorem ioR_len {io : List Nat} : ∀ {ds : List D} {j : Nat}, (ioR io j ds).length = ds.length
  | [], _ => rfl
  | _ :: _, _ => congrArg (· + 1) ioR_len
theorem startR_some {io : List Nat} {n i : Nat} {ds : List D} {b : Bool} {d : D} (h : (startR io n ds)[i]? = some (some (b, d))) : ds[i]? = some d ∧ b = decide (i ∈ io) := by
  unfold startR at h
  by_cases hi : i < ds.length
  · rw [List.getElem?_append_left (by rw [ioR_len]; exact hi), ioR_get, Nat.zero_add] at h
    cases q : ds[i]? with
    | none => rw [q] at h; cases h
    | some e =>
      rw [q] at h
      cases h
      exact ⟨rfl, rfl⟩
  · rw [List.getElem?_append_right (by rw [ioR_len]; omega), List.getElem?_replicate] at h
    split at h <;> cases h
theorem startR_at {io : List Nat} {n i : Nat} {ds : List D} {d : D} (h : ds[i]? = some d) : (startR io n ds)[i]? = some (some (decide (i ∈ io), d)) := by
  have hi : i < ds.length := (List.getElem?_eq_some_iff.mp h).1
  unfold startR
  rw [List.getElem?_append_left (by rw [ioR_len]; exact hi), ioR_get, Nat.zero_add, h]
  rfl
theorem start_at {N : List Str} {vs : List V} {i : Nat} {v : V} (h : vs[i]? = some v) : (L2.start N vs)[i]? = some (some v) := by
  have hi : i < vs.length := (List.getElem?_eq_some_iff.mp h).1
  unfold L2.start
  rw [List.getElem?_append_left (by simpa using hi), List.getElem?_map, h]
  rfl
theorem ev_start {K : PySem.W.Frag} {S : Addr → Prop} {io : List Nat} {T : List Addr} {A0 : Nat → Addr} {H : Hp} {vs : List V} {ds : List D} {N : List Str} (h : ArgsOk K S io A0 H vs ds) (occ : ∀ a, S a → H a ≠ none) (tabs : ∀ P ∈ T, TabN H P) (hf : (startR io N.length ds).length ≤ 1000) (nw : Bool := false) :
    Ev ⟨K, S, io, T, H, A0, [], nw⟩ [] A0 (L2.start N vs) H (startR io N.length ds) := by
  have hS : ∀ a, Av ⟨K, S, io, T, H, A0, [], nw⟩ [] A0 (startR io N.length ds) a → S a := fun a z => by
    rcases z with z | z | ⟨i, d, e, z⟩
    · exact z
    · cases z
    · obtain ⟨e1, hb⟩ := startR_some e
      obtain ⟨d', e2, h2⟩ := h.ioS i (of_decide_eq_true hb.symm)
      rw [e1] at e2
      cases e2
      exact h2 a z
  have vat : ∀ {i : Nat} {d : D}, ds[i]? = some d → ∃ v, vs[i]? = some v := fun {i d} e => by
    have hi : i < vs.length := by rw [h.len]; exact (List.getElem?_eq_some_iff.mp e).1
    exact ⟨vs[i], by simp [hi]⟩
  refine ⟨?_, fun i d e => ?_, fun i d e => ?_, fun i j d e a h1 h2 z1 z2 => ?_, fun i d a e z hi => ?_, fun i hi => ?_, hf, occ, fun b hb => absurd hb (by simp), Gro.refl _, tabs, fun r hr => absurd hr (by simp)⟩
  · unfold startR L2.start
    rw [List.length_append, List.length_append, ioR_len, List.length_replicate, List.length_replicate, List.length_map, h.len]
  · obtain ⟨e1, hb⟩ := startR_some e
    obtain ⟨v, ev⟩ := vat e1
    exact ⟨v, start_at ev, ((h.at_ i v d ev e1).2 (of_decide_eq_false hb.symm)).mono (C := fun _ => False) (Gro.refl _) hS fun _ z => z.elim⟩
  · obtain ⟨e1, hb⟩ := startR_some e
    obtain ⟨v, ev⟩ := vat e1
    obtain ⟨g1, g2⟩ := (h.at_ i v d ev e1).1 (of_decide_eq_true hb.symm)
    exact ⟨by rw [← g1]; exact start_at ev, g2.mono (C := fun _ => False) (Gro.refl _) hS (fun _ z => z.elim) fun _ _ => id⟩
  · exact h.inj i (of_decide_eq_true (startR_some h1).2.symm) j (of_decide_eq_true (startR_some h2).2.symm) d e a (startR_some h1).1 (startR_some h2).1 z1 z2
  · exact absurd (of_decide_eq_true (startR_some e).2.symm) hi
  · obtain ⟨d, e1, hs⟩ := h.ioS i hi
    refine ⟨d, ?_, rfl, fun _ => rfl, fun a z => ⟨hs a z, by simp⟩⟩
    rw [startR_at e1]
    rw [decide_eq_true (show i ∈ io from hi)]
structure FunC (K : PySem.W.Frag) (x qual : Str) (st : Stmt) (f : Addr) (fd : FuncData) (c : Addr) : Prop where
  ex : ∃ (oc : Value) (od : Option Addr) (kV doc pm : Value) (an : Option Addr) (ct : Value) (osl : Array (Option Value)),
    fd = PySem.W.fnOf x qual (defArgs st) (defBody st) (defScope st) .none kV doc pm an (.ref c) ct ∧ K.lookup f = some ⟨oc, od, .func fd, osl⟩ ∧ PySem.W.codeIn K (.ref c) qual = true
theorem back_get {ρ : Rho} {n j : Nat} {d : D} (h : (backR ρ n)[j]? = some d) (hb : ∃ b e, ρ[j]? = some (some (b, e))) : ∃ b, ρ[j]? = some (some (b, d)) := by
  unfold backR at h
  obtain ⟨b, e, q⟩ := hb
  have hj : j < n := by
    have := (List.getElem?_eq_some_iff.mp h).1
    simpa using this
  rw [List.getElem?_map, List.getElem?_range hj] at h
  simp only [Option.map_some, q, Option.some.injEq] at h
  exact ⟨b, by rw [q, h]⟩
section
variable {P : Program} {w : World} {K : PySem.W.Frag} {mg : Str → Option Value} {base : Heap}
theorem okD {x qual : Str} {st : Stmt} {f c : Addr} {fd : FuncData} {N ps : List Str} {k : Nat} {T : List Addr} {io : List Nat} {mb : MS} (F : FunC K x qual st f fd c) (Sc : FnScope N ps (defScope st))
    (hbody : ∀ (A : Around) (outer : List Env) (s : Shared) (H : Hp) (E : XK) (S : Addr → Prop) (A0 : Nat → Addr), Room k (A.deeper (envOfC qual (defScope st) s.heap.objs.size f (.ref c))) →
      PSs (cxOf CX0 P w K mg base N qual (defScope st) f (.ref c) A outer s H E).nox (defBody st) (rdS ⟨K, S, io, T, H, A0, [], false⟩ mb)) (hN : ps.length ≤ N.length ∧ N.length ≤ 1000 := by decide) :
    FnOk P w K mg base CX0 (k + 1) f fd ps (spD K T io ps.length (runD N.length io mb)) := by
  obtain ⟨oc, od, kV, doc, pm, an, ct, osl, rfl, lk, hcd⟩ := F.ex
  refine fn_of lk hcd Sc spD_len fun A outer s H vs Q E hr hsp => ?_
  obtain ⟨S, A0, ds, r, ds', hfn, hn, hn', ha, occ, tabs, k⟩ := hsp
  refine ⟨_, (hbody A outer s H E S A0 hr).nox, A0, startR io N.length ds, ?_⟩
  have hf : (startR io N.length ds).length ≤ 1000 := by
    unfold startR
    rw [List.length_append, ioR_len, List.length_replicate]
    omega
  have fin : ∀ {A' : Nat → Addr} {σ' : L2.St} {H' : Hp} {ρ' : Rho}, Ev ⟨K, S, io, T, H, A0, [], false⟩ [] A' σ' H' ρ' → (∀ j ∈ io, ∀ d', (backR ρ' ds.length)[j]? = some d' → Own K S H' A0 j d') := fun {A' σ' H' ρ'} E' j hj d' hd => by
    obtain ⟨e, h4, h1, h2, _⟩ := E'.ios j hj
    obtain ⟨b, h5⟩ := back_get hd ⟨true, e, h4⟩
    rw [h4] at h5
    cases h5
    exact ((E'.own j d' h4).2.mono (C := fun _ => False) (Gro.refl _) (fun a z => .inl z) (fun _ z => z.elim) fun _ _ => id).at_ (show A0 j = A' j from h1.symm) fun z => (h2 z).symm
  unfold runD at hfn
  split at hfn
  · rename_i d ρ' e
    cases hfn
    exact ⟨.rt r ρ', ev_start ha occ tabs hf, e, fun A' σ' v H' E' r' => k v H' E'.chg (fin E') r'⟩
  · rename_i ρ' e
    cases hfn
    exact ⟨.nx ρ', ev_start ha occ tabs hf, e, fun A' σ' H' E' => k .non H' E'.chg (fin E') .non⟩
  · cases hfn
end
section
variable {F : Frm} {B : List Addr} {A : Nat → Addr} {σ : L2.St} {H H' : Hp} {ρ ρ' : Rho}
theorem Ev.writes (E : Ev F B A σ H ρ) {I : List Nat} (hI : ∀ i ∈ I, ∃ d : D, ρ[i]? = some (some (true, d))) (g : Gro (fun a => ∃ i ∈ I, ∃ d, ρ[i]? = some (some (true, d)) ∧ Pt A i d a) H H') (hl : ρ'.length = ρ.length) (hk : ∀ i, i ∉ I → ρ'[i]? = ρ[i]?)
    (hw : ∀ i ∈ I, ∃ d e, ρ[i]? = some (some (true, e)) ∧ (isBg d = true → isBg e = true) ∧ ρ'[i]? = some (some (true, d)) ∧ Own F.K (Av F B A ρ) H' A i d) : Post F B A σ H ρ I H' ρ' := by
  have own' : ∀ (j : Nat) (e : D), ρ'[j]? = some (some (true, e)) → ∃ e0, ρ[j]? = some (some (true, e0)) ∧ (isBg e = true → isBg e0 = true) := fun j e h => by
    by_cases hj : j ∈ I
    · obtain ⟨d, e0, q, k, q', _⟩ := hw j hj
      rw [h] at q'
      cases q'
      exact ⟨e0, q, k⟩
    · exact ⟨e, by rw [← hk j hj]; exact h, id⟩
  have pt' : ∀ {j : Nat} {e' e0 : D} {a : Addr}, (isBg e' = true → isBg e0 = true) → Pt A j e' a → Pt A j e0 a := fun h z => z.imp h
  have hC : ∀ a, (∃ i ∈ I, ∃ d, ρ[i]? = some (some (true, d)) ∧ Pt A i d a) → Av F B A ρ a := fun a ⟨i, hi, d, e, z⟩ => .inr (.inr ⟨i, d, e, z⟩)
  have hav : ∀ a, Av F B A ρ' a → Av F B A ρ a := fun a h => by
    rcases h with h | h | ⟨j, e', h, z⟩
    · exact .inl h
    · exact .inr (.inl h)
    · obtain ⟨e0, q, k⟩ := own' j e' h
      exact .inr (.inr ⟨j, e0, q, pt' k z⟩)
  refine ⟨⟨by rw [hl]; exact E.len, fun j e h => ?_, fun j e h => ?_, fun j k e1 e2 a h1 h2 z1 z2 => ?_, fun j e a h z hj => ?_, fun j hj => ?_, by rw [hl]; exact E.few, fun a h => g.live a (E.occ a h), fun b hb => ⟨g.live b (E.occB b hb).1, (E.occB b hb).2⟩, ⟨fun a o h n t => ?_, fun P t => g.tabs P (E.chg.tabs P t), fun a n => g.live a (E.chg.live a n)⟩, fun P hP => g.tabs P (E.tabs P hP), fun r hr => (E.roots r hr).mono g hav hC⟩,
    g.mono fun a ⟨i, hi, d, e, z⟩ => ⟨i, d, e, z⟩, ⟨hk, own'⟩⟩
  · have hj : j ∉ I := fun hj => by
      obtain ⟨d, _, _, _, q, _⟩ := hw j hj
      rw [q] at h
      cases h
    rw [hk j hj] at h
    obtain ⟨w, h1, h2⟩ := E.plain j e h
    exact ⟨w, h1, h2.mono g hav hC⟩
  · by_cases hj : j ∈ I
    · obtain ⟨d, _, _, _, q, r⟩ := hw j hj
      rw [q] at h
      cases h
      obtain ⟨d0, q0⟩ := hI j hj
      exact ⟨(E.own j d0 q0).1, r.mono (C := fun _ => False) (Gro.refl _) hav (fun _ z => z.elim) fun _ _ => id⟩
    · rw [hk j hj] at h
      obtain ⟨h1, h2⟩ := E.own j e h
      exact ⟨h1, h2.mono g hav hC fun a z1 ⟨i, hi, d0, q0, z2⟩ => hj (E.inj j i e d0 a h q0 z1 z2 ▸ hi)⟩
  · obtain ⟨f1, q1, k1⟩ := own' j e1 h1
    obtain ⟨f2, q2, k2⟩ := own' k e2 h2
    exact E.inj j k f1 f2 a q1 q2 (pt' k1 z1) (pt' k2 z2)
  · obtain ⟨f1, q1, k1⟩ := own' j e h
    exact E.nS j f1 a q1 (pt' k1 z) hj
  · obtain ⟨e', h4, h1, h2, h3⟩ := E.ios j hj
    by_cases hjI : j ∈ I
    · obtain ⟨d, e0, q0, k0, q, _⟩ := hw j hjI
      rw [h4] at q0
      cases q0
      exact ⟨d, q, h1, fun z => h2 (k0 z), fun a z => h3 a (pt' k0 z)⟩
    · exact ⟨e', by rw [hk j hjI]; exact h4, h1, h2, h3⟩
  · refine g.keep a o (E.chg.keep a o h n t) (fun ⟨i, hi, d, e, z⟩ => ?_) t
    by_cases hj : i ∈ F.io
    · obtain ⟨e', h4, h1, h2, h3⟩ := E.ios i hj
      rw [e] at h4
      cases h4
      rcases z with z | ⟨zb, z⟩
      · exact n ⟨i, hj, .inl (z.trans h1)⟩
      · exact n ⟨i, hj, .inr (z.trans (h2 zb))⟩
    · rw [(E.nS i d a e z hj).2.2] at h
      cases h
end
inductive Tagd (F : Frm) (B : List Addr) (A : Nat → Addr) (ρ : Rho) (H : Hp) : List (Option Nat) → List V → List D → Prop
  | nil : Tagd F B A ρ H [] [] []
  | plain {ts : List (Option Nat)} {v : V} {vs : List V} {d : D} {ds : List D} : RelD F.K (Av F B A ρ) H v d → Tagd F B A ρ H ts vs ds → Tagd F B A ρ H (none :: ts) (v :: vs) (d :: ds)
  | io {i : Nat} {ts : List (Option Nat)} {vs : List V} {d : D} {ds : List D} : ρ[i]? = some (some (true, d)) → Tagd F B A ρ H ts vs ds → Tagd F B A ρ H (some i :: ts) (.ref (A i) :: vs) (d :: ds)
def rdC (F : Frm) (ts : List (Option Nat)) (m : M (List D)) (eff : List Nat) : TA := fun σ H Q => ∃ B A ρ ds ρ', Ev F B A σ H ρ ∧ m ρ = some (ds, ρ') ∧ ∀ vs H', Post F B A σ H ρ eff H' ρ' → Tagd F B A ρ' H' ts vs ds → Q vs H'
def mOwn (i : Nat) : M D := fun ρ => match ρ[i]? with
  | some (some (true, d)) => if isBg d = true then none else some (d, ρ)
  | _ => none
def putBack : List (Option Nat) → List D → Rho → Rho
  | some i :: ts, d :: ds, ρ => putBack ts ds (ρ.set i (some (true, d)))
  | none :: ts, _ :: ds, ρ => putBack ts ds ρ
  | _, _, ρ => ρ
def mCall (f : List D → Option (D × List D)) (ts : List (Option Nat)) (m : M (List D)) : M D := fun ρ => match m ρ with
  | some (ds, ρ1) => (match f ds with
    | some (r, ds') => if ds'.length = ds.length then some (r, putBack ts ds' ρ1) else none
    | none => none)
  | none => none
def tagIo : List (Option Nat) → Nat → List Nat
  | [], _ => []
  | some _ :: ts, j => j :: tagIo ts (j + 1)
  | none :: ts, j => tagIo ts (j + 1)
theorem putBack_len : ∀ {ts : List (Option Nat)} {ds : List D} {ρ : Rho}, (putBack ts ds ρ).length = ρ.length
  | some i :: ts, d :: ds, ρ => by unfold putBack; rw [putBack_len, List.length_set]
  | none :: ts, _ :: ds, ρ => by unfold putBack; exact putBack_len
  | [], _, _ => by unfold putBack; rfl
  | some _ :: _, [], _ => by unfold putBack; rfl
  | none :: _, [], _ => by unfold putBack; rfl
theorem putBack_ne {i : Nat} : ∀ {ts : List (Option Nat)} {ds : List D} {ρ : Rho}, i ∉ ts.filterMap id → (putBack ts ds ρ)[i]? = ρ[i]?
  | some j :: ts, d :: ds, ρ, h => by
    have h1 : i ≠ j ∧ i ∉ ts.filterMap id := by simpa using h
    unfold putBack
    rw [putBack_ne h1.2, get_set, if_neg (Ne.symm h1.1)]
  | none :: ts, _ :: ds, ρ, h => by
    have h1 : i ∉ ts.filterMap id := by simpa using h
    unfold putBack
    exact putBack_ne h1
  | [], _, _, _ => by unfold putBack; rfl
  | some _ :: _, [], _, _ => by unfold putBack; rfl
  | none :: _, [], _, _ => by unfold putBack; rfl
theorem putBack_at {i : Nat} : ∀ {ts : List (Option Nat)} {ds : List D} {ρ : Rho} {j : Nat} {d : D}, (ts.filterMap id).Nodup → ts[j]? = some (some i) → ds[j]? = some d → i < ρ.length → (putBack ts ds ρ)[i]? = some (some (true, d))
  | some k :: ts, d0 :: ds, ρ, 0, d, hn, h1, h2, hl => by
    simp only [List.getElem?_cons_zero, Option.some.injEq] at h1 h2
    subst h1 h2
    have h3 : k ∉ ts.filterMap id := by
      have : (k :: ts.filterMap id).Nodup := by simpa using hn
      exact (List.nodup_cons.mp this).1
    unfold putBack
    rw [putBack_ne h3, get_set, if_pos rfl, if_pos hl]
  | some k :: ts, d0 :: ds, ρ, j + 1, d, hn, h1, h2, hl => by
    have : (k :: ts.filterMap id).Nodup := by simpa using hn
    unfold putBack
    exact putBack_at (List.nodup_cons.mp this).2 (by simpa using h1) (by simpa using h2) (by rw [List.length_set]; exact hl)
  | none :: ts, _ :: ds, ρ, j + 1, d, hn, h1, h2, hl => by
    unfold putBack
    exact putBack_at (by simpa using hn) (by simpa using h1) (by simpa using h2) hl
  | none :: ts, _ :: ds, ρ, 0, d, hn, h1, h2, hl => by simp at h1
  | [], _, _, _, _, _, h1, _, _ => by simp at h1
  | some _ :: _, [], _, _, _, _, _, h2, _ => by simp at h2
  | none :: _, [], _, _, _, _, _, h2, _ => by simp at h2
theorem tagIo_mem : ∀ {ts : List (Option Nat)} {j k : Nat}, k ∈ tagIo ts j ↔ ∃ n i, k = j + n ∧ ts[n]? = some (some i)
  | [], j, k => by simp [tagIo]
  | some i :: ts, j, k => by
    unfold tagIo
    rw [List.mem_cons, tagIo_mem]
    constructor
    · rintro (h | ⟨n, i', h1, h2⟩)
      · exact ⟨0, i, h, rfl⟩
      · exact ⟨n + 1, i', by omega, by simpa using h2⟩
    · rintro ⟨n, i', h1, h2⟩
      cases n with
      | zero => exact .inl h1
      | succ n => exact .inr ⟨n, i', by omega, by simpa using h2⟩
  | none :: ts, j, k => by
    unfold tagIo
    rw [tagIo_mem]
    constructor
    · rintro ⟨n, i', h1, h2⟩
      exact ⟨n + 1, i', by omega, by simpa using h2⟩
    · rintro ⟨n, i', h1, h2⟩
      cases n with
      | zero => simp at h2
      | succ n => exact ⟨n, i', by omega, by simpa using h2⟩
section
variable {X : Cx} {F : Frm} {pos p : Pos}
theorem xc_nil : PA X [] (rdC F [] mNil []) := by
  refine PA.mono pa_nil fun σ H Q ⟨B, A, ρ, ds, ρ', E, hm, k⟩ => ?_
  cases hm
  exact k [] H (Post.refl E) .nil
theorem Tagd.later {B : List Addr} {A : Nat → Addr} {H : Hp} {ρ : Rho} : True := trivial
theorem xc_plain {e : Expr} {es : List Expr} {m : M D} {ms : M (List D)} {ts : List (Option Nat)} {eff1 eff2 : List Nat} (ha : PE X e (rd F m [] eff1)) (hr : PA X es (rdC F ts ms eff2))
    (hs : starEach (e :: es) X.env = (false, eval e X.env) :: starEach es X.env := by rfl) : PA X (e :: es) (rdC F (none :: ts) (mCons m ms) (eff1 ++ eff2)) := by
  refine PA.mono (pa_cons ha hr hs) fun σ H Q ⟨B, A, ρ, ds, ρ2, E, hm, k⟩ => ?_
  obtain ⟨d, ρ1, ds', e1, e2, rfl⟩ := mCons_some hm
  refine ⟨B, A, ρ, d, ρ1, E, e1, fun v1 H1 P1 r1 => ⟨B, A, ρ1, ds', ρ2, P1.env, e2, fun vs H2 P2 r2 => ?_⟩⟩
  exact k _ H2 (P1.trans P2) (.plain (r1.later P2.gro P2.lv (by simp)).plain r2)
def mConsIo (i : Nat) (ms : M (List D)) : M (List D) := fun ρ => match ρ[i]? with
  | some (some (true, _)) => (match ms ρ with
    | some (ds, ρ2) => (match ρ2[i]? with
      | some (some (true, d)) => some (d :: ds, ρ2)
      | _ => none)
    | none => none)
  | _ => none
theorem xc_io {i : Nat} {x : Str} {es : List Expr} {ms : M (List D)} {ts : List (Option Nat)} {eff2 : List Nat} (hN : X.N[i]? = some x) (hv : Vis X.env.scope x) (hr : PA X es (rdC F ts ms eff2))
    (hd : (x == ("__debug__" : Str)) = false := by decide) (hcd : (x == ("__classdict__" : Str)) = false := by decide) (hs : starEach (.Name x p :: es) X.env = (false, eval (.Name x p) X.env) :: starEach es X.env := by rfl) : PA X (.Name x p :: es) (rdC F (some i :: ts) (mConsIo i ms) eff2) := by
  refine PA.mono (pa_cons (pe_var hN hv hd hcd) hr hs) fun σ H Q ⟨B, A, ρ, ds, ρ2, E, hm, k⟩ => ?_
  unfold mConsIo at hm
  split at hm
  · rename_i d0 q0
    split at hm
    · rename_i ds' ρ3 e2
      split at hm
      · rename_i d q
        cases hm
        exact ⟨_, (E.own i d0 q0).1, B, A, _, ds', ρ2, E, e2, fun vs H2 P2 r2 => k _ H2 P2 (.io q r2)⟩
      · cases hm
    · cases hm
  · cases hm
theorem Tagd.at_ {B : List Addr} {A : Nat → Addr} {H : Hp} {ρ : Rho} : ∀ {ts : List (Option Nat)} {vs : List V} {ds : List D}, Tagd F B A ρ H ts vs ds → vs.length = ds.length ∧ ts.length = ds.length ∧ ∀ (j : Nat) (v : V) (d : D), vs[j]? = some v → ds[j]? = some d → (∀ i, ts[j]? = some (some i) → v = .ref (A i) ∧ ρ[i]? = some (some (true, d))) ∧ (ts[j]? = some none → RelD F.K (Av F B A ρ) H v d)
  | _, _, _, .nil => ⟨rfl, rfl, fun j v d h => by simp at h⟩
  | _, _, _, .plain r t => by
    obtain ⟨h1, h2, h3⟩ := Tagd.at_ t
    refine ⟨congrArg (· + 1) h1, congrArg (· + 1) h2, fun j v d a b => ?_⟩
    cases j with
    | zero =>
      simp only [List.getElem?_cons_zero, Option.some.injEq] at a b
      subst a b
      exact ⟨fun i h => by simp at h, fun _ => r⟩
    | succ j => exact h3 j v d (by simpa using a) (by simpa using b) |>.imp (fun h i q => h i (by simpa using q)) fun h q => h (by simpa using q)
  | _, _, _, .io q t => by
    obtain ⟨h1, h2, h3⟩ := Tagd.at_ t
    refine ⟨congrArg (· + 1) h1, congrArg (· + 1) h2, fun j v d a b => ?_⟩
    cases j with
    | zero =>
      simp only [List.getElem?_cons_zero, Option.some.injEq] at a b
      subst a b
      exact ⟨fun i h => by
        simp only [List.getElem?_cons_zero, Option.some.injEq] at h
        subst h
        exact ⟨rfl, q⟩, fun h => by simp at h⟩
    | succ j => exact h3 j v d (by simpa using a) (by simpa using b) |>.imp (fun h i q => h i (by simpa using q)) fun h q => h (by simpa using q)
def tagN (A : Nat → Addr) (ts : List (Option Nat)) (ds : List D) (j : Nat) : Addr := if j < 1000 then (match ts[j]? with
  | some (some i) => A i
  | _ => 0) else match ts[j - 1000]?, ds[j - 1000]? with
  | some (some i), some d => if isBg d = true then A (i + 1000) else A i
  | _, _ => 0
theorem tagN_1 {A : Nat → Addr} {ts : List (Option Nat)} {ds : List D} {j i : Nat} (hl : ts.length ≤ 1000) (h : ts[j]? = some (some i)) : tagN A ts ds j = A i := by
  have hj := (List.getElem?_eq_some_iff.mp h).1
  unfold tagN
  rw [if_pos (by omega), h]
theorem tagN_2 {A : Nat → Addr} {ts : List (Option Nat)} {ds : List D} {j i : Nat} {d : D} (h : ts[j]? = some (some i)) (hd : ds[j]? = some d) : tagN A ts ds (j + 1000) = if isBg d = true then A (i + 1000) else A i := by
  unfold tagN
  rw [if_neg (by omega), Nat.add_sub_cancel, h, hd]
theorem tagN_pt {A : Nat → Addr} {ts : List (Option Nat)} {ds : List D} {j i : Nat} {d : D} {a : Addr} (hl : ts.length ≤ 1000) (h : ts[j]? = some (some i)) (hd : ds[j]? = some d) (p : a = tagN A ts ds j ∨ a = tagN A ts ds (j + 1000)) : Pt A i d a := by
  rw [tagN_1 hl h, tagN_2 h hd] at p
  rcases p with p | p
  · exact .inl p
  · split at p
    · rename_i hb
      exact .inr ⟨hb, p⟩
    · exact .inl p
theorem tagN_own {K : PySem.W.Frag} {S : Addr → Prop} {H : Hp} {A : Nat → Addr} {ts : List (Option Nat)} {ds : List D} {j i : Nat} {d : D} (hl : ts.length ≤ 1000) (h : ts[j]? = some (some i)) (hd : ds[j]? = some d) (r : Own K S H A i d) : Own K S H (tagN A ts ds) j d :=
  r.at_ (tagN_1 hl h) fun hb => by rw [tagN_2 h hd, if_pos hb]
theorem tagN_back {K : PySem.W.Frag} {S : Addr → Prop} {H : Hp} {A : Nat → Addr} {ts : List (Option Nat)} {ds : List D} {j i : Nat} {d d' : D} (hl : ts.length ≤ 1000) (h : ts[j]? = some (some i)) (hd : ds[j]? = some d) (r : Own K S H (tagN A ts ds) j d') : (isBg d' = true → isBg d = true) ∧ Own K S H A i d' := by
  have k : isBg d' = true → isBg d = true := fun hb => by
    cases q : isBg d with
    | true => rfl
    | false =>
      cases d' with
      | tuple xs =>
        have r : BagAt K S H (tagN A ts ds j) (tagN A ts ds (j + 1000)) xs := r
        refine absurd ?_ r.ne
        rw [tagN_1 hl h, tagN_2 h hd, q, if_neg (by decide)]
      | _ => cases hb
  exact ⟨k, r.at_ (tagN_1 hl h).symm fun hb => by rw [tagN_2 h hd, if_pos (k hb)]⟩
theorem call_spD {f : List D → Option (D × List D)} {ts : List (Option Nat)} {n : Nat} {B : List Addr} {A : Nat → Addr} {σ : L2.St} {H H1 : Hp} {ρ ρ1 : Rho} {eff : List Nat} {ds ds' : List D} {r : D} {vs : List V} {Q : VK} {E0 : XK} (hnd : (ts.filterMap id).Nodup) (P1 : Post F B A σ H ρ eff H1 ρ1) (tg : Tagd F B A ρ1 H1 ts vs ds) (hn : ts.length = n) (hf : f ds = some (r, ds')) (hl : ds'.length = ds.length) (hts : ts.length ≤ 1000)
    (k : ∀ v H', Post F B A σ H ρ (eff ++ ts.filterMap id) H' (putBack ts ds' ρ1) → RelD F.K (Av F B A (putBack ts ds' ρ1)) H' v r → Q v H') : spD F.K F.T (tagIo ts 0) n f vs H1 Q E0 := by
  obtain ⟨h1, h2, h3⟩ := tg.at_
  have io_ : ∀ {j : Nat}, j ∈ tagIo ts 0 → ∃ i, ts[j]? = some (some i) := fun h => by
    obtain ⟨n, i, e, q⟩ := tagIo_mem.mp h
    rw [Nat.zero_add] at e
    exact ⟨i, e ▸ q⟩
  have io' : ∀ {j i : Nat}, ts[j]? = some (some i) → j ∈ tagIo ts 0 := fun {j i} h => tagIo_mem.mpr ⟨j, i, by omega, h⟩
  have dat : ∀ {j i : Nat}, ts[j]? = some (some i) → ∃ d, ds[j]? = some d ∧ ρ1[i]? = some (some (true, d)) := fun {j i} h => by
    have hj : j < ds.length := by rw [← h2]; exact (List.getElem?_eq_some_iff.mp h).1
    have hv : j < vs.length := by omega
    exact ⟨ds[j], by simp [hj], ((h3 j vs[j] ds[j] (by simp [hv]) (by simp [hj])).1 i h).2⟩
  have memI : ∀ {i : Nat}, i ∈ ts.filterMap id → ∃ j, ts[j]? = some (some i) := fun {i} h => by
    obtain ⟨o, ho, e⟩ := List.mem_filterMap.mp h
    obtain ⟨j, hj, e2⟩ := List.getElem_of_mem ho
    refine ⟨j, ?_⟩
    rw [List.getElem?_eq_getElem hj, e2]
    exact congrArg some e
  have I' : ∀ {j i : Nat}, ts[j]? = some (some i) → i ∈ ts.filterMap id := fun {j i} h => List.mem_filterMap.mpr ⟨some i, List.mem_of_getElem? h, rfl⟩
  have hI : ∀ i ∈ ts.filterMap id, ∃ d : D, ρ1[i]? = some (some (true, d)) := fun i hi => by
    obtain ⟨j, hj⟩ := memI hi
    obtain ⟨d, _, q⟩ := dat hj
    exact ⟨d, q⟩
  refine ⟨Av F B A ρ1, tagN A ts ds, ds, r, ds', hf, by omega, by omega, ⟨h1, fun j v d a b => ⟨fun hj => ?_, fun hj => ?_⟩, fun j hj => ?_, fun a ha b hb da db x hda hdb z1 z2 => ?_⟩, P1.env.occA, P1.env.tabs, fun v H' g hio rv => ?_⟩
  · obtain ⟨i, hi⟩ := io_ hj
    obtain ⟨e1, e2⟩ := (h3 j v d a b).1 i hi
    exact ⟨by rw [tagN_1 hts hi]; exact e1, tagN_own hts hi b (P1.env.own i d e2).2⟩
  · refine (h3 j v d a b).2 ?_
    have hj2 : j < ts.length := by rw [h2]; exact (List.getElem?_eq_some_iff.mp b).1
    cases q : ts[j] with
    | none => rw [List.getElem?_eq_getElem hj2, q]
    | some i => exact absurd (io' (by rw [List.getElem?_eq_getElem hj2, q])) hj
  · obtain ⟨i, hi⟩ := io_ hj
    obtain ⟨d, e1, e2⟩ := dat hi
    exact ⟨d, e1, fun a z => .inr (.inr ⟨i, d, e2, tagN_pt hts hi e1 (Or.imp id (fun z => z.2) z)⟩)⟩
  · obtain ⟨i, hi⟩ := io_ ha
    obtain ⟨i', hi'⟩ := io_ hb
    obtain ⟨d, e1, e2⟩ := dat hi
    obtain ⟨d', e1', e2'⟩ := dat hi'
    rw [hda] at e1
    cases e1
    rw [hdb] at e1'
    cases e1'
    have e := P1.env.inj i i' da db x e2 e2' (tagN_pt hts hi hda (Or.imp id (fun z => z.2) z1)) (tagN_pt hts hi' hdb (Or.imp id (fun z => z.2) z2))
    subst e
    -- the same slot stands at one place alone
    have uniq : ∀ {ts : List (Option Nat)} {a b : Nat}, (ts.filterMap id).Nodup → ts[a]? = some (some i) → ts[b]? = some (some i) → a = b := by
      intro ts
      induction ts with
      | nil => intro a b _ h; simp at h
      | cons o ts ih =>
        intro a b hn ha hb
        cases o with
        | none =>
          have hn : (ts.filterMap id).Nodup := by simpa using hn
          cases a with
          | zero => simp at ha
          | succ a => cases b with
            | zero => simp at hb
            | succ b => exact congrArg (· + 1) (ih hn (by simpa using ha) (by simpa using hb))
        | some k =>
          have hn : (k :: ts.filterMap id).Nodup := by simpa using hn
          obtain ⟨hk, hn⟩ := List.nodup_cons.mp hn
          have no : ∀ {b : Nat}, ts[b]? = some (some k) → False := fun h => hk (List.mem_filterMap.mpr ⟨some k, List.mem_of_getElem? h, rfl⟩)
          cases a with
          | zero =>
            simp only [List.getElem?_cons_zero, Option.some.injEq] at ha
            subst ha
            cases b with
            | zero => rfl
            | succ b => exact (no (by simpa using hb)).elim
          | succ a => cases b with
            | zero =>
              simp only [List.getElem?_cons_zero, Option.some.injEq] at hb
              subst hb
              exact (no (by simpa using ha)).elim
            | succ b => exact congrArg (· + 1) (ih hn (by simpa using ha) (by simpa using hb))
    exact uniq hnd hi hi'
  · have g' : Gro (fun a => ∃ i ∈ ts.filterMap id, ∃ d, ρ1[i]? = some (some (true, d)) ∧ Pt A i d a) H1 H' := g.mono fun a ⟨j, hj, z⟩ => by
      obtain ⟨i, hi⟩ := io_ hj
      obtain ⟨d, e1, e2⟩ := dat hi
      exact ⟨i, I' hi, d, e2, tagN_pt hts hi e1 z⟩
    have P2 : Post F B A σ H1 ρ1 (ts.filterMap id) H' (putBack ts ds' ρ1) := P1.env.writes hI g' putBack_len (fun i hi => putBack_ne hi) fun i hi => by
      obtain ⟨j, hj⟩ := memI hi
      obtain ⟨d, e1, e2⟩ := dat hj
      have hjl : j < ds'.length := by rw [hl]; exact (List.getElem?_eq_some_iff.mp e1).1
      have R := tagN_back hts hj e1 (hio j (io' hj) ds'[j] (by simp [hjl]))
      exact ⟨ds'[j], d, e2, R.1, putBack_at hnd hj (by simp [hjl]) (List.getElem?_eq_some_iff.mp e2).1, R.2⟩
    exact k v H' (P1.trans P2) (rv.mono (C := fun _ => False) (Gro.refl _) (fun a z => P2.lv.av z) fun _ z => z.elim)
theorem x_call {k : Nat} {f : Addr} {fd : FuncData} {ps : List Str} {x : Str} {e : Expr} {es : List Expr} {fn : List D → Option (D × List D)} {ts : List (Option Nat)} {m : M (List D)} {eff : List Nat} (Fn : FnOk X.prog X.w X.K X.mg X.base CX0 k f fd ps (spD F.K F.T (tagIo ts 0) ps.length fn)) (hr : Room k X.A) (hg : Gl X x) (hm : X.mg x = some (.ref f)) (hk : PySem.W.keepIn X.K (.ref f) = true) (hb : Binds X.K fd ps [])
    (ha : PA X (e :: es) (rdC F ts m eff)) (hlen : ts.length = ps.length := by rfl) (hnd : (ts.filterMap id).Nodup := by decide) (hts : ts.length ≤ 1000 := by decide)
    (hdb : (x == ("__debug__" : Str)) = false := by decide) (he : starEach (e :: es) X.env = (false, eval e X.env) :: starEach es X.env := by rfl) (hpl : (backTo pos (starEach es X.env)).any (·.1) = false := by rfl) :
    PE X (.Call (.Name x p) (e :: es) [] pos) (rd F (mCall fn ts m) [] (eff ++ ts.filterMap id)) := by
  refine PE.mono (pe_call Fn hr hg hm hk hb .nil pass0 ha hdb he hpl) fun σ H Q ⟨B, A, ρ, r, ρ', E, hm, kq⟩ => ?_
  unfold mCall at hm
  split at hm
  · rename_i ds ρ1 e1
    split at hm
    · rename_i r' ds' e2
      split at hm
      · rename_i hl
        cases hm
        refine ⟨B, A, ρ, ds, ρ1, E, e1, fun vs H1 P1 tg => ?_⟩
        show spD F.K F.T (tagIo ts 0) ps.length fn (vs ++ []) H1 Q _
        rw [List.append_nil]
        exact call_spD hnd P1 tg hlen e2 hl hts fun v H' P r => kq v H' P (.inl r)
      · cases hm
    · cases hm
  · cases hm
end
end PD
set_option Elab.async false
set_option linter.all false
set_option maxRecDepth 100000
set_option maxHeartbeats 2000000
namespace PD
open PySem PySem.Spec PyProof.Rows L2 GxR GenX OwnK
section
variable {X : Cx} {F : Frm} {pos p : Pos}
theorem s_retOwn {i : Nat} {x : Str} (hN : X.N[i]? = some x) (hv : Vis X.env.scope x) (hio : i ∉ F.io := by decide) (hnw : F.new = true := by rfl) (hd : (x == ("__debug__" : Str)) = false := by decide) (hcd : (x == ("__classdict__" : Str)) = false := by decide) :
    PS X (.Return (some (.Name x p)) pos) (rdS F (mRet (mOwn i))) := PS.mono (ps_ret (pe_var hN hv hd hcd)) fun Dn σ H ⟨A, ρ, out, E, hm, k⟩ => by
  unfold mRet at hm
  cases q : mOwn i ρ with
  | none => rw [q] at hm; cases hm
  | some r =>
    rw [q] at hm
    cases hm
    unfold mOwn at q
    split at q
    · rename_i d q'
      split at q
      · cases q
      · rename_i hb
        cases q
        obtain ⟨h1, h2⟩ := E.own i d q'
        exact ⟨_, h1, k A σ _ H E (.fresh hnw E (E.nS i d _ q' .self hio).2.2 (.inr (.inr ⟨i, d, q', .self⟩)) (h2.relO (by simpa using hb)))⟩
    · cases q
end
def spN (K : PySem.W.Frag) (T : List Addr) (io : List Nat) (n : Nat) (f : List D → Option (D × List D)) : Sp := fun vs H Q _ => ∃ S A0 ds r ds', f ds = some (r, ds') ∧ ds.length = n ∧ ds'.length = n ∧ ArgsOk K S io A0 H vs ds ∧ (∀ a, S a → H a ≠ none) ∧ (∀ P ∈ T, TabN H P) ∧
  ∀ p H', Gro (fun a => ∃ j ∈ io, a = A0 j ∨ a = A0 (j + 1000)) H H' → (∀ j ∈ io, ∀ d', ds'[j]? = some d' → Own K (fun a => S a ∨ a = p) H' A0 j d') → H p = none → RelO K (fun a => S a ∨ a = p) H' p r → Q (.ref p) H'
theorem spN_len {K : PySem.W.Frag} {T : List Addr} {io : List Nat} {n : Nat} {f : List D → Option (D × List D)} (vs : List V) (H : Hp) (Q : VK) (E : XK) (h : spN K T io n f vs H Q E) : vs.length = n := by
  obtain ⟨S, A0, ds, r, ds', _, h1, _, h2, _⟩ := h
  rw [h2.len, h1]
def runN (n : Nat) (io : List Nat) (mb : MS) (ds : List D) : Option (D × List D) := match mb (startR io n ds) with
  | some (.rt d ρ) => some (d, backR ρ ds.length)
  | _ => none
section
variable {P : Program} {w : World} {K : PySem.W.Frag} {mg : Str → Option Value} {base : Heap}
theorem okN {x qual : Str} {st : Stmt} {f c : Addr} {fd : FuncData} {N ps : List Str} {k : Nat} {T : List Addr} {io : List Nat} {mb : MS} (F : FunC K x qual st f fd c) (Sc : FnScope N ps (defScope st))
    (hbody : ∀ (A : Around) (outer : List Env) (s : Shared) (H : Hp) (E : XK) (S : Addr → Prop) (A0 : Nat → Addr), Room k (A.deeper (envOfC qual (defScope st) s.heap.objs.size f (.ref c))) →
      PSs (cxOf CX0 P w K mg base N qual (defScope st) f (.ref c) A outer s H E).nox (defBody st) (rdS ⟨K, S, io, T, H, A0, [], true⟩ mb)) (hN : ps.length ≤ N.length ∧ N.length ≤ 1000 := by decide) :
    FnOk P w K mg base CX0 (k + 1) f fd ps (spN K T io ps.length (runN N.length io mb)) := by
  obtain ⟨oc, od, kV, doc, pm, an, ct, osl, rfl, lk, hcd⟩ := F.ex
  refine fn_of lk hcd Sc spN_len fun A outer s H vs Q E hr hsp => ?_
  obtain ⟨S, A0, ds, r, ds', hf, hn, hn', ha, occ, tabs, k⟩ := hsp
  refine ⟨_, (hbody A outer s H E S A0 hr).nox, A0, startR io N.length ds, ?_⟩
  have hfl : (startR io N.length ds).length ≤ 1000 := by
    unfold startR
    rw [List.length_append, ioR_len, List.length_replicate]
    omega
  unfold runN at hf
  split at hf
  · rename_i d ρ' e
    cases hf
    refine ⟨.rt r ρ', ev_start ha occ tabs hfl true, e, fun A' σ' v H' E' r' => ?_⟩
    obtain ⟨p, rfl, h0, r2, rio⟩ := (show ∃ p, v = .ref p ∧ H p = none ∧ RelO K (fun a => S a ∨ a = p) H' p r ∧ ∀ j ∈ io, ∀ d', ρ'[j]? = some (some (true, d')) → Own K (fun a => S a ∨ a = p) H' A0 j d' from r')
    refine k p H' E'.chg (fun j hj d' hd => ?_) h0 r2
    obtain ⟨e, h4, _⟩ := E'.ios j hj
    obtain ⟨b, h5⟩ := back_get hd ⟨true, e, h4⟩
    rw [h4] at h5
    cases h5
    exact rio j hj d' h4
  · cases hf
end
theorem gro_laid {C : Addr → Prop} {H1 H' : Hp} {p : Addr} {o : HO} (g : Gro C H1 H') (hp : H' p = some o) (hn : ∀ ps, o ≠ .tbl ps) (hc : ∀ c q, o ≠ LamX.CodeO c q := by (intro c q z; first | exact PD.TDict.noCode z | (unfold LamX.CodeO at z; cases z))) : Gro C (upd H1 p o) H' := by
  have back : ∀ b u, u ≠ o → upd H1 p o b = some u → H1 b = some u := fun b u hu h => by
    rwa [upd_ne (fun e => hu (by rw [e, upd_same] at h; exact (Option.some.inj h).symm))] at h
  refine ⟨fun a o' h n t => ?_, fun P t => g.tabs P (tabN_mv t (fun ps => back _ _ fun z => hn ps z.symm) fun c q => back _ _ fun z => hc c q z.symm), fun a h => ?_⟩
  · by_cases e : a = p
    · subst e
      rw [upd_same] at h
      cases h
      exact hp
    · rw [upd_ne e] at h
      exact g.keep a o' h n t
  · by_cases e : a = p
    · subst e; rw [hp]; simp
    · rw [upd_ne e] at h
      exact g.live a h
theorem io_some {ts : List (Option Nat)} {j : Nat} (h : j ∈ tagIo ts 0) : ∃ i, ts[j]? = some (some i) := by
  obtain ⟨n, i, e, q⟩ := tagIo_mem.mp h
  rw [Nat.zero_add] at e
  exact ⟨i, e ▸ q⟩
theorem io_of {ts : List (Option Nat)} {j i : Nat} (h : ts[j]? = some (some i)) : j ∈ tagIo ts 0 := tagIo_mem.mpr ⟨j, i, by omega, h⟩
theorem tag_of {ts : List (Option Nat)} {i : Nat} (hi : i ∈ ts.filterMap id) : ∃ j : Nat, ts[j]? = some (some i) := by
  obtain ⟨o, ho, e⟩ := List.mem_filterMap.mp hi
  obtain ⟨j, hj, e2⟩ := List.getElem_of_mem ho
  exact ⟨j, by rw [List.getElem?_eq_getElem hj, e2]; exact congrArg some e⟩
theorem call_back {ts : List (Option Nat)} {B : List Addr} {A : Nat → Addr} {σ : L2.St} {H H' : Hp} {ρ : Rho} {F : Frm} {ds ds' : List D} (hnd : (ts.filterMap id).Nodup) (E : Ev F B A σ H ρ) (dat : ∀ {j i : Nat}, ts[j]? = some (some i) → ∃ d, ds[j]? = some d ∧ ρ[i]? = some (some (true, d))) (hl : ds'.length = ds.length) (hts : ts.length ≤ 1000)
    (g : Gro (fun a => ∃ j ∈ tagIo ts 0, a = tagN A ts ds j ∨ a = tagN A ts ds (j + 1000)) H H') (hio : ∀ j ∈ tagIo ts 0, ∀ d', ds'[j]? = some d' → Own F.K (Av F B A ρ) H' (tagN A ts ds) j d') : Post F B A σ H ρ (ts.filterMap id) H' (putBack ts ds' ρ) := by
  have hI : ∀ i ∈ ts.filterMap id, ∃ d : D, ρ[i]? = some (some (true, d)) := fun i hi => by
    obtain ⟨j, hj⟩ := tag_of hi
    obtain ⟨d, _, q⟩ := dat hj
    exact ⟨d, q⟩
  refine E.writes hI (g.mono fun a ⟨j, hj, z⟩ => ?_) putBack_len (fun i hi => putBack_ne hi) fun i hi => ?_
  · obtain ⟨i, hi⟩ := io_some hj
    obtain ⟨d, e1, e2⟩ := dat hi
    exact ⟨i, List.mem_filterMap.mpr ⟨some i, List.mem_of_getElem? hi, rfl⟩, d, e2, tagN_pt hts hi e1 z⟩
  · obtain ⟨j, hj⟩ := tag_of hi
    obtain ⟨d, e1, e2⟩ := dat hj
    have hjl : j < ds'.length := by rw [hl]; exact (List.getElem?_eq_some_iff.mp e1).1
    have R := tagN_back hts hj e1 (hio j (io_of hj) ds'[j] (by simp [hjl]))
    exact ⟨ds'[j], d, e2, R.1, putBack_at hnd hj (by simp [hjl]) (List.getElem?_eq_some_iff.mp e2).1, R.2⟩
theorem tag_uniq {i : Nat} : ∀ {ts : List (Option Nat)} {a b : Nat}, (ts.filterMap id).Nodup → ts[a]? = some (some i) → ts[b]? = some (some i) → a = b
  | [], a, _, _, h, _ => by simp at h
  | none :: ts, a, b, hn, ha, hb => by
    have hn : (ts.filterMap id).Nodup := by simpa using hn
    cases a with
    | zero => simp at ha
    | succ a => cases b with
      | zero => simp at hb
      | succ b => exact congrArg (· + 1) (tag_uniq hn (by simpa using ha) (by simpa using hb))
  | some k :: ts, a, b, hn, ha, hb => by
    have hn : (k :: ts.filterMap id).Nodup := by simpa using hn
    obtain ⟨hk, hn⟩ := List.nodup_cons.mp hn
    have no : ∀ {b : Nat}, ts[b]? = some (some k) → False := fun h => hk (List.mem_filterMap.mpr ⟨some k, List.mem_of_getElem? h, rfl⟩)
    cases a with
    | zero =>
      simp only [List.getElem?_cons_zero, Option.some.injEq] at ha
      subst ha
      cases b with
      | zero => rfl
      | succ b => exact (no (by simpa using hb)).elim
    | succ a => cases b with
      | zero =>
        simp only [List.getElem?_cons_zero, Option.some.injEq] at hb
        subst hb
        exact (no (by simpa using ha)).elim
      | succ b => exact congrArg (· + 1) (tag_uniq hn (by simpa using ha) (by simpa using hb))
theorem call_args {ts : List (Option Nat)} {B : List Addr} {A : Nat → Addr} {σ : L2.St} {H : Hp} {ρ : Rho} {F : Frm} {ds : List D} {vs : List V} (hnd : (ts.filterMap id).Nodup) (E : Ev F B A σ H ρ) (tg : Tagd F B A ρ H ts vs ds) (hts : ts.length ≤ 1000) :
    ArgsOk F.K (Av F B A ρ) (tagIo ts 0) (tagN A ts ds) H vs ds ∧ ts.length = ds.length ∧ ∀ {j i : Nat}, ts[j]? = some (some i) → ∃ d, ds[j]? = some d ∧ ρ[i]? = some (some (true, d)) := by
  obtain ⟨h1, h2, h3⟩ := tg.at_
  have dat : ∀ {j i : Nat}, ts[j]? = some (some i) → ∃ d, ds[j]? = some d ∧ ρ[i]? = some (some (true, d)) := fun {j i} h => by
    have hj : j < ds.length := by rw [← h2]; exact (List.getElem?_eq_some_iff.mp h).1
    have hv : j < vs.length := by omega
    exact ⟨ds[j], by simp [hj], ((h3 j vs[j] ds[j] (by simp [hv]) (by simp [hj])).1 i h).2⟩
  refine ⟨⟨h1, fun j v d a b => ⟨fun hj => ?_, fun hj => ?_⟩, fun j hj => ?_, fun a ha b hb da db x hda hdb z1 z2 => ?_⟩, h2, dat⟩
  · obtain ⟨i, hi⟩ := io_some hj
    obtain ⟨e1, e2⟩ := (h3 j v d a b).1 i hi
    exact ⟨by rw [tagN_1 hts hi]; exact e1, tagN_own hts hi b (E.own i d e2).2⟩
  · refine (h3 j v d a b).2 ?_
    have hj2 : j < ts.length := by rw [h2]; exact (List.getElem?_eq_some_iff.mp b).1
    cases q : ts[j] with
    | none => rw [List.getElem?_eq_getElem hj2, q]
    | some i => exact absurd (io_of (by rw [List.getElem?_eq_getElem hj2, q])) hj
  · obtain ⟨i, hi⟩ := io_some hj
    obtain ⟨d, e1, e2⟩ := dat hi
    exact ⟨d, e1, fun a z => .inr (.inr ⟨i, d, e2, tagN_pt hts hi e1 (Or.imp id (fun z => z.2) z)⟩)⟩
  · obtain ⟨i, hi⟩ := io_some ha
    obtain ⟨i', hi'⟩ := io_some hb
    obtain ⟨d, e1, e2⟩ := dat hi
    obtain ⟨d', e1', e2'⟩ := dat hi'
    rw [hda] at e1
    cases e1
    rw [hdb] at e1'
    cases e1'
    have e := E.inj i i' da db x e2 e2' (tagN_pt hts hi hda (Or.imp id (fun z => z.2) z1)) (tagN_pt hts hi' hdb (Or.imp id (fun z => z.2) z2))
    subst e
    exact tag_uniq hnd hi hi'
theorem call_spN {f : List D → Option (D × List D)} {ts : List (Option Nat)} {n : Nat} {F : Frm} {B : List Addr} {A : Nat → Addr} {σ : L2.St} {H H1 : Hp} {ρ ρ1 : Rho} {eff : List Nat} {ds ds' : List D} {r : D} {vs : List V} {Q : VK} {E0 : XK} (hnd : (ts.filterMap id).Nodup) (P1 : Post F B A σ H ρ eff H1 ρ1) (tg : Tagd F B A ρ1 H1 ts vs ds) (hn : ts.length = n) (hf : f ds = some (r, ds')) (hl : ds'.length = ds.length) (hts : ts.length ≤ 1000)
    (k : ∀ p H', Post F B A σ H ρ (eff ++ ts.filterMap id) H' (putBack ts ds' ρ1) → Ev F (p :: B) A σ H' (putBack ts ds' ρ1) → (p ∉ B ∧ H p = none) → RelO F.K (Av F (p :: B) A (putBack ts ds' ρ1)) H' p r → Q (.ref p) H') : spN F.K F.T (tagIo ts 0) n f vs H1 Q E0 := by
  obtain ⟨ha, h2, dat⟩ := call_args hnd P1.env tg hts
  refine ⟨Av F B A ρ1, tagN A ts ds, ds, r, ds', hf, by omega, by omega, ha, P1.env.occA, P1.env.tabs, fun p H' g hio hp rv => ?_⟩
  have hS : ∀ {z : List Addr} {ρ' : Rho} {e : List Nat}, Lv e ρ1 ρ' → ∀ a, Av F (p :: B) A ρ' a → Av F B A ρ1 a ∨ a = p := fun l a z => (av_cons a z).imp_left fun z => l.av z
  have hio2 : ∀ j ∈ tagIo ts 0, ∀ d', ds'[j]? = some d' → Own F.K (Av F B A ρ1) H' (tagN A ts ds) j d' := fun j hj d' hd => (hio j hj d' hd).mono (C := fun _ => False) (Gro.refl _) (fun a z => .inl z) (fun _ z => z.elim) fun _ _ => id
  have P2 := call_back hnd P1.env dat hl hts g hio2
  have rs := rv.some
  cases ho : H' p with
  | none => exact absurd ho rs
  | some o =>
    have E2 : Ev F (p :: B) A σ (L2.upd H1 p o) ρ1 := P1.env.hide hp (Ext.new hp) (by rw [upd_same]; simp)
    have P3 := call_back hnd E2 dat hl hts (gro_laid g ho (let ⟨u, e, _, t⟩ := rv.mut; fun ps z => t ps (Option.some.inj (e.symm.trans (ho.trans (congrArg some z))))) (rv.noCode ho)) fun j hj d' hd => (hio j hj d' hd).mono (C := fun _ => False) (Gro.refl _) (fun a z => av_cons a z) (fun _ z => z.elim) fun _ _ => id
    exact k p H' (P1.trans P2) P3.env ⟨fun z => (P1.env.occB p z).1 hp, P1.gro.back hp⟩ (rv.mono (C := fun _ => False) (Gro.refl _) (fun a z => (av_cons a z).imp_left fun z => P2.lv.av z) (fun _ z => z.elim) id)
section
variable {X : Cx} {F : Frm} {pos p : Pos}
theorem x_callN {k : Nat} {f : Addr} {fd : FuncData} {ps : List Str} {x : Str} {e : Expr} {es : List Expr} {fn : List D → Option (D × List D)} {ts : List (Option Nat)} {m : M (List D)} {eff : List Nat} (Fn : FnOk X.prog X.w X.K X.mg X.base CX0 k f fd ps (spN F.K F.T (tagIo ts 0) ps.length fn)) (hr : Room k X.A) (hg : Gl X x) (hm : X.mg x = some (.ref f)) (hk : PySem.W.keepIn X.K (.ref f) = true) (hb : Binds X.K fd ps [])
    (ha : PA X (e :: es) (rdC F ts m eff)) (hlen : ts.length = ps.length := by rfl) (hnd : (ts.filterMap id).Nodup := by decide) (hts : ts.length ≤ 1000 := by decide)
    (hdb : (x == ("__debug__" : Str)) = false := by decide) (he : starEach (e :: es) X.env = (false, eval e X.env) :: starEach es X.env := by rfl) (hpl : (backTo pos (starEach es X.env)).any (·.1) = false := by rfl) :
    PE X (.Call (.Name x p) (e :: es) [] pos) (rdN F (mCall fn ts m) (eff ++ ts.filterMap id)) := by
  refine PE.mono (pe_call Fn hr hg hm hk hb .nil pass0 ha hdb he hpl) fun σ H Q ⟨B, A, ρ, r, ρ', E, hm, kq⟩ => ?_
  unfold mCall at hm
  split at hm
  · rename_i ds ρ1 e1
    split at hm
    · rename_i r' ds' e2
      split at hm
      · rename_i hl
        cases hm
        refine ⟨B, A, ρ, ds, ρ1, E, e1, fun vs H1 P1 tg => ?_⟩
        show spN F.K F.T (tagIo ts 0) ps.length fn (vs ++ []) H1 Q _
        rw [List.append_nil]
        exact call_spN hnd P1 tg hlen e2 hl hts fun p H' P E' hp r => kq p H' P E' hp r
      · cases hm
    · cases hm
  · cases hm
end
end PD
set_option Elab.async false
set_option linter.all false
set_option maxRecDepth 100000
set_option maxHeartbeats 2000000
namespace PD
open PySem PySem.Spec PyProof.Rows L2 GxR GenX OwnK
section
variable {X : Cx} {F : Frm} {pos p : Pos} {K : PySem.W.Frag}
def mUn (g : D → Option D) (m : M D) : M D := fun ρ => match m ρ with
  | some (d, ρ1) => (match g d with
    | some r => some (r, ρ1)
    | none => none)
  | none => none
theorem mUn_some {g : D → Option D} {m : M D} {ρ ρ1 : Rho} {r : D} (h : mUn g m ρ = some (r, ρ1)) : ∃ d, m ρ = some (d, ρ1) ∧ g d = some r := by
  unfold mUn at h
  split at h
  · rename_i d ρ2 e1
    split at h
    · rename_i r' e2
      cases h
      exact ⟨d, e1, e2⟩
    · cases h
  · cases h
def gNeg : D → Option D
  | .int i => some (.int (-i))
  | _ => none
theorem x_neg {a : Expr} {m : M D} {dep eff : List Nat} (ha : PE X a (rd F m dep eff)) : PE X (.UnaryOp .USub a pos) (rd F (mUn gNeg m) [] eff) := by
  refine PE.mono (pe_un un_neg ha) fun σ H Q ⟨B, A, ρ, d, ρ1, E, hm, k⟩ => ?_
  obtain ⟨d1, e1, e2⟩ := mUn_some hm
  unfold gNeg at e2
  split at e2
  · cases e2
    exact ⟨B, A, ρ, _, ρ1, E, e1, fun v H1 P r => ⟨_, (r.rr P.env).int, k _ H1 P (.inl (.int _))⟩⟩
  · cases e2
instance {i j : Int} : Decidable (CPow i j) := inferInstanceAs (Decidable (_ ∧ _ ∧ _))
def gPow : D → D → Option D
  | .int i, .int j => if CPow i j then some (.int (i ^ j.toNat)) else none
  | _, _ => none
theorem o_pow : OpR X (binaryOp .Pow) (rop K gPow) := by
  intro pins s σ H x y v u Q I rx ry ⟨S, d1, d2, d, r1, r2, e, occ, k⟩
  unfold gPow at e
  split at e
  · split at e
    · rename_i hc
      cases e
      exact op_pow pins s σ H x y v u Q I rx ry ⟨_, _, r1.int, r2.int, hc, k _ H (Ext.refl H) (.int _)⟩
    · cases e
  · cases e
def mChain (g g' : D → D → Option D) (ma mb mc : M D) : M D := fun ρ => match ma ρ with
  | some (a, ρ1) => (match mb ρ1 with
    | some (b, ρ2) => (match g a b with
      | some (.bool true) => (match mc ρ2 with
        | some (c, ρ3) => (match g' b c with
          | some d => some (d, ρ3)
          | none => none)
        | none => none)
      | some (.bool false) => some (.bool false, ρ2)
      | _ => none)
    | none => none)
  | none => none
def gsNil : List D → Rho → Option Rho
  | [], ρ => some ρ
  | _, _ => none
def gsCons (g : D → Rho → Option Rho) (gs : List D → Rho → Option Rho) : List D → Rho → Option Rho
  | d :: ds, ρ => (match g d ρ with
    | some ρ1 => gs ds ρ1
    | none => none)
  | _, _ => none
def gTupT (n : Nat) (gs : List D → Rho → Option Rho) : D → Rho → Option Rho
  | .tuple ds, ρ => if ds.length = n then gs ds ρ else none
  | _, _ => none
theorem gsCons_some {g : D → Rho → Option Rho} {gs : List D → Rho → Option Rho} {d : D} {ds : List D} {ρ ρ' : Rho} (h : gsCons g gs (d :: ds) ρ = some ρ') : ∃ ρ1, g d ρ = some ρ1 ∧ gs ds ρ1 = some ρ' := by
  have h : (match g d ρ with | some ρ1 => gs ds ρ1 | none => none) = some ρ' := h
  split at h
  · rename_i ρ1 e1; exact ⟨ρ1, e1, h⟩
  · cases h
theorem RelDs.inv {K : PySem.W.Frag} {S : Addr → Prop} {H : Hp} {us : List V} {d : D} {ds : List D} (r : RelDs K S H us (d :: ds)) : ∃ v r, us = v :: r ∧ RelD K S H v d ∧ RelDs K S H r ds := by
  cases r with
  | cons a b => exact ⟨_, _, rfl, a, b⟩
theorem RelDs.inv0 {K : PySem.W.Frag} {S : Addr → Prop} {H : Hp} {us : List V} (r : RelDs K S H us []) : us = [] := by cases r; rfl
theorem av_keep {B : List Addr} {A : Nat → Addr} {ρ ρ' : Rho} (h : ∀ (i : Nat) (e : D), ρ'[i]? = some (some (true, e)) → ∃ e0 : D, ρ[i]? = some (some (true, e0)) ∧ (isBg e = true → isBg e0 = true)) : ∀ a, Av F B A ρ' a → Av F B A ρ a := fun a z => by
  rcases z with z | z | ⟨i, d, e, z⟩
  · exact .inl z
  · exact .inr (.inl z)
  · obtain ⟨e0, q, k⟩ := h i d e
    exact .inr (.inr ⟨i, e0, q, z.imp k⟩)
def mPar (i j : Nat) (m : M (List D)) : MS := fun ρ => match m ρ with
  | some ([d1, d2], ρ1) => if i < ρ1.length ∧ j < ρ1.length then some (.nx ((ρ1.set i (some (false, d1))).set j (some (false, d2)))) else none
  | _ => none
def rdWs (F : Frm) (vs : List Nat) (m : List D → Rho → Option Rho) : TGs := fun us σ H Q => ∃ B A ρ ds ρ', Ev F B A σ H ρ ∧ RelDs F.K (Av F B A ρ) H us ds ∧ m ds ρ = some ρ' ∧ ∀ σ' H', Ev F B A σ' H' ρ' → Gro (fun _ => False) H H' → L2.wipe σ' vs = L2.wipe σ vs → Lv vs ρ ρ' → Q σ' H'
variable {vs : List Nat}
theorem gs_nilW : PGs X [] (rdWs F vs gsNil) := ⟨fun pins s σ H us zs Q I r ⟨B, A, ρ, ds, ρ', E, rr, hm, k⟩ => by
  cases rr with
  | nil =>
    cases hm
    exact pgs_nil.run pins s σ H [] zs Q I r ⟨rfl, k σ H E (Gro.refl _) rfl ((Lv.refl _).more fun _ h => nomatch h)⟩
  | cons _ _ => cases hm⟩
theorem gs_consW {e : Expr} {es : List Expr} {g : D → Rho → Option Rho} {gs : List D → Rho → Option Rho} (h1 : PG X e (rdW F vs g)) (h2 : PGs X es (rdWs F vs gs))
    (hs : (assignEach (e :: es) X.env).map (·.2) = assign e X.env :: (assignEach es X.env).map (·.2) := by rfl) : PGs X (e :: es) (rdWs F vs (gsCons g gs)) := ⟨fun pins s σ H us zs Q I r ⟨B, A, ρ, ds, ρ', E, rr, hm, k⟩ => by
  cases ds with
  | nil => cases hm
  | cons d ds' =>
    obtain ⟨ρ1, e1, hm⟩ := gsCons_some hm
    obtain ⟨v, vs', rfl, r1, rr⟩ := rr.inv
    refine (pgs_cons h1 h2 hs).run pins s σ H _ zs Q I r ⟨v, vs', rfl, B, A, ρ, d, ρ1, E, r1, e1, fun σ1 H1 E1 g1 w1 l1 => ?_⟩
    exact ⟨B, A, ρ1, ds', ρ', E1, (rr.mono g1 (fun a z => z) fun _ z => z.elim).mono (C := fun _ => False) (Gro.refl _) (av_keep l1.own) fun _ z => z.elim, hm, fun σ2 H2 E2 g2 w2 l2 => k σ2 H2 E2 (g1.trans g2) (w2.trans w1) (l1.trans' l2)⟩⟩
theorem g_tupW {es : List Expr} {kk : Nat} {gs : List D → Rho → Option Rho} {n : Nat} (hc : X.calm = true) (h : PGs X es (rdWs F vs gs)) (hK : X.K = F.K := by rfl)
    (hn : (assignEach es X.env).length = n := by rfl) (hst : (assignEach es X.env).findIdx? (·.1) = none := by rfl) : PG X (.Tuple es kk pos) (rdW F vs (gTupT n gs)) :=
  PG.mono (pg_tup hc h hn hst) fun v σ H Q ⟨B, A, ρ, d, ρ', E, r, hm, k⟩ => by
    unfold gTupT at hm
    split at hm
    · rename_i ds
      split at hm
      · rename_i hl
        obtain ⟨a, xs, rfl, h1, q1⟩ := RR.tuple (.inl r)
        exact ⟨a, xs, rfl, hK ▸ h1, by rw [q1.length]; exact hl, B, A, ρ, ds, ρ', E, q1, hm, k⟩
      · cases hm
    · cases hm
end
end PD
set_option Elab.async false
set_option linter.all false
set_option maxRecDepth 100000
set_option maxHeartbeats 2000000
namespace PD
open PySem PySem.Spec PyProof.Rows L2 GxR GenX OwnK
section
variable {X : Cx} {F : Frm} {pos p : Pos} {tg : Expr}
def mBad : MS := fun _ => none
theorem ss_bad {b : List Stmt} : PSs X b (rdS F mBad) := ⟨fun pins s σ H Dn I ⟨A, ρ, out, E, hm, k⟩ => nomatch hm⟩
def dcL (g : D → Rho → Option Rho) (mt : M Bool) (mk mv : M D) (vs : List Nat) : List D → List (D × D) → Rho → Option (List (D × D) × Rho)
  | [], acc, ρ => some (acc, ρ)
  | d :: r, acc, ρ => match g d ρ with
    | none => none
    | some ρ1 => (match mt ρ1 with
      | some (true, ρ2) => (match mk ρ2 with
        | some (kd, ρk) => (match mv ρk with
          | some (y, ρ3) => (match keyD kd with
            | some key => if acc.length < sizeLine then dcL g mt mk mv vs r (gPut.dput acc key y) (wipeR ρ3 vs) else none
            | none => none)
          | none => none)
        | none => none)
      | some (false, ρ2) => dcL g mt mk mv vs r acc (wipeR ρ2 vs)
      | none => none)
def mDc (mi : M (List D)) (g : D → Rho → Option Rho) (mt : M Bool) (mk mv : M D) (vs : List Nat) : M D := fun ρ => match mi ρ with
  | some (ds, ρ1) => (match dcL g mt mk mv vs ds [] (wipeR ρ1 vs) with
    | some (acc, ρ2) => some (.dict acc, wipeR ρ2 vs)
    | none => none)
  | none => none
theorem rd_dc {mi : M (List D)} {g : D → Rho → Option Rho} {mt : M Bool} {mk mv : M D} {effi efft effk effe vs : List Nat} (hv : ∀ i ∈ vs, i ∉ F.io) {σ : L2.St} {H : Hp} {Q : VK} (h : rdN F (mDc mi g mt mk mv vs) (effi ++ (vs ++ (efft ++ (effk ++ effe)))) σ H Q) :
    tDc (rdI F mi effi) (wE F vs g) (tE F mt efft) (eE F mk [] effk) (eE F mv [] effe) vs σ H Q := by
  obtain ⟨B, A, ρ, d, ρ', E, hm, k⟩ := h
  unfold mDc at hm
  split at hm
  · rename_i ds ρ1 e1
    split at hm
    · rename_i res ρ2 e2
      cases hm
      refine ⟨B, A, ρ, ds, ρ1, E, e1, fun J G H1 P1 hG it D hD => ?_⟩
      have Elay : Ev F (D :: B) A σ (upd H1 D (.dK [])) ρ1 := P1.env.hide hD (Ext.new hD) (by rw [upd_same]; simp)
      have ew : ∀ i, i ∉ vs → (L2.wipe σ vs)[i]? = σ[i]? := fun i h => wipe_ne h
      have E0 : Ev (F.more G) (D :: B) A (L2.wipe σ vs) (upd H1 D (.dK [])) (wipeR ρ1 vs) := by
        refine Ev.more ((Elay).wipe (wipe_length σ vs) ew hv) fun r hr => ?_
        refine ((hG r hr).away hD av_cons).ext (Ext.new hD) |>.mono (C := fun _ => False) (Gro.refl _) (fun a z => ?_) fun _ z => z.elim
        rcases z with z | z | ⟨j, e, h, z⟩
        · exact .inl z
        · exact .inr (.inl z)
        · exact .inr (.inr ⟨j, e, (wipeR_some h).1, z⟩)
      refine ⟨fun i m Hc => m = ds.length - i ∧ i ≤ ds.length ∧ ∃ acc xs ρc, Ev (F.more G) (D :: B) A (L2.wipe σ vs) Hc ρc ∧ Hc D = some (.dK xs) ∧ RelKs F.K (Av F (D :: B) A ρc) Hc xs acc ∧ Gro (Ow A ρ) H Hc ∧ Lv (effi ++ (vs ++ (efft ++ (effk ++ effe)))) ρ ρc ∧ dcL g mt mk mv vs (ds.drop i) acc ρc = some (res, ρ2),
        ⟨ds.length, by simp, Nat.zero_le _, [], [], wipeR ρ1 vs, E0, upd_same, .nil, P1.gro.trans (Ext.new hD).gro, (P1.lv.more fun i h => List.mem_append_left _ h).trans' (wipeR_lv.more fun i h => List.mem_append_right _ (List.mem_append_left _ h)), by rw [List.drop_zero]; exact e2⟩, ?_⟩
      rintro i m Hc ⟨rfl, hi, acc, xs, ρc, Ec, hDc, rc, gc, lc, hm⟩
      by_cases hlt : i < ds.length
      · refine .inr ⟨it.goes i _ Hc Ec.rootsG hlt, fun H' => ∃ acc xs ρc, Ev (F.more G) (D :: B) A (L2.wipe σ vs) H' ρc ∧ H' D = some (.dK xs) ∧ RelKs F.K (Av F (D :: B) A ρc) H' xs acc ∧ Gro (Ow A ρ) H H' ∧ Lv (effi ++ (vs ++ (efft ++ (effk ++ effe)))) ρ ρc ∧ dcL g mt mk mv vs (ds.drop (i + 1)) acc ρc = some (res, ρ2), fun H' q => ⟨ds.length - (i + 1), by omega, rfl, hlt, q⟩, fun x H' y => ?_⟩
        obtain ⟨ext, d, ed, rd⟩ := it.yields i _ Hc x H' Ec.rootsG Ec.less.occA hlt y
        rw [drop_cons' ed] at hm
        unfold dcL at hm
        split at hm
        · cases hm
        · rename_i ρg eg
          refine ⟨G, D :: B, A, ρc, d, ρg, Ec.ext ext, rd, eg, fun σ2 H2 E2 g2 hw l2 => ⟨by rw [hw, wipe_wipe], ?_⟩⟩
          have hw2 : L2.wipe σ2 vs = L2.wipe σ vs := by rw [hw, wipe_wipe]
          have hD0 : H D = none := P1.gro.back hD
          have hD2 : H2 D = some (.dK xs) := g2.keep _ _ (ext _ _ hDc) (fun z => z) fun ps z => nomatch z
          have ow1 : ∀ a, Ow A ρg a → Ow A ρ a := fun a z => lc.ow (l2.ow z)
          have gro2 : Gro (Ow A ρ) H H2 := gc.trans ((ext.gro).trans (g2.mono fun _ z => z.elim))
          have av1 : ∀ a, Av F (D :: B) A ρg a → Av F (D :: B) A ρc a := fun a z => l2.av z
          have rc2 : RelKs F.K (Av F (D :: B) A ρg) H2 xs acc := ((rc.ext ext).mono g2 (fun a z => z) fun _ z => z.elim).mono (C := fun _ => False) (Gro.refl _) av1 fun _ z => z.elim
          have lg : Lv (effi ++ (vs ++ (efft ++ (effk ++ effe)))) ρ ρg := lc.trans' (l2.more fun i h => List.mem_append_right _ (List.mem_append_left _ h))
          split at hm
          · rename_i ρt et
            refine ⟨G, D :: B, A, ρg, true, ρt, E2, et, fun H3 P3 => ?_⟩
            simp only [if_true]
            have hD3 : H3 D = some (.dK xs) := P3.gro.keep _ _ hD2 (E2.notOw List.mem_cons_self) fun ps z => nomatch z
            have rc3 : RelKs F.K (Av F (D :: B) A ρt) H3 xs acc := rc2.mono P3.gro (fun a z => P3.lv.av z) fun a z => .inr (.inr z)
            have lt : Lv (effi ++ (vs ++ (efft ++ (effk ++ effe)))) ρ ρt := lg.trans' (P3.lv.more fun i h => List.mem_append_right _ (List.mem_append_right _ (List.mem_append_left _ h)))
            split at hm
            · rename_i kd ρk ek
              refine ⟨G, D :: B, A, ρt, kd, ρk, P3.env, ek, fun kv Hk Pk rk => ?_⟩
              have hDk : Hk D = some (.dK xs) := Pk.gro.keep _ _ hD3 (P3.env.notOw List.mem_cons_self) fun ps z => nomatch z
              have rck : RelKs F.K (Av F (D :: B) A ρk) Hk xs acc := rc3.mono Pk.gro (fun a z => Pk.lv.av z) fun a z => .inr (.inr z)
              have lk : Lv (effi ++ (vs ++ (efft ++ (effk ++ effe)))) ρ ρk := lt.trans' (Pk.lv.more fun i h => List.mem_append_right _ (List.mem_append_right _ (List.mem_append_right _ (List.mem_append_left _ h))))
              split at hm
              · rename_i yd ρe ee
                split at hm
                · rename_i key hkey
                  split at hm
                  · rename_i hz
                    refine ⟨G, D :: B, A, ρk, yd, ρe, Pk.env, ee, fun yv H4 P4 r4 => ?_⟩
                    have hD4 : H4 D = some (.dK xs) := P4.gro.keep _ _ hDk (Pk.env.notOw List.mem_cons_self) fun ps z => nomatch z
                    have rc4 : RelKs F.K (Av F (D :: B) A ρe) H4 xs acc := rck.mono P4.gro (fun a z => P4.lv.av z) fun a z => .inr (.inr z)
                    have W : Gro (fun a => a = D) H4 (upd H4 D (.dK (putK xs key yv))) := Gro.upd hD4 fun ps z => nomatch z
                    have le : Lv (effi ++ (vs ++ (efft ++ (effk ++ effe)))) ρ ρe := lk.trans' (P4.lv.more fun i h => List.mem_append_right _ (List.mem_append_right _ (List.mem_append_right _ (List.mem_append_right _ h))))
                    have e1 := keyD_some hkey
                    subst e1
                    refine ⟨xs, key, (rk.rr Pk.env).key, hD4, by rw [rc4.length]; exact hz, gPut.dput acc key yd, putK xs key yv, wipeR ρe vs, ?_, upd_same, ?_, ?_, le.trans' (wipeR_lv.more fun i h => List.mem_append_right _ (List.mem_append_left _ h)), hm⟩
                    · have E5 := (P4.env.writeB List.mem_cons_self W).wipe (σ' := L2.wipe σ2 vs) (vs := vs) (wipe_length _ _) (fun i h => wipe_ne h) hv
                      rw [hw2] at E5
                      exact E5
                    · refine RelKs.put ?_ ?_
                      · exact r4.plain.mono W (fun a z => wipeR_av (F := F) a z) fun a z => .inr (.inl (z ▸ List.mem_cons_self))
                      · exact rc4.mono W (fun a z => wipeR_av a z) fun a z => .inr (.inl (z ▸ List.mem_cons_self))
                    · exact Gro.fresh (gro2.trans ((P3.gro.mono ow1).trans ((Pk.gro.mono fun a z => ow1 a (P3.lv.ow z)).trans (P4.gro.mono fun a z => ow1 a (P3.lv.ow (Pk.lv.ow z)))))) hD0 W
                  · cases hm
                · cases hm
              · cases hm
            · cases hm
          · rename_i ρt et
            refine ⟨G, D :: B, A, ρg, false, ρt, E2, et, fun H3 P3 => ?_⟩
            simp only [Bool.false_eq_true, if_false]
            have hD3 : H3 D = some (.dK xs) := P3.gro.keep _ _ hD2 (E2.notOw List.mem_cons_self) fun ps z => nomatch z
            have rc3 : RelKs F.K (Av F (D :: B) A ρt) H3 xs acc := rc2.mono P3.gro (fun a z => P3.lv.av z) fun a z => .inr (.inr z)
            have lt : Lv (effi ++ (vs ++ (efft ++ (effk ++ effe)))) ρ ρt := lg.trans' (P3.lv.more fun i h => List.mem_append_right _ (List.mem_append_right _ (List.mem_append_left _ h)))
            refine ⟨acc, xs, wipeR ρt vs, ?_, hD3, ?_, gro2.trans (P3.gro.mono ow1), lt.trans' (wipeR_lv.more fun i h => List.mem_append_right _ (List.mem_append_left _ h)), hm⟩
            · have E5 := P3.env.wipe (σ' := L2.wipe σ2 vs) (vs := vs) (wipe_length _ _) (fun i h => wipe_ne h) hv
              rw [hw2] at E5
              exact E5
            · exact rc3.mono (C := fun _ => False) (Gro.refl _) (fun a z => wipeR_av a z) fun _ z => z.elim
          · cases hm
      · have e : i = ds.length := by omega
        subst e
        rw [List.drop_length] at hm
        cases hm
        have Eb : Ev F (D :: B) A σ Hc (wipeR ρ2 vs) := Ec.less.wipe (wipe_length σ vs).symm (fun i h => (wipe_ne h).symm) hv
        exact .inl ⟨it.stops _ Hc Ec.rootsG, k D Hc ⟨Eb.unhide, gc, lc.trans' (wipeR_lv.more fun i h => List.mem_append_right _ (List.mem_append_left _ h))⟩ Eb ⟨fun z => (P1.env.occB D z).1 hD, P1.gro.back hD⟩ (.inl ⟨xs, hDc, rc.mono (C := fun _ => False) (Gro.refl _) (fun a z => wipeR_av a z) fun _ z => z.elim⟩)⟩
    · cases hm
  · cases hm
theorem x_dc {kx vx iter : Expr} {ifs : List Expr} {scope : Scope} {own : List (Str × Nat)} {mi : M (List D)} {g : D → Rho → Option Rho} {mt : M Bool} {mk mv : M D} {effi efft effk effe : List Nat} (hc : X.calm = true) (hN : X.N.Nodup) (hi : PI X tg iter (rdI F mi effi)) (ok : BlkOk X.N X.env.scope scope own)
    (hg : ∀ (s : Shared) (H : Hp) (C : Addr) (cl : List (Str × Addr)) (fp : List Addr) G, PG (X.blk s H scope (compEnvC scope cl C X.env) fp) tg (rdW (F.more G) (own.map (·.2)) g))
    (ht : ∀ (s : Shared) (H : Hp) (C : Addr) (cl : List (Str × Addr)) (fp : List Addr) G, PTs (X.blk s H scope (compEnvC scope cl C X.env) fp) ifs (rdT (F.more G) mt efft))
    (hk : ∀ (s : Shared) (H : Hp) (C : Addr) (cl : List (Str × Addr)) (fp : List Addr) G, PE (X.blk s H scope (compEnvC scope cl C X.env) fp) kx (rd (F.more G) mk [] effk))
    (he : ∀ (s : Shared) (H : Hp) (C : Addr) (cl : List (Str × Addr)) (fp : List Addr) G, PE (X.blk s H scope (compEnvC scope cl C X.env) fp) vx (rd (F.more G) mv [] effe))
    (hv : ∀ i ∈ own.map (·.2), i ∉ F.io := by decide) (hs : ∀ x, foldedSetIterable iter X.env x = pure x := by intro _; rfl) :
    PE X (.DictComp kx vx [⟨tg, iter, ifs, 0⟩] scope pos) (rdN F (mDc mi g mt mk mv (own.map (·.2))) (effi ++ (own.map (·.2) ++ (efft ++ (effk ++ effe))))) :=
  PE.mono (pe_dc hc hN hi ok (fun s H C cl fp => PG.exW (hg s H C cl fp)) (fun s H C cl fp => PTs.ex (ht s H C cl fp)) (fun s H C cl fp => PE.ex (hk s H C cl fp)) (fun s H C cl fp => PE.ex (he s H C cl fp)) hs) fun σ H Q h => rd_dc hv h
end
end PD
set_option Elab.async false
set_option linter.all false
set_option maxRecDepth 100000
set_option maxHeartbeats 2000000
namespace PD
open PySem PySem.Spec PyProof.Rows L2 GxR GenX OwnK
section
variable {X : Cx} {F : Frm} {pos p : Pos} {K : PySem.W.Frag}
def gIxL : D → D → Option D
  | .list ds, .int i => atI ds i
  | _, _ => none
def mAugL (i : Nat) (g : D → D → Option D) (mk me : M D) : MS := fun ρ => match ρ[i]? with
  | some (some (true, o)) => (match mk ρ with
    | some (kd, ρ1) => (match gIxL o kd with
      | some x => (match me ρ1 with
        | some (d, ρ2) => (match g x d with
          | some r => (match gPut o kd r with
            | some o' => some (.nx (ρ2.set i (some (true, o'))))
            | none => none)
          | none => none)
        | none => none)
      | none => none)
    | none => none)
  | _ => none
end
end PD
set_option Elab.async false
set_option linter.all false
set_option maxRecDepth 100000
set_option maxHeartbeats 2000000
namespace PD
open PySem PySem.Spec PyProof.Rows L2 GxR GenX OwnK
section
variable {X : Cx} {F : Frm} {pos p : Pos} {K : PySem.W.Frag}
def distI : List Int → Nat
  | [] => 0
  | n :: r => if n ∈ r then distI r else distI r + 1
def gLenSet : D → Option D
  | .tuple ds => (allInts ds).bind fun ns => if ns.length + 1 < scanBound then some (.int (distI ns : Nat)) else none
  | _ => none
theorem prd_at {R : V → D → Prop} : ∀ {vs : List V} {ds : List D} {j : Nat} {v : V} {d : D}, Paired R vs ds → vs[j]? = some v → ds[j]? = some d → R v d
  | _, _, 0, _, _, .cons r _, a, b => by simp at a b; subst a b; exact r
  | _, _, j + 1, _, _, .cons _ t, a, b => prd_at t (by simpa using a) (by simpa using b)
  | _, _, _, _, _, .nil, a, _ => by simp at a
def mCallK (f : List D → Option (D × List D)) (ga : List D → List D) (m : M (List D)) : M D := fun ρ => match m ρ with
  | some (ds, ρ1) => (match f (ga ds) with
    | some (r, _) => some (r, ρ1)
    | none => none)
  | none => none
theorem k_nil : PK X [] (rdA F mNil [] []) := ⟨fun pos pins s σ H Q I ⟨B, A, ρ, ds, ρ', E, hm, k⟩ => by
  cases hm
  exact pk_nil.run pos pins s σ H Q I (k [] H (Post.refl E) .nil)⟩
theorem k_cons {e : Expr} {nm : Option Str} {kpos : Pos} {kws : List Keyword} {m : M D} {ms : M (List D)} {eff1 eff2 : List Nat} (ha : PE X e (rd F m [] eff1)) (hr : PK X kws (rdA F ms [] eff2)) : PK X (⟨nm, e, kpos⟩ :: kws) (rdA F (mCons m ms) [] (eff1 ++ eff2)) :=
  ⟨fun pos pins s σ H Q I ⟨B, A, ρ, ds, ρ2, E, hm, k⟩ => by
    obtain ⟨d, ρ1, ds', e1, e2, rfl⟩ := mCons_some hm
    exact (pk_cons ha hr).run pos pins s σ H Q I ⟨B, A, ρ, d, ρ1, E, e1, fun v1 H1 P1 r1 => ⟨B, A, ρ1, ds', ρ2, P1.env, e2, fun vs H2 P2 r2 => k _ H2 (P1.trans P2) (.cons (r1.later P2.gro P2.lv (by simp)) r2)⟩⟩⟩
theorem x_callK0 {k : Nat} {f : Addr} {fd : FuncData} {ps ks : List Str} {x : Str} {kws : List Keyword} {fn : List D → Option (D × List D)} {g : List Value → List Value → List Value} {gV : List V → List V → List V} {ga : List D → List D} {m : M (List D)} {eff : List Nat} (Fn : FnOk X.prog X.w X.K X.mg X.base CX0 k f fd ps (spD F.K F.T [] ps.length fn)) (hr : Room k X.A) (hg : Gl X x) (hm : X.mg x = some (.ref f)) (hk : PySem.W.keepIn X.K (.ref f) = true) (hb : KBinds X.K fd ps ks g gV)
    (ha : PK X kws (rdA F m [] eff)) (hga : ∀ (R : V → D → Prop) (vs : List V) (ds : List D), Paired R vs ds → Paired R (gV [] vs) (ga ds)) (hlen : ∀ ds ρ ρ1, m ρ = some (ds, ρ1) → (ga ds).length = ps.length) (hfl : ∀ ds r ds', fn ds = some (r, ds') → ds'.length = ds.length)
    (hall : (backToKw pos (keywordEach kws X.env)).all (·.1.isSome) = true := by rfl) (hks : (backToKw pos (keywordEach kws X.env)).filterMap (·.1) = ks := by rfl)
    (hdb : (x == ("__debug__" : Str)) = false := by decide)
    (hpl : ((backTo pos (starEach [] X.env)).any (·.1) || (backToKw pos (keywordEach kws X.env)).any (·.1.isNone)) = false := by rfl) :
    PE X (.Call (.Name x p) [] kws pos) (rd F (mCallK fn ga m) [] eff) := by
  refine PE.mono (pe_callK0 Fn hr hg hm hk hb pass0 ha hall hks hdb hpl) fun σ H Q ⟨B, A, ρ, r, ρ', E, hm, kq⟩ => ?_
  unfold mCallK at hm
  split at hm
  · rename_i ds ρ1 e1
    split at hm
    · rename_i r' ds' e2
      cases hm
      refine ⟨B, A, ρ, ds, _, E, e1, fun vs H1 P1 rr => ?_⟩
      have tg := hga _ _ _ (rr.mono fun a b h => h.plain)
      have hl : (ga ds).length = ps.length := hlen _ _ _ e1
      refine ⟨Av F B A ρ', fun _ => 0, ga ds, r, ds', e2, hl, (hfl _ _ _ e2).trans hl, ⟨tg.length, fun j v d a b => ⟨fun hj => absurd hj (by simp), fun _ => ?_⟩, fun j hj => absurd hj (by simp), fun i hi => absurd hi (by simp)⟩, P1.env.occA, P1.env.tabs, fun v H' g' _ rv => ?_⟩
      · exact prd_at tg a b
      · have g2 : Gro (fun _ => False) H1 H' := g'.mono fun a ⟨j, hj, _⟩ => absurd hj (by simp)
        exact kq v H' ⟨P1.env.quiet g2, P1.gro.trans (g2.mono fun _ z => z.elim), P1.lv⟩ (.inl rv)
    · cases hm
  · cases hm
end
end PD
set_option Elab.async false
set_option linter.all false
set_option maxRecDepth 100000
set_option maxHeartbeats 2000000
namespace PD
open PySem PySem.Spec PyProof.Rows L2 GxR GenX OwnK
section
variable {X : Cx} {F : Frm} {pos p : Pos}
theorem nio {io : List Nat} {i : Nat} (h : (!decide (i ∈ io)) = true) : i ∉ io := fun z => by rw [decide_eq_true z] at h; cases h
theorem nios {io l : List Nat} (h : (l.all fun i => !decide (i ∈ io)) = true) : ∀ i ∈ l, i ∉ io := fun i hi => nio (List.all_eq_true.mp h i hi)
theorem xv (i : Nat) {x : Str} (hN : X.N[i]? = some x := by rfl) (hv : Vis X.env.scope x := by first | exact Or.inl rfl | exact Or.inr (Or.inl rfl) | exact Or.inr (Or.inr rfl)) (hd : (x == ("__debug__" : Str)) = false := by decide)
    (hcd : (x == ("__classdict__" : Str)) = false := by decide) : PE X (.Name x pos) (rd F (mVar i) [i] []) := x_var hN hv hd hcd
theorem xf (i : Nat) {x : Str} (hN : X.N[i]? = some x := by rfl) (hv : Vis X.env.scope x := by first | exact Or.inl rfl | exact Or.inr (Or.inl rfl) | exact Or.inr (Or.inr rfl)) (hio : (!decide (i ∈ F.io)) = true := by rfl) (hd : (x == ("__debug__" : Str)) = false := by decide)
    (hcd : (x == ("__classdict__" : Str)) = false := by decide) : PE X (.Name x pos) (rd F (mFrz i) [] [i]) := x_frz hN hv (nio hio) hd hcd
theorem gn (i : Nat) {B : List Addr} {x : Str} (hN : X.N.Nodup) (hi : X.N[i]? = some x := by rfl) (hx : Loc X.env.scope x := by first | exact Or.inl rfl | exact Or.inr rfl) (hio : (!decide (i ∈ F.io)) = true := by rfl)
    (hf : X.fn x = true ∨ X.env.scope.names.lookup x = some .local := by first | exact .inl rfl | exact .inr rfl) : PG X (.Name x pos) (rdG F B (gSet i)) := g_name hN hi hx (nio hio) hf
theorem gnW (i : Nat) {vs : List Nat} {x : Str} (hN : X.N.Nodup) (hi : X.N[i]? = some x := by rfl) (hx : Loc X.env.scope x := by first | exact Or.inl rfl | exact Or.inr rfl) (hio : (!decide (i ∈ F.io)) = true := by rfl) (hvs : decide (i ∈ vs) = true := by rfl)
    (hf : X.fn x = true ∨ X.env.scope.names.lookup x = some .local := by first | exact .inl rfl | exact .inr rfl) : PG X (.Name x pos) (rdW F vs (gSet i)) := g_nameW hN hi hx (nio hio) (of_decide_eq_true hvs) hf
theorem hu65 {A : Around} {k : Nat} (hr : Room k A) : A.units + 65 < cLine := by have := hr.un; omega
theorem rdN_rel {B : List Addr} {A : Nat → Addr} {σ : L2.St} {H' : Hp} {ρ' : Rho} {p : Addr} {d : D} (hd : isDc d = false) (E' : Ev F (p :: B) A σ H' ρ') (hp : p ∉ B) (r : RelO F.K (Av F (p :: B) A ρ') H' p d) : RelD F.K (Av F B A ρ') H' (.ref p) d := r.relD hd av_more (newOut E' hp)
theorem sown_lc (i : Nat) {y : Str} {py : Pos} {elt tg iter : Expr} {ifs : List Expr} {scope : Scope} {own : List (Str × Nat)} {pos spos : Pos} {mi : M (List D)} {g : D → Rho → Option Rho} {mt : M Bool} {me : M D} {effi efft effe : List Nat} (hc : X.calm = true) (hN : X.N.Nodup) (hi : PI X tg iter (rdI F mi effi)) (ok : BlkOk X.N X.env.scope scope own)
    (hg : ∀ (s : Shared) (H : Hp) (C : Addr) (cl : List (Str × Addr)) (fp : List Addr) G, PG (X.blk s H scope (compEnvC scope cl C X.env) fp) tg (rdW (F.more G) (own.map (·.2)) g))
    (ht : ∀ (s : Shared) (H : Hp) (C : Addr) (cl : List (Str × Addr)) (fp : List Addr) G, PTs (X.blk s H scope (compEnvC scope cl C X.env) fp) ifs (rdT (F.more G) mt efft))
    (he : ∀ (s : Shared) (H : Hp) (C : Addr) (cl : List (Str × Addr)) (fp : List Addr) G, PE (X.blk s H scope (compEnvC scope cl C X.env) fp) elt (rd (F.more G) me [] effe))
    (hv : ∀ i ∈ own.map (·.2), i ∉ F.io) (hy : X.N[i]? = some y := by rfl) (hyl : X.env.scope.names.lookup y = some .local := by rfl) (hio : (!decide (i ∈ F.io)) = true := by rfl)
    (hsw : swapsWith (.ListComp elt [⟨tg, iter, ifs, 0⟩] scope pos) (some (.Name y py)) spos.line X.env = pure true := by exact sw_true rfl rfl rfl (by decide +kernel)) (hs : ∀ x, foldedSetIterable iter X.env x = pure x := by intro _; rfl) :
    PS X (.Assign [.Name y py] (.ListComp elt [⟨tg, iter, ifs, 0⟩] scope pos) spos) (rdS F (mAsg (mLc mi g mt me (own.map (·.2))) (gOwn i))) :=
  PS.mono (ps_setLc hc hN hy hyl hsw hi ok (fun s H C cl fp => PG.exW (hg s H C cl fp)) (fun s H C cl fp => PTs.ex (ht s H C cl fp)) (fun s H C cl fp => PE.ex (he s H C cl fp)) hs) fun Dn σ H h => by
    refine rd_lc hv ?_
    obtain ⟨A, ρ, out, E, hm, k⟩ := h
    unfold mAsg at hm
    split at hm
    · rename_i d ρ1 q
      unfold gOwn at hm
      by_cases hl : i < ρ1.length
      · simp only [if_pos hl] at hm
        cases hm
        exact ⟨[], A, ρ, d, ρ1, E, q, fun p H' P E' hp r' => k _ _ H' (E'.setOwn (nio hio) hl r' hp.1)⟩
      · simp only [if_neg hl] at hm
        cases hm
    · cases hm
theorem mLc_dc {mi : M (List D)} {g : D → Rho → Option Rho} {mt : M Bool} {me : M D} {vs : List Nat} {ρ ρ' : Rho} {d : D} (h : mLc mi g mt me vs ρ = some (d, ρ')) : isDc d = false := by
  unfold mLc at h
  split at h
  · split at h
    · cases h; rfl
    · cases h
  · cases h
theorem sset_lc (i : Nat) {y : Str} {py : Pos} {elt tg iter : Expr} {ifs : List Expr} {scope : Scope} {own : List (Str × Nat)} {pos spos : Pos} {mi : M (List D)} {g : D → Rho → Option Rho} {mt : M Bool} {me : M D} {effi efft effe : List Nat} (hc : X.calm = true) (hN : X.N.Nodup) (hi : PI X tg iter (rdI F mi effi)) (ok : BlkOk X.N X.env.scope scope own)
    (hg : ∀ (s : Shared) (H : Hp) (C : Addr) (cl : List (Str × Addr)) (fp : List Addr) G, PG (X.blk s H scope (compEnvC scope cl C X.env) fp) tg (rdW (F.more G) (own.map (·.2)) g))
    (ht : ∀ (s : Shared) (H : Hp) (C : Addr) (cl : List (Str × Addr)) (fp : List Addr) G, PTs (X.blk s H scope (compEnvC scope cl C X.env) fp) ifs (rdT (F.more G) mt efft))
    (he : ∀ (s : Shared) (H : Hp) (C : Addr) (cl : List (Str × Addr)) (fp : List Addr) G, PE (X.blk s H scope (compEnvC scope cl C X.env) fp) elt (rd (F.more G) me [] effe))
    (hv : ∀ i ∈ own.map (·.2), i ∉ F.io) (hy : X.N[i]? = some y := by rfl) (hyl : X.env.scope.names.lookup y = some .local := by rfl) (hio : (!decide (i ∈ F.io)) = true := by rfl)
    (hsw : swapsWith (.ListComp elt [⟨tg, iter, ifs, 0⟩] scope pos) (some (.Name y py)) spos.line X.env = pure true := by exact sw_true rfl rfl rfl (by decide +kernel)) (hs : ∀ x, foldedSetIterable iter X.env x = pure x := by intro _; rfl) :
    PS X (.Assign [.Name y py] (.ListComp elt [⟨tg, iter, ifs, 0⟩] scope pos) spos) (rdS F (mAsg (mLc mi g mt me (own.map (·.2))) (gSet i))) :=
  PS.mono (ps_setLc hc hN hy hyl hsw hi ok (fun s H C cl fp => PG.exW (hg s H C cl fp)) (fun s H C cl fp => PTs.ex (ht s H C cl fp)) (fun s H C cl fp => PE.ex (he s H C cl fp)) hs) fun Dn σ H h => by
    refine rd_lc hv ?_
    obtain ⟨A, ρ, out, E, hm, k⟩ := h
    unfold mAsg at hm
    split at hm
    · rename_i d ρ1 q
      unfold gSet at hm
      by_cases hl : i < ρ1.length
      · simp only [if_pos hl] at hm
        cases hm
        exact ⟨[], A, ρ, d, ρ1, E, q, fun p H' P E' hp r' => k _ _ H' (P.env.setPlain (nio hio) hl (rdN_rel (mLc_dc q) E' hp.1 r'))⟩
      · simp only [if_neg hl] at hm
        cases hm
    · cases hm
theorem sret {e : Expr} {m : M D} {eff : List Nat} (h : PE X e (rd F m [] eff)) (hnw : F.new = false := by rfl) : PS X (.Return (some e) pos) (rdS F (mRet m)) := s_ret h hnw
theorem sretO (i : Nat) {x : Str} (hN : X.N[i]? = some x := by rfl) (hv : Vis X.env.scope x := by first | exact Or.inl rfl | exact Or.inr (Or.inl rfl) | exact Or.inr (Or.inr rfl)) (hio : (!decide (i ∈ F.io)) = true := by rfl) (hnw : F.new = true := by rfl) (hd : (x == ("__debug__" : Str)) = false := by decide)
    (hcd : (x == ("__classdict__" : Str)) = false := by decide) : PS X (.Return (some (.Name x p)) pos) (rdS F (mRet (mOwn i))) := s_retOwn hN hv (nio hio) hnw hd hcd
theorem sown (i : Nat) {x : Str} {e : Expr} {m : M D} {eff : List Nat} {pos' : Pos} (hN : X.N.Nodup) (he : PE X e (rdN F m eff)) (hi : X.N[i]? = some x := by rfl) (hx : Loc X.env.scope x := by first | exact Or.inl rfl | exact Or.inr rfl) (hio : (!decide (i ∈ F.io)) = true := by rfl) (hs : swapsWith e (some (.Name x pos')) pos.line X.env = pure false := by rfl)
    (hf : X.fn x = true ∨ X.env.scope.names.lookup x = some .local := by first | exact .inl rfl | exact .inr rfl) : PS X (.Assign [.Name x pos'] e pos) (rdS F (mAsg m (gOwn i))) := s_own hN hi hx (nio hio) he hs hf
theorem sput (i : Nat) {x : Str} {k value : Expr} {mk mv : M D} {depk effk effv : List Nat} {xp pos' : Pos} (hu : X.A.units + 1 < cLine) (hk : PE X k (rd F mk depk effk)) (hval : PE X value (rd F mv [] effv)) (hN : X.N[i]? = some x := by rfl) (hv : Vis X.env.scope x := by first | exact Or.inl rfl | exact Or.inr (Or.inl rfl) | exact Or.inr (Or.inr rfl)) (hne : (!decide (i ∈ effk)) = true := by rfl)
    (hs : swapsWith value (some (.Subscript (.Name x xp) k pos')) pos.line X.env = pure false := by rfl) (hd : (x == ("__debug__" : Str)) = false := by decide) (hcd : (x == ("__classdict__" : Str)) = false := by decide) :
    PS X (.Assign [.Subscript (.Name x xp) k pos'] value pos) (rdS F (mPut i mk mv)) := s_put hu hN hv hk hval (nio hne) hs hd hcd
theorem xcio (i : Nat) {x : Str} {es : List Expr} {ms : M (List D)} {ts : List (Option Nat)} {eff2 : List Nat} (hr : PA X es (rdC F ts ms eff2)) (hN : X.N[i]? = some x := by rfl) (hv : Vis X.env.scope x := by first | exact Or.inl rfl | exact Or.inr (Or.inl rfl) | exact Or.inr (Or.inr rfl))
    (hd : (x == ("__debug__" : Str)) = false := by decide) (hcd : (x == ("__classdict__" : Str)) = false := by decide) (hs : starEach (.Name x p :: es) X.env = (false, eval (.Name x p) X.env) :: starEach es X.env := by rfl) : PA X (.Name x p :: es) (rdC F (some i :: ts) (mConsIo i ms) eff2) := xc_io hN hv hr hd hcd hs
theorem t_cmp {op : CmpOp} {a b : Expr} {g : D → D → Option D} {m1 m2 : M D} {dep1 eff1 dep2 eff2 : List Nat} (ho : OpR X (compareOp op) (rop F.K g)) (ha : PE X a (rd F m1 dep1 eff1)) (hb : PE X b (rd F m2 dep2 eff2)) (hd : ∀ i ∈ dep1, i ∉ eff2 := by decide)
    (hm : behindInMarks op b = false := by first | exact nobehind _ (by decide) (by decide) | rfl) : PT X (.Compare a [op] [b] pos) (rdT F (mB (mBin g m1 m2)) (eff1 ++ eff2)) := PT.mono (pt_cmpR ho ha hb hm) fun σ H Q h => rd_bin hd (rd_tB h)
theorem gR {k : Nat} {A : Around} (r : Room (k + 3) A) (e : Env) : Room k (A.in1.in1.deeper e) := (r.in1.in1).deeper e
end
def gokC (N : List Str) (sc scope : Scope) (own : List (Str × Nat)) : Bool := blkC N sc scope own && !scope.isCoroutine && (scope.names.all fun y => match y.2 with | .cell => false | _ => true) && (match scope.names.lookup (".0" : Str) with | some NameKind.local => true | _ => false)
theorem gok_by {N : List Str} {sc scope : Scope} {own : List (Str × Nat)} (h : gokC N sc scope own = true) : GOk N sc scope own := by
  unfold gokC at h
  simp only [Bool.and_eq_true, List.all_eq_true] at h
  obtain ⟨⟨⟨h1, h2⟩, h3⟩, h4⟩ := h
  refine ⟨blkOk_by h1, by simpa using h2, fun y hy e => ?_, ?_⟩
  · have q := h3 y hy
    rw [e] at q
    cases q
  · revert h4
    cases scope.names.lookup (".0" : Str) with
    | none => intro h; cases h
    | some k => cases k <;> intro h <;> first | rfl | cases h
end PD
set_option Elab.async false
set_option linter.all false
set_option maxRecDepth 100000
set_option maxHeartbeats 2000000
namespace PD
open PySem PySem.Spec PyProof.Rows L2 GxR GenX OwnK
section
variable {X : Cx} {F : Frm} {pos p : Pos} {K : PySem.W.Frag}
def tyName : D → String
  | .none => "NoneType"
  | .bool _ => "bool"
  | .int _ => "int"
  | .str _ => "str"
  | .list _ => "list"
  | .tuple _ => "tuple"
  | .dict _ => "dict"
def isB (n T : String) : Bool := n == T || (n == "bool" && T == "int")
def notTD : D → Bool
  | .dict ds => !isT ds
  | _ => true
def gIsi (T : String) (d : D) : Option D := if notTD d then some (.bool (isB (tyName d) T)) else none
theorem RR.tyx {S : Addr → Prop} {H : Hp} {v : V} {d : D} (hn : notTD d = true) (r : RR K S H v d) : TyX K H v (.type (tyName d)) := by
  rcases r with r | ⟨a, rfl, r⟩
  · cases r with
    | non => exact .base .non
    | bl b => exact .base (.bl b)
    | int i => exact .base (.int i)
    | str i => exact .base (.str i)
    | lst n s r => exact s.elim (fun e => .base (.lst e)) fun ⟨o, e⟩ => .base (.frz e)
    | lstK s r => exact (let ⟨o, its, n, e, c, _⟩ := s; .kList e c)
    | tup n s r => exact (let ⟨o, e, _⟩ := s; .fTuple e)
    | tupK s r => exact (let ⟨o, its, n, e, c, _⟩ := s; .kTuple e c)
    | dic n s r => exact (let ⟨o, e⟩ := s; .fDict e)
    | dit n s r =>
      have hn : (!isT _) = true := hn
      rw [r.isT] at hn
      cases hn
  · cases d with
    | list ds => obtain ⟨xs, e, _⟩ := r; exact .base (.lst e)
    | dict ds =>
      rcases r with ⟨xs, e, _⟩ | ⟨xs, e, r⟩
      · exact .base (.dK e)
      · have hn : (!isT ds) = true := hn
        rw [r.isT] at hn
        cases hn
    | _ => exact r.elim
structure KitT (T : String) : Prop where
  all : ∀ (K : PySem.W.Frag) (n : String), n ∈ ["NoneType", "bool", "int", "str", "list", "tuple", "dict"] → PySem.W.kitOne K (.type n) (.type T) = some (isB n T)
theorem tyName_mem (d : D) : tyName d ∈ ["NoneType", "bool", "int", "str", "list", "tuple", "dict"] := by cases d <;> simp [tyName]
theorem kit_int : KitT "int" := ⟨fun K n h => by
  simp only [List.mem_cons, List.not_mem_nil, or_false] at h
  rcases h with rfl | rfl | rfl | rfl | rfl | rfl | rfl <;> rfl⟩
theorem kit_bool : KitT "bool" := ⟨fun K n h => by
  simp only [List.mem_cons, List.not_mem_nil, or_false] at h
  rcases h with rfl | rfl | rfl | rfl | rfl | rfl | rfl <;> rfl⟩
theorem kit_str : KitT "str" := ⟨fun K n h => by
  simp only [List.mem_cons, List.not_mem_nil, or_false] at h
  rcases h with rfl | rfl | rfl | rfl | rfl | rfl | rfl <;> rfl⟩
theorem kit_tuple : KitT "tuple" := ⟨fun K n h => by
  simp only [List.mem_cons, List.not_mem_nil, or_false] at h
  rcases h with rfl | rfl | rfl | rfl | rfl | rfl | rfl <;> rfl⟩
theorem x_isi {e : Expr} {m : M D} {dep eff : List Nat} {T : String} {x : Str} {p2 : Pos} (hT : KitT T) (he : PE X e (rd F m dep eff)) (hg : Gl X "isinstance") (hm : X.mg "isinstance" = none) (hg2 : Gl X x) (hm2 : X.mg x = none) (hv : bootBuiltins x = some (.type T)) (hK : X.K = F.K := by rfl)
    (hn : x ≠ "__name__" := by decide) (hd : (x == ("__debug__" : Str)) = false := by decide)
    (hs : starEach [e, .Name x p2] X.env = (false, eval e X.env) :: starEach [.Name x p2] X.env := by rfl) (hs2 : starEach [.Name x p2] X.env = (false, eval (.Name x p2) X.env) :: starEach [] X.env := by rfl) (hpl : (backTo pos (starEach [.Name x p2] X.env)).any (·.1) = false := by rfl) :
    PE X (.Call (.Name "isinstance" p) [e, .Name x p2] [] pos) (rd F (mUn (gIsi T) m) [] eff) :=
  PE.mono (pe_callB call_isi hg hm (by decide +kernel) (pa_cons he (pa_cons (pe_bltn (v := .ty T) hg2 hm2 hv rfl hn hd) pa_nil hs2) hs) (by decide) (by decide) hs hpl) fun σ H Q ⟨B, A, ρ, d, ρ1, E, hm, k⟩ => by
    obtain ⟨d1, e1, e2⟩ := mUn_some hm
    unfold gIsi at e2
    split at e2
    rotate_left
    · cases e2
    rename_i hnT
    cases e2
    refine ⟨B, A, ρ, d1, ρ1, E, e1, fun v H1 P r => ?_⟩
    refine ⟨v, .ty T, .type (tyName d1), .type T, isB (tyName d1) T, rfl, .ty T, hK ▸ (r.rr P.env).tyx hnT, hT.all _ _ (tyName_mem d1), k _ H1 P (.inl (.bl _))⟩
instance {a b : Int} : Decidable (RgOk a b) := inferInstanceAs (Decidable (_ ∧ _ ∧ _ ∧ _ ∧ _))
end
end PD
set_option Elab.async false
set_option linter.all false
set_option maxRecDepth 100000
set_option maxHeartbeats 2000000
namespace PD
open PySem PySem.Spec PyProof.Rows L2 GxR GenX OwnK
def mTab (tbl : List (Str × (List D → Option (D × List D)))) (ts : List (Option Nat)) (mk : M D) (m : M (List D)) : M D := fun ρ => match mk ρ with
  | some (.str z, ρ1) => (match tbl.lookup z with
    | some fn => mCall fn ts m ρ1
    | none => none)
  | _ => none
def MLen (n : Nat) (m : M (List D)) : Prop := ∀ ρ ds ρ1, m ρ = some (ds, ρ1) → ds.length = n
theorem mlen_nil : MLen 0 mNil := fun ρ ds ρ1 h => by cases h; rfl
theorem mlen_cons {n : Nat} {m : M D} {ms : M (List D)} (h : MLen n ms) : MLen (n + 1) (mCons m ms) := fun ρ ds ρ1 q => by
  obtain ⟨d, ρ2, ds', e1, e2, rfl⟩ := mCons_some q
  exact congrArg (· + 1) (h _ _ _ e2)
theorem mlen_ga {n k : Nat} {m : M (List D)} {ga : List D → List D} (h : MLen n m) (hg : ∀ ds, ds.length = n → (ga ds).length = k) : ∀ ds ρ ρ1, m ρ = some (ds, ρ1) → (ga ds).length = k := fun ds ρ ρ1 q => hg ds (h ρ ds ρ1 q)
theorem backR_len {ρ : Rho} {n : Nat} : (backR ρ n).length = n := by unfold backR; simp
theorem runD_len {n : Nat} {io : List Nat} {mb : MS} : ∀ ds r ds', runD n io mb ds = some (r, ds') → ds'.length = ds.length := fun ds r ds' h => by
  unfold runD at h
  split at h
  · cases h; exact backR_len
  · cases h; exact backR_len
  · cases h
section
variable {X : Cx} {F : Frm} {pos p sp : Pos} {K : PySem.W.Frag}
def strsOf : List D → Option (List Str)
  | [] => some []
  | .str z :: r => (strsOf r).map (z :: ·)
  | _ :: _ => none
theorem strsOf_rel {S : Addr → Prop} {H : Hp} : ∀ {ds : List D} {zs : List Str} {xs : List V}, strsOf ds = some zs → RelDs K S H xs ds → xs = zs.map V.str
  | [], _, _, e, r => by
    cases r
    cases e
    rfl
  | d :: ds, zs, _, e, r => by
    cases r with
    | cons h t =>
      cases d with
      | str z =>
        have e : (strsOf ds).map (z :: ·) = some zs := e
        cases q : strsOf ds with
        | none => rw [q] at e; cases e
        | some zs' =>
          rw [q] at e
          cases e
          cases h
          rw [strsOf_rel q t]
          rfl
      | _ => cases e
end
end PD
set_option Elab.async false
set_option linter.all false
set_option maxRecDepth 100000
set_option maxHeartbeats 2000000
namespace PD
open PySem PySem.Spec PyProof.Rows L2 GxR GenX OwnK
def mGet2 (m1 m2 m3 : M D) : M D := fun ρ => match m1 ρ with
  | some (.dict kvs, ρ1) => (match m2 ρ1 with
    | some (kd, ρ2) => (match m3 ρ2 with
      | some (dd, ρ3) => (match keyD kd with
        | some key => if isT kvs then none else some ((dget kvs key).getD dd, ρ3)
        | none => none)
      | none => none)
    | none => none)
  | _ => none
section
variable {X : Cx} {F : Frm} {pos p : Pos} {K : PySem.W.Frag}
def pairsOf : List D → Option (List (Key × D))
  | [] => some []
  | .tuple [kd, d] :: r => (match keyD kd, pairsOf r with
    | some k, some l => some ((k, d) :: l)
    | _, _ => none)
  | _ :: _ => none
def dmerge : List (D × D) → List (Key × D) → List (D × D)
  | acc, [] => acc
  | acc, (k, d) :: r => dmerge (gPut.dput acc k d) r
inductive RelPs (K : PySem.W.Frag) (S : Addr → Prop) (H : Hp) : List (Key × V) → List (Key × D) → Prop
  | nil : RelPs K S H [] []
  | cons {k : Key} {v : V} {kvs : List (Key × V)} {d : D} {l : List (Key × D)} : RelD K S H v d → RelPs K S H kvs l → RelPs K S H ((k, v) :: kvs) ((k, d) :: l)
theorem pairs_rel {S : Addr → Prop} {H : Hp} : ∀ {ds : List D} {l : List (Key × D)} {xs : List V}, pairsOf ds = some l → RelDs K S H xs ds → ∃ (ps : List Addr) (kvs : List (Key × V)), xs = ps.map V.ref ∧ Paired (fun p kv => SqT K H p [kV kv.1, kv.2]) ps kvs ∧ RelPs K S H kvs l
  | [], l, xs, e, r => by
    cases r
    cases e
    exact ⟨[], [], rfl, .nil, .nil⟩
  | d :: ds, l, xs, e, r => by
    unfold pairsOf at e
    split at e
    · rename_i h; cases h
    · rename_i kd d' r0 h
      cases h
      split at e
      · rename_i k l' ek el
        cases e
        obtain ⟨v, xs', rfl, rv, rr⟩ := r.inv
        obtain ⟨a, ys, rfl, hs, q⟩ := (show RR K S H v (.tuple [kd, d']) from .inl rv).tuple
        obtain ⟨y1, ys1, rfl, q1, q⟩ := q.inv
        obtain ⟨y2, ys2, rfl, q2, q⟩ := q.inv
        have e0 := q.inv0
        subst e0
        obtain ⟨ps, kvs, rfl, hp, hr⟩ := pairs_rel el rr
        have ekd := keyD_some ek
        subst ekd
        have ey := (show RR K S H y1 (kD k) from .inl q1).key
        subst ey
        exact ⟨a :: ps, (k, y2) :: kvs, rfl, .cons hs hp, .cons q2 hr⟩
      · cases e
    · cases e
theorem merge_rel {S : Addr → Prop} {H : Hp} : ∀ {kvs : List (Key × V)} {l : List (Key × D)} {acc : List (Key × V)} {dacc : List (D × D)}, RelPs K S H kvs l → RelKs K S H acc dacc → RelKs K S H (mergeK acc kvs) (dmerge dacc l)
  | _, _, _, _, .nil, r => r
  | _, _, _, _, .cons (k := k) (v := v) (kvs := kvs) (d := d) (l := l) q t, r => by
    unfold dmerge
    show RelKs K S H (mergeK (putK _ k v) kvs) _
    exact merge_rel t (RelKs.put q r)
end
end PD
set_option Elab.async false
set_option linter.all false
set_option maxRecDepth 100000
set_option maxHeartbeats 2000000
namespace PD
open PySem PySem.Spec PyProof.Rows L2 GxR GenX OwnK
section
variable {X : Cx} {F : Frm} {pos p : Pos} {K : PySem.W.Frag}
def IsT (K : PySem.W.Frag) (H : Hp) (a : Addr) : Prop := (∃ xs, FrzT.TupF H a xs) ∨ ∃ o, K.lookup a = some o ∧ o.cls = .type "tuple" ∧ o.dict = none
def gTCount : D → D → Option D
  | .tuple ds, .int k => (allInts ds).map fun ns => .int (ns.count k : Nat)
  | _, _ => none
theorem isT_of {S : Addr → Prop} {H : Hp} {v : V} {ds : List D} (r : RR K S H v (.tuple ds)) : ∃ a xs, v = .ref a ∧ SqT K H a xs ∧ RelDs K S H xs ds ∧ IsT K H a := by
  rcases r with r | ⟨a, _, r⟩
  · cases r with
    | tup n s r => exact ⟨_, _, rfl, .inl s.rd, r, .inl ⟨_, s⟩⟩
    | tupK s r => exact ⟨_, _, rfl, .inr s.sq, r, .inr (let ⟨o, _, _, e, c, d, _⟩ := s; ⟨o, e, c, d⟩)⟩
  · exact r.elim
end
end PD
set_option Elab.async false
set_option linter.all false
set_option maxRecDepth 100000
set_option maxHeartbeats 2000000
namespace PD
open PySem PySem.Spec PyProof.Rows L2 GxR GenX OwnK
section
variable {X : Cx} {F : Frm} {pos : Pos}
end
end PD
set_option Elab.async false
set_option linter.all false
set_option maxRecDepth 100000
set_option maxHeartbeats 2000000
namespace PD
open PySem PySem.Spec PyProof.Rows L2 GxR GenX OwnK
def SqB (K : PySem.W.Frag) (H : Hp) (a : Addr) (xs : List V) : Bool → Prop
  | false => SqL K H a xs
  | true => SqT K H a xs
def hasB (h : Heap) (a : Addr) (its : Array Value) : Bool → Prop
  | false => h.IsList a its
  | true => h.IsTuple a its
def turnB (h : Heap) (it a : Addr) (i : Nat) : Bool → Prop
  | false => h.IsListIter it a i
  | true => h.IsTupleIter it a i
def objB (a : Addr) : Bool → Obj
  | false => { cls := .type "list_iterator", data := .fields #[.ref a, .int 0 0] }
  | true => { cls := .type "tuple_iterator", data := .fields #[.ref a, .int 0 0] }
section
variable {prog : Program} {w : World} {A : Around} {h h' : Heap} {it a : Addr} {i : Nat}
theorem drawB (hh : A.handled = none) (hne : a ≠ it) (its : Array Value) : ∀ b : Bool, Draws prog w A it [it, a] its.size (fun i v => its[i]? = some v) (fun i h => turnB h it a i b ∧ hasB h a its b)
  | false => Draws.list hh it a hne its
  | true => Draws.tuple hh it a hne its
theorem beginB (its : Array Value) : ∀ b : Bool, Begins (.ref a) (objB a b) fun h => hasB h a its b
  | false => begins_list a its
  | true => begins_tuple a its
theorem turnB_0 : ∀ b : Bool, h.get? it = some (objB a b) → turnB h it a 0 b
  | false, e => ⟨_, e, rfl, rfl⟩
  | true, e => ⟨_, e, rfl, rfl⟩
theorem turnB_at : ∀ b : Bool, turnB h it a i b → (∀ o, h.get? it = some o → h'.get? it = some o) → turnB h' it a i b
  | false, t, k => t.at k
  | true, t, k => t.at k
theorem turnB_obj : ∀ b : Bool, turnB h it a i b → ∃ o, h.get? it = some o ∧ ∀ v, o.data ≠ .cell v
  | false, ⟨o, e, _, d⟩ => ⟨o, e, fun v q => by rw [d] at q; cases q⟩
  | true, ⟨o, e, _, d⟩ => ⟨o, e, fun v q => by rw [d] at q; cases q⟩
theorem turnB_lt (b : Bool) (t : turnB h it a i b) : it < h.objs.size := let ⟨_, e, _⟩ := turnB_obj b t; Heap.lt_size e
end
section
variable {X : Cx} {pins : List (Addr × Obj)} {σ : L2.St} {H : Hp} {s : Shared} {a : Addr} {xs ys : List V}
theorem sqB_inv (I : Inv X pins σ H s) : ∀ b : Bool, SqB X.K H a xs b → ∃ its : List Value, Vals xs its ∧ hasB s.heap a its.toArray b ∧ a < s.heap.objs.size
  | false, q => let ⟨its, r, p, _⟩ := I.list q; ⟨its, r, p.isList, p.lt⟩
  | true, q => let ⟨its, r, p, _⟩ := I.tuple q; ⟨its, r, p, p.lt⟩
theorem sqB_same (I : Inv X pins σ H s) : ∀ b : Bool, SqB X.K H a xs b → SqB X.K H a ys b → xs = ys
  | false, q, q' => I.list_inj q q'
  | true, q, q' => I.tuple_inj q q'
end
def at2 (K : PySem.W.Frag) (b1 b2 : Bool) (a1 a2 : Addr) (i : Nat) (H : Hp) (x y : V) : Prop := (∀ l, SqB K H a1 l b1 → l[i]? = some x) ∧ ∀ l, SqB K H a2 l b2 → l[i]? = some y
section
variable {P : Program} {w : World} {K : PySem.W.Frag} {elts : List Expr} {kk : Nat} {tpos : Pos} {b1 b2 b3 : Bool} {a1 a2 a3 z TI TO i1 i2 i3 : Addr}
end
section
variable {X : Cx} {ta : TA} {p pos tpos : Pos} {elts : List Expr} {kk : Nat}
end
theorem relB {K : PySem.W.Frag} {S : Addr → Prop} {H : Hp} {v : V} {d : D} {ds : List D} (r : RelD K S H v d) (e : gItems d = some ds) : ∃ b a, v = .ref a ∧ (∃ xs, SqB K H a xs b) ∧
    ∀ S' H', RelD K S' H' (.ref a) d → ∃ xs, SqB K H' a xs b ∧ RelDs K S' H' xs ds := by
  cases d with
  | list l =>
    cases e
    obtain ⟨a, xs, rfl, h1, h2⟩ := RR.list (.inl r)
    refine ⟨false, a, rfl, ⟨xs, h1⟩, fun S' H' r' => ?_⟩
    obtain ⟨a', xs', e', h1', h2'⟩ := RR.list (.inl r')
    cases e'
    exact ⟨xs', h1', h2'⟩
  | tuple l =>
    cases e
    obtain ⟨a, xs, rfl, h1, h2⟩ := RR.tuple (.inl r)
    refine ⟨true, a, rfl, ⟨xs, h1⟩, fun S' H' r' => ?_⟩
    obtain ⟨a', xs', e', h1', h2'⟩ := RR.tuple (.inl r')
    cases e'
    exact ⟨xs', h1', h2'⟩
  | _ => cases e
section
variable {K : PySem.W.Frag}
theorem relDs_at {S : Addr → Prop} {H : Hp} {xs : List V} {ds : List D} {i : Nat} (r : RelDs K S H xs ds) (h : i < ds.length) : ∃ v, xs[i]? = some v ∧ RelD K S H v ds[i] := r.get (List.getElem?_eq_getElem h)
end
section
variable {X : Cx} {F : Frm} {pos p tpos : Pos} {elts : List Expr} {kk : Nat}
end
end PD
set_option Elab.async false
set_option linter.all false
set_option maxRecDepth 100000
set_option maxHeartbeats 4000000
namespace PD
open PySem PySem.Spec PyProof.Rows L2 GxR GenX OwnK
open PySem.Sem (wp)
def enumO (n : Addr) : Obj := { cls := .type "enumerate", data := .fields #[.none, .bool false, .ref n, rawInt 0, .none, .none] }
theorem enum_new1 {v : Value} {o : Obj} {G : Heap → Prop} (B : Begins v o G) :
    Meets (Builtin.«enumerate.__new__» ⟨[.type "enumerate", v], []⟩) (fun _ R s => G s.heap ∧ R (.ok (.ret (.ref (s.heap.push o).objs.size))) { s with heap := (s.heap.push o).push (enumO s.heap.objs.size) }) :=
  .of_wp fun prog w A R ⟨hp, g, d, tk, os⟩ ⟨hG, hR⟩ => by
    have st := sub_enumerate
    have go : ∀ {A1 : Around} {E : Value → Shared → Prop} {Q : Value → Shared → Prop}, Q (.ref hp.objs.size) ⟨hp.push o, g, d, tk, os⟩ → wpAny (model prog w) A1 (pyIter v) Q E ⟨hp, g, d, tk, os⟩ := fun q => B.iter prog w _ _ ⟨hp, g, d, tk, os⟩ _ hG q
    wp_walk using go
    refine wpAny_stack_any fun ks => wpAny_pure ?_
    split
    · generalize (_ == Value.type "enumerate") = q
      cases q <;> (wp_walk using go) <;> exact ⟨_, rfl, hR⟩
    · (wp_walk using go) <;> exact ⟨_, rfl, hR⟩
theorem enum_begins1 {prog : Program} {w : World} {A : Around} {E : Value → Shared → Prop} {s : Shared} {v : Value} {o : Obj} {G : Heap → Prop} {Q : Value → Shared → Prop} (B : Begins v o G) (hG : G s.heap)
    (k : ∀ h', IsEnum h' (s.heap.objs.size + 1) s.heap.objs.size 0 .none → h'.get? s.heap.objs.size = some o → (∀ b u, s.heap.get? b = some u → h'.get? b = some u) → Q (.ref (s.heap.objs.size + 1)) { s with heap := h' }) :
    wpAny (model prog w) A (call (.type "enumerate") [v]) Q E s := by
  refine callType_new F.called_enumerate (by decide) (F.typeCall_enumerate_1 _) (F.newCall_enumerate_1 _) (fun x => F.args_object_init_2 x _) F.entry_enumerate_new (enum_new1 B) ⟨hG, ?_⟩
  have sz : (s.heap.push o).objs.size = s.heap.objs.size + 1 := Heap.size_push ..
  have he : ((s.heap.push o).push (enumO s.heap.objs.size)).get? (s.heap.push o).objs.size = some (enumO s.heap.objs.size) := Heap.get?_push_size _ rfl
  show _ ∧ _
  rw [sz] at he ⊢
  exact ⟨⟨_, he, rfl⟩, k _ he (Heap.get?_push_of_some _ (Heap.get?_push_size _ B.free)) fun b u x => Heap.get?_push_of_some _ (Heap.get?_push_of_some _ x)⟩
def Enum1 (K : PySem.W.Frag) (b : Bool) (a : Addr) : It where
  go i H := ∃ l x, SqB K H a l b ∧ l[i]? = some x
  yld i H v H' := ∃ T o x, v = .ref T ∧ H T = none ∧ o.cls = .type "tuple" ∧ o.dict = none ∧ H' = upd H T (.frz o (.tup [.int (i : Nat), x])) ∧ ∀ l, SqB K H a l b → l[i]? = some x
  stop i H := ∃ l, SqB K H a l b ∧ i = l.length
theorem turn1 {P : Program} {w : World} {K : PySem.W.Frag} {elts : List Expr} {kk : Nat} {tpos : Pos} {b : Bool} {a e it : Addr} (n0 : e ≠ it) (n1 : a ≠ it) (n2 : e ≠ a) :
    Turn P w K (.Tuple elts kk tpos) (Enum1 K b a) [e, it] e (fun i h => (∃ old, IsEnum h e it ((i : Nat) : Int) old) ∧ turnB h it a i b) where
  mem := List.mem_cons_self
  obj := fun i h ⟨⟨old, t1⟩, t2⟩ c hc => by
    simp only [List.mem_cons, List.not_mem_nil, or_false] at hc
    rcases hc with rfl | rfl
    · exact ⟨_, t1, nofun⟩
    · exact turnB_obj b t2
  keep := fun i h h' ⟨⟨old, t1⟩, t2⟩ k => ⟨⟨old, k e (by simp) _ t1⟩, turnB_at b t2 (k it (by simp))⟩
  item := by
    rintro X rfl rfl rfl hc i pins s σ H E I hf ⟨⟨old, t1⟩, t2⟩ ⟨l, x, q, hx⟩
    obtain ⟨us, r, p, -⟩ := sqB_inv I b q
    have hh : X.A.in1.handled = none := I.ok.hd hc
    have e1 := r.length
    have m1 := (List.getElem?_eq_some_iff.mp hx).1
    refine wpAny_pyNext_enum_itemD (drawB hh n1 us.toArray b) t1 ⟨t2, p⟩ (by simp; omega) n0 (by simp; exact ⟨n0, n2⟩) fun u h' tk g1 o' ⟨f1, _⟩ new _ kp => ?_
    obtain ⟨v1, w1, ru⟩ := r.get hx
    have c1 : v1 = u := by simp only [List.getElem?_toArray] at g1; rw [w1] at g1; exact Option.some.inj g1
    subst c1
    refine ⟨_, rfl, wpAny_letOwnedTupleGo_enum (s := { s with heap := h', toks := tk + 1 }) o' fun h'' e'' sb => ?_⟩
    have hz := Heap.lt_size t1
    have new2 := (sb.2 _ (Nat.ne_of_gt hz)).trans new
    refine ⟨.ref s.heap.objs.size, _, I.turnedNew (t' := tk + 1) (ch := [e, it]) (ob := .frz { cls := .type "tuple", data := .seq #[.int i tk, v1] } (.tup [.int (i : Nat), x])) (fun c o hb q => ?_) hf (Nat.le_refl _) ⟨new2, by show 2 ≤ sizeLine; decide, [.int i tk, v1], .cons ⟨_, rfl⟩ (.cons ru .nil), ⟨_, new2, rfl, _, rfl⟩⟩,
      rfl, ⟨_, _, x, rfl, I.hok.fresh (Nat.le_refl _), rfl, rfl, rfl, fun l' hl => by rw [sqB_same I b hl q]; exact hx⟩, ⟨⟨v1, ?_⟩, turnB_at b f1 fun o q => (sb.2 _ n0.symm).trans q⟩, fun c hcm => ?_⟩
    · simp at hb
      exact (sb.2 c hb.1).trans (kp c o hb.1 hb.2 q)
    · have z : ((i + 1 : Nat) : Int) = (i : Int) + 1 := by omega
      rw [z]
      exact e''
    · have lt : c < s.heap.objs.size := by
        simp only [List.mem_cons, List.not_mem_nil, or_false] at hcm
        rcases hcm with rfl | rfl
        · exact hz
        · exact turnB_lt b t2
      rw [upd_ne (Nat.ne_of_lt lt)]
      exact (hf c hcm).1
  done := by
    rintro X rfl rfl rfl hc i pins s σ H E I hf ⟨⟨old, t1⟩, t2⟩ ⟨l, q, me⟩
    obtain ⟨us, r, p, -⟩ := sqB_inv I b q
    have hh : X.A.in1.handled = none := I.ok.hd hc
    have e1 := r.length
    have z : i = us.toArray.size := by simp; omega
    refine wpAny_pyNext_enum_endD (drawB hh n1 us.toArray b) t1 (by rw [← z]; exact ⟨t2, p⟩) fun h' eb => ⟨rfl, I.turnedL (t' := s.toks) (ch := [e, it]) (fun c o hb q => ?_) hf⟩
    simp at hb
    exact eb c o hb.2 q
  self := fun A i s Q E ⟨⟨_, t1⟩, _⟩ h => wpAny_pyIter_enum t1 h
def iE1 (K : PySem.W.Frag) (ta : TA) : TI := fun σ H R => ta σ H fun vs H1 => ∃ b a l, vs = [.ref a] ∧ SqB K H1 a l b ∧ R (Enum1 K b a) H1
theorem le1 {c n : Nat} (h : c ∈ [n + 1, n]) : n ≤ c := by simp at h; omega
theorem pi_e1 {X : Cx} {ta : TA} {p pos tpos : Pos} {elts : List Expr} {kk : Nat} {e1 : Expr} (hg : Gl X "enumerate") (hm : X.mg "enumerate" = none) (ha : PA X [e1] ta) (hs : starEach [e1] X.env = [(false, eval e1 X.env)] := by rfl) :
    PI X (.Tuple elts kk tpos) (.Call (.Name "enumerate" p) [e1] [] pos) (iE1 X.K ta) := by
  refine ⟨fun pins s σ H R I hq => Call_ (ld_blt I hg hm boot_enumerate (PyProof.Rows.callWith_type1 (thn (ha.run pos pins s σ H _ I hq) ?_) hs rfl))⟩
  rintro us s1 ⟨vs, H1, I1, rv, b, a, l, rfl, q1, q⟩
  cases rv with
  | cons r rv =>
    cases rv
    cases r
    obtain ⟨us1, -, p1, m1⟩ := sqB_inv I1 b q1
    refine enum_begins1 (beginB us1.toArray b) p1 fun h' z1 g1 kp => wpAny_pyIter_enum z1 ?_
    exact ⟨_, [s1.heap.objs.size + 1, s1.heap.objs.size], _, _, H1, rfl, I1.kept (t' := s1.toks) kp, turn1 (Nat.succ_ne_self _) (Nat.ne_of_lt m1) (Nat.ne_of_gt (Nat.lt_succ_of_lt m1)), ⟨⟨_, z1⟩, turnB_0 b g1⟩, fun c hc => I1.fpOk (le1 hc) (I1.hok.fresh (le1 hc)), q⟩
def gEnum : List D → Option (List D)
  | [a] => (match gItems a with
    | some x => some (List.zipWith (fun (i : Nat) u => .tuple [.int i, u]) (List.range x.length) x)
    | none => none)
  | _ => none
theorem it_e1 {K : PySem.W.Frag} {b : Bool} {a : Addr} {d : D} {x : List D} (k1 : ∀ S' H', RelD K S' H' (.ref a) d → ∃ xs, SqB K H' a xs b ∧ RelDs K S' H' xs x) :
    ItOk K (Enum1 K b a) (List.zipWith (fun (i : Nat) u => .tuple [.int i, u]) (List.range x.length) x) [.inl (.ref a, d)] := by
  refine ⟨fun i S H r hi => ?_, fun S H r => ?_, fun i S H v H' r hS hi y' => ?_⟩
  · obtain ⟨l1, s1, c1⟩ := k1 S H (r _ List.mem_cons_self)
    simp only [List.length_zipWith, List.length_range, Nat.min_self] at hi
    obtain ⟨v1, e1, _⟩ := relDs_at c1 hi
    exact ⟨l1, v1, s1, e1⟩
  · obtain ⟨l1, s1, c1⟩ := k1 S H (r _ List.mem_cons_self)
    have m1 := c1.length
    refine ⟨l1, s1, ?_⟩
    simp only [List.length_zipWith, List.length_range, Nat.min_self]
    omega
  · obtain ⟨l1, s1, c1⟩ := k1 S H (r _ List.mem_cons_self)
    simp only [List.length_zipWith, List.length_range, Nat.min_self] at hi
    obtain ⟨T, o, v1, rfl, hT, ho, hd, rfl, f1⟩ := y'
    obtain ⟨u1, e1, g1⟩ := relDs_at c1 hi
    cases (f1 l1 s1).symm.trans e1
    refine ⟨Ext.new hT, .tuple [.int (i : Nat), x[i]], ?_, .tup (fun z => hS T z hT) ⟨o, upd_same, ho, hd⟩ (RelDs.ext (Ext.new hT) (.cons (.int _) (.cons g1 .nil)))⟩
    rw [List.getElem?_zipWith, List.getElem?_eq_getElem (show i < (List.range x.length).length by simpa using hi), List.getElem?_eq_getElem hi]
    simp
theorem w_enum {X : Cx} {F : Frm} {pos p tpos : Pos} {elts : List Expr} {kk : Nat} {a : Expr} {m : M (List D)} {eff : List Nat} (hlen : MLen 1 m) (hg : Gl X "enumerate") (hm : X.mg "enumerate" = none) (ha : PA X [a] (rdA F m [] eff)) (hs : starEach [a] X.env = [(false, eval a X.env)] := by rfl) (hK : X.K = F.K := by rfl) :
    PI X (.Tuple elts kk tpos) (.Call (.Name "enumerate" p) [a] [] pos) (rdI F (mRange gEnum m) eff) := by
  refine PI.mono (pi_e1 hg hm ha hs) fun σ H R ⟨B, A, ρ, ds, ρ', E, hm, k⟩ => ?_
  obtain ⟨l, q, q2⟩ := mRange_some hm
  refine ⟨B, A, ρ, l, ρ', E, q, fun vs H1 P1 r1 => ?_⟩
  have rs := Val.plains r1
  match l, hlen _ _ _ q with
  | [d1], _ =>
    unfold gEnum at q2
    simp only at q2
    split at q2
    · rename_i x e1
      cases q2
      cases rs with
      | cons c1 rs =>
        cases rs
        obtain ⟨b1, a1, rfl, ⟨xs1, s1⟩, k1⟩ := relB c1 e1
        rw [hK]
        exact ⟨b1, a1, xs1, rfl, s1, k _ [.inl (.ref a1, d1)] H1 P1 (fun r hr => by rw [List.mem_singleton.mp hr]; exact c1) (it_e1 k1)⟩
    · cases q2
end PD
set_option Elab.async false
set_option linter.all false
set_option maxRecDepth 100000
set_option maxHeartbeats 2000000
namespace PD
open PySem PySem.Spec PyProof.Rows L2 GxR GenX OwnK
section
variable {X : Cx} {F : Frm} {pos xp pos' : Pos}
end
end PD
set_option Elab.async false
set_option linter.all false
set_option maxRecDepth 100000
set_option maxHeartbeats 2000000
namespace PD
open PySem PySem.Spec PyProof.Rows L2 GxR GenX OwnK
def tdD (es : List (D × D)) : D := .dict ((.list [], .none) :: es)
def keyT : D → Option (List Int)
  | .tuple ds => allInts ds
  | _ => none
def dgetT : List (D × D) → List Int → Option D
  | [], _ => none
  | (kd, d) :: r, k => if keyT kd = some k then some d else dgetT r k
def tdE : D → Option (List (D × D))
  | .dict [] => some []
  | .dict ((.list [], .none) :: es) => some es
  | _ => none
section
variable {K : PySem.W.Frag} {S : Addr → Prop} {H : Hp}
def HT (H : Hp) (a : Addr) (xs : List (List Int × Addr × Value)) : Prop := Rd H a (.ext (TDict a xs)) ∨ (xs = [] ∧ Rd H a (.dK []))
theorem keyT_ints (ks : List Int) : keyT (.tuple (ks.map .int)) = some ks := by
  show allInts (ks.map .int) = some ks
  induction ks with
  | nil => rfl
  | cons k r ih =>
    show (allInts (r.map .int)).map (k :: ·) = _
    rw [ih]; rfl
theorem keyT_some {kd : D} {ks : List Int} (h : keyT kd = some ks) : kd = .tuple (ks.map .int) := by
  cases kd with
  | tuple ds =>
    have h : allInts ds = some ks := h
    congr 1
    induction ds generalizing ks with
    | nil => cases h; rfl
    | cons d r ih =>
      cases d with
      | int i =>
        have h : (allInts r).map (i :: ·) = some ks := h
        cases e : allInts r with
        | none => rw [e] at h; cases h
        | some l => rw [e] at h; cases h; rw [List.map_cons, ih e e]
      | _ => cases h
  | _ => cases h
theorem RR.keyAt {v : V} {ks : List Int} (r : RR K S H v (.tuple (ks.map .int))) : ∃ b, v = .ref b ∧ KeyAt K S H b ks := by
  have e : ∀ {xs : List V}, RelDs K S H xs (ks.map .int) → xs = ks.map V.int := fun q => allInts_rel (keyT_ints ks) q
  rcases r with r | ⟨a, e, r⟩
  · cases r with
    | tup n s r => rw [e r] at s; exact ⟨_, rfl, .inl ⟨n, s⟩⟩
    | tupK s r => rw [e r] at s; exact ⟨_, rfl, .inr s⟩
  · exact r.elim
theorem RR.td {v : V} {d : D} {es : List (D × D)} (r : RR K S H v d) (h : tdE d = some es) : ∃ a xs, v = .ref a ∧ HT H a xs ∧ RelTs K S H xs es := by
  unfold tdE at h
  split at h
  · cases h
    rcases r.dict2 with ⟨a, kvs, e, h1, h2⟩ | ⟨a, xs, e, h1, h2⟩
    · cases h2
      exact ⟨a, [], e, .inr ⟨rfl, h1⟩, .nil⟩
    · cases h2
  · cases h
    rcases r.dict2 with ⟨a, kvs, e, h1, h2⟩ | ⟨a, xs, e, h1, h2⟩
    · exact absurd h2 (by
        intro z
        have : ∀ {k : D} {d : D} {r : List (D × D)} {kvs}, RelKs K S H kvs ((k, d) :: r) → ∃ q, k = kD q := fun h => by cases h; exact ⟨_, rfl⟩
        obtain ⟨q, hq⟩ := this z
        cases q <;> cases hq)
    · cases h2 with
      | mk h2 => exact ⟨a, xs, e, .inl h1, h2⟩
  · cases h
theorem RelTs.get : ∀ {xs : List (List Int × Addr × Value)} {ds : List (D × D)} (k : List Int), RelTs K S H xs ds → (atKey xs k = none ∧ dgetT ds k = none) ∨ ∃ b u v d, atKey xs k = some (b, u) ∧ dgetT ds k = some d ∧ RelV v u ∧ RelD K S H v d
  | _, _, k, .nil => .inl ⟨rfl, rfl⟩
  | _, _, k, .cons (ks := k0) (b := b) (u := u) (v := v) (d := d) s q r t => by
    by_cases e : k0 = k
    · subst e
      exact .inr ⟨b, u, v, d, by simp [atKey], by unfold dgetT; rw [keyT_ints, if_pos rfl], q, r⟩
    · have e1 : ∀ xs, atKey ((k0, b, u) :: xs) k = atKey xs k := fun xs => by simp [atKey, List.find?_cons, e]
      have e2 : ∀ ds, dgetT ((.tuple (k0.map .int), d) :: ds) k = dgetT ds k := fun ds => by
        conv => lhs; unfold dgetT
        rw [keyT_ints, if_neg (fun z => e (Option.some.inj z))]
      rw [e1, e2]
      exact RelTs.get k t
theorem RelTs.keys : ∀ {xs : List (List Int × Addr × Value)} {ds : List (D × D)}, RelTs K S H xs ds → ∀ x ∈ xs, KeyAt K S H x.2.1 x.1
  | _, _, .nil, x, hx => by cases hx
  | _, _, .cons s _ _ t, x, hx => by
    rcases List.mem_cons.mp hx with e | hx
    · subst e; exact s
    · exact RelTs.keys t x hx
theorem RelTs.length : ∀ {xs : List (List Int × Addr × Value)} {ds : List (D × D)}, RelTs K S H xs ds → xs.length = ds.length
  | _, _, .nil => rfl
  | _, _, .cons _ _ _ t => congrArg (· + 1) t.length
end
section
variable {X : Cx} {F : Frm} {pos p : Pos} {S : Addr → Prop} {H : Hp} {pins : List (Addr × Obj)} {σ : L2.St} {s : Shared}
theorem ints_items {P : Program} {w : World} : ∀ {ks : List Int} {us : List Value}, Vals (ks.map V.int) us → PySem.ItemsAre (PySem.intKind P w) ks us
  | [], _, r => by rw [List.map_nil] at r; cases r; exact .nil
  | k :: ks, _, r => by
    rw [List.map_cons] at r
    cases r with
    | cons h t =>
      obtain ⟨t', rfl⟩ := (show ∃ t, _ = Value.int k t from h)
      exact .cons (by simp [PySem.intKind, Value.isInt]) (ints_items t)
theorem key_ofT (I : Inv X pins σ H s) {b : Addr} {ks : List Int} (h : KeyAt X.K S H b ks) : (PySem.tupleKind (PySem.intKind X.prog X.w)).is s.heap ks b := by
  have h : SqT X.K H b (ks.map V.int) := by
    rcases h with ⟨_, h⟩ | h
    · exact .inl h.rd
    · exact .inr h.sq
  obtain ⟨its, r, ⟨o, h1, h2, n, h3⟩, _⟩ := I.tuple h
  exact ⟨o, its.toArray, n, h1, h2, h3, by simpa using ints_items r⟩
theorem td_at {a : Addr} {xs : List (List Int × Addr × Value)} {es : List (D × D)} (I : Inv X pins σ H s) (h : HT H a xs) (r : RelTs X.K S H xs es) :
    (a == sysModules) = false ∧ xs.length ≤ sizeLine ∧ s.heap.DictOfH (PySem.tupleKind (PySem.intKind X.prog X.w)) a xs := by
  have hk : RelTs X.K S H xs es → ∀ x ∈ xs, (PySem.tupleKind (PySem.intKind X.prog X.w)).is s.heap x.1 x.2.1 := fun r x hx => key_ofT I (r.keys x hx)
  rcases h with h | ⟨rfl, h⟩
  · obtain ⟨⟨hd, hl, o, es', ep, h1, h2, h3, h4, h5⟩, _⟩ := (show ObjOk X.prog X.w H s.heap a (.ext (TDict a xs)) from h.ok I.hok)
    exact ⟨hd, hl, o, es', ep, h1, h2, h3, h4, hk r, h5⟩
  · obtain ⟨z, hd, vs, rel, o, es', ep, h1, h2, h3, _, h4, _⟩ := dk_rd I.hok h
    have e : vs = [] := by cases rel; rfl
    subst e
    refine ⟨hd, Nat.zero_le _, o, es', ep, h1, h2, h3, ?_, fun x hx => (nomatch hx), List.nodup_nil⟩
    generalize es'.toList = l at h4
    cases h4; rfl
theorem RelTs.isSome {K : PySem.W.Frag} {xs : List (List Int × Addr × Value)} {es : List (D × D)} (r : RelTs K S H xs es) (ks : List Int) : (atKey xs ks).isSome = (dgetT es ks).isSome := by
  rcases r.get ks with ⟨g1, g2⟩ | ⟨b, u, v, d, g1, g2, _⟩ <;> rw [g1, g2] <;> rfl
def dputT (es : List (D × D)) (ks : List Int) (d : D) : List (D × D) := if (dgetT es ks).isSome then es.map (fun e => if keyT e.1 = some ks then (e.1, d) else e) else es ++ [(.tuple (ks.map .int), d)]
def gPutT (o kd d : D) : Option D := match keyT kd, tdE o with
  | some ks, some es => if es.length < sizeLine then some (tdD (dputT es ks d)) else none
  | _, _ => none
theorem RelTs.append {K : PySem.W.Frag} : ∀ {xs ys : List (List Int × Addr × Value)} {ds es : List (D × D)}, RelTs K S H xs ds → RelTs K S H ys es → RelTs K S H (xs ++ ys) (ds ++ es)
  | _, _, _, _, .nil, s => s
  | _, _, _, _, .cons q w r t, s => .cons q w r (RelTs.append t s)
theorem RelTs.mapPut {K : PySem.W.Frag} {k : List Int} {v : V} {u : Value} {d : D} (rv : RelV v u) (r : RelD K S H v d) : ∀ {xs : List (List Int × Addr × Value)} {ds : List (D × D)}, RelTs K S H xs ds →
    RelTs K S H (xs.map (putAt k u)) (ds.map fun e => if keyT e.1 = some k then (e.1, d) else e)
  | _, _, .nil => .nil
  | _, _, .cons (ks := k0) q w0 r0 t => by
    rw [List.map_cons, List.map_cons, keyT_ints]
    unfold putAt
    by_cases h : k0 = k
    · rw [if_pos h, if_pos (by rw [h])]
      exact .cons q rv r (RelTs.mapPut rv r t)
    · rw [if_neg h, if_neg (fun z => h (Option.some.inj z))]
      exact .cons q w0 r0 (RelTs.mapPut rv r t)
theorem RelTs.put {K : PySem.W.Frag} {k : List Int} {b : Addr} {v : V} {u : Value} {d : D} (hb : KeyAt K S H b k) (rv : RelV v u) (r : RelD K S H v d) {xs : List (List Int × Addr × Value)} {ds : List (D × D)} (q : RelTs K S H xs ds) : RelTs K S H (storedH xs k b u) (dputT ds k d) := by
  unfold storedH dputT
  rw [q.isSome k]
  cases (dgetT ds k).isSome with
  | true => exact RelTs.mapPut rv r q
  | false => exact RelTs.append q (.cons hb rv r .nil)
theorem td_ok {P : Program} {w : World} {H' : Hp} {h' : Heap} {a : Addr} {xs : List (List Int × Addr × Value)} (hd : (a == sysModules) = false) (hl : xs.length ≤ sizeLine) (dd : h'.DictOfH (PySem.tupleKind (PySem.intKind P w)) a xs) : ObjOk P w H' h' a (.ext (TDict a xs)) := by
  obtain ⟨o, es, ep, h1, h2, h3, h4, _, h5⟩ := dd
  exact ⟨⟨hd, hl, o, es, ep, h1, h2, h3, h4, h5⟩, ⟨o, h1⟩, fun g1 g2 ⟨hd, hl, o, es, ep, h1, r⟩ k => ⟨hd, hl, o, es, ep, k _ h1, r⟩⟩
theorem storedH_len (xs : List (List Int × Addr × Value)) (k : List Int) (b : Addr) (u : Value) : (storedH xs k b u).length ≤ xs.length + 1 := by
  unfold storedH
  split <;> simp
theorem td_setItem {a b : Addr} {xs : List (List Int × Addr × Value)} {es : List (D × D)} {ks : List Int} {u : Value} {Q : Unit → Shared → Prop} {A : Around} {E : Value → Shared → Prop} (hu : A.units + 1 < cLine) (I : Inv X pins σ H s) (h : H a = some (.ext (TDict a xs)) ∨ (xs = [] ∧ H a = some (.dK []))) (r : RelTs X.K S H xs es) (hb : KeyAt X.K S H b ks) (hl : xs.length < sizeLine)
    (q : ∀ s', Inv X pins σ (upd H a (.ext (TDict a (storedH xs ks b u)))) s' → Q () s') : wpAny (model X.prog X.w) A (setItem (.ref a) (.ref b) u) Q E s := by
  obtain ⟨hd, hl0, dd⟩ := td_at I (h.imp .inl fun ⟨e, h⟩ => ⟨e, .inl h⟩) r
  have mu : Mut (H a) := by
    rcases h with h | ⟨_, h⟩ <;> (rw [h]; exact True.intro)
  refine PySem.wpAny_setItem_heap (hsz := hl0) (PySem.tupleKind_room_in1 hu) (key_ofT I hb) dd fun h' dd' hs => q _ ?_
  have he : ∃ q, h'.get? a = some q := let ⟨q, _, _, hq, _⟩ := dd'; ⟨q, hq⟩
  exact d_write I mu hs he (td_ok hd (by have := storedH_len xs ks b u; omega) dd')
theorem gPutT_notB {o kd d o' : D} (h : gPutT o kd d = some o') : isBg o = false := by
  cases o with
  | tuple xs =>
    unfold gPutT at h
    split at h
    · rename_i e2
      cases (show (none : Option (List (D × D))) = some _ from e2)
    · cases h
  | _ => rfl
theorem putT_ok {A : Nat → Addr} {σ : L2.St} {B : List Addr} {H : Hp} {ρ : Rho} {i : Nat} {o kd d o' : D} {kv v : V} (E : Ev F B A σ H ρ) (e : ρ[i]? = some (some (true, o))) (hg : gPutT o kd d = some o') (rk : RR F.K (Av F B A ρ) H kv kd) (rv : RelD F.K (Av F B A ρ) H v d) :
    ∃ xs es ks b, (H (A i) = some (.ext (TDict (A i) xs)) ∨ (xs = [] ∧ H (A i) = some (.dK []))) ∧ RelTs F.K (Av F B A ρ) H xs es ∧ kv = .ref b ∧ KeyAt F.K (Av F B A ρ) H b ks ∧ xs.length < sizeLine ∧
      ∀ u, RelV v u → Gro (fun b => b = A i) H (upd H (A i) (.ext (TDict (A i) (storedH xs ks b u)))) ∧ RelO F.K (Av F B A ρ) (upd H (A i) (.ext (TDict (A i) (storedH xs ks b u)))) (A i) o' := by
  have hC : ∀ a, a = A i → Av F B A ρ a := fun a h => .inr (.inr ⟨i, _, e, .inl h⟩)
  obtain ⟨_, r⟩ := E.own i _ e
  unfold gPutT at hg
  split at hg
  · rename_i ks es e1 e2
    split at hg
    · rename_i hl
      cases hg
      have e3 := keyT_some e1
      subst e3
      obtain ⟨b, rfl, hb⟩ := rk.keyAt
      have hx : ∃ xs, (H (A i) = some (.ext (TDict (A i) xs)) ∨ (xs = [] ∧ H (A i) = some (.dK []))) ∧ RelTs F.K (Av F B A ρ) H xs es := by
        unfold tdE at e2
        split at e2
        · cases e2
          rcases r with ⟨kvs, h1, h2⟩ | ⟨xs, h1, h2⟩
          · cases h2
            exact ⟨[], .inr ⟨rfl, h1⟩, .nil⟩
          · cases h2
        · cases e2
          rcases r with ⟨kvs, h1, h2⟩ | ⟨xs, h1, h2⟩
          · have : ∀ {k : D} {d : D} {r : List (D × D)} {kvs}, RelKs F.K (Av F B A ρ) H kvs ((k, d) :: r) → ∃ q, k = kD q := fun h => by cases h; exact ⟨_, rfl⟩
            obtain ⟨q, hq⟩ := this h2
            cases q <;> cases hq
          · cases h2 with
            | mk h2 => exact ⟨xs, .inl h1, h2⟩
        · cases e2
      obtain ⟨xs, h1, h2⟩ := hx
      refine ⟨xs, es, ks, b, h1, h2, rfl, hb, by rw [h2.length]; exact hl, fun u ru => ?_⟩
      have G : Gro (fun b => b = A i) H (upd H (A i) (.ext (TDict (A i) (storedH xs ks b u)))) := by
        rcases h1 with h1 | ⟨_, h1⟩
        · exact Gro.upd h1 fun ps z => nomatch z
        · exact Gro.upd h1 fun ps z => nomatch z
      exact ⟨G, .inr ⟨_, upd_same, (RelMk.mk (RelTs.put hb ru rv h2)).mono G (fun _ z => z) hC⟩⟩
    · cases hg
  · cases hg
def mPutT (i : Nat) (mk mv : M D) : MS := fun ρ => match mv ρ with
  | some (d, ρ1) => (match ρ1[i]? with
    | some (some (true, o)) => (match mk ρ1 with
      | some (kd, ρ2) => (match gPutT o kd d with
        | some o' => some (.nx (ρ2.set i (some (true, o'))))
        | none => none)
      | none => none)
    | _ => none)
  | none => none
theorem s_putT {i : Nat} {x : Str} {k value : Expr} {mk mv : M D} {depk effk effv : List Nat} {xp pos' : Pos} (hu : X.A.units + 1 < cLine) (hN : X.N[i]? = some x) (hv : Vis X.env.scope x) (hk : PE X k (rd F mk depk effk)) (hval : PE X value (rd F mv [] effv)) (hne : i ∉ effk := by decide)
    (hs : swapsWith value (some (.Subscript (.Name x xp) k pos')) pos.line X.env = pure false := by rfl) (hd : (x == ("__debug__" : Str)) = false := by decide) (hcd : (x == ("__classdict__" : Str)) = false := by decide) (hK : X.K = F.K := by rfl) :
    PS X (.Assign [.Subscript (.Name x xp) k pos'] value pos) (rdS F (mPutT i mk mv)) := by
  refine ⟨fun pins s σ H Dn I ⟨A, ρ, out, E, hm, kk⟩ => ?_⟩
  unfold mPutT at hm
  split at hm
  · rename_i d ρ1 e1
    split at hm
    · rename_i o e2
      split at hm
      · rename_i kd ρ2 e3
        split at hm
        · rename_i o' e4
          cases hm
          refine wpAny_Assign_Subscript (thn (hval.run pins s σ H (fun v H1 => Post F [] A σ H ρ effv H1 ρ1 ∧ Val F [] A ρ1 H1 [] v d) I ⟨[], A, ρ, d, ρ1, E, e1, fun v H1 P r => ⟨P, r⟩⟩) fun r s1 ⟨v, H1, I1, rv, P1, r1⟩ => ?_) hs
          obtain ⟨h1, h2⟩ := P1.env.own i o e2
          refine thn ((pe_var (pos := xp) hN hv hd hcd).run pins s1 σ H1 (fun w H2 => w = .ref (A i) ∧ H2 = H1) I1 ⟨_, h1, rfl, rfl⟩) fun u s2 ⟨x, H2, I2, rx, q1, q2⟩ => ?_
          subst q1 q2
          cases rx
          refine thn (hk.run pins s2 σ H2 (fun w H3 => Post F [] A σ H2 ρ1 effk H3 ρ2 ∧ Val F [] A ρ2 H3 depk w kd) I2 ⟨[], A, ρ1, kd, ρ2, P1.env, e3, fun v H1 P r => ⟨P, r⟩⟩) fun iv s3 ⟨y, H3, I3, ry, P2, r2⟩ => ?_
          have e5 : ρ2[i]? = some (some (true, o)) := by rw [P2.lv.keep i hne]; exact e2
          have rv' := (r1.later P2.gro P2.lv (by simp)).plain
          obtain ⟨xs, es, ks, b, g1, g2, rfl, g3, g4, g5⟩ := putT_ok P2.env e5 e4 (r2.rr P2.env) rv'
          cases ry
          obtain ⟨G, R⟩ := g5 r rv
          exact td_setItem hu I3 g1 (hK ▸ g2) (hK ▸ g3) g4 fun s4 I4 => ⟨σ, _, I4, kk A σ _ (P2.write e5 G R (gPutT_notB e4)).env⟩
        · cases hm
      · cases hm
    · cases hm
  · cases hm
end
end PD
set_option Elab.async false
set_option linter.all false
set_option maxRecDepth 100000
set_option maxHeartbeats 2000000
namespace TSh
open PySem PyProof.Rows
def up (ns : List Int) : List Int := ns.map (· + 1000000)
def rk (ns : List Int) : Int := TS.code 2000001 (up ns)
def In (ns : List Int) : Prop := ∀ m ∈ ns, -1000000 ≤ m ∧ m ≤ 1000000
section
variable {prog : Program} {w : World} {A : Around} {E : Value → Shared → Prop} {s : Shared}
end
def Tups (h : Heap) (d : Nat) (vs : List Value) : Prop := ∀ v ∈ vs, ∃ ns, TS.TupInts h v ns ∧ ns.length = d ∧ In ns
theorem Tups.keeps {h h' : Heap} {d : Nat} {vs : List Value} (x : Tups h d vs) (k : ∀ b o, h.get? b = some o → o.cls = .type "tuple" → h'.get? b = some o) : Tups h' d vs := fun v hv => let ⟨ns, t, r⟩ := x v hv; ⟨ns, t.keeps k, r⟩
section
variable {prog : Program} {w : World} {A : Around} {E : Value → Shared → Prop} {s : Shared}
end
end TSh
namespace PD
open PySem PySem.Spec PyProof.Rows L2 GxR GenX OwnK
def okS (d : Nat) (ks : List (List Int)) : Prop := 1 ≤ d ∧ ks.length < 64 ∧ ∀ k ∈ ks, k.length = d ∧ TSh.In k
section
variable {X : Cx} {F : Frm} {pos p : Pos} {S : Addr → Prop} {H : Hp} {pins : List (Addr × Obj)} {σ : L2.St} {s : Shared}
def keysT : List (D × D) → Option (List (List Int))
  | [] => some []
  | (kd, _) :: r => (match keyT kd, keysT r with
    | some k, some l => some (k :: l)
    | _, _ => none)
def tupI (ks : List Int) : D := .tuple (ks.map .int)
instance {ns : List Int} : Decidable (TSh.In ns) := inferInstanceAs (Decidable (∀ m ∈ ns, _))
instance {d : Nat} {ks : List (List Int)} : Decidable (okS d ks) := inferInstanceAs (Decidable (_ ∧ _ ∧ _))
theorem RelTs.keysT {K : PySem.W.Frag} : ∀ {xs : List (List Int × Addr × Value)} {es : List (D × D)}, RelTs K S H xs es → PD.keysT es = some (xs.map (·.1))
  | _, _, .nil => rfl
  | _, _, .cons _ _ _ t => by
    unfold PD.keysT
    rw [keyT_ints, t.keysT]
    rfl
theorem KeyAt.rel {K : PySem.W.Frag} {b : Addr} {ks : List Int} (h : KeyAt K S H b ks) : RelD K S H (.ref b) (tupI ks) := by
  rcases h with ⟨n, s⟩ | s
  · exact .tup n s (rels_ints ks)
  · exact .tupK s (rels_ints ks)
theorem rels_keys {K : PySem.W.Frag} : ∀ {L : List (List Int × Addr × Value)}, (∀ x ∈ L, KeyAt K S H x.2.1 x.1) → RelDs K S H (L.map fun x => V.ref x.2.1) (L.map fun x => tupI x.1)
  | [], _ => .nil
  | x :: r, h => .cons (h x List.mem_cons_self).rel (rels_keys fun y hy => h y (List.mem_cons_of_mem _ hy))
end
end PD
set_option Elab.async false
set_option linter.all false
set_option maxRecDepth 100000
set_option maxHeartbeats 2000000
namespace PD
open PySem PySem.Spec PyProof.Rows L2 GxR GenX OwnK
section
variable {prog : Program} {w : World} {A : Around} {E : Value → Shared → Prop} {s : Shared} {l : Addr} {its : List Value} {ns : List Int} {Q : Value → Shared → Prop}
end
section
variable {X : Cx} {K : PySem.W.Frag}
theorem sputT {F : Frm} {pos : Pos} (i : Nat) {x : Str} {k value : Expr} {mk mv : M D} {depk effk effv : List Nat} {xp pos' : Pos} (hu : X.A.units + 1 < cLine) (hk : PE X k (rd F mk depk effk)) (hval : PE X value (rd F mv [] effv)) (hN : X.N[i]? = some x := by rfl) (hv : Vis X.env.scope x := by first | exact Or.inl rfl | exact Or.inr (Or.inl rfl) | exact Or.inr (Or.inr rfl)) (hne : (!decide (i ∈ effk)) = true := by rfl)
    (hs : swapsWith value (some (.Subscript (.Name x xp) k pos')) pos.line X.env = pure false := by rfl) (hd : (x == ("__debug__" : Str)) = false := by decide) (hcd : (x == ("__classdict__" : Str)) = false := by decide) (hK : X.K = F.K := by rfl) :
    PS X (.Assign [.Subscript (.Name x xp) k pos'] value pos) (rdS F (mPutT i mk mv)) := s_putT hu hN hv hk hval (nio hne) hs hd hcd hK
end
end PD
set_option Elab.async false
set_option linter.all false
set_option maxRecDepth 100000
set_option maxHeartbeats 4000000
namespace DcG
open PySem PySem.Spec PyProof.Rows L2
abbrev PutR := Addr → V → V → Hp → (Hp → Prop) → Prop
section
variable {X : Cx} {Put : PutR}
section
variable {kx vx tg iter : Expr} {ifs : List Expr} {scope : Scope} {own : List (Str × Nat)} {cpos pos' : Pos} {wi : TI} {g : TG} {tt : TT} {tk tv : TE}
end
end
end DcG
namespace PD
open PySem PySem.Spec PyProof.Rows L2 GxR GenX OwnK
def tdC : List (D × D) → D
  | [] => .dict []
  | e :: r => tdD (e :: r)
def TdSt (G : Hp) (d : Addr) (xs : List (List Int × Addr × Value)) (acc : List (D × D)) : Prop := (xs = [] ∧ acc = [] ∧ G d = some (.dK [])) ∨ (xs ≠ [] ∧ G d = some (.ext (TDict d xs)))
theorem TdSt.keep {G G' : Hp} {d : Addr} {xs : List (List Int × Addr × Value)} {acc : List (D × D)} (h : TdSt G d xs acc) (k : ∀ o, G d = some o → (∀ ps, o ≠ .tbl ps) → G' d = some o) : TdSt G' d xs acc := by
  rcases h with ⟨a, b, e⟩ | ⟨a, e⟩
  · exact .inl ⟨a, b, k _ e fun ps z => nomatch z⟩
  · exact .inr ⟨a, k _ e fun ps z => nomatch z⟩
theorem TdSt.st {G : Hp} {d : Addr} {xs : List (List Int × Addr × Value)} {acc : List (D × D)} (h : TdSt G d xs acc) : G d = some (.ext (TDict d xs)) ∨ (xs = [] ∧ G d = some (.dK [])) := by
  rcases h with ⟨a, b, e⟩ | ⟨a, e⟩
  · exact .inr ⟨a, e⟩
  · exact .inl e
theorem TdSt.rel {K : PySem.W.Frag} {S : Addr → Prop} {G : Hp} {d : Addr} {xs : List (List Int × Addr × Value)} {acc : List (D × D)} (h : TdSt G d xs acc) (r : RelTs K S G xs acc) : RelO K S G d (tdC acc) := by
  rcases h with ⟨a, b, e⟩ | ⟨a, e⟩
  · subst a b
    exact .inl ⟨[], e, .nil⟩
  · cases acc with
    | nil => cases r; exact absurd rfl a
    | cons p l => exact .inr ⟨xs, e, .mk r⟩
theorem RelTs.mono {K : PySem.W.Frag} {S S' C : Addr → Prop} {G G' : Hp} {xs : List (List Int × Addr × Value)} {ds : List (D × D)} (r : RelTs K S G xs ds) (g : Gro C G G') (h1 : ∀ a, S' a → S a) (h2 : ∀ a, C a → S a) : RelTs K S' G' xs ds := RelTs.mono' g h1 h2 _ _ r
theorem RelTs.ext {K : PySem.W.Frag} {S : Addr → Prop} {G G' : Hp} {xs : List (List Int × Addr × Value)} {ds : List (D × D)} (g : Ext G G') (r : RelTs K S G xs ds) : RelTs K S G' xs ds := r.mono (C := fun _ => False) g.gro (fun _ z => z) fun _ z => z.elim
theorem RelMk.ts {K : PySem.W.Frag} {S : Addr → Prop} {G : Hp} {xs : List (List Int × Addr × Value)} {k d : D} {ds : List (D × D)} (h : RelMk K S G xs ((k, d) :: ds)) : RelTs K S G xs ds := by
  cases h with
  | mk h => exact h
theorem RR.mono' {K : PySem.W.Frag} {S S' C : Addr → Prop} {G G' : Hp} {ks : List Int} {v : V} (r : RR K S G v (.tuple (ks.map .int))) (g : Gro C G G') (h1 : ∀ a, S' a → S a) (h2 : ∀ a, C a → S a) : RR K S' G' v (.tuple (ks.map .int)) := by
  rcases r with r | ⟨a, _, r⟩
  · exact .inl (r.mono g h1 h2)
  · exact r.elim
section
variable {X : Cx} {F : Frm} {pos p : Pos} {tg : Expr}
def dcLT (g : D → Rho → Option Rho) (mt : M Bool) (mk mv : M D) (vs : List Nat) : List D → List (D × D) → Rho → Option (List (D × D) × Rho)
  | [], acc, ρ => some (acc, ρ)
  | d :: r, acc, ρ => match g d ρ with
    | none => none
    | some ρ1 => (match mt ρ1 with
      | some (true, ρ2) => (match mk ρ2 with
        | some (kd, ρk) => (match mv ρk with
          | some (y, ρ3) => (match keyT kd with
            | some key => if acc.length < sizeLine then dcLT g mt mk mv vs r (dputT acc key y) (wipeR ρ3 vs) else none
            | none => none)
          | none => none)
        | none => none)
      | some (false, ρ2) => dcLT g mt mk mv vs r acc (wipeR ρ2 vs)
      | none => none)
def mDcT (mi : M (List D)) (g : D → Rho → Option Rho) (mt : M Bool) (mk mv : M D) (vs : List Nat) : M D := fun ρ => match mi ρ with
  | some (ds, ρ1) => (match dcLT g mt mk mv vs ds [] (wipeR ρ1 vs) with
    | some (acc, ρ2) => some (tdC acc, wipeR ρ2 vs)
    | none => none)
  | none => none
section
variable {kx vx iter : Expr} {ifs : List Expr} {scope : Scope} {own : List (Str × Nat)}
end
def gAddN : D → D → Option D
  | .list a, .list b => if a.length + b.length ≤ sizeLine then some (.list (a ++ b)) else none
  | _, _ => none
end
end PD
set_option Elab.async false
set_option linter.all false
set_option maxRecDepth 100000
set_option maxHeartbeats 2000000
namespace PD
open PySem PySem.Spec PyProof.Rows L2 GxR GenX OwnK
section
variable {X : Cx} {F : Frm} {K : PySem.W.Frag}
end
end PD
set_option Elab.async false
set_option linter.all false
set_option maxRecDepth 100000
set_option maxHeartbeats 2000000
namespace PD
open PySem PySem.Spec PyProof.Rows L2 GxR GenX OwnK
section
variable {X : Cx} {F : Frm} {pos p : Pos} {K : PySem.W.Frag}
def gSeq : D → Option (List D)
  | .list ds => some ds
  | .tuple ds => some ds
  | _ => none
def mStar (m : M D) (ms : M (List D)) : M (List D) := fun ρ => match m ρ with
  | some (d, ρ1) => (match gSeq d with
    | some ds => (match ms ρ1 with
      | some (es, ρ2) => some (ds ++ es, ρ2)
      | none => none)
    | none => none)
  | none => none
theorem RR.seq {S : Addr → Prop} {H : Hp} {v : V} {d : D} {ds : List D} (r : RR K S H v d) (h : gSeq d = some ds) : ∃ a xs, v = .ref a ∧ (SqT K H a xs ∨ SqL K H a xs) ∧ RelDs K S H xs ds := by
  unfold gSeq at h
  split at h
  · cases h
    obtain ⟨a, xs, e, h1, h2⟩ := r.list
    exact ⟨a, xs, e, .inr h1, h2⟩
  · cases h
    obtain ⟨a, xs, e, h1, h2⟩ := r.tuple
    exact ⟨a, xs, e, .inl h1, h2⟩
  · cases h
theorem RelDs.vals {B : List Addr} {A : Nat → Addr} {ρ : Rho} {H : Hp} {dep : List Nat} : ∀ {xs : List V} {ds : List D}, RelDs F.K (Av F B A ρ) H xs ds → Paired (Val F B A ρ H dep) xs ds
  | _, _, .nil => .nil
  | _, _, .cons r t => .cons (.inl r) (RelDs.vals t)
theorem paired_app {α β : Type} {R : α → β → Prop} : ∀ {xs ys : List α} {ds es : List β}, Paired R xs ds → Paired R ys es → Paired R (xs ++ ys) (ds ++ es)
  | _, _, _, _, .nil, s => s
  | _, _, _, _, .cons r t, s => .cons r (paired_app t s)
theorem xa_star {e : Expr} {es : List Expr} {sp : Pos} {m : M D} {ms : M (List D)} {dep1 eff1 dep2 eff2 : List Nat} (ha : PE X e (rd F m dep1 eff1)) (hr : PA X es (rdA F ms dep2 eff2)) (hK : X.K = F.K := by rfl)
    (hs : starEach (.Starred e sp :: es) X.env = (true, eval e X.env) :: starEach es X.env := by rfl) : PA X (.Starred e sp :: es) (rdA F (mStar m ms) dep2 (eff1 ++ eff2)) := by
  refine PA.mono (StX.pa_star ha hr hs) fun σ H Q ⟨B, A, ρ, ds, ρ2, E, hm, k⟩ => ?_
  unfold mStar at hm
  split at hm
  · rename_i d ρ1 e1
    split at hm
    · rename_i ds1 eg
      split at hm
      · rename_i es' ρ2' e2
        cases hm
        refine ⟨B, A, ρ, d, ρ1, E, e1, fun v1 H1 P1 r1 => ?_⟩
        obtain ⟨a, xs, rfl, hx, rx⟩ := (r1.rr P1.env).seq eg
        refine ⟨a, xs, rfl, hK ▸ hx, B, A, ρ1, es', ρ2, P1.env, e2, fun vs H2 P2 r2 => ?_⟩
        exact k _ H2 (P1.trans P2) (paired_app (RelDs.vals (rx.mono P2.gro (fun a z => P2.lv.av z) fun a z => .inr (.inr z))) r2)
      · cases hm
    · cases hm
  · cases hm
def gPop0 : D → Option (D × D)
  | .list ds => (ds.getLast?).map fun d => (d, .list ds.dropLast)
  | _ => none
def gRev : D → Option (D × D)
  | .list ds => some (.none, .list ds.reverse)
  | _ => none
def mMut0 (i : Nat) (g : D → Option (D × D)) : M D := fun ρ => match ρ[i]? with
  | some (some (true, o)) => (match g o with
    | some (r, o') => some (r, ρ.set i (some (true, o')))
    | none => none)
  | _ => none
theorem mMut0_some {i : Nat} {g : D → Option (D × D)} {ρ ρ' : Rho} {r : D} (h : mMut0 i g ρ = some (r, ρ')) : ∃ o o', ρ[i]? = some (some (true, o)) ∧ g o = some (r, o') ∧ ρ' = ρ.set i (some (true, o')) := by
  unfold mMut0 at h
  split at h
  · rename_i o e
    split at h
    · rename_i r' o' e2
      cases h
      exact ⟨o, o', e, e2, rfl⟩
    · cases h
  · cases h
theorem RelDs.reverse {S : Addr → Prop} {H : Hp} : ∀ {xs : List V} {ds : List D}, RelDs K S H xs ds → RelDs K S H xs.reverse ds.reverse
  | _, _, .nil => .nil
  | _, _, .cons r t => by rw [List.reverse_cons, List.reverse_cons]; exact (RelDs.reverse t).append (.cons r .nil)
theorem RelDs.dropLast {S : Addr → Prop} {H : Hp} {xs : List V} {ds : List D} (r : RelDs K S H xs ds) : RelDs K S H xs.dropLast ds.dropLast := by
  rw [List.dropLast_eq_take, List.dropLast_eq_take, r.length]
  exact r.take _
theorem x_rev {i : Nat} {x : Str} {apos cpos xp : Pos} (hN : X.N[i]? = some x) (hv : Vis X.env.scope x)
    (hd : (x == ("__debug__" : Str)) = false := by decide) (hcd : (x == ("__classdict__" : Str)) = false := by decide)
    (hbase : attributeBase (.Name x xp) "reverse" X.env (eval (.Name x xp) X.env) = eval (.Name x xp) X.env := by rfl) (hline : (apos.endLine == cpos.line) = true := by rfl) :
    PE X (.Call (.Attribute (.Name x xp) "reverse" apos) [] [] cpos) (rd F (mMut0 i gRev) [] [i]) := by
  refine PE.mono (pe_bm0 PySem.F.plainAttrs_list PySem.F.slot_list_reverse PySem.F.type_list_reverse mt_reverse (pe_var hN hv hd hcd) hbase hline) fun σ H Q ⟨B, A, ρ, r, ρ2, E, hm, k⟩ => ?_
  obtain ⟨o, o', e, eg, rfl⟩ := mMut0_some hm
  unfold gRev at eg
  split at eg
  · rename_i ds
    cases eg
    obtain ⟨h1, xs, h2, h3⟩ := E.own i _ e
    have G : Gro (fun b => b = A i) H (upd H (A i) (.lst xs.reverse)) := Gro.upd h2 fun ps z => nomatch z
    have hC : ∀ a, a = A i → Av F B A ρ a := fun a h => .inr (.inr ⟨i, _, e, .inl h⟩)
    refine ⟨_, h1, .inl ⟨rfl, xs, SqL.of h2⟩, A i, xs, rfl, rfl, h2, ?_⟩
    exact k .non _ ((Post.refl E).write (d' := .list ds.reverse) e G ⟨_, upd_same, h3.reverse.mono G (fun _ z => z) hC⟩) (.inl .non)
  · cases eg
theorem x_pop0 {i : Nat} {x : Str} {apos cpos xp : Pos} (hN : X.N[i]? = some x) (hv : Vis X.env.scope x)
    (hd : (x == ("__debug__" : Str)) = false := by decide) (hcd : (x == ("__classdict__" : Str)) = false := by decide)
    (hbase : attributeBase (.Name x xp) "pop" X.env (eval (.Name x xp) X.env) = eval (.Name x xp) X.env := by rfl) (hline : (apos.endLine == cpos.line) = true := by rfl) :
    PE X (.Call (.Attribute (.Name x xp) "pop" apos) [] [] cpos) (rd F (mMut0 i gPop0) [] [i]) := by
  refine PE.mono (pe_bm0 PySem.F.plainAttrs_list PySem.F.slot_list_pop PySem.F.type_list_pop mt_pop (pe_var hN hv hd hcd) hbase hline) fun σ H Q ⟨B, A, ρ, r, ρ2, E, hm, k⟩ => ?_
  obtain ⟨o, o', e, eg, rfl⟩ := mMut0_some hm
  unfold gPop0 at eg
  split at eg
  · rename_i ds
    cases q : ds.getLast? with
    | none => rw [q] at eg; cases eg
    | some d =>
      rw [q] at eg
      cases eg
      rw [List.getLast?_eq_getElem?] at q
      obtain ⟨h1, xs, h2, h3⟩ := E.own i _ e
      obtain ⟨y, hy, ry⟩ := h3.get q
      have G : Gro (fun b => b = A i) H (upd H (A i) (.lst xs.dropLast)) := Gro.upd h2 fun ps z => nomatch z
      have hC : ∀ a, a = A i → Av F B A ρ a := fun a h => .inr (.inr ⟨i, _, e, .inl h⟩)
      refine ⟨_, h1, .inl ⟨rfl, xs, SqL.of h2⟩, A i, xs, y, rfl, rfl, h2, by rw [h3.length]; exact hy, ?_⟩
      have P2 := (Post.refl E).write (d' := .list ds.dropLast) e G ⟨_, upd_same, h3.dropLast.mono G (fun _ z => z) hC⟩
      exact k y _ P2 (.inl (ry.mono G (fun a z => P2.lv.av z) hC))
  · cases eg
def gExt : D → D → Option D
  | .list a, .list b => if a.length + b.length ≤ sizeLine then some (.list (a ++ b)) else none
  | _, _ => none
def mExt (i : Nat) (m : M D) : MS := fun ρ => match ρ[i]? with
  | some (some (true, o)) => (match m ρ with
    | some (d, ρ1) => (match gExt o d with
      | some o' => some (.nx (ρ1.set i (some (true, o'))))
      | none => none)
    | none => none)
  | _ => none
theorem set_self {σ : L2.St} {i : Nat} {v : V} (h : σ[i]? = some (some v)) : σ.set i (some v) = σ := by
  apply List.ext_getElem?
  intro j
  rw [List.getElem?_set]
  split
  · rename_i e
    subst e
    rw [h, if_pos (List.getElem?_eq_some_iff.mp h).1]
  · rfl
theorem s_ext {i : Nat} {x : Str} {e : Expr} {m : M D} {eff : List Nat} {pos' : Pos} (hN : X.N.Nodup) (hi : X.N[i]? = some x) (hx : Loc X.env.scope x) (he : PE X e (rdN F m eff)) (hne : i ∉ eff := by decide) (hf : X.fn x = true ∨ X.env.scope.names.lookup x = some .local := by first | exact .inl rfl | exact .inr rfl | assumption) :
    PS X (.AugAssign (.Name x pos') .Add e pos) (rdS F (mExt i m)) := PS.mono (ps_aug hN hi hx he iop_ext hf) fun Dn σ H ⟨A, ρ, out, E, hm, k⟩ => by
  unfold mExt at hm
  split at hm
  · rename_i o e2
    split at hm
    · rename_i d ρ1 e1
      split at hm
      · rename_i o' e3
        cases hm
        have hl : ∃ a b, o = .list a ∧ d = .list b ∧ a.length + b.length ≤ sizeLine ∧ o' = .list (a ++ b) := by
          unfold gExt at e3
          split at e3
          · split at e3
            · rename_i hz
              cases e3
              exact ⟨_, _, rfl, rfl, hz, rfl⟩
            · cases e3
          · cases e3
        obtain ⟨ds, bs, rfl, rfl, hz, rfl⟩ := hl
        have h1 := (E.own i _ e2).1
        refine ⟨_, h1, [], A, ρ, _, ρ1, E, e1, fun q H1 P E1 hq r => ?_⟩
        have e4 : ρ1[i]? = some (some (true, .list ds)) := by rw [P.lv.keep i hne]; exact e2
        obtain ⟨_, xs, g2, g3⟩ := P.env.own i _ e4
        obtain ⟨zs, r2, r3⟩ := r
        have G : Gro (fun b => b = A i) H1 (upd H1 (A i) (.lst (xs ++ zs))) := Gro.upd g2 fun ps z => nomatch z
        have hC : ∀ a, a = A i → Av F [] A ρ1 a := fun a h => .inr (.inr ⟨i, _, e4, .inl h⟩)
        have r4 : RelDs F.K (Av F [] A ρ1) H1 zs bs := r3.mono (C := fun _ => False) (Gro.refl _) (fun a z => by
          rcases z with z | z | z
          · exact .inl z
          · cases z
          · exact .inr (.inr z)) fun _ z => z.elim
        refine ⟨A i, q, xs, zs, rfl, rfl, g2, r2, by rw [g3.length, r4.length]; exact hz, ?_⟩
        show Dn.nx (σ.set i (some (.ref (A i)))) _
        rw [set_self h1]
        exact k A σ _ (P.write (d' := .list (ds ++ bs)) e4 G ⟨_, upd_same, (g3.append r4).mono G (fun _ z => z) hC⟩).env
      · cases hm
    · cases hm
  · cases hm
end
end PD
set_option Elab.async false
set_option linter.all false
set_option maxRecDepth 100000
set_option maxHeartbeats 2000000
namespace PD
open PySem PySem.Spec PyProof.Rows L2 GxR GenX OwnK
def bagD (a b : Int) (gs : List Int) (dc : D) : D := .tuple [.int a, .int b, .list (gs.map .int), dc]
def unbag : D → Option (Int × Int × List Int × D)
  | .tuple [.int a, .int b, .list gs, dc] => (allInts gs).map fun ns => (a, b, ns, dc)
  | _ => none
section
variable {X : Cx} {F : Frm} {pos p : Pos} {K : PySem.W.Frag}
theorem map_int_inj {gs hs : List Int} (h : gs.map PyData.int = hs.map .int) : gs = hs := List.map_inj_right (fun _ _ e => PyData.int.inj e) |>.mp h
theorem BagAt.get {S : Addr → Prop} {H : Hp} {p q : Addr} {a b : Int} {gs : List Int} {dc : D} (h : BagAt K S H p q [.int a, .int b, .list (gs.map .int), dc]) : ∃ vc, H p = some (.lst [.int a, .int b, .ref q, vc]) ∧ H q = some (.lst (gs.map V.int)) ∧ RelD K S H vc dc := by
  obtain ⟨x0, x1, gs', vc, dc', e, h1, h2, r⟩ := h
  simp only [List.cons.injEq, PyData.int.injEq, PyData.list.injEq, and_true] at e
  obtain ⟨rfl, rfl, e, rfl⟩ := e
  rw [map_int_inj e]
  exact ⟨vc, h1, h2, r⟩
def mBag (i k : Nat) : M D := fun ρ => match ρ[i]? with
  | some (some (true, d)) => (match unbag d with
    | some (a, b, _, dc) => (match k with
      | 0 => some (.int a, ρ)
      | 1 => some (.int b, ρ)
      | 3 => some (dc, ρ)
      | _ => none)
    | none => none)
  | _ => none
def mBagLen (i : Nat) : M D := fun ρ => match ρ[i]? with
  | some (some (true, d)) => (match unbag d with
    | some (_, _, gs, _) => some (.int gs.length, ρ)
    | none => none)
  | _ => none
def mBagPop (i : Nat) : M D := fun ρ => match ρ[i]? with
  | some (some (true, d)) => (match unbag d with
    | some (a, b, gs, dc) => (match gs.getLast? with
      | some g => some (.int g, ρ.set i (some (true, bagD a b gs.dropLast dc)))
      | none => none)
    | none => none)
  | _ => none
def mBagPut (i k : Nat) (mv : M D) : MS := fun ρ => match mv ρ with
  | some (.int v, ρ1) => (match ρ1[i]? with
    | some (some (true, d)) => (match unbag d with
      | some (a, b, gs, dc) => (match k with
        | 0 => some (.nx (ρ1.set i (some (true, bagD v b gs dc))))
        | 1 => some (.nx (ρ1.set i (some (true, bagD a v gs dc))))
        | _ => none)
      | none => none)
    | _ => none)
  | _ => none
end
end PD
set_option Elab.async false
set_option linter.all false
set_option maxRecDepth 100000
set_option maxHeartbeats 2000000
namespace PD
open PySem PySem.Spec PyProof.Rows L2 GxR GenX OwnK
def BagR (K : PySem.W.Frag) (S : Addr → Prop) (H : Hp) (p q : Addr) (d : D) : Prop := ∃ ds, d = .tuple ds ∧ BagAt K S H p q ds
section
variable {F : Frm} {B : List Addr} {A : Nat → Addr} {σ : L2.St} {H H' : Hp} {ρ ρ' : Rho} {p q : Addr}
end
def rdSB (F : Frm) (m : Rho → Option (D × Rho)) : TS := fun Dn σ H => ∃ A ρ d ρ', Ev F [] A σ H ρ ∧ m ρ = some (d, ρ') ∧ ∀ p q H', F.H0 p = none → F.H0 q = none → Gro (fun _ => False) F.H0 H' → BagR F.K (fun a => F.S a ∨ a = p ∨ a = q) H' p q d → Dn.rt (.ref p) H'
def mSeqB (m1 : MS) (m2 : Rho → Option (D × Rho)) : Rho → Option (D × Rho) := fun ρ => match m1 ρ with
  | some (.nx ρ1) => m2 ρ1
  | _ => none
section
variable {X : Cx} {F : Frm} {pos p : Pos}
def mRetB (i : Nat) (m3 : M D) : Rho → Option (D × Rho) := fun ρ => match ρ[i]? with
  | some (some (true, .list gs)) => (match allInts gs with
    | some ns => (match m3 ρ with
      | some (dc, ρ1) => some (bagD 0 0 ns dc, ρ1)
      | none => none)
    | none => none)
  | _ => none
end
def spB (K : PySem.W.Frag) (T : List Addr) (n : Nat) (f : List D → Option (D × List D)) : Sp := fun vs H Q _ => ∃ S A0 ds r ds', f ds = some (r, ds') ∧ ds.length = n ∧ ArgsOk K S [] A0 H vs ds ∧ (∀ a, S a → H a ≠ none) ∧ (∀ P ∈ T, TabN H P) ∧
  ∀ p q H', Gro (fun _ => False) H H' → H p = none → H q = none → BagR K (fun a => S a ∨ a = p ∨ a = q) H' p q r → Q (.ref p) H'
theorem spB_len {K : PySem.W.Frag} {T : List Addr} {n : Nat} {f : List D → Option (D × List D)} (vs : List V) (H : Hp) (Q : VK) (E : XK) (h : spB K T n f vs H Q E) : vs.length = n := by
  obtain ⟨S, A0, ds, r, ds', _, h1, h2, _⟩ := h
  rw [h2.len, h1]
def runB (n : Nat) (m : Rho → Option (D × Rho)) (ds : List D) : Option (D × List D) := (m (startR [] n ds)).map fun r => (r.1, backR r.2 ds.length)
section
variable {P : Program} {w : World} {K : PySem.W.Frag} {mg : Str → Option Value} {base : Heap}
theorem okB {x qual : Str} {st : Stmt} {f c : Addr} {fd : FuncData} {N ps : List Str} {k : Nat} {T : List Addr} {m : Rho → Option (D × Rho)} (F : FunC K x qual st f fd c) (Sc : FnScope N ps (defScope st))
    (hbody : ∀ (A : Around) (outer : List Env) (s : Shared) (H : Hp) (E : XK) (S : Addr → Prop) (A0 : Nat → Addr), Room k (A.deeper (envOfC qual (defScope st) s.heap.objs.size f (.ref c))) →
      PSs (cxOf CX0 P w K mg base N qual (defScope st) f (.ref c) A outer s H E).nox (defBody st) (rdSB ⟨K, S, [], T, H, A0, [], false⟩ m)) (hN : ps.length ≤ N.length ∧ N.length ≤ 1000 := by decide) :
    FnOk P w K mg base CX0 (k + 1) f fd ps (spB K T ps.length (runB N.length m)) := by
  obtain ⟨oc, od, kV, doc, pm, an, ct, osl, rfl, lk, hcd⟩ := F.ex
  refine fn_of lk hcd Sc spB_len fun A outer s H vs Q E hr hsp => ?_
  obtain ⟨S, A0, ds, r, ds', hfn, hn, ha, occ, tabs, k⟩ := hsp
  have hf : (startR [] N.length ds).length ≤ 1000 := by
    unfold startR
    rw [List.length_append, ioR_len, List.length_replicate]
    omega
  unfold runB at hfn
  cases q : m (startR [] N.length ds) with
  | none => rw [q] at hfn; cases hfn
  | some z =>
    rw [q] at hfn
    cases hfn
    exact ⟨_, (hbody A outer s H E S A0 hr).nox, A0, startR [] N.length ds, z.1, z.2, ev_start ha occ tabs hf, q, fun p q H' h1 h2 g b => k p q H' g h1 h2 b⟩
end
section
variable {X : Cx} {F : Frm} {pos p : Pos}
theorem putBack_none {ds : List D} {ρ : Rho} : putBack [none] ds ρ = ρ := by
  cases ds <;> simp [putBack]
end
end PD
set_option Elab.async false
set_option linter.all false
set_option maxRecDepth 100000
set_option maxHeartbeats 2000000
namespace PD
open PySem PySem.Spec PyProof.Rows L2 GxR GenX OwnK
def leS (a b : Str) : Bool := !ltCps b.cps.toList a.cps.toList
theorem leS_iff {a b : Str} : leS a b = true ↔ a.cps.toList ≤ b.cps.toList := by
  unfold leS
  rw [ltCps_eq, Bool.not_eq_true', decide_eq_false_iff_not]
  exact Iff.rfl
theorem leS_trans {a b c : Str} (h1 : leS a b = true) (h2 : leS b c = true) : leS a c = true := leS_iff.mpr (List.le_trans (leS_iff.mp h1) (leS_iff.mp h2))
theorem leS_total (a b : Str) : (leS a b || leS b a) = true := by
  rw [Bool.or_eq_true, leS_iff, leS_iff]
  exact List.le_total _ _
theorem leS_anti {a b : Str} (h1 : leS a b = true) (h2 : leS b a = true) : a = b := by
  have h := List.le_antisymm (leS_iff.mp h1) (leS_iff.mp h2)
  cases a; cases b
  exact congrArg Str.mk (Array.toList_inj.mp h)
def sortS (zs : List Str) : List Str := zs.mergeSort leS
theorem sortS_perm (zs : List Str) : (sortS zs).Perm zs := List.mergeSort_perm zs _
theorem sortS_sorted (zs : List Str) : (sortS zs).Pairwise fun a b => leS a b = true := List.pairwise_mergeSort (le := leS) (fun a b c h1 h2 => leS_trans h1 h2) (fun a b => leS_total a b) zs
theorem rising_pw : ∀ (p : Str) (l : List Str), risingS p l = true → (p :: l).Pairwise fun a b => leS a b = true
  | p, [], _ => List.pairwise_singleton _ _
  | p, x :: r, h => by
    unfold risingS at h
    rw [Bool.and_eq_true] at h
    have ih := rising_pw x r h.2
    have hx : leS p x = true := h.1
    refine List.pairwise_cons.mpr ⟨fun b hb => ?_, ih⟩
    rcases List.mem_cons.mp hb with hb | hb
    · rw [hb]; exact hx
    · exact leS_trans hx ((List.pairwise_cons.mp ih).1 b hb)
theorem sorted_pw {l : List Str} (h : sortedS l = true) : l.Pairwise fun a b => leS a b = true := by
  cases l with
  | nil => exact .nil
  | cons x r => exact rising_pw x r h
theorem sorted_uniqS {xs ys : List Str} (p : xs.Perm ys) (hx : xs.Pairwise fun a b => leS a b = true) (hy : ys.Pairwise fun a b => leS a b = true) : xs = ys := List.Perm.eq_of_pairwise (fun a b _ _ h1 h2 => leS_anti h1 h2) hx hy p
def keyStrs : List (D × D) → Option (List Str) := fun kvs => strsOf (kvs.map (·.1))
def gSortedS : List D → Option D
  | [.list ds] => (strsOf ds).bind fun zs => if zs.length < 64 then some (.list ((sortS zs).map .str)) else none
  | [.dict kvs] => (keyStrs kvs).bind fun zs => if isT kvs = false ∧ zs.length < 64 then some (.list ((sortS zs).map .str)) else none
  | _ => none
section
variable {X : Cx} {F : Frm} {pos p : Pos} {K : PySem.W.Frag}
theorem rels_strs {S : Addr → Prop} {H : Hp} : ∀ zs : List Str, RelDs K S H (zs.map V.str) (zs.map .str)
  | [] => .nil
  | z :: r => .cons (.str z) (rels_strs r)
theorem RelKs.strs {S : Addr → Prop} {H : Hp} : ∀ {kvs : List (Key × V)} {ds : List (D × D)} {zs : List Str}, RelKs K S H kvs ds → strsOf (ds.map (·.1)) = some zs → kvs.map (·.1) = zs.map Sum.inr
  | _, _, zs, .nil, h => by cases h; rfl
  | _, _, zs, .cons (k := k) (ds := ds) r t, h => by
    cases k with
    | inl i => cases h
    | inr z =>
      have h : (strsOf (ds.map (·.1))).map (z :: ·) = some zs := h
      cases q : strsOf (ds.map (·.1)) with
      | none => rw [q] at h; cases h
      | some l =>
        rw [q] at h
        cases h
        rw [List.map_cons, List.map_cons, RelKs.strs t q]
theorem c_sortedS (hcalm : X.calm = true) (hK : X.K = K := by rfl) : CallR X (.builtin "sorted") (rcall K gSortedS) := by
  subst hK
  intro pins s σ H xs us Q I r ⟨S, ds, d, hr, e, occ, k⟩
  unfold gSortedS at e
  split at e
  · rename_i l
    cases q : strsOf l with
    | none => rw [q] at e; cases e
    | some zs =>
      rw [q] at e
      have e : (if zs.length < 64 then some (PyData.list ((sortS zs).map .str)) else none) = some d := e
      split at e
      · rename_i h64
        cases e
        obtain ⟨v, rfl, r1⟩ := prs1 hr
        obtain ⟨a, ys, rfl, h1, q1⟩ := r1.list
        have z := strsOf_rel q q1
        subst z
        refine cr_sortedS pins s σ H _ us Q I r ⟨a, zs, rfl, h1, h64, fun ys p hp hs hn => ?_⟩
        have e : ys = sortS zs := sorted_uniqS (hp.trans (sortS_perm zs).symm) (sorted_pw hs) (sortS_sorted zs)
        subst e
        exact k _ _ (Ext.new hn) (.lst (fun z => occ _ z hn) (.inl upd_same) ((rels_strs _).ext (Ext.new hn)))
      · cases e
  · rename_i kvs
    cases q : keyStrs kvs with
    | none => rw [q] at e; cases e
    | some zs =>
      rw [q] at e
      have e : (if isT kvs = false ∧ zs.length < 64 then some (PyData.list ((sortS zs).map .str)) else none) = some d := e
      split at e
      · rename_i h64
        cases e
        obtain ⟨v, rfl, r1⟩ := prs1 hr
        obtain ⟨a, ys, rfl, h1, q1⟩ := r1.dict h64.1
        refine call_sortedD hcalm pins s σ H _ us Q I r ⟨a, ys, zs, rfl, h1, q1.strs q, h64.2, fun ys p hp hs hn => ?_⟩
        have e : ys = sortS zs := sorted_uniqS (hp.trans (sortS_perm zs).symm) (sorted_pw hs) (sortS_sorted zs)
        subst e
        exact k _ _ (Ext.new hn) (.lst (fun z => occ _ z hn) (.inl upd_same) ((rels_strs _).ext (Ext.new hn)))
      · cases e
  · cases e
def gSorted2 (ds : List D) : Option D := match gSorted ds with
  | some d => some d
  | none => gSortedS ds
theorem c_sorted2 (hcalm : X.calm = true) (hK : X.K = K := by rfl) : CallR X (.builtin "sorted") (rcall K gSorted2) := by
  intro pins s σ H xs us Q I r ⟨S, ds, d, hr, e, occ, k⟩
  unfold gSorted2 at e
  split at e
  · rename_i d' e'
    cases e
    exact c_sorted hcalm hK pins s σ H xs us Q I r ⟨S, ds, _, hr, e', occ, k⟩
  · exact c_sortedS hcalm hK pins s σ H xs us Q I r ⟨S, ds, d, hr, e, occ, k⟩
def gRevL : D → Option D
  | .list ds => some (.list ds.reverse)
  | _ => none
def gMulI : D → D → Option D
  | .int a, .int b => if (-18446744073709551616 < a ∧ a < 18446744073709551616) ∨ (-18446744073709551616 < b ∧ b < 18446744073709551616) then some (.int (a * b)) else none
  | _, _ => none
theorem sext (i : Nat) {x : Str} {e : Expr} {m : M D} {eff : List Nat} {pos' : Pos} (hN : X.N.Nodup) (he : PE X e (rdN F m eff)) (hi : X.N[i]? = some x := by rfl) (hx : Loc X.env.scope x := by first | exact Or.inl rfl | exact Or.inr rfl) (hne : (!decide (i ∈ eff)) = true := by rfl)
    (hf : X.fn x = true ∨ X.env.scope.names.lookup x = some .local := by first | exact .inl rfl | exact .inr rfl) : PS X (.AugAssign (.Name x pos') .Add e pos) (rdS F (mExt i m)) := s_ext hN hi hx he (nio hne) hf
end
end PD
set_option Elab.async false
set_option linter.all false
set_option maxRecDepth 100000
set_option maxHeartbeats 2000000
namespace PD
open PySem PySem.Spec PyProof.Rows L2 GxR GenX OwnK
section
variable {X : Cx} {F : Frm} {pos p : Pos} {K : PySem.W.Frag}
def gListOf2 : List D → Option D
  | [.str z] => if z.length ≤ sizeLine then some (.list (z.cps.toList.map fun c => .str ⟨#[c]⟩)) else none
  | ds => gListOf ds
theorem vals_signs {x : Str} {acc : Array Value} (h : ItemsOf (SignAt x) acc x.cps.size) : Vals (x.cps.toList.map fun c => V.str ⟨#[c]⟩) acc.toList := by
  have e : acc.toList.length = x.cps.toList.length := by rw [Array.length_toList, Array.length_toList]; exact h.1
  have key : ∀ (us : List Value) (cs : List Nat), us.length = cs.length → (∀ (j : Nat) (u : Value), us[j]? = some u → ∃ (c : Nat) (t : Tok), cs[j]? = some c ∧ u = Value.str ⟨#[c]⟩ t) → Vals (cs.map fun c => V.str ⟨#[c]⟩) us := by
    intro us
    induction us with
    | nil => intro cs hl _; cases cs with
      | nil => exact .nil
      | cons _ _ => cases hl
    | cons u r ih =>
      intro cs hl h
      cases cs with
      | nil => cases hl
      | cons c cs =>
        obtain ⟨c', t, h1, h2⟩ := h 0 u rfl
        cases h1
        exact .cons ⟨t, h2⟩ (ih cs (Nat.succ.inj hl) fun j w hw => h (j + 1) w hw)
  refine key _ _ e fun j u hj => ?_
  obtain ⟨c, t, h1, h2⟩ := h.2 j u (by rw [← hj, Array.getElem?_toList])
  exact ⟨c, t, by rw [Array.getElem?_toList]; exact h1, h2⟩
theorem rel_signs {K : PySem.W.Frag} {S : Addr → Prop} {H : Hp} : ∀ l : List Nat, RelDs K S H (l.map fun c => V.str ⟨#[c]⟩) (l.map fun c => .str ⟨#[c]⟩)
  | [] => .nil
  | i :: l => .cons (.str _) (rel_signs l)
theorem c_listN2 (hc : X.calm = true) {K : PySem.W.Frag} (hK : X.K = K := by rfl) : CallR X (.type "list") (fun xs H Q => ∃ S ds d, Paired (RR K S H) xs ds ∧ gListOf2 ds = some d ∧ ∀ p H', H p = none → Ext H H' → (∀ S' : Addr → Prop, (∀ a, S' a → S a ∨ a = p) → RelO K S' H' p d) → Q (.ref p) H') := by
  intro pins s σ H xs us Q I r ⟨S, ds, d, hr, e, k⟩
  unfold gListOf2 at e
  split at e
  · rename_i z
    split at e
    · rename_i hz
      cases e
      obtain ⟨v, rfl, r1⟩ := prs1 hr
      have ev := r1.str
      subst ev
      obtain ⟨u, rfl, ru⟩ := vals1 r
      obtain ⟨t, rfl⟩ := ru
      refine call_list_str (I.ok.hd hc) z t (hn := hz) fun h' tk acc c' hk e' hi => ?_
      have hf : H s.heap.objs.size = none := I.hok.fresh (Nat.le_refl _)
      refine ⟨.ref s.heap.objs.size, upd H s.heap.objs.size (.lst (z.cps.toList.map fun c => V.str ⟨#[c]⟩)), I.laid hk (Nat.le_refl _) (show ObjOk X.prog X.w _ _ _ (.lst _) from ⟨?_, acc.toList, c', vals_signs hi, ?_⟩), rfl, k _ _ hf (Ext.new hf) fun S' hs => ⟨_, upd_same, ?_⟩⟩
      · rw [List.length_map, Array.length_toList]; exact hz
      · rw [Array.toArray_toList]; exact e'
      · exact rel_signs _
    · cases e
  · exact c_listN hc hK pins s σ H xs us Q I r ⟨S, ds, d, hr, e, k⟩
end
end PD
set_option Elab.async false
set_option linter.all false
set_option maxRecDepth 100000
set_option maxHeartbeats 2000000
namespace PD
open PySem PySem.Spec PyProof.Rows L2 GxR GenX OwnK
section
variable {X : Cx} {K : PySem.W.Frag}
def gSum2 : List D → Option D
  | [.list ds] => (allInts ds).map fun ns => .int ns.sum
  | [.tuple ds] => (allInts ds).map fun ns => .int ns.sum
  | _ => none
end
end PD
set_option Elab.async false
set_option linter.all false
set_option maxRecDepth 100000
set_option maxHeartbeats 2000000
namespace PD
open PySem PySem.Spec PyProof.Rows L2 GxR GenX OwnK
section
variable {K : PySem.W.Frag}
end
section
variable {X : Cx} {F : Frm} {pos p : Pos} {tg : Expr} {K : PySem.W.Frag}
def mRev (m : M D) : M (List D) := fun ρ => match m ρ with
  | some (d, ρ1) => (match gItems d with
    | some ds => some (ds.reverse, ρ1)
    | none => none)
  | none => none
def gLt2 : D → D → Option D
  | .tuple a, .tuple b => match allInts a, allInts b with
    | some ns, some ms => some (.bool (HT.lexLt ns ms))
    | _, _ => none
  | a, b => gLt a b
end
end PD
set_option Elab.async false
set_option linter.all false
set_option maxRecDepth 100000
set_option maxHeartbeats 2000000
namespace PD
open PySem PySem.Spec PyProof.Rows L2 GxR GenX OwnK
def sortD (ds : List D) : List D := ds.mergeSort (PySem.W.dataLe false id)
def tupNe : D → Bool
  | .tuple (_ :: _) => true
  | _ => false
section
variable {K : PySem.W.Frag} {S : Addr → Prop} {H : Hp} {P : Program} {w : World}
theorem each_rel : ∀ {ys : List V} {its : List Value} {ds : List D}, Vals ys its → RelDs K S H ys ds → PySem.W.EachIs (fun u (b : V × D) => RelV b.1 u ∧ RelD K S H b.1 b.2) its (ys.zip ds)
  | _, _, _, .nil, .nil => .nil
  | _, _, _, .cons r t, .cons d q => .cons ⟨r, d⟩ (each_rel t q)
theorem each_vals {R : V × D → Prop} : ∀ {out : List Value} {L : List (V × D)}, PySem.W.EachIs (fun u (b : V × D) => RelV b.1 u ∧ RelD K S H b.1 b.2) out L → Vals (L.map (·.1)) out ∧ RelDs K S H (L.map (·.1)) (L.map (·.2))
  | _, _, .nil => ⟨.nil, .nil⟩
  | _, _, .cons h t => ⟨.cons h.1 (each_vals (R := R) t).1, .cons h.2 (each_vals (R := R) t).2⟩
end
section
variable {X : Cx} {K : PySem.W.Frag}
theorem zip_snd {α β : Type} : ∀ {xs : List α} {ys : List β}, xs.length = ys.length → (xs.zip ys).map (·.2) = ys
  | [], [], _ => rfl
  | _ :: xs, _ :: ys, h => by
    rw [List.zip_cons_cons, List.map_cons, zip_snd (by simpa using h)]
theorem each_reads {pins : List (Addr × Obj)} {σ : L2.St} {H : Hp} {S : Addr → Prop} {s : Shared} (I : Inv X pins σ H s) : ∀ {its : List Value} {bs : List (V × D)}, PySem.W.EachIs (fun u (b : V × D) => RelV b.1 u ∧ RelD X.K S H b.1 b.2) its bs → (∀ b ∈ bs, noD b.2 = true) → PySem.W.EachIs (fun u (b : V × D) => ∃ as, Reads s.heap u b.2 as) its bs
  | _, _, .nil, _ => .nil
  | _, _, .cons h t, hn => .cons (Dp.reads I _ _ _ (RelD.dp _ _ h.2 (hn _ List.mem_cons_self)) h.1) (each_reads I t fun b hb => hn b (List.mem_cons_of_mem _ hb))
theorem tupNe_of {d : D} (h : tupNe d = true) : ∃ x r, d = .tuple (x :: r) := by
  unfold tupNe at h
  split at h
  · exact ⟨_, _, rfl⟩
  · cases h
end
end PD
set_option Elab.async false
set_option linter.all false
set_option maxRecDepth 100000
set_option maxHeartbeats 2000000
namespace PD
open PySem PySem.Spec PyProof.Rows L2 GxR GenX OwnK
section
variable {X : Cx} {pins : List (Addr × Obj)} {σ : L2.St} {H : Hp} {s : Shared}
theorem pairs2 (I : Inv X pins σ H s) : ∀ {qs : List Addr} {ks : List (Key × V)}, Paired (fun q kv => SqT X.K H q [kV kv.1, kv.2]) qs ks →
    ∃ (prs : List (Key × Value)) (psv : List (Value × Value)), KV ks prs ∧ prs.length = qs.length ∧ psv.length = qs.length ∧ ∀ (j : Nat) (k v : Value), psv[j]? = some (k, v) → ∃ (key : Key) (b : Addr), prs[j]? = some (key, v) ∧ qs[j]? = some b ∧ IsTup s.heap b #[k, v] ∧ keyIs key k = true
  | _, _, .nil => ⟨[], [], .nil, rfl, rfl, fun j k v z => by simp at z⟩
  | _, _, .cons (a := q) (b := kv) hq t => by
    obtain ⟨prs, psv, r, l1, l2, hp⟩ := pairs2 I t
    obtain ⟨its, rv, ht, _⟩ := I.tuple hq
    cases rv with
    | cons r1 rv =>
      cases rv with
      | cons r2 rv =>
        cases rv
        rename_i u1 u2
        refine ⟨(kv.1, u2) :: prs, (u1, u2) :: psv, .cons ⟨rfl, r2⟩ r, by simp [l1], by simp [l2], fun j k v z => ?_⟩
        cases j with
        | zero =>
          cases (show (u1, u2) = (k, v) from Option.some.inj z)
          exact ⟨kv.1, q, rfl, rfl, ht, kV_is (P := X.prog) (w := X.w) r1⟩
        | succ j => simpa using hp j k v (by simpa using z)
theorem call_dictPT (hcalm : X.calm = true) : CallR X (.type "dict") (fun xs H Q => ∃ (a : Addr) (qs : List Addr) (ks : List (Key × V)), xs = [.ref a] ∧ SqT X.K H a (qs.map V.ref) ∧ IsT X.K H a ∧ Paired (fun q kv => SqT X.K H q [kV kv.1, kv.2]) qs ks ∧
    ∀ y, H y = none → Q (.ref y) (upd H y (.dK (mergeK [] ks)))) := by
  intro pins s σ H xs us Q I r ⟨a, qs, ks, ex, hs, it, hp, fin⟩
  subst ex
  cases r with
  | cons r0 r =>
    cases r
    cases r0
    obtain ⟨its, rv, pl, hz⟩ := I.tuple hs
    cases refs_at rv
    obtain ⟨prs, psv, rel, l1, l2, hpr⟩ := pairs2 I hp
    have hob : ∃ ob, s.heap.get? a = some ob ∧ ob.cls = .type "tuple" ∧ ob.dict = none := by
      rcases it with ⟨ys, ob, e1, hc, hd⟩ | ⟨ob, e1, hc, hd⟩
      · exact ⟨ob, (show ObjOk X.prog X.w H s.heap a (.frz ob (.tup ys)) from I.hok a _ e1).1, hc, hd⟩
      · exact ⟨ob, I.kIn a ob e1, hc, hd⟩
    obtain ⟨ob, hob, hc, hd⟩ := hob
    obtain ⟨ob', e2, _, n, hdat⟩ := pl
    cases hob.symm.trans e2
    rw [List.length_map] at hz
    have hps : PlainSeq "tuple" s.heap a (qs.map Value.ref).toArray := ⟨ob, n, hob, hc, hd, hdat⟩
    have hpi : PairItems s.heap (qs.map Value.ref).toArray (fun j => qs.getD j 0) psv := by
      refine ⟨by simp [l2], fun j k v e => ?_⟩
      obtain ⟨key, b, g1, g2, g3, g4⟩ := hpr j k v e
      have eb : qs.getD j 0 = b := by rw [List.getD_eq_getElem?_getD, g2]; rfl
      show (qs.map Value.ref).toArray[j]? = some (.ref (qs.getD j 0)) ∧ PairAt s.heap (qs.getD j 0) k v
      rw [eb]
      exact ⟨by simp [g2], .inl g3⟩
    have P := PairArg.tuple (prog := X.prog) (w := X.w) a (qs.map Value.ref).toArray (fun j => qs.getD j 0) psv
    refine PySem.call_dict_pairs (knd := mixKind X.prog X.w) (kvs := prs) P (I.ok.hd hcalm) ⟨hps, hpi⟩ ⟨by rw [l1, l2], fun j k v e => ?_⟩ (by rw [l2]; exact hz) fun h' tk hd' kp => ?_
    · obtain ⟨key, b, g1, g2, g3, g4⟩ := hpr j k v e
      exact ⟨key, g1, g4⟩
    · have hm : (s.heap.objs.size == sysModules) = false := beq_eq_false_iff_ne.mpr (Nat.ne_of_gt I.big)
      have hlen : (mergeK [] ks).length ≤ sizeLine := by
        have g1 := length_mergeK ks []
        have g2 := rel.length
        simp only [List.length_nil] at g1
        omega
      exact ⟨.ref s.heap.objs.size, upd H s.heap.objs.size (.dK (mergeK [] ks)), I.laid (t' := tk) (fun b o e => kp b o (by simp) e) (Nat.le_refl _) (show ObjOk X.prog X.w _ _ _ (.dK (mergeK [] ks)) from ⟨hlen, hm, merged [] prs, KV.merge rel .nil, hd'⟩), rfl, fin _ (I.hok.fresh (Nat.le_refl _))⟩
end
def gDictQ : D → Option D
  | .list ds => (pairsOf ds).map fun l => .dict (dmerge [] l)
  | .tuple ds => (pairsOf ds).map fun l => .dict (dmerge [] l)
  | _ => none
section
variable {X : Cx} {F : Frm} {pos p : Pos}
theorem call_dictQ (hcalm : X.calm = true) : CallR X (.type "dict") (fun xs H Q => ∃ (a : Addr) (qs : List Addr) (ks : List (Key × V)), xs = [.ref a] ∧ (SqL X.K H a (qs.map V.ref) ∨ (SqT X.K H a (qs.map V.ref) ∧ IsT X.K H a)) ∧ Paired (fun q kv => SqT X.K H q [kV kv.1, kv.2]) qs ks ∧
    ∀ y, H y = none → Q (.ref y) (upd H y (.dK (mergeK [] ks)))) := by
  intro pins s σ H xs us Q I r ⟨a, qs, ks, ex, hs, hp, fin⟩
  rcases hs with hs | ⟨hs, it⟩
  · exact call_dictP hcalm pins s σ H xs us Q I r ⟨a, qs, ks, ex, hs, hp, fin⟩
  · exact call_dictPT hcalm pins s σ H xs us Q I r ⟨a, qs, ks, ex, hs, it, hp, fin⟩
theorem x_dictQ {e : Expr} {m : M D} {dep eff : List Nat} (hc : X.calm = true) (hg : Gl X "dict") (hm : X.mg "dict" = none) (he : PE X e (rd F m dep eff)) (hK : X.K = F.K := by rfl)
    (hs : starEach [e] X.env = (false, eval e X.env) :: starEach [] X.env := by rfl) (hpl : (backTo pos (starEach [] X.env)).any (·.1) = false := by rfl) : PE X (.Call (.Name "dict" p) [e] [] pos) (rdN F (mUn gDictQ m) eff) :=
  PE.mono (pe_callTy (call_dictQ hc) hg hm (by decide +kernel) (pa_cons he pa_nil hs) (by decide) (by decide) hs hpl) fun σ H Q ⟨B, A, ρ, d, ρ1, E, hm, k⟩ => by
    obtain ⟨d1, e1, e2⟩ := mUn_some hm
    unfold gDictQ at e2
    split at e2
    · rename_i ds
      cases q : pairsOf ds with
      | none => rw [q] at e2; cases e2
      | some l =>
        rw [q] at e2
        cases e2
        refine ⟨B, A, ρ, _, ρ1, E, e1, fun v H1 P r => ?_⟩
        obtain ⟨a, xs, rfl, h1, q1⟩ := (r.rr P.env).list
        obtain ⟨ps, kvs, rfl, hp, hr⟩ := pairs_rel q q1
        refine ⟨a, ps, kvs, rfl, .inl (hK ▸ h1), hK ▸ hp, fun y hy => ?_⟩
        exact rdN_lay P k hy (Ext.new hy) (.inl ⟨_, upd_same, (RelKs.away (merge_rel hr .nil) hy av_cons).ext (Ext.new hy)⟩)
    · rename_i ds
      cases q : pairsOf ds with
      | none => rw [q] at e2; cases e2
      | some l =>
        rw [q] at e2
        cases e2
        refine ⟨B, A, ρ, _, ρ1, E, e1, fun v H1 P r => ?_⟩
        obtain ⟨a, xs, rfl, h1, q1, it⟩ := isT_of (r.rr P.env)
        obtain ⟨ps, kvs, rfl, hp, hr⟩ := pairs_rel q q1
        refine ⟨a, ps, kvs, rfl, .inr ⟨hK ▸ h1, hK ▸ it⟩, hK ▸ hp, fun y hy => ?_⟩
        exact rdN_lay P k hy (Ext.new hy) (.inl ⟨_, upd_same, (RelKs.away (merge_rel hr .nil) hy av_cons).ext (Ext.new hy)⟩)
    · cases e2
end
def ItkX (d : Addr) (od : Obj) (xs : List (List Int × Addr × Value)) : It where
  go i H := H d = some (.frz od (.ext (TDict d xs))) ∧ i < xs.length
  yld i H x H' := H' = H ∧ ∃ ks b u, xs[i]? = some (ks, b, u) ∧ x = .ref b
  stop i H := H d = some (.frz od (.ext (TDict d xs))) ∧ xs.length ≤ i
theorem tdx_at {X : Cx} {pins : List (Addr × Obj)} {σ : L2.St} {H : Hp} {s : Shared} {d : Addr} {od : Obj} {xs : List (List Int × Addr × Value)} (I : Inv X pins σ H s) (h : H d = some (.frz od (.ext (TDict d xs)))) :
    (d == sysModules) = false ∧ s.heap.get? d = some od ∧ od.ExactDict ∧ ∃ es ep, od.data = .dict es ep ∧ es.size = xs.length ∧ ∀ (i : Nat) (ks : List Int) (b : Addr) (u : Value), xs[i]? = some (ks, b, u) → ∃ en : DictEntry, es[i]? = some en ∧ en.key = .ref b := by
  obtain ⟨g0, ⟨g1, g2, od', es, ep, g3, g4, g5, g6, g7⟩, _⟩ := (show ObjOk X.prog X.w H s.heap d (.frz od (.ext (TDict d xs))) from I.hok d _ h)
  cases g0.symm.trans g3
  have hl : es.size = xs.length := by
    have := congrArg List.length g6
    simpa using this
  refine ⟨g1, g0, g4, es, ep, g5, hl, fun i ks b u e => ?_⟩
  have h2 : es.toList[i]? = some ⟨hashT ks, .ref b, u⟩ := by rw [g6, List.getElem?_map, e]; rfl
  exact ⟨_, by simpa using h2, rfl⟩
theorem turn_kx {P : Program} {w : World} {K : PySem.W.Frag} {tg : Expr} {d : Addr} {od : Obj} {es0 : Array DictEntry} {ep0 : Nat} {xs : List (List Int × Addr × Value)} (it : Addr) (hod : od.data = .dict es0 ep0) : Turn P w K tg (ItkX d od xs) [it] it (fun i h => h.IsKeyIter it d i xs.length ep0) where
  mem := List.mem_singleton_self it
  obj := fun i h st c hcm => by
    cases List.mem_singleton.mp hcm
    obtain ⟨oi, g1, g2, g3⟩ := st
    exact ⟨oi, g1, fun v z => by rw [g3] at z; cases z⟩
  keep := fun i h h' st kp => st.at fun oi g => kp it (List.mem_singleton_self it) oi g
  item := by
    rintro X rfl rfl rfl hcalm i pins s σ H E I hf st ⟨hd, hi⟩
    obtain ⟨f0, f1, f2, f3, f4, f5⟩ := hf it (List.mem_singleton_self it)
    obtain ⟨g1, g2, g3, es, ep, g4, g5, g6⟩ := tdx_at I hd
    cases hod.symm.trans g4
    obtain ⟨⟨ks, b, u⟩, hx⟩ : ∃ p, xs[i]? = some p := ⟨xs[i], List.getElem?_eq_getElem hi⟩
    obtain ⟨en, g7, g8⟩ := g6 i ks b u hx
    refine next_key_item st g2 g4 g5 g7 fun h' st' sb => ?_
    have I1 : Inv X pins σ H { s with heap := h' } := I.turned (t' := s.toks) (fun c o hc e => (sb.2 c hc).trans e) f0 f1 f3 f4 f5
    obtain ⟨oi, e1, e2, e3⟩ := id st'
    rw [g8]
    exact ⟨.ref b, rfl, go_of (s := { s with heap := h' }) e1 e2 e3 (by decide) ⟨.ref b, H, I1, rfl, ⟨rfl, ks, b, u, hx, rfl⟩, st', fun c hc => (hf c hc).1⟩⟩
  done := by
    rintro X rfl rfl rfl hcalm i pins s σ H E I hf st ⟨hd, hi⟩
    obtain ⟨f0, f1, f2, f3, f4, f5⟩ := hf it (List.mem_singleton_self it)
    obtain ⟨g1, g2, g3, es, ep, g4, g5, g6⟩ := tdx_at I hd
    cases hod.symm.trans g4
    exact next_key_end (I.ok.hd hcalm) st g2 g4 g5 hi fun h' eb => ⟨rfl, I.turned (t' := s.toks) (fun c o hc e => eb c o hc e) f0 f1 f3 f4 f5⟩
  self := fun A i s Q E st q => wpAny_pyIter_keyiter st q
def iKeysX (td : TE) : TI := fun σ H R => td σ H fun x H1 => ∃ d od xs, x = .ref d ∧ H1 d = some (.frz od (.ext (TDict d xs))) ∧ R (ItkX d od xs) H1
theorem pi_keysX {X : Cx} {tg e : Expr} {td : TE} (he : PE X e td) : PI X tg e (iKeysX td) := by
  refine ⟨fun pins s σ H R I hq => ?_⟩
  refine thn (he.run pins s σ H _ I hq) fun u s1 ⟨x, H1, I1, rx, d, od, xs, ex, hd, q⟩ => ?_
  subst ex
  cases (show u = Value.ref d from rx)
  obtain ⟨g1, g2, g3, es, ep, g4, g5, g6⟩ := tdx_at I1 hd
  refine iter_keys g1 g2 g3 g4 (pi_one (tk := s1.toks) I1 _ (turn_kx _ g4) ⟨_, Heap.get?_push_size _ rfl, rfl, ?_⟩ q)
  rw [g5] <;> rfl
def gItems2 : D → Option (List D)
  | .list ds => some ds
  | .tuple ds => some ds
  | .dict kvs => match isT kvs with
    | false => some (kvs.map (·.1))
    | true => (match tdE (.dict kvs) with
      | some es => some (es.map (·.1))
      | none => none)
  | _ => none
section
variable {K : PySem.W.Frag} {S : Addr → Prop} {H : Hp}
theorem RelKs.keyL : ∀ {kvs : List (Key × V)} {ds : List (D × D)}, RelKs K S H kvs ds → ds.map (·.1) = kvs.map fun q => kD q.1
  | _, _, .nil => rfl
  | _, _, .cons _ t => by rw [List.map_cons, List.map_cons, RelKs.keyL t]
theorem RelTs.keyL : ∀ {xs : List (List Int × Addr × Value)} {ds : List (D × D)}, RelTs K S H xs ds → ds.map (·.1) = xs.map fun q => .tuple (q.1.map .int)
  | _, _, .nil => rfl
  | _, _, .cons _ _ _ t => by rw [List.map_cons, List.map_cons, RelTs.keyL t]
theorem rel_kD (k : Key) : RelD K S H (kV k) (kD k) := by
  cases k with
  | inl i => exact .int i
  | inr z => exact .str z
theorem rel_ints : ∀ ks : List Int, RelDs K S H (ks.map V.int) (ks.map .int)
  | [] => .nil
  | k :: ks => .cons (.int k) (rel_ints ks)
theorem KeyAt.relT {b : Addr} {ks : List Int} (h : KeyAt K S H b ks) : RelD K S H (.ref b) (.tuple (ks.map .int)) := by
  rcases h with ⟨n, h⟩ | h
  · exact .tup n h (rel_ints ks)
  · exact .tupK h (rel_ints ks)
theorem it_keysK {a : Addr} {od : Obj} {kv : List (Key × V)} {ds : List D} (hds : ds = kv.map fun q => kD q.1) : ItOk K (Itk a od kv) ds [.inr (a, .frz od (.dK kv))] := by
  subst hds
  refine ⟨fun i S H r hi => ?_, fun S H r => ?_, fun i S H x H' r _ hi y => ?_⟩
  · exact ⟨(r _ List.mem_cons_self).2.1, by simpa using hi⟩
  · exact ⟨(r _ List.mem_cons_self).2.1, by simp⟩
  · obtain ⟨e, k, v, hk, ex⟩ := y
    subst e ex
    exact ⟨Ext.refl _, kD k, by rw [List.getElem?_map, hk]; rfl, rel_kD k⟩
theorem it_keysX {a : Addr} {od : Obj} {xs : List (List Int × Addr × Value)} {ds : List D} (hds : ds = xs.map fun q => .tuple (q.1.map .int)) : ItOk K (ItkX a od xs) ds (.inr (a, .frz od (.ext (TDict a xs))) :: xs.map fun q => .inl (.ref q.2.1, .tuple (q.1.map .int))) := by
  subst hds
  refine ⟨fun i S H r hi => ?_, fun S H r => ?_, fun i S H x H' r _ hi y => ?_⟩
  · exact ⟨(r _ List.mem_cons_self).2.1, by simpa using hi⟩
  · exact ⟨(r _ List.mem_cons_self).2.1, by simp⟩
  · obtain ⟨e, ks, b, u, hk, ex⟩ := y
    subst e ex
    exact ⟨Ext.refl _, .tuple (ks.map .int), by rw [List.getElem?_map, hk]; rfl, r (.inl (.ref b, .tuple (ks.map .int))) (List.mem_cons_of_mem _ (List.mem_map.mpr ⟨_, List.mem_of_getElem? hk, rfl⟩))⟩
end
def mItems2 (m : M D) : M (List D) := fun ρ => match m ρ with
  | some (d, ρ1) => (match gItems2 d with
    | some ds => some (ds, ρ1)
    | none => none)
  | none => none
theorem w_seq2 {X : Cx} {F : Frm} {tg e : Expr} {m : M D} {eff : List Nat} (he : PE X e (rd F m [] eff)) (hK : X.K = F.K := by rfl) : PI X tg e (rdI F (mItems2 m) eff) := by
  refine ⟨fun pins s σ H R I ⟨B, A, ρ, ds, ρ', E, hm, k⟩ => ?_⟩
  have old : ∀ d, m ρ = some (d, ρ') → gItems d = some ds → wpAny (model X.prog X.w) X.A (eval e X.env) (fun v s1 => wpAny (model X.prog X.w) X.A (pyIter v) (PIE X pins σ tg R) X.xe s1) X.xe s := fun d e1 e2 =>
    (w_seq (tg := tg) he hK).run pins s σ H R I ⟨B, A, ρ, ds, ρ', E, by unfold mItems; rw [e1]; simp only [e2], k⟩
  unfold mItems2 at hm
  split at hm
  · rename_i d ρ1 e1
    split at hm
    · rename_i ds' e2
      cases hm
      cases d with
      | list l => exact old _ e1 e2
      | tuple l => exact old _ e1 e2
      | dict kvs =>
        have e2 : (match isT kvs with
          | false => some (kvs.map (·.1))
          | true => (match tdE (.dict kvs) with
            | some es => some (es.map (·.1))
            | none => none)) = some ds := e2
        · split at e2
          · rename_i hT
            cases e2
            refine (pi_keys he).run pins s σ H R I ⟨B, A, ρ, .dict kvs, ρ', E, e1, fun v H' P r => ?_⟩
            have r' := r.plain
            cases r' with
            | dic n hz rk =>
              rename_i a kv
              obtain ⟨od, hz⟩ := hz
              refine ⟨a, od, rfl, .inl ⟨kv, hz, k _ [.inr (a, .frz od (.dK kv))] H' P (fun r hr => ?_) (it_keysK rk.keyL)⟩⟩
              rw [List.mem_singleton.mp hr]
              exact ⟨n, hz, fun ps z => nomatch z⟩
            | dit n hz rk => rw [rk.isT] at hT; cases hT
          · rename_i hT
            split at e2
            · rename_i es ee
              cases e2
              refine (pi_keysX he).run pins s σ H R I ⟨B, A, ρ, .dict kvs, ρ', E, e1, fun v H' P r => ?_⟩
              have r' := r.plain
              cases r' with
              | dic n hz rk =>
                have hn : isT kvs = false := by
                  cases rk with
                  | nil => rfl
                  | cons => rename_i k0 _ _ _ _ _ _; cases k0 <;> rfl
                rw [hn] at hT; cases hT
              | dit n hz rk =>
                rename_i a xs
                obtain ⟨od, hz⟩ := hz
                cases rk with
                | mk rk =>
                  cases ee
                  refine ⟨a, od, xs, rfl, hz, k _ (.inr (a, .frz od (.ext (TDict a xs))) :: xs.map fun q => .inl (.ref q.2.1, .tuple (q.1.map .int))) H' P (fun r hr => ?_) (it_keysX rk.keyL)⟩
                  rcases List.mem_cons.mp hr with hr | hr
                  · rw [hr]
                    exact ⟨n, hz, fun ps z => nomatch z⟩
                  · obtain ⟨q, hq, rfl⟩ := List.mem_map.mp hr
                    exact (rk.keys q hq).relT
            · cases e2
      | _ => cases e2
    · cases hm
  · cases hm
end PD
set_option Elab.async false
set_option linter.all false
set_option maxRecDepth 100000
set_option maxHeartbeats 2000000
namespace PD
open PySem PySem.Spec PyProof.Rows L2 GxR GenX OwnK
def mGet2T (m1 m2 m3 : M D) : M D := fun ρ => match m1 ρ with
  | some (d, ρ1) => (match tdE d with
    | some es => (match m2 ρ1 with
      | some (kd, ρ2) => (match m3 ρ2 with
        | some (dd, ρ3) => (match keyT kd with
          | some ks => some ((dgetT es ks).getD dd, ρ3)
          | none => none)
        | none => none)
      | none => none)
    | none => none)
  | none => none
section
variable {X : Cx} {F : Frm} {pos p : Pos}
end
def ItiF (d : Addr) (od : Obj) (kv : List (Key × V)) : It where
  go i H := H d = some (.frz od (.dK kv)) ∧ i < kv.length
  yld i H x H' := ∃ T o k v, kv[i]? = some (k, v) ∧ x = .ref T ∧ H T = none ∧ o.cls = .type "tuple" ∧ o.dict = none ∧ H' = upd H T (.frz o (.tup [kV k, v]))
  stop i H := H d = some (.frz od (.dK kv)) ∧ kv.length ≤ i
theorem turn_itF {P : Program} {w : World} {K : PySem.W.Frag} {d : Addr} {od : Obj} {es0 : Array DictEntry} {ep0 : Nat} {kv : List (Key × V)} {elts : List Expr} {kk : Nat} {tpos : Pos} (it : Addr) (hod : od.data = .dict es0 ep0) :
    Turn P w K (.Tuple elts kk tpos) (ItiF d od kv) [it] it (fun i h => ∃ w1 w2, IsItemIter h it d i kv.length ep0 w1 w2) where
  mem := List.mem_singleton_self it
  obj := fun i h ⟨w1, w2, g⟩ c hcm => by
    cases List.mem_singleton.mp hcm
    exact ⟨_, g, fun v z => nomatch z⟩
  keep := fun i h h' ⟨w1, w2, g⟩ kp => ⟨w1, w2, kp it (List.mem_singleton_self it) _ g⟩
  item := by
    rintro X rfl rfl rfl hcalm i pins s σ H E I hf ⟨w1, w2, st⟩ ⟨hd, hi⟩
    obtain ⟨f0, f1, f2, f3, f4, f5⟩ := hf it (List.mem_singleton_self it)
    obtain ⟨g1, g2, g3, es, ep, vs, g4, g5, rel, dd⟩ := I.frzK hd
    cases hod.symm.trans g4
    obtain ⟨⟨k, v⟩, hk⟩ : ∃ p, kv[i]? = some p := ⟨kv[i], List.getElem?_eq_getElem hi⟩
    obtain ⟨u, hu, ru⟩ := kv_get rel hk
    rw [Paired.length rel] at st
    have lt := Heap.lt_size st
    refine wpAny_pyNext_items_item st dd hu fun key h' hkey ho new hz kp => ⟨_, rfl, wpAny_letOwnedTupleGo_items (s := { s with heap := h' }) ho fun h'' he' sb => ?_⟩
    have new2 := (sb.2 _ (Nat.ne_of_gt lt)).trans new
    have okN : ObjOk X.prog X.w (upd H s.heap.objs.size (.frz { cls := .type "tuple", data := .seq #[key, u] } (.tup [kV k, v]))) h'' s.heap.objs.size (.frz { cls := .type "tuple", data := .seq #[key, u] } (.tup [kV k, v])) :=
      ⟨new2, by show 2 ≤ sizeLine; decide, [key, u], .cons (relV_key (show keyIs k key = true from hkey)) (.cons ru .nil), ⟨_, new2, rfl, _, rfl⟩⟩
    refine ⟨.ref s.heap.objs.size, _, I.turnedNew (t' := s.toks) (ch := [it]) (fun c o hc e => (sb.2 c (by simpa using hc)).trans (kp c o (by simpa using hc) e)) hf (Nat.le_refl _) okN, rfl, ⟨_, _, k, v, hk, rfl, I.hok.fresh (Nat.le_refl _), rfl, rfl, rfl⟩, ⟨key, u, ?_⟩, fun c hcm => ?_⟩
    · rw [Paired.length rel]; exact he'
    · cases List.mem_singleton.mp hcm
      rw [upd_ne (Nat.ne_of_lt lt)]
      exact (hf it (List.mem_singleton_self it)).1
  done := by
    rintro X rfl rfl rfl hcalm i pins s σ H E I hf ⟨w1, w2, st⟩ ⟨hd, hi⟩
    obtain ⟨f0, f1, f2, f3, f4, f5⟩ := hf it (List.mem_singleton_self it)
    obtain ⟨g1, g2, g3, es, ep, vs, g4, g5, rel, dd⟩ := I.frzK hd
    cases hod.symm.trans g4
    have hl := Paired.length rel
    rw [hl] at st
    exact wpAny_pyNext_items_end (I.ok.hd hcalm) st dd (List.getElem?_eq_none (by omega)) fun h' eb => ⟨rfl, I.turned (t' := s.toks) (fun c o hc e => eb c o hc e) f0 f1 f3 f4 f5⟩
  self := fun A i s Q E ⟨_, _, g⟩ q => PySem.W.kcp_self g q
def iItemsF (td : TE) : TI := fun σ H R => td σ H fun x H1 => ∃ d od kv, x = .ref d ∧ H1 d = some (.frz od (.dK kv)) ∧ R (ItiF d od kv) H1
theorem pi_itemsF {X : Cx} {e : Expr} {td : TE} {apos cpos : Pos} {elts : List Expr} {kk : Nat} {tpos : Pos} (he : PE X e td) (hbase : attributeBase e "items" X.env (eval e X.env) = eval e X.env := by rfl) (hline : (apos.endLine == cpos.line) = true := by rfl) :
    PI X (.Tuple elts kk tpos) (.Call (.Attribute e "items" apos) [] [] cpos) (iItemsF td) := by
  refine ⟨fun pins s σ H R I hq => ?_⟩
  refine wpAny_Call_method (T := "dict") (id := "dict.items") hbase rfl hline F.plainAttrs_dict F.slot_dict_items F.type_dict_items (thn (he.run pins s σ H _ I hq) fun u s1 ⟨x, H1, I1, rx, d, od, kv, ex, hd, q⟩ => ?_)
  subst ex
  cases (show u = Value.ref d from rx)
  obtain ⟨g1, g2, g3, es, ep, vs, g4, g5, rel, dd⟩ := I1.frzK hd
  have hl := Paired.length rel
  refine ⟨dd.dictOf.typeIs, dd.dictOf.mapOf.noDict, ?_⟩
  have I2 : Inv X pins σ H1 { s1 with heap := s1.heap.push { cls := .type "dict_items", data := .fields #[.ref d] } } := I1.kept (t' := s1.toks) fun c o e => Heap.get?_push_of_some _ e
  refine (method_meetsIn F.slot_dict_items F.entry_dict_items rfl (PySem.evalArgs_none ⟨rfl, dd.dictOf.typeIs, F.args_dict_items_1 _, _, meets_dict_items (mixKind X.prog X.w) d g1, ⟨vs, dd.dictOf⟩, ?_⟩) : wpAny _ _ (callWith cpos (.builtin "dict.items") [.ref d] [] []) _ X.xe s1)
  refine wpAny_pyIter_items (d := d) (knd := mixKind X.prog X.w) ⟨_, Heap.get?_push_size _ rfl, rfl, rfl⟩ (dd.push _) (pi_one (tk := s1.toks) I2 _ (turn_itF _ g4) ⟨.none, .none, ?_⟩ q)
  rw [hl]
  exact Heap.get?_push_size _ rfl
def gPairs : D → Option (List D)
  | .dict kvs => if isT kvs = true then none else some (kvs.map fun q => .tuple [q.1, q.2])
  | _ => none
def mPairs (m : M D) : M (List D) := fun ρ => match m ρ with
  | some (d, ρ1) => (match gPairs d with
    | some ds => some (ds, ρ1)
    | none => none)
  | none => none
section
variable {K : PySem.W.Frag}
theorem RelKs.at_ {S : Addr → Prop} {H : Hp} : ∀ {kv : List (Key × V)} {ds : List (D × D)} {i : Nat} {k : Key} {v : V}, RelKs K S H kv ds → kv[i]? = some (k, v) → ∃ d, ds[i]? = some (kD k, d) ∧ RelD K S H v d
  | _, _, _, _, _, .nil, e => by simp at e
  | _, _, 0, _, _, .cons r t, e => by
    simp at e
    obtain ⟨e1, e2⟩ := e
    subst e1 e2
    exact ⟨_, rfl, r⟩
  | _, _, i + 1, _, _, .cons r t, e => by
    obtain ⟨d, h1, h2⟩ := RelKs.at_ (i := i) t (by simpa using e)
    exact ⟨d, by simpa using h1, h2⟩
theorem it_itF {a : Addr} {od : Obj} {kv : List (Key × V)} {kvs : List (D × D)} (hl : kv.length = kvs.length) : ItOk K (ItiF a od kv) (kvs.map fun q => .tuple [q.1, q.2]) [.inr (a, .frz od (.dK kv)), .inl (.ref a, .dict kvs)] := by
  refine ⟨fun i S H r hi => ?_, fun S H r => ?_, fun i S H x H' r hS hi y => ?_⟩
  · exact ⟨(r _ List.mem_cons_self).2.1, by simpa [hl] using hi⟩
  · exact ⟨(r _ List.mem_cons_self).2.1, by simp [hl]⟩
  · obtain ⟨T, o, k, v, hk, ex, hT, ho, hd, e⟩ := y
    subst e ex
    have h1 := (r _ List.mem_cons_self).2.1
    have h2 : RelD K S H (.ref a) (.dict kvs) := r (.inl (.ref a, .dict kvs)) (List.mem_cons_of_mem _ List.mem_cons_self)
    cases h2 with
    | dic n hz rk =>
      obtain ⟨od', hz⟩ := hz
      cases h1.symm.trans hz
      obtain ⟨d, g1, g2⟩ := rk.at_ hk
      refine ⟨Ext.new hT, .tuple [kD k, d], by rw [List.getElem?_map, g1]; rfl, .tup (fun z => hS T z hT) ⟨o, upd_same, ho, hd⟩ (RelDs.ext (Ext.new hT) (.cons (rel_kD k) (.cons g2 .nil)))⟩
    | dit n hz rk =>
      obtain ⟨od', hz⟩ := hz
      cases h1.symm.trans hz
end
theorem RelKs.len2 {K : PySem.W.Frag} {S : Addr → Prop} {H : Hp} : ∀ {kv : List (Key × V)} {ds : List (D × D)}, RelKs K S H kv ds → kv.length = ds.length
  | _, _, .nil => rfl
  | _, _, .cons _ t => congrArg (· + 1) t.len2
theorem w_items {X : Cx} {F : Frm} {e : Expr} {m : M D} {eff : List Nat} {apos cpos : Pos} {elts : List Expr} {kk : Nat} {tpos : Pos} (he : PE X e (rd F m [] eff)) (hbase : attributeBase e "items" X.env (eval e X.env) = eval e X.env := by rfl) (hline : (apos.endLine == cpos.line) = true := by rfl) :
    PI X (.Tuple elts kk tpos) (.Call (.Attribute e "items" apos) [] [] cpos) (rdI F (mPairs m) eff) := by
  refine PI.mono (pi_itemsF he hbase hline) fun σ H R ⟨B, A, ρ, ds, ρ', E, hm, k⟩ => ?_
  unfold mPairs at hm
  split at hm
  · rename_i d ρ1 e1
    split at hm
    · rename_i ds' e2
      cases hm
      cases d with
      | dict kvs =>
        have e2 : (if isT kvs = true then none else some (kvs.map fun q => PyData.tuple [q.1, q.2])) = some ds := e2
        split at e2
        · cases e2
        · rename_i hT
          cases e2
          refine ⟨B, A, ρ, .dict kvs, ρ', E, e1, fun v H' P r => ?_⟩
          have r' := r.plain
          cases r' with
          | dic n hz rk =>
            rename_i a kv
            have r2 : RelD F.K (Av F B A ρ') H' (.ref a) (.dict kvs) := .dic n hz rk
            obtain ⟨od, hz⟩ := hz
            refine ⟨a, od, kv, rfl, hz, k _ [.inr (a, .frz od (.dK kv)), .inl (.ref a, .dict kvs)] H' P (fun r hr => ?_) (it_itF rk.len2)⟩
            rcases List.mem_cons.mp hr with hr | hr
            · rw [hr]; exact ⟨n, hz, fun ps z => nomatch z⟩
            · rw [List.mem_singleton.mp hr]; exact r2
          | dit n hz rk => exact absurd rk.isT hT
      | _ => cases e2
    · cases hm
  · cases hm
end PD
set_option Elab.async false
set_option linter.all false
set_option maxRecDepth 100000
set_option maxHeartbeats 2000000
namespace PD
open PySem PySem.Spec PyProof.Rows L2 GxR GenX OwnK
open PySem.SeqAt PySem.W
mutual
def cmpD : D → D → Bool
  | .bool _, .bool _ => true
  | .int _, .int _ => true
  | .str _, .str _ => true
  | .tuple xs, .tuple ys => cmpL xs ys
  | _, _ => false
def cmpL : List D → List D → Bool
  | x :: xs, y :: ys => if PyData.eqv x y = true then cmpL xs ys else cmpD x y
  | [], _ => true
  | _ :: _, [] => true
end
mutual
theorem eqv_toks : ∀ x y : D, PyData.eqv x y = true → keyToks x = keyToks y
  | .none, y, h => by cases y <;> first | rfl | (simp [PyData.eqv] at h)
  | .bool a, y, h => by
    cases y with
    | bool b => simp [PyData.eqv] at h; rw [h]
    | int j => simp [PyData.eqv] at h; simp [keyToks, h]
    | _ => simp [PyData.eqv] at h
  | .int a, y, h => by
    cases y with
    | bool b => simp [PyData.eqv] at h; simp [keyToks, h]
    | int j => simp [PyData.eqv] at h; rw [h]
    | _ => simp [PyData.eqv] at h
  | .str a, y, h => by
    cases y with
    | str b => simp [PyData.eqv] at h; rw [h]
    | _ => simp [PyData.eqv] at h
  | .list xs, y, h => by
    cases y with
    | list ys => simp only [PyData.eqv] at h; simp only [keyToks]; exact eqvs_toks xs ys h
    | _ => simp [PyData.eqv] at h
  | .tuple xs, y, h => by
    cases y with
    | tuple ys => simp only [PyData.eqv] at h; simp only [keyToks]; exact eqvs_toks xs ys h
    | _ => simp [PyData.eqv] at h
  | .dict _, y, h => by cases y <;> simp [PyData.eqv] at h
theorem eqvs_toks : ∀ xs ys : List D, PyData.eqvAll xs ys = true → keyToksAll xs = keyToksAll ys
  | [], [], _ => rfl
  | [], y :: ys, h => by simp [PyData.eqvAll] at h
  | x :: xs, [], h => by simp [PyData.eqvAll] at h
  | x :: xs, y :: ys, h => by
    rw [eqv_all_cons, Bool.and_eq_true] at h
    rw [toks_all_cons, toks_all_cons, eqv_toks x y h.1, eqvs_toks xs ys h.2]
end
theorem cmpL_yes {x y : D} {xs ys : List D} (e : PyData.eqv x y = true) : cmpL (x :: xs) (y :: ys) = cmpL xs ys := by
  rw [cmpL, if_pos e]
theorem cmpL_no {x y : D} {xs ys : List D} (e : PyData.eqv x y = false) : cmpL (x :: xs) (y :: ys) = cmpD x y := by
  rw [cmpL, if_neg (by rw [e]; exact Bool.false_ne_true)]
mutual
theorem toks_cmp : ∀ x y : D, cmpD x y = true → PyData.eqv x y = false → ∀ l m, PyProof.Rows.lexLt itemOrd (keyToks x ++ l) (keyToks y ++ m) = dataLt x y
  | .bool a, y, h, e, l, m => by
    cases y with
    | bool b => exact (toks_eqv _ _ (by simp [alike])).2 e l m
    | _ => simp [cmpD] at h
  | .int a, y, h, e, l, m => by
    cases y with
    | int b => exact (toks_eqv _ _ (by simp [alike])).2 e l m
    | _ => simp [cmpD] at h
  | .str a, y, h, e, l, m => by
    cases y with
    | str b => exact (toks_eqv _ _ (by simp [alike])).2 e l m
    | _ => simp [cmpD] at h
  | .tuple xs, y, h, e, l, m => by
    cases y with
    | tuple ys =>
      simp only [cmpD] at h
      simp only [PyData.eqv] at e
      rw [dataLt_tuple]
      simp only [keyToks]
      exact toks_cmpL xs ys h e l m
    | _ => simp [cmpD] at h
  | .none, y, h, _, _, _ => by cases y <;> simp [cmpD] at h
  | .list _, y, h, _, _, _ => by cases y <;> simp [cmpD] at h
  | .dict _, y, h, _, _, _ => by cases y <;> simp [cmpD] at h
theorem toks_cmpL : ∀ xs ys : List D, cmpL xs ys = true → PyData.eqvAll xs ys = false → ∀ l m, PyProof.Rows.lexLt itemOrd (keyToksAll xs ++ l) (keyToksAll ys ++ m) = PyProof.Rows.lexLt itemOrd (keyToksAll xs) (keyToksAll ys)
  | [], [], _, e, _, _ => by simp [PyData.eqvAll] at e
  | [], y :: ys, _, _, l, m => by
    rw [toks_all_cons]
    simp only [keyToksAll, List.cons_append]
    rw [lex_diff (O := itemOrd) (by simp), lex_diff (O := itemOrd) (by simp)]
  | x :: xs, [], _, _, l, m => by
    rw [toks_all_cons]
    simp only [keyToksAll, List.cons_append]
    rw [lex_diff (O := itemOrd) (by simp), lex_diff (O := itemOrd) (by simp)]
  | x :: xs, y :: ys, h, e, l, m => by
    rw [toks_all_cons, toks_all_cons, List.cons_append, List.cons_append, lex_self (O := itemOrd), lex_self (O := itemOrd), List.append_assoc, List.append_assoc]
    rw [eqv_all_cons] at e
    cases hx : PyData.eqv x y with
    | true =>
      rw [cmpL_yes hx] at h
      rw [hx, Bool.true_and] at e
      rw [eqv_toks x y hx, lex_pre, lex_pre]
      exact toks_cmpL xs ys h e l m
    | false =>
      rw [cmpL_no hx] at h
      rw [toks_cmp x y h hx, toks_cmp x y h hx]
end
theorem lex_yes {x y : D} {xs ys : List D} (e : PyData.eqv x y = true) : PyProof.Rows.lexLt itemOrd (keyToksAll (x :: xs)) (keyToksAll (y :: ys)) = PyProof.Rows.lexLt itemOrd (keyToksAll xs) (keyToksAll ys) := by
  rw [toks_all_cons, toks_all_cons, eqv_toks x y e, lex_self (O := itemOrd), lex_pre]
theorem lex_no {x y : D} {xs ys : List D} (h : cmpD x y = true) (e : PyData.eqv x y = false) : PyProof.Rows.lexLt itemOrd (keyToksAll (x :: xs)) (keyToksAll (y :: ys)) = dataLt x y := by
  rw [toks_all_cons, toks_all_cons, lex_self (O := itemOrd), toks_cmp x y h e]
section
theorem tup_ltF (l b : Addr) (us ws : Array Value) (n n2 : Nat) (dd dd2 : Option Addr) (sl sl2 : Array (Option Value)) (e r : Nat → Bool) :
    Meets (Builtin.«tuple.__lt__» ⟨[.ref l, .ref b], []⟩)
      (fun A R s => s.heap.get? l = some { cls := .type "tuple", dict := dd, data := .seq us n, slots := sl } ∧ s.heap.get? b = some { cls := .type "tuple", dict := dd2, data := .seq ws n2, slots := sl2 } ∧
        (∀ j (h1 : j < us.size) (h2 : j < ws.size), (∀ i, i < j → e i = true) → EqAt A.in1 s us[j] ws[j] (e j)) ∧ (∀ j (h1 : j < us.size) (h2 : j < ws.size), (∀ i, i < j → e i = true) → e j = false → RcLt A.in1 s us[j] ws[j] (r j)) ∧
        R (.ok (.ret (.bool (firstLt e r (decide (us.size < ws.size)) (List.range (min us.size ws.size)))))) s) :=
  .of_wp fun prog w A R s hyp => by
    obtain ⟨hp, g, d, tk, os⟩ := s
    obtain ⟨hl, hb, he, hr, fin⟩ := hyp
    have f2 := AutoSeq1.sub_tuple_tuple
    have hz0 : (us.toList.zip ws.toList).length = min us.size ws.size := by simp
    wp_walk using wpAny_loadPart' hl, wpAny_loadPart' hb, wpAny_forIn_list _ (fun rest b s' => b.1 = none ∧ s' = ⟨hp, g, d, tk, os⟩ ∧ ∃ i, rest = (us.toList.zip ws.toList).drop i ∧ (∀ k, k < i → e k = true) ∧
      R (.ok (.ret (.bool (firstLt e r (decide (us.size < ws.size)) ((List.range (min us.size ws.size)).drop i))))) ⟨hp, g, d, tk, os⟩) _
    case turn =>
      rintro ⟨y, x⟩ rest b s' ⟨hb', rfl, i, hzz, hpre, hR⟩
      have hlt : i < (us.toList.zip ws.toList).length := Nat.lt_of_not_le fun z => by
        rw [List.drop_of_length_le z] at hzz; cases hzz
      have hm : i < min us.size ws.size := by rw [← hz0]; exact hlt
      have h1 : i < us.size := by omega
      have h2 : i < ws.size := by omega
      rw [List.drop_eq_getElem_cons hlt] at hzz
      obtain ⟨hyx, hrest⟩ := List.cons.inj hzz
      have hy : y = us[i] := by simpa using congrArg Prod.fst hyx
      have hx : x = ws[i] := by simpa using congrArg Prod.snd hyx
      subst hy hx
      have hdr : (List.range (min us.size ws.size)).drop i = i :: (List.range (min us.size ws.size)).drop (i + 1) := by
        rw [List.drop_eq_getElem_cons (by simpa using hm)]; simp
      rw [hdr] at hR
      refine wpAny_bind (he i h1 h2 hpre prog w _ _ ?_)
      cases hy : e i with
      | true =>
        rw [firstLt_yes hy] at hR
        wp_walk
        refine ⟨rfl, rfl, i + 1, hrest, fun k hk => ?_, hR⟩
        rcases Nat.lt_or_ge k i with q | q
        · exact hpre k q
        · rw [show k = i by omega]; exact hy
      | false =>
        rw [firstLt_no hy] at hR
        have hq := hr i h1 h2 hpre hy
        unfold RcLt at hq
        generalize richCompare CmpOp.Lt us[i] ws[i] = m at hq ⊢
        wp_walk
        refine hq prog w _ _ ?_
        wp_walk
        exact ⟨_, rfl, hR⟩
    case fin =>
      rintro ⟨b1, b2⟩ s' ⟨hb', rfl, i, hzz, hpre, hR⟩
      simp only at hb'
      subst hb'
      have hge : min us.size ws.size ≤ i := Nat.le_of_not_lt fun z => by
        rw [List.drop_eq_getElem_cons (by rw [hz0]; exact z)] at hzz; cases hzz
      rw [List.drop_of_length_le (by simpa using hge)] at hR
      wp_walk
      exact ⟨_, rfl, by simpa [Builtin.Tuple.tupleCompareSizes, firstLt] using hR⟩
    case h =>
      exact ⟨rfl, rfl, 0, rfl, (fun k hk => absurd hk (Nat.not_lt_zero k)), by simpa using fin⟩
end
theorem rcLt_tupF {A : Around} {s : Shared} {l b : Addr} {us ws : Array Value} {e r : Nat → Bool} (hl : s.heap.IsTuple l us) (hb : s.heap.IsTuple b ws) (hu : A.units < cLine)
    (he : ∀ j (h1 : j < us.size) (h2 : j < ws.size), (∀ i, i < j → e i = true) → EqAt A.in1 s us[j] ws[j] (e j)) (hr : ∀ j (h1 : j < us.size) (h2 : j < ws.size), (∀ i, i < j → e i = true) → e j = false → RcLt A.in1 s us[j] ws[j] (r j)) :
    RcLt A s (.ref l) (.ref b) (firstLt e r (decide (us.size < ws.size)) (List.range (min us.size ws.size))) := fun prog w E Q fin => by
  obtain ⟨⟨c1, dd, data, sl⟩, ho, hc, n, hd⟩ := id hl
  obtain ⟨⟨c2, dd2, data2, sl2⟩, ho2, hc2, n2, hd2⟩ := id hb
  cases hc; cases hd; cases hc2; cases hd2
  exact richCompare_meets_room (op := .Lt) ⟨_, ho, rfl⟩ ⟨_, ho2, rfl⟩ F.slot_tuple_lt F.entry_tuple_lt (F.args_tuple_lt_2 _ _) (tup_ltF l b us ws n n2 dd dd2 sl sl2 e r) ⟨ho, ho2, he, hr, ⟨(fun x => nomatch x), fin⟩⟩ hu
theorem first_cmp : ∀ xs ys : List D, cmpL xs ys = true → firstLt (pairEq xs ys) (fun j => dataLt (xs.getD j .none) (ys.getD j .none)) (decide (xs.length < ys.length)) (List.range (min xs.length ys.length)) = PyProof.Rows.lexLt itemOrd (keyToksAll xs) (keyToksAll ys)
  | [], [], _ => by
    rw [lex_irrefl]
    rfl
  | [], y :: ys, _ => by
    rw [toks_all_cons]
    simp only [keyToksAll]
    rw [lex_diff (O := itemOrd) (by simp)]
    rfl
  | x :: xs, [], _ => by
    rw [toks_all_cons]
    simp only [keyToksAll]
    rw [lex_diff (O := itemOrd) (by simp)]
    rfl
  | x :: xs, y :: ys, h => by
    have e1 : min (x :: xs).length (y :: ys).length = min xs.length ys.length + 1 := by simp only [List.length_cons]; omega
    have e2 : decide ((x :: xs).length < (y :: ys).length) = decide (xs.length < ys.length) := by simp only [List.length_cons, Nat.add_lt_add_iff_right]
    rw [e1, e2, List.range_succ_eq_map]
    cases hx : PyData.eqv x y with
    | true =>
      rw [cmpL_yes hx] at h
      rw [firstLt_yes (show pairEq (x :: xs) (y :: ys) 0 = true from hx), firstLt_map, lex_yes hx, ← first_cmp xs ys h]
      rfl
    | false =>
      rw [cmpL_no hx] at h
      rw [firstLt_no (show pairEq (x :: xs) (y :: ys) 0 = false from hx), lex_no h hx]
      rfl
mutual
theorem rcLt_cmp : ∀ (da db : D) (A : Around) (s : Shared) (a b : Value) (as bs : List Addr), Reads s.heap a da as → Reads s.heap b db bs → cmpD da db = true → da.canLay0 = true → db.canLay0 = true → A.units + min da.depth db.depth < cLine → RcLt A s a b (dataLt da db)
  | .bool x, db, A, s, a, b, as, bs, ra, rb, h, _, _, hu => by
    cases db with
    | bool y => exact rcLt_alike _ _ A s a b as bs ra rb (by simp [alike]) (by simp) hu
    | _ => simp [cmpD] at h
  | .int x, db, A, s, a, b, as, bs, ra, rb, h, _, _, hu => by
    cases db with
    | int y => exact rcLt_alike _ _ A s a b as bs ra rb (by simp [alike]) (by simp) hu
    | _ => simp [cmpD] at h
  | .str x, db, A, s, a, b, as, bs, ra, rb, h, _, _, hu => by
    cases db with
    | str y => exact rcLt_alike _ _ A s a b as bs ra rb (by simp [alike]) (by simp) hu
    | _ => simp [cmpD] at h
  | .tuple xs, db, A, s, a, b, as, bs, ra, rb, h, c1, c2, hu => by
    cases db with
    | tuple ys =>
      simp only [cmpD] at h
      have c1 : PyData.canLayAll0 xs = true := by simpa [PyData.canLay0] using c1
      have c2 : PyData.canLayAll0 ys = true := by simpa [PyData.canLay0] using c2
      cases ra with
      | @tuple l o us n _ _ g1 g2 g3 g4 =>
        cases rb with
        | @tuple l' o' ws n' _ _ k1 k2 k3 k4 =>
          have n1 : us.size = xs.length := by simpa using SeqAt.ReadsAll.length _ _ _ g4
          have n2 : ws.size = ys.length := by simpa using SeqAt.ReadsAll.length _ _ _ k4
          rw [dataLt_tuple, ← first_cmp xs ys h, ← n1, ← n2]
          refine rcLt_tupF ⟨_, g1, g2, _, g3⟩ ⟨_, k1, k2, _, k3⟩ (room_here hu) (fun j j1 j2 _ => ?_) fun j j1 j2 hpre hj => ?_
          · exact eqAt_readsAll xs ys A.in1 s us.toList ws.toList _ _ g4 k4 c1 c2 (room_in hu) j (by simpa using j1) (by simpa using j2)
          · exact rcLt_cmpL xs ys A.in1 s us.toList ws.toList _ _ g4 k4 h c1 c2 (room_in hu) j (by simpa using j1) (by simpa using j2) hpre hj
    | _ => simp [cmpD] at h
  | .none, db, _, _, _, _, _, _, _, _, h, _, _, _ => by cases db <;> simp [cmpD] at h
  | .list _, db, _, _, _, _, _, _, _, _, h, _, _, _ => by cases db <;> simp [cmpD] at h
  | .dict _, db, _, _, _, _, _, _, _, _, h, _, _, _ => by cases db <;> simp [cmpD] at h
theorem rcLt_cmpL : ∀ (xs ys : List D) (A : Around) (s : Shared) (vs ws : List Value) (as bs : List Addr), ReadsAll s.heap vs xs as → ReadsAll s.heap ws ys bs → cmpL xs ys = true → PyData.canLayAll0 xs = true → PyData.canLayAll0 ys = true →
    A.units + min (PyData.depthAll xs) (PyData.depthAll ys) < cLine → ∀ j (h1 : j < vs.length) (h2 : j < ws.length), (∀ i, i < j → pairEq xs ys i = true) → pairEq xs ys j = false → RcLt A s vs[j] ws[j] (dataLt (xs.getD j .none) (ys.getD j .none))
  | [], _, _, _, _, _, _, _, ra, _, _, _, _, _, j, h1, _, _, _ => by cases ra; exact absurd h1 (Nat.not_lt_zero _)
  | _ :: _, [], _, _, _, _, _, _, _, rb, _, _, _, _, j, _, h2, _, _ => by cases rb; exact absurd h2 (Nat.not_lt_zero _)
  | x :: xs, y :: ys, A, s, _, _, _, _, ra, rb, h, c1, c2, hu, j, h1, h2, hpre, hj => by
    have c1 : x.canLay0 = true ∧ PyData.canLayAll0 xs = true := by simpa [PyData.canLayAll0] using c1
    have c2 : y.canLay0 = true ∧ PyData.canLayAll0 ys = true := by simpa [PyData.canLayAll0] using c2
    cases ra with
    | cons r rs =>
      cases rb with
      | cons r' rs' =>
        cases j with
        | zero =>
          have hx : PyData.eqv x y = false := hj
          exact rcLt_cmp x y A s _ _ _ _ r r' (by rw [← cmpL_no hx]; exact h) c1.1 c2.1 (room_head hu)
        | succ j =>
          have hx : PyData.eqv x y = true := hpre 0 (Nat.succ_pos j)
          exact rcLt_cmpL xs ys A s _ _ _ _ rs rs' (by rw [← cmpL_yes hx]; exact h) c1.2 c2.2 (room_tail hu) j (Nat.lt_of_succ_lt_succ h1) (Nat.lt_of_succ_lt_succ h2) (fun i hi => hpre (i + 1) (Nat.succ_lt_succ hi)) hj
end
section
variable {prog : Program} {w : World} {A : Around} {E : Value → Shared → Prop} {s : Shared}
theorem oneLt_cmp {f : Bool} {da db : D} {a b : Value} {as bs : List Addr} {Q : Bool → Shared → Prop} (hf : f = true → ∀ xs, da ≠ .tuple xs) (ra : Reads s.heap a da as) (rb : Reads s.heap b db bs) (h : cmpD da db = true) (c1 : da.canLay0 = true) (c2 : db.canLay0 = true)
    (hu : A.units + min da.depth db.depth < cLine) (hq : Q (dataLt da db) s) : wpAny (model prog w) A (oneLt' f a b) Q E s := by
  cases f with
  | false =>
    rw [oneLt'_eq]
    simp only [Bool.false_eq_true, if_false]
    exact wpAny_bind (rcLt_cmp da db A s a b as bs ra rb h c1 c2 hu prog w E _ (wpAny_truthy_bool hq))
  | true =>
    refine oneLt_alike hf ra rb ?_ ?_ hu hq
    · cases da with
      | tuple xs => exact absurd rfl (hf rfl xs)
      | bool x => cases db <;> first | (simp [cmpD] at h; done) | simp [alike]
      | int x => cases db <;> first | (simp [cmpD] at h; done) | simp [alike]
      | str x => cases db <;> first | (simp [cmpD] at h; done) | simp [alike]
      | _ => cases db <;> simp [cmpD] at h
    · rintro rfl
      cases db <;> simp [cmpD] at h
theorem katLex_cmp {b fin : Bool} {Q : Bool → Shared → Prop} : ∀ (xs ys : List D) (i : Nat) (vs ws : List Value) (as bs : List Addr), ReadsAll s.heap vs xs as → ReadsAll s.heap ws ys bs → cmpL xs ys = true → PyData.canLayAll0 xs = true → PyData.canLayAll0 ys = true →
    A.units + min (PyData.depthAll xs) (PyData.depthAll ys) < cLine → (b = true → i = 0 → ∀ x r t, xs = x :: r → x ≠ .tuple t) → fin = decide (xs.length < ys.length) → Q (PyProof.Rows.lexLt itemOrd (keyToksAll xs) (keyToksAll ys)) s → KatLex prog w A b fin Q (vs.zip ws) i s
  | [], [], i, _, _, _, _, ra, rb, _, _, _, _, _, hf, hq => by
    cases ra
    cases rb
    rw [lex_irrefl] at hq
    exact kat_nil (by rw [hf]; exact hq)
  | [], y :: ys, i, _, _, _, _, ra, rb, _, _, _, _, _, hf, hq => by
    cases ra
    rw [toks_all_cons] at hq
    simp only [keyToksAll] at hq
    rw [lex_diff (O := itemOrd) (by simp)] at hq
    rw [List.zip_nil_left, hf]
    exact kat_nil hq
  | x :: xs, [], i, _, _, _, _, ra, rb, _, _, _, _, _, hf, hq => by
    cases rb
    rw [toks_all_cons] at hq
    simp only [keyToksAll] at hq
    rw [lex_diff (O := itemOrd) (by simp)] at hq
    rw [List.zip_nil_right, hf]
    exact kat_nil hq
  | x :: xs, y :: ys, i, _, _, _, _, ra, rb, h, c1, c2, hu, hb, hf, hq => by
    have c1 : x.canLay0 = true ∧ PyData.canLayAll0 xs = true := by simpa [PyData.canLayAll0] using c1
    have c2 : y.canLay0 = true ∧ PyData.canLayAll0 ys = true := by simpa [PyData.canLayAll0] using c2
    cases ra with
    | cons r rs =>
      cases rb with
      | cons r' rs' =>
        rw [List.zip_cons_cons]
        refine kat_cons (eqAt_reads x y A s _ _ _ _ r r' c1.1 c2.1 (room_head hu) prog w _ _ ?_)
        cases hx : PyData.eqv x y with
        | true =>
          rw [lex_yes hx] at hq
          exact kat_yes (katLex_cmp xs ys (i + 1) _ _ _ _ rs rs' (by rw [← cmpL_yes hx]; exact h) c1.2 c2.2 (room_tail hu) (fun _ z => absurd z (Nat.succ_ne_zero i)) (by rw [hf]; simp only [List.length_cons, Nat.add_lt_add_iff_right]) hq)
        | false =>
          rw [cmpL_no hx] at h
          rw [lex_no h hx] at hq
          refine kat_no (oneLt_cmp (fun z t => ?_) r r' h c1.1 c2.1 (room_head hu) hq)
          rw [Bool.and_eq_true] at z
          exact hb z.1 (by simpa using z.2) x xs t rfl
theorem kind_some {h : Heap} {ds : List D} {v : Value} {d : D} {as : List Addr} (hc : ∀ d ∈ ds, d.canLay0 = true) (hd : d ∈ ds) (r : Reads h v d as) : (dataKind h ds).keyOf v = some (keyToks d) := by
  have q : ∃ d, d ∈ ds ∧ ∃ as, Reads h v d as := ⟨d, hd, as, r⟩
  have e : (dataKind h ds).keyOf v = some (keyToks q.choose) := dif_pos q
  obtain ⟨g1, as', g2⟩ := q.choose_spec
  rw [e, SeqAt.Reads.unique _ _ _ _ _ (hc _ g1) g2 r]
def sameFirst (ds : List D) : Bool := ds.all fun d => ds.all fun d' => match d, d' with
  | .tuple (x :: _), .tuple (y :: _) => dataType x == dataType y
  | _, _ => false
def allCmp (ds : List D) : Bool := ds.all fun d => ds.all fun d' => cmpD d d'
theorem sorts_cmp {vs : List Value} {ds : List D} (e : EachIs (fun v d => ∃ as, Reads s.heap v d as) vs ds) (hal : ∀ d ∈ ds, ∀ d' ∈ ds, cmpD d d' = true) (hc : ∀ d ∈ ds, d.canLay0 = true) (ht : ∀ d ∈ ds, ∃ x r, d = .tuple (x :: r))
    (hT : ∀ x r y t, .tuple (x :: r) ∈ ds → .tuple (y :: t) ∈ ds → dataType x = dataType y) (hu : ∀ d, d ∈ ds → A.units + d.depth < cLine) : SortsAt prog w A s (dataKind s.heap ds) vs := by
  refine ⟨fun v hv => ?_, ?_⟩
  · obtain ⟨d, hd, as, r⟩ := e.left v hv
    exact ⟨_, kind_some hc hd r⟩
  · cases ds with
    | nil =>
      cases e
      exact ⟨general', fun E x y a b Q ha _ _ => (by
        obtain ⟨d, _, hd, _⟩ := dataKind_inv ha
        cases hd), fun z => absurd z (by simp)⟩
    | cons d₀ ds₀ =>
      obtain ⟨x₀, r₀, e₀⟩ := ht d₀ List.mem_cons_self
      have m0 : PyData.tuple (x₀ :: r₀) ∈ d₀ :: ds₀ := by rw [← e₀]; exact List.mem_cons_self
      refine ⟨tuples' (dataType x₀ != Value.type "tuple"), ?_, fun h2 E Q hq => ?_⟩
      · intro E x y a b Q ha hb hq
        obtain ⟨d, as, hd, ra, rfl⟩ := dataKind_inv ha
        obtain ⟨d', as', hd', rb, rfl⟩ := dataKind_inv hb
        have hdd := hal d hd d' hd'
        have hr : A.units + min d.depth d'.depth < cLine := by
          have := hu d hd
          omega
        have q1 := hc d hd
        have q2 := hc d' hd'
        obtain ⟨x1, r1, rfl⟩ := ht d hd
        obtain ⟨x2, r2, rfl⟩ := ht d' hd'
        have hq' : Q (dataLt (.tuple (x1 :: r1)) (.tuple (x2 :: r2))) s := hq
        rw [dataLt_tuple] at hq'
        simp only [cmpD] at hdd
        cases ra with
        | @tuple l o us n _ _ g1 g2 g3 g4 =>
          cases rb with
          | @tuple l' o' ws n' _ _ k1 k2 k3 k4 =>
            have n1 : us.size = (x1 :: r1).length := by simpa using SeqAt.ReadsAll.length _ _ _ g4
            have n2 : ws.size = (x2 :: r2).length := by simpa using SeqAt.ReadsAll.length _ _ _ k4
            refine kat_lt g1 g3 k1 k3 (katLex_cmp (x1 :: r1) (x2 :: r2) 0 _ _ _ _ g4 k4 hdd (by simpa [PyData.canLay0] using q1) (by simpa [PyData.canLay0] using q2) (by have q := SeqAt.room_in hr; omega) (fun hb _ x r t ex => ?_) (by rw [n1, n2]) hq')
            cases ex
            rw [← hT _ _ _ _ hd m0] at hb
            exact dataType_tuple hb t
      · obtain ⟨fs, t1, t2, t3⟩ := each_katTups e ht
        refine kat_kind (T := dataType x₀) t1 (by omega) (fun f hf => ?_) (beq_self_eq_true _) hq
        obtain ⟨x, r, as, m1, m2⟩ := t3 f hf
        rw [← hT _ _ _ _ m1 m0]
        exact looks_reads m2
theorem sorted_cmp {β : Type} {vs : List Value} {bs : List β} {enc : β → D} {R : Value → β → Prop} {l : Addr} {Q : Value → Shared → Prop} (hl : s.heap.IsList l vs.toArray) (e : EachIs R vs bs) (er : EachIs (fun v b => ∃ as, Reads s.heap v (enc b) as) vs bs)
    (hal : ∀ d ∈ bs.map enc, ∀ d' ∈ bs.map enc, cmpD d d' = true) (hc : ∀ d ∈ bs.map enc, d.canLay0 = true) (ht : ∀ d ∈ bs.map enc, ∃ x r, d = .tuple (x :: r)) (hT : ∀ x r y t, .tuple (x :: r) ∈ bs.map enc → .tuple (y :: t) ∈ bs.map enc → dataType x = dataType y) (hL : bs.length ≤ sizeLine)
    (hu : ∀ b, b ∈ bs → A.units + 2 + (enc b).depth < cLine) (fin : ∀ out, out.length = bs.length → EachIs R out (bs.mergeSort (dataLe false enc)) → Q (.ref (s.heap.objs.size + 1)) { s with heap := sortedAll s.heap vs (List.toArray out) }) :
    wpAny (model prog w) A (call (.builtin "sorted") [.ref l]) Q E s := by
  have er2 : EachIs (fun v b => ∃ as, Reads (sortingHeap (copyHeap s.heap vs) (s.heap.objs.size + 1) vs) v (enc b) as) vs bs := er.mono fun _ _ ⟨as, r⟩ => ⟨as, PyProof.Rows.Reads.keeps (fun _ _ => sorting_copy_old) r⟩
  have er3 := each_map (R := fun v d => ∃ as, Reads (sortingHeap (copyHeap s.heap vs) (s.heap.objs.size + 1) vs) v d as) enc er2
  have hk : EachIs (fun v d => (dataKind (sortingHeap (copyHeap s.heap vs) (s.heap.objs.size + 1) vs) (bs.map enc)).keyOf v = some (keyToks d)) vs (bs.map enc) := (each_mem er3).mono fun _ _ ⟨⟨_, r⟩, hd⟩ => kind_some hc hd r
  refine sorted_vals hl (sorts_cmp (s := { s with heap := sortingHeap (copyHeap s.heap vs) (s.heap.objs.size + 1) vs }) er3 hal hc ht hT (bound_map hu)) (by rw [e.length]; exact hL) (fin _ (by rw [sortVals_length false rfl]; exact e.length) ?_)
  exact sortVals_each (κ := dataKind _ (bs.map enc)) (fun b => keyToks (enc b)) e (each_of_map enc hk)
end
def okSC (ds : List D) : Bool := allCmp ds && sameFirst ds && ds.all fun d => tupNe d && noD d && d.canLay0 && decide (d.depth ≤ 60)
def gSortedC : List D → Option D
  | [.list ds] => if okSC ds = true then some (.list (sortD ds)) else none
  | _ => none
section
variable {X : Cx} {K : PySem.W.Frag}
theorem c_sortedC (hu : X.A.units + 65 < cLine) (hK : X.K = K := by rfl) : CallR X (.builtin "sorted") (rcall K gSortedC) := by
  subst hK
  intro pins s σ H xs us Q I r ⟨S, ds, d, hr, e, occ, k⟩
  unfold gSortedC at e
  split at e
  · rename_i l
    split at e
    · rename_i hok
      cases e
      obtain ⟨v, rfl, r1⟩ := prs1 hr
      obtain ⟨a, ys, rfl, h1, q1⟩ := r1.list
      obtain ⟨its, rv, hl, hz⟩ := I.list h1
      rw [Vals.ref1 r]
      unfold okSC at hok
      simp only [Bool.and_eq_true] at hok
      obtain ⟨⟨hal, hsf⟩, hall⟩ := hok
      have hall : ∀ d ∈ l, tupNe d = true ∧ noD d = true ∧ d.canLay0 = true ∧ d.depth ≤ 60 := fun d hd => by
        have := List.all_eq_true.mp hall d hd
        simp only [Bool.and_eq_true, decide_eq_true_eq] at this
        exact ⟨this.1.1.1, this.1.1.2, this.1.2, this.2⟩
      have hl2 : ys.length = l.length := q1.length
      have ezip : (ys.zip l).map (fun b : V × D => b.2) = l := zip_snd hl2
      have e1 := each_rel rv q1
      have hmem : ∀ b ∈ ys.zip l, b.2 ∈ l := fun b hb => (List.of_mem_zip (a := b.1) (b := b.2) hb).2
      have er : PySem.W.EachIs (fun u (b : V × D) => ∃ as, Reads s.heap u b.2 as) its (ys.zip l) := each_reads I e1 fun b hb => (hall b.2 (hmem b hb)).2.1
      refine sorted_cmp (enc := fun b : V × D => b.2) hl.isList e1 er ?_ ?_ ?_ ?_ ?_ ?_ fun out hlo ho => ?_
      · rw [ezip]
        exact fun d hd d' hd' => List.all_eq_true.mp (List.all_eq_true.mp hal d hd) d' hd'
      · rw [ezip]; exact fun d hd => (hall d hd).2.2.1
      · rw [ezip]; exact fun d hd => tupNe_of (hall d hd).1
      · rw [ezip]
        intro x r y t m1 m2
        have := List.all_eq_true.mp (List.all_eq_true.mp hsf _ m1) _ m2
        exact eq_of_beq this
      · rw [List.length_zip, hl2, Nat.min_self, ← hl2]; exact hz
      · intro b hb
        have := (hall b.2 (hmem b hb)).2.2.2
        omega
      · obtain ⟨v1, v2⟩ := each_vals (R := fun _ => True) ho
        obtain ⟨ep, he'⟩ := PyProof.Rows.sortedAll_at s.heap its out.toArray
        have hn := I.hok.fresh (Nat.le_succ s.heap.objs.size)
        have em : ((ys.zip l).mergeSort (PySem.W.dataLe false fun b : V × D => b.2)).map (·.2) = sortD l := by
          unfold sortD
          have h := List.map_mergeSort (r := PySem.W.dataLe false fun b : V × D => b.2) (s := PySem.W.dataLe false id) (f := fun b : V × D => b.2) (l := ys.zip l) fun a _ b _ => rfl
          rw [ezip] at h
          exact h
        rw [em] at v2
        have hlen : (((ys.zip l).mergeSort (PySem.W.dataLe false fun b : V × D => b.2)).map (·.1)).length ≤ sizeLine := by
          rw [List.length_map, List.length_mergeSort, List.length_zip, hl2, Nat.min_self, ← hl2]; exact hz
        exact ⟨.ref _, upd H (s.heap.objs.size + 1) (.lst (((ys.zip l).mergeSort (PySem.W.dataLe false fun b : V × D => b.2)).map (·.1))), I.laid (t' := s.toks) (fun _ _ => PyProof.Rows.sortedAll_old) (Nat.le_succ _) ⟨hlen, out, ep, v1, he'⟩, rfl, k _ _ (Ext.new hn) (.lst (fun z => occ _ z hn) (.inl upd_same) (v2.ext (Ext.new hn)))⟩
    · cases e
  · cases e
def gSorted4 (ds : List D) : Option D := match gSorted2 ds with
  | some d => some d
  | none => gSortedC ds
theorem c_sorted4 (hcalm : X.calm = true) (hu : X.A.units + 65 < cLine) (hK : X.K = K := by rfl) : CallR X (.builtin "sorted") (rcall K gSorted4) := by
  intro pins s σ H xs us Q I r ⟨S, ds, d, hr, e, occ, k⟩
  unfold gSorted4 at e
  split at e
  · rename_i d' e'
    cases e
    exact c_sorted2 hcalm hK pins s σ H xs us Q I r ⟨S, ds, _, hr, e', occ, k⟩
  · exact c_sortedC hu hK pins s σ H xs us Q I r ⟨S, ds, d, hr, e, occ, k⟩
end
end PD
set_option Elab.async false
set_option linter.all false
set_option maxRecDepth 100000
set_option maxHeartbeats 2000000
namespace PD
open PySem PySem.Spec PyProof.Rows L2 GxR GenX OwnK
section
variable {X : Cx} {pins : List (Addr × Obj)} {σ : L2.St} {H : Hp} {s : Shared}
end
section
variable {prog : Program} {w : World} {A : Around} {s : Shared}
end
section
variable {X : Cx} {pins : List (Addr × Obj)} {σ : L2.St} {H : Hp} {s : Shared}
end
section
variable {X : Cx} {P : Addr} {i : Nat} {te : TE}
end
section
variable {X : Cx} {F : Frm} {P : Addr}
end
end PD
set_option Elab.async false
set_option linter.all false
set_option maxRecDepth 100000
set_option maxHeartbeats 2000000
namespace PD
open PySem PySem.Spec PyProof.Rows L2 GxR GenX OwnK PpSet
def SetIO (w : World) (D : Addr) (S : Int → Bool) (n : Nat) : HO := .ext fun h => SetR w h D S n
section
variable {X : Cx}
end
section
variable {X : Cx}
end
theorem SetR.noCode {w : World} {D c : Addr} {S : Int → Bool} {n : Nat} {q : Str} (z : SetIO w D S n = LamX.CodeO c q) : False := by
  unfold SetIO LamX.CodeO at z
  obtain ⟨o, es, ep, t, h1, _, h2, _⟩ := (congrFun (HO.ext.inj z) (codeHeap c q)).mpr ⟨_, _, _, codeHeap_at c q, rfl, rfl⟩
  obtain ⟨vs, hv⟩ := codeHeap_all c q D o h1
  rw [hv] at h2
  cases h2
section
variable {X : Cx} {F : Frm} {tg : Expr} {pos p : Pos}
end
def gVals : D → Option (List D)
  | .dict kvs => if isT kvs = true then none else some (kvs.map (·.2))
  | _ => none
def mVals (m : M D) : M (List D) := fun ρ => match m ρ with
  | some (d, ρ1) => (match gVals d with
    | some ds => some (ds, ρ1)
    | none => none)
  | none => none
end PD
set_option Elab.async false
set_option linter.all false
set_option maxRecDepth 100000
set_option maxHeartbeats 2000000
namespace PD
open PySem PySem.Spec PyProof.Rows L2 GxR GenX OwnK
section
variable {prog : Program} {w : World} {A : Around} {E : Value → Shared → Prop} {s : Shared}
set_option maxHeartbeats 4000000 in
end
end PD
set_option Elab.async false
set_option linter.all false
set_option maxRecDepth 100000
set_option maxHeartbeats 2000000
namespace PD
open PySem PySem.Spec PyProof.Rows L2 GxR GenX OwnK
section
variable {X : Cx} {F : Frm} {pos p : Pos}
end
def mPar0 (i j : Nat) : MS := fun ρ => if i < ρ.length ∧ j < ρ.length then some (.nx ((ρ.set i (some (true, .dict []))).set j (some (true, .dict [])))) else none
section
variable {X : Cx} {F : Frm} {pos : Pos}
end
section
variable {X : Cx} {F : Frm} {pos p : Pos}
end
end PD
set_option Elab.async false
set_option linter.all false
set_option maxRecDepth 100000
set_option maxHeartbeats 2000000
namespace PD
open PySem PySem.Spec PyProof.Rows L2 GxR GenX OwnK
section
variable {F : Frm} {B : List Addr} {A : Nat → Addr} {σ : L2.St} {H : Hp} {ρ : Rho}
theorem none_some {i j : Nat} {b : Bool} {d : D} (h : (ρ.set i none)[j]? = some (some (b, d))) : i ≠ j ∧ ρ[j]? = some (some (b, d)) := by
  rw [List.getElem?_set] at h
  split at h
  · split at h <;> cases h
  · rename_i n
    exact ⟨n, h⟩
theorem Ev.hideO (E : Ev F B A σ H ρ) {i : Nat} {d0 : D} (hi : i ∉ F.io) (e0 : ρ[i]? = some (some (true, d0))) (hb : isBg d0 = false) : Ev F (A i :: B) A σ H (ρ.set i none) := by
  have hS : ∀ a, Av F (A i :: B) A (ρ.set i none) a → Av F B A ρ a := fun a h => by
    rcases h with h | h | ⟨j, d, h, p⟩
    · exact .inl h
    · rcases List.mem_cons.mp h with h | h
      · exact .inr (.inr ⟨i, d0, e0, .inl h⟩)
      · exact .inr (.inl h)
    · exact .inr (.inr ⟨j, d, (none_some h).2, p⟩)
  have ne : ∀ {j : Nat} {d : D} {a : Addr}, (ρ.set i none)[j]? = some (some (true, d)) → Pt A j d a → a ≠ A i := fun {j d a} h p z => (none_some h).1 (E.inj i j d0 d a e0 (none_some h).2 (.inl z) p)
  have g : ∀ {C : Addr → Prop}, Gro C H H := Gro.refl H
  refine ⟨by rw [List.length_set]; exact E.len, fun j d h => ?_, fun j d h => ?_, fun j k d e a h1 h2 => E.inj j k d e a (none_some h1).2 (none_some h2).2, fun j d a h p hj => ?_, fun j hj => ?_, by rw [List.length_set]; exact E.few, E.occ, fun b hb2 => ?_, E.chg, E.tabs, fun r hr => (E.roots r hr).mono (C := fun _ => False) g hS fun _ z => z.elim⟩
  · obtain ⟨v, h1, h2⟩ := E.plain j d (none_some h).2
    exact ⟨v, h1, h2.mono (C := fun _ => False) g hS fun _ z => z.elim⟩
  · obtain ⟨h1, h2⟩ := E.own j d (none_some h).2
    exact ⟨h1, h2.mono (C := fun _ => False) g hS (fun _ z => z.elim) fun _ _ => id⟩
  · obtain ⟨h1, h2, h3⟩ := E.nS j d a (none_some h).2 p hj
    exact ⟨h1, fun z => (List.mem_cons.mp z).elim (ne h p) h2, h3⟩
  · obtain ⟨d, h1, h2, h3, h4⟩ := E.ios j hj
    have hij : i ≠ j := fun z => hi (z ▸ hj)
    have h1' : (ρ.set i none)[j]? = some (some (true, d)) := by rw [List.getElem?_set, if_neg hij]; exact h1
    exact ⟨d, h1', h2, h3, fun a p => ⟨(h4 a p).1, fun z => (List.mem_cons.mp z).elim (ne h1' p) (h4 a p).2⟩⟩
  · rcases List.mem_cons.mp hb2 with z | z
    · subst z
      obtain ⟨h1, h2, h3⟩ := E.nS i d0 (A i) e0 (.inl rfl) hi
      exact ⟨(E.own i d0 e0).2.some (.inl rfl), h3, h1⟩
    · exact E.occB b z
end
def mLcO (i : Nat) (g : D → Rho → Option Rho) (mt : M Bool) (me : M D) (vs : List Nat) : M D := fun ρ => match ρ[i]? with
  | some (some (true, .list ds)) => (match lcL g mt me vs ds [] (wipeR (ρ.set i none) vs) with
    | some (acc, ρ2) => some (.list acc, (wipeR ρ2 vs).set i (some (true, .list ds)))
    | none => none)
  | _ => none
section
variable {X : Cx} {F : Frm} {tg : Expr} {pos : Pos}
end
end PD
set_option Elab.async false
set_option linter.all false
set_option maxRecDepth 100000
set_option maxHeartbeats 2000000
namespace PD
open PySem PySem.Spec PySem.Calls PyProof.Rows L2 GxR GenX OwnK
open PySem.SeqAt PySem.W
section
variable {prog : Program} {w : World} {A : Around} {E : Value → Shared → Prop} {s : Shared}
end
section
variable {X : Cx} {K : PySem.W.Frag}
end
end PD
set_option Elab.async false
set_option linter.all false
set_option maxRecDepth 100000
set_option maxHeartbeats 4000000
namespace PD
open PySem PySem.Spec PyProof.Rows L2 GxR GenX OwnK
section
variable {X : Cx}
end
end PD
set_option Elab.async false
set_option linter.all false
set_option maxRecDepth 100000
set_option maxHeartbeats 4000000
namespace PD
open PySem PySem.Spec PyProof.Rows L2 GxR GenX OwnK
def minO : List Int → Option D
  | [] => none
  | n :: r => some (.int (r.foldl (fun m x => if x < m then x else m) n))
def gMin1 : List D → Option D
  | [.list ds] => (allInts ds).bind minO
  | _ => none
theorem fold_min : ∀ (r : List Int) (n : Int), (r.foldl (fun m x => if x < m then x else m) n = n ∨ r.foldl (fun m x => if x < m then x else m) n ∈ r) ∧ r.foldl (fun m x => if x < m then x else m) n ≤ n ∧ ∀ y ∈ r, r.foldl (fun m x => if x < m then x else m) n ≤ y
  | [], n => ⟨.inl rfl, Int.le_refl _, fun y hy => by cases hy⟩
  | x :: r, n => by
    rw [List.foldl_cons]
    obtain ⟨h1, h2, h3⟩ := fold_min r (if x < n then x else n)
    generalize r.foldl (fun m x => if x < m then x else m) (if x < n then x else n) = M at *
    refine ⟨?_, ?_, fun y hy => ?_⟩
    · rcases h1 with h1 | h1
      · split at h1
        · exact .inr (by rw [h1]; exact List.mem_cons_self)
        · exact .inl h1
      · exact .inr (List.mem_cons_of_mem _ h1)
    · split at h2 <;> omega
    · rcases List.mem_cons.mp hy with e | hy
      · subst e; split at h2 <;> omega
      · exact h3 y hy
theorem minO_spec {ns : List Int} {d : D} (h : minO ns = some d) : 0 < ns.length ∧ ∃ M, d = .int M ∧ M ∈ ns ∧ ∀ y ∈ ns, M ≤ y := by
  cases ns with
  | nil => cases h
  | cons n r =>
    cases h
    obtain ⟨h1, h2, h3⟩ := fold_min r n
    refine ⟨Nat.succ_pos _, _, rfl, ?_, fun y hy => ?_⟩
    · rcases h1 with h1 | h1
      · rw [h1]; exact List.mem_cons_self
      · exact List.mem_cons_of_mem _ h1
    · rcases List.mem_cons.mp hy with e | hy
      · rw [e]; exact h2
      · exact h3 y hy
theorem min_uniq {ns : List Int} {M m : Int} (h1 : M ∈ ns) (h2 : ∀ y ∈ ns, M ≤ y) (h3 : m ∈ ns) (h4 : ∀ y ∈ ns, m ≤ y) : m = M := Int.le_antisymm (h4 M h1) (h2 m h3)
section
variable {X : Cx} {K : PySem.W.Frag}
theorem c_min1 (hc : X.calm = true) (hK : X.K = K := by rfl) : CallR X (.builtin "min") (rcall K gMin1) := by
  subst hK
  intro pins s σ H vs us Q I r ⟨S, ds, d, hr, e, occ, k⟩
  unfold gMin1 at e
  split at e
  · rename_i l
    cases q : allInts l with
    | none => rw [q] at e; cases e
    | some ns =>
      rw [q] at e
      obtain ⟨hne, M, rfl, h1, h2⟩ := minO_spec (ns := ns) e
      obtain ⟨v, rfl, r1⟩ := prs1 hr
      obtain ⟨a, ys, rfl, g1, q1⟩ := r1.list
      have z := allInts_rel q q1
      subst z
      refine cr_min hc pins s σ H _ us Q I r ⟨a, ns, rfl, g1, hne, fun m g2 g3 => ?_⟩
      rw [min_uniq h1 h2 g2 g3]
      exact k _ H (Ext.refl H) (.int _)
  · cases e
end
end PD
set_option Elab.async false
set_option linter.all false
set_option maxRecDepth 100000
set_option maxHeartbeats 2000000
namespace PD
open PySem PySem.Spec PyProof.Rows L2 GxR GenX OwnK
inductive Lots (H : Hp) : List (Key × V) → List Addr → List (Int × List Str) → Prop
  | nil : Lots H [] [] []
  | cons {z : Int} {zs : List Str} {q : Addr} {kvs : List (Key × V)} {qs : List Addr} {gs : List (Int × List Str)} : H q = some (.lst (zs.map V.str)) → q ∉ qs → Lots H kvs qs gs → Lots H ((.inl z, .ref q) :: kvs) (q :: qs) ((z, zs) :: gs)
def grp : List (Int × List Str) → Int → Str → List (Int × List Str)
  | [], z, x => [(z, [x])]
  | (y, ys) :: r, z, x => if y = z then (y, ys ++ [x]) :: r else (y, ys) :: grp r z x
def lotOf : List (Int × List Str) → Int → List Str
  | [], _ => []
  | (y, ys) :: r, z => if y = z then ys else lotOf r z
theorem Lots.same {H H' : Hp} : ∀ {kvs : List (Key × V)} {qs : List Addr} {gs : List (Int × List Str)}, Lots H kvs qs gs → (∀ q ∈ qs, ∀ xs, H q = some (.lst xs) → H' q = some (.lst xs)) → Lots H' kvs qs gs
  | _, _, _, .nil, _ => .nil
  | _, _, _, .cons e n t, h => .cons (h _ List.mem_cons_self _ e) n (t.same fun q hq => h q (List.mem_cons_of_mem _ hq))
theorem Lots.len {H : Hp} : ∀ {kvs : List (Key × V)} {qs : List Addr} {gs : List (Int × List Str)}, Lots H kvs qs gs → kvs.length = gs.length
  | _, _, _, .nil => rfl
  | _, _, _, .cons e n t => by rw [List.length_cons, List.length_cons, t.len]
theorem Lots.live {H : Hp} : ∀ {kvs : List (Key × V)} {qs : List Addr} {gs : List (Int × List Str)}, Lots H kvs qs gs → ∀ q ∈ qs, H q ≠ none
  | _, _, _, .nil, _, h => nomatch h
  | _, _, _, .cons e n t, q, h => by
    rcases List.mem_cons.mp h with z | z
    · rw [z, e]; simp
    · exact t.live q z
theorem valV_cons {κ : Type} [DecidableEq κ] {k k' : κ} {v : V} {r : List (κ × V)} (h : k' ≠ k) : valV ((k', v) :: r) k = valV r k := by simp [valV, List.find?_cons, h]
theorem Lots.hit {H : Hp} {z : Int} {v : V} : ∀ {kvs : List (Key × V)} {qs : List Addr} {gs : List (Int × List Str)}, Lots H kvs qs gs → valV kvs (.inl z) = some v →
    ∃ q zs, q ∈ qs ∧ v = .ref q ∧ zs = lotOf gs z ∧ H q = some (.lst (zs.map V.str)) ∧ ∀ (H' : Hp) (x : Str), H' q = some (.lst ((zs ++ [x]).map V.str)) → (∀ b ∈ qs, b ≠ q → ∀ xs, H b = some (.lst xs) → H' b = some (.lst xs)) → Lots H' kvs qs (grp gs z x)
  | _, _, _, .nil, h => by cases h
  | _, _, _, .cons (z := y) (zs := ys) (q := q) (gs := gs) e n t, h => by
    by_cases hy : y = z
    · subst hy
      rw [valV_pos rfl] at h
      cases h
      refine ⟨q, ys, List.mem_cons_self, rfl, by simp [lotOf], e, fun H' x e' k => ?_⟩
      unfold grp
      rw [if_pos rfl]
      exact .cons e' n (t.same fun b hb o eo => k b (List.mem_cons_of_mem _ hb) (fun z => n (z ▸ hb)) o eo)
    · rw [valV_cons (fun z => hy (Sum.inl.inj z))] at h
      obtain ⟨q', zs, hq, e1, e0, e2, k⟩ := t.hit h
      refine ⟨q', zs, List.mem_cons_of_mem _ hq, e1, by simp [lotOf, hy, e0], e2, fun H' x e' k' => ?_⟩
      unfold grp
      rw [if_neg hy]
      exact .cons (k' _ List.mem_cons_self (fun z => n (z ▸ hq)) _ e) n (k H' x e' fun b hb => k' b (List.mem_cons_of_mem _ hb))
theorem valV_noany {κ : Type} [DecidableEq κ] {k : κ} : ∀ {kvs : List (κ × V)}, valV kvs k = none → (kvs.any fun kv => decide (kv.1 = k)) = false
  | [], _ => rfl
  | (k', v) :: r, h => by
    by_cases e : k' = k
    · rw [valV_pos e] at h
      cases h
    · rw [valV_cons e] at h
      rw [List.any_cons, valV_noany h]
      simp [e]
theorem Lots.miss {H H' : Hp} {z : Int} {q : Addr} {x : Str} (hq : H' q = some (.lst [V.str x])) : ∀ {kvs : List (Key × V)} {qs : List Addr} {gs : List (Int × List Str)}, Lots H kvs qs gs → valV kvs (.inl z) = none → q ∉ qs →
    (∀ b ∈ qs, ∀ xs, H b = some (.lst xs) → H' b = some (.lst xs)) → Lots H' (kvs ++ [(.inl z, .ref q)]) (qs ++ [q]) (grp gs z x)
  | _, _, _, .nil, _, _, _ => .cons hq (by simp) .nil
  | _, _, _, .cons (z := y) (zs := ys) (q := q0) (gs := gs) e n t, h, hn, k => by
    have hy : y ≠ z := fun e => by rw [valV_pos (by rw [e])] at h; cases h
    rw [valV_cons (fun z => hy (Sum.inl.inj z))] at h
    unfold grp
    rw [if_neg hy]
    refine .cons (k _ List.mem_cons_self _ e) (fun z => ?_) (Lots.miss hq t h (fun z => hn (List.mem_cons_of_mem _ z)) fun b hb => k b (List.mem_cons_of_mem _ hb))
    rcases List.mem_append.mp z with z | z
    · exact n z
    · exact hn (by rw [List.mem_singleton.mp z]; exact List.mem_cons_self)
theorem Lots.rel {K : PySem.W.Frag} {S : Addr → Prop} {H : Hp} : ∀ {kvs : List (Key × V)} {qs : List Addr} {gs : List (Int × List Str)}, Lots H kvs qs gs → (∀ q ∈ qs, ¬ S q) → RelKs K S H kvs (gs.map fun g => (.int g.1, .list (g.2.map .str)))
  | _, _, _, .nil, _ => .nil
  | _, _, _, .cons (zs := zs) e n t, h => .cons (k := .inl _) (.lst (h _ List.mem_cons_self) (.inl e) (relStrs zs)) (t.rel fun q hq => h q (List.mem_cons_of_mem _ hq))
where relStrs : ∀ zs : List Str, RelDs K S H (zs.map V.str) (zs.map PyData.str)
  | [] => .nil
  | z :: zs => .cons (.str z) (relStrs zs)
def lotsD (gs : List (Int × List Str)) : D := .dict (gs.map fun g => (.int g.1, .list (g.2.map .str)))
def lotsL (g : D → Rho → Option Rho) (mk me : M D) : List D → Rho → List (Int × List Str) → Option (List (Int × List Str) × Rho)
  | [], ρ, gs => some (gs, ρ)
  | d :: r, ρ, gs => match g d ρ with
    | some ρ1 => (match mk ρ1 with
      | some (.int z, ρ2) => (match me ρ2 with
        | some (.str x, ρ3) => if gs.length < sizeLine ∧ (lotOf gs z).length < sizeLine then lotsL g mk me r ρ3 (grp gs z x) else none
        | _ => none)
      | _ => none)
    | none => none
def mLots (i : Nat) (mi : M (List D)) (g : D → Rho → Option Rho) (mk me : M D) : MS := fun ρ => match ρ[i]? with
  | some (some (true, .dict [])) => (match mi ρ with
    | some (ds, ρ1) => (match lotsL g mk me ds (ρ1.set i none) [] with
      | some (gs, ρ2) => some (.nx (ρ2.set i (some (false, lotsD gs))))
      | none => none)
    | none => none)
  | _ => none
section
variable {F : Frm} {B : List Addr} {A : Nat → Addr} {σ : L2.St} {H : Hp} {ρ : Rho}
theorem Ev.unhideAll : ∀ {B : List Addr}, Ev F B A σ H ρ → Ev F [] A σ H ρ
  | [], E => E
  | _ :: _, E => E.unhide.unhideAll
structure LSt (F : Frm) (i : Nat) (A : Nat → Addr) (σ : L2.St) (H : Hp) (ρ : Rho) (gs : List (Int × List Str)) (B : List Addr) (p : Addr) (kvs : List (Key × V)) (qs : List Addr) : Prop where
  ev : Ev F B A σ H ρ
  at_ : σ[i]? = some (some (.ref p))
  lt : i < ρ.length
  no : ρ[i]? = some none
  p_in : p ∈ B
  q_in : ∀ q ∈ qs, q ∈ B
  p_out : p ∉ qs
  dic : H p = some (.dK kvs)
  lots : Lots H kvs qs gs
theorem wipe_keep {σ σ' : L2.St} {i : Nat} : ∀ {vs : List Nat}, i ∉ vs → L2.wipe σ' vs = L2.wipe σ vs → σ'[i]? = σ[i]? := by
  have one : ∀ (vs : List Nat) (τ : L2.St), i ∉ vs → (L2.wipe τ vs)[i]? = τ[i]? := by
    intro vs
    induction vs with
    | nil => intro τ _; rfl
    | cons v vs ih =>
      intro τ h
      show ((L2.wipe τ vs).set v none)[i]? = _
      rw [List.getElem?_set, if_neg (fun z => h (by rw [z]; exact List.mem_cons_self)), ih τ fun z => h (List.mem_cons_of_mem _ z)]
  intro vs h e
  rw [← one vs σ' h, e, one vs σ h]
end
section
variable {X : Cx} {F : Frm} {pos : Pos}
def tFzS (t : TS) : TS := fun Dn σ H => t { Dn with nx := fun σ' H' => Dn.nx σ' H' ∨ ∃ a u, H' a = some u ∧ Mut (some u) ∧ ∀ od, Dn.nx σ' (upd H' a (.frz od u)) } σ H
theorem ps_fz {st : Stmt} {t : TS} (h : PS X st t) : PS X st (tFzS t) := by
  refine ⟨fun pins s σ H Dn I hw => ?_⟩
  refine thn (h.run pins s σ H _ I hw) fun f s1 q => ?_
  cases f with
  | next =>
    obtain ⟨σ1, H1, I1, q⟩ := q
    rcases q with q | ⟨a, u, hu, mu, q⟩
    · exact ⟨σ1, H1, I1, q⟩
    · obtain ⟨od, I2⟩ := I1.lock hu mu
      exact ⟨σ1, _, I2, q od⟩
  | _ => exact q
theorem s_forLots {i : Nat} {l : Str} {tg iter ke e : Expr} {mi : M (List D)} {eff effk effe vs : List Nat} {g : D → Rho → Option Rho} {mk me : M D} {pl ap1 ap2 pe0 cp1 cp2 ps : Pos} (hp : PassesOwn (model X.prog X.w) X.A X.env X.xe) (hc : X.calm = true)
    (hN : X.N[i]? = some l) (hv : Vis X.env.scope l) (hio : (!decide (i ∈ F.io)) = true := by rfl) (hne : i ∉ eff) (hnk : i ∉ effk) (hnx : i ∉ effe) (hni : i ∉ vs)
    (hi : PI X tg iter (rdI F mi eff)) (hg : ∀ G, PG X tg (rdW (F.more G) vs g)) (hk : ∀ G, PE X ke (rd (F.more G) mk [] effk)) (he : ∀ G, PE X e (rd (F.more G) me [] effe)) (hK : X.K = F.K := by rfl)
    (hd : (l == ("__debug__" : Str)) = false := by decide) (hcd : (l == ("__classdict__" : Str)) = false := by decide)
    (m : M2 X (.Name l pl) "setdefault" ap1 ke (.List [] pe0) cp1)
    (hbase : attributeBase (.Call (.Attribute (.Name l pl) "setdefault" ap1) [ke, .List [] pe0] [] cp1) "append" X.env (eval (.Call (.Attribute (.Name l pl) "setdefault" ap1) [ke, .List [] pe0] [] cp1) X.env) = eval (.Call (.Attribute (.Name l pl) "setdefault" ap1) [ke, .List [] pe0] [] cp1) X.env := by rfl)
    (hfew : ((backTo cp2 (starEach [e] X.env)).all (fun x => !x.1) && (backToKw cp2 (keywordEach [] X.env)).all (fun x => x.1.isSome)
      && decide (([e] : List Expr).length + ([] : List Keyword).length + (if ([] : List Keyword).isEmpty then 0 else 1) < 30)) = true := by rfl)
    (hline : (ap2.endLine == cp2.line) = true := by rfl) (hs : starEach [e] X.env = (false, eval e X.env) :: starEach [] X.env := by rfl) (hplain : (backTo cp2 (starEach [] X.env)).any (·.1) = false := by rfl)
    (hsw : swapsWith (.Call (.Attribute (.Call (.Attribute (.Name l pl) "setdefault" ap1) [ke, .List [] pe0] [] cp1) "append" ap2) [e] [] cp2) none ps.line X.env = pure false := by rfl)
    (hfs : ∀ x, foldedSetIterable iter X.env x = pure x := by intro _; rfl) :
    PS X (.For tg iter [.Expr (.Call (.Attribute (.Call (.Attribute (.Name l pl) "setdefault" ap1) [ke, .List [] pe0] [] cp1) "append" ap2) [e] [] cp2) ps] [] pos) (rdS F (mLots i mi g mk me)) := by
  have hio' : i ∉ F.io := nio hio
  have body := pe_bm PySem.F.plainAttrs_list PySem.F.slot_list_append PySem.F.type_list_append mt_append (pe_dsetd (pe_var hN hv hd hcd) (PE.ex hk) (pe_lst pa_nil) m) (pa_cons (PE.ex he) pa_nil hs) hbase hfew hline hs hplain
  refine PS.mono (ps_fz (ps_for hp hc hi (PG.exW hg) (pss_cons (ps_expr body hsw) pss_nil) hfs)) fun Dn σ H ⟨A, ρ, out, E, hm, k⟩ => ?_
  unfold mLots at hm
  split at hm
  · rename_i e0
    split at hm
    · rename_i ds ρ1 e1
      split at hm
      · rename_i gs ρ2 e2
        cases hm
        refine ⟨[], A, ρ, ds, ρ1, E, e1, fun J G H1 P1 hG it => ?_⟩
        have e4 : ρ1[i]? = some (some (true, .dict [])) := by rw [P1.lv.keep i hne]; exact e0
        have L0 : LSt (F.more G) i A σ H1 (ρ1.set i none) [] (A i :: []) (A i) [] [] := by
          obtain ⟨h1, r⟩ := P1.env.own i _ e4
          have E1 := P1.env.hideO hio' e4 rfl
          have hl : i < ρ1.length := (List.getElem?_eq_some_iff.mp e4).1
          refine { ev := E1.more fun r hr => (hG r hr).mono (C := fun _ => False) (Gro.refl _) (fun a z => ?_) fun _ z => z.elim, at_ := h1, lt := by rw [List.length_set]; exact hl, no := by rw [List.getElem?_set, if_pos rfl, if_pos hl], p_in := List.mem_cons_self, q_in := (fun q z => nomatch z), p_out := (fun z => nomatch z), dic := ?_, lots := .nil }
          · rcases z with z | z | ⟨j, d, h, z⟩
            · exact .inl z
            · exact .inr (.inr ⟨i, _, e4, .inl (List.mem_singleton.mp z)⟩)
            · exact .inr (.inr ⟨j, d, (none_some h).2, z⟩)
          · rcases r with ⟨kvs, e, rk⟩ | ⟨xs, e, rk⟩
            · cases rk
              exact e
            · cases rk
        refine ⟨fun j m σ H => m = ds.length - j ∧ j ≤ ds.length ∧ ∃ A ρ gs0 B p kvs qs, LSt (F.more G) i A σ H ρ gs0 B p kvs qs ∧ lotsL g mk me (ds.drop j) ρ gs0 = some (gs, ρ2), ⟨ds.length, by simp, Nat.zero_le _, A, _, [], _, _, _, _, L0, by rw [List.drop_zero]; exact e2⟩, ?_⟩
        rintro j m σ H ⟨rfl, hj, A, ρ, gs0, B, p, kvs, qs, L, hm⟩
        by_cases hlt : j < ds.length
        · refine .inr ⟨it.goes j _ H L.ev.rootsG hlt, fun σ' H' => ∃ A ρ gs0 B p kvs qs, LSt (F.more G) i A σ' H' ρ gs0 B p kvs qs ∧ lotsL g mk me (ds.drop (j + 1)) ρ gs0 = some (gs, ρ2), fun σ' H' q => ⟨ds.length - (j + 1), by omega, rfl, hlt, q⟩, fun x H2 y => ?_⟩
          obtain ⟨ext, d, ed, rd⟩ := it.yields j _ H x H2 L.ev.rootsG L.ev.less.occA hlt y
          rw [drop_cons' ed] at hm
          unfold lotsL at hm
          split at hm
          · rename_i ρ3 e3
            split at hm
            · rename_i z ρ4 e5
              split at hm
              · rename_i xx ρ5 e6
                split at hm
                · rename_i hz
                  refine ⟨G, B, A, ρ, d, ρ3, L.ev.ext ext, rd, e3, fun σ3 H3 E3 g3 w3 l3 => ?_⟩
                  have at3 : σ3[i]? = some (some (.ref p)) := (wipe_keep hni w3).trans L.at_
                  have no3 : ρ3[i]? = some none := (l3.keep i hni).trans L.no
                  have dic3 : H3 p = some (.dK kvs) := g3.keep _ _ (ext _ _ L.dic) (fun z => z.elim) fun ps z => nomatch z
                  have lots3 : Lots H3 kvs qs gs0 := L.lots.same fun q _ xs e => g3.keep _ _ (ext _ _ e) (fun z => z.elim) fun ps z => nomatch z
                  refine ⟨.ref p, at3, p, rfl, .inl ⟨kvs, .inl dic3⟩, G, B, A, ρ3, .int z, ρ4, E3, e5, fun v H4 P4 r4 => ?_⟩
                  have hv : v = .int z := (r4.rr P4.env).int
                  subst hv
                  have dic4 : H4 p = some (.dK kvs) := P4.gro.keep _ _ dic3 (E3.notOw0 L.p_in) fun ps z => nomatch z
                  have lots4 : Lots H4 kvs qs gs0 := lots3.same fun q hq xs e => P4.gro.keep _ _ e (E3.notOw0 (L.q_in q hq)) fun ps z => nomatch z
                  have no4 : ρ4[i]? = some none := (P4.lv.keep i hnk).trans no3
                  refine ⟨by simp, fun q hq => ?_⟩
                  have hqp : p ≠ q := fun e => by rw [← e, dic4] at hq; cases hq
                  have hqs : q ∉ qs := fun z => lots4.live q z hq
                  have E5 : Ev (F.more G) (q :: B) A σ3 (upd H4 q (.lst [])) ρ4 := P4.env.hide hq (Ext.new hq) (by rw [upd_same]; simp)
                  have dic5 : upd H4 q (.lst []) p = some (.dK kvs) := by rw [upd_ne hqp]; exact dic4
                  have lots5 : Lots (upd H4 q (.lst [])) kvs qs gs0 := lots4.same fun b hb xs e => (upd_ne (show b ≠ q from fun z => hqs (z ▸ hb))).trans e
                  refine ⟨kvs, .inl z, dic5, rfl, by rw [lots4.len]; exact hz.1, fun v hv => ?_, fun hv => ?_⟩
                  · obtain ⟨b, zs, hb, rfl, hzs, eb, kk⟩ := lots5.hit hv
                    have hbB : b ∈ q :: B := List.mem_cons_of_mem _ (L.q_in b hb)
                    refine ⟨.inl ⟨rfl, _, SqL.of eb⟩, G, q :: B, A, ρ4, .str xx, ρ5, E5, e6, fun u H6 P6 r6 => ?_⟩
                    have hu : u = .str xx := (r6.rr P6.env).str
                    subst hu
                    have eb6 : H6 b = some (.lst (zs.map V.str)) := P6.gro.keep _ _ eb (E5.notOw0 hbB) fun ps z => nomatch z
                    have dic6 : H6 p = some (.dK kvs) := P6.gro.keep _ _ dic5 (E5.notOw0 (List.mem_cons_of_mem _ L.p_in)) fun ps z => nomatch z
                    have hpb : p ≠ b := fun e => L.p_out (e ▸ hb)
                    have no6 : ρ5[i]? = some none := (P6.lv.keep i hnx).trans no4
                    refine ⟨b, _, _, rfl, rfl, eb6, by rw [List.length_map, hzs]; exact hz.2, ?_⟩
                    refine ⟨A, ρ5, grp gs0 z xx, q :: B, p, kvs, qs, { ev := P6.env.writeB hbB (gro_frz eb6 fun ps z => nomatch z), at_ := at3, lt := (List.getElem?_eq_some_iff.mp no6).1, no := no6, p_in := List.mem_cons_of_mem _ L.p_in, q_in := (fun a ha => List.mem_cons_of_mem _ (L.q_in a ha)), p_out := L.p_out, dic := by rw [upd_ne hpb]; exact dic6, lots := kk _ xx (by rw [upd_same, List.map_append]; rfl) fun c hc hn xs e => ?_ }, hm⟩
                    rw [upd_ne hn]
                    exact P6.gro.keep _ _ e (E5.notOw0 (List.mem_cons_of_mem _ (L.q_in c hc))) fun ps z => nomatch z
                  · have hp5 : p ∈ q :: B := List.mem_cons_of_mem _ L.p_in
                    have E6 := E5.writeB (H' := upd (upd H4 q (.lst [])) p (.dK (putK kvs (.inl z) (.ref q)))) hp5 (gro_frz dic5 fun ps z => nomatch z)
                    have eq6 : upd (upd H4 q (.lst [])) p (.dK (putK kvs (.inl z) (.ref q))) q = some (.lst []) := by rw [upd_ne (Ne.symm hqp), upd_same]
                    have dic6 : upd (upd H4 q (.lst [])) p (.dK (putK kvs (.inl z) (.ref q))) p = some (.dK (putK kvs (.inl z) (.ref q))) := upd_same
                    refine ⟨.inl ⟨rfl, _, SqL.of eq6⟩, G, q :: B, A, ρ4, .str xx, ρ5, E6, e6, fun u H7 P7 r7 => ?_⟩
                    have hu : u = .str xx := (r7.rr P7.env).str
                    subst hu
                    have eq7 : H7 q = some (.lst []) := P7.gro.keep _ _ eq6 (E6.notOw0 List.mem_cons_self) fun ps z => nomatch z
                    have dic7 : H7 p = some (.dK (putK kvs (.inl z) (.ref q))) := P7.gro.keep _ _ dic6 (E6.notOw0 hp5) fun ps z => nomatch z
                    have no7 : ρ5[i]? = some none := (P7.lv.keep i hnx).trans no4
                    have epk : putK kvs (.inl z) (.ref q) = kvs ++ [(.inl z, .ref q)] := by
                      unfold putK
                      rw [valV_noany hv]
                      rfl
                    refine ⟨q, [], _, rfl, rfl, eq7, by rw [sizeLine_eq]; decide, ?_⟩
                    refine ⟨A, ρ5, grp gs0 z xx, q :: B, p, _, qs ++ [q], { ev := P7.env.writeB List.mem_cons_self (gro_frz eq7 fun ps z => nomatch z), at_ := at3, lt := (List.getElem?_eq_some_iff.mp no7).1, no := no7, p_in := hp5, q_in := (fun a ha => ?_), p_out := (fun z => ?_), dic := by rw [upd_ne hqp, dic7, epk], lots := Lots.miss (H := upd H4 q (.lst [])) upd_same lots5 hv hqs fun c hc xs e => ?_ }, hm⟩
                    · rcases List.mem_append.mp ha with z | z
                      · exact List.mem_cons_of_mem _ (L.q_in a z)
                      · rw [List.mem_singleton.mp z]; exact List.mem_cons_self
                    · rcases List.mem_append.mp z with z | z
                      · exact L.p_out z
                      · exact hqp (List.mem_singleton.mp z)
                    · rw [upd_ne (show c ≠ q from fun z => hqs (z ▸ hc))]
                      exact P7.gro.keep _ _ ((upd_ne (show c ≠ p from fun z => L.p_out (z ▸ hc))).trans e) (E6.notOw0 (List.mem_cons_of_mem _ (L.q_in c hc))) fun ps z => nomatch z
                · cases hm
              · cases hm
            · cases hm
          · cases hm
        · have hj2 : j = ds.length := by omega
          subst hj2
          rw [List.drop_length] at hm
          unfold lotsL at hm
          cases hm
          refine .inl ⟨it.stops _ H L.ev.rootsG, .inr ⟨p, _, L.dic, trivial, fun od => ?_⟩⟩
          have E1 := L.ev.less.writeB (H' := upd H p (.frz od (.dK kvs))) L.p_in (gro_frz L.dic fun ps z => nomatch z)
          have out : ∀ b ∈ B, ¬ Av F [] A ρ2 b := fun b hb z => by
            rcases z with z | z | z
            · exact (E1.occB b hb).2.2 z
            · exact nomatch z
            · exact E1.notOw0 hb z
          have lots1 : Lots (upd H p (.frz od (.dK kvs))) kvs qs gs := L.lots.same fun q hq xs e => (upd_ne (show q ≠ p from fun z => L.p_out (z ▸ hq))).trans e
          have r : RelD F.K (Av F [] A ρ2) (upd H p (.frz od (.dK kvs))) (.ref p) (lotsD gs) := .dic (out p L.p_in) ⟨od, upd_same⟩ (lots1.rel fun q hq => out q (L.q_in q hq))
          have E2 := E1.unhideAll.setPlain hio' L.lt r
          have es : σ.set i (some (.ref p)) = σ := by
            apply List.ext_getElem?
            intro j
            rw [List.getElem?_set]
            split
            · rename_i h
              subst h
              rw [L.at_, if_pos (List.getElem?_eq_some_iff.mp L.at_).1]
            · rfl
          rw [es] at E2
          exact k A σ _ E2
      · cases hm
    · cases hm
  · cases hm
end
def gListOfT : List D → Option D
  | [d] => (match tdE d with
    | some es => (keysT es).map fun ks => .list (ks.map tupI)
    | none => none)
  | _ => none
section
variable {X : Cx}
theorem call_listT (hcalm : X.calm = true) : CallR X (.type "list") (fun vs H Q => ∃ S a xs es, vs = [V.ref a] ∧ HT H a xs ∧ RelTs X.K S H xs es ∧ ∀ p : Addr, H p = none → Q (.ref p) (upd H p (.lst (xs.map fun x => V.ref x.2.1)))) := by
  intro pins s σ H vs us Q I r ⟨S, a, xs, es0, ex, hT, rt, q⟩
  subst ex
  obtain ⟨u, eu, rx⟩ := vals1 r
  subst eu
  cases rx
  obtain ⟨lo, hl, o, es, ep, ho, hex, hdt, hes, hkeys, hnd⟩ := td_at I hT rt
  have l1 : es.size = xs.length := size_of_entries hes
  refine PySem.W.kdl_call (kdl_raw lo hex hdt) (I.ok.hd hcalm) ho (by omega) fun h' tk acc c' hk hD hacc => ?_
  have ea : acc.toList = xs.map fun x => Value.ref x.2.1 := by
    have hla : acc.toList.length = xs.length := by rw [Array.length_toList, hacc.1, l1]
    apply List.ext_getElem?
    intro j
    rw [List.getElem?_map]
    cases hj : xs[j]? with
    | none =>
      have := List.getElem?_eq_none_iff.mp hj
      rw [List.getElem?_eq_none (by omega)]; rfl
    | some x =>
      have hlt : j < acc.toList.length := by
        have := (List.getElem?_eq_some_iff.mp hj).1
        omega
      obtain ⟨en, hen, hv⟩ := hacc.2 j acc.toList[j] (by rw [← Array.getElem?_toList]; exact List.getElem?_eq_getElem hlt)
      have qe := entry_at hes j
      rw [hen, hj] at qe
      have e2 : en = entryOfKey (PySem.tupleKind (PySem.intKind X.prog X.w)) x := Option.some.inj qe
      rw [List.getElem?_eq_getElem hlt, hv, e2]
      rfl
  have hvr : ∀ L : List (List Int × Addr × Value), Vals (L.map fun x => V.ref x.2.1) (L.map fun x => Value.ref x.2.1) := fun L => by
    induction L with
    | nil => exact .nil
    | cons x r ih => exact .cons rfl ih
  exact ⟨.ref s.heap.objs.size, upd H s.heap.objs.size (.lst (xs.map fun x => V.ref x.2.1)), I.laid (t' := tk) hk (Nat.le_refl _)
    (show ObjOk X.prog X.w _ _ _ (.lst (xs.map fun x => V.ref x.2.1)) from ⟨by rw [List.length_map]; exact hl, acc.toList, c', by rw [ea]; exact hvr xs, by rw [Array.toArray_toList]; exact hD⟩), rfl, q _ (I.hok.fresh (Nat.le_refl _))⟩
theorem c_listT (hc : X.calm = true) {K : PySem.W.Frag} (hK : X.K = K := by rfl) : CallR X (.type "list") (fun xs H Q => ∃ S ds d, Paired (RR K S H) xs ds ∧ gListOfT ds = some d ∧ ∀ p H', H p = none → Ext H H' → (∀ S' : Addr → Prop, (∀ a, S' a → S a ∨ a = p) → RelO K S' H' p d) → Q (.ref p) H') := by
  subst hK
  intro pins s σ H vs us Q I r ⟨S, ds, d, hr, e, k⟩
  unfold gListOfT at e
  split at e
  · rename_i d0
    split at e
    · rename_i es he
      rw [Option.map_eq_some_iff] at e
      obtain ⟨ks, hk, rfl⟩ := e
      obtain ⟨v, rfl, r1⟩ := prs1 hr
      obtain ⟨a, xs, rfl, hT, rt⟩ := r1.td he
      rw [rt.keysT] at hk
      cases hk
      refine call_listT hc pins s σ H _ us Q I r ⟨S, a, xs, es, rfl, hT, rt, fun p hp => ?_⟩
      rw [List.map_map] at k
      have rk := rels_keys (K := X.K) (S := S) (H := H) (L := xs) fun x hx => rt.keys x hx
      exact k p _ hp (Ext.new hp) fun S' hs => ⟨_, upd_same, (rk.away hp hs).ext (Ext.new hp)⟩
    · cases e
  · cases e
end
def mSlN (m : M D) (ml mh : M (Option Int)) : M D := fun ρ => match mSl m ml mh ρ with
  | some (.list ds, ρ1) => some (.list ds, ρ1)
  | _ => none
section
variable {X : Cx} {F : Frm}
theorem x_sliceN {e : Expr} {lo hi : Option Expr} {p2 pos : Pos} {m : M D} {ml mh : M (Option Int)} {dep eff effl effh : List Nat} (he : PE X e (rd F m dep eff)) (hl : PO X lo (rdO F ml effl)) (hh : PO X hi (rdO F mh effh)) (hd1 : ∀ i ∈ dep, i ∉ effl := by decide) (hd2 : ∀ i ∈ dep, i ∉ effh := by decide) (hK : X.K = F.K := by rfl) :
    PE X (.Subscript e (.Slice lo hi none p2) pos) (rdN F (mSlN m ml mh) (eff ++ (effl ++ effh))) := by
  refine PE.mono (pe_slice sl_list he hl hh) fun σ H Q ⟨B, A, ρ, d, ρ', E, hm, k⟩ => ?_
  unfold mSlN at hm
  split at hm
  · rename_i ds ρ0 hm0
    cases hm
    unfold mSl at hm0
    split at hm0
    · rename_i d1 ρ1 e1
      split at hm0
      · rename_i lo ρ2 e2
        split at hm0
        · rename_i hi ρ3 e3
          split at hm0
          · rename_i r e4
            cases hm0
            refine ⟨B, A, ρ, d1, ρ1, E, e1, fun v H1 P1 r1 => ⟨B, A, ρ1, lo, ρ2, P1.env, e2, fun H2 P2 => ⟨B, A, ρ2, hi, _, P2.env, e3, fun H3 P3 => ?_⟩⟩⟩
            have r3 := ((r1.later P2.gro P2.lv hd1).later P3.gro P3.lv hd2).rr P3.env
            have P := P1.trans (P2.trans P3)
            cases d1 with
            | list ds0 =>
              cases e4
              obtain ⟨a, xs, rfl, h1, q1⟩ := r3.list
              exact ⟨a, xs, rfl, hK ▸ h1, fun p hp => rdN_lay P k hp (Ext.new hp) ⟨_, upd_same, (q1.cut.away hp av_cons).ext (Ext.new hp)⟩⟩
            | str z =>
              simp only [gSl] at e4
              split at e4 <;> cases e4
            | _ => cases e4
          · cases hm0
        · cases hm0
      · cases hm0
    · cases hm0
  · cases hm
end
end PD
set_option Elab.async false
set_option linter.all false
set_option maxRecDepth 100000
set_option maxHeartbeats 2000000
namespace PD
open PySem PySem.Spec PyProof.Rows L2 GxR GenX OwnK
class Tg {β : Sort u} (b : β) : Type where
instance (priority := high) instTg {β : Sort u} {b : β} : Tg b := ⟨⟩
def Wp {α : Type} (o : Option α) (Q : α → Prop) [Tg Q] : Prop := ∃ a, o = some a ∧ Q a
def bcs (b : Bool) (p q : Prop) [Tg p] [Tg q] : Prop := (b = true → p) ∧ (b = false → q)
def seqQ (K : Rho → Prop) (Q : Out → Prop) [Tg K] [Tg Q] : Out → Prop
  | .nx ρ => K ρ
  | o => Q o
def forQ (I : Rho → Prop) (Q : Out → Prop) [Tg I] [Tg Q] : Out → Prop
  | .nx ρ => I ρ
  | .ct ρ => I ρ
  | .bk ρ => Q (.nx ρ)
  | .rt v ρ => Q (.rt v ρ)
def runQ (n : Nat) (Q : D × List D → Prop) [Tg Q] : Out → Prop
  | .rt d ρ => Q (d, backR ρ n)
  | .nx ρ => Q (.none, backR ρ n)
  | _ => False
def runQN (n : Nat) (Q : D × List D → Prop) [Tg Q] : Out → Prop
  | .rt d ρ => Q (d, backR ρ n)
  | _ => False
section
variable {α β : Type} {Q : α → Prop} {ρ : Rho}
theorem Wp.mono {o : Option α} {Q Q' : α → Prop} (h : Wp o Q) (k : ∀ a, Q a → Q' a) : Wp o Q' := let ⟨a, e, q⟩ := h; ⟨a, e, k a q⟩
theorem W_some {a : α} : Wp (some a) Q ↔ Q a := ⟨fun ⟨b, e, q⟩ => by cases e; exact q, fun q => ⟨a, rfl, q⟩⟩
theorem W_none : Wp (none : Option α) Q ↔ False := ⟨fun ⟨b, e, q⟩ => (nomatch e), fun z => z.elim⟩
theorem W_ite {c : Prop} [Decidable c] {a b : Option α} : Wp (if c then a else b) Q ↔ (c → Wp a Q) ∧ (¬ c → Wp b Q) := by
  by_cases h : c <;> simp [h]
theorem W_map {o : Option β} {f : β → α} : Wp (o.map f) Q ↔ Wp o fun b => Q (f b) := by
  cases o with
  | none => exact ⟨fun h => (W_none.mp h).elim, fun h => (W_none.mp h).elim⟩
  | some b => exact ⟨fun h => W_some.mpr ((W_some (a := f b)).mp h), fun h => W_some.mpr ((W_some (a := b) (Q := fun b => Q (f b))).mp h)⟩
theorem W_bind {o : Option β} {f : β → Option α} : Wp (o.bind f) Q ↔ Wp o fun b => Wp (f b) Q := by
  cases o with
  | none => exact ⟨fun h => (W_none.mp h).elim, fun h => (W_none.mp h).elim⟩
  | some b => exact ⟨fun h => W_some.mpr h, fun h => (W_some (a := b) (Q := fun b => Wp (f b) Q)).mp h⟩
theorem bcs_true {p q : Prop} : bcs true p q ↔ p := by simp [bcs]
theorem bcs_false {p q : Prop} : bcs false p q ↔ q := by simp [bcs]
theorem bcs_dec {c : Prop} [Decidable c] {p q : Prop} : bcs (decide c) p q ↔ (c → p) ∧ (¬ c → q) := by simp [bcs]
theorem bcs_not {b : Bool} {p q : Prop} : bcs (!b) p q ↔ bcs b q p := by cases b <;> simp [bcs]
theorem seqQ_nx {K : Rho → Prop} {Q : Out → Prop} : seqQ K Q (.nx ρ) ↔ K ρ := Iff.rfl
theorem seqQ_rt {K : Rho → Prop} {Q : Out → Prop} {d : D} : seqQ K Q (.rt d ρ) ↔ Q (.rt d ρ) := Iff.rfl
theorem seqQ_bk {K : Rho → Prop} {Q : Out → Prop} : seqQ K Q (.bk ρ) ↔ Q (.bk ρ) := Iff.rfl
theorem seqQ_ct {K : Rho → Prop} {Q : Out → Prop} : seqQ K Q (.ct ρ) ↔ Q (.ct ρ) := Iff.rfl
theorem forQ_nx {K : Rho → Prop} {Q : Out → Prop} : forQ K Q (.nx ρ) ↔ K ρ := Iff.rfl
theorem forQ_rt {K : Rho → Prop} {Q : Out → Prop} {d : D} : forQ K Q (.rt d ρ) ↔ Q (.rt d ρ) := Iff.rfl
theorem forQ_bk {K : Rho → Prop} {Q : Out → Prop} : forQ K Q (.bk ρ) ↔ Q (.nx ρ) := Iff.rfl
theorem forQ_ct {K : Rho → Prop} {Q : Out → Prop} : forQ K Q (.ct ρ) ↔ K ρ := Iff.rfl
end
section
variable {Q : D × Rho → Prop} {QB : Bool × Rho → Prop} {QL : List D × Rho → Prop} {QS : Out → Prop} {QO : Option Int × Rho → Prop} {ρ : Rho}
theorem W_runD {n : Nat} {io : List Nat} {mb : MS} {ds : List D} {Q : D × List D → Prop} : Wp (runD n io mb ds) Q ↔ Wp (mb (startR io n ds)) (runQ ds.length Q) := by
  unfold runD
  cases mb (startR io n ds) with
  | none => exact ⟨fun h => (W_none.mp h).elim, fun h => (W_none.mp h).elim⟩
  | some o => cases o <;> (simp only [W_some, W_none] <;> simp [runQ])
theorem W_runN {n : Nat} {io : List Nat} {mb : MS} {ds : List D} {Q : D × List D → Prop} : Wp (runN n io mb ds) Q ↔ Wp (mb (startR io n ds)) (runQN ds.length Q) := by
  unfold runN
  cases mb (startR io n ds) with
  | none => exact ⟨fun h => (W_none.mp h).elim, fun h => (W_none.mp h).elim⟩
  | some o => cases o <;> (simp only [W_some, W_none] <;> simp [runQN])
theorem isBg_l (ds : List D) : isBg (.list ds) = false := rfl
theorem isBg_d (ds : List (D × D)) : isBg (.dict ds) = false := rfl
theorem isBg_t (ds : List D) : isBg (.tuple ds) = true := rfl
theorem mFrz_eq {i : Nat} : mFrz i ρ = match ρ[i]? with | some (some (true, d)) => (if isBg d = true then none else some (d, ρ.set i (some (false, d)))) | some (some (false, d)) => some (d, ρ.set i (some (false, d))) | _ => none := by
  have self : ∀ d, ρ[i]? = some (some (false, d)) → ρ.set i (some (false, d)) = ρ := fun d e => by
    apply List.ext_getElem?
    intro j
    rw [List.getElem?_set]
    split
    · rename_i h; subst h
      obtain ⟨h1, h2⟩ := List.getElem?_eq_some_iff.mp e
      simp [h1, h2, e]
    · rfl
  unfold mFrz
  cases h : ρ[i]? with
  | none => rfl
  | some z =>
    cases z with
    | none => rfl
    | some w =>
      obtain ⟨b, d⟩ := w
      cases b with
      | true => rfl
      | false => simp only [self d h]
theorem W_bin {g : D → D → Option D} {m1 m2 : M D} : Wp (mBin g m1 m2 ρ) Q ↔ Wp (m1 ρ) fun r1 => Wp (m2 r1.2) fun r2 => Wp (g r1.1 r2.1) fun d => Q (d, r2.2) := by
  unfold mBin
  cases m1 ρ with
  | none => simp [W_none]
  | some r1 =>
    simp only [W_some]
    cases m2 r1.2 with
    | none => simp [W_none]
    | some r2 =>
      simp only [W_some]
      cases g r1.1 r2.1 <;> simp [W_some, W_none]
theorem W_nil : Wp (mNil ρ) QL ↔ QL ([], ρ) := W_some
theorem W_cons {m : M D} {ms : M (List D)} : Wp (mCons m ms ρ) QL ↔ Wp (m ρ) fun r1 => Wp (ms r1.2) fun r2 => QL (r1.1 :: r2.1, r2.2) := by
  unfold mCons
  cases m ρ with
  | none => simp [W_none]
  | some r1 =>
    simp only [W_some]
    cases ms r1.2 <;> simp [W_some, W_none]
theorem W_app {g : List D → Option D} {m : M (List D)} : Wp (mApp g m ρ) Q ↔ Wp (m ρ) fun r => Wp (g r.1) fun d => Q (d, r.2) := by
  unfold mApp
  cases m ρ with
  | none => simp [W_none]
  | some r1 =>
    simp only [W_some]
    cases g r1.1 <;> simp [W_some, W_none]
theorem W_un {g : D → Option D} {m : M D} : Wp (mUn g m ρ) Q ↔ Wp (m ρ) fun r => Wp (g r.1) fun d => Q (d, r.2) := by
  unfold mUn
  cases m ρ with
  | none => simp [W_none]
  | some r1 =>
    simp only [W_some]
    cases g r1.1 <;> simp [W_some, W_none]
def boolQ (K : Bool → Prop) [Tg K] : D → Prop
  | .bool b => K b
  | _ => False
theorem boolQ_bool {K : Bool → Prop} {b : Bool} : boolQ K (.bool b) ↔ K b := Iff.rfl
def intQ (K : Int → Prop) [Tg K] : D → Prop
  | .int b => K b
  | _ => False
theorem intQ_int {K : Int → Prop} {b : Int} : intQ K (.int b) ↔ K b := Iff.rfl
theorem W_mB {m : M D} : Wp (mB m ρ) QB ↔ Wp (m ρ) fun r => boolQ (fun b => QB (b, r.2)) r.1 := by
  unfold mB
  cases m ρ with
  | none => simp [W_none]
  | some r1 =>
    obtain ⟨d, ρ1⟩ := r1
    cases d <;> (simp only [W_some, W_none] <;> simp [boolQ])
theorem W_andT {m1 m2 : M Bool} : Wp (mAndT m1 m2 ρ) QB ↔ Wp (m1 ρ) fun r => bcs r.1 (Wp (m2 r.2) QB) (QB (false, r.2)) := by
  unfold mAndT
  cases m1 ρ with
  | none => simp [W_none]
  | some r1 =>
    obtain ⟨b, ρ1⟩ := r1
    cases b <;> (simp only [W_some] <;> simp [bcs])
theorem W_orT {m1 m2 : M Bool} : Wp (mOrT m1 m2 ρ) QB ↔ Wp (m1 ρ) fun r => bcs r.1 (QB (true, r.2)) (Wp (m2 r.2) QB) := by
  unfold mOrT
  cases m1 ρ with
  | none => simp [W_none]
  | some r1 =>
    obtain ⟨b, ρ1⟩ := r1
    cases b <;> (simp only [W_some] <;> simp [bcs])
theorem W_notT {m1 : M Bool} : Wp (mNotT m1 ρ) QB ↔ Wp (m1 ρ) fun r => QB (!r.1, r.2) := by
  unfold mNotT
  cases m1 ρ with
  | none => simp [W_none]
  | some r1 => simp [W_some]
theorem W_andV {m1 m2 : M D} : Wp (mAndV m1 m2 ρ) Q ↔ Wp (m1 ρ) fun r => boolQ (fun b => bcs b (Wp (m2 r.2) Q) (Q (.bool false, r.2))) r.1 := by
  unfold mAndV
  cases m1 ρ with
  | none => simp [W_none]
  | some r1 =>
    obtain ⟨d, ρ1⟩ := r1
    cases d with
    | bool b => cases b <;> (simp only [W_some, W_none] <;> simp [boolQ, bcs])
    | _ => (simp only [W_some, W_none] <;> simp [boolQ])
theorem W_orV {m1 m2 : M D} : Wp (mOrV m1 m2 ρ) Q ↔ Wp (m1 ρ) fun r => boolQ (fun b => bcs b (Q (.bool true, r.2)) (Wp (m2 r.2) Q)) r.1 := by
  unfold mOrV
  cases m1 ρ with
  | none => simp [W_none]
  | some r1 =>
    obtain ⟨d, ρ1⟩ := r1
    cases d with
    | bool b => cases b <;> (simp only [W_some, W_none] <;> simp [boolQ, bcs])
    | _ => (simp only [W_some, W_none] <;> simp [boolQ])
theorem W_notV {m1 : M D} : Wp (mNotV m1 ρ) Q ↔ Wp (m1 ρ) fun r => boolQ (fun b => Q (.bool (!b), r.2)) r.1 := by
  unfold mNotV
  cases m1 ρ with
  | none => simp [W_none]
  | some r1 =>
    obtain ⟨d, ρ1⟩ := r1
    cases d <;> (simp only [W_some, W_none] <;> simp [boolQ])
theorem W_if {c : M Bool} {m1 m2 : M D} : Wp (mIf c m1 m2 ρ) Q ↔ Wp (c ρ) fun r => bcs r.1 (Wp (m1 r.2) Q) (Wp (m2 r.2) Q) := by
  unfold mIf
  cases c ρ with
  | none => simp [W_none]
  | some r1 =>
    obtain ⟨b, ρ1⟩ := r1
    cases b <;> (simp only [W_some] <;> simp [bcs])
theorem W_mP {m : M D} : Wp (mP m ρ) QO ↔ Wp (m ρ) fun r => intQ (fun i => QO (some i, r.2)) r.1 := by
  unfold mP
  cases m ρ with
  | none => simp [W_none]
  | some r1 =>
    obtain ⟨d, ρ1⟩ := r1
    cases d <;> (simp only [W_some, W_none] <;> simp [intQ])
theorem W_noP : Wp (mNoP ρ) QO ↔ QO (none, ρ) := W_some
theorem W_sl {m : M D} {ml mh : M (Option Int)} : Wp (mSl m ml mh ρ) Q ↔ Wp (m ρ) fun r => Wp (ml r.2) fun l => Wp (mh l.2) fun h => Wp (gSl l.1 h.1 r.1) fun d => Q (d, h.2) := by
  unfold mSl
  cases m ρ with
  | none => simp [W_none]
  | some r1 =>
    simp only [W_some]
    cases ml r1.2 with
    | none => simp [W_none]
    | some r2 =>
      simp only [W_some]
      cases mh r2.2 with
      | none => simp [W_none]
      | some r3 =>
        simp only [W_some]
        cases gSl r2.1 r3.1 r1.1 <;> simp [W_some, W_none]
theorem W_items {m : M D} : Wp (mItems m ρ) QL ↔ Wp (m ρ) fun r => Wp (gItems r.1) fun d => QL (d, r.2) := by
  unfold mItems
  cases m ρ with
  | none => simp [W_none]
  | some r1 =>
    simp only [W_some]
    cases gItems r1.1 <;> simp [W_some, W_none]
theorem W_range {g : List D → Option (List D)} {m : M (List D)} : Wp (mRange g m ρ) QL ↔ Wp (m ρ) fun r => Wp (g r.1) fun d => QL (d, r.2) := by
  unfold mRange
  cases m ρ with
  | none => simp [W_none]
  | some r1 =>
    simp only [W_some]
    cases g r1.1 <;> simp [W_some, W_none]
theorem W_chain {g g' : D → D → Option D} {ma mb mc : M D} : Wp (mChain g g' ma mb mc ρ) Q ↔ Wp (ma ρ) fun a => Wp (mb a.2) fun b => Wp (g a.1 b.1) fun t => boolQ (fun z => bcs z (Wp (mc b.2) fun c => Wp (g' b.1 c.1) fun d => Q (d, c.2)) (Q (.bool false, b.2))) t := by
  unfold mChain
  cases ma ρ with
  | none => simp [W_none]
  | some a =>
    simp only [W_some]
    cases mb a.2 with
    | none => simp [W_none]
    | some b =>
      simp only [W_some]
      cases g a.1 b.1 with
      | none => simp [W_none]
      | some t =>
        simp only [W_some]
        cases t with
        | bool z =>
          cases z with
          | false => (simp only [W_some] <;> simp [boolQ, bcs])
          | true =>
            simp only [boolQ, bcs_true]
            cases mc b.2 with
            | none => simp [W_none]
            | some c =>
              simp only [W_some]
              cases g' b.1 c.1 <;> simp [W_some, W_none]
        | _ => (simp only [W_none] <;> simp [boolQ])
theorem W_seq {m1 m2 : MS} : Wp (mSeq m1 m2 ρ) QS ↔ Wp (m1 ρ) (seqQ (fun ρ1 => Wp (m2 ρ1) QS) QS) := by
  unfold mSeq
  cases m1 ρ with
  | none => simp [W_none]
  | some o => cases o <;> (simp only [W_some] <;> simp [seqQ])
theorem W_next : Wp (mNext ρ) QS ↔ QS (.nx ρ) := W_some
theorem W_break : Wp (mBreak ρ) QS ↔ QS (.bk ρ) := W_some
theorem W_cont : Wp (mCont ρ) QS ↔ QS (.ct ρ) := W_some
theorem W_ret {m : M D} : Wp (mRet m ρ) QS ↔ Wp (m ρ) fun r => QS (.rt r.1 r.2) := W_map
theorem W_drop {m : M D} : Wp (mDrop m ρ) QS ↔ Wp (m ρ) fun r => QS (.nx r.2) := W_map
theorem W_ifS {c : M Bool} {m1 m2 : MS} : Wp (mIfS c m1 m2 ρ) QS ↔ Wp (c ρ) fun r => bcs r.1 (Wp (m1 r.2) QS) (Wp (m2 r.2) QS) := by
  unfold mIfS
  cases c ρ with
  | none => simp [W_none]
  | some r1 =>
    obtain ⟨b, ρ1⟩ := r1
    cases b <;> (simp only [W_some] <;> simp [bcs])
theorem W_asg {m : M D} {g : D → Rho → Option Rho} : Wp (mAsg m g ρ) QS ↔ Wp (m ρ) fun r => Wp (g r.1 r.2) fun ρ1 => QS (.nx ρ1) := by
  unfold mAsg
  cases m ρ with
  | none => simp [W_none]
  | some r1 => simp only [W_some]; exact W_map
theorem W_par {i j : Nat} {m : M (List D)} : Wp (mPar i j m ρ) QS ↔ Wp (m ρ) fun r => ∃ a b, r.1 = [a, b] ∧ i < r.2.length ∧ j < r.2.length ∧ QS (.nx ((r.2.set i (some (false, a))).set j (some (false, b)))) := by
  unfold mPar
  cases m ρ with
  | none => simp [W_none]
  | some r1 =>
    obtain ⟨ds, ρ1⟩ := r1
    simp only [W_some]
    match ds with
    | [] => simp [W_none]
    | [a] => simp [W_none]
    | [a, b] =>
      simp only [W_ite, W_some, W_none]
      constructor
      · intro ⟨h1, h2⟩
        by_cases h : i < ρ1.length ∧ j < ρ1.length
        · exact ⟨a, b, rfl, h.1, h.2, h1 h⟩
        · exact (h2 h).elim
      · intro ⟨a', b', e, h1, h2, h3⟩
        cases e
        exact ⟨fun _ => h3, fun h => (h ⟨h1, h2⟩).elim⟩
    | a :: b :: c :: r => simp [W_none]
def ownQ (K : D → Prop) [Tg K] : Option (Option (Bool × D)) → Prop
  | some (some (true, o)) => K o
  | _ => False
def borQ (K : D → Prop) [Tg K] : Option (Option (Bool × D)) → Prop
  | some (some (false, o)) => K o
  | _ => False
theorem ownQ_true {K : D → Prop} {o : D} : ownQ K (some (some (true, o))) ↔ K o := Iff.rfl
theorem borQ_false {K : D → Prop} {o : D} : borQ K (some (some (false, o))) ↔ K o := Iff.rfl
theorem W_put {i : Nat} {mk mv : M D} : Wp (mPut i mk mv ρ) QS ↔ Wp (mv ρ) fun v => ownQ (fun o => Wp (mk v.2) fun k => Wp (gPut o k.1 v.1) fun o' => QS (.nx (k.2.set i (some (true, o'))))) (v.2[i]?) := by
  unfold mPut
  cases mv ρ with
  | none => simp [W_none]
  | some v =>
    simp only [W_some]
    split
    · rename_i o e
      rw [e]
      simp only [ownQ]
      cases mk v.2 with
      | none => simp [W_none]
      | some k =>
        simp only [W_some]
        cases gPut o k.1 v.1 <;> simp [W_some, W_none]
    · rename_i h
      unfold ownQ
      split
      · rename_i o e; exact absurd e (h o)
      · simp [W_none]
theorem W_aug {i : Nat} {g : D → D → Option D} {m : M D} : Wp (mAug i g m ρ) QS ↔ borQ (fun x => Wp (m ρ) fun r => Wp (g x r.1) fun d => i < r.2.length ∧ QS (.nx (r.2.set i (some (false, d))))) (ρ[i]?) := by
  unfold mAug
  split
  · rename_i x e
    rw [e]
    simp only [borQ]
    cases m ρ with
    | none => simp [W_none]
    | some r =>
      simp only [W_some]
      cases g x r.1 with
      | none => simp [W_none]
      | some d => simp only [W_some, W_ite, W_none]; by_cases h : i < r.2.length <;> simp [h]
  · rename_i h
    unfold borQ
    split
    · rename_i o e; exact absurd e (h o)
    · simp [W_none]
theorem W_augL {i : Nat} {g : D → D → Option D} {mk me : M D} : Wp (mAugL i g mk me ρ) QS ↔ ownQ (fun o => Wp (mk ρ) fun k => Wp (gIxL o k.1) fun x => Wp (me k.2) fun r => Wp (g x r.1) fun d => Wp (gPut o k.1 d) fun o' => QS (.nx (r.2.set i (some (true, o'))))) (ρ[i]?) := by
  unfold mAugL
  split
  · rename_i x e
    rw [e]
    simp only [ownQ]
    cases mk ρ with
    | none => simp [W_none]
    | some k =>
      simp only [W_some]
      cases gIxL x k.1 with
      | none => simp [W_none]
      | some d =>
        simp only [W_some]
        cases me k.2 with
        | none => simp [W_none]
        | some r =>
          simp only [W_some]
          cases g d r.1 with
          | none => simp [W_none]
          | some z =>
            simp only [W_some]
            cases gPut x k.1 z <;> simp [W_some, W_none]
  · rename_i h
    unfold ownQ
    split
    · rename_i o e; exact absurd e (h o)
    · simp [W_none]
theorem W_mut {i : Nat} {g : D → D → Option (D × D)} {m : M D} : Wp (mMut i g m ρ) Q ↔ ownQ (fun o => Wp (m ρ) fun r => Wp (g o r.1) fun z => Q (z.1, r.2.set i (some (true, z.2)))) (ρ[i]?) := by
  unfold mMut
  split
  · rename_i x e
    rw [e]
    simp only [ownQ]
    cases m ρ with
    | none => simp [W_none]
    | some k =>
      simp only [W_some]
      cases g x k.1 <;> simp [W_some, W_none]
  · rename_i h
    unfold ownQ
    split
    · rename_i o e; exact absurd e (h o)
    · simp [W_none]
theorem W_call {f : List D → Option (D × List D)} {ts : List (Option Nat)} {m : M (List D)} : Wp (mCall f ts m ρ) Q ↔ Wp (m ρ) fun r => Wp (f r.1) fun q => q.2.length = r.1.length ∧ Q (q.1, putBack ts q.2 r.2) := by
  unfold mCall
  cases m ρ with
  | none => simp [W_none]
  | some r =>
    simp only [W_some]
    cases f r.1 with
    | none => simp [W_none]
    | some q =>
      simp only [W_some]
      by_cases h : q.2.length = r.1.length
      · rw [if_pos h]; simp only [W_some]; exact ⟨fun z => ⟨h, z⟩, fun z => z.2⟩
      · rw [if_neg h]; simp only [W_none]; exact ⟨fun z => z.elim, fun z => h z.1⟩
theorem W_callK {f : List D → Option (D × List D)} {ga : List D → List D} {m : M (List D)} : Wp (mCallK f ga m ρ) Q ↔ Wp (m ρ) fun r => Wp (f (ga r.1)) fun q => Q (q.1, r.2) := by
  unfold mCallK
  cases m ρ with
  | none => simp [W_none]
  | some r =>
    simp only [W_some]
    cases f (ga r.1) <;> simp [W_some, W_none]
def strQ (K : Str → Prop) [Tg K] : D → Prop
  | .str z => K z
  | _ => False
theorem strQ_str {K : Str → Prop} {z : Str} : strQ K (.str z) ↔ K z := Iff.rfl
theorem W_tab {tbl : List (Str × (List D → Option (D × List D)))} {ts : List (Option Nat)} {mk : M D} {m : M (List D)} : Wp (mTab tbl ts mk m ρ) Q ↔ Wp (mk ρ) fun k => strQ (fun z => Wp (tbl.lookup z) fun fn => Wp (mCall fn ts m k.2) Q) k.1 := by
  unfold mTab
  cases mk ρ with
  | none => simp [W_none]
  | some k =>
    obtain ⟨d, ρ1⟩ := k
    cases d with
    | str z =>
      simp only [W_some]
      show _ ↔ Wp (tbl.lookup z) fun fn => Wp (mCall fn ts m ρ1) Q
      cases tbl.lookup z <;> simp [W_some, W_none]
    | _ => (simp only [W_some, W_none] <;> simp [strQ])
theorem W_consIo {i : Nat} {ms : M (List D)} : Wp (mConsIo i ms ρ) QL ↔ ownQ (fun _ => Wp (ms ρ) fun r => ownQ (fun d => QL (d :: r.1, r.2)) (r.2[i]?)) (ρ[i]?) := by
  unfold mConsIo
  split
  · rename_i x e
    rw [e]
    simp only [ownQ_true]
    cases ms ρ with
    | none => simp [W_none]
    | some r =>
      simp only [W_some]
      cases h : r.2[i]? with
      | none => simp only [W_none]; exact Iff.rfl
      | some z =>
        match z with
        | none => simp only [W_none]; exact Iff.rfl
        | some (true, d) => simp only [W_some]; exact Iff.rfl
        | some (false, d) => simp only [W_none]; exact Iff.rfl
  · rename_i h
    unfold ownQ
    split
    · rename_i o e; exact absurd e (h o)
    · simp [W_none]
def dictQ (K : List (D × D) → Prop) [Tg K] : D → Prop
  | .dict z => K z
  | _ => False
theorem dictQ_dict {K : List (D × D) → Prop} {z : List (D × D)} : dictQ K (.dict z) ↔ K z := Iff.rfl
theorem W_get2 {m1 m2 m3 : M D} : Wp (mGet2 m1 m2 m3 ρ) Q ↔ Wp (m1 ρ) fun a => dictQ (fun kvs => Wp (m2 a.2) fun b => Wp (m3 b.2) fun c => Wp (keyD b.1) fun k => isT kvs = false ∧ Q ((dget kvs k).getD c.1, c.2)) a.1 := by
  unfold mGet2
  cases m1 ρ with
  | none => simp [W_none]
  | some a =>
    obtain ⟨d, ρ1⟩ := a
    cases d with
    | dict z =>
      simp only [W_some]
      show _ ↔ Wp (m2 ρ1) fun b => Wp (m3 b.2) fun c => Wp (keyD b.1) fun k => isT z = false ∧ Q ((dget z k).getD c.1, c.2)
      cases m2 ρ1 with
      | none => simp [W_none]
      | some b =>
        simp only [W_some]
        cases m3 b.2 with
        | none => simp [W_none]
        | some c =>
          simp only [W_some]
          cases keyD b.1 <;> cases isT z <;> simp [W_some, W_none]
    | _ => (simp only [W_some, W_none] <;> simp [dictQ])
theorem W_for {mi : M (List D)} {g : D → Rho → Option Rho} {mb : MS} : Wp (mFor mi g mb ρ) QS ↔ Wp (mi ρ) fun r => Wp (mForL g mb r.1 r.2) QS := by
  unfold mFor
  cases mi ρ <;> simp [W_some, W_none]
theorem W_lc {mi : M (List D)} {g : D → Rho → Option Rho} {mt : M Bool} {me : M D} {vs : List Nat} : Wp (mLc mi g mt me vs ρ) Q ↔ Wp (mi ρ) fun r => Wp (lcL g mt me vs r.1 [] (wipeR r.2 vs)) fun s => Q (.list s.1, wipeR s.2 vs) := by
  unfold mLc
  cases mi ρ with
  | none => simp [W_none]
  | some r =>
    simp only [W_some]
    cases lcL g mt me vs r.1 [] (wipeR r.2 vs) <;> simp [W_some, W_none]
theorem W_dc {mi : M (List D)} {g : D → Rho → Option Rho} {mt : M Bool} {mk mv : M D} {vs : List Nat} : Wp (mDc mi g mt mk mv vs ρ) Q ↔ Wp (mi ρ) fun r => Wp (dcL g mt mk mv vs r.1 [] (wipeR r.2 vs)) fun s => Q (.dict s.1, wipeR s.2 vs) := by
  unfold mDc
  cases mi ρ with
  | none => simp [W_none]
  | some r =>
    simp only [W_some]
    cases dcL g mt mk mv vs r.1 [] (wipeR r.2 vs) <;> simp [W_some, W_none]
theorem W_an {k : Bool} {mi : M (List D)} {g : D → Rho → Option Rho} {mt : M Bool} {me : M D} {vs : List Nat} : Wp (mAn k mi g mt me vs ρ) Q ↔ Wp (mi ρ) fun r => Wp (anL k g mt me vs r.1 (wipeR r.2 vs)) fun s => Q (.bool s.1, wipeR s.2 vs) := by
  unfold mAn
  cases mi ρ with
  | none => simp [W_none]
  | some r =>
    simp only [W_some]
    cases anL k g mt me vs r.1 (wipeR r.2 vs) <;> simp [W_some, W_none]
theorem W_su {mi : M (List D)} {g : D → Rho → Option Rho} {mt : M Bool} {me : M D} {vs : List Nat} : Wp (mSu mi g mt me vs ρ) Q ↔ Wp (mi ρ) fun r => Wp (suL g mt me vs r.1 0 (wipeR r.2 vs)) fun s => Q (.int s.1, wipeR s.2 vs) := by
  unfold mSu
  cases mi ρ with
  | none => simp [W_none]
  | some r =>
    simp only [W_some]
    cases suL g mt me vs r.1 0 (wipeR r.2 vs) <;> simp [W_some, W_none]
end
section
variable {g : D → Rho → Option Rho} {mb : MS} {mt : M Bool} {me mk mv : M D} {vs : List Nat}
theorem W_forL {Q : Out → Prop} : ∀ (ds : List D) (I : Nat → Rho → Prop) (k0 : Nat) (ρ : Rho), I k0 ρ → (∀ k d ρ, ds[k]? = some d → I (k0 + k) ρ → Wp (g d ρ) fun ρ1 => Wp (mb ρ1) (forQ (I (k0 + k + 1)) Q)) → (∀ ρ, I (k0 + ds.length) ρ → Q (.nx ρ)) → Wp (mForL g mb ds ρ) Q
  | [], I, k0, ρ, h0, hs, hq => W_some.mpr (hq ρ h0)
  | d :: r, I, k0, ρ, h0, hs, hq => by
    have h := hs 0 d ρ rfl h0
    unfold mForL
    obtain ⟨ρ1, e1, o, e2, h⟩ := h
    rw [e1]
    simp only [e2]
    have ih : ∀ ρ, I (k0 + 1) ρ → Wp (mForL g mb r ρ) Q := fun ρ h => W_forL r I (k0 + 1) ρ h (fun k d ρ e i => by
      have := hs (k + 1) d ρ (by simpa using e) (by rw [show k0 + (k + 1) = k0 + 1 + k by omega]; exact i)
      rw [show k0 + (k + 1) + 1 = k0 + 1 + k + 1 by omega] at this
      exact this) (fun ρ h => hq ρ (by rw [List.length_cons, show k0 + (r.length + 1) = k0 + 1 + r.length by omega]; exact h))
    cases o with
    | nx ρ2 => exact ih ρ2 h
    | ct ρ2 => exact ih ρ2 h
    | bk ρ2 => exact W_some.mpr h
    | rt v ρ2 => exact W_some.mpr h
theorem W_forK {Q : Out → Prop} {ds : List D} {ρ : Rho} (I : Nat → Rho → Prop) (h0 : I 0 ρ) (hs : ∀ k d ρ, ds[k]? = some d → I k ρ → Wp (g d ρ) fun ρ1 => Wp (mb ρ1) (forQ (I (k + 1)) Q)) (hq : ∀ ρ, I ds.length ρ → Q (.nx ρ)) : Wp (mForL g mb ds ρ) Q :=
  W_forL ds I 0 ρ h0 (fun k d ρ e i => by rw [Nat.zero_add] at *; exact hs k d ρ e i) (fun ρ i => by rw [Nat.zero_add] at i; exact hq ρ i)
theorem W_forR {Q : Out → Prop} {lo : Int} {n : Nat} {ρ : Rho} (I : Nat → Rho → Prop) (h0 : I 0 ρ) (hs : ∀ k ρ, k < n → I k ρ → Wp (g (.int (lo + (k : Nat))) ρ) fun ρ1 => Wp (mb ρ1) (forQ (I (k + 1)) Q)) (hq : ∀ ρ, I n ρ → Q (.nx ρ)) : Wp (mForL g mb (rangeD lo n) ρ) Q :=
  W_forK I h0 (fun k d ρ e i => by
    have hk : k < n := by have := (List.getElem?_eq_some_iff.mp e).1; rwa [rangeD_len] at this
    rw [rangeD_get hk] at e
    cases e
    exact hs k ρ hk i) (fun ρ i => by rw [rangeD_len] at i; exact hq ρ i)
theorem W_forM {α : Type} {Q : Out → Prop} (xs : List α) (e : α → D) {ρ : Rho} (I : List α → Rho → Prop) (h0 : I [] ρ) (hs : ∀ pre x post ρ, xs = pre ++ x :: post → I pre ρ → Wp (g (e x) ρ) fun ρ1 => Wp (mb ρ1) (forQ (I (pre ++ [x])) Q)) (hq : ∀ ρ, I xs ρ → Q (.nx ρ)) : Wp (mForL g mb (xs.map e) ρ) Q := by
  refine W_forK (fun k ρ => I (xs.take k) ρ) (by simpa using h0) (fun k d ρ q i => ?_) (fun ρ i => hq ρ (by simpa using i))
  rw [List.getElem?_map] at q
  cases hx : xs[k]? with
  | none => rw [hx] at q; cases q
  | some x =>
    rw [hx] at q
    cases q
    obtain ⟨hk, hx'⟩ := List.getElem?_eq_some_iff.mp hx
    have h1 : xs = xs.take k ++ x :: xs.drop (k + 1) := by
      rw [← hx', ← List.drop_eq_getElem_cons hk, List.take_append_drop]
    have h2 := hs (xs.take k) x (xs.drop (k + 1)) ρ h1 i
    rw [show xs.take (k + 1) = xs.take k ++ [x] by rw [← hx', List.take_append_getElem hk]]
    exact h2
theorem W_lcL {Q : List D × Rho → Prop} : ∀ (ds : List D) (I : Nat → List D → Rho → Prop) (k0 : Nat) (acc : List D) (ρ : Rho), acc.length ≤ k0 → k0 + ds.length < sizeLine → I k0 acc ρ →
    (∀ k d acc ρ, ds[k]? = some d → I (k0 + k) acc ρ → Wp (g d ρ) fun ρ1 => Wp (mt ρ1) fun r => bcs r.1 (Wp (me r.2) fun y => I (k0 + k + 1) (acc ++ [y.1]) (wipeR y.2 vs)) (I (k0 + k + 1) acc (wipeR r.2 vs))) →
    (∀ acc ρ, acc.length ≤ k0 + ds.length → I (k0 + ds.length) acc ρ → Q (acc, ρ)) → Wp (lcL g mt me vs ds acc ρ) Q
  | [], I, k0, acc, ρ, hl, hz, h0, hs, hq => W_some.mpr (hq acc ρ hl h0)
  | d :: r, I, k0, acc, ρ, hl, hz, h0, hs, hq => by
    have h := hs 0 d acc ρ rfl h0
    rw [List.length_cons] at hz
    have ih : ∀ acc ρ, acc.length ≤ k0 + 1 → I (k0 + 1) acc ρ → Wp (lcL g mt me vs r acc ρ) Q := fun acc ρ hl h => W_lcL r I (k0 + 1) acc ρ hl (by omega) h (fun k d acc ρ e i => by
      have := hs (k + 1) d acc ρ (by simpa using e) (by rw [show k0 + (k + 1) = k0 + 1 + k by omega]; exact i)
      rw [show k0 + (k + 1) + 1 = k0 + 1 + k + 1 by omega] at this
      exact this) (fun acc ρ hl h => hq acc ρ (by rw [List.length_cons]; omega) (by rw [List.length_cons, show k0 + (r.length + 1) = k0 + 1 + r.length by omega]; exact h))
    unfold lcL
    obtain ⟨ρ1, e1, ⟨b, ρ2⟩, e2, h⟩ := h
    rw [e1]
    simp only [e2]
    cases b with
    | true =>
      obtain ⟨⟨y, ρ3⟩, e3, h⟩ := h.1 rfl
      simp only [e3]
      rw [if_pos (by omega)]
      exact ih _ _ (by simp; omega) h
    | false =>
      exact ih _ _ (by omega) (h.2 rfl)
theorem W_lcK {Q : List D × Rho → Prop} {ds : List D} {ρ : Rho} (I : Nat → List D → Rho → Prop) (hz : ds.length < sizeLine) (h0 : I 0 [] ρ)
    (hs : ∀ k d acc ρ, ds[k]? = some d → I k acc ρ → Wp (g d ρ) fun ρ1 => Wp (mt ρ1) fun r => bcs r.1 (Wp (me r.2) fun y => I (k + 1) (acc ++ [y.1]) (wipeR y.2 vs)) (I (k + 1) acc (wipeR r.2 vs)))
    (hq : ∀ acc ρ, acc.length ≤ ds.length → I ds.length acc ρ → Q (acc, ρ)) : Wp (lcL g mt me vs ds [] ρ) Q :=
  W_lcL ds I 0 [] ρ (Nat.le_refl _) (by omega) h0 (fun k d acc ρ e i => by rw [Nat.zero_add] at *; exact hs k d acc ρ e i) (fun acc ρ hl i => by rw [Nat.zero_add] at *; exact hq acc ρ hl i)
theorem W_lcM {α : Type} {Q : List D × Rho → Prop} (xs : List α) (e : α → D) (J : Rho → Prop) (t : α → Bool) (y : α → D) {ρ : Rho} (hz : xs.length < sizeLine) (h0 : J ρ)
    (hs : ∀ x ∈ xs, ∀ ρ, J ρ → Wp (g (e x) ρ) fun ρ1 => Wp (mt ρ1) fun r => r.1 = t x ∧ (t x = true → Wp (me r.2) fun z => z.1 = y x ∧ J (wipeR z.2 vs)) ∧ (t x = false → J (wipeR r.2 vs)))
    (hq : ∀ ρ, J ρ → Q ((xs.filter t).map y, ρ)) : Wp (lcL g mt me vs (xs.map e) [] ρ) Q := by
  refine W_lcK (fun k acc ρ => acc = ((xs.take k).filter t).map y ∧ J ρ) (by simpa using hz) ⟨by simp, h0⟩ (fun k d acc ρ q i => ?_) (fun acc ρ hl i => ?_)
  · rw [List.getElem?_map] at q
    cases hx : xs[k]? with
    | none => rw [hx] at q; cases q
    | some x =>
      rw [hx] at q
      cases q
      obtain ⟨hk, hx'⟩ := List.getElem?_eq_some_iff.mp hx
      refine (hs x (List.mem_of_getElem? hx) ρ i.2).mono fun ρ1 h => h.mono fun r ⟨h1, h2, h3⟩ => ?_
      rw [show xs.take (k + 1) = xs.take k ++ [x] by rw [← hx', List.take_append_getElem hk], List.filter_append, List.map_append, ← i.1]
      refine ⟨fun b => (h2 (h1 ▸ b)).mono fun z hz => ⟨?_, hz.2⟩, fun b => ⟨?_, h3 (h1 ▸ b)⟩⟩
      · have : t x = true := h1 ▸ b
        simp [List.filter, this, hz.1]
      · have : t x = false := h1 ▸ b
        simp [List.filter, this]
  · have h := i.1
    rw [List.length_map, List.take_length] at h
    rw [h]
    exact hq ρ i.2
theorem W_dcL {Q : List (D × D) × Rho → Prop} : ∀ (ds : List D) (I : Nat → List (D × D) → Rho → Prop) (k0 : Nat) (acc : List (D × D)) (ρ : Rho), acc.length ≤ k0 → k0 + ds.length < sizeLine → I k0 acc ρ →
    (∀ k d acc ρ, ds[k]? = some d → I (k0 + k) acc ρ → Wp (g d ρ) fun ρ1 => Wp (mt ρ1) fun r => bcs r.1 (Wp (mk r.2) fun kd => Wp (mv kd.2) fun y => Wp (keyD kd.1) fun key => I (k0 + k + 1) (gPut.dput acc key y.1) (wipeR y.2 vs)) (I (k0 + k + 1) acc (wipeR r.2 vs))) →
    (∀ acc ρ, acc.length ≤ k0 + ds.length → I (k0 + ds.length) acc ρ → Q (acc, ρ)) → Wp (dcL g mt mk mv vs ds acc ρ) Q
  | [], I, k0, acc, ρ, hl, hz, h0, hs, hq => W_some.mpr (hq acc ρ hl h0)
  | d :: r, I, k0, acc, ρ, hl, hz, h0, hs, hq => by
    have h := hs 0 d acc ρ rfl h0
    rw [List.length_cons] at hz
    have ih : ∀ acc ρ, acc.length ≤ k0 + 1 → I (k0 + 1) acc ρ → Wp (dcL g mt mk mv vs r acc ρ) Q := fun acc ρ hl h => W_dcL r I (k0 + 1) acc ρ hl (by omega) h (fun k d acc ρ e i => by
      have := hs (k + 1) d acc ρ (by simpa using e) (by rw [show k0 + (k + 1) = k0 + 1 + k by omega]; exact i)
      rw [show k0 + (k + 1) + 1 = k0 + 1 + k + 1 by omega] at this
      exact this) (fun acc ρ hl h => hq acc ρ (by rw [List.length_cons]; omega) (by rw [List.length_cons, show k0 + (r.length + 1) = k0 + 1 + r.length by omega]; exact h))
    unfold dcL
    obtain ⟨ρ1, e1, ⟨b, ρ2⟩, e2, h⟩ := h
    rw [e1]
    simp only [e2]
    cases b with
    | true =>
      obtain ⟨⟨kd, ρk⟩, e3, ⟨y, ρ3⟩, e4, key, e5, h⟩ := h.1 rfl
      simp only at e4 e5
      simp only [e3, e4, e5]
      rw [if_pos (by omega)]
      refine ih _ _ ?_ h
      unfold gPut.dput
      split
      · simp; omega
      · simp; omega
    | false =>
      exact ih _ _ (by omega) (h.2 rfl)
theorem W_dcK {Q : List (D × D) × Rho → Prop} {ds : List D} {ρ : Rho} (I : Nat → List (D × D) → Rho → Prop) (hz : ds.length < sizeLine) (h0 : I 0 [] ρ)
    (hs : ∀ k d acc ρ, ds[k]? = some d → I k acc ρ → Wp (g d ρ) fun ρ1 => Wp (mt ρ1) fun r => bcs r.1 (Wp (mk r.2) fun kd => Wp (mv kd.2) fun y => Wp (keyD kd.1) fun key => I (k + 1) (gPut.dput acc key y.1) (wipeR y.2 vs)) (I (k + 1) acc (wipeR r.2 vs)))
    (hq : ∀ acc ρ, acc.length ≤ ds.length → I ds.length acc ρ → Q (acc, ρ)) : Wp (dcL g mt mk mv vs ds [] ρ) Q :=
  W_dcL ds I 0 [] ρ (Nat.le_refl _) (by omega) h0 (fun k d acc ρ e i => by rw [Nat.zero_add] at *; exact hs k d acc ρ e i) (fun acc ρ hl i => by rw [Nat.zero_add] at *; exact hq acc ρ hl i)
theorem W_anM {α : Type} {k : Bool} {Q : Bool × Rho → Prop} : ∀ (xs : List α) (e : α → D) (J : Rho → Prop) (t p : α → Bool) {ρ : Rho} (h0 : J ρ)
    (hs : ∀ x ∈ xs, ∀ ρ, J ρ → Wp (g (e x) ρ) fun ρ1 => Wp (mt ρ1) fun r => r.1 = t x ∧ (t x = true → Wp (me r.2) fun z => z.1 = .bool (p x) ∧ J (wipeR z.2 vs)) ∧ (t x = false → J (wipeR r.2 vs)))
    (hq : ∀ ρ, J ρ → Q (if k then xs.any (fun x => t x && p x) else xs.all (fun x => !t x || p x), ρ)), Wp (anL k g mt me vs (xs.map e) ρ) Q
  | [], e, J, t, p, ρ, h0, hs, hq => W_some.mpr (by
    have := hq ρ h0
    cases k <;> simpa using this)
  | x :: r, e, J, t, p, ρ, h0, hs, hq => by
    obtain ⟨ρ1, e1, ⟨b, ρ2⟩, e2, h1, h2, h3⟩ := hs x List.mem_cons_self ρ h0
    rw [List.map_cons]
    unfold anL
    rw [e1]
    simp only [e2]
    simp only at h1 h2 h3
    cases b with
    | true =>
      obtain ⟨⟨z, ρ3⟩, e3, h4, h5⟩ := h2 h1.symm
      simp only at h4 h5
      subst h4
      simp only [e3]
      by_cases hp : p x = k
      · rw [if_pos hp]
        refine W_some.mpr ?_
        have := hq _ h5
        cases k <;> simp [hp, ← h1] at this ⊢ <;> exact this
      · rw [if_neg hp]
        refine W_anM r e J t p h5 (fun x hx => hs x (List.mem_cons_of_mem _ hx)) fun ρ hρ => ?_
        have := hq _ hρ
        cases k <;> simp only [Bool.not_eq_true, Bool.not_eq_false] at hp <;> simp [hp, ← h1] at this ⊢ <;> exact this
    | false =>
      refine W_anM r e J t p (h3 h1.symm) (fun x hx => hs x (List.mem_cons_of_mem _ hx)) fun ρ hρ => ?_
      have := hq _ hρ
      cases k <;> simp [← h1] at this ⊢ <;> exact this
end
theorem W_atI {ds : List D} {i : Int} {Q : D → Prop} (h0 : 0 ≤ i) (h1 : i < ds.length) (hq : ∀ d, ds[i.toNat]? = some d → Q d) : Wp (atI ds i) Q := by
  unfold atI ixN
  rw [if_pos h0, if_pos h1]
  have h : i.toNat < ds.length := by omega
  exact ⟨ds[i.toNat], by simp [h], hq _ (by simp [h])⟩
theorem W_atM {α : Type} {xs : List α} {e : α → D} {i : Int} {Q : D → Prop} (h0 : 0 ≤ i) (h1 : i < xs.length) (hq : ∀ x, xs[i.toNat]? = some x → Q (e x)) : Wp (atI (xs.map e) i) Q := by
  refine W_atI h0 (by simpa using h1) fun d q => ?_
  rw [List.getElem?_map] at q
  cases hx : xs[i.toNat]? with
  | none => rw [hx] at q; cases q
  | some x => rw [hx] at q; cases q; exact hq x hx
theorem W_atL {α : Type} {xs : List α} {e : α → D} {i : Int} {Q : D → Prop} (h0 : i < 0) (h1 : -(xs.length : Int) ≤ i) (hq : ∀ x, xs[(i + xs.length).toNat]? = some x → Q (e x)) : Wp (atI (xs.map e) i) Q := by
  unfold atI ixN
  rw [if_neg (by omega), if_pos (by simpa using h1)]
  have h : (i + xs.length).toNat < xs.length := by omega
  exact ⟨e xs[(i + xs.length).toNat], by simp [h], hq _ (by simp [h])⟩
def slotD : Option (Bool × D) → D
  | some (_, d) => d
  | none => .none
def backRl : Nat → Rho → List D
  | 0, _ => []
  | n + 1, x :: r => slotD x :: backRl n r
  | n + 1, [] => .none :: backRl n []
theorem backRl_get : ∀ (n : Nat) (ρ : Rho), (backRl n ρ).length = n ∧ ∀ j, j < n → (backRl n ρ)[j]? = some (match ρ[j]? with | some (some (_, d)) => d | _ => .none)
  | 0, ρ => ⟨rfl, fun j h => absurd h (Nat.not_lt_zero _)⟩
  | n + 1, x :: r => ⟨congrArg (· + 1) (backRl_get n r).1, fun j h => by
    cases j with
    | zero =>
      match x with
      | none => rfl
      | some (b, d) => rfl
    | succ j => simpa [backRl] using (backRl_get n r).2 j (by omega)⟩
  | n + 1, [] => ⟨congrArg (· + 1) (backRl_get n []).1, fun j h => by
    cases j with
    | zero => rfl
    | succ j => simpa [backRl] using (backRl_get n []).2 j (by omega)⟩
theorem backR_eq {ρ : Rho} {n : Nat} : backR ρ n = backRl n ρ := by
  apply List.ext_getElem?
  intro j
  by_cases h : j < n
  · rw [(backRl_get n ρ).2 j h]
    unfold backR
    rw [List.getElem?_map, List.getElem?_range h]
    rfl
  · rw [List.getElem?_eq_none (l := backR ρ n) (by unfold backR; rw [List.length_map, List.length_range]; omega), List.getElem?_eq_none (by rw [(backRl_get n ρ).1]; omega)]
theorem slotD_some {b : Bool} {d : D} : slotD (some (b, d)) = d := rfl
theorem slotD_none : slotD none = .none := rfl
end PD
set_option Elab.async false
set_option linter.all false
set_option maxRecDepth 100000
set_option maxHeartbeats 2000000
namespace PD
open PySem PySem.Spec PyProof.Rows L2 GxR GenX OwnK
def Wq {α β : Type} (o : Option (α × β)) (K : α → β → Prop) [Tg K] : Prop := Wp o fun r => K r.1 r.2
def rQ (n : Nat) (K : D → List D → Prop) [Tg K] : Out → Prop := runQ n fun r => K r.1 r.2
def rQN (n : Nat) (K : D → List D → Prop) [Tg K] : Out → Prop := runQN n fun r => K r.1 r.2
def list2Q (K : D → D → Prop) [Tg K] : List D → Prop
  | [a, b] => K a b
  | _ => False
section
variable {α β : Type} {ρ : Rho}
theorem Wq.mono {o : Option (α × β)} {K K' : α → β → Prop} (h : Wq o K) (k : ∀ a b, K a b → K' a b) : Wq o K' := Wp.mono h fun r z => k _ _ z
theorem q_some {K : α → β → Prop} {a : α} {b : β} : Wq (some (a, b)) K ↔ K a b := W_some
theorem q_none {K : α → β → Prop} : Wq (none : Option (α × β)) K ↔ False := W_none
theorem q_ite {K : α → β → Prop} {c : Prop} [Decidable c] {a b : Option (α × β)} : Wq (if c then a else b) K ↔ (c → Wq a K) ∧ (¬ c → Wq b K) := W_ite
theorem rQ_nx {n : Nat} {K : D → List D → Prop} : rQ n K (.nx ρ) ↔ K .none (backR ρ n) := Iff.rfl
theorem rQ_rt {n : Nat} {K : D → List D → Prop} {d : D} : rQ n K (.rt d ρ) ↔ K d (backR ρ n) := Iff.rfl
theorem rQN_rt {n : Nat} {K : D → List D → Prop} {d : D} : rQN n K (.rt d ρ) ↔ K d (backR ρ n) := Iff.rfl
theorem list2Q_eq {K : D → D → Prop} {a b : D} : list2Q K [a, b] ↔ K a b := Iff.rfl
end
section
variable {K : D → Rho → Prop} {KB : Bool → Rho → Prop} {KL : List D → Rho → Prop} {QS : Out → Prop} {KO : Option Int → Rho → Prop} {ρ : Rho}
theorem q_runD {n : Nat} {io : List Nat} {mb : MS} {ds : List D} {K : D → List D → Prop} : Wq (runD n io mb ds) K ↔ Wp (mb (startR io n ds)) (rQ ds.length K) := W_runD
theorem q_runN {n : Nat} {io : List Nat} {mb : MS} {ds : List D} {K : D → List D → Prop} : Wq (runN n io mb ds) K ↔ Wp (mb (startR io n ds)) (rQN ds.length K) := W_runN
theorem q_bin {g : D → D → Option D} {m1 m2 : M D} : Wq (mBin g m1 m2 ρ) K ↔ Wq (m1 ρ) fun d1 ρ1 => Wq (m2 ρ1) fun d2 ρ2 => Wp (g d1 d2) fun d => K d ρ2 := W_bin
theorem q_nil : Wq (mNil ρ) KL ↔ KL [] ρ := W_nil
theorem q_cons {m : M D} {ms : M (List D)} : Wq (mCons m ms ρ) KL ↔ Wq (m ρ) fun d ρ1 => Wq (ms ρ1) fun ds ρ2 => KL (d :: ds) ρ2 := W_cons
theorem q_app {g : List D → Option D} {m : M (List D)} : Wq (mApp g m ρ) K ↔ Wq (m ρ) fun ds ρ1 => Wp (g ds) fun d => K d ρ1 := W_app
theorem q_un {g : D → Option D} {m : M D} : Wq (mUn g m ρ) K ↔ Wq (m ρ) fun d ρ1 => Wp (g d) fun d => K d ρ1 := W_un
theorem q_mB {m : M D} : Wq (mB m ρ) KB ↔ Wq (m ρ) fun d ρ1 => boolQ (fun b => KB b ρ1) d := W_mB
theorem q_andT {m1 m2 : M Bool} : Wq (mAndT m1 m2 ρ) KB ↔ Wq (m1 ρ) fun b ρ1 => bcs b (Wq (m2 ρ1) KB) (KB false ρ1) := W_andT
theorem q_orT {m1 m2 : M Bool} : Wq (mOrT m1 m2 ρ) KB ↔ Wq (m1 ρ) fun b ρ1 => bcs b (KB true ρ1) (Wq (m2 ρ1) KB) := W_orT
theorem q_notT {m1 : M Bool} : Wq (mNotT m1 ρ) KB ↔ Wq (m1 ρ) fun b ρ1 => KB (!b) ρ1 := W_notT
theorem q_andV {m1 m2 : M D} : Wq (mAndV m1 m2 ρ) K ↔ Wq (m1 ρ) fun d ρ1 => boolQ (fun b => bcs b (Wq (m2 ρ1) K) (K (.bool false) ρ1)) d := W_andV
theorem q_orV {m1 m2 : M D} : Wq (mOrV m1 m2 ρ) K ↔ Wq (m1 ρ) fun d ρ1 => boolQ (fun b => bcs b (K (.bool true) ρ1) (Wq (m2 ρ1) K)) d := W_orV
theorem q_notV {m1 : M D} : Wq (mNotV m1 ρ) K ↔ Wq (m1 ρ) fun d ρ1 => boolQ (fun b => K (.bool (!b)) ρ1) d := W_notV
theorem q_if {c : M Bool} {m1 m2 : M D} : Wq (mIf c m1 m2 ρ) K ↔ Wq (c ρ) fun b ρ1 => bcs b (Wq (m1 ρ1) K) (Wq (m2 ρ1) K) := W_if
theorem q_mP {m : M D} : Wq (mP m ρ) KO ↔ Wq (m ρ) fun d ρ1 => intQ (fun i => KO (some i) ρ1) d := W_mP
theorem q_noP : Wq (mNoP ρ) KO ↔ KO none ρ := W_noP
theorem q_sl {m : M D} {ml mh : M (Option Int)} : Wq (mSl m ml mh ρ) K ↔ Wq (m ρ) fun d ρ1 => Wq (ml ρ1) fun l ρ2 => Wq (mh ρ2) fun h ρ3 => Wp (gSl l h d) fun d => K d ρ3 := W_sl
theorem q_items {m : M D} : Wq (mItems m ρ) KL ↔ Wq (m ρ) fun d ρ1 => Wp (gItems d) fun ds => KL ds ρ1 := W_items
theorem q_range {g : List D → Option (List D)} {m : M (List D)} : Wq (mRange g m ρ) KL ↔ Wq (m ρ) fun ds ρ1 => Wp (g ds) fun es => KL es ρ1 := W_range
theorem q_chain {g g' : D → D → Option D} {ma mb mc : M D} : Wq (mChain g g' ma mb mc ρ) K ↔ Wq (ma ρ) fun a ρ1 => Wq (mb ρ1) fun b ρ2 => Wp (g a b) fun t => boolQ (fun z => bcs z (Wq (mc ρ2) fun c ρ3 => Wp (g' b c) fun d => K d ρ3) (K (.bool false) ρ2)) t := W_chain
theorem q_ret {m : M D} : Wp (mRet m ρ) QS ↔ Wq (m ρ) fun d ρ1 => QS (.rt d ρ1) := W_ret
theorem q_drop {m : M D} : Wp (mDrop m ρ) QS ↔ Wq (m ρ) fun d ρ1 => QS (.nx ρ1) := W_drop
theorem q_ifS {c : M Bool} {m1 m2 : MS} : Wp (mIfS c m1 m2 ρ) QS ↔ Wq (c ρ) fun b ρ1 => bcs b (Wp (m1 ρ1) QS) (Wp (m2 ρ1) QS) := W_ifS
theorem q_asg {m : M D} {g : D → Rho → Option Rho} : Wp (mAsg m g ρ) QS ↔ Wq (m ρ) fun d ρ1 => Wp (g d ρ1) fun ρ2 => QS (.nx ρ2) := W_asg
theorem q_par {i j : Nat} {m : M (List D)} : Wp (mPar i j m ρ) QS ↔ Wq (m ρ) fun ds ρ1 => list2Q (fun a b => i < ρ1.length ∧ j < ρ1.length ∧ QS (.nx ((ρ1.set i (some (false, a))).set j (some (false, b))))) ds := W_par.trans <| by
  unfold Wq
  constructor
  · exact fun h => h.mono fun r ⟨a, b, e, h⟩ => by rw [e]; exact h
  · refine fun h => h.mono fun r h => ?_
    obtain ⟨ds, ρ1⟩ := r
    match ds, h with
    | [a, b], h => exact ⟨a, b, rfl, h⟩
theorem q_put {i : Nat} {mk mv : M D} : Wp (mPut i mk mv ρ) QS ↔ Wq (mv ρ) fun v ρ1 => ownQ (fun o => Wq (mk ρ1) fun k ρ2 => Wp (gPut o k v) fun o' => QS (.nx (ρ2.set i (some (true, o'))))) (ρ1[i]?) := W_put
theorem q_aug {i : Nat} {g : D → D → Option D} {m : M D} : Wp (mAug i g m ρ) QS ↔ borQ (fun x => Wq (m ρ) fun r ρ1 => Wp (g x r) fun d => i < ρ1.length ∧ QS (.nx (ρ1.set i (some (false, d))))) (ρ[i]?) := W_aug
theorem q_augL {i : Nat} {g : D → D → Option D} {mk me : M D} : Wp (mAugL i g mk me ρ) QS ↔ ownQ (fun o => Wq (mk ρ) fun k ρ1 => Wp (gIxL o k) fun x => Wq (me ρ1) fun r ρ2 => Wp (g x r) fun d => Wp (gPut o k d) fun o' => QS (.nx (ρ2.set i (some (true, o'))))) (ρ[i]?) := W_augL
theorem q_mut {i : Nat} {g : D → D → Option (D × D)} {m : M D} : Wq (mMut i g m ρ) K ↔ ownQ (fun o => Wq (m ρ) fun r ρ1 => Wq (g o r) fun z o' => K z (ρ1.set i (some (true, o')))) (ρ[i]?) := W_mut
theorem q_call {f : List D → Option (D × List D)} {ts : List (Option Nat)} {m : M (List D)} : Wq (mCall f ts m ρ) K ↔ Wq (m ρ) fun ds ρ1 => Wq (f ds) fun d es => es.length = ds.length ∧ K d (putBack ts es ρ1) := W_call
theorem q_callK {f : List D → Option (D × List D)} {ga : List D → List D} {m : M (List D)} : Wq (mCallK f ga m ρ) K ↔ Wq (m ρ) fun ds ρ1 => Wq (f (ga ds)) fun d es => K d ρ1 := W_callK
theorem q_tab {tbl : List (Str × (List D → Option (D × List D)))} {ts : List (Option Nat)} {mk : M D} {m : M (List D)} : Wq (mTab tbl ts mk m ρ) K ↔ Wq (mk ρ) fun k ρ1 => strQ (fun z => Wp (tbl.lookup z) fun fn => Wq (mCall fn ts m ρ1) K) k := W_tab
theorem q_consIo {i : Nat} {ms : M (List D)} : Wq (mConsIo i ms ρ) KL ↔ ownQ (fun _ => Wq (ms ρ) fun ds ρ1 => ownQ (fun d => KL (d :: ds) ρ1) (ρ1[i]?)) (ρ[i]?) := W_consIo
theorem q_get2 {m1 m2 m3 : M D} : Wq (mGet2 m1 m2 m3 ρ) K ↔ Wq (m1 ρ) fun a ρ1 => dictQ (fun kvs => Wq (m2 ρ1) fun b ρ2 => Wq (m3 ρ2) fun c ρ3 => Wp (keyD b) fun k => isT kvs = false ∧ K ((dget kvs k).getD c) ρ3) a := W_get2
theorem q_for {mi : M (List D)} {g : D → Rho → Option Rho} {mb : MS} : Wp (mFor mi g mb ρ) QS ↔ Wq (mi ρ) fun ds ρ1 => Wp (mForL g mb ds ρ1) QS := W_for
theorem q_lc {mi : M (List D)} {g : D → Rho → Option Rho} {mt : M Bool} {me : M D} {vs : List Nat} : Wq (mLc mi g mt me vs ρ) K ↔ Wq (mi ρ) fun ds ρ1 => Wq (lcL g mt me vs ds [] (wipeR ρ1 vs)) fun s ρ2 => K (.list s) (wipeR ρ2 vs) := W_lc
theorem q_dc {mi : M (List D)} {g : D → Rho → Option Rho} {mt : M Bool} {mk mv : M D} {vs : List Nat} : Wq (mDc mi g mt mk mv vs ρ) K ↔ Wq (mi ρ) fun ds ρ1 => Wq (dcL g mt mk mv vs ds [] (wipeR ρ1 vs)) fun s ρ2 => K (.dict s) (wipeR ρ2 vs) := W_dc
theorem q_an {k : Bool} {mi : M (List D)} {g : D → Rho → Option Rho} {mt : M Bool} {me : M D} {vs : List Nat} : Wq (mAn k mi g mt me vs ρ) K ↔ Wq (mi ρ) fun ds ρ1 => Wq (anL k g mt me vs ds (wipeR ρ1 vs)) fun s ρ2 => K (.bool s) (wipeR ρ2 vs) := W_an
theorem q_su {mi : M (List D)} {g : D → Rho → Option Rho} {mt : M Bool} {me : M D} {vs : List Nat} : Wq (mSu mi g mt me vs ρ) K ↔ Wq (mi ρ) fun ds ρ1 => Wq (suL g mt me vs ds 0 (wipeR ρ1 vs)) fun s ρ2 => K (.int s) (wipeR ρ2 vs) := W_su
theorem q_mC {d : D} : Wq (mC d ρ) K ↔ K d ρ := W_some
end
section
variable {g : D → Rho → Option Rho} {mb : MS} {mt : M Bool} {me mk mv : M D} {vs : List Nat}
theorem q_lcK {K : List D → Rho → Prop} {ds : List D} {ρ : Rho} (I : Nat → List D → Rho → Prop) (hz : ds.length < 16777216) (h0 : I 0 [] ρ)
    (hs : ∀ k d acc ρ, ds[k]? = some d → I k acc ρ → Wp (g d ρ) fun ρ1 => Wq (mt ρ1) fun b ρ2 => bcs b (Wq (me ρ2) fun y ρ3 => I (k + 1) (acc ++ [y]) (wipeR ρ3 vs)) (I (k + 1) acc (wipeR ρ2 vs)))
    (hq : ∀ acc ρ, acc.length ≤ ds.length → I ds.length acc ρ → K acc ρ) : Wq (lcL g mt me vs ds [] ρ) K := W_lcK I (by unfold sizeLine; omega) h0 hs hq
theorem filter_yes {α : Type} : ∀ (xs : List α), xs.filter (fun _ => true) = xs
  | [] => rfl
  | x :: r => by rw [List.filter_cons_of_pos rfl, filter_yes r]
theorem q_lcM {α : Type} {K : List D → Rho → Prop} (xs : List α) (e : α → D) (J : Rho → Prop) (t : α → Bool) (y : α → D) {ρ : Rho} (hz : xs.length < 16777216) (h0 : J ρ)
    (hs : ∀ x ∈ xs, ∀ ρ, J ρ → Wp (g (e x) ρ) fun ρ1 => Wq (mt ρ1) fun b ρ2 => b = t x ∧ (t x = true → Wq (me ρ2) fun z ρ3 => z = y x ∧ J (wipeR ρ3 vs)) ∧ (t x = false → J (wipeR ρ2 vs)))
    (hq : ∀ ρ, J ρ → K ((xs.filter t).map y) ρ) : Wq (lcL g mt me vs (xs.map e) [] ρ) K := W_lcM xs e J t y (by unfold sizeLine; omega) h0 hs hq
theorem q_lcA {α : Type} {K : List D → Rho → Prop} (xs : List α) (e : α → D) (J : Rho → Prop) (y : α → D) {ρ : Rho} (hz : xs.length < 16777216) (h0 : J ρ)
    (hs : ∀ x ∈ xs, ∀ ρ, J ρ → Wp (g (e x) ρ) fun ρ1 => Wq (me ρ1) fun z ρ3 => z = y x ∧ J (wipeR ρ3 vs))
    (hq : ∀ ρ, J ρ → K (xs.map y) ρ) : Wq (lcL g mYes me vs (xs.map e) [] ρ) K :=
  q_lcM xs e J (fun _ => true) y hz h0 (fun x hx ρ hρ => (hs x hx ρ hρ).mono fun ρ1 h => q_some.mpr ⟨rfl, fun _ => h, fun z => nomatch z⟩) fun ρ hρ => by rw [filter_yes]; exact hq ρ hρ
theorem q_lcE {α β : Type} {K : List D → Rho → Prop} (xs : List α) (e : α → D) (J : Rho → Prop) (y : β → D) (P : α → β → Prop) {ρ : Rho} (hz : xs.length < 16777216) (h0 : J ρ)
    (hs : ∀ x ∈ xs, ∀ ρ, J ρ → Wp (g (e x) ρ) fun ρ1 => Wq (me ρ1) fun z ρ2 => (∃ b, z = y b ∧ P x b) ∧ J (wipeR ρ2 vs))
    (hq : ∀ (bs : List β) ρ, bs.length = xs.length → (∀ (i : Nat) x b, xs[i]? = some x → bs[i]? = some b → P x b) → J ρ → K (bs.map y) ρ) : Wq (lcL g mYes me vs (xs.map e) [] ρ) K := by
  refine q_lcK (fun k acc ρ => ∃ bs : List β, acc = bs.map y ∧ bs.length = k ∧ (∀ (i : Nat) x b, xs[i]? = some x → bs[i]? = some b → P x b) ∧ J ρ) (by simpa using hz) ⟨[], rfl, rfl, fun i x b _ z => by simp at z, h0⟩ (fun k d acc ρ q ⟨bs, e1, e2, e3, e4⟩ => ?_) (fun acc ρ _ ⟨bs, e1, e2, e3, e4⟩ => by
    subst e1; exact hq bs ρ (by simpa using e2) e3 e4)
  rw [List.getElem?_map] at q
  cases hx : xs[k]? with
  | none => rw [hx] at q; cases q
  | some x =>
    rw [hx] at q
    cases q
    refine (hs x (List.mem_of_getElem? hx) ρ e4).mono fun ρ1 h => q_some.mpr (bcs_true.mpr (h.mono fun z ρ2 ⟨⟨b, hb, hp⟩, hj⟩ => ⟨bs ++ [b], by rw [e1, hb]; simp, by simp [e2], fun i x' b' h1 h2 => ?_, hj⟩))
    rcases Nat.lt_trichotomy i k with hi | hi | hi
    · exact e3 i x' b' h1 (by rwa [List.getElem?_append_left (by omega)] at h2)
    · subst hi
      rw [List.getElem?_append_right (by omega), e2, Nat.sub_self] at h2
      rw [hx] at h1
      cases h1
      cases h2
      exact hp
    · rw [List.getElem?_eq_none (by simp; omega)] at h2; cases h2
theorem q_dcK {K : List (D × D) → Rho → Prop} {ds : List D} {ρ : Rho} (I : Nat → List (D × D) → Rho → Prop) (hz : ds.length < 16777216) (h0 : I 0 [] ρ)
    (hs : ∀ k d acc ρ, ds[k]? = some d → I k acc ρ → Wp (g d ρ) fun ρ1 => Wq (mt ρ1) fun b ρ2 => bcs b (Wq (mk ρ2) fun kd ρ3 => Wq (mv ρ3) fun y ρ4 => Wp (keyD kd) fun key => I (k + 1) (gPut.dput acc key y) (wipeR ρ4 vs)) (I (k + 1) acc (wipeR ρ2 vs)))
    (hq : ∀ acc ρ, acc.length ≤ ds.length → I ds.length acc ρ → K acc ρ) : Wq (dcL g mt mk mv vs ds [] ρ) K := W_dcK I (by unfold sizeLine; omega) h0 hs hq
theorem q_anM {α : Type} {k : Bool} {K : Bool → Rho → Prop} (xs : List α) (e : α → D) (J : Rho → Prop) (t p : α → Bool) {ρ : Rho} (h0 : J ρ)
    (hs : ∀ x ∈ xs, ∀ ρ, J ρ → Wp (g (e x) ρ) fun ρ1 => Wq (mt ρ1) fun b ρ2 => b = t x ∧ (t x = true → Wq (me ρ2) fun z ρ3 => z = .bool (p x) ∧ J (wipeR ρ3 vs)) ∧ (t x = false → J (wipeR ρ2 vs)))
    (hq : ∀ ρ, J ρ → K (if k then xs.any (fun x => t x && p x) else xs.all (fun x => !t x || p x)) ρ) : Wq (anL k g mt me vs (xs.map e) ρ) K := W_anM xs e J t p h0 hs hq
theorem q_any {α : Type} {K : Bool → Rho → Prop} (xs : List α) (e : α → D) (J : Rho → Prop) (p : α → Bool) {ρ : Rho} (h0 : J ρ)
    (hs : ∀ x ∈ xs, ∀ ρ, J ρ → Wp (g (e x) ρ) fun ρ1 => Wq (me ρ1) fun z ρ3 => z = .bool (p x) ∧ J (wipeR ρ3 vs))
    (hq : ∀ ρ, J ρ → K (xs.any p) ρ) : Wq (anL true g mYes me vs (xs.map e) ρ) K :=
  q_anM xs e J (fun _ => true) p h0 (fun x hx ρ hρ => (hs x hx ρ hρ).mono fun ρ1 h => q_some.mpr ⟨rfl, fun _ => h, fun z => nomatch z⟩) fun ρ hρ => by simpa using hq ρ hρ
end
end PD
set_option Elab.async false
set_option linter.all false
set_option maxRecDepth 100000
set_option maxHeartbeats 2000000
namespace PD
open PySem PySem.Spec PyProof.Rows L2 GxR GenX OwnK
theorem gAdd_ii (a b : Int) : gAdd (.int a) (.int b) = some (.int (a + b)) := rfl
theorem gSub_ii (a b : Int) : gSub (.int a) (.int b) = some (.int (a - b)) := rfl
theorem gLen_l (ds : List D) : gLen [.list ds] = some (.int ds.length) := rfl
theorem gLen_t (ds : List D) : gLen [.tuple ds] = some (.int ds.length) := rfl
theorem isT_map {α : Type} {f : α → D × D} (h : ∀ x, isT [f x] = false) (l : List α) : isT (l.map f) = false := by
  cases l with
  | nil => rfl
  | cons x r =>
    have := h x
    rw [List.map_cons]
    generalize f x = p at *
    obtain ⟨k, d⟩ := p
    cases k <;> first | rfl | cases this
theorem gLen_d (ds : List (D × D)) : gLen [.dict ds] = if isT ds then none else some (.int ds.length) := rfl
theorem gSl_l (lo hi : Option Int) (ds : List D) : gSl lo hi (.list ds) = some (.list (cutD ds lo hi)) := rfl
theorem gSl_t (lo hi : Option Int) (ds : List D) : gSl lo hi (.tuple ds) = some (.tuple (cutD ds lo hi)) := rfl
theorem gIx_l (ds : List D) (i : Int) : gIx (.list ds) (.int i) = atI ds i := rfl
theorem gIx_t (ds : List D) (i : Int) : gIx (.tuple ds) (.int i) = atI ds i := rfl
theorem gIx_di (ds : List (D × D)) (i : Int) : gIx (.dict ds) (.int i) = dget ds (.inl i) := rfl
theorem gIx_ds (ds : List (D × D)) (i : Str) : gIx (.dict ds) (.str i) = dget ds (.inr i) := rfl
theorem gItems_l (ds : List D) : gItems (.list ds) = some ds := rfl
theorem gItems_t (ds : List D) : gItems (.tuple ds) = some ds := rfl
theorem keyD_i (i : Int) : keyD (.int i) = some (.inl i) := rfl
theorem keyD_s (i : Str) : keyD (.str i) = some (.inr i) := rfl
theorem gEq_ii (a b : Int) : gEq (.int a) (.int b) = some (.bool (decide (a = b))) := rfl
theorem gNe_ii (a b : Int) : gNe (.int a) (.int b) = some (.bool (!decide (a = b))) := rfl
theorem gEq_ss {a b : Str} (ha : PyData.strOk a = true) (hb : PyData.strOk b = true) : gEq (.str a) (.str b) = some (.bool (decide (a = b))) := by
  unfold gEq okE SeqAt.shaped
  simp [noD, PyData.canLay0, ha, hb, PyData.depth, PyData.eqv]
  rfl
theorem gNe_ss {a b : Str} (ha : PyData.strOk a = true) (hb : PyData.strOk b = true) : gNe (.str a) (.str b) = some (.bool (!decide (a = b))) := by
  unfold gNe okE SeqAt.shaped
  simp [noD, PyData.canLay0, ha, hb, PyData.depth, PyData.eqv]
  rfl
theorem gMul_s0 (a : Str) : gMul (.str a) (.int 0) = some (.str Str.empty) := rfl
theorem gMul_s1 (a : Str) : gMul (.str a) (.int 1) = some (.str a) := rfl
theorem gMul_r {a b : Int} (h1 : -18446744073709551616 < b) (h2 : b < 18446744073709551616) : gMul (.int a) (.int b) = some (.int (a * b)) := by
  exact if_pos (show CMul a b from .inr ⟨h1, h2⟩)
theorem gMul_l {a b : Int} (h1 : -18446744073709551616 < a) (h2 : a < 18446744073709551616) : gMul (.int a) (.int b) = some (.int (a * b)) := by
  exact if_pos (show CMul a b from .inl ⟨h1, h2⟩)
theorem gMod_p {a b : Int} (h : 0 < b) : gMod (.int a) (.int b) = some (.int (a.fmod b)) := by
  exact if_pos (show b ≠ 0 by omega)
theorem gDiv_p {a b : Int} (h : 0 < b) (h2 : b < 1073741824) : gDiv (.int a) (.int b) = some (.int (a.fdiv b)) := by
  exact if_pos (show CDivN a b from ⟨by omega, by omega⟩)
theorem gPow_l {a b : Int} (h : CPow a b) : gPow (.int a) (.int b) = some (.int (a ^ b.toNat)) := by
  exact if_pos h
theorem gPow_1018 : gPow (.int 10) (.int 18) = some (.int 1000000000000000000) := by rw [gPow_l ⟨by decide, by decide, by decide⟩]; rfl
section
variable {a b c d e f g h x : D} {r : List D}
theorem atI_0 : atI (a :: r) 0 = some a := by
  unfold atI ixN; rw [if_pos (by decide), if_pos (by simp only [List.length_cons]; omega)]; rfl
theorem atI_1 : atI (a :: b :: r) 1 = some b := by
  unfold atI ixN; rw [if_pos (by decide), if_pos (by simp only [List.length_cons]; omega)]; rfl
theorem atI_2 : atI (a :: b :: c :: r) 2 = some c := by
  unfold atI ixN; rw [if_pos (by decide), if_pos (by simp only [List.length_cons]; omega)]; rfl
theorem atI_3 : atI (a :: b :: c :: d :: r) 3 = some d := by
  unfold atI ixN; rw [if_pos (by decide), if_pos (by simp only [List.length_cons]; omega)]; rfl
theorem atI_4 : atI (a :: b :: c :: d :: e :: r) 4 = some e := by
  unfold atI ixN; rw [if_pos (by decide), if_pos (by simp only [List.length_cons]; omega)]; rfl
theorem atI_5 : atI (a :: b :: c :: d :: e :: f :: r) 5 = some f := by
  unfold atI ixN; rw [if_pos (by decide), if_pos (by simp only [List.length_cons]; omega)]; rfl
theorem atI_6 : atI (a :: b :: c :: d :: e :: f :: g :: r) 6 = some g := by
  unfold atI ixN; rw [if_pos (by decide), if_pos (by simp only [List.length_cons]; omega)]; rfl
theorem atI_7 : atI (a :: b :: c :: d :: e :: f :: g :: h :: r) 7 = some h := by
  unfold atI ixN; rw [if_pos (by decide), if_pos (by simp only [List.length_cons]; omega)]; rfl
theorem gPutL_0 : gPut (.list (a :: r)) (.int 0) x = some (.list (x :: r)) := by
  show (ixN _ _).map _ = _; unfold ixN; rw [if_pos (by decide), if_pos (by simp only [List.length_cons]; omega)]; rfl
theorem gPutL_1 : gPut (.list (a :: b :: r)) (.int 1) x = some (.list (a :: x :: r)) := by
  show (ixN _ _).map _ = _; unfold ixN; rw [if_pos (by decide), if_pos (by simp only [List.length_cons]; omega)]; rfl
theorem gPutL_2 : gPut (.list (a :: b :: c :: r)) (.int 2) x = some (.list (a :: b :: x :: r)) := by
  show (ixN _ _).map _ = _; unfold ixN; rw [if_pos (by decide), if_pos (by simp only [List.length_cons]; omega)]; rfl
theorem gPutL_3 : gPut (.list (a :: b :: c :: d :: r)) (.int 3) x = some (.list (a :: b :: c :: x :: r)) := by
  show (ixN _ _).map _ = _; unfold ixN; rw [if_pos (by decide), if_pos (by simp only [List.length_cons]; omega)]; rfl
theorem gPutL_4 : gPut (.list (a :: b :: c :: d :: e :: r)) (.int 4) x = some (.list (a :: b :: c :: d :: x :: r)) := by
  show (ixN _ _).map _ = _; unfold ixN; rw [if_pos (by decide), if_pos (by simp only [List.length_cons]; omega)]; rfl
theorem gPutL_5 : gPut (.list (a :: b :: c :: d :: e :: f :: r)) (.int 5) x = some (.list (a :: b :: c :: d :: e :: x :: r)) := by
  show (ixN _ _).map _ = _; unfold ixN; rw [if_pos (by decide), if_pos (by simp only [List.length_cons]; omega)]; rfl
theorem gPutD {kvs : List (D × D)} {i : Int} (h : kvs.length < 16777216) (hT : isT kvs = false := by first | rfl | assumption | exact isT_map (fun _ => rfl) _) : gPut (.dict kvs) (.int i) x = some (.dict (gPut.dput kvs (.inl i) x)) := if_pos ⟨hT, (show kvs.length < sizeLine by unfold sizeLine; omega)⟩
theorem gPutDs {kvs : List (D × D)} {i : Str} (h : kvs.length < 16777216) (hT : isT kvs = false := by first | rfl | assumption | exact isT_map (fun _ => rfl) _) : gPut (.dict kvs) (.str i) x = some (.dict (gPut.dput kvs (.inr i) x)) := if_pos ⟨hT, (show kvs.length < sizeLine by unfold sizeLine; omega)⟩
end
section
variable {Q : D → Prop}
theorem w_mul {a b : Int} (h : (-18446744073709551616 < a ∧ a < 18446744073709551616) ∨ (-18446744073709551616 < b ∧ b < 18446744073709551616)) (q : Q (.int (a * b))) : Wp (gMul (.int a) (.int b)) Q := by
  rcases h with h | h
  · rw [gMul_l h.1 h.2]; exact W_some.mpr q
  · rw [gMul_r h.1 h.2]; exact W_some.mpr q
theorem w_mod {a b : Int} (h : 0 < b) (q : 0 ≤ a.fmod b → a.fmod b < b → Q (.int (a.fmod b))) : Wp (gMod (.int a) (.int b)) Q := by
  rw [gMod_p h]; exact W_some.mpr (q (Int.fmod_nonneg_of_pos a h) (Int.fmod_lt_of_pos a h))
theorem w_div {a b : Int} (h : 0 < b) (h2 : b < 1073741824) (q : Q (.int (a.fdiv b))) : Wp (gDiv (.int a) (.int b)) Q := by
  rw [gDiv_p h h2]; exact W_some.mpr q
theorem wr1 {n : Int} {QL : List D → Prop} (h : n < 4611686018427387904) (h0 : -4611686018427387904 ≤ n) (q : QL (rangeD 0 n.toNat)) : Wp (gRange1 [.int n]) QL := by
  exact ⟨_, if_pos (by omega), q⟩
theorem w_gLst {ds : List D} (h : ds.length ≤ 16777216) (q : Q (.list ds)) : Wp (gLstD ds) Q := by
  exact ⟨_, if_pos (by unfold sizeLine; omega), q⟩
theorem w_gTup {ds : List D} (h : ds.length ≤ 16777216) (q : Q (.tuple ds)) : Wp (gTupD ds) Q := by
  exact ⟨_, if_pos (by unfold sizeLine; omega), q⟩
theorem w_app {ds : List D} {d : D} {QD : D → D → Prop} (h : ds.length < 16777216) (q : QD .none (.list (ds ++ [d]))) : Wq (gApp (.list ds) d) QD := by
  exact ⟨_, if_pos (by unfold sizeLine; omega), q⟩
theorem w_addL {a b : List D} (h : a.length + b.length ≤ 16777216) (q : Q (.list (a ++ b))) : Wp (gAdd (.list a) (.list b)) Q := by
  exact ⟨_, if_pos (by unfold sizeLine; omega), q⟩
theorem w_addT {a b : List D} (h : a.length + b.length ≤ 16777216) (q : Q (.tuple (a ++ b))) : Wp (gAdd (.tuple a) (.tuple b)) Q := by
  exact ⟨_, if_pos (by unfold sizeLine; omega), q⟩
theorem w_addS {a b : Str} (h : a.length + b.length ≤ 16777216) (q : Q (.str (a ++ b))) : Wp (gAdd (.str a) (.str b)) Q := by
  exact ⟨_, if_pos (by unfold sizeLine; omega), q⟩
end
theorem w_putM {α : Type} {xs : List α} {e : α → D} {i : Int} {v : α} {Q : D → Prop} (h0 : 0 ≤ i) (h1 : i < xs.length) (q : Q (.list ((xs.set i.toNat v).map e))) : Wp (gPut (.list (xs.map e)) (.int i) (e v)) Q := by
  refine ⟨_, ?_, q⟩
  show (ixN (xs.map e).length i).map (fun j => PyData.list ((xs.map e).set j (e v))) = _
  unfold ixN
  rw [if_pos h0, if_pos (by simpa using h1), List.map_set]
  rfl
end PD
set_option Elab.async false
set_option linter.all false
set_option maxRecDepth 100000
set_option maxHeartbeats 2000000
namespace PD
open PySem PySem.Spec PyProof.Rows L2 GxR GenX OwnK
def cs (z : Str) : List Nat := z.cps.toList
theorem cs_app (a b : Str) : cs (a ++ b) = cs a ++ cs b := by
  show (a.cps ++ b.cps).toList = _
  rw [Array.toList_append]; rfl
theorem cs_len (a : Str) : (cs a).length = a.length := by show a.cps.toList.length = a.cps.size; simp
theorem len_app (a b : Str) : (a ++ b).length = a.length + b.length := by rw [← cs_len, cs_app, List.length_append, cs_len, cs_len]
theorem len_empty : Str.empty.length = 0 := rfl
theorem len_one (c : Nat) : Str.length ⟨#[c]⟩ = 1 := rfl
section
variable {Q : D → Prop}
theorem w_eqS {a b : Str} (r : Bool) (h : (PyData.strOk a && PyData.strOk b && (decide (a = b) == r)) = true) (q : Q (.bool r)) : Wp (gEq (.str a) (.str b)) Q := by
  simp only [Bool.and_eq_true, beq_iff_eq] at h
  exact ⟨_, gEq_ss h.1.1 h.1.2, h.2 ▸ q⟩
theorem w_eq {α : Type} {o : Option α} {a : α} {Q : α → Prop} (h : o = some a) (q : Q a) : Wp o Q := ⟨a, h, q⟩
theorem w_lookT {β : Type} {a b : Str} {v : β} {r : List (Str × β)} {Q : β → Prop} (h : (a == b) = true) (q : Q v) : Wp (List.lookup a ((b, v) :: r)) Q := ⟨v, by rw [List.lookup_cons, h], q⟩
theorem w_lookF {β : Type} {a b : Str} {v : β} {r : List (Str × β)} {Q : β → Prop} (h : (a == b) = false) (q : Wp (List.lookup a r) Q) : Wp (List.lookup a ((b, v) :: r)) Q := by
  obtain ⟨z, e, q⟩ := q
  exact ⟨z, by rw [List.lookup_cons, h]; exact e, q⟩
theorem allInts_map (ns : List Int) : allInts (ns.map .int) = some ns := by
  induction ns with
  | nil => rfl
  | cons n r ih => show (allInts (r.map .int)).map (n :: ·) = _; rw [ih]; rfl
theorem w_lenSet {ns : List Int} (h : ns.length < 4000) (q : Q (.int (distI ns : Nat))) : Wp (gLenSet (.tuple (ns.map .int))) Q := by
  refine ⟨_, ?_, q⟩
  show (allInts (ns.map .int)).bind _ = _
  rw [allInts_map]
  exact if_pos (show ns.length + 1 < scanBound by unfold scanBound; omega)
theorem w_tcount {ns : List Int} {k : Int} (q : Q (.int (ns.count k : Nat))) : Wp (gTCount (.tuple (ns.map .int)) (.int k)) Q := by
  refine ⟨_, ?_, q⟩
  show (allInts (ns.map .int)).map _ = _
  rw [allInts_map]; rfl
theorem w_sum {ns : List Int} (q : Q (.int ns.sum)) : Wp (gSum [.list (ns.map .int)]) Q := by
  refine ⟨_, ?_, q⟩
  show (allInts (ns.map .int)).map _ = _
  rw [allInts_map]; rfl
theorem w_sorted {ns : List Int} (q : Q (.list ((sortI ns).map .int))) : Wp (gSorted [.list (ns.map .int)]) Q := by
  refine ⟨_, ?_, q⟩
  show (allInts (ns.map .int)).map _ = _
  rw [allInts_map]; rfl
theorem w_slS {z : Str} {lo hi : Option Int} (h : z.length ≤ 16777216) (q : Q (.str (cutS z lo hi))) : Wp (gSl lo hi (.str z)) Q := ⟨_, if_pos (show z.length ≤ sizeLine by unfold sizeLine; omega), q⟩
theorem log2_lt {i : Int} (h0 : -1000000000 < i) (h1 : i < 1000000000) : i.natAbs.log2 < 1920 := by
  by_cases h : i.natAbs = 0
  · rw [h]; decide
  · rw [Nat.log2_lt h]
    exact Nat.lt_of_lt_of_le (show i.natAbs < 2 ^ 30 by omega) (Nat.pow_le_pow_right (by decide) (by decide))
theorem w_str {i : Int} (h0 : -1000000000 < i) (h1 : i < 1000000000) (q : Q (.str (toString i))) : Wp (gStr [.int i]) Q := ⟨_, if_pos (log2_lt h0 h1), q⟩
end
end PD
set_option Elab.async false
set_option linter.all false
set_option maxRecDepth 100000
set_option maxHeartbeats 2000000
namespace PD
open PySem PySem.Spec PyProof.Rows L2 GxR GenX OwnK
section
variable {Q : D → Prop}
theorem noDs_str (zs : List Str) : noDs (zs.map .str) = true := by
  induction zs with
  | nil => rfl
  | cons z r ih => show (noD (.str z) && noDs (r.map .str)) = true; rw [ih]; rfl
theorem lay_str {zs : List Str} (h : ∀ z ∈ zs, PyData.strOk z = true) : PyData.canLayAll0 (zs.map .str) = true := by
  induction zs with
  | nil => simp [PyData.canLayAll0]
  | cons z r ih =>
    have h1 := h z List.mem_cons_self
    have h2 := ih fun z hz => h z (List.mem_cons_of_mem _ hz)
    simp [PyData.canLayAll0, PyData.canLay0, h1, h2]
theorem depth_str (zs : List Str) : PyData.depthAll (zs.map .str) = 0 := by
  induction zs with
  | nil => simp [PyData.depthAll]
  | cons z r ih => simp [PyData.depthAll, PyData.depth, ih]
theorem okE_str {z : Str} (h : PyData.strOk z = true) : okE (.str z) = true := by
  unfold okE SeqAt.shaped
  simp [noD, PyData.canLay0, h, PyData.depth]
theorem okE_strs {zs : List Str} (h : ∀ z ∈ zs, PyData.strOk z = true) : okE (.list (zs.map .str)) = true := by
  unfold okE SeqAt.shaped
  simp [noD, PyData.canLay0, lay_str h, PyData.depth, depth_str, noDs_str]
theorem any_str {x : Str} {zs : List Str} : ((zs.map PyData.str).any fun z => PyData.eqv z (.str x)) = decide (x ∈ zs) := by
  rw [Bool.eq_iff_iff, List.any_eq_true, decide_eq_true_eq]
  constructor
  · intro ⟨d, hd, e⟩
    obtain ⟨z, hz, rfl⟩ := List.mem_map.mp hd
    simp only [PyData.eqv, beq_iff_eq] at e
    exact e ▸ hz
  · intro h
    exact ⟨.str x, List.mem_map.mpr ⟨x, h, rfl⟩, by simp [PyData.eqv]⟩
theorem w_notInS {x : Str} {zs : List Str} (hx : PyData.strOk x = true) (h : ∀ z ∈ zs, PyData.strOk z = true) (q : Q (.bool (!decide (x ∈ zs)))) : Wp (gNotIn (.str x) (.list (zs.map .str))) Q := by
  refine ⟨_, ?_, q⟩
  show (if (okE (.str x) && okE (.list (zs.map .str))) = true then some ((zs.map PyData.str).any fun z => PyData.eqv z (.str x)) else none).map _ = _
  rw [okE_str hx, okE_strs h, if_pos (show (true && true) = true from rfl), any_str]
  rfl
theorem w_inS {x : Str} {zs : List Str} (hx : PyData.strOk x = true) (h : ∀ z ∈ zs, PyData.strOk z = true) (q : Q (.bool (decide (x ∈ zs)))) : Wp (gIn (.str x) (.list (zs.map .str))) Q := by
  refine ⟨_, ?_, q⟩
  show (if (okE (.str x) && okE (.list (zs.map .str))) = true then some ((zs.map PyData.str).any fun z => PyData.eqv z (.str x)) else none).map _ = _
  rw [okE_str hx, okE_strs h, if_pos (show (true && true) = true from rfl), any_str]
  rfl
end
def okM (n : Nat) (d : D) : Prop := noD d = true ∧ d.canLay0 = true ∧ d.depth ≤ n
theorem okM.okE {n : Nat} {d : D} (h : okM n d) (hn : n ≤ 64) : okE d = true := by
  unfold PD.okE SeqAt.shaped
  rw [h.1, h.2.1, decide_eq_true (Nat.le_trans h.2.2 hn)]; rfl
theorem okM.mono {n m : Nat} {d : D} (h : okM n d) (hn : n ≤ m) : okM m d := ⟨h.1, h.2.1, Nat.le_trans h.2.2 hn⟩
theorem okM_int (n : Nat) (i : Int) : okM n (.int i) := ⟨rfl, by simp [PyData.canLay0], by simp [PyData.depth]⟩
theorem okM_str (n : Nat) {z : Str} (h : PyData.strOk z = true) : okM n (.str z) := ⟨rfl, by simp [PyData.canLay0, h], by simp [PyData.depth]⟩
theorem okM_all {n : Nat} : ∀ {ds : List D}, (∀ d ∈ ds, okM n d) → noDs ds = true ∧ PyData.canLayAll0 ds = true ∧ PyData.depthAll ds ≤ n
  | [], _ => ⟨rfl, by simp [PyData.canLayAll0], by simp [PyData.depthAll]⟩
  | d :: r, h => by
    have h1 := h d List.mem_cons_self
    have h2 := okM_all (ds := r) fun e he => h e (List.mem_cons_of_mem _ he)
    refine ⟨?_, by simp [PyData.canLayAll0, h1.2.1, h2.2.1], by simp only [PyData.depthAll]; exact Nat.max_le.mpr ⟨h1.2.2, h2.2.2⟩⟩
    show (noD d && noDs r) = true
    rw [h1.1, h2.1]; rfl
theorem okM_tup {n : Nat} {ds : List D} (h : ∀ d ∈ ds, okM n d) : okM (n + 1) (.tuple ds) := by
  have := okM_all h
  exact ⟨this.1, by simp [PyData.canLay0, this.2.1], by simp [PyData.depth]; exact this.2.2⟩
theorem okM_lst {n : Nat} {ds : List D} (h : ∀ d ∈ ds, okM n d) : okM (n + 1) (.list ds) := by
  have := okM_all h
  exact ⟨this.1, by simp [PyData.canLay0, this.2.1], by simp [PyData.depth]; exact this.2.2⟩
theorem okM_map {α : Type} {n : Nat} {xs : List α} {e : α → D} (h : ∀ x ∈ xs, okM n (e x)) : ∀ d ∈ xs.map e, okM n d := fun d hd => by
  obtain ⟨x, hx, rfl⟩ := List.mem_map.mp hd
  exact h x hx
theorem w_inM {α : Type} {n : Nat} {x : D} {xs : List α} {e : α → D} {Q : D → Prop} (hn : n ≤ 60) (hx : okM n x) (h : ∀ y ∈ xs, okM n (e y)) (q : Q (.bool (xs.any fun y => PyData.eqv (e y) x))) : Wp (gIn x (.list (xs.map e))) Q := by
  refine ⟨_, ?_, q⟩
  show (if (okE x && okE (.list (xs.map e))) = true then some ((xs.map e).any fun z => PyData.eqv z x) else none).map _ = _
  rw [hx.okE (by omega), (okM_lst (okM_map h)).okE (by omega), if_pos (show (true && true) = true from rfl), List.any_map]
  rfl
theorem w_inT {α : Type} {n : Nat} {x : D} {xs : List α} {e : α → D} {Q : D → Prop} (hn : n ≤ 60) (hx : okM n x) (h : ∀ y ∈ xs, okM n (e y)) (q : Q (.bool (xs.any fun y => PyData.eqv (e y) x))) : Wp (gIn x (.tuple (xs.map e))) Q := by
  refine ⟨_, ?_, q⟩
  show (if (okE x && okE (.tuple (xs.map e))) = true then some ((xs.map e).any fun z => PyData.eqv z x) else none).map _ = _
  rw [hx.okE (by omega), (okM_tup (okM_map h)).okE (by omega), if_pos (show (true && true) = true from rfl), List.any_map]
  rfl
end PD
set_option Elab.async false
set_option linter.all false
set_option maxRecDepth 100000
set_option maxHeartbeats 2000000
namespace PD
open PySem PySem.Spec PyProof.Rows L2 GxR GenX OwnK
section
variable {α β γ : Type} {f : α → D} {g : β → D} {h : γ → D} {xs : List α} {ys : List β} {zs : List γ} {Q : List D → Prop}
theorem enum_map : List.zipWith (fun (i : Nat) u => PyData.tuple [.int i, u]) (List.range (xs.map f).length) (xs.map f) = ((List.range xs.length).zip xs).map fun p => .tuple [.int (p.1 : Nat), f p.2] := by
  rw [List.length_map, ← List.map_id (List.range xs.length), List.zipWith_map, List.zip, List.map_zipWith, List.map_id]
  rfl
theorem wen {a : D} (h1 : gItems a = some (xs.map f)) (q : Q (((List.range xs.length).zip xs).map fun p => .tuple [.int (p.1 : Nat), f p.2])) : Wp (gEnum [a]) Q := by
  simp only [gEnum, h1, W_some, enum_map]
  exact q
end
def tup2Q (K : D → D → Prop) [Tg K] : D → Prop
  | .tuple [a, b] => K a b
  | _ => False
theorem tup2Q_eq {K : D → D → Prop} {a b : D} : tup2Q K (.tuple [a, b]) ↔ K a b := Iff.rfl
end PD
set_option Elab.async false
set_option linter.all false
set_option maxRecDepth 100000
set_option maxHeartbeats 2000000
namespace PD
open PySem PySem.Spec PyProof.Rows L2 GxR GenX OwnK
section
variable {ρ : Rho} {QS : Out → Prop} {Q : D → Prop}
theorem q_putT {i : Nat} {mk mv : M D} : Wp (mPutT i mk mv ρ) QS ↔ Wq (mv ρ) fun v ρ1 => ownQ (fun o => Wq (mk ρ1) fun k ρ2 => Wp (gPutT o k v) fun o' => QS (.nx (ρ2.set i (some (true, o'))))) (ρ1[i]?) := by
  unfold mPutT Wq
  cases mv ρ with
  | none => simp [W_none]
  | some v =>
    simp only [W_some]
    split
    · rename_i o e
      rw [e]
      simp only [ownQ]
      cases mk v.2 with
      | none => simp [W_none]
      | some k =>
        simp only [W_some]
        cases gPutT o k.1 v.1 <;> simp [W_some, W_none]
    · rename_i h
      unfold ownQ
      split
      · rename_i o e; exact absurd e (h o)
      · simp [W_none]
def eT (p : List Int × D) : D × D := (.tuple (p.1.map .int), p.2)
def tdOf : List (List Int × D) → D
  | [] => .dict []
  | p :: r => tdD ((p :: r).map eT)
def getL (fd : List (List Int × D)) (k : List Int) : Option D := (fd.find? fun p => decide (p.1 = k)).map (·.2)
def putL (fd : List (List Int × D)) (k : List Int) (d : D) : List (List Int × D) := if (getL fd k).isSome then fd.map (fun p => if p.1 = k then (p.1, d) else p) else fd ++ [(k, d)]
theorem tdE_of (fd : List (List Int × D)) : tdE (tdOf fd) = some (fd.map eT) := by cases fd <;> rfl
theorem dgetT_map (k : List Int) : ∀ fd : List (List Int × D), dgetT (fd.map eT) k = getL fd k
  | [] => rfl
  | p :: r => by
    rw [List.map_cons]
    unfold getL dgetT eT
    rw [keyT_ints, List.find?_cons]
    by_cases h : p.1 = k
    · simp [h]
    · simp only [Option.some.injEq, h, if_false, decide_false]
      exact dgetT_map k r
theorem tdD_of {l : List (List Int × D)} (h : l ≠ []) : tdD (l.map eT) = tdOf l := by
  cases l with
  | nil => exact absurd rfl h
  | cons p r => rfl
theorem putL_ne (fd : List (List Int × D)) (k : List Int) (d : D) : putL fd k d ≠ [] := by
  unfold putL
  split
  · rename_i h
    cases fd with
    | nil => simp [getL] at h
    | cons p r => simp
  · simp
theorem dputT_map (fd : List (List Int × D)) (k : List Int) (d : D) : dputT (fd.map eT) k d = (putL fd k d).map eT := by
  unfold dputT putL
  rw [dgetT_map]
  split
  · rw [List.map_map, List.map_map]
    refine List.map_congr_left fun p _ => ?_
    simp only [Function.comp, eT, keyT_ints, Option.some.injEq]
    by_cases h : p.1 = k <;> simp [h]
  · rw [List.map_append]; rfl
theorem putL_len (fd : List (List Int × D)) (k : List Int) (d : D) : (putL fd k d).length ≤ fd.length + 1 := by
  unfold putL
  split <;> simp
theorem putL_mem {fd : List (List Int × D)} {k : List Int} {d : D} {p : List Int × D} (h : p ∈ putL fd k d) : p ∈ fd ∨ (p.1 = k ∧ p.2 = d) := by
  unfold putL at h
  split at h
  · obtain ⟨q, hq, rfl⟩ := List.mem_map.mp h
    by_cases e : q.1 = k
    · rw [if_pos e]; exact .inr ⟨e, rfl⟩
    · rw [if_neg e]; exact .inl hq
  · rcases List.mem_append.mp h with h | h
    · exact .inl h
    · rw [List.mem_singleton.mp h]; exact .inr ⟨rfl, rfl⟩
theorem w_putT {fd : List (List Int × D)} {k : List Int} {d : D} (h : fd.length < 16777216) (q : Q (tdOf (putL fd k d))) : Wp (gPutT (tdOf fd) (.tuple (k.map .int)) d) Q := by
  refine ⟨_, ?_, q⟩
  unfold gPutT
  rw [keyT_ints, tdE_of]
  show (if (fd.map eT).length < sizeLine then some (tdD (dputT (fd.map eT) k d)) else none) = _
  rw [if_pos (by rw [List.length_map]; unfold sizeLine; omega), dputT_map, tdD_of (putL_ne fd k d)]
theorem keysT_map : ∀ fd : List (List Int × D), keysT (fd.map eT) = some (fd.map (·.1))
  | [] => rfl
  | p :: r => by
    rw [List.map_cons]
    unfold keysT eT
    rw [keyT_ints]
    have := keysT_map r
    unfold eT at this
    rw [this]; rfl
end
theorem okM_row (n : Nat) (r : List Int) : okM (n + 1) (.tuple (r.map .int)) := okM_tup (okM_map fun _ _ => okM_int n _)
theorem any_int {x : Int} {ns : List Int} : (ns.any fun y => PyData.eqv (.int y) (.int x)) = decide (x ∈ ns) := by
  rw [Bool.eq_iff_iff, List.any_eq_true, decide_eq_true_eq]
  constructor
  · rintro ⟨y, hy, e⟩
    simp only [PyData.eqv, beq_iff_eq] at e
    exact e ▸ hy
  · intro h
    exact ⟨x, h, by simp [PyData.eqv]⟩
theorem w_inI {x : Int} {ns : List Int} {Q : D → Prop} (q : Q (.bool (decide (x ∈ ns)))) : Wp (gIn (.int x) (.list (ns.map .int))) Q := by
  refine w_inM (n := 3) (by decide) (okM_int _ _) (fun _ _ => okM_int _ _) ?_
  rw [any_int]; exact q
theorem w_eqB {a b : Bool} {Q : D → Prop} (q : Q (.bool (a == b))) : Wp (gEq (.bool a) (.bool b)) Q := by
  cases a <;> cases b <;> exact ⟨_, if_pos (by decide), by simpa [PyData.eqv] using q⟩
end PD
set_option Elab.async false
set_option linter.all false
set_option maxRecDepth 100000
set_option maxHeartbeats 2000000
namespace PD
open PySem PySem.Spec PyProof.Rows L2 GxR GenX OwnK
section
variable {ρ : Rho}
theorem q_dcTo {mi : M (List D)} {g : D → Rho → Option Rho} {mt : M Bool} {mk mv : M D} {vs : List Nat} {K : D → Rho → Prop} : Wq (mDcT mi g mt mk mv vs ρ) K ↔ Wq (mi ρ) fun ds ρ1 => Wq (dcLT g mt mk mv vs ds [] (wipeR ρ1 vs)) fun s ρ2 => K (tdC s) (wipeR ρ2 vs) := by
  unfold mDcT Wq
  cases mi ρ with
  | none => simp [W_none]
  | some r =>
    simp only [W_some]
    cases dcLT g mt mk mv vs r.1 [] (wipeR r.2 vs) <;> simp [W_some, W_none]
end
theorem w_addLN {a b : List D} {Q : D → Prop} (h : a.length + b.length ≤ 16777216) (q : Q (.list (a ++ b))) : Wp (gAddN (.list a) (.list b)) Q := ⟨_, if_pos (by unfold sizeLine; omega), q⟩
end PD
set_option Elab.async false
set_option linter.all false
set_option maxRecDepth 100000
set_option maxHeartbeats 2000000
namespace PD
open PySem PySem.Spec PyProof.Rows L2 GxR GenX OwnK
def bagQ (K : Int → Int → List Int → D → Prop) [Tg K] (d : D) : Prop := match unbag d with
  | some (a, b, gs, dc) => K a b gs dc
  | none => False
theorem unbag_bagD {a b : Int} {gs : List Int} {dc : D} : unbag (bagD a b gs dc) = some (a, b, gs, dc) := by
  show (allInts (gs.map .int)).map _ = _
  rw [allInts_map]; rfl
theorem bagQ_eq {K : Int → Int → List Int → D → Prop} {a b : Int} {gs : List Int} {dc : D} : bagQ K (bagD a b gs dc) ↔ K a b gs dc := by
  unfold bagQ; rw [unbag_bagD]
theorem bagQ_some {K : Int → Int → List Int → D → Prop} {d : D} {a b : Int} {gs : List Int} {dc : D} (h : unbag d = some (a, b, gs, dc)) : bagQ K d ↔ K a b gs dc := by
  unfold bagQ; rw [h]
theorem bagQ_none {K : Int → Int → List Int → D → Prop} {d : D} (h : unbag d = none) : bagQ K d ↔ False := by
  unfold bagQ; rw [h]
def bagK : Nat → Int → Int → D → Option D
  | 0, a, _, _ => some (.int a)
  | 1, _, b, _ => some (.int b)
  | 3, _, _, dc => some dc
  | _, _, _, _ => none
def bagP : Nat → Int → Int → Int → List Int → D → Option D
  | 0, v, _, b, gs, dc => some (bagD v b gs dc)
  | 1, v, a, _, gs, dc => some (bagD a v gs dc)
  | _, _, _, _, _, _ => none
theorem bagK_0 {a b : Int} {dc : D} : bagK 0 a b dc = some (.int a) := rfl
theorem bagK_1 {a b : Int} {dc : D} : bagK 1 a b dc = some (.int b) := rfl
theorem bagK_3 {a b : Int} {dc : D} : bagK 3 a b dc = some dc := rfl
theorem bagP_0 {v a b : Int} {gs : List Int} {dc : D} : bagP 0 v a b gs dc = some (bagD v b gs dc) := rfl
theorem bagP_1 {v a b : Int} {gs : List Int} {dc : D} : bagP 1 v a b gs dc = some (bagD a v gs dc) := rfl
def listQ (K : List D → Prop) [Tg K] : D → Prop
  | .list z => K z
  | _ => False
theorem listQ_eq {K : List D → Prop} {z : List D} : listQ K (.list z) ↔ K z := Iff.rfl
section
variable {K : D → Rho → Prop} {KL : List D → Rho → Prop} {QS : Out → Prop} {ρ : Rho}
theorem own_cases {K : D → Prop} {o : Option (Option (Bool × D))} : ownQ K o ↔ ∃ d, o = some (some (true, d)) ∧ K d := by
  unfold ownQ
  split
  · exact ⟨fun h => ⟨_, rfl, h⟩, fun ⟨d, e, h⟩ => by cases e; exact h⟩
  · rename_i h
    exact ⟨fun z => z.elim, fun ⟨d, e, _⟩ => h d e⟩
theorem q_bag {i k : Nat} : Wq (mBag i k ρ) K ↔ ownQ (fun d => bagQ (fun a b _ dc => Wp (bagK k a b dc) fun x => K x ρ) d) (ρ[i]?) := by
  unfold mBag
  split
  · rename_i d e
    rw [e, ownQ_true]
    split
    · rename_i a b gs dc e2
      rw [bagQ_some e2]
      unfold bagK
      split <;> (unfold Wq; simp [W_some, W_none])
    · rename_i e2
      rw [bagQ_none e2]
      exact q_none
  · rename_i h
    refine q_none.trans ?_
    rw [own_cases]
    exact ⟨fun z => z.elim, fun ⟨d, e, _⟩ => h d e⟩
theorem q_bagLen {i : Nat} : Wq (mBagLen i ρ) K ↔ ownQ (fun d => bagQ (fun _ _ gs _ => K (.int gs.length) ρ) d) (ρ[i]?) := by
  unfold mBagLen
  split
  · rename_i d e
    rw [e, ownQ_true]
    split
    · rename_i a b gs dc e2
      rw [bagQ_some e2]
      exact q_some
    · rename_i e2
      rw [bagQ_none e2]
      exact q_none
  · rename_i h
    refine q_none.trans ?_
    rw [own_cases]
    exact ⟨fun z => z.elim, fun ⟨d, e, _⟩ => h d e⟩
theorem q_bagPop {i : Nat} : Wq (mBagPop i ρ) K ↔ ownQ (fun d => bagQ (fun a b gs dc => Wp gs.getLast? fun g => K (.int g) (ρ.set i (some (true, bagD a b gs.dropLast dc)))) d) (ρ[i]?) := by
  unfold mBagPop
  split
  · rename_i d e
    rw [e, ownQ_true]
    split
    · rename_i a b gs dc e2
      rw [bagQ_some e2]
      cases gs.getLast? with
      | none => (unfold Wq; simp [W_none])
      | some g => (unfold Wq; simp [W_some])
    · rename_i e2
      rw [bagQ_none e2]
      exact q_none
  · rename_i h
    refine q_none.trans ?_
    rw [own_cases]
    exact ⟨fun z => z.elim, fun ⟨d, e, _⟩ => h d e⟩
theorem q_bagPut {i k : Nat} {mv : M D} : Wp (mBagPut i k mv ρ) QS ↔ Wq (mv ρ) fun v ρ1 => intQ (fun v => ownQ (fun d => bagQ (fun a b gs dc => Wp (bagP k v a b gs dc) fun d' => QS (.nx (ρ1.set i (some (true, d'))))) d) (ρ1[i]?)) v := by
  unfold mBagPut Wq
  cases mv ρ with
  | none => simp [W_none]
  | some r =>
    obtain ⟨v, ρ1⟩ := r
    simp only [W_some]
    cases v with
    | int v =>
      simp only [intQ_int]
      split
      · rename_i d e
        rw [e, ownQ_true]
        split
        · rename_i a b gs dc e2
          rw [bagQ_some e2]
          unfold bagP
          split <;> simp [W_some, W_none]
        · rename_i e2
          rw [bagQ_none e2]
          exact W_none
      · rename_i h
        refine W_none.trans ?_
        rw [own_cases]
        exact ⟨fun z => z.elim, fun ⟨d, e, _⟩ => h d e⟩
    | _ => simp [W_none, intQ]
theorem q_ext {i : Nat} {m : M D} : Wp (mExt i m ρ) QS ↔ ownQ (fun o => Wq (m ρ) fun d ρ1 => Wp (gExt o d) fun o' => QS (.nx (ρ1.set i (some (true, o'))))) (ρ[i]?) := by
  unfold mExt Wq
  split
  · rename_i o e
    rw [e, ownQ_true]
    cases m ρ with
    | none => simp [W_none]
    | some r =>
      simp only [W_some]
      cases gExt o r.1 <;> simp [W_some, W_none]
  · rename_i h
    refine W_none.trans ?_
    rw [own_cases]
    exact ⟨fun z => z.elim, fun ⟨d, e, _⟩ => h d e⟩
theorem q_mut0 {i : Nat} {g : D → Option (D × D)} : Wq (mMut0 i g ρ) K ↔ ownQ (fun o => Wq (g o) fun r o' => K r (ρ.set i (some (true, o')))) (ρ[i]?) := by
  unfold mMut0 Wq
  split
  · rename_i o e
    rw [e, ownQ_true]
    cases g o <;> simp [W_some, W_none]
  · rename_i h
    refine W_none.trans ?_
    rw [own_cases]
    exact ⟨fun z => z.elim, fun ⟨d, e, _⟩ => h d e⟩
theorem q_star {m : M D} {ms : M (List D)} : Wq (mStar m ms ρ) KL ↔ Wq (m ρ) fun d ρ1 => Wp (gSeq d) fun ds => Wq (ms ρ1) fun es ρ2 => KL (ds ++ es) ρ2 := by
  unfold mStar Wq
  cases m ρ with
  | none => simp [W_none]
  | some r =>
    simp only [W_some]
    cases gSeq r.1 with
    | none => simp [W_none]
    | some ds =>
      simp only [W_some]
      cases ms r.2 <;> simp [W_some, W_none]
theorem q_runB {n : Nat} {m : Rho → Option (D × Rho)} {ds : List D} {K : D → List D → Prop} : Wq (runB n m ds) K ↔ Wq (m (startR [] n ds)) fun d ρ => K d (backR ρ ds.length) := by
  unfold runB Wq
  exact W_map
theorem q_seqB {m1 : MS} {m2 : Rho → Option (D × Rho)} : Wq (mSeqB m1 m2 ρ) K ↔ Wp (m1 ρ) (seqQ (fun ρ1 => Wq (m2 ρ1) K) fun _ => False) := by
  unfold mSeqB Wq
  cases m1 ρ with
  | none => simp [W_none]
  | some o => cases o <;> simp [W_some, W_none, seqQ]
theorem q_retB {i : Nat} {m3 : M D} : Wq (mRetB i m3 ρ) K ↔ ownQ (fun o => listQ (fun gs => Wp (allInts gs) fun ns => Wq (m3 ρ) fun dc ρ1 => K (bagD 0 0 ns dc) ρ1) o) (ρ[i]?) := by
  unfold mRetB Wq
  split
  · rename_i gs e
    rw [e, ownQ_true, listQ_eq]
    cases allInts gs with
    | none => simp [W_none]
    | some ns =>
      simp only [W_some]
      cases m3 ρ <;> simp [W_some, W_none]
  · rename_i h
    refine W_none.trans ?_
    rw [own_cases]
    refine ⟨fun z => z.elim, fun ⟨d, e, h2⟩ => ?_⟩
    cases d with
    | list gs => exact h gs e
    | _ => exact h2
end
theorem gRevL_l {ds : List D} : gRevL (.list ds) = some (.list ds.reverse) := rfl
theorem gRev_l {ds : List D} : gRev (.list ds) = some (.none, .list ds.reverse) := rfl
theorem gSeq_l {ds : List D} : gSeq (.list ds) = some ds := rfl
theorem gSeq_t {ds : List D} : gSeq (.tuple ds) = some ds := rfl
section
variable {Q : D → Prop}
theorem w_ext {a b : List D} (h : a.length + b.length ≤ 16777216) (q : Q (.list (a ++ b))) : Wp (gExt (.list a) (.list b)) Q := ⟨_, if_pos (by unfold sizeLine; omega), q⟩
theorem w_mulI {a b : Int} (h : (-18446744073709551616 < a ∧ a < 18446744073709551616) ∨ (-18446744073709551616 < b ∧ b < 18446744073709551616)) (q : Q (.int (a * b))) : Wp (gMulI (.int a) (.int b)) Q := ⟨_, if_pos h, q⟩
theorem w_sorted2 {ns : List Int} (q : Q (.list ((sortI ns).map .int))) : Wp (gSorted2 [.list (ns.map .int)]) Q := by
  have e : gSorted [.list (ns.map .int)] = some (.list ((sortI ns).map .int)) := by
    show (allInts (ns.map .int)).map _ = _
    rw [allInts_map]; rfl
  refine ⟨_, ?_, q⟩
  unfold gSorted2
  rw [e]
theorem putBack_n2 {ds : List D} {ρ : Rho} : putBack [none, none] ds ρ = ρ := by
  match ds with
  | [] => rfl
  | _ :: ds => exact putBack_none
theorem putBack_n3 {ds : List D} {ρ : Rho} : putBack [none, none, none] ds ρ = ρ := by
  match ds with
  | [] => rfl
  | _ :: ds => exact putBack_n2
theorem isBg_td (fd : List (List Int × D)) : isBg (tdOf fd) = false := by cases fd <;> rfl
theorem w_sum2L {ns : List Int} (q : Q (.int ns.sum)) : Wp (gSum2 [.list (ns.map .int)]) Q := by
  refine ⟨_, ?_, q⟩
  show (allInts (ns.map .int)).map _ = _
  rw [allInts_map]; rfl
theorem w_sum2T {ns : List Int} (q : Q (.int ns.sum)) : Wp (gSum2 [.tuple (ns.map .int)]) Q := by
  refine ⟨_, ?_, q⟩
  show (allInts (ns.map .int)).map _ = _
  rw [allInts_map]; rfl
theorem w_last {gs : List Int} {Q : Int → Prop} (h : 0 < gs.length) (q : ∀ g, g ∈ gs → Q g) : Wp gs.getLast? Q := by
  have hn : gs ≠ [] := fun e => by rw [e] at h; exact absurd h (by decide)
  exact ⟨gs.getLast hn, List.getLast?_eq_some_getLast hn, q _ (List.getLast_mem hn)⟩
theorem gListOf2_l {ds : List D} : gListOf2 [.list ds] = some (.list ds) := rfl
theorem gListOf2_t {ds : List D} : gListOf2 [.tuple ds] = some (.list ds) := rfl
end
theorem bcs_mk {b : Bool} {p q : Prop} (h1 : b = true → p) (h2 : b = false → q) : bcs b p q := ⟨h1, h2⟩
theorem seq_cut {m1 m2 : MS} {ρ : Rho} {QS : Out → Prop} (J : Rho → Prop) (h1 : Wp (m1 ρ) (seqQ J fun _ => False)) (h2 : ∀ ρ', J ρ' → Wp (m2 ρ') QS) : Wp (mSeq m1 m2 ρ) QS := W_seq.mpr (h1.mono fun o ho => by
  cases o with
  | nx ρ1 => exact h2 ρ1 ho
  | _ => exact ho.elim)
def chkIn (a : Str) (ds : List D) : Option Bool := match strsOf ds with
  | some zs => if PyData.strOk a = true ∧ ∀ z ∈ zs, PyData.strOk z = true then some (decide (a ∈ zs)) else none
  | none => none
theorem chkIn_some {a : Str} {ds : List D} {r : Bool} (h : chkIn a ds = some r) : ∃ zs : List Str, ds = zs.map .str ∧ PyData.strOk a = true ∧ (∀ z ∈ zs, PyData.strOk z = true) ∧ r = decide (a ∈ zs) := by
  have st : ∀ {ds : List D} {zs : List Str}, strsOf ds = some zs → ds = zs.map .str := by
    intro ds
    induction ds with
    | nil => intro zs h; cases h; rfl
    | cons d t ih =>
      intro zs h
      cases d with
      | str z =>
        have h : (strsOf t).map (z :: ·) = some zs := h
        cases q : strsOf t with
        | none => rw [q] at h; cases h
        | some l => rw [q] at h; cases h; rw [List.map_cons, ih q]
      | _ => cases h
  unfold chkIn at h
  split at h
  · rename_i zs e
    split at h
    · rename_i c
      cases h
      exact ⟨zs, st e, c.1, c.2, rfl⟩
    · cases h
  · cases h
theorem w_inLc {a : Str} {ds : List D} {Q : D → Prop} (r : Bool) (h : chkIn a ds = some r) (q : Q (.bool r)) : Wp (gIn (.str a) (.list ds)) Q := by
  obtain ⟨zs, rfl, h1, h2, rfl⟩ := chkIn_some h
  exact w_inS h1 h2 q
theorem w_inTc {a : Str} {ds : List D} {Q : D → Prop} (r : Bool) (h : chkIn a ds = some r) (q : Q (.bool r)) : Wp (gIn (.str a) (.tuple ds)) Q := by
  obtain ⟨zs, rfl, h1, h2, rfl⟩ := chkIn_some h
  refine w_inT (n := 1) (by decide) (okM_str 1 h1) (fun y hy => okM_str 1 (h2 y hy)) ?_
  have := any_str (x := a) (zs := zs)
  rw [List.any_map] at this
  exact this ▸ q
theorem perm_erase {α : Type} {ds left found : List α} {i : Nat} (hp : (found ++ left).Perm ds) {d : α} (hd : left[i]? = some d) : (found ++ [d] ++ left.eraseIdx i).Perm ds := by
  obtain ⟨hi, hd⟩ := List.getElem?_eq_some_iff.mp hd
  refine List.Perm.trans ?_ hp
  rw [List.append_assoc, List.eraseIdx_eq_take_drop_succ]
  refine List.Perm.append_left _ ?_
  have : left = left.take i ++ (d :: left.drop (i + 1)) := by
    rw [← hd, ← List.drop_eq_getElem_cons hi, List.take_append_drop]
  rw [List.singleton_append]
  conv => rhs; rw [this]
  exact (List.perm_middle).symm
theorem w_popM {α : Type} {xs : List α} {e : α → D} {i : Int} {QD : D → D → Prop} (h0 : 0 ≤ i) (h1 : i < xs.length) (h2 : xs.length ≤ 16777216) (q : ∀ x, xs[i.toNat]? = some x → QD (e x) (.list ((xs.eraseIdx i.toNat).map e))) : Wq (gPopAt (.list (xs.map e)) (.int i)) QD := by
  have hi : i.toNat < xs.length := by omega
  refine ⟨(e xs[i.toNat], .list ((xs.eraseIdx i.toNat).map e)), ?_, q _ (List.getElem?_eq_getElem hi)⟩
  show (if -(2 ^ 63) ≤ i ∧ i < 2 ^ 63 then (match seqIndex? i (xs.map e).length with
    | some k => (match (xs.map e)[k]? with
      | some d => some (d, PyData.list ((xs.map e).eraseIdx k))
      | none => none)
    | none => none) else none) = _
  have hs : seqIndex? i (xs.map e).length = some i.toNat := by
    unfold seqIndex?
    rw [List.length_map]
    simp only [show ¬ i < 0 by omega, if_false]
    first | rw [if_pos (by omega)] | simp; omega
  rw [if_pos (by omega), hs]
  simp [List.getElem?_eq_getElem hi, List.eraseIdx_eq_take_drop_succ]
end PD
set_option Elab.async false
set_option linter.all false
set_option maxRecDepth 100000
set_option maxHeartbeats 2000000
namespace PD
open PySem PySem.Spec PyProof.Rows L2 GxR GenX OwnK
section
variable {α β : Type} [DecidableEq α]
def getM (l : List (α × β)) (k : α) : Option β := (l.find? fun p => decide (p.1 = k)).map (·.2)
def putM (l : List (α × β)) (k : α) (v : β) : List (α × β) := if (getM l k).isSome then l.map (fun p => if p.1 = k then (p.1, v) else p) else l ++ [(k, v)]
theorem getM_nil (k : α) : getM ([] : List (α × β)) k = none := rfl
theorem getM_cons (p : α × β) (r : List (α × β)) (k : α) : getM (p :: r) k = if p.1 = k then some p.2 else getM r k := by
  unfold getM
  rw [List.find?_cons]
  by_cases h : p.1 = k <;> simp [h]
theorem getM_mem {l : List (α × β)} {k : α} {v : β} (h : getM l k = some v) : (k, v) ∈ l := by
  induction l with
  | nil => cases h
  | cons p r ih =>
    rw [getM_cons] at h
    split at h
    · rename_i e
      cases h
      subst e
      exact List.mem_cons_self
    · exact List.mem_cons_of_mem _ (ih h)
theorem getM_isSome {l : List (α × β)} {k : α} : (getM l k).isSome = true ↔ k ∈ l.map (·.1) := by
  induction l with
  | nil => simp [getM_nil]
  | cons p r ih =>
    rw [getM_cons]
    by_cases h : p.1 = k
    · simp [h]
    · have h2 : ¬ k = p.1 := fun e => h e.symm
      simp [h, h2, ih]
theorem getM_some {l : List (α × β)} {k : α} (h : k ∈ l.map (·.1)) : ∃ v, getM l k = some v := Option.isSome_iff_exists.mp (getM_isSome.mpr h)
theorem getM_nd {l : List (α × β)} (hn : (l.map (·.1)).Nodup) {p : α × β} (hp : p ∈ l) : getM l p.1 = some p.2 := by
  induction l with
  | nil => cases hp
  | cons q r ih =>
    rw [List.map_cons, List.nodup_cons] at hn
    rw [getM_cons]
    rcases List.mem_cons.mp hp with e | hp
    · subst e; rw [if_pos rfl]
    · rw [if_neg (fun e => hn.1 (List.mem_map.mpr ⟨p, hp, e.symm⟩))]
      exact ih hn.2 hp
theorem putM_keys (l : List (α × β)) (k : α) (v : β) : (putM l k v).map (·.1) = if k ∈ l.map (·.1) then l.map (·.1) else l.map (·.1) ++ [k] := by
  unfold putM
  by_cases h : k ∈ l.map (·.1)
  · rw [if_pos (getM_isSome.mpr h), if_pos h, List.map_map]
    refine List.map_congr_left fun p _ => ?_
    simp only [Function.comp]
    split <;> rfl
  · rw [if_neg (fun z => h (getM_isSome.mp z)), if_neg h, List.map_append]; rfl
theorem putM_nd {l : List (α × β)} (h : (l.map (·.1)).Nodup) (k : α) (v : β) : ((putM l k v).map (·.1)).Nodup := by
  rw [putM_keys]
  split
  · exact h
  · rename_i hk
    exact List.nodup_append.mpr ⟨h, List.nodup_cons.mpr ⟨by simp, .nil⟩, fun x hx y hy e => hk (by rw [List.mem_singleton.mp hy] at e; rw [← e]; exact hx)⟩
theorem putM_len (l : List (α × β)) (k : α) (v : β) : (putM l k v).length ≤ l.length + 1 := by
  unfold putM
  split <;> simp
theorem getM_app (l m : List (α × β)) (x : α) : getM (l ++ m) x = (getM l x).or (getM m x) := by
  induction l with
  | nil => rfl
  | cons p r ih =>
    rw [List.cons_append, getM_cons, getM_cons, ih]
    split <;> rfl
def kvM (ek : α → D) (ev : β → D) (l : List (α × β)) : List (D × D) := l.map fun p => (ek p.1, ev p.2)
theorem kvM_len (ek : α → D) (ev : β → D) (l : List (α × β)) : (kvM ek ev l).length = l.length := List.length_map ..
theorem kvM_keys (ek : α → D) (ev : β → D) (l : List (α × β)) : (kvM ek ev l).map (·.1) = (l.map (·.1)).map ek := by unfold kvM; rw [List.map_map, List.map_map]; rfl
theorem kvM_snoc (ek : α → D) (ev : β → D) (l : List (α × β)) (k : α) (v : β) : kvM ek ev l ++ [(ek k, ev v)] = kvM ek ev (l ++ [(k, v)]) := by unfold kvM; rw [List.map_append]; rfl
end
section
variable {β : Type} {ev : β → D}
theorem dget_MI (l : List (Int × β)) (k : Int) : dget (kvM .int ev l) (.inl k) = (getM l k).map ev := by
  induction l with
  | nil => rfl
  | cons p r ih =>
    show dget ((PyData.int p.1, ev p.2) :: kvM .int ev r) (.inl k) = _
    unfold dget
    rw [keyD_i, getM_cons, ih]
    by_cases h : p.1 = k <;> simp [h]
theorem dget_MS (l : List (Str × β)) (k : Str) : dget (kvM .str ev l) (.inr k) = (getM l k).map ev := by
  induction l with
  | nil => rfl
  | cons p r ih =>
    show dget ((PyData.str p.1, ev p.2) :: kvM .str ev r) (.inr k) = _
    unfold dget
    rw [keyD_s, getM_cons, ih]
    by_cases h : p.1 = k <;> simp [h]
theorem dput_MI (l : List (Int × β)) (k : Int) (v : β) : gPut.dput (kvM .int ev l) (.inl k) (ev v) = kvM .int ev (putM l k v) := by
  unfold gPut.dput putM
  rw [dget_MI, Option.isSome_map]
  split
  · unfold kvM
    rw [List.map_map, List.map_map]
    refine List.map_congr_left fun p _ => ?_
    simp only [Function.comp, keyD_i]
    by_cases h : p.1 = k <;> simp [h]
  · exact kvM_snoc _ _ _ _ _
theorem dput_MS (l : List (Str × β)) (k : Str) (v : β) : gPut.dput (kvM .str ev l) (.inr k) (ev v) = kvM .str ev (putM l k v) := by
  unfold gPut.dput putM
  rw [dget_MS, Option.isSome_map]
  split
  · unfold kvM
    rw [List.map_map, List.map_map]
    refine List.map_congr_left fun p _ => ?_
    simp only [Function.comp, keyD_s]
    by_cases h : p.1 = k <;> simp [h]
  · exact kvM_snoc _ _ _ _ _
theorem isT_MI (l : List (Int × β)) : isT (kvM .int ev l) = false := isT_map (fun _ => rfl) l
theorem isT_MS (l : List (Str × β)) : isT (kvM .str ev l) = false := isT_map (fun _ => rfl) l
theorem w_putMI {l : List (Int × β)} {k : Int} {v : β} {Q : D → Prop} (h : l.length < 16777216) (q : Q (.dict (kvM .int ev (putM l k v)))) : Wp (gPut (.dict (kvM .int ev l)) (.int k) (ev v)) Q :=
  ⟨_, gPutD (by rw [kvM_len]; exact h) (isT_MI l), by rw [dput_MI]; exact q⟩
theorem w_putMS {l : List (Str × β)} {k : Str} {v : β} {Q : D → Prop} (h : l.length < 16777216) (q : Q (.dict (kvM .str ev (putM l k v)))) : Wp (gPut (.dict (kvM .str ev l)) (.str k) (ev v)) Q :=
  ⟨_, gPutDs (by rw [kvM_len]; exact h) (isT_MS l), by rw [dput_MS]; exact q⟩
theorem w_ixMI {l : List (Int × β)} {k : Int} {v : β} {Q : D → Prop} (h : getM l k = some v) (q : Q (ev v)) : Wp (gIx (.dict (kvM .int ev l)) (.int k)) Q :=
  ⟨_, by rw [gIx_di, dget_MI, h]; rfl, q⟩
theorem w_ixMS {l : List (Str × β)} {k : Str} {v : β} {Q : D → Prop} (h : getM l k = some v) (q : Q (ev v)) : Wp (gIx (.dict (kvM .str ev l)) (.str k)) Q :=
  ⟨_, by rw [gIx_ds, dget_MS, h]; rfl, q⟩
def putAllM {α β : Type} [DecidableEq α] (ps : List (α × β)) (l : List (α × β)) : List (α × β) := ps.foldl (fun l p => putM l p.1 p.2) l
theorem putAllM_snoc {α β : Type} [DecidableEq α] (ps : List (α × β)) (p : α × β) (l : List (α × β)) : putAllM (ps ++ [p]) l = putM (putAllM ps l) p.1 p.2 := by unfold putAllM; rw [List.foldl_append]; rfl
theorem putAllM_nd {α β : Type} [DecidableEq α] : ∀ (ps l : List (α × β)), ((l ++ ps).map (·.1)).Nodup → putAllM ps l = l ++ ps
  | [], l, _ => by rw [List.append_nil]; rfl
  | p :: r, l, h => by
    have hp : p.1 ∉ l.map (·.1) := fun hm => by
      rw [List.map_append, List.nodup_append] at h
      exact h.2.2 p.1 hm p.1 (by simp) rfl
    have e : putM l p.1 p.2 = l ++ [p] := by
      unfold putM
      rw [if_neg (fun z => hp (getM_isSome.mp z))]
    show putAllM r (putM l p.1 p.2) = _
    rw [e, putAllM_nd r (l ++ [p]) (by rw [List.append_assoc]; exact h), List.append_assoc]
    rfl
section
variable {ρ : Rho} {g : D → Rho → Option Rho} {mb : MS} {mt : M Bool} {mk mv : M D} {vs : List Nat}
theorem q_dcMS {α : Type} {K : List (D × D) → Rho → Prop} (xs : List α) (e : α → D) (J : Rho → Prop) (p : α → Str × β) (ev : β → D) {ρ : Rho} (hz : xs.length < 16777216) (h0 : J ρ)
    (hs : ∀ x ∈ xs, ∀ ρ, J ρ → Wp (g (e x) ρ) fun ρ1 => Wq (mk ρ1) fun kd ρ3 => Wq (mv ρ3) fun y ρ4 => kd = .str (p x).1 ∧ y = ev (p x).2 ∧ J (wipeR ρ4 vs))
    (hq : ∀ ρ, J ρ → K (kvM .str ev (putAllM (xs.map p) [])) ρ) : Wq (dcL g mYes mk mv vs (xs.map e) [] ρ) K := by
  refine q_dcK (fun k acc ρ => acc = kvM .str ev (putAllM ((xs.take k).map p) []) ∧ J ρ) (by simpa using hz) ⟨rfl, h0⟩ (fun k d acc ρ q i => ?_) (fun acc ρ hl i => ?_)
  · rw [List.getElem?_map] at q
    cases hx : xs[k]? with
    | none => rw [hx] at q; cases q
    | some x =>
      rw [hx] at q
      cases q
      obtain ⟨hk, hx'⟩ := List.getElem?_eq_some_iff.mp hx
      refine (hs x (List.mem_of_getElem? hx) ρ i.2).mono fun ρ1 h => q_some.mpr (bcs_true.mpr (h.mono fun kd ρ3 h => h.mono fun y ρ4 ⟨h1, h2, h3⟩ => ?_))
      rw [h1, keyD_s]
      refine W_some.mpr ⟨?_, h3⟩
      rw [h2, i.1, dput_MS, show xs.take (k + 1) = xs.take k ++ [x] by rw [← hx', List.take_append_getElem hk], List.map_append]
      exact congrArg _ (putAllM_snoc _ _ _).symm
  · have h := i.1
    rw [List.length_map, List.take_length] at h
    rw [h]
    exact hq ρ i.2
end
end
end PD
set_option Elab.async false
set_option linter.all false
set_option maxRecDepth 100000
set_option maxHeartbeats 2000000
namespace PD
open PySem PySem.Spec PyProof.Rows L2 GxR GenX OwnK
section
variable {b : Bool} {i : Int} {z : Str} {ds : List D}
theorem isi_b_n : gIsi "bool" .none = some (.bool false) := by show (if _ then _ else _) = _; rfl
theorem isi_b_b : gIsi "bool" (.bool b) = some (.bool true) := by show (if _ then _ else _) = _; rfl
theorem isi_b_i : gIsi "bool" (.int i) = some (.bool false) := by show (if _ then _ else _) = _; rfl
theorem isi_b_s : gIsi "bool" (.str z) = some (.bool false) := by show (if _ then _ else _) = _; rfl
theorem isi_b_t : gIsi "bool" (.tuple ds) = some (.bool false) := by show (if _ then _ else _) = _; rfl
theorem isi_b_l : gIsi "bool" (.list ds) = some (.bool false) := by show (if _ then _ else _) = _; rfl
theorem isi_i_n : gIsi "int" .none = some (.bool false) := by show (if _ then _ else _) = _; rfl
theorem isi_i_b : gIsi "int" (.bool b) = some (.bool true) := by show (if _ then _ else _) = _; rfl
theorem isi_i_i : gIsi "int" (.int i) = some (.bool true) := by show (if _ then _ else _) = _; rfl
theorem isi_i_s : gIsi "int" (.str z) = some (.bool false) := by show (if _ then _ else _) = _; rfl
theorem isi_i_t : gIsi "int" (.tuple ds) = some (.bool false) := by show (if _ then _ else _) = _; rfl
theorem isi_i_l : gIsi "int" (.list ds) = some (.bool false) := by show (if _ then _ else _) = _; rfl
theorem isi_s_n : gIsi "str" .none = some (.bool false) := by show (if _ then _ else _) = _; rfl
theorem isi_s_b : gIsi "str" (.bool b) = some (.bool false) := by show (if _ then _ else _) = _; rfl
theorem isi_s_i : gIsi "str" (.int i) = some (.bool false) := by show (if _ then _ else _) = _; rfl
theorem isi_s_s : gIsi "str" (.str z) = some (.bool true) := by show (if _ then _ else _) = _; rfl
theorem isi_s_t : gIsi "str" (.tuple ds) = some (.bool false) := by show (if _ then _ else _) = _; rfl
theorem isi_s_l : gIsi "str" (.list ds) = some (.bool false) := by show (if _ then _ else _) = _; rfl
theorem isi_t_n : gIsi "tuple" .none = some (.bool false) := by show (if _ then _ else _) = _; rfl
theorem isi_t_b : gIsi "tuple" (.bool b) = some (.bool false) := by show (if _ then _ else _) = _; rfl
theorem isi_t_i : gIsi "tuple" (.int i) = some (.bool false) := by show (if _ then _ else _) = _; rfl
theorem isi_t_s : gIsi "tuple" (.str z) = some (.bool false) := by show (if _ then _ else _) = _; rfl
theorem isi_t_t : gIsi "tuple" (.tuple ds) = some (.bool true) := by show (if _ then _ else _) = _; rfl
theorem isi_t_l : gIsi "tuple" (.list ds) = some (.bool false) := by show (if _ then _ else _) = _; rfl
theorem isN_n : isN .none = true := rfl
theorem isN_b : isN (.bool b) = false := rfl
theorem isN_i : isN (.int i) = false := rfl
theorem isN_s : isN (.str z) = false := rfl
theorem isN_t : isN (.tuple ds) = false := rfl
theorem isN_l : isN (.list ds) = false := rfl
end
end PD
set_option Elab.async false
set_option linter.all false
set_option maxRecDepth 100000
set_option maxHeartbeats 2000000
namespace PD
open PySem PySem.Spec PyProof.Rows L2 GxR GenX OwnK
section
variable {ρ : Rho} {KL : List D → Rho → Prop} {Q : D → Prop}
theorem q_rev {m : M D} : Wq (mRev m ρ) KL ↔ Wq (m ρ) fun d ρ1 => Wp (gItems d) fun ds => KL ds.reverse ρ1 := by
  unfold mRev Wq
  cases m ρ with
  | none => simp [W_none]
  | some r =>
    simp only [W_some]
    cases gItems r.1 <;> simp [W_some, W_none]
theorem w_lt2T {ns ms : List Int} (q : Q (.bool (HT.lexLt ns ms))) : Wp (gLt2 (.tuple (ns.map .int)) (.tuple (ms.map .int))) Q := by
  refine ⟨_, ?_, q⟩
  show (match allInts (ns.map .int), allInts (ms.map .int) with | some ns, some ms => some (PyData.bool (HT.lexLt ns ms)) | _, _ => none) = _
  rw [allInts_map, allInts_map]
theorem gLt2_ii (a b : Int) : gLt2 (.int a) (.int b) = some (.bool (decide (a < b))) := rfl
theorem w_neB {a b : Bool} (q : Q (.bool (a != b))) : Wp (gNe (.bool a) (.bool b)) Q := by
  cases a <;> cases b <;> exact ⟨_, if_pos (by decide), by simpa [PyData.eqv] using q⟩
theorem w_neNilI {ns : List Int} (q : Q (.bool (!ns.isEmpty))) : Wp (gNe (.list (ns.map .int)) (.list [])) Q := by
  refine ⟨_, if_pos ?_, ?_⟩
  · rw [(okM_lst (okM_map (xs := ns) fun _ _ => okM_int 0 _)).okE (by decide), show okE (.list []) = true by decide]; rfl
  · have : PyData.eqv (.list (ns.map .int)) (.list []) = ns.isEmpty := by
      cases ns <;> simp [PyData.eqv, PyData.eqvAll]
    rw [this]; exact q
end
end PD
set_option Elab.async false
set_option linter.all false
set_option maxRecDepth 100000
set_option maxHeartbeats 2000000
namespace PD
open PySem PySem.Spec PyProof.Rows L2 GxR GenX OwnK
variable {Q : D → Prop}
theorem gSorted2_tup {ds : List D} (h : ∀ d ∈ ds, tupNe d = true) (hne : ds ≠ []) : gSorted2 [.list ds] = none := by
  cases ds with
  | nil => exact absurd rfl hne
  | cons d r =>
    obtain ⟨x, l, rfl⟩ := tupNe_of (h d List.mem_cons_self)
    rfl
end PD
set_option Elab.async false
set_option linter.all false
set_option maxRecDepth 100000
set_option maxHeartbeats 2000000
namespace PD
open PySem PySem.Spec PyProof.Rows L2 GxR GenX OwnK
def tdQ (K : List (D × D) → Prop) [Tg K] (d : D) : Prop := match tdE d with
  | some es => K es
  | none => False
section
variable {K : D → Rho → Prop} {KL : List D → Rho → Prop} {ρ : Rho} {Q : D → Prop}
theorem q_items2 {m : M D} : Wq (mItems2 m ρ) KL ↔ Wq (m ρ) fun d ρ1 => Wp (gItems2 d) fun ds => KL ds ρ1 := by
  unfold mItems2 Wq
  cases m ρ with
  | none => simp [W_none]
  | some r =>
    simp only [W_some]
    cases gItems2 r.1 <;> simp [W_some, W_none]
theorem q_pairs {m : M D} : Wq (mPairs m ρ) KL ↔ Wq (m ρ) fun d ρ1 => Wp (gPairs d) fun ds => KL ds ρ1 := by
  unfold mPairs Wq
  cases m ρ with
  | none => simp [W_none]
  | some r =>
    simp only [W_some]
    cases gPairs r.1 <;> simp [W_some, W_none]
theorem gItems2_l {ds : List D} : gItems2 (.list ds) = some ds := rfl
theorem gItems2_t {ds : List D} : gItems2 (.tuple ds) = some ds := rfl
theorem gItems2_d {kvs : List (D × D)} (h : isT kvs = false) : gItems2 (.dict kvs) = some (kvs.map (·.1)) := by
  unfold gItems2
  simp only [h]
theorem gItems2_MS {β : Type} {ev : β → D} {l : List (Str × β)} : gItems2 (.dict (kvM .str ev l)) = some ((l.map (·.1)).map .str) := by
  rw [gItems2_d (isT_MS l), kvM_keys]
theorem gItems2_MI {β : Type} {ev : β → D} {l : List (Int × β)} : gItems2 (.dict (kvM .int ev l)) = some ((l.map (·.1)).map .int) := by
  rw [gItems2_d (isT_MI l), kvM_keys]
theorem gPairs_MS {β : Type} {ev : β → D} {l : List (Str × β)} : gPairs (.dict (kvM .str ev l)) = some (l.map fun p => .tuple [.str p.1, ev p.2]) := by
  show (if isT (kvM PyData.str ev l) = true then none else some ((kvM PyData.str ev l).map fun q => PyData.tuple [q.1, q.2])) = _
  rw [isT_MS]
  unfold kvM
  rw [List.map_map]; rfl
theorem gPairs_MI {β : Type} {ev : β → D} {l : List (Int × β)} : gPairs (.dict (kvM .int ev l)) = some (l.map fun p => .tuple [.int p.1, ev p.2]) := by
  show (if isT (kvM PyData.int ev l) = true then none else some ((kvM PyData.int ev l).map fun q => PyData.tuple [q.1, q.2])) = _
  rw [isT_MI]
  unfold kvM
  rw [List.map_map]; rfl
theorem gItems2_td (fd : List (List Int × D)) : gItems2 (tdOf fd) = some (fd.map fun p => .tuple (p.1.map .int)) := by
  cases fd with
  | nil => rfl
  | cons p r =>
    show some (((p :: r).map eT).map (·.1)) = _
    rw [List.map_map]; rfl
theorem tdQ_of {K : List (D × D) → Prop} {fd : List (List Int × D)} : tdQ K (tdOf fd) ↔ K (fd.map eT) := by
  unfold tdQ; rw [tdE_of]
theorem q_get2T {m1 m2 m3 : M D} : Wq (mGet2T m1 m2 m3 ρ) K ↔ Wq (m1 ρ) fun a ρ1 => tdQ (fun es => Wq (m2 ρ1) fun b ρ2 => Wq (m3 ρ2) fun c ρ3 => Wp (keyT b) fun k => K ((dgetT es k).getD c) ρ3) a := by
  unfold mGet2T Wq
  cases m1 ρ with
  | none => simp [W_none]
  | some r =>
    simp only [W_some]
    unfold tdQ
    cases tdE r.1 with
    | none => simp [W_none]
    | some es =>
      simp only
      cases m2 r.2 with
      | none => simp [W_none]
      | some r2 =>
        simp only [W_some]
        cases m3 r2.2 with
        | none => simp [W_none]
        | some r3 =>
          simp only [W_some]
          cases keyT r2.1 <;> simp [W_some, W_none]
theorem pairsOf_S {β : Type} {ev : β → D} : ∀ l : List (Str × β), pairsOf (l.map fun p => .tuple [.str p.1, ev p.2]) = some (l.map fun p => (.inr p.1, ev p.2))
  | [] => rfl
  | p :: r => by
    show (match keyD (.str p.1), pairsOf (r.map fun p => .tuple [.str p.1, ev p.2]) with
      | some k, some l => some ((k, ev p.2) :: l)
      | _, _ => none) = _
    rw [pairsOf_S r, keyD_s]; rfl
theorem dmerge_S {β : Type} {ev : β → D} : ∀ (l acc : List (Str × β)), dmerge (kvM .str ev acc) (l.map fun p => (.inr p.1, ev p.2)) = kvM .str ev (putAllM l acc)
  | [], acc => rfl
  | p :: r, acc => by
    show dmerge (gPut.dput (kvM .str ev acc) (.inr p.1) (ev p.2)) (r.map fun p => (.inr p.1, ev p.2)) = _
    rw [dput_MS, dmerge_S r]; rfl
theorem w_dictST {β : Type} {ev : β → D} {l : List (Str × β)} (h : (l.map (·.1)).Nodup) (q : Q (.dict (kvM .str ev l))) : Wp (gDictQ (.tuple (l.map fun p => .tuple [.str p.1, ev p.2]))) Q := by
  refine ⟨_, ?_, q⟩
  show (pairsOf _).map _ = _
  rw [pairsOf_S]
  show some (PyData.dict (dmerge (kvM .str ev []) _)) = _
  rw [dmerge_S, putAllM_nd l [] (by simpa using h)]; rfl
def eP (p : Int × Int) : D := .tuple [.int p.1, .int p.2]
def ltS (a b : Str) : Prop := a.cps.toList < b.cps.toList
instance (a b : Str) : Decidable (ltS a b) := inferInstanceAs (Decidable (a.cps.toList < b.cps.toList))
end
end PD
set_option Elab.async false
set_option linter.all false
set_option maxRecDepth 100000
set_option maxHeartbeats 2000000
namespace PD
open PySem PySem.Spec PyProof.Rows L2 GxR GenX OwnK
open PySem.W
variable {Q : D → Prop}
theorem w_s4of2 {ds : List D} (h : Wp (gSorted2 ds) Q) : Wp (gSorted4 ds) Q := by
  obtain ⟨d, e, q⟩ := h
  exact ⟨d, by unfold gSorted4; rw [e], q⟩
theorem w_sorted4D {ds : List D} (h : okSC ds = true) (q : Q (.list (sortD ds))) : Wp (gSorted4 [.list ds]) Q := by
  refine ⟨_, ?_, q⟩
  unfold gSorted4
  by_cases hne : ds = []
  · subst hne
    have e1 : gSorted2 [.list []] = some (.list []) := by
      unfold gSorted2 gSorted
      have e : sortI [] = [] := List.mergeSort_nil
      show (match (some (PyData.list ((sortI []).map .int)) : Option D) with | some d => some d | none => gSortedS [.list []]) = _
      rw [e]; rfl
    rw [e1]
    have e : sortD [] = [] := List.mergeSort_nil
    rw [e]
  · have ht : ∀ d ∈ ds, tupNe d = true := fun d hd => by
      unfold okSC at h
      rw [Bool.and_eq_true] at h
      have := List.all_eq_true.mp h.2 d hd
      simp only [Bool.and_eq_true] at this
      exact this.1.1.1
    rw [gSorted2_tup ht hne]
    exact if_pos h
section
variable {ρ : Rho} {KL : List D → Rho → Prop} {KD : D → Rho → Prop} {QS : Out → Prop}
theorem q_vals {m : M D} : Wq (mVals m ρ) KL ↔ Wq (m ρ) fun d ρ1 => Wp (gVals d) fun ds => KL ds ρ1 := by
  unfold mVals Wq
  cases m ρ with
  | none => simp [W_none]
  | some r =>
    simp only [W_some]
    cases gVals r.1 <;> simp [W_some, W_none]
theorem q_par0 {i j : Nat} : Wp (mPar0 i j ρ) QS ↔ i < ρ.length ∧ j < ρ.length ∧ QS (.nx ((ρ.set i (some (true, .dict []))).set j (some (true, .dict [])))) := by
  unfold mPar0
  split
  · rename_i h
    simp [W_some, h.1, h.2]
  · rename_i h
    simp only [W_none, false_iff]
    exact fun z => h ⟨z.1, z.2.1⟩
end
theorem gVals_MS {β : Type} {ev : β → D} {l : List (Str × β)} : gVals (.dict (kvM .str ev l)) = some ((l.map (·.2)).map ev) := by
  unfold gVals
  simp only [isT_MS]
  unfold kvM
  simp [Function.comp_def]
theorem gVals_MI {β : Type} {ev : β → D} {l : List (Int × β)} : gVals (.dict (kvM .int ev l)) = some ((l.map (·.2)).map ev) := by
  unfold gVals
  simp only [isT_MI]
  unfold kvM
  simp [Function.comp_def]
theorem okSC_of {ds : List D} {n : Nat} {T : Value} (hn : n ≤ 60) (h1 : ∀ d ∈ ds, okM n d) (h2 : ∀ d ∈ ds, ∃ a l, d = .tuple (a :: l) ∧ dataType a = T) (h3 : ∀ a ∈ ds, ∀ b ∈ ds, cmpD a b = true) : okSC ds = true := by
  unfold okSC
  simp only [Bool.and_eq_true]
  refine ⟨⟨List.all_eq_true.mpr fun a ha => List.all_eq_true.mpr fun b hb => h3 a ha b hb, List.all_eq_true.mpr fun a ha => List.all_eq_true.mpr fun b hb => ?_⟩, List.all_eq_true.mpr fun d hd => ?_⟩
  · obtain ⟨x, l, rfl, hx⟩ := h2 a ha
    obtain ⟨y, l', rfl, hy⟩ := h2 b hb
    show (dataType x == dataType y) = true
    rw [hx, hy]
    exact beq_self_eq_true _
  · obtain ⟨x, l, rfl, _⟩ := h2 d hd
    have := h1 _ hd
    simp only [Bool.and_eq_true, decide_eq_true_eq]
    exact ⟨⟨⟨rfl, this.1⟩, this.2.1⟩, Nat.le_trans this.2.2 hn⟩
def sortBy {α : Type} (e : α → D) (l : List α) : List α := l.mergeSort fun a b => dataLe false id (e a) (e b)
theorem sortBy_perm {α : Type} (e : α → D) (l : List α) : (sortBy e l).Perm l := List.mergeSort_perm _ _
theorem sortD_map {α : Type} (e : α → D) (l : List α) : sortD (l.map e) = (sortBy e l).map e := by
  unfold sortD sortBy
  exact (List.map_mergeSort (r := fun a b => dataLe false id (e a) (e b)) (s := dataLe false id) (f := e) (l := l) fun a _ b _ => rfl).symm
theorem w_sorted4M {α : Type} {l : List α} {e : α → D} (h : okSC (l.map e) = true) (q : Q (.list ((sortBy e l).map e))) : Wp (gSorted4 [.list (l.map e)]) Q :=
  w_sorted4D h (by rw [sortD_map]; exact q)
def ownLQ (K : List D → Prop) [Tg K] : Option (Option (Bool × D)) → Prop
  | some (some (true, .list ds)) => K ds
  | _ => False
theorem ownLQ_l {K : List D → Prop} {ds : List D} : ownLQ K (some (some (true, .list ds))) ↔ K ds := Iff.rfl
theorem q_lcO {ρ : Rho} {K : D → Rho → Prop} {i : Nat} {g : D → Rho → Option Rho} {mt : M Bool} {me : M D} {vs : List Nat} : Wq (mLcO i g mt me vs ρ) K ↔ ownLQ (fun ds => Wq (lcL g mt me vs ds [] (wipeR (ρ.set i none) vs)) fun s ρ2 => K (.list s) ((wipeR ρ2 vs).set i (some (true, .list ds)))) ρ[i]? := by
  unfold mLcO
  split
  · rename_i ds e
    rw [e, ownLQ_l]
    unfold Wq
    cases lcL g mt me vs ds [] (wipeR (ρ.set i none) vs) with
    | none => simp [W_none]
    | some r => simp only [W_some]
  · rename_i h
    unfold Wq ownLQ
    split
    · rename_i ds e
      exact absurd e (h ds)
    · simp [W_none]
end PD
set_option Elab.async false
set_option linter.all false
set_option maxRecDepth 100000
set_option maxHeartbeats 2000000
namespace PD
open PySem PySem.Spec PyProof.Rows L2 GxR GenX OwnK
open PySem.SeqAt PySem.W
section
variable {Q : D → Prop}
end
end PD
set_option Elab.async false
set_option linter.all false
set_option maxRecDepth 100000
set_option maxHeartbeats 2000000
namespace PD
open PySem PySem.Spec PyProof.Rows L2 GxR GenX OwnK
section
variable {ρ : Rho} {K : D → Rho → Prop}
theorem q_slN {ρ : Rho} {m : M D} {ml mh : M (Option Int)} {K : D → Rho → Prop} (h : Wq (mSl m ml mh ρ) fun d ρ1 => listQ (fun ds => K (.list ds) ρ1) d) : Wq (mSlN m ml mh ρ) K := by
  obtain ⟨⟨d, ρ1⟩, e, k⟩ := h
  obtain ⟨ds, rfl, k⟩ := (show ∃ ds, d = .list ds ∧ K (.list ds) ρ1 from by
    cases d with
    | list ds => exact ⟨ds, rfl, by simpa [listQ] using k⟩
    | _ => exact absurd k (by simp [listQ]))
  exact ⟨(.list ds, ρ1), by unfold mSlN; rw [e], k⟩
end
theorem w_pop0 {ns : List Int} {K : D → D → Prop} (h : 0 < ns.length) (q : ∀ l z, ns = l ++ [z] → K (.int z) (.list (l.map .int))) : Wq (gPop0 (.list (ns.map .int))) K := by
  obtain ⟨l, z, rfl⟩ : ∃ l z, ns = l ++ [z] := by
    rcases List.eq_nil_or_concat ns with e | ⟨l, z, e⟩
    · subst e; simp at h
    · exact ⟨l, z, by rw [e, List.concat_eq_append]⟩
  exact ⟨(.int z, .list (l.map .int)), by unfold gPop0; simp [List.dropLast_concat], q l z rfl⟩
theorem w_listTd {fd : List (List Int × D)} {Q : D → Prop} (q : Q (.list ((fd.map (·.1)).map tupI))) : Wp (gListOfT [tdOf fd]) Q := by
  refine ⟨_, ?_, q⟩
  unfold gListOfT
  simp only [tdE_of, keysT_map]
  rfl
end PD
set_option Elab.async false
set_option linter.all false
set_option maxRecDepth 100000
set_option maxHeartbeats 4000000
namespace PD
open PySem PySem.Spec PyProof.Rows L2 GxR GenX OwnK PD
theorem tb5 : (type_of% @PD.q_runD) ∧ (type_of% @PD.q_runN) ∧ (type_of% @PD.W_seq) ∧ (type_of% @PD.q_asg) ∧ (type_of% @PD.q_ifS) ∧ (type_of% @PD.q_ret) ∧ (type_of% @PD.q_drop) ∧ (type_of% @PD.W_next) ∧ (type_of% @PD.W_break) ∧ (type_of% @PD.W_cont) ∧ (type_of% @PD.q_for) ∧ (type_of% @PD.q_put) ∧ (type_of% @PD.q_aug) ∧ (type_of% @PD.q_augL) ∧ (type_of% @PD.q_mut) ∧ (type_of% @PD.q_par) ∧ (type_of% @PD.q_bin) ∧ (type_of% @PD.q_un) ∧ (type_of% @PD.q_app) ∧ (type_of% @PD.q_nil) ∧ (type_of% @PD.q_cons) ∧ (type_of% @PD.q_consIo) ∧ (type_of% @PD.q_call) ∧ (type_of% @PD.q_callK) ∧ (type_of% @PD.q_tab) ∧ (type_of% @PD.q_if) ∧ (type_of% @PD.q_andT) ∧ (type_of% @PD.q_orT) ∧ (type_of% @PD.q_notT) ∧ (type_of% @PD.q_andV) ∧ (type_of% @PD.q_orV) ∧ (type_of% @PD.q_notV) ∧ (type_of% @PD.q_mB) ∧ (type_of% @PD.q_mP) ∧ (type_of% @PD.q_noP) ∧ (type_of% @PD.q_sl) ∧ (type_of% @PD.q_items) ∧ (type_of% @PD.q_range) ∧ (type_of% @PD.q_chain) ∧ (type_of% @PD.q_get2) ∧ (type_of% @PD.q_items2) ∧ (type_of% @PD.q_pairs) ∧ (type_of% @PD.q_vals) ∧ (type_of% @PD.gVals_MS) ∧ (type_of% @PD.gVals_MI) ∧ (type_of% @PD.q_par0) ∧ (type_of% @PD.q_lcO) ∧ (type_of% @PD.ownLQ_l) ∧ (type_of% @PD.q_get2T) ∧ (type_of% @PD.tdQ_of) ∧ (type_of% @PD.gItems2_l) ∧ (type_of% @PD.gItems2_t) ∧ (type_of% @PD.gItems2_MS) ∧ (type_of% @PD.gItems2_MI) ∧ (type_of% @PD.gItems2_td) ∧ (type_of% @PD.gPairs_MS) ∧ (type_of% @PD.gPairs_MI) ∧ (type_of% @PD.keyT_ints) ∧ (type_of% @PD.dgetT_map) ∧ (type_of% @PD.q_lc) ∧ (type_of% @PD.q_dc) ∧ (type_of% @PD.q_an) ∧ (type_of% @PD.q_su) ∧ (type_of% @PD.q_mC) ∧ (type_of% @PD.q_rev) ∧ (type_of% @PD.gLt2_ii) ∧ (type_of% @PD.q_putT) ∧ (type_of% @PD.q_dcTo) ∧ (type_of% @PD.q_bag) ∧ (type_of% @PD.q_bagLen) ∧ (type_of% @PD.q_bagPop) ∧ (type_of% @PD.q_bagPut) ∧ (type_of% @PD.q_ext) ∧ (type_of% @PD.q_mut0) ∧ (type_of% @PD.q_star) ∧ (type_of% @PD.q_runB) ∧ (type_of% @PD.q_seqB) ∧ (type_of% @PD.q_retB) ∧ (type_of% @PD.bagQ_eq) ∧ (type_of% @PD.listQ_eq) ∧ (type_of% @PD.bagK_0) ∧ (type_of% @PD.bagK_1) ∧ (type_of% @PD.bagK_3) ∧ (type_of% @PD.bagP_0) ∧ (type_of% @PD.bagP_1) ∧ (type_of% @PD.gRevL_l) ∧ (type_of% @PD.gRev_l) ∧ (type_of% @PD.gSeq_l) ∧ (type_of% @PD.gSeq_t) ∧ (type_of% @PD.gListOf2_l) ∧ (type_of% @PD.gListOf2_t) ∧ (type_of% @PD.tup2Q_eq) ∧ (type_of% @PD.W_some) ∧ (type_of% @PD.W_none) ∧ (type_of% @PD.W_ite) ∧ (type_of% @PD.q_some) ∧ (type_of% @PD.q_none) ∧ (type_of% @PD.q_ite) ∧ (type_of% @PD.W_map) ∧ (type_of% @PD.W_bind) ∧ (type_of% @PD.bcs_true) ∧ (type_of% @PD.bcs_false) ∧ (type_of% @PD.bcs_dec) ∧ (type_of% @PD.bcs_not) ∧ (type_of% @PD.seqQ_nx) ∧ (type_of% @PD.seqQ_rt) ∧ (type_of% @PD.seqQ_bk) ∧ (type_of% @PD.seqQ_ct) ∧ (type_of% @PD.forQ_nx) ∧ (type_of% @PD.forQ_rt) ∧ (type_of% @PD.forQ_bk) ∧ (type_of% @PD.forQ_ct) ∧ (type_of% @PD.rQ_nx) ∧ (type_of% @PD.rQ_rt) ∧ (type_of% @PD.rQN_rt) ∧ (type_of% @PD.boolQ_bool) ∧ (type_of% @PD.intQ_int) ∧ (type_of% @PD.strQ_str) ∧ (type_of% @PD.dictQ_dict) ∧ (type_of% @PD.ownQ_true) ∧ (type_of% @PD.borQ_false) ∧ (type_of% @PD.list2Q_eq) ∧ (type_of% @PD.mFrz_eq) ∧ (type_of% @PD.isBg_l) ∧ (type_of% @PD.isBg_d) ∧ (type_of% @PD.isBg_t) ∧ (type_of% @PD.isBg_td) ∧ (type_of% @PD.putBack_none) ∧ (type_of% @PD.putBack_n2) ∧ (type_of% @PD.putBack_n3) ∧ (type_of% @PD.isi_b_n) ∧ (type_of% @PD.isi_b_b) ∧ (type_of% @PD.isi_b_i) ∧ (type_of% @PD.isi_b_s) ∧ (type_of% @PD.isi_b_t) ∧ (type_of% @PD.isi_b_l) ∧ (type_of% @PD.isi_i_n) ∧ (type_of% @PD.isi_i_b) ∧ (type_of% @PD.isi_i_i) ∧ (type_of% @PD.isi_i_s) ∧ (type_of% @PD.isi_i_t) ∧ (type_of% @PD.isi_i_l) ∧ (type_of% @PD.isi_s_n) ∧ (type_of% @PD.isi_s_b) ∧ (type_of% @PD.isi_s_i) ∧ (type_of% @PD.isi_s_s) ∧ (type_of% @PD.isi_s_t) ∧ (type_of% @PD.isi_s_l) ∧ (type_of% @PD.isi_t_n) ∧ (type_of% @PD.isi_t_b) ∧ (type_of% @PD.isi_t_i) ∧ (type_of% @PD.isi_t_s) ∧ (type_of% @PD.isi_t_t) ∧ (type_of% @PD.isi_t_l) ∧ (type_of% @PD.isN_n) ∧ (type_of% @PD.isN_b) ∧ (type_of% @PD.isN_i) ∧ (type_of% @PD.isN_s) ∧ (type_of% @PD.isN_t) ∧ (type_of% @PD.isN_l) ∧ (type_of% @Bool.false_eq_true) ∧ (type_of% @PD.mVar.eq_1) ∧ (type_of% @PD.mOwn.eq_1) ∧ (type_of% @PD.mYes.eq_1) ∧ (type_of% @PD.gSet.eq_1) ∧ (type_of% @PD.gOwn.eq_1) ∧ (type_of% @PD.gTupT.eq_1) ∧ (type_of% @PD.gTupT.eq_2) ∧ (type_of% @PD.gsCons.eq_1) ∧ (type_of% @PD.gsCons.eq_2) ∧ (type_of% @PD.gsNil.eq_1) ∧ (type_of% @PD.gsNil.eq_2) ∧ (type_of% @PD.putBack.eq_1) ∧ (type_of% @PD.putBack.eq_2) ∧ (type_of% @PD.putBack.eq_3) ∧ (type_of% @PD.wipeR.eq_1) ∧ (type_of% @PD.wipeR.eq_2) ∧ (type_of% @PD.startR.eq_1) ∧ (type_of% @PD.ioR.eq_1) ∧ (type_of% @PD.ioR.eq_2) ∧ (type_of% @PD.backR_eq) ∧ (type_of% @PD.backRl.eq_1) ∧ (type_of% @PD.backRl.eq_2) ∧ (type_of% @PD.backRl.eq_3) ∧ (type_of% @PD.slotD_some) ∧ (type_of% @PD.slotD_none) ∧ (type_of% @PD.gAdd_ii) ∧ (type_of% @PD.gSub_ii) ∧ (type_of% @PD.gAddI.eq_1) ∧ (type_of% @PD.gAddI.eq_2) ∧ (type_of% @PD.gSubI.eq_1) ∧ (type_of% @PD.gSubI.eq_2) ∧ (type_of% @PD.gLt.eq_1) ∧ (type_of% @PD.gLt.eq_2) ∧ (type_of% @PD.gLt.eq_3) ∧ (type_of% @PD.gLe.eq_1) ∧ (type_of% @PD.gLe.eq_2) ∧ (type_of% @PD.gLe.eq_3) ∧ (type_of% @PD.gLe.eq_4) ∧ (type_of% @PD.gGt.eq_1) ∧ (type_of% @PD.gGt.eq_2) ∧ (type_of% @PD.gGt.eq_3) ∧ (type_of% @PD.gGe.eq_1) ∧ (type_of% @PD.gGe.eq_2) ∧ (type_of% @PD.gGe.eq_3) ∧ (type_of% @PD.gEq_ii) ∧ (type_of% @PD.gNe_ii) ∧ (type_of% @PD.gInt.eq_1) ∧ (type_of% @PD.gInt.eq_2) ∧ (type_of% @PD.gInt.eq_3) ∧ (type_of% @PD.gLen_l) ∧ (type_of% @PD.gLen_t) ∧ (type_of% @PD.gLen_d) ∧ (type_of% @PD.gAbs.eq_1) ∧ (type_of% @PD.gAbs.eq_2) ∧ (type_of% @PD.gMax2.eq_1) ∧ (type_of% @PD.gMax2.eq_2) ∧ (type_of% @PD.gMin2.eq_1) ∧ (type_of% @PD.gMin2.eq_2) ∧ (type_of% @PD.keyD_i) ∧ (type_of% @PD.keyD_s) ∧ (type_of% @PD.gItems_l) ∧ (type_of% @PD.gItems_t) ∧ (type_of% @PD.gNeg.eq_1) ∧ (type_of% @PD.gNeg.eq_2) ∧ (type_of% @PD.gListOf.eq_1) ∧ (type_of% @PD.gListOf.eq_2) ∧ (type_of% @PD.gListOf.eq_3) ∧ (type_of% @PD.gListOf.eq_4) ∧ (type_of% @PD.gTupOf.eq_1) ∧ (type_of% @PD.gTupOf.eq_2) ∧ (type_of% @PD.gTupOf.eq_3) ∧ (type_of% @PD.gSl_l) ∧ (type_of% @PD.gSl_t) ∧ (type_of% @PD.gIs.eq_1) ∧ (type_of% @PD.gIs.eq_2) ∧ (type_of% @PD.gIs.eq_3) ∧ (type_of% @PD.gIsNot.eq_1) ∧ (type_of% @PD.gIsNot.eq_2) ∧ (type_of% @PD.gIsNot.eq_3) ∧ (type_of% @PD.isN.eq_1) ∧ (type_of% @PD.isN.eq_2) ∧ (type_of% @PD.gMul_s0) ∧ (type_of% @PD.gMul_s1) ∧ (type_of% @PD.gIxL.eq_1) ∧ (type_of% @PD.gIxL.eq_2) ∧ (type_of% @PD.gIx_l) ∧ (type_of% @PD.gIx_t) ∧ (type_of% @PD.gIx_di) ∧ (type_of% @PD.gIx_ds) ∧ (type_of% @PD.gPow_1018) ∧ (type_of% @PD.atI_0) ∧ (type_of% @PD.atI_1) ∧ (type_of% @PD.atI_2) ∧ (type_of% @PD.atI_3) ∧ (type_of% @PD.atI_4) ∧ (type_of% @PD.atI_5) ∧ (type_of% @PD.atI_6) ∧ (type_of% @PD.atI_7) ∧ (type_of% @PD.gPutL_0) ∧ (type_of% @PD.gPutL_1) ∧ (type_of% @PD.gPutL_2) ∧ (type_of% @PD.gPutL_3) ∧ (type_of% @PD.gPutL_4) ∧ (type_of% @PD.gPutL_5) ∧ (type_of% @Nat.zero_add) ∧ (type_of% @Nat.lt_add_one) ∧ (type_of% @Nat.succ_eq_add_one) ∧ (type_of% @or_false) ∧ (type_of% @or_true) ∧ (type_of% @true_and) ∧ (type_of% @and_true) ∧ (type_of% @not_true_eq_false) ∧ (type_of% @not_false_eq_true) ∧ (type_of% @decide_true) ∧ (type_of% @decide_false) ∧ (type_of% @decide_eq_true_eq) :=
  ⟨@PD.q_runD, @PD.q_runN, @PD.W_seq, @PD.q_asg, @PD.q_ifS, @PD.q_ret, @PD.q_drop, @PD.W_next, @PD.W_break, @PD.W_cont, @PD.q_for, @PD.q_put, @PD.q_aug, @PD.q_augL, @PD.q_mut, @PD.q_par, @PD.q_bin, @PD.q_un, @PD.q_app, @PD.q_nil, @PD.q_cons, @PD.q_consIo, @PD.q_call, @PD.q_callK, @PD.q_tab, @PD.q_if, @PD.q_andT, @PD.q_orT, @PD.q_notT, @PD.q_andV, @PD.q_orV, @PD.q_notV, @PD.q_mB, @PD.q_mP, @PD.q_noP, @PD.q_sl, @PD.q_items, @PD.q_range, @PD.q_chain, @PD.q_get2, @PD.q_items2, @PD.q_pairs, @PD.q_vals, @PD.gVals_MS, @PD.gVals_MI, @PD.q_par0, @PD.q_lcO, @PD.ownLQ_l, @PD.q_get2T, @PD.tdQ_of, @PD.gItems2_l, @PD.gItems2_t, @PD.gItems2_MS, @PD.gItems2_MI, @PD.gItems2_td, @PD.gPairs_MS, @PD.gPairs_MI, @PD.keyT_ints, @PD.dgetT_map, @PD.q_lc, @PD.q_dc, @PD.q_an, @PD.q_su, @PD.q_mC, @PD.q_rev, @PD.gLt2_ii, @PD.q_putT, @PD.q_dcTo, @PD.q_bag, @PD.q_bagLen, @PD.q_bagPop, @PD.q_bagPut, @PD.q_ext, @PD.q_mut0, @PD.q_star, @PD.q_runB, @PD.q_seqB, @PD.q_retB, @PD.bagQ_eq, @PD.listQ_eq, @PD.bagK_0, @PD.bagK_1, @PD.bagK_3, @PD.bagP_0, @PD.bagP_1, @PD.gRevL_l, @PD.gRev_l, @PD.gSeq_l, @PD.gSeq_t, @PD.gListOf2_l, @PD.gListOf2_t, @PD.tup2Q_eq, @PD.W_some, @PD.W_none, @PD.W_ite, @PD.q_some, @PD.q_none, @PD.q_ite, @PD.W_map, @PD.W_bind, @PD.bcs_true, @PD.bcs_false, @PD.bcs_dec, @PD.bcs_not, @PD.seqQ_nx, @PD.seqQ_rt, @PD.seqQ_bk, @PD.seqQ_ct, @PD.forQ_nx, @PD.forQ_rt, @PD.forQ_bk, @PD.forQ_ct, @PD.rQ_nx, @PD.rQ_rt, @PD.rQN_rt, @PD.boolQ_bool, @PD.intQ_int, @PD.strQ_str, @PD.dictQ_dict, @PD.ownQ_true, @PD.borQ_false, @PD.list2Q_eq, @PD.mFrz_eq, @PD.isBg_l, @PD.isBg_d, @PD.isBg_t, @PD.isBg_td, @PD.putBack_none, @PD.putBack_n2, @PD.putBack_n3, @PD.isi_b_n, @PD.isi_b_b, @PD.isi_b_i, @PD.isi_b_s, @PD.isi_b_t, @PD.isi_b_l, @PD.isi_i_n, @PD.isi_i_b, @PD.isi_i_i, @PD.isi_i_s, @PD.isi_i_t, @PD.isi_i_l, @PD.isi_s_n, @PD.isi_s_b, @PD.isi_s_i, @PD.isi_s_s, @PD.isi_s_t, @PD.isi_s_l, @PD.isi_t_n, @PD.isi_t_b, @PD.isi_t_i, @PD.isi_t_s, @PD.isi_t_t, @PD.isi_t_l, @PD.isN_n, @PD.isN_b, @PD.isN_i, @PD.isN_s, @PD.isN_t, @PD.isN_l, @Bool.false_eq_true, @PD.mVar.eq_1, @PD.mOwn.eq_1, @PD.mYes.eq_1, @PD.gSet.eq_1, @PD.gOwn.eq_1, @PD.gTupT.eq_1, @PD.gTupT.eq_2, @PD.gsCons.eq_1, @PD.gsCons.eq_2, @PD.gsNil.eq_1, @PD.gsNil.eq_2, @PD.putBack.eq_1, @PD.putBack.eq_2, @PD.putBack.eq_3, @PD.wipeR.eq_1, @PD.wipeR.eq_2, @PD.startR.eq_1, @PD.ioR.eq_1, @PD.ioR.eq_2, @PD.backR_eq, @PD.backRl.eq_1, @PD.backRl.eq_2, @PD.backRl.eq_3, @PD.slotD_some, @PD.slotD_none, @PD.gAdd_ii, @PD.gSub_ii, @PD.gAddI.eq_1, @PD.gAddI.eq_2, @PD.gSubI.eq_1, @PD.gSubI.eq_2, @PD.gLt.eq_1, @PD.gLt.eq_2, @PD.gLt.eq_3, @PD.gLe.eq_1, @PD.gLe.eq_2, @PD.gLe.eq_3, @PD.gLe.eq_4, @PD.gGt.eq_1, @PD.gGt.eq_2, @PD.gGt.eq_3, @PD.gGe.eq_1, @PD.gGe.eq_2, @PD.gGe.eq_3, @PD.gEq_ii, @PD.gNe_ii, @PD.gInt.eq_1, @PD.gInt.eq_2, @PD.gInt.eq_3, @PD.gLen_l, @PD.gLen_t, @PD.gLen_d, @PD.gAbs.eq_1, @PD.gAbs.eq_2, @PD.gMax2.eq_1, @PD.gMax2.eq_2, @PD.gMin2.eq_1, @PD.gMin2.eq_2, @PD.keyD_i, @PD.keyD_s, @PD.gItems_l, @PD.gItems_t, @PD.gNeg.eq_1, @PD.gNeg.eq_2, @PD.gListOf.eq_1, @PD.gListOf.eq_2, @PD.gListOf.eq_3, @PD.gListOf.eq_4, @PD.gTupOf.eq_1, @PD.gTupOf.eq_2, @PD.gTupOf.eq_3, @PD.gSl_l, @PD.gSl_t, @PD.gIs.eq_1, @PD.gIs.eq_2, @PD.gIs.eq_3, @PD.gIsNot.eq_1, @PD.gIsNot.eq_2, @PD.gIsNot.eq_3, @PD.isN.eq_1, @PD.isN.eq_2, @PD.gMul_s0, @PD.gMul_s1, @PD.gIxL.eq_1, @PD.gIxL.eq_2, @PD.gIx_l, @PD.gIx_t, @PD.gIx_di, @PD.gIx_ds, @PD.gPow_1018, @PD.atI_0, @PD.atI_1, @PD.atI_2, @PD.atI_3, @PD.atI_4, @PD.atI_5, @PD.atI_6, @PD.atI_7, @PD.gPutL_0, @PD.gPutL_1, @PD.gPutL_2, @PD.gPutL_3, @PD.gPutL_4, @PD.gPutL_5, @Nat.zero_add, @Nat.lt_add_one, @Nat.succ_eq_add_one, @or_false, @or_true, @true_and, @and_true, @not_true_eq_false, @not_false_eq_true, @decide_true, @decide_false, @decide_eq_true_eq⟩
end PD
set_option Elab.async false
set_option linter.all false
set_option maxRecDepth 100000
set_option maxHeartbeats 2000000
namespace PD
open PySem PySem.Spec PyProof.Rows L2 GxR GenX OwnK
def TabsOf (q : Program) (K : PySem.W.Frag) (h : Heap) : Prop := ∀ (x : Str) (c P : Addr), ((recsOf q).any fun e => e.name == x) = true → PySem.W.tabIn K x = some (c, P) → PySem.W.CodeHd h c P ∧ h.get? P = some { cls := .none, data := .fields #[] }
theorem walk_ofTabs {l : PySem.W.OpenLaw} {n k : Nat} {q : Program} {loose : List Str} {XP : (Str → Option Value) → Heap → Prop} {YP : World → Heap → Prop} {d : DefRec} {K : Params → PySem.W.Frag} {CX : World → CXT} {x : Str}
    (hn : l.most = some n) (hn2 : n ≤ sizeLine) (hdf : d.params.defaults = []) (hr : Room k callerA) (hY : ∀ (w : World) (h : Heap), YP w h → (K w.params).In h)
    (F : ∀ (w : World) (mg : Str → Option Value) (fa : Addr) (h : Heap), (K w.params).In h → h.Ns mainGlobals mg → mg d.name = some (.ref fa) → TabsOf q (K w.params) h → LamX.LawAtS l w (K w.params) (CX w) k n x mg fa h)
    (hCX : ∀ (w : World) (H : Hp) (s : Shared) (e : Value) (s' : Shared), CX w [] H s (fun _ _ _ => False) e s' → False) :
    PySem.W.WalkO q loose XP YP l.row.toRowW d [] (fun f vs => PySem.call f vs) := by
  refine Att.attach_callB hn hdf fun w s₀ s₁ mg mb fa o pm cd doc a vs ns G Y ho hd hcd hmg hobj hints hlen hbits hg => ?_
  have KX := hY w _ Y
  have tb : TabsOf q (K w.params) s₁.heap := fun x c P hx ht => by
    obtain ⟨dL, hm, hn1⟩ := List.any_eq_true.mp hx
    cases hf : (recsOf q).find? (fun e : DefRec => e.name == x) with
    | none => exact absurd hn1 (by simpa using List.find?_eq_none.mp hf dL hm)
    | some d' => exact PySem.W.tab_of G.T KX hf ht
  obtain ⟨fd, cs, sp, hT, nT, C, hb, hsp, hF⟩ := F w mg fa _ KX G.T.g hmg tb
  exact LamX.law_callTs KX G.T.g G.T.b G.T.builtins G.T.nolimit hg hT nT C G.T.bmain hobj hints (Nat.le_trans hlen hn2) hr hF hb (fun H hH hS => hsp H a ns hlen hbits hH hS) fun H e s' => hCX w H s₁ e s'
theorem rels_ints2 {K : PySem.W.Frag} {S : Addr → Prop} {H : Hp} : ∀ ns : List Int, RelDs K S H (ns.map V.int) (ns.map .int)
  | [] => .nil
  | n :: r => .cons (.int n) (rels_ints2 r)
theorem law_sp {K : PySem.W.Frag} {T : List Addr} {n : Nat} {f : List D → Option (D × List D)} (hf : ∀ ns : List Int, ns.length ≤ n → ∃ es, f [.list (ns.map .int)] = some (.bool true, es) ∧ es.length = 1) (H : Hp) (a : Addr) (ns : List Int) (hl : ns.length ≤ n)
    (hT : ∀ P ∈ T, H P = some (.tbl #[])) (hS : SqL K H a (ns.map V.int)) : spD K T [] 1 f [.ref a] H (fun v _ => v = .bl true) fun _ _ _ => False := by
  obtain ⟨es, e, h1⟩ := hf ns hl
  have hr : RelD K (fun _ => False) H (.ref a) (.list (ns.map .int)) := by
    rcases hS with h | h
    · exact .lst (fun z => z) h (rels_ints2 ns)
    · exact .lstK h (rels_ints2 ns)
  refine ⟨fun _ => False, fun _ => a, [.list (ns.map .int)], .bool true, es, e, rfl, h1, ⟨rfl, fun j v d e1 e2 => ⟨(fun z => absurd z List.not_mem_nil), (fun _ => ?_)⟩, (fun j z => absurd z List.not_mem_nil), (fun i z => absurd z List.not_mem_nil)⟩, fun _ z => z.elim, fun P hP => TabN.nil (hT P hP), fun v H' _ _ r => ?_⟩
  · cases j with
    | zero => cases e1; cases e2; exact hr
    | succ j => cases e1
  · cases r; rfl
theorem tabIn_of {K : PySem.W.Frag} {x : Str} {f c t : Addr} {oc ve : Value} {od vd : Option Addr} {fd : FuncData} {sl vl : Array (Option Value)} {vs : Array Value} (a : PySem.W.nsIn K mainGlobals x = some (some (.ref f))) (l : K.lookup f = some ⟨oc, od, .func fd, sl⟩) (hc : fd.code = .ref c) (v : K.lookup c = some ⟨ve, vd, .fields vs, vl⟩) (q : vs[11]? = some (.ref t)) : PySem.W.tabIn K x = some (c, t) := by
  unfold PySem.W.tabIn
  simp only [a, l, hc, v, q]
end PD
set_option Elab.async false
set_option linter.all false
set_option maxRecDepth 100000
set_option maxHeartbeats 4000000
namespace K38W
open PySem PySem.Spec PyProof.Rows L2 GxR GenX OwnK PD
def top (i : Nat) : Stmt := PySem.Challenge.pw_aswritten_k38_parts_of_models.main.body.getD i (.Pass ⟨0, 0, 0, 0⟩)
abbrev s_claim_names : Stmt := top 1
abbrev N_claim_names : List Str := ["claim", "names", "one", "name"]
abbrev P_claim_names : List Str := ["claim"]
theorem sc_claim_names : FnScope N_claim_names P_claim_names (defScope s_claim_names) := ⟨rfl, rfl, rfl, by decide +kernel, rfl, by decide +kernel, by decide +kernel⟩
abbrev s_names_within : Stmt := top 3
abbrev N_names_within : List Str := ["saying", "sort", "term"]
abbrev P_names_within : List Str := ["saying"]
theorem sc_names_within : FnScope N_names_within P_names_within (defScope s_names_within) := ⟨rfl, rfl, rfl, by decide +kernel, rfl, by decide +kernel, by decide +kernel⟩
abbrev s_own_names : Stmt := top 4
abbrev N_own_names : List Str := ["saying", "names", "name"]
abbrev P_own_names : List Str := ["saying"]
theorem sc_own_names : FnScope N_own_names P_own_names (defScope s_own_names) := ⟨rfl, rfl, rfl, by decide +kernel, rfl, by decide +kernel, by decide +kernel⟩
abbrev s_parts : Stmt := top 6
abbrev N_parts : List Str := ["model", "label", "item", "joined", "lots", "x", "_", "at", "key"]
abbrev P_parts : List Str := ["model"]
theorem sc_parts : FnScope N_parts P_parts (defScope s_parts) := ⟨rfl, rfl, rfl, by decide +kernel, rfl, by decide +kernel, by decide +kernel⟩
abbrev s_part_model_of : Stmt := top 7
abbrev N_part_model_of : List Str := ["model", "part", "kept", "items", "item", "x"]
abbrev P_part_model_of : List Str := ["model", "part"]
theorem sc_part_model_of : FnScope N_part_model_of P_part_model_of (defScope s_part_model_of) := ⟨rfl, rfl, rfl, by decide +kernel, rfl, by decide +kernel, by decide +kernel⟩
abbrev s__law_pool : Stmt := top 9
abbrev N__law_pool : List Str := ["script", "many", "pool", "total", "cell", "rest", "k", "once", "twice"]
abbrev P__law_pool : List Str := ["script", "many"]
theorem sc__law_pool : FnScope N__law_pool P__law_pool (defScope s__law_pool) := ⟨rfl, rfl, rfl, by decide +kernel, rfl, by decide +kernel, by decide +kernel⟩
abbrev s__law_draw : Stmt := top 10
abbrev N__law_draw : List Str := ["pool", "many"]
abbrev P__law_draw : List Str := ["pool", "many"]
theorem sc__law_draw : FnScope N__law_draw P__law_draw (defScope s__law_draw) := ⟨rfl, rfl, rfl, by decide +kernel, rfl, by decide +kernel, by decide +kernel⟩
abbrev s__law_pick : Stmt := top 11
abbrev N__law_pick : List Str := ["pool", "row"]
abbrev P__law_pick : List Str := ["pool", "row"]
theorem sc__law_pick : FnScope N__law_pick P__law_pick (defScope s__law_pick) := ⟨rfl, rfl, rfl, by decide +kernel, rfl, by decide +kernel, by decide +kernel⟩
abbrev s__law_mingled : Stmt := top 12
abbrev N__law_mingled : List Str := ["pool", "row", "left", "k"]
abbrev P__law_mingled : List Str := ["pool", "row"]
theorem sc__law_mingled : FnScope N__law_mingled P__law_mingled (defScope s__law_mingled) := ⟨rfl, rfl, rfl, by decide +kernel, rfl, by decide +kernel, by decide +kernel⟩
abbrev s__law_same : Stmt := top 13
abbrev N__law_same : List Str := ["told", "due", "k"]
abbrev P__law_same : List Str := ["told", "due"]
theorem sc__law_same : FnScope N__law_same P__law_same (defScope s__law_same) := ⟨rfl, rfl, rfl, by decide +kernel, rfl, by decide +kernel, by decide +kernel⟩
abbrev s__law_claim_names : Stmt := top 16
abbrev N__law_claim_names : List Str := ["claim", "found", "one", "x"]
abbrev P__law_claim_names : List Str := ["claim"]
theorem sc__law_claim_names : FnScope N__law_claim_names P__law_claim_names (defScope s__law_claim_names) := ⟨rfl, rfl, rfl, by decide +kernel, rfl, by decide +kernel, by decide +kernel⟩
abbrev s__law_own : Stmt := top 17
abbrev N__law_own : List Str := ["saying", "word", "found", "x", "term"]
abbrev P__law_own : List Str := ["saying"]
theorem sc__law_own : FnScope N__law_own P__law_own (defScope s__law_own) := ⟨rfl, rfl, rfl, by decide +kernel, rfl, by decide +kernel, by decide +kernel⟩
abbrev s__law_domain : Stmt := top 20
abbrev N__law_domain : List Str := ["pool", "most", "value", "found", "k"]
abbrev P__law_domain : List Str := ["pool", "most"]
theorem sc__law_domain : FnScope N__law_domain P__law_domain (defScope s__law_domain) := ⟨rfl, rfl, rfl, by decide +kernel, rfl, by decide +kernel, by decide +kernel⟩
abbrev s__law_some : Stmt := top 22
abbrev N__law_some : List Str := ["pool", "names", "least", "most", "many"]
abbrev P__law_some : List Str := ["pool", "names", "least", "most"]
theorem sc__law_some : FnScope N__law_some P__law_some (defScope s__law_some) := ⟨rfl, rfl, rfl, by decide +kernel, rfl, by decide +kernel, by decide +kernel⟩
abbrev s__law_sum : Stmt := top 23
abbrev N__law_sum : List Str := ["pool", "domains", "word", "terms", "total", "x", "w"]
abbrev P__law_sum : List Str := ["pool", "domains", "word"]
theorem sc__law_sum : FnScope N__law_sum P__law_sum (defScope s__law_sum) := ⟨rfl, rfl, rfl, by decide +kernel, rfl, by decide +kernel, by decide +kernel⟩
abbrev s__law_lines : Stmt := top 24
abbrev N__law_lines : List Str := ["pool", "domains", "xs", "most", "found", "k", "row", "x"]
abbrev P__law_lines : List Str := ["pool", "domains", "xs", "most"]
theorem sc__law_lines : FnScope N__law_lines P__law_lines (defScope s__law_lines) := ⟨rfl, rfl, rfl, by decide +kernel, rfl, by decide +kernel, by decide +kernel⟩
abbrev s__law_claim : Stmt := top 25
abbrev N__law_claim : List Str := ["pool", "domains", "deep", "kind", "x", "v", "some", "k"]
abbrev P__law_claim : List Str := ["pool", "domains", "deep"]
theorem sc__law_claim : FnScope N__law_claim P__law_claim (defScope s__law_claim) := ⟨rfl, rfl, rfl, by decide +kernel, rfl, by decide +kernel, by decide +kernel⟩
abbrev s__law_saying : Stmt := top 26
abbrev N__law_saying : List Str := ["pool", "domains", "sorts", "names", "word", "claim", "inner", "some", "half", "xs", "found", "k", "low", "one", "v"]
abbrev P__law_saying : List Str := ["pool", "domains", "sorts"]
theorem sc__law_saying : FnScope N__law_saying P__law_saying (defScope s__law_saying) := ⟨rfl, rfl, rfl, by decide +kernel, rfl, by decide +kernel, by decide +kernel⟩
abbrev s__law_parts : Stmt := top 28
abbrev N__law_parts : List Str := ["model", "names", "marks", "k", "pair", "some", "x", "found", "row"]
abbrev P__law_parts : List Str := ["model"]
theorem sc__law_parts : FnScope N__law_parts P__law_parts (defScope s__law_parts) := ⟨rfl, rfl, rfl, by decide +kernel, rfl, by decide +kernel, by decide +kernel⟩
abbrev s__law_part_model : Stmt := top 29
abbrev N__law_part_model : List Str := ["model", "part", "sayings", "soft", "pair", "x", "one"]
abbrev P__law_part_model : List Str := ["model", "part"]
theorem sc__law_part_model : FnScope N__law_part_model P__law_part_model (defScope s__law_part_model) := ⟨rfl, rfl, rfl, by decide +kernel, rfl, by decide +kernel, by decide +kernel⟩
abbrev s__law_many_sayings : Stmt := top 30
abbrev N__law_many_sayings : List Str := ["pool", "unknowns", "names", "sorts", "domains", "made", "name", "some", "x"]
abbrev P__law_many_sayings : List Str := ["pool", "unknowns", "names", "sorts"]
theorem sc__law_many_sayings : FnScope N__law_many_sayings P__law_many_sayings (defScope s__law_many_sayings) := ⟨rfl, rfl, rfl, by decide +kernel, rfl, by decide +kernel, by decide +kernel⟩
abbrev s__law_right : Stmt := top 31
abbrev N__law_right : List Str := ["model", "is_named", "due", "told", "part", "one"]
abbrev P__law_right : List Str := ["model", "is_named"]
theorem sc__law_right : FnScope N__law_right P__law_right (defScope s__law_right) := ⟨rfl, rfl, rfl, by decide +kernel, rfl, by decide +kernel, by decide +kernel⟩
abbrev s_law : Stmt := top 32
abbrev N_law : List Str := ["script", "pool", "sorts", "many", "most", "names", "unknowns", "more", "made", "soft", "model", "is_named", "k", "x", "pair"]
abbrev P_law : List Str := ["script"]
theorem sc_law : FnScope N_law P_law (defScope s_law) := ⟨rfl, rfl, rfl, by decide +kernel, rfl, by decide +kernel, by decide +kernel⟩
structure Ad where
  a_claim_names : Addr
  c_claim_names : Addr
  a_names_within : Addr
  c_names_within : Addr
  a_own_names : Addr
  c_own_names : Addr
  a_parts : Addr
  c_parts : Addr
  a_part_model_of : Addr
  c_part_model_of : Addr
  a__law_pool : Addr
  c__law_pool : Addr
  a__law_draw : Addr
  c__law_draw : Addr
  a__law_pick : Addr
  c__law_pick : Addr
  a__law_mingled : Addr
  c__law_mingled : Addr
  a__law_same : Addr
  c__law_same : Addr
  a__law_claim_names : Addr
  c__law_claim_names : Addr
  a__law_own : Addr
  c__law_own : Addr
  a__law_domain : Addr
  c__law_domain : Addr
  a__law_some : Addr
  c__law_some : Addr
  a__law_sum : Addr
  c__law_sum : Addr
  a__law_lines : Addr
  c__law_lines : Addr
  a__law_claim : Addr
  c__law_claim : Addr
  a__law_saying : Addr
  c__law_saying : Addr
  a__law_parts : Addr
  c__law_parts : Addr
  a__law_part_model : Addr
  c__law_part_model : Addr
  a__law_many_sayings : Addr
  c__law_many_sayings : Addr
  a__law_right : Addr
  c__law_right : Addr
  a_law : Addr
  c_law : Addr
  t_part_model_of : Addr
def Ad.tabs (a : Ad) : List Addr := [a.t_part_model_of]
def ga_part_model_of_part_model : List D → List D := fun ws => match ws with | [w0, w1] => [w1, w0] | _ => ([] : List D)
def gg_part_model_of_part_model : List Value → List Value → List Value := fun us ws => match us, ws with | [], [w0, w1] => [w1, w0] | _, _ => ([] : List Value)
def gV_part_model_of_part_model : List V → List V → List V := fun us ws => match us, ws with | [], [w0, w1] => [w1, w0] | _, _ => ([] : List V)
theorem gaR_part_model_of_part_model : ∀ (R : V → D → Prop) (vs : List V) (ds : List D), Paired R vs ds → Paired R (gV_part_model_of_part_model [] vs) (ga_part_model_of_part_model ds) := fun R vs ds r => by
  unfold gV_part_model_of_part_model ga_part_model_of_part_model
  cases r with
  | nil => exact .nil
  | cons a0 r =>
    cases r with
    | nil => exact .nil
    | cons a1 r =>
      cases r with
      | nil => exact (.cons a1 (.cons a0 .nil))
      | cons _ _ => exact .nil
theorem gaL_part_model_of_part_model : ∀ ds : List D, ds.length = 2 → (ga_part_model_of_part_model ds).length = P_part_model_of.length := fun ds h => by
  match ds, h with
  | [_, _], _ => rfl
def ga_parts_model : List D → List D := fun ws => match ws with | [w0] => [w0] | _ => ([] : List D)
def gg_parts_model : List Value → List Value → List Value := fun us ws => match us, ws with | [], [w0] => [w0] | _, _ => ([] : List Value)
def gV_parts_model : List V → List V → List V := fun us ws => match us, ws with | [], [w0] => [w0] | _, _ => ([] : List V)
theorem gaR_parts_model : ∀ (R : V → D → Prop) (vs : List V) (ds : List D), Paired R vs ds → Paired R (gV_parts_model [] vs) (ga_parts_model ds) := fun R vs ds r => by
  unfold gV_parts_model ga_parts_model
  cases r with
  | nil => exact .nil
  | cons a0 r =>
    cases r with
    | nil => exact (.cons a0 .nil)
    | cons _ _ => exact .nil
theorem gaL_parts_model : ∀ ds : List D, ds.length = 1 → (ga_parts_model ds).length = P_parts.length := fun ds h => by
  match ds, h with
  | [_], _ => rfl
structure Fd where
  d_claim_names : FuncData
  d_names_within : FuncData
  d_own_names : FuncData
  d_parts : FuncData
  d_part_model_of : FuncData
  d__law_pool : FuncData
  d__law_draw : FuncData
  d__law_pick : FuncData
  d__law_mingled : FuncData
  d__law_same : FuncData
  d__law_claim_names : FuncData
  d__law_own : FuncData
  d__law_domain : FuncData
  d__law_some : FuncData
  d__law_sum : FuncData
  d__law_lines : FuncData
  d__law_claim : FuncData
  d__law_saying : FuncData
  d__law_parts : FuncData
  d__law_part_model : FuncData
  d__law_many_sayings : FuncData
  d__law_right : FuncData
  d_law : FuncData
structure Txt (w : World) (K : PySem.W.Frag) (mg : Str → Option Value) (base : Heap) (a : Ad) (d : Fd) : Prop where
  F_claim_names : FunC K "claim_names" "claim_names" s_claim_names a.a_claim_names d.d_claim_names a.c_claim_names
  k_claim_names : PySem.W.keepIn K (.ref a.a_claim_names) = true
  b_claim_names : Binds K d.d_claim_names P_claim_names []
  m_claim_names : mg "claim_names" = some (.ref a.a_claim_names)
  F_names_within : FunC K "names_within" "names_within" s_names_within a.a_names_within d.d_names_within a.c_names_within
  k_names_within : PySem.W.keepIn K (.ref a.a_names_within) = true
  b_names_within : Binds K d.d_names_within P_names_within []
  m_names_within : mg "names_within" = some (.ref a.a_names_within)
  F_own_names : FunC K "own_names" "own_names" s_own_names a.a_own_names d.d_own_names a.c_own_names
  k_own_names : PySem.W.keepIn K (.ref a.a_own_names) = true
  b_own_names : Binds K d.d_own_names P_own_names []
  m_own_names : mg "own_names" = some (.ref a.a_own_names)
  F_parts : FunC K "parts" "parts" s_parts a.a_parts d.d_parts a.c_parts
  k_parts : PySem.W.keepIn K (.ref a.a_parts) = true
  b_parts : Binds K d.d_parts P_parts []
  m_parts : mg "parts" = some (.ref a.a_parts)
  F_part_model_of : FunC K "part_model_of" "part_model_of" s_part_model_of a.a_part_model_of d.d_part_model_of a.c_part_model_of
  k_part_model_of : PySem.W.keepIn K (.ref a.a_part_model_of) = true
  b_part_model_of : Binds K d.d_part_model_of P_part_model_of []
  m_part_model_of : mg "part_model_of" = some (.ref a.a_part_model_of)
  h_part_model_of : TabB base mg a.c_part_model_of a.t_part_model_of
  F__law_pool : FunC K "_law_pool" "_law_pool" s__law_pool a.a__law_pool d.d__law_pool a.c__law_pool
  k__law_pool : PySem.W.keepIn K (.ref a.a__law_pool) = true
  b__law_pool : Binds K d.d__law_pool P__law_pool []
  m__law_pool : mg "_law_pool" = some (.ref a.a__law_pool)
  F__law_draw : FunC K "_law_draw" "_law_draw" s__law_draw a.a__law_draw d.d__law_draw a.c__law_draw
  k__law_draw : PySem.W.keepIn K (.ref a.a__law_draw) = true
  b__law_draw : Binds K d.d__law_draw P__law_draw []
  m__law_draw : mg "_law_draw" = some (.ref a.a__law_draw)
  F__law_pick : FunC K "_law_pick" "_law_pick" s__law_pick a.a__law_pick d.d__law_pick a.c__law_pick
  k__law_pick : PySem.W.keepIn K (.ref a.a__law_pick) = true
  b__law_pick : Binds K d.d__law_pick P__law_pick []
  m__law_pick : mg "_law_pick" = some (.ref a.a__law_pick)
  F__law_mingled : FunC K "_law_mingled" "_law_mingled" s__law_mingled a.a__law_mingled d.d__law_mingled a.c__law_mingled
  k__law_mingled : PySem.W.keepIn K (.ref a.a__law_mingled) = true
  b__law_mingled : Binds K d.d__law_mingled P__law_mingled []
  m__law_mingled : mg "_law_mingled" = some (.ref a.a__law_mingled)
  F__law_same : FunC K "_law_same" "_law_same" s__law_same a.a__law_same d.d__law_same a.c__law_same
  k__law_same : PySem.W.keepIn K (.ref a.a__law_same) = true
  b__law_same : Binds K d.d__law_same P__law_same []
  m__law_same : mg "_law_same" = some (.ref a.a__law_same)
  F__law_claim_names : FunC K "_law_claim_names" "_law_claim_names" s__law_claim_names a.a__law_claim_names d.d__law_claim_names a.c__law_claim_names
  k__law_claim_names : PySem.W.keepIn K (.ref a.a__law_claim_names) = true
  b__law_claim_names : Binds K d.d__law_claim_names P__law_claim_names []
  m__law_claim_names : mg "_law_claim_names" = some (.ref a.a__law_claim_names)
  F__law_own : FunC K "_law_own" "_law_own" s__law_own a.a__law_own d.d__law_own a.c__law_own
  k__law_own : PySem.W.keepIn K (.ref a.a__law_own) = true
  b__law_own : Binds K d.d__law_own P__law_own []
  m__law_own : mg "_law_own" = some (.ref a.a__law_own)
  F__law_domain : FunC K "_law_domain" "_law_domain" s__law_domain a.a__law_domain d.d__law_domain a.c__law_domain
  k__law_domain : PySem.W.keepIn K (.ref a.a__law_domain) = true
  b__law_domain : Binds K d.d__law_domain P__law_domain []
  m__law_domain : mg "_law_domain" = some (.ref a.a__law_domain)
  F__law_some : FunC K "_law_some" "_law_some" s__law_some a.a__law_some d.d__law_some a.c__law_some
  k__law_some : PySem.W.keepIn K (.ref a.a__law_some) = true
  b__law_some : Binds K d.d__law_some P__law_some []
  m__law_some : mg "_law_some" = some (.ref a.a__law_some)
  F__law_sum : FunC K "_law_sum" "_law_sum" s__law_sum a.a__law_sum d.d__law_sum a.c__law_sum
  k__law_sum : PySem.W.keepIn K (.ref a.a__law_sum) = true
  b__law_sum : Binds K d.d__law_sum P__law_sum []
  m__law_sum : mg "_law_sum" = some (.ref a.a__law_sum)
  F__law_lines : FunC K "_law_lines" "_law_lines" s__law_lines a.a__law_lines d.d__law_lines a.c__law_lines
  k__law_lines : PySem.W.keepIn K (.ref a.a__law_lines) = true
  b__law_lines : Binds K d.d__law_lines P__law_lines []
  m__law_lines : mg "_law_lines" = some (.ref a.a__law_lines)
  F__law_claim : FunC K "_law_claim" "_law_claim" s__law_claim a.a__law_claim d.d__law_claim a.c__law_claim
  k__law_claim : PySem.W.keepIn K (.ref a.a__law_claim) = true
  b__law_claim : Binds K d.d__law_claim P__law_claim []
  m__law_claim : mg "_law_claim" = some (.ref a.a__law_claim)
  F__law_saying : FunC K "_law_saying" "_law_saying" s__law_saying a.a__law_saying d.d__law_saying a.c__law_saying
  k__law_saying : PySem.W.keepIn K (.ref a.a__law_saying) = true
  b__law_saying : Binds K d.d__law_saying P__law_saying []
  m__law_saying : mg "_law_saying" = some (.ref a.a__law_saying)
  F__law_parts : FunC K "_law_parts" "_law_parts" s__law_parts a.a__law_parts d.d__law_parts a.c__law_parts
  k__law_parts : PySem.W.keepIn K (.ref a.a__law_parts) = true
  b__law_parts : Binds K d.d__law_parts P__law_parts []
  m__law_parts : mg "_law_parts" = some (.ref a.a__law_parts)
  F__law_part_model : FunC K "_law_part_model" "_law_part_model" s__law_part_model a.a__law_part_model d.d__law_part_model a.c__law_part_model
  k__law_part_model : PySem.W.keepIn K (.ref a.a__law_part_model) = true
  b__law_part_model : Binds K d.d__law_part_model P__law_part_model []
  m__law_part_model : mg "_law_part_model" = some (.ref a.a__law_part_model)
  F__law_many_sayings : FunC K "_law_many_sayings" "_law_many_sayings" s__law_many_sayings a.a__law_many_sayings d.d__law_many_sayings a.c__law_many_sayings
  k__law_many_sayings : PySem.W.keepIn K (.ref a.a__law_many_sayings) = true
  b__law_many_sayings : Binds K d.d__law_many_sayings P__law_many_sayings []
  m__law_many_sayings : mg "_law_many_sayings" = some (.ref a.a__law_many_sayings)
  F__law_right : FunC K "_law_right" "_law_right" s__law_right a.a__law_right d.d__law_right a.c__law_right
  k__law_right : PySem.W.keepIn K (.ref a.a__law_right) = true
  b__law_right : Binds K d.d__law_right P__law_right []
  m__law_right : mg "_law_right" = some (.ref a.a__law_right)
  F_law : FunC K "law" "law" s_law a.a_law d.d_law a.c_law
  k_law : PySem.W.keepIn K (.ref a.a_law) = true
  b_law : Binds K d.d_law P_law []
  m_law : mg "law" = some (.ref a.a_law)
  z_abs : mg "abs" = none
  z_any : mg "any" = none
  z_bool : mg "bool" = none
  z_dict : mg "dict" = none
  z_enumerate : mg "enumerate" = none
  z_int : mg "int" = none
  z_isinstance : mg "isinstance" = none
  z_len : mg "len" = none
  z_list : mg "list" = none
  z_max : mg "max" = none
  z_min : mg "min" = none
  z_range : mg "range" = none
  z_sorted : mg "sorted" = none
  z_str : mg "str" = none
  z_tuple : mg "tuple" = none
  kb_part_model_of_part_model : KBinds K d.d_part_model_of P_part_model_of ["part", "model"] gg_part_model_of_part_model gV_part_model_of_part_model
  kb_parts_model : KBinds K d.d_parts P_parts ["model"] gg_parts_model gV_parts_model
def m_claim_names (rec : List D → Option (D × List D)) : MS :=
  (mSeq (mIfS (mB (mBin gIn (mBin gIx (mFrz 0) (mC (.int 0))) (mApp gTupD (mCons (mC (.str "from")) (mCons (mC (.str "is")) mNil))))) (mSeq (mRet (mApp gLstD (mCons (mBin gIx (mFrz 0) (mC (.int 1))) mNil)))
  mNext) mNext)
  (mSeq (mIfS (mB (mBin gEq (mBin gIx (mFrz 0) (mC (.int 0))) (mC (.str "not")))) (mSeq (mRet (mCall rec [none] (mCons (mBin gIx (mFrz 0) (mC (.int 1))) mNil)))
  mNext) mNext)
  (mSeq (mAsg (mApp gLstD mNil) (gOwn 1))
  (mSeq (mFor (mItems2 (mBin gIx (mFrz 0) (mC (.int 1)))) (gSet 2) (mSeq (mExt 1 (mLc (mItems2 (mCall rec [none] (mCons (mFrz 2) mNil))) (gSet 3) (mB (mBin gNotIn (mFrz 3) (mVar 1))) (mFrz 3) [3]))
  mNext))
  (mSeq (mRet (mFrz 1))
  mNext)))))
def f_claim_names : Nat → List D → Option (D × List D)
  | 0 => runD N_claim_names.length [] mBad
  | n + 1 => runD N_claim_names.length [] (m_claim_names (f_claim_names n))
theorem ok_claim_names {P : Program} {w : World} {K : PySem.W.Frag} {mg : Str → Option Value} {base : Heap} {a : Ad} {d : Fd} (T : Txt w K mg base a d) : ∀ n : Nat, FnOk P w K mg base CX0 (1 + 1 * n) a.a_claim_names d.d_claim_names P_claim_names (spD K a.tabs [] P_claim_names.length (f_claim_names n))
  | 0 => okD (k := 0) T.F_claim_names sc_claim_names fun A outer s H E S A0 hr => ss_bad
  | n + 1 => by
    have G_claim_names := ok_claim_names (P := P) (w := w) T n
    refine okD (k := 1 + 1 * n + 0) T.F_claim_names sc_claim_names fun A outer s H E S A0 hr => ?_
    exact (ss_cons (s_if (t_cmp (o_in (hu65 hr)) (x_ix (o_ix (hu_of hr)) (xf 0) x_int (fun _ _ => rfl)) (x_tup (FrzT.pe_tupF (xa_cons x_str (xa_cons x_str xa_nil))))) (ss_cons (sret (x_lst (pe_lst (xa_cons (x_ix (o_ix (hu_of hr)) (xf 0) x_int (fun _ _ => rfl)) xa_nil))))
      ss_nil) ss_nil)
      (ss_cons (s_if (t_cmp (o_eq hr.units) (x_ix (o_ix (hu_of hr)) (xf 0) x_int (fun _ _ => rfl)) x_str) (ss_cons (sret (x_call (ts := [none]) G_claim_names (hr.mono (by omega)) (by rfl) T.m_claim_names T.k_claim_names T.b_claim_names (xc_plain (x_ix (o_ix (hu_of hr)) (xf 0) x_int (fun _ _ => rfl)) xc_nil)))
      ss_nil) ss_nil)
      (ss_cons (sown 1 sc_claim_names.nd (x_lstN (pe_lst xa_nil)))
      (ss_cons (s_for PassesOwn.never rfl (w_seq2 (x_ix (o_ix (hu_of hr)) (xf 0) x_int (fun _ _ => rfl))) (fun _ => (gn 2 sc_claim_names.nd)) (fun _ => (ss_cons (sext 1 sc_claim_names.nd (x_lc (own := [("name", 3)]) rfl sc_claim_names.nd (w_seq2 (x_call (ts := [none]) G_claim_names (hr.mono (by omega)) (by rfl) T.m_claim_names T.k_claim_names T.b_claim_names (xc_plain (xf 2) xc_nil))) (blkOk_by (own := [("name", 3)]) (N := N_claim_names) (sc := defScope s_claim_names) (by decide +kernel)) (fun _ _ _ _ _ _ => (gnW 3 sc_claim_names.nd)) (fun _ _ _ _ _ _ => (ts_one (t_cmp (o_notIn (hu65 hr)) (xf 3) (xv 1)))) (fun _ _ _ _ _ _ => (xf 3)) (hv := nios rfl)))
      ss_nil)))
      (ss_cons (sret (xf 1))
      ss_nil)))))
def m_names_within : MS :=
  (mSeq (mAsg (mBin gIx (mFrz 0) (mC (.int 0))) (gSet 1))
  (mSeq (mIfS (mB (mBin gIn (mFrz 1) (mApp gTupD (mCons (mC (.str "least")) (mCons (mC (.str "same")) mNil))))) (mSeq (mRet (mLc (mItems2 (mBin gIx (mFrz 0) (mC (.int 1)))) (gSet 2) mYes (mBin gIx (mFrz 2) (mC (.int 0))) [2]))
  mNext) mNext)
  (mSeq (mIfS (mB (mBin gEq (mFrz 1) (mC (.str "pick")))) (mSeq (mRet (mApp gLstD (mCons (mBin gIx (mFrz 0) (mC (.int 1))) (mStar (mBin gIx (mFrz 0) (mC (.int 2))) (mCons (mBin gIx (mFrz 0) (mC (.int 3))) mNil)))))
  mNext) mNext)
  (mSeq (mIfS (mB (mBin gEq (mFrz 1) (mC (.str "top")))) (mSeq (mRet (mApp gLstD (mStar (mBin gIx (mFrz 0) (mC (.int 1))) (mCons (mBin gIx (mFrz 0) (mC (.int 2))) mNil))))
  mNext) mNext)
  (mSeq (mIfS (mB (mBin gEq (mFrz 1) (mC (.str "product")))) (mSeq (mRet (mApp gListOf2 (mCons (mSl (mFrz 0) (mP (mC (.int 1))) mNoP) mNil)))
  mNext) mNext)
  (mSeq (mIfS (mB (mBin gEq (mFrz 1) (mC (.str "ahead")))) (mSeq (mRet (mApp gLstD (mStar (mBin gIx (mFrz 0) (mC (.int 1))) (mStar (mBin gIx (mFrz 0) (mC (.int 2))) mNil))))
  mNext) mNext)
  (mSeq (mIfS (mB (mBin gEq (mFrz 1) (mC (.str "claim")))) (mSeq (mRet (mApp gLstD mNil))
  mNext) mNext)
  (mSeq (mRet (mApp gListOf2 (mCons (mBin gIx (mFrz 0) (mC (.int 1))) mNil)))
  mNext))))))))
def f_names_within : List D → Option (D × List D) := runD N_names_within.length [] m_names_within
theorem ok_names_within {P : Program} {w : World} {K : PySem.W.Frag} {mg : Str → Option Value} {base : Heap} {a : Ad} {d : Fd} (T : Txt w K mg base a d) : FnOk P w K mg base CX0 1 a.a_names_within d.d_names_within P_names_within (spD K a.tabs [] P_names_within.length f_names_within) := by
  refine okD (k := 0) T.F_names_within sc_names_within fun A outer s H E S A0 hr => ?_
  exact (ss_cons (s_asg (x_ix (o_ix (hu_of hr)) (xf 0) x_int (fun _ _ => rfl)) (gn 1 sc_names_within.nd))
      (ss_cons (s_if (t_cmp (o_in (hu65 hr)) (xf 1) (x_tup (FrzT.pe_tupF (xa_cons x_str (xa_cons x_str xa_nil))))) (ss_cons (sret (x_new (x_lc (own := [("term", 2)]) rfl sc_names_within.nd (w_seq2 (x_ix (o_ix (hu_of hr)) (xf 0) x_int (fun _ _ => rfl))) (blkOk_by (own := [("term", 2)]) (N := N_names_within) (sc := defScope s_names_within) (by decide +kernel)) (fun _ _ _ _ _ _ => (gnW 2 sc_names_within.nd)) (fun _ _ _ _ _ _ => ts_nil) (fun _ _ _ _ _ _ => (x_ix (o_ix (hu_of hr)) (xf 2) x_int (fun _ _ => rfl))) (hv := nios rfl))))
      ss_nil) ss_nil)
      (ss_cons (s_if (t_cmp (o_eq hr.units) (xf 1) x_str) (ss_cons (sret (x_lst (pe_lst (xa_cons (x_ix (o_ix (hu_of hr)) (xf 0) x_int (fun _ _ => rfl)) (xa_star (x_ix (o_ix (hu_of hr)) (xf 0) x_int (fun _ _ => rfl)) (xa_cons (x_ix (o_ix (hu_of hr)) (xf 0) x_int (fun _ _ => rfl)) xa_nil))))))
      ss_nil) ss_nil)
      (ss_cons (s_if (t_cmp (o_eq hr.units) (xf 1) x_str) (ss_cons (sret (x_lst (pe_lst (xa_star (x_ix (o_ix (hu_of hr)) (xf 0) x_int (fun _ _ => rfl)) (xa_cons (x_ix (o_ix (hu_of hr)) (xf 0) x_int (fun _ _ => rfl)) xa_nil)))))
      ss_nil) ss_nil)
      (ss_cons (s_if (t_cmp (o_eq hr.units) (xf 1) x_str) (ss_cons (sret (x_new (x_callTyN (c_listN2 rfl) (by rfl) T.z_list (by decide +kernel) (xa_cons (x_slice (xf 0) (xo_some x_int) xo_none) xa_nil))))
      ss_nil) ss_nil)
      (ss_cons (s_if (t_cmp (o_eq hr.units) (xf 1) x_str) (ss_cons (sret (x_lst (pe_lst (xa_star (x_ix (o_ix (hu_of hr)) (xf 0) x_int (fun _ _ => rfl)) (xa_star (x_ix (o_ix (hu_of hr)) (xf 0) x_int (fun _ _ => rfl)) xa_nil)))))
      ss_nil) ss_nil)
      (ss_cons (s_if (t_cmp (o_eq hr.units) (xf 1) x_str) (ss_cons (sret (x_lst (pe_lst xa_nil)))
      ss_nil) ss_nil)
      (ss_cons (sret (x_new (x_callTyN (c_listN2 rfl) (by rfl) T.z_list (by decide +kernel) (xa_cons (x_ix (o_ix (hu_of hr)) (xf 0) x_int (fun _ _ => rfl)) xa_nil))))
      ss_nil))))))))
def m_own_names (rec : List D → Option (D × List D)) : MS :=
  (mSeq (mIfS (mB (mBin gEq (mBin gIx (mFrz 0) (mC (.int 0))) (mC (.str "claim")))) (mSeq (mRet (mCall (f_claim_names 6) [none] (mCons (mBin gIx (mFrz 0) (mC (.int 1))) mNil)))
  mNext) mNext)
  (mSeq (mIfS (mB (mBin gEq (mBin gIx (mFrz 0) (mC (.int 0))) (mC (.str "when")))) (mSeq (mAsg (mCall (f_claim_names 6) [none] (mCons (mBin gIx (mFrz 0) (mC (.int 1))) mNil)) (gSet 1))
  (mSeq (mRet (mBin gAdd (mFrz 1) (mLc (mItems2 (mCall rec [none] (mCons (mBin gIx (mFrz 0) (mC (.int 2))) mNil))) (gSet 2) (mB (mBin gNotIn (mFrz 2) (mFrz 1))) (mFrz 2) [2])))
  mNext)) mNext)
  (mSeq (mRet (mCall f_names_within [none] (mCons (mFrz 0) mNil)))
  mNext)))
def f_own_names : Nat → List D → Option (D × List D)
  | 0 => runD N_own_names.length [] mBad
  | n + 1 => runD N_own_names.length [] (m_own_names (f_own_names n))
theorem ok_own_names {P : Program} {w : World} {K : PySem.W.Frag} {mg : Str → Option Value} {base : Heap} {a : Ad} {d : Fd} (T : Txt w K mg base a d) : ∀ n : Nat, FnOk P w K mg base CX0 (8 + 1 * n) a.a_own_names d.d_own_names P_own_names (spD K a.tabs [] P_own_names.length (f_own_names n))
  | 0 => okD (k := 7) T.F_own_names sc_own_names fun A outer s H E S A0 hr => ss_bad
  | n + 1 => by
    have G_own_names := ok_own_names (P := P) (w := w) T n
    have G_names_within := ok_names_within (P := P) (w := w) T
    have G_claim_names := ok_claim_names (P := P) (w := w) T 6
    refine okD (k := 8 + 1 * n + 0) T.F_own_names sc_own_names fun A outer s H E S A0 hr => ?_
    exact (ss_cons (s_if (t_cmp (o_eq hr.units) (x_ix (o_ix (hu_of hr)) (xf 0) x_int (fun _ _ => rfl)) x_str) (ss_cons (sret (x_call (ts := [none]) G_claim_names (hr.mono (by omega)) (by rfl) T.m_claim_names T.k_claim_names T.b_claim_names (xc_plain (x_ix (o_ix (hu_of hr)) (xf 0) x_int (fun _ _ => rfl)) xc_nil)))
      ss_nil) ss_nil)
      (ss_cons (s_if (t_cmp (o_eq hr.units) (x_ix (o_ix (hu_of hr)) (xf 0) x_int (fun _ _ => rfl)) x_str) (ss_cons (s_asg (x_call (ts := [none]) G_claim_names (hr.mono (by omega)) (by rfl) T.m_claim_names T.k_claim_names T.b_claim_names (xc_plain (x_ix (o_ix (hu_of hr)) (xf 0) x_int (fun _ _ => rfl)) xc_nil)) (gn 1 sc_own_names.nd))
      (ss_cons (sret (x_bin o_add (xf 1) (x_new (x_lc (own := [("name", 2)]) rfl sc_own_names.nd (w_seq2 (x_call (ts := [none]) G_own_names (hr.mono (by omega)) (by rfl) T.m_own_names T.k_own_names T.b_own_names (xc_plain (x_ix (o_ix (hu_of hr)) (xf 0) x_int (fun _ _ => rfl)) xc_nil))) (blkOk_by (own := [("name", 2)]) (N := N_own_names) (sc := defScope s_own_names) (by decide +kernel)) (fun _ _ _ _ _ _ => (gnW 2 sc_own_names.nd)) (fun _ _ _ _ _ _ => (ts_one (t_cmp (o_notIn (hu65 hr)) (xf 2) (xf 1)))) (fun _ _ _ _ _ _ => (xf 2)) (hv := nios rfl)))))
      ss_nil)) ss_nil)
      (ss_cons (sret (x_call (ts := [none]) G_names_within (hr.mono (by omega)) (by rfl) T.m_names_within T.k_names_within T.b_names_within (xc_plain (xf 0) xc_nil)))
      ss_nil)))
def m_parts : MS :=
  (mSeq (mAsg (mDc (mRange gEnum (mCons (mBin gIx (mFrz 0) (mC (.int 0))) mNil)) (gTupT 2 (gsCons (gSet 7) (gsCons (gTupT 2 (gsCons (gSet 5) (gsCons (gSet 6) gsNil))) gsNil))) mYes (mFrz 5) (mFrz 7) [7, 5, 6]) (gSet 1))
  (mSeq (mFor (mItems2 (mBin gAdd (mBin gIx (mFrz 0) (mC (.int 1))) (mBin gIx (mFrz 0) (mC (.int 2))))) (gSet 2) (mSeq (mAsg (mLc (mItems2 (mCall (f_own_names 3) [none] (mCons (mBin gIx (mFrz 2) (mC (.int 1))) mNil))) (gSet 5) mYes (mBin gIx (mFrz 1) (mFrz 5)) [5]) (gSet 3))
  (mSeq (mAsg (mDc (mPairs (mFrz 1)) (gTupT 2 (gsCons (gSet 5) (gsCons (gSet 7) gsNil))) mYes (mFrz 5) (mIf (mB (mBin gIn (mFrz 7) (mFrz 3))) (mApp gMin1 (mCons (mFrz 3) mNil)) (mFrz 7)) [5, 7]) (gSet 1))
  mNext)))
  (mSeq (mAsg (mC (.dict [])) (gOwn 4))
  (mSeq (mLots 4 (mItems2 (mBin gIx (mFrz 0) (mC (.int 0)))) (gTupT 2 (gsCons (gSet 5) (gsCons (gSet 6) gsNil))) (mBin gIx (mFrz 1) (mFrz 5)) (mFrz 5))
  (mSeq (mRet (mApp gTupOf (mCons (mLc (mItems2 (mFrz 4)) (gSet 8) mYes (mApp gTupOf (mCons (mBin gIx (mFrz 4) (mFrz 8)) mNil)) [8]) mNil)))
  mNext)))))
def f_parts : List D → Option (D × List D) := runD N_parts.length [] m_parts
theorem ok_parts {P : Program} {w : World} {K : PySem.W.Frag} {mg : Str → Option Value} {base : Heap} {a : Ad} {d : Fd} (T : Txt w K mg base a d) : FnOk P w K mg base CX0 12 a.a_parts d.d_parts P_parts (spD K a.tabs [] P_parts.length f_parts) := by
  have G_own_names := ok_own_names (P := P) (w := w) T 3
  refine okD (k := 11) T.F_parts sc_parts fun A outer s H E S A0 hr => ?_
  exact (ss_cons (s_asg (x_new (x_dc (own := [("at", 7), ("x", 5), ("_", 6)]) rfl sc_parts.nd (w_enum (mlen_cons mlen_nil) (by rfl) T.z_enumerate (xa_cons (x_ix (o_ix (hu_of hr)) (xf 0) x_int (fun _ _ => rfl)) xa_nil)) (blkOk_by (own := [("at", 7), ("x", 5), ("_", 6)]) (N := N_parts) (sc := defScope s_parts) (by decide +kernel)) (fun _ _ _ _ _ _ => (g_tupW rfl (gs_consW (gnW 7 sc_parts.nd) (gs_consW (g_tupW rfl (gs_consW (gnW 5 sc_parts.nd) (gs_consW (gnW 6 sc_parts.nd) gs_nilW))) gs_nilW)))) (fun _ _ _ _ _ _ => ts_nil) (fun _ _ _ _ _ _ => (xf 5)) (fun _ _ _ _ _ _ => (xf 7)) (hv := nios rfl))) (gn 1 sc_parts.nd))
      (ss_cons (s_for PassesOwn.never rfl (w_seq2 (x_bin o_add (x_ix (o_ix (hu_of hr)) (xf 0) x_int (fun _ _ => rfl)) (x_ix (o_ix (hu_of hr)) (xf 0) x_int (fun _ _ => rfl)))) (fun _ => (gn 2 sc_parts.nd)) (fun _ => (ss_cons (s_asg (x_new (x_lc (own := [("x", 5)]) rfl sc_parts.nd (w_seq2 (x_call (ts := [none]) G_own_names (hr.mono (by decide)) (by rfl) T.m_own_names T.k_own_names T.b_own_names (xc_plain (x_ix (o_ix (hu_of hr)) (xf 2) x_int (fun _ _ => rfl)) xc_nil))) (blkOk_by (own := [("x", 5)]) (N := N_parts) (sc := defScope s_parts) (by decide +kernel)) (fun _ _ _ _ _ _ => (gnW 5 sc_parts.nd)) (fun _ _ _ _ _ _ => ts_nil) (fun _ _ _ _ _ _ => (x_ix (o_ix (hu_of hr)) (xf 1) (xf 5) (fun _ _ => rfl))) (hv := nios rfl))) (gn 3 sc_parts.nd))
      (ss_cons (s_asg (x_new (x_dc (own := [("x", 5), ("at", 7)]) rfl sc_parts.nd (w_items (xf 1)) (blkOk_by (own := [("x", 5), ("at", 7)]) (N := N_parts) (sc := defScope s_parts) (by decide +kernel)) (fun _ _ _ _ _ _ => (g_tupW rfl (gs_consW (gnW 5 sc_parts.nd) (gs_consW (gnW 7 sc_parts.nd) gs_nilW)))) (fun _ _ _ _ _ _ => ts_nil) (fun _ _ _ _ _ _ => (xf 5)) (fun _ _ _ _ _ _ => (x_if (t_cmp (o_in (hu65 hr)) (xf 7) (xf 3)) (x_callB (c_min1 rfl) (by rfl) T.z_min (by decide +kernel) (xa_cons (xf 3) xa_nil)) (xf 7))) (hv := nios rfl))) (gn 1 sc_parts.nd))
      ss_nil))))
      (ss_cons (sown 4 sc_parts.nd x_dicN)
      (ss_cons (s_forLots (i := 4) (vs := [5, 6]) PassesOwn.never rfl rfl (by first | exact Or.inl rfl | exact Or.inr (Or.inl rfl) | exact Or.inr (Or.inr rfl)) rfl (by decide) (by decide) (by decide) (by decide) (w_seq2 (x_ix (o_ix (hu_of hr)) (xf 0) x_int (fun _ _ => rfl))) (fun _ => (g_tupW rfl (gs_consW (gnW 5 sc_parts.nd) (gs_consW (gnW 6 sc_parts.nd) gs_nilW)))) (fun _ => (x_ix (o_ix (hu_of hr)) (xf 1) (xf 5) (fun _ _ => rfl))) (fun _ => (xf 5)) (m := ⟨rfl, rfl, rfl, rfl⟩))
      (ss_cons (sret (x_callTy c_tuple (by rfl) T.z_tuple (by decide +kernel) (xa_cons (x_new (x_lc (own := [("key", 8)]) rfl sc_parts.nd (w_seq2 (xf 4)) (blkOk_by (own := [("key", 8)]) (N := N_parts) (sc := defScope s_parts) (by decide +kernel)) (fun _ _ _ _ _ _ => (gnW 8 sc_parts.nd)) (fun _ _ _ _ _ _ => ts_nil) (fun _ _ _ _ _ _ => (x_callTy c_tuple (by rfl) T.z_tuple (by decide +kernel) (xa_cons (x_ix (o_ix (hu_of hr)) (xf 4) (xf 8) (fun _ _ => rfl)) xa_nil))) (hv := nios rfl))) xa_nil)))
      ss_nil)))))
def m_part_model_of : MS :=
  (mSeq (mAsg (mLc (mItems2 (mSl (mFrz 0) (mP (mC (.int 1))) mNoP)) (gSet 3) mYes (mLc (mItems2 (mFrz 3)) (gSet 4) (mB (mAn true (mItems2 (mCall (f_own_names 3) [none] (mCons (mBin gIx (mFrz 4) (mC (.int 1))) mNil))) (gSet 5) mYes (mBin gIn (mFrz 5) (mFrz 1)) [5])) (mFrz 4) [4]) [3]) (gSet 2))
  (mSeq (mRet (mApp gTupD (mCons (mApp gTupOf (mCons (mLc (mItems2 (mBin gIx (mFrz 0) (mC (.int 0)))) (gSet 4) (mB (mBin gIn (mBin gIx (mFrz 4) (mC (.int 0))) (mFrz 1))) (mFrz 4) [4]) mNil)) (mCons (mApp gTupOf (mCons (mBin gIx (mFrz 2) (mC (.int 0))) mNil)) (mCons (mApp gTupOf (mCons (mBin gIx (mFrz 2) (mC (.int 1))) mNil)) mNil)))))
  mNext))
def f_part_model_of : List D → Option (D × List D) := runD N_part_model_of.length [] m_part_model_of
theorem ok_part_model_of {P : Program} {w : World} {K : PySem.W.Frag} {mg : Str → Option Value} {base : Heap} {a : Ad} {d : Fd} (T : Txt w K mg base a d) : FnOk P w K mg base CX0 12 a.a_part_model_of d.d_part_model_of P_part_model_of (spD K a.tabs [] P_part_model_of.length f_part_model_of) := by
  have G_own_names := ok_own_names (P := P) (w := w) T 3
  have hT := T.h_part_model_of
  have hP : a.t_part_model_of ∈ a.tabs := by unfold Ad.tabs; simp
  refine okD (k := 11) T.F_part_model_of sc_part_model_of fun A outer s H E S A0 hr => ?_
  exact (ss_cons (sset_lc 2 (own := [("items", 3)]) rfl sc_part_model_of.nd (w_seq2 (x_slice (xf 0) (xo_some x_int) xo_none)) (blkOk_by (own := [("items", 3)]) (N := N_part_model_of) (sc := defScope s_part_model_of) (by decide +kernel)) (fun _ _ _ _ _ _ => (gnW 3 sc_part_model_of.nd)) (fun _ _ _ _ _ _ => ts_nil) (fun _ _ _ _ _ _ => (x_new (x_lc (own := [("item", 4)]) rfl sc_part_model_of.nd (w_seq2 (xf 3)) (blkOk_by (own := [("item", 4)]) (by kernel_rfl)) (fun _ _ _ _ _ _ => (gnW 4 sc_part_model_of.nd)) (fun _ _ _ _ _ _ => (ts_one (t_val (x_any (own := [("x", 5)]) hP hr rfl sc_part_model_of.nd hT rfl (gok_by (own := [("x", 5)]) (by kernel_rfl)) (w_seq2 (x_call (ts := [none]) G_own_names (hr.mono (by decide)) (by rfl) T.m_own_names T.k_own_names T.b_own_names (xc_plain (x_ix (o_ix (hu_of hr)) (xf 4) x_int (fun _ _ => rfl)) xc_nil))) (fun _ _ _ _ _ _ _ => (gnW 5 sc_part_model_of.nd)) (fun _ _ _ _ _ _ _ => ts_nil) (fun _ _ _ _ _ _ _ => (x_cmp (o_in (hu65 (gR (k := 0) (hr.mono (by decide)) _))) (xf 5) (xf 1))) (by rfl) T.z_any (nios rfl))))) (fun _ _ _ _ _ _ => (xf 4)) (hv := nios rfl)))) (hv := nios rfl))
      (ss_cons (sret (x_tup (FrzT.pe_tupF (xa_cons (x_callTy c_tuple (by rfl) T.z_tuple (by decide +kernel) (xa_cons (x_new (x_lc (own := [("item", 4)]) rfl sc_part_model_of.nd (w_seq2 (x_ix (o_ix (hu_of hr)) (xf 0) x_int (fun _ _ => rfl))) (blkOk_by (own := [("item", 4)]) (N := N_part_model_of) (sc := defScope s_part_model_of) (by decide +kernel)) (fun _ _ _ _ _ _ => (gnW 4 sc_part_model_of.nd)) (fun _ _ _ _ _ _ => (ts_one (t_cmp (o_in (hu65 hr)) (x_ix (o_ix (hu_of hr)) (xf 4) x_int (fun _ _ => rfl)) (xf 1)))) (fun _ _ _ _ _ _ => (xf 4)) (hv := nios rfl))) xa_nil)) (xa_cons (x_callTy c_tuple (by rfl) T.z_tuple (by decide +kernel) (xa_cons (x_ix (o_ix (hu_of hr)) (xf 2) x_int (fun _ _ => rfl)) xa_nil)) (xa_cons (x_callTy c_tuple (by rfl) T.z_tuple (by decide +kernel) (xa_cons (x_ix (o_ix (hu_of hr)) (xf 2) x_int (fun _ _ => rfl)) xa_nil)) xa_nil))))))
      ss_nil))
def m__law_pool : MS :=
  (mSeq (mAsg (mApp gLstD mNil) (gOwn 2))
  (mSeq (mAsg (mC (.int 1)) (gSet 3))
  (mSeq (mFor (mItems2 (mFrz 0)) (gSet 4) (mSeq (mAsg (mApp gInt (mCons (mApp gAbs (mCons (mFrz 4) mNil)) mNil)) (gSet 5))
  (mSeq (mIfS (mB (mBin gGe (mFrz 5) (mBin gPow (mC (.int 10)) (mC (.int 18))))) (mSeq (mFor (mRange gRange1 (mCons (mApp gMin2 (mCons (mC (.int 60)) (mCons (mBin gSub (mFrz 1) (mApp gLen (mCons (mVar 2) mNil))) mNil))) mNil)) (gSet 6) (mSeq (mDrop (mMut 2 gApp (mBin gMod (mApp gInt (mCons (mFrz 5) mNil)) (mC (.int 2520)))))
  (mSeq (mAsg (mBin gDiv (mFrz 5) (mC (.int 2520))) (gSet 5))
  (mSeq (mIfS (mB (mBin gEq (mFrz 5) (mC (.int 0)))) (mSeq mBreak
  mNext) mNext)
  mNext))))
  mNext) (mSeq (mAsg (mBin gMod (mApp gInt (mCons (mBin gAdd (mBin gAdd (mBin gMul (mFrz 4) (mC (.int 48271))) (mBin gMul (mApp gLen (mCons (mVar 2) mNil)) (mC (.int 69621)))) (mC (.int 11))) mNil)) (mC (.int 2147483647))) (gSet 7))
  (mSeq (mAsg (mBin gMod (mApp gInt (mCons (mBin gAdd (mBin gMul (mFrz 7) (mFrz 7)) (mC (.int 5))) mNil)) (mC (.int 2147483629))) (gSet 8))
  (mSeq (mDrop (mMut 2 gApp (mBin gMod (mApp gInt (mCons (mBin gDiv (mFrz 8) (mC (.int 7))) mNil)) (mC (.int 2520)))))
  (mSeq (mDrop (mMut 2 gApp (mBin gMod (mBin gMod (mApp gInt (mCons (mBin gAdd (mBin gMul (mFrz 8) (mC (.int 16807))) (mFrz 7)) mNil)) (mC (.int 2147483587))) (mC (.int 2520)))))
  mNext)))))
  (mSeq (mAsg (mBin gMod (mApp gInt (mCons (mBin gAdd (mBin gMul (mFrz 3) (mC (.int 263))) (mFrz 4)) mNil)) (mC (.int 1000003))) (gSet 3))
  mNext))))
  (mSeq (mFor (mRange gRange1 (mCons (mFrz 1) mNil)) (gSet 6) (mSeq (mAsg (mBin gMod (mApp gInt (mCons (mBin gAdd (mBin gAdd (mBin gMul (mFrz 3) (mC (.int 48271))) (mBin gMul (mFrz 6) (mC (.int 69621)))) (mC (.int 17))) mNil)) (mC (.int 2147483647))) (gSet 3))
  (mSeq (mDrop (mMut 2 gApp (mBin gMod (mApp gInt (mCons (mBin gDiv (mFrz 3) (mC (.int 5))) mNil)) (mC (.int 2520)))))
  mNext)))
  (mSeq (mAsg (mSlN (mVar 2) mNoP (mP (mFrz 1))) (gOwn 2))
  (mSeq (mDrop (mMut0 2 gRev))
  (mSeq (mRet (mOwn 2))
  mNext)))))))
def f__law_pool : List D → Option (D × List D) := runN N__law_pool.length [] m__law_pool
theorem ok__law_pool {P : Program} {w : World} {K : PySem.W.Frag} {mg : Str → Option Value} {base : Heap} {a : Ad} {d : Fd} (T : Txt w K mg base a d) : FnOk P w K mg base CX0 1 a.a__law_pool d.d__law_pool P__law_pool (spN K a.tabs [] P__law_pool.length f__law_pool) := by
  refine okN (k := 0) T.F__law_pool sc__law_pool fun A outer s H E S A0 hr => ?_
  exact (ss_cons (sown 2 sc__law_pool.nd (x_lstN (pe_lst xa_nil)))
      (ss_cons (s_asg x_int (gn 3 sc__law_pool.nd))
      (ss_cons (s_for PassesOwn.never rfl (w_seq2 (xf 0)) (fun _ => (gn 4 sc__law_pool.nd)) (fun _ => (ss_cons (s_asg (x_callTy c_int (by rfl) T.z_int (by decide +kernel) (xa_cons (x_callB c_abs (by rfl) T.z_abs (by decide +kernel) (xa_cons (xf 4) xa_nil)) xa_nil)) (gn 5 sc__law_pool.nd))
      (ss_cons (s_if (t_cmp o_ge (xf 5) (x_bin o_pow x_int x_int)) (ss_cons (s_for PassesOwn.never rfl (w_range1 (by rfl) T.z_range (xa_cons (x_callB (c_min2 rfl) (by rfl) T.z_min (by decide +kernel) (xa_cons x_int (xa_cons (x_bin o_sub (xf 1) (x_callB c_len (by rfl) T.z_len (by decide +kernel) (xa_cons (xv 2) xa_nil))) xa_nil))) xa_nil)) (fun _ => (gn 6 sc__law_pool.nd)) (fun _ => (ss_cons (s_expr (x_append (i := 2) rfl (by first | exact Or.inl rfl | exact Or.inr (Or.inl rfl) | exact Or.inr (Or.inr rfl)) (x_bin o_mod (x_callTy c_int (by rfl) T.z_int (by decide +kernel) (xa_cons (xf 5) xa_nil)) x_int)))
      (ss_cons (s_asg (x_bin o_div (xf 5) x_int) (gn 5 sc__law_pool.nd))
      (ss_cons (s_if (t_cmp (o_eq hr.units) (xf 5) x_int) (ss_cons s_break
      ss_nil) ss_nil)
      ss_nil)))))
      ss_nil) (ss_cons (s_asg (x_bin o_mod (x_callTy c_int (by rfl) T.z_int (by decide +kernel) (xa_cons (x_bin o_add (x_bin o_add (x_bin o_mul (xf 4) x_int) (x_bin o_mul (x_callB c_len (by rfl) T.z_len (by decide +kernel) (xa_cons (xv 2) xa_nil)) x_int)) x_int) xa_nil)) x_int) (gn 7 sc__law_pool.nd))
      (ss_cons (s_asg (x_bin o_mod (x_callTy c_int (by rfl) T.z_int (by decide +kernel) (xa_cons (x_bin o_add (x_bin o_mul (xf 7) (xf 7)) x_int) xa_nil)) x_int) (gn 8 sc__law_pool.nd))
      (ss_cons (s_expr (x_append (i := 2) rfl (by first | exact Or.inl rfl | exact Or.inr (Or.inl rfl) | exact Or.inr (Or.inr rfl)) (x_bin o_mod (x_callTy c_int (by rfl) T.z_int (by decide +kernel) (xa_cons (x_bin o_div (xf 8) x_int) xa_nil)) x_int)))
      (ss_cons (s_expr (x_append (i := 2) rfl (by first | exact Or.inl rfl | exact Or.inr (Or.inl rfl) | exact Or.inr (Or.inr rfl)) (x_bin o_mod (x_bin o_mod (x_callTy c_int (by rfl) T.z_int (by decide +kernel) (xa_cons (x_bin o_add (x_bin o_mul (xf 8) x_int) (xf 7)) xa_nil)) x_int) x_int)))
      ss_nil)))))
      (ss_cons (s_asg (x_bin o_mod (x_callTy c_int (by rfl) T.z_int (by decide +kernel) (xa_cons (x_bin o_add (x_bin o_mul (xf 3) x_int) (xf 4)) xa_nil)) x_int) (gn 3 sc__law_pool.nd))
      ss_nil)))))
      (ss_cons (s_for PassesOwn.never rfl (w_range1 (by rfl) T.z_range (xa_cons (xf 1) xa_nil)) (fun _ => (gn 6 sc__law_pool.nd)) (fun _ => (ss_cons (s_asg (x_bin o_mod (x_callTy c_int (by rfl) T.z_int (by decide +kernel) (xa_cons (x_bin o_add (x_bin o_add (x_bin o_mul (xf 3) x_int) (x_bin o_mul (xf 6) x_int)) x_int) xa_nil)) x_int) (gn 3 sc__law_pool.nd))
      (ss_cons (s_expr (x_append (i := 2) rfl (by first | exact Or.inl rfl | exact Or.inr (Or.inl rfl) | exact Or.inr (Or.inr rfl)) (x_bin o_mod (x_callTy c_int (by rfl) T.z_int (by decide +kernel) (xa_cons (x_bin o_div (xf 3) x_int) xa_nil)) x_int)))
      ss_nil))))
      (ss_cons (sown 2 sc__law_pool.nd (x_sliceN (xv 2) xo_none (xo_some (xf 1))))
      (ss_cons (s_expr (x_rev (i := 2) rfl (by first | exact Or.inl rfl | exact Or.inr (Or.inl rfl) | exact Or.inr (Or.inr rfl))))
      (ss_cons (sretO 2)
      ss_nil)))))))
def m__law_draw : MS :=
  (mSeq (mIfS (mB (mBin gEq (mApp gLen (mCons (mVar 0) mNil)) (mC (.int 0)))) (mSeq (mRet (mC (.int 0)))
  mNext) mNext)
  (mSeq (mRet (mBin gMod (mApp gInt (mCons (mMut0 0 gPop0) mNil)) (mFrz 1)))
  mNext))
def f__law_draw : List D → Option (D × List D) := runD N__law_draw.length [0] m__law_draw
theorem ok__law_draw {P : Program} {w : World} {K : PySem.W.Frag} {mg : Str → Option Value} {base : Heap} {a : Ad} {d : Fd} (T : Txt w K mg base a d) : FnOk P w K mg base CX0 1 a.a__law_draw d.d__law_draw P__law_draw (spD K a.tabs [0] P__law_draw.length f__law_draw) := by
  refine okD (k := 0) T.F__law_draw sc__law_draw fun A outer s H E S A0 hr => ?_
  exact (ss_cons (s_if (t_cmp (o_eq hr.units) (x_callB c_len (by rfl) T.z_len (by decide +kernel) (xa_cons (xv 0) xa_nil)) x_int) (ss_cons (sret x_int)
      ss_nil) ss_nil)
      (ss_cons (sret (x_bin o_mod (x_callTy c_int (by rfl) T.z_int (by decide +kernel) (xa_cons (x_pop0 (i := 0) rfl (by first | exact Or.inl rfl | exact Or.inr (Or.inl rfl) | exact Or.inr (Or.inr rfl))) xa_nil)) (xf 1)))
      ss_nil))
def m__law_pick : MS :=
  (mSeq (mRet (mBin gIx (mFrz 1) (mCall f__law_draw [some 0, none] (mConsIo 0 (mCons (mApp gLen (mCons (mFrz 1) mNil)) mNil)))))
  mNext)
def f__law_pick : List D → Option (D × List D) := runD N__law_pick.length [0] m__law_pick
theorem ok__law_pick {P : Program} {w : World} {K : PySem.W.Frag} {mg : Str → Option Value} {base : Heap} {a : Ad} {d : Fd} (T : Txt w K mg base a d) : FnOk P w K mg base CX0 2 a.a__law_pick d.d__law_pick P__law_pick (spD K a.tabs [0] P__law_pick.length f__law_pick) := by
  have G__law_draw := ok__law_draw (P := P) (w := w) T
  refine okD (k := 1) T.F__law_pick sc__law_pick fun A outer s H E S A0 hr => ?_
  exact (ss_cons (sret (x_ix (o_ix (hu_of hr)) (xf 1) (x_call (ts := [some 0, none]) G__law_draw (hr.mono (by decide)) (by rfl) T.m__law_draw T.k__law_draw T.b__law_draw (xcio 0 (xc_plain (x_callB c_len (by rfl) T.z_len (by decide +kernel) (xa_cons (xf 1) xa_nil)) xc_nil))) (fun _ _ => rfl)))
      ss_nil)
def m__law_mingled : MS :=
  (mSeq (mAsg (mApp gListOf2 (mCons (mFrz 1) mNil)) (gOwn 2))
  (mSeq (mRet (mLc (mRange gRange1 (mCons (mApp gLen (mCons (mFrz 1) mNil)) mNil)) (gSet 3) mYes (mMut 2 gPopAt (mCall f__law_draw [some 0, none] (mConsIo 0 (mCons (mApp gLen (mCons (mVar 2) mNil)) mNil)))) [3]))
  mNext))
def f__law_mingled : List D → Option (D × List D) := runD N__law_mingled.length [0] m__law_mingled
theorem ok__law_mingled {P : Program} {w : World} {K : PySem.W.Frag} {mg : Str → Option Value} {base : Heap} {a : Ad} {d : Fd} (T : Txt w K mg base a d) : FnOk P w K mg base CX0 2 a.a__law_mingled d.d__law_mingled P__law_mingled (spD K a.tabs [0] P__law_mingled.length f__law_mingled) := by
  have G__law_draw := ok__law_draw (P := P) (w := w) T
  refine okD (k := 1) T.F__law_mingled sc__law_mingled fun A outer s H E S A0 hr => ?_
  exact (ss_cons (sown 2 sc__law_mingled.nd (x_callTyN (c_listN2 rfl) (by rfl) T.z_list (by decide +kernel) (xa_cons (xf 1) xa_nil)))
      (ss_cons (sret (x_new (x_lc (own := [("k", 3)]) rfl sc__law_mingled.nd (w_range1 (by rfl) T.z_range (xa_cons (x_callB c_len (by rfl) T.z_len (by decide +kernel) (xa_cons (xf 1) xa_nil)) xa_nil)) (blkOk_by (own := [("k", 3)]) (N := N__law_mingled) (sc := defScope s__law_mingled) (by decide +kernel)) (fun _ _ _ _ _ _ => (gnW 3 sc__law_mingled.nd)) (fun _ _ _ _ _ _ => ts_nil) (fun _ _ _ _ _ _ => (x_popAt (i := 2) rfl (by first | exact Or.inl rfl | exact Or.inr (Or.inl rfl) | exact Or.inr (Or.inr rfl)) (x_call (ts := [some 0, none]) G__law_draw (hr.mono (by decide)) (by rfl) T.m__law_draw T.k__law_draw T.b__law_draw (xcio 0 (xc_plain (x_callB c_len (by rfl) T.z_len (by decide +kernel) (xa_cons (xv 2) xa_nil)) xc_nil))))) (hv := nios rfl))))
      ss_nil))
def m__law_same (rec : List D → Option (D × List D)) : MS :=
  (mSeq (mIfS (mB (mUn (gIsi "tuple") (mFrz 1))) (mSeq (mIfS (mOrT (mNotT (mB (mUn (gIsi "tuple") (mFrz 0)))) (mB (mBin gNe (mApp gLen (mCons (mFrz 0) mNil)) (mApp gLen (mCons (mFrz 1) mNil))))) (mSeq (mRet (mC (.bool false)))
  mNext) mNext)
  (mSeq (mFor (mRange gRange1 (mCons (mApp gLen (mCons (mFrz 1) mNil)) mNil)) (gSet 2) (mSeq (mIfS (mNotT (mB (mCall rec [none, none] (mCons (mBin gIx (mFrz 0) (mFrz 2)) (mCons (mBin gIx (mFrz 1) (mFrz 2)) mNil))))) (mSeq (mRet (mC (.bool false)))
  mNext) mNext)
  mNext))
  (mSeq (mRet (mC (.bool true)))
  mNext))) mNext)
  (mSeq (mIfS (mB (mBin gIs (mFrz 1) (mC .none))) (mSeq (mRet (mBin gIs (mFrz 0) (mC .none)))
  mNext) mNext)
  (mSeq (mIfS (mB (mUn (gIsi "bool") (mFrz 1))) (mSeq (mRet (mAndV (mUn (gIsi "bool") (mFrz 0)) (mBin gEq (mFrz 0) (mFrz 1))))
  mNext) mNext)
  (mSeq (mIfS (mB (mUn (gIsi "str") (mFrz 1))) (mSeq (mRet (mAndV (mUn (gIsi "str") (mFrz 0)) (mBin gEq (mFrz 0) (mFrz 1))))
  mNext) mNext)
  (mSeq (mRet (mAndV (mUn (gIsi "int") (mFrz 0)) (mAndV (mNotV (mUn (gIsi "bool") (mFrz 0))) (mBin gEq (mFrz 0) (mFrz 1)))))
  mNext)))))
def f__law_same : Nat → List D → Option (D × List D)
  | 0 => runD N__law_same.length [] mBad
  | n + 1 => runD N__law_same.length [] (m__law_same (f__law_same n))
theorem ok__law_same {P : Program} {w : World} {K : PySem.W.Frag} {mg : Str → Option Value} {base : Heap} {a : Ad} {d : Fd} (T : Txt w K mg base a d) : ∀ n : Nat, FnOk P w K mg base CX0 (1 + 1 * n) a.a__law_same d.d__law_same P__law_same (spD K a.tabs [] P__law_same.length (f__law_same n))
  | 0 => okD (k := 0) T.F__law_same sc__law_same fun A outer s H E S A0 hr => ss_bad
  | n + 1 => by
    have G__law_same := ok__law_same (P := P) (w := w) T n
    refine okD (k := 1 + 1 * n + 0) T.F__law_same sc__law_same fun A outer s H E S A0 hr => ?_
    exact (ss_cons (s_if (t_val (x_isi kit_tuple (xf 1) (by rfl) T.z_isinstance (by rfl) T.z_tuple (by decide +kernel))) (ss_cons (s_if (PW.pt (t_or (t_not (t_val (x_isi kit_tuple (xf 0) (by rfl) T.z_isinstance (by rfl) T.z_tuple (by decide +kernel)))) (t_or1 (t_cmp (o_ne hr.units) (x_callB c_len (by rfl) T.z_len (by decide +kernel) (xa_cons (xf 0) xa_nil)) (x_callB c_len (by rfl) T.z_len (by decide +kernel) (xa_cons (xf 1) xa_nil)))))) (ss_cons (sret x_bl)
      ss_nil) ss_nil)
      (ss_cons (s_for PassesOwn.never rfl (w_range1 (by rfl) T.z_range (xa_cons (x_callB c_len (by rfl) T.z_len (by decide +kernel) (xa_cons (xf 1) xa_nil)) xa_nil)) (fun _ => (gn 2 sc__law_same.nd)) (fun _ => (ss_cons (s_if (t_not (t_val (x_call (ts := [none, none]) G__law_same (hr.mono (by omega)) (by rfl) T.m__law_same T.k__law_same T.b__law_same (xc_plain (x_ix (o_ix (hu_of hr)) (xf 0) (xf 2) (fun _ _ => rfl)) (xc_plain (x_ix (o_ix (hu_of hr)) (xf 1) (xf 2) (fun _ _ => rfl)) xc_nil))))) (ss_cons (sret x_bl)
      ss_nil) ss_nil)
      ss_nil)))
      (ss_cons (sret x_bl)
      ss_nil))) ss_nil)
      (ss_cons (s_if (t_cmp o_is (xf 1) x_non) (ss_cons (sret (x_cmp o_is (xf 0) x_non))
      ss_nil) ss_nil)
      (ss_cons (s_if (t_val (x_isi kit_bool (xf 1) (by rfl) T.z_isinstance (by rfl) T.z_bool (by decide +kernel))) (ss_cons (sret (x_and (x_isi kit_bool (xf 0) (by rfl) T.z_isinstance (by rfl) T.z_bool (by decide +kernel)) (x_one (x_cmp (o_eq hr.units) (xf 0) (xf 1)))))
      ss_nil) ss_nil)
      (ss_cons (s_if (t_val (x_isi kit_str (xf 1) (by rfl) T.z_isinstance (by rfl) T.z_str (by decide +kernel))) (ss_cons (sret (x_and (x_isi kit_str (xf 0) (by rfl) T.z_isinstance (by rfl) T.z_str (by decide +kernel)) (x_one (x_cmp (o_eq hr.units) (xf 0) (xf 1)))))
      ss_nil) ss_nil)
      (ss_cons (sret (x_and (x_isi kit_int (xf 0) (by rfl) T.z_isinstance (by rfl) T.z_int (by decide +kernel)) (x_and (x_not (x_isi kit_bool (xf 0) (by rfl) T.z_isinstance (by rfl) T.z_bool (by decide +kernel))) (x_one (x_cmp (o_eq hr.units) (xf 0) (xf 1))))))
      ss_nil)))))
def m__law_claim_names (rec : List D → Option (D × List D)) : MS :=
  (mSeq (mIfS (mB (mBin gIn (mBin gIx (mFrz 0) (mC (.int 0))) (mApp gLstD (mCons (mC (.str "from")) (mCons (mC (.str "is")) mNil))))) (mSeq (mRet (mApp gLstD (mCons (mBin gIx (mFrz 0) (mC (.int 1))) mNil)))
  mNext) mNext)
  (mSeq (mIfS (mB (mBin gEq (mBin gIx (mFrz 0) (mC (.int 0))) (mC (.str "not")))) (mSeq (mRet (mCall rec [none] (mCons (mBin gIx (mFrz 0) (mC (.int 1))) mNil)))
  mNext) mNext)
  (mSeq (mAsg (mApp gLstD mNil) (gSet 1))
  (mSeq (mFor (mItems2 (mBin gIx (mFrz 0) (mC (.int 1)))) (gSet 2) (mSeq (mAsg (mBin gAdd (mFrz 1) (mLc (mItems2 (mCall rec [none] (mCons (mFrz 2) mNil))) (gSet 3) (mB (mBin gNotIn (mFrz 3) (mFrz 1))) (mFrz 3) [3])) (gSet 1))
  mNext))
  (mSeq (mRet (mFrz 1))
  mNext)))))
def f__law_claim_names : Nat → List D → Option (D × List D)
  | 0 => runD N__law_claim_names.length [] mBad
  | n + 1 => runD N__law_claim_names.length [] (m__law_claim_names (f__law_claim_names n))
theorem ok__law_claim_names {P : Program} {w : World} {K : PySem.W.Frag} {mg : Str → Option Value} {base : Heap} {a : Ad} {d : Fd} (T : Txt w K mg base a d) : ∀ n : Nat, FnOk P w K mg base CX0 (1 + 1 * n) a.a__law_claim_names d.d__law_claim_names P__law_claim_names (spD K a.tabs [] P__law_claim_names.length (f__law_claim_names n))
  | 0 => okD (k := 0) T.F__law_claim_names sc__law_claim_names fun A outer s H E S A0 hr => ss_bad
  | n + 1 => by
    have G__law_claim_names := ok__law_claim_names (P := P) (w := w) T n
    refine okD (k := 1 + 1 * n + 0) T.F__law_claim_names sc__law_claim_names fun A outer s H E S A0 hr => ?_
    exact (ss_cons (s_if (t_cmp (o_in (hu65 hr)) (x_ix (o_ix (hu_of hr)) (xf 0) x_int (fun _ _ => rfl)) (x_lst (pe_lst (xa_cons x_str (xa_cons x_str xa_nil))))) (ss_cons (sret (x_lst (pe_lst (xa_cons (x_ix (o_ix (hu_of hr)) (xf 0) x_int (fun _ _ => rfl)) xa_nil))))
      ss_nil) ss_nil)
      (ss_cons (s_if (t_cmp (o_eq hr.units) (x_ix (o_ix (hu_of hr)) (xf 0) x_int (fun _ _ => rfl)) x_str) (ss_cons (sret (x_call (ts := [none]) G__law_claim_names (hr.mono (by omega)) (by rfl) T.m__law_claim_names T.k__law_claim_names T.b__law_claim_names (xc_plain (x_ix (o_ix (hu_of hr)) (xf 0) x_int (fun _ _ => rfl)) xc_nil)))
      ss_nil) ss_nil)
      (ss_cons (s_asg (x_lst (pe_lst xa_nil)) (gn 1 sc__law_claim_names.nd))
      (ss_cons (s_for PassesOwn.never rfl (w_seq2 (x_ix (o_ix (hu_of hr)) (xf 0) x_int (fun _ _ => rfl))) (fun _ => (gn 2 sc__law_claim_names.nd)) (fun _ => (ss_cons (s_asg (x_bin o_add (xf 1) (x_new (x_lc (own := [("x", 3)]) rfl sc__law_claim_names.nd (w_seq2 (x_call (ts := [none]) G__law_claim_names (hr.mono (by omega)) (by rfl) T.m__law_claim_names T.k__law_claim_names T.b__law_claim_names (xc_plain (xf 2) xc_nil))) (blkOk_by (own := [("x", 3)]) (N := N__law_claim_names) (sc := defScope s__law_claim_names) (by decide +kernel)) (fun _ _ _ _ _ _ => (gnW 3 sc__law_claim_names.nd)) (fun _ _ _ _ _ _ => (ts_one (t_cmp (o_notIn (hu65 hr)) (xf 3) (xf 1)))) (fun _ _ _ _ _ _ => (xf 3)) (hv := nios rfl)))) (gn 1 sc__law_claim_names.nd))
      ss_nil)))
      (ss_cons (sret (xf 1))
      ss_nil)))))
def m__law_own (rec : List D → Option (D × List D)) : MS :=
  (mSeq (mAsg (mBin gIx (mFrz 0) (mC (.int 0))) (gSet 1))
  (mSeq (mIfS (mB (mBin gEq (mFrz 1) (mC (.str "claim")))) (mSeq (mRet (mCall (f__law_claim_names 6) [none] (mCons (mBin gIx (mFrz 0) (mC (.int 1))) mNil)))
  mNext) mNext)
  (mSeq (mIfS (mB (mBin gEq (mFrz 1) (mC (.str "when")))) (mSeq (mAsg (mCall (f__law_claim_names 6) [none] (mCons (mBin gIx (mFrz 0) (mC (.int 1))) mNil)) (gSet 2))
  (mSeq (mRet (mBin gAdd (mFrz 2) (mLc (mItems2 (mCall rec [none] (mCons (mBin gIx (mFrz 0) (mC (.int 2))) mNil))) (gSet 3) (mB (mBin gNotIn (mFrz 3) (mFrz 2))) (mFrz 3) [3])))
  mNext)) mNext)
  (mSeq (mIfS (mB (mBin gIn (mFrz 1) (mApp gLstD (mCons (mC (.str "least")) (mCons (mC (.str "same")) mNil))))) (mSeq (mRet (mLc (mItems2 (mBin gIx (mFrz 0) (mC (.int 1)))) (gSet 4) mYes (mBin gIx (mFrz 4) (mC (.int 0))) [4]))
  mNext) mNext)
  (mSeq (mIfS (mB (mBin gEq (mFrz 1) (mC (.str "product")))) (mSeq (mRet (mApp gListOf2 (mCons (mSl (mFrz 0) (mP (mC (.int 1))) mNoP) mNil)))
  mNext) mNext)
  (mSeq (mIfS (mB (mBin gEq (mFrz 1) (mC (.str "pick")))) (mSeq (mRet (mBin gAdd (mBin gAdd (mApp gLstD (mCons (mBin gIx (mFrz 0) (mC (.int 1))) mNil)) (mApp gListOf2 (mCons (mBin gIx (mFrz 0) (mC (.int 2))) mNil))) (mApp gLstD (mCons (mBin gIx (mFrz 0) (mC (.int 3))) mNil))))
  mNext) mNext)
  (mSeq (mIfS (mB (mBin gEq (mFrz 1) (mC (.str "top")))) (mSeq (mRet (mBin gAdd (mApp gListOf2 (mCons (mBin gIx (mFrz 0) (mC (.int 1))) mNil)) (mApp gLstD (mCons (mBin gIx (mFrz 0) (mC (.int 2))) mNil))))
  mNext) mNext)
  (mSeq (mIfS (mB (mBin gEq (mFrz 1) (mC (.str "ahead")))) (mSeq (mRet (mBin gAdd (mApp gListOf2 (mCons (mBin gIx (mFrz 0) (mC (.int 1))) mNil)) (mApp gListOf2 (mCons (mBin gIx (mFrz 0) (mC (.int 2))) mNil))))
  mNext) mNext)
  (mSeq (mRet (mApp gListOf2 (mCons (mBin gIx (mFrz 0) (mC (.int 1))) mNil)))
  mNext)))))))))
def f__law_own : Nat → List D → Option (D × List D)
  | 0 => runD N__law_own.length [] mBad
  | n + 1 => runD N__law_own.length [] (m__law_own (f__law_own n))
theorem ok__law_own {P : Program} {w : World} {K : PySem.W.Frag} {mg : Str → Option Value} {base : Heap} {a : Ad} {d : Fd} (T : Txt w K mg base a d) : ∀ n : Nat, FnOk P w K mg base CX0 (8 + 1 * n) a.a__law_own d.d__law_own P__law_own (spD K a.tabs [] P__law_own.length (f__law_own n))
  | 0 => okD (k := 7) T.F__law_own sc__law_own fun A outer s H E S A0 hr => ss_bad
  | n + 1 => by
    have G__law_own := ok__law_own (P := P) (w := w) T n
    have G__law_claim_names := ok__law_claim_names (P := P) (w := w) T 6
    refine okD (k := 8 + 1 * n + 0) T.F__law_own sc__law_own fun A outer s H E S A0 hr => ?_
    exact (ss_cons (s_asg (x_ix (o_ix (hu_of hr)) (xf 0) x_int (fun _ _ => rfl)) (gn 1 sc__law_own.nd))
      (ss_cons (s_if (t_cmp (o_eq hr.units) (xf 1) x_str) (ss_cons (sret (x_call (ts := [none]) G__law_claim_names (hr.mono (by omega)) (by rfl) T.m__law_claim_names T.k__law_claim_names T.b__law_claim_names (xc_plain (x_ix (o_ix (hu_of hr)) (xf 0) x_int (fun _ _ => rfl)) xc_nil)))
      ss_nil) ss_nil)
      (ss_cons (s_if (t_cmp (o_eq hr.units) (xf 1) x_str) (ss_cons (s_asg (x_call (ts := [none]) G__law_claim_names (hr.mono (by omega)) (by rfl) T.m__law_claim_names T.k__law_claim_names T.b__law_claim_names (xc_plain (x_ix (o_ix (hu_of hr)) (xf 0) x_int (fun _ _ => rfl)) xc_nil)) (gn 2 sc__law_own.nd))
      (ss_cons (sret (x_bin o_add (xf 2) (x_new (x_lc (own := [("x", 3)]) rfl sc__law_own.nd (w_seq2 (x_call (ts := [none]) G__law_own (hr.mono (by omega)) (by rfl) T.m__law_own T.k__law_own T.b__law_own (xc_plain (x_ix (o_ix (hu_of hr)) (xf 0) x_int (fun _ _ => rfl)) xc_nil))) (blkOk_by (own := [("x", 3)]) (N := N__law_own) (sc := defScope s__law_own) (by decide +kernel)) (fun _ _ _ _ _ _ => (gnW 3 sc__law_own.nd)) (fun _ _ _ _ _ _ => (ts_one (t_cmp (o_notIn (hu65 hr)) (xf 3) (xf 2)))) (fun _ _ _ _ _ _ => (xf 3)) (hv := nios rfl)))))
      ss_nil)) ss_nil)
      (ss_cons (s_if (t_cmp (o_in (hu65 hr)) (xf 1) (x_lst (pe_lst (xa_cons x_str (xa_cons x_str xa_nil))))) (ss_cons (sret (x_new (x_lc (own := [("term", 4)]) rfl sc__law_own.nd (w_seq2 (x_ix (o_ix (hu_of hr)) (xf 0) x_int (fun _ _ => rfl))) (blkOk_by (own := [("term", 4)]) (N := N__law_own) (sc := defScope s__law_own) (by decide +kernel)) (fun _ _ _ _ _ _ => (gnW 4 sc__law_own.nd)) (fun _ _ _ _ _ _ => ts_nil) (fun _ _ _ _ _ _ => (x_ix (o_ix (hu_of hr)) (xf 4) x_int (fun _ _ => rfl))) (hv := nios rfl))))
      ss_nil) ss_nil)
      (ss_cons (s_if (t_cmp (o_eq hr.units) (xf 1) x_str) (ss_cons (sret (x_new (x_callTyN (c_listN2 rfl) (by rfl) T.z_list (by decide +kernel) (xa_cons (x_slice (xf 0) (xo_some x_int) xo_none) xa_nil))))
      ss_nil) ss_nil)
      (ss_cons (s_if (t_cmp (o_eq hr.units) (xf 1) x_str) (ss_cons (sret (x_bin o_add (x_bin o_add (x_lst (pe_lst (xa_cons (x_ix (o_ix (hu_of hr)) (xf 0) x_int (fun _ _ => rfl)) xa_nil))) (x_new (x_callTyN (c_listN2 rfl) (by rfl) T.z_list (by decide +kernel) (xa_cons (x_ix (o_ix (hu_of hr)) (xf 0) x_int (fun _ _ => rfl)) xa_nil)))) (x_lst (pe_lst (xa_cons (x_ix (o_ix (hu_of hr)) (xf 0) x_int (fun _ _ => rfl)) xa_nil)))))
      ss_nil) ss_nil)
      (ss_cons (s_if (t_cmp (o_eq hr.units) (xf 1) x_str) (ss_cons (sret (x_bin o_add (x_new (x_callTyN (c_listN2 rfl) (by rfl) T.z_list (by decide +kernel) (xa_cons (x_ix (o_ix (hu_of hr)) (xf 0) x_int (fun _ _ => rfl)) xa_nil))) (x_lst (pe_lst (xa_cons (x_ix (o_ix (hu_of hr)) (xf 0) x_int (fun _ _ => rfl)) xa_nil)))))
      ss_nil) ss_nil)
      (ss_cons (s_if (t_cmp (o_eq hr.units) (xf 1) x_str) (ss_cons (sret (x_bin o_add (x_new (x_callTyN (c_listN2 rfl) (by rfl) T.z_list (by decide +kernel) (xa_cons (x_ix (o_ix (hu_of hr)) (xf 0) x_int (fun _ _ => rfl)) xa_nil))) (x_new (x_callTyN (c_listN2 rfl) (by rfl) T.z_list (by decide +kernel) (xa_cons (x_ix (o_ix (hu_of hr)) (xf 0) x_int (fun _ _ => rfl)) xa_nil)))))
      ss_nil) ss_nil)
      (ss_cons (sret (x_new (x_callTyN (c_listN2 rfl) (by rfl) T.z_list (by decide +kernel) (xa_cons (x_ix (o_ix (hu_of hr)) (xf 0) x_int (fun _ _ => rfl)) xa_nil))))
      ss_nil)))))))))
def m__law_domain : MS :=
  (mSeq (mAsg (mBin gSub (mCall f__law_draw [some 0, none] (mConsIo 0 (mCons (mC (.int 9)) mNil))) (mC (.int 4))) (gSet 2))
  (mSeq (mAsg (mApp gLstD mNil) (gOwn 3))
  (mSeq (mFor (mRange gRange1 (mCons (mBin gAdd (mC (.int 1)) (mCall f__law_draw [some 0, none] (mConsIo 0 (mCons (mFrz 1) mNil)))) mNil)) (gSet 4) (mSeq (mDrop (mMut 3 gApp (mFrz 2)))
  (mSeq (mAsg (mBin gAdd (mBin gAdd (mFrz 2) (mC (.int 1))) (mBin gMul (mCall f__law_draw [some 0, none] (mConsIo 0 (mCons (mC (.int 2)) mNil))) (mCall f__law_draw [some 0, none] (mConsIo 0 (mCons (mC (.int 3)) mNil))))) (gSet 2))
  mNext)))
  (mSeq (mRet (mApp gTupOf (mCons (mVar 3) mNil)))
  mNext))))
def f__law_domain : List D → Option (D × List D) := runD N__law_domain.length [0] m__law_domain
theorem ok__law_domain {P : Program} {w : World} {K : PySem.W.Frag} {mg : Str → Option Value} {base : Heap} {a : Ad} {d : Fd} (T : Txt w K mg base a d) : FnOk P w K mg base CX0 2 a.a__law_domain d.d__law_domain P__law_domain (spD K a.tabs [0] P__law_domain.length f__law_domain) := by
  have G__law_draw := ok__law_draw (P := P) (w := w) T
  refine okD (k := 1) T.F__law_domain sc__law_domain fun A outer s H E S A0 hr => ?_
  exact (ss_cons (s_asg (x_bin o_sub (x_call (ts := [some 0, none]) G__law_draw (hr.mono (by decide)) (by rfl) T.m__law_draw T.k__law_draw T.b__law_draw (xcio 0 (xc_plain x_int xc_nil))) x_int) (gn 2 sc__law_domain.nd))
      (ss_cons (sown 3 sc__law_domain.nd (x_lstN (pe_lst xa_nil)))
      (ss_cons (s_for PassesOwn.never rfl (w_range1 (by rfl) T.z_range (xa_cons (x_bin o_add x_int (x_call (ts := [some 0, none]) G__law_draw (hr.mono (by decide)) (by rfl) T.m__law_draw T.k__law_draw T.b__law_draw (xcio 0 (xc_plain (xf 1) xc_nil)))) xa_nil)) (fun _ => (gn 4 sc__law_domain.nd)) (fun _ => (ss_cons (s_expr (x_append (i := 3) rfl (by first | exact Or.inl rfl | exact Or.inr (Or.inl rfl) | exact Or.inr (Or.inr rfl)) (xf 2)))
      (ss_cons (s_asg (x_bin o_add (x_bin o_add (xf 2) x_int) (x_bin o_mul (x_call (ts := [some 0, none]) G__law_draw (hr.mono (by decide)) (by rfl) T.m__law_draw T.k__law_draw T.b__law_draw (xcio 0 (xc_plain x_int xc_nil))) (x_call (ts := [some 0, none]) G__law_draw (hr.mono (by decide)) (by rfl) T.m__law_draw T.k__law_draw T.b__law_draw (xcio 0 (xc_plain x_int xc_nil))))) (gn 2 sc__law_domain.nd))
      ss_nil))))
      (ss_cons (sret (x_callTy c_tuple (by rfl) T.z_tuple (by decide +kernel) (xa_cons (xv 3) xa_nil)))
      ss_nil))))
def m__law_some : MS :=
  (mSeq (mAsg (mBin gAdd (mFrz 2) (mCall f__law_draw [some 0, none] (mConsIo 0 (mCons (mApp gMax2 (mCons (mC (.int 1)) (mCons (mBin gAdd (mBin gSub (mApp gMin2 (mCons (mFrz 3) (mCons (mApp gLen (mCons (mFrz 1) mNil)) mNil))) (mFrz 2)) (mC (.int 1))) mNil))) mNil)))) (gSet 4))
  (mSeq (mRet (mApp gTupOf (mCons (mSl (mCall f__law_mingled [some 0, none] (mConsIo 0 (mCons (mFrz 1) mNil))) mNoP (mP (mFrz 4))) mNil)))
  mNext))
def f__law_some : List D → Option (D × List D) := runD N__law_some.length [0] m__law_some
theorem ok__law_some {P : Program} {w : World} {K : PySem.W.Frag} {mg : Str → Option Value} {base : Heap} {a : Ad} {d : Fd} (T : Txt w K mg base a d) : FnOk P w K mg base CX0 3 a.a__law_some d.d__law_some P__law_some (spD K a.tabs [0] P__law_some.length f__law_some) := by
  have G__law_mingled := ok__law_mingled (P := P) (w := w) T
  have G__law_draw := ok__law_draw (P := P) (w := w) T
  refine okD (k := 2) T.F__law_some sc__law_some fun A outer s H E S A0 hr => ?_
  exact (ss_cons (s_asg (x_bin o_add (xf 2) (x_call (ts := [some 0, none]) G__law_draw (hr.mono (by decide)) (by rfl) T.m__law_draw T.k__law_draw T.b__law_draw (xcio 0 (xc_plain (x_callB (c_max2 rfl) (by rfl) T.z_max (by decide +kernel) (xa_cons x_int (xa_cons (x_bin o_add (x_bin o_sub (x_callB (c_min2 rfl) (by rfl) T.z_min (by decide +kernel) (xa_cons (xf 3) (xa_cons (x_callB c_len (by rfl) T.z_len (by decide +kernel) (xa_cons (xf 1) xa_nil)) xa_nil))) (xf 2)) x_int) xa_nil))) xc_nil)))) (gn 4 sc__law_some.nd))
      (ss_cons (sret (x_callTy c_tuple (by rfl) T.z_tuple (by decide +kernel) (xa_cons (x_slice (x_call (ts := [some 0, none]) G__law_mingled (hr.mono (by decide)) (by rfl) T.m__law_mingled T.k__law_mingled T.b__law_mingled (xcio 0 (xc_plain (xf 1) xc_nil))) xo_none (xo_some (xf 4))) xa_nil)))
      ss_nil))
def m__law_sum : MS :=
  (mSeq (mAsg (mApp gLstD mNil) (gOwn 3))
  (mSeq (mAsg (mC (.int 0)) (gSet 4))
  (mSeq (mFor (mItems2 (mCall f__law_some [some 0, none, none, none] (mConsIo 0 (mCons (mApp gListOf2 (mCons (mFrz 1) mNil)) (mCons (mC (.int 1)) (mCons (mC (.int 4)) mNil)))))) (gSet 5) (mSeq (mAsg (mCall f__law_pick [some 0, none] (mConsIo 0 (mCons (mApp gLstD (mCons (mC (.int 1)) (mCons (mC (.int 1)) (mCons (mUn gNeg (mC (.int 1))) (mCons (mUn gNeg (mC (.int 1))) (mCons (mC (.int 2)) (mCons (mUn gNeg (mC (.int 2))) (mCons (mC (.int 3)) (mCons (mBin gAdd (mC (.int 1)) (mCall f__law_draw [some 0, none] (mConsIo 0 (mCons (mC (.int 100)) mNil)))) mNil))))))))) mNil))) (gSet 6))
  (mSeq (mDrop (mMut 3 gApp (mApp gTupD (mCons (mFrz 5) (mCons (mFrz 6) mNil)))))
  (mSeq (mAsg (mBin gAdd (mFrz 4) (mBin gMul (mFrz 6) (mCall f__law_pick [some 0, none] (mConsIo 0 (mCons (mBin gIx (mFrz 1) (mFrz 5)) mNil))))) (gSet 4))
  mNext))))
  (mSeq (mIfS (mB (mBin gEq (mCall f__law_draw [some 0, none] (mConsIo 0 (mCons (mC (.int 3)) mNil))) (mC (.int 0)))) (mSeq (mAsg (mBin gSub (mBin gAdd (mFrz 4) (mCall f__law_draw [some 0, none] (mConsIo 0 (mCons (mC (.int 5)) mNil)))) (mC (.int 2))) (gSet 4))
  mNext) mNext)
  (mSeq (mRet (mApp gTupD (mCons (mFrz 2) (mCons (mApp gTupOf (mCons (mVar 3) mNil)) (mCons (mFrz 4) mNil)))))
  mNext)))))
def f__law_sum : List D → Option (D × List D) := runD N__law_sum.length [0] m__law_sum
theorem ok__law_sum {P : Program} {w : World} {K : PySem.W.Frag} {mg : Str → Option Value} {base : Heap} {a : Ad} {d : Fd} (T : Txt w K mg base a d) : FnOk P w K mg base CX0 4 a.a__law_sum d.d__law_sum P__law_sum (spD K a.tabs [0] P__law_sum.length f__law_sum) := by
  have G__law_draw := ok__law_draw (P := P) (w := w) T
  have G__law_some := ok__law_some (P := P) (w := w) T
  have G__law_pick := ok__law_pick (P := P) (w := w) T
  refine okD (k := 3) T.F__law_sum sc__law_sum fun A outer s H E S A0 hr => ?_
  exact (ss_cons (sown 3 sc__law_sum.nd (x_lstN (pe_lst xa_nil)))
      (ss_cons (s_asg x_int (gn 4 sc__law_sum.nd))
      (ss_cons (s_for PassesOwn.never rfl (w_seq2 (x_call (ts := [some 0, none, none, none]) G__law_some (hr.mono (by decide)) (by rfl) T.m__law_some T.k__law_some T.b__law_some (xcio 0 (xc_plain (x_new (x_callTyN (c_listN2 rfl) (by rfl) T.z_list (by decide +kernel) (xa_cons (xf 1) xa_nil))) (xc_plain x_int (xc_plain x_int xc_nil)))))) (fun _ => (gn 5 sc__law_sum.nd)) (fun _ => (ss_cons (s_asg (x_call (ts := [some 0, none]) G__law_pick (hr.mono (by decide)) (by rfl) T.m__law_pick T.k__law_pick T.b__law_pick (xcio 0 (xc_plain (x_lst (pe_lst (xa_cons x_int (xa_cons x_int (xa_cons (x_neg x_int) (xa_cons (x_neg x_int) (xa_cons x_int (xa_cons (x_neg x_int) (xa_cons x_int (xa_cons (x_bin o_add x_int (x_call (ts := [some 0, none]) G__law_draw (hr.mono (by decide)) (by rfl) T.m__law_draw T.k__law_draw T.b__law_draw (xcio 0 (xc_plain x_int xc_nil)))) xa_nil)))))))))) xc_nil))) (gn 6 sc__law_sum.nd))
      (ss_cons (s_expr (x_append (i := 3) rfl (by first | exact Or.inl rfl | exact Or.inr (Or.inl rfl) | exact Or.inr (Or.inr rfl)) (x_tup (FrzT.pe_tupF (xa_cons (xf 5) (xa_cons (xf 6) xa_nil))))))
      (ss_cons (s_asg (x_bin o_add (xf 4) (x_bin o_mul (xf 6) (x_call (ts := [some 0, none]) G__law_pick (hr.mono (by decide)) (by rfl) T.m__law_pick T.k__law_pick T.b__law_pick (xcio 0 (xc_plain (x_ix (o_ix (hu_of hr)) (xf 1) (xf 5) (fun _ _ => rfl)) xc_nil))))) (gn 4 sc__law_sum.nd))
      ss_nil)))))
      (ss_cons (s_if (t_cmp (o_eq hr.units) (x_call (ts := [some 0, none]) G__law_draw (hr.mono (by decide)) (by rfl) T.m__law_draw T.k__law_draw T.b__law_draw (xcio 0 (xc_plain x_int xc_nil))) x_int) (ss_cons (s_asg (x_bin o_sub (x_bin o_add (xf 4) (x_call (ts := [some 0, none]) G__law_draw (hr.mono (by decide)) (by rfl) T.m__law_draw T.k__law_draw T.b__law_draw (xcio 0 (xc_plain x_int xc_nil)))) x_int) (gn 4 sc__law_sum.nd))
      ss_nil) ss_nil)
      (ss_cons (sret (x_tup (FrzT.pe_tupF (xa_cons (xf 2) (xa_cons (x_callTy c_tuple (by rfl) T.z_tuple (by decide +kernel) (xa_cons (xv 3) xa_nil)) (xa_cons (xf 4) xa_nil))))))
      ss_nil)))))
def m__law_lines : MS :=
  (mSeq (mAsg (mC (.dict [])) (gOwn 4))
  (mSeq (mFor (mRange gRange1 (mCons (mCall f__law_draw [some 0, none] (mConsIo 0 (mCons (mBin gAdd (mFrz 3) (mC (.int 1))) mNil))) mNil)) (gSet 5) (mSeq (mAsg (mLc (mItems2 (mFrz 2)) (gSet 7) mYes (mCall f__law_pick [some 0, none] (mConsIo 0 (mCons (mBin gIx (mFrz 1) (mFrz 7)) mNil))) [7]) (gOwn 6))
  (mSeq (mIfS (mB (mBin gEq (mCall f__law_draw [some 0, none] (mConsIo 0 (mCons (mC (.int 12)) mNil))) (mC (.int 0)))) (mSeq (mPut 6 (mCall f__law_draw [some 0, none] (mConsIo 0 (mCons (mApp gLen (mCons (mVar 6) mNil)) mNil))) (mC (.int 150)))
  mNext) mNext)
  (mSeq (mPutT 4 (mApp gTupOf (mCons (mVar 6) mNil)) (mC (.bool true)))
  mNext))))
  (mSeq (mRet (mApp gTupOf (mCons (mApp gSorted4 (mCons (mApp gListOfT (mCons (mVar 4) mNil)) mNil)) mNil)))
  mNext)))
def f__law_lines : List D → Option (D × List D) := runD N__law_lines.length [0] m__law_lines
theorem ok__law_lines {P : Program} {w : World} {K : PySem.W.Frag} {mg : Str → Option Value} {base : Heap} {a : Ad} {d : Fd} (T : Txt w K mg base a d) : FnOk P w K mg base CX0 3 a.a__law_lines d.d__law_lines P__law_lines (spD K a.tabs [0] P__law_lines.length f__law_lines) := by
  have G__law_draw := ok__law_draw (P := P) (w := w) T
  have G__law_pick := ok__law_pick (P := P) (w := w) T
  refine okD (k := 2) T.F__law_lines sc__law_lines fun A outer s H E S A0 hr => ?_
  exact (ss_cons (sown 4 sc__law_lines.nd x_dicN)
      (ss_cons (s_for PassesOwn.never rfl (w_range1 (by rfl) T.z_range (xa_cons (x_call (ts := [some 0, none]) G__law_draw (hr.mono (by decide)) (by rfl) T.m__law_draw T.k__law_draw T.b__law_draw (xcio 0 (xc_plain (x_bin o_add (xf 3) x_int) xc_nil))) xa_nil)) (fun _ => (gn 5 sc__law_lines.nd)) (fun _ => (ss_cons (sown_lc 6 (own := [("x", 7)]) rfl sc__law_lines.nd (w_seq2 (xf 2)) (blkOk_by (own := [("x", 7)]) (N := N__law_lines) (sc := defScope s__law_lines) (by decide +kernel)) (fun _ _ _ _ _ _ => (gnW 7 sc__law_lines.nd)) (fun _ _ _ _ _ _ => ts_nil) (fun _ _ _ _ _ _ => (x_call (ts := [some 0, none]) G__law_pick (hr.mono (by decide)) (by rfl) T.m__law_pick T.k__law_pick T.b__law_pick (xcio 0 (xc_plain (x_ix (o_ix (hu_of hr)) (xf 1) (xf 7) (fun _ _ => rfl)) xc_nil)))) (hv := nios rfl))
      (ss_cons (s_if (t_cmp (o_eq hr.units) (x_call (ts := [some 0, none]) G__law_draw (hr.mono (by decide)) (by rfl) T.m__law_draw T.k__law_draw T.b__law_draw (xcio 0 (xc_plain x_int xc_nil))) x_int) (ss_cons (sput 6 (hu_of hr) (x_call (ts := [some 0, none]) G__law_draw (hr.mono (by decide)) (by rfl) T.m__law_draw T.k__law_draw T.b__law_draw (xcio 0 (xc_plain (x_callB c_len (by rfl) T.z_len (by decide +kernel) (xa_cons (xv 6) xa_nil)) xc_nil))) x_int)
      ss_nil) ss_nil)
      (ss_cons (sputT 4 (hu_of hr) (x_callTy c_tuple (by rfl) T.z_tuple (by decide +kernel) (xa_cons (xv 6) xa_nil)) x_bl)
      ss_nil)))))
      (ss_cons (sret (x_callTy c_tuple (by rfl) T.z_tuple (by decide +kernel) (xa_cons (x_callB (c_sorted4 rfl (hu65 hr)) (by rfl) T.z_sorted (by decide +kernel) (xa_cons (x_new (x_callTyN (c_listT rfl) (by rfl) T.z_list (by decide +kernel) (xa_cons (xv 4) xa_nil))) xa_nil)) xa_nil)))
      ss_nil)))
def m__law_claim (rec : List D → Option (D × List D)) : MS :=
  (mSeq (mAsg (mCall f__law_draw [some 0, none] (mConsIo 0 (mCons (mC (.int 6)) mNil))) (gSet 3))
  (mSeq (mAsg (mCall f__law_pick [some 0, none] (mConsIo 0 (mCons (mApp gListOf2 (mCons (mFrz 1) mNil)) mNil))) (gSet 4))
  (mSeq (mAsg (mBin gAdd (mCall f__law_pick [some 0, none] (mConsIo 0 (mCons (mBin gIx (mFrz 1) (mFrz 4)) mNil))) (mApp gInt (mCons (mBin gEq (mCall f__law_draw [some 0, none] (mConsIo 0 (mCons (mC (.int 8)) mNil))) (mC (.int 0))) mNil))) (gSet 5))
  (mSeq (mIfS (mOrT (mB (mBin gLt (mFrz 3) (mC (.int 2)))) (mB (mBin gEq (mFrz 2) (mC (.int 0))))) (mSeq (mRet (mApp gTupD (mCons (mBin gIx (mApp gLstD (mCons (mC (.str "from")) (mCons (mC (.str "is")) mNil))) (mCall f__law_draw [some 0, none] (mConsIo 0 (mCons (mC (.int 2)) mNil)))) (mCons (mFrz 4) (mCons (mFrz 5) mNil)))))
  mNext) mNext)
  (mSeq (mIfS (mB (mBin gEq (mFrz 3) (mC (.int 2)))) (mSeq (mRet (mApp gTupD (mCons (mC (.str "is")) (mCons (mFrz 4) (mCons (mFrz 5) mNil)))))
  mNext) mNext)
  (mSeq (mIfS (mB (mBin gEq (mFrz 3) (mC (.int 3)))) (mSeq (mRet (mApp gTupD (mCons (mC (.str "not")) (mCons (mCall rec [some 0, none, none] (mConsIo 0 (mCons (mFrz 1) (mCons (mBin gSub (mFrz 2) (mC (.int 1))) mNil)))) mNil))))
  mNext) mNext)
  (mSeq (mAsg (mLc (mRange gRange1 (mCons (mCall f__law_draw [some 0, none] (mConsIo 0 (mCons (mC (.int 3)) mNil))) mNil)) (gSet 7) mYes (mCall rec [some 0, none, none] (mConsIo 0 (mCons (mFrz 1) (mCons (mBin gSub (mFrz 2) (mC (.int 1))) mNil)))) [7]) (gSet 6))
  (mSeq (mRet (mApp gTupD (mCons (mBin gIx (mApp gLstD (mCons (mC (.str "and")) (mCons (mC (.str "or")) mNil))) (mBin gSub (mFrz 3) (mC (.int 4)))) (mCons (mApp gTupOf (mCons (mFrz 6) mNil)) mNil))))
  mNext))))))))
def f__law_claim : Nat → List D → Option (D × List D)
  | 0 => runD N__law_claim.length [0] mBad
  | n + 1 => runD N__law_claim.length [0] (m__law_claim (f__law_claim n))
theorem ok__law_claim {P : Program} {w : World} {K : PySem.W.Frag} {mg : Str → Option Value} {base : Heap} {a : Ad} {d : Fd} (T : Txt w K mg base a d) : ∀ n : Nat, FnOk P w K mg base CX0 (3 + 1 * n) a.a__law_claim d.d__law_claim P__law_claim (spD K a.tabs [0] P__law_claim.length (f__law_claim n))
  | 0 => okD (k := 2) T.F__law_claim sc__law_claim fun A outer s H E S A0 hr => ss_bad
  | n + 1 => by
    have G__law_claim := ok__law_claim (P := P) (w := w) T n
    have G__law_draw := ok__law_draw (P := P) (w := w) T
    have G__law_pick := ok__law_pick (P := P) (w := w) T
    refine okD (k := 3 + 1 * n + 0) T.F__law_claim sc__law_claim fun A outer s H E S A0 hr => ?_
    exact (ss_cons (s_asg (x_call (ts := [some 0, none]) G__law_draw (hr.mono (by omega)) (by rfl) T.m__law_draw T.k__law_draw T.b__law_draw (xcio 0 (xc_plain x_int xc_nil))) (gn 3 sc__law_claim.nd))
      (ss_cons (s_asg (x_call (ts := [some 0, none]) G__law_pick (hr.mono (by omega)) (by rfl) T.m__law_pick T.k__law_pick T.b__law_pick (xcio 0 (xc_plain (x_new (x_callTyN (c_listN2 rfl) (by rfl) T.z_list (by decide +kernel) (xa_cons (xf 1) xa_nil))) xc_nil))) (gn 4 sc__law_claim.nd))
      (ss_cons (s_asg (x_bin o_add (x_call (ts := [some 0, none]) G__law_pick (hr.mono (by omega)) (by rfl) T.m__law_pick T.k__law_pick T.b__law_pick (xcio 0 (xc_plain (x_ix (o_ix (hu_of hr)) (xf 1) (xf 4) (fun _ _ => rfl)) xc_nil))) (x_callTy c_int (by rfl) T.z_int (by decide +kernel) (xa_cons (x_cmp (o_eq hr.units) (x_call (ts := [some 0, none]) G__law_draw (hr.mono (by omega)) (by rfl) T.m__law_draw T.k__law_draw T.b__law_draw (xcio 0 (xc_plain x_int xc_nil))) x_int) xa_nil))) (gn 5 sc__law_claim.nd))
      (ss_cons (s_if (PW.pt (t_or (t_cmp o_lt (xf 3) x_int) (t_or1 (t_cmp (o_eq hr.units) (xf 2) x_int)))) (ss_cons (sret (x_tup (FrzT.pe_tupF (xa_cons (x_ix (o_ix (hu_of hr)) (x_lst (pe_lst (xa_cons x_str (xa_cons x_str xa_nil)))) (x_call (ts := [some 0, none]) G__law_draw (hr.mono (by omega)) (by rfl) T.m__law_draw T.k__law_draw T.b__law_draw (xcio 0 (xc_plain x_int xc_nil))) (fun _ _ => rfl)) (xa_cons (xf 4) (xa_cons (xf 5) xa_nil))))))
      ss_nil) ss_nil)
      (ss_cons (s_if (t_cmp (o_eq hr.units) (xf 3) x_int) (ss_cons (sret (x_tup (FrzT.pe_tupF (xa_cons x_str (xa_cons (xf 4) (xa_cons (xf 5) xa_nil))))))
      ss_nil) ss_nil)
      (ss_cons (s_if (t_cmp (o_eq hr.units) (xf 3) x_int) (ss_cons (sret (x_tup (FrzT.pe_tupF (xa_cons x_str (xa_cons (x_call (ts := [some 0, none, none]) G__law_claim (hr.mono (by omega)) (by rfl) T.m__law_claim T.k__law_claim T.b__law_claim (xcio 0 (xc_plain (xf 1) (xc_plain (x_bin o_sub (xf 2) x_int) xc_nil)))) xa_nil)))))
      ss_nil) ss_nil)
      (ss_cons (sset_lc 6 (own := [("k", 7)]) rfl sc__law_claim.nd (w_range1 (by rfl) T.z_range (xa_cons (x_call (ts := [some 0, none]) G__law_draw (hr.mono (by omega)) (by rfl) T.m__law_draw T.k__law_draw T.b__law_draw (xcio 0 (xc_plain x_int xc_nil))) xa_nil)) (blkOk_by (own := [("k", 7)]) (N := N__law_claim) (sc := defScope s__law_claim) (by decide +kernel)) (fun _ _ _ _ _ _ => (gnW 7 sc__law_claim.nd)) (fun _ _ _ _ _ _ => ts_nil) (fun _ _ _ _ _ _ => (x_call (ts := [some 0, none, none]) G__law_claim (hr.mono (by omega)) (by rfl) T.m__law_claim T.k__law_claim T.b__law_claim (xcio 0 (xc_plain (xf 1) (xc_plain (x_bin o_sub (xf 2) x_int) xc_nil))))) (hv := nios rfl))
      (ss_cons (sret (x_tup (FrzT.pe_tupF (xa_cons (x_ix (o_ix (hu_of hr)) (x_lst (pe_lst (xa_cons x_str (xa_cons x_str xa_nil)))) (x_bin o_sub (xf 3) x_int) (fun _ _ => rfl)) (xa_cons (x_callTy c_tuple (by rfl) T.z_tuple (by decide +kernel) (xa_cons (xf 6) xa_nil)) xa_nil)))))
      ss_nil))))))))
def m__law_saying (rec : List D → Option (D × List D)) : MS :=
  (mSeq (mAsg (mApp gListOf2 (mCons (mFrz 1) mNil)) (gSet 3))
  (mSeq (mAsg (mCall f__law_pick [some 0, none] (mConsIo 0 (mCons (mFrz 2) mNil))) (gSet 4))
  (mSeq (mIfS (mB (mBin gIn (mFrz 4) (mApp gLstD (mCons (mC (.str "least")) (mCons (mC (.str "same")) mNil))))) (mSeq (mRet (mCall f__law_sum [some 0, none, none] (mConsIo 0 (mCons (mFrz 1) (mCons (mFrz 4) mNil)))))
  mNext) mNext)
  (mSeq (mIfS (mB (mBin gIn (mFrz 4) (mApp gLstD (mCons (mC (.str "claim")) (mCons (mC (.str "when")) mNil))))) (mSeq (mAsg (mCall (f__law_claim 6) [some 0, none, none] (mConsIo 0 (mCons (mFrz 1) (mCons (mC (.int 2)) mNil)))) (gSet 5))
  (mSeq (mIfS (mB (mBin gEq (mApp gLen (mCons (mCall (f__law_claim_names 6) [none] (mCons (mFrz 5) mNil)) mNil)) (mC (.int 0)))) (mSeq (mAsg (mApp gTupD (mCons (mC (.str "is")) (mCons (mBin gIx (mFrz 3) (mC (.int 0))) (mCons (mBin gIx (mBin gIx (mFrz 1) (mBin gIx (mFrz 3) (mC (.int 0)))) (mC (.int 0))) mNil)))) (gSet 5))
  mNext) mNext)
  (mSeq (mIfS (mB (mBin gEq (mFrz 4) (mC (.str "claim")))) (mSeq (mRet (mApp gTupD (mCons (mC (.str "claim")) (mCons (mFrz 5) mNil))))
  mNext) mNext)
  (mSeq (mAsg (mCall rec [some 0, none, none] (mConsIo 0 (mCons (mFrz 1) (mCons (mBin gAdd (mLc (mItems2 (mFrz 2)) (gSet 13) (mB (mBin gNe (mFrz 13) (mC (.str "when")))) (mFrz 13) [13]) (mApp gLstD (mCons (mC (.str "claim")) mNil))) mNil)))) (gSet 6))
  (mSeq (mRet (mApp gTupD (mCons (mC (.str "when")) (mCons (mFrz 5) (mCons (mFrz 6) mNil)))))
  mNext))))) mNext)
  (mSeq (mIfS (mAndT (mB (mBin gEq (mFrz 4) (mC (.str "product")))) (mB (mBin gGt (mApp gLen (mCons (mFrz 3) mNil)) (mC (.int 2))))) (mSeq (mRet (mBin gAdd (mApp gTupD (mCons (mC (.str "product")) mNil)) (mApp gTupOf (mCons (mSl (mCall f__law_mingled [some 0, none] (mConsIo 0 (mCons (mFrz 3) mNil))) mNoP (mP (mC (.int 3)))) mNil))))
  mNext) mNext)
  (mSeq (mIfS (mAndT (mB (mBin gEq (mFrz 4) (mC (.str "pick")))) (mB (mBin gGt (mApp gLen (mCons (mFrz 3) mNil)) (mC (.int 2))))) (mSeq (mAsg (mCall f__law_some [some 0, none, none, none] (mConsIo 0 (mCons (mFrz 3) (mCons (mC (.int 3)) (mCons (mC (.int 4)) mNil))))) (gSet 7))
  (mSeq (mRet (mApp gTupD (mCons (mC (.str "pick")) (mCons (mBin gIx (mFrz 7) (mC (.int 0))) (mCons (mSl (mFrz 7) (mP (mC (.int 1))) (mP (mUn gNeg (mC (.int 1))))) (mCons (mBin gIx (mFrz 7) (mUn gNeg (mC (.int 1)))) mNil))))))
  mNext)) mNext)
  (mSeq (mIfS (mAndT (mB (mBin gEq (mFrz 4) (mC (.str "top")))) (mB (mBin gGt (mApp gLen (mCons (mFrz 3) mNil)) (mC (.int 1))))) (mSeq (mAsg (mCall f__law_some [some 0, none, none, none] (mConsIo 0 (mCons (mFrz 3) (mCons (mC (.int 2)) (mCons (mC (.int 4)) mNil))))) (gSet 7))
  (mSeq (mRet (mApp gTupD (mCons (mC (.str "top")) (mCons (mSl (mFrz 7) mNoP (mP (mUn gNeg (mC (.int 1))))) (mCons (mBin gIx (mFrz 7) (mUn gNeg (mC (.int 1)))) mNil)))))
  mNext)) mNext)
  (mSeq (mIfS (mAndT (mB (mBin gEq (mFrz 4) (mC (.str "ahead")))) (mB (mBin gGt (mApp gLen (mCons (mFrz 3) mNil)) (mC (.int 1))))) (mSeq (mAsg (mCall f__law_mingled [some 0, none] (mConsIo 0 (mCons (mFrz 3) mNil))) (gSet 7))
  (mSeq (mAsg (mBin gAdd (mC (.int 1)) (mCall f__law_draw [some 0, none] (mConsIo 0 (mCons (mBin gDiv (mApp gLen (mCons (mFrz 7) mNil)) (mC (.int 2))) mNil)))) (gSet 8))
  (mSeq (mRet (mApp gTupD (mCons (mC (.str "ahead")) (mCons (mApp gTupOf (mCons (mSl (mFrz 7) mNoP (mP (mFrz 8))) mNil)) (mCons (mApp gTupOf (mCons (mSl (mFrz 7) (mP (mFrz 8)) (mP (mBin gMul (mC (.int 2)) (mFrz 8)))) mNil)) mNil)))))
  mNext))) mNext)
  (mSeq (mIfS (mB (mBin gEq (mFrz 4) (mC (.str "unlike")))) (mSeq (mRet (mApp gTupD (mCons (mC (.str "unlike")) (mCons (mCall f__law_some [some 0, none, none, none] (mConsIo 0 (mCons (mFrz 3) (mCons (mC (.int 1)) (mCons (mC (.int 4)) mNil))))) mNil))))
  mNext) mNext)
  (mSeq (mIfS (mB (mBin gEq (mFrz 4) (mC (.str "counts")))) (mSeq (mAsg (mCall f__law_some [some 0, none, none, none] (mConsIo 0 (mCons (mFrz 3) (mCons (mC (.int 1)) (mCons (mC (.int 4)) mNil))))) (gSet 9))
  (mSeq (mAsg (mC (.dict [])) (gOwn 10))
  (mSeq (mFor (mRange gRange1 (mCons (mBin gAdd (mC (.int 1)) (mCall f__law_draw [some 0, none] (mConsIo 0 (mCons (mC (.int 2)) mNil)))) mNil)) (gSet 11) (mSeq (mAsg (mCall f__law_draw [some 0, none] (mConsIo 0 (mCons (mC (.int 2)) mNil))) (gSet 12))
  (mSeq (mPut 10 (mCall f__law_pick [some 0, none] (mConsIo 0 (mCons (mBin gIx (mFrz 1) (mBin gIx (mFrz 9) (mC (.int 0)))) mNil))) (mApp gTupD (mCons (mFrz 12) (mCons (mBin gAdd (mFrz 12) (mCall f__law_draw [some 0, none] (mConsIo 0 (mCons (mC (.int 2)) mNil)))) mNil))))
  mNext)))
  (mSeq (mRet (mApp gTupD (mCons (mC (.str "counts")) (mCons (mFrz 9) (mCons (mApp gTupOf (mCons (mLc (mItems2 (mApp gSorted4 (mCons (mApp gListOf2 (mCons (mVar 10) mNil)) mNil))) (gSet 14) mYes (mBin gAdd (mApp gTupD (mCons (mFrz 14) mNil)) (mBin gIx (mVar 10) (mFrz 14))) [14]) mNil)) mNil)))))
  mNext)))) mNext)
  (mSeq (mAsg (mCall f__law_some [some 0, none, none, none] (mConsIo 0 (mCons (mFrz 3) (mCons (mC (.int 1)) (mCons (mC (.int 3)) mNil))))) (gSet 9))
  (mSeq (mIfS (mB (mBin gEq (mFrz 4) (mC (.str "table")))) (mSeq (mRet (mApp gTupD (mCons (mC (.str "table")) (mCons (mFrz 9) (mCons (mCall f__law_lines [some 0, none, none, none] (mConsIo 0 (mCons (mFrz 1) (mCons (mFrz 9) (mCons (mC (.int 8)) mNil))))) mNil)))))
  mNext) mNext)
  (mSeq (mRet (mApp gTupD (mCons (mC (.str "bar")) (mCons (mFrz 9) (mCons (mCall f__law_lines [some 0, none, none, none] (mConsIo 0 (mCons (mFrz 1) (mCons (mFrz 9) (mCons (mC (.int 5)) mNil))))) mNil)))))
  mNext)))))))))))))
def f__law_saying : Nat → List D → Option (D × List D)
  | 0 => runD N__law_saying.length [0] mBad
  | n + 1 => runD N__law_saying.length [0] (m__law_saying (f__law_saying n))
theorem ok__law_saying {P : Program} {w : World} {K : PySem.W.Frag} {mg : Str → Option Value} {base : Heap} {a : Ad} {d : Fd} (T : Txt w K mg base a d) : ∀ n : Nat, FnOk P w K mg base CX0 (10 + 1 * n) a.a__law_saying d.d__law_saying P__law_saying (spD K a.tabs [0] P__law_saying.length (f__law_saying n))
  | 0 => okD (k := 9) T.F__law_saying sc__law_saying fun A outer s H E S A0 hr => ss_bad
  | n + 1 => by
    have G__law_saying := ok__law_saying (P := P) (w := w) T n
    have G__law_lines := ok__law_lines (P := P) (w := w) T
    have G__law_some := ok__law_some (P := P) (w := w) T
    have G__law_draw := ok__law_draw (P := P) (w := w) T
    have G__law_pick := ok__law_pick (P := P) (w := w) T
    have G__law_mingled := ok__law_mingled (P := P) (w := w) T
    have G__law_claim_names := ok__law_claim_names (P := P) (w := w) T 6
    have G__law_claim := ok__law_claim (P := P) (w := w) T 6
    have G__law_sum := ok__law_sum (P := P) (w := w) T
    refine okD (k := 10 + 1 * n + 0) T.F__law_saying sc__law_saying fun A outer s H E S A0 hr => ?_
    exact (ss_cons (s_asg (x_new (x_callTyN (c_listN2 rfl) (by rfl) T.z_list (by decide +kernel) (xa_cons (xf 1) xa_nil))) (gn 3 sc__law_saying.nd))
      (ss_cons (s_asg (x_call (ts := [some 0, none]) G__law_pick (hr.mono (by omega)) (by rfl) T.m__law_pick T.k__law_pick T.b__law_pick (xcio 0 (xc_plain (xf 2) xc_nil))) (gn 4 sc__law_saying.nd))
      (ss_cons (s_if (t_cmp (o_in (hu65 hr)) (xf 4) (x_lst (pe_lst (xa_cons x_str (xa_cons x_str xa_nil))))) (ss_cons (sret (x_call (ts := [some 0, none, none]) G__law_sum (hr.mono (by omega)) (by rfl) T.m__law_sum T.k__law_sum T.b__law_sum (xcio 0 (xc_plain (xf 1) (xc_plain (xf 4) xc_nil)))))
      ss_nil) ss_nil)
      (ss_cons (s_if (t_cmp (o_in (hu65 hr)) (xf 4) (x_lst (pe_lst (xa_cons x_str (xa_cons x_str xa_nil))))) (ss_cons (s_asg (x_call (ts := [some 0, none, none]) G__law_claim (hr.mono (by omega)) (by rfl) T.m__law_claim T.k__law_claim T.b__law_claim (xcio 0 (xc_plain (xf 1) (xc_plain x_int xc_nil)))) (gn 5 sc__law_saying.nd))
      (ss_cons (s_if (t_cmp (o_eq hr.units) (x_callB c_len (by rfl) T.z_len (by decide +kernel) (xa_cons (x_call (ts := [none]) G__law_claim_names (hr.mono (by omega)) (by rfl) T.m__law_claim_names T.k__law_claim_names T.b__law_claim_names (xc_plain (xf 5) xc_nil)) xa_nil)) x_int) (ss_cons (s_asg (x_tup (FrzT.pe_tupF (xa_cons x_str (xa_cons (x_ix (o_ix (hu_of hr)) (xf 3) x_int (fun _ _ => rfl)) (xa_cons (x_ix (o_ix (hu_of hr)) (x_ix (o_ix (hu_of hr)) (xf 1) (x_ix (o_ix (hu_of hr)) (xf 3) x_int (fun _ _ => rfl)) (fun _ _ => rfl)) x_int (fun _ _ => rfl)) xa_nil))))) (gn 5 sc__law_saying.nd))
      ss_nil) ss_nil)
      (ss_cons (s_if (t_cmp (o_eq hr.units) (xf 4) x_str) (ss_cons (sret (x_tup (FrzT.pe_tupF (xa_cons x_str (xa_cons (xf 5) xa_nil)))))
      ss_nil) ss_nil)
      (ss_cons (s_asg (x_call (ts := [some 0, none, none]) G__law_saying (hr.mono (by omega)) (by rfl) T.m__law_saying T.k__law_saying T.b__law_saying (xcio 0 (xc_plain (xf 1) (xc_plain (x_bin o_add (x_new (x_lc (own := [("one", 13)]) rfl sc__law_saying.nd (w_seq2 (xf 2)) (blkOk_by (own := [("one", 13)]) (N := N__law_saying) (sc := defScope s__law_saying) (by decide +kernel)) (fun _ _ _ _ _ _ => (gnW 13 sc__law_saying.nd)) (fun _ _ _ _ _ _ => (ts_one (t_cmp (o_ne hr.units) (xf 13) x_str))) (fun _ _ _ _ _ _ => (xf 13)) (hv := nios rfl))) (x_lst (pe_lst (xa_cons x_str xa_nil)))) xc_nil)))) (gn 6 sc__law_saying.nd))
      (ss_cons (sret (x_tup (FrzT.pe_tupF (xa_cons x_str (xa_cons (xf 5) (xa_cons (xf 6) xa_nil))))))
      ss_nil))))) ss_nil)
      (ss_cons (s_if (PW.pt (t_and (t_cmp (o_eq hr.units) (xf 4) x_str) (t_and1 (t_cmp o_gt (x_callB c_len (by rfl) T.z_len (by decide +kernel) (xa_cons (xf 3) xa_nil)) x_int)))) (ss_cons (sret (x_bin o_add (x_tup (FrzT.pe_tupF (xa_cons x_str xa_nil))) (x_callTy c_tuple (by rfl) T.z_tuple (by decide +kernel) (xa_cons (x_slice (x_call (ts := [some 0, none]) G__law_mingled (hr.mono (by omega)) (by rfl) T.m__law_mingled T.k__law_mingled T.b__law_mingled (xcio 0 (xc_plain (xf 3) xc_nil))) xo_none (xo_some x_int)) xa_nil))))
      ss_nil) ss_nil)
      (ss_cons (s_if (PW.pt (t_and (t_cmp (o_eq hr.units) (xf 4) x_str) (t_and1 (t_cmp o_gt (x_callB c_len (by rfl) T.z_len (by decide +kernel) (xa_cons (xf 3) xa_nil)) x_int)))) (ss_cons (s_asg (x_call (ts := [some 0, none, none, none]) G__law_some (hr.mono (by omega)) (by rfl) T.m__law_some T.k__law_some T.b__law_some (xcio 0 (xc_plain (xf 3) (xc_plain x_int (xc_plain x_int xc_nil))))) (gn 7 sc__law_saying.nd))
      (ss_cons (sret (x_tup (FrzT.pe_tupF (xa_cons x_str (xa_cons (x_ix (o_ix (hu_of hr)) (xf 7) x_int (fun _ _ => rfl)) (xa_cons (x_slice (xf 7) (xo_some x_int) (xo_some (x_neg x_int))) (xa_cons (x_ix (o_ix (hu_of hr)) (xf 7) (x_neg x_int) (fun _ _ => rfl)) xa_nil)))))))
      ss_nil)) ss_nil)
      (ss_cons (s_if (PW.pt (t_and (t_cmp (o_eq hr.units) (xf 4) x_str) (t_and1 (t_cmp o_gt (x_callB c_len (by rfl) T.z_len (by decide +kernel) (xa_cons (xf 3) xa_nil)) x_int)))) (ss_cons (s_asg (x_call (ts := [some 0, none, none, none]) G__law_some (hr.mono (by omega)) (by rfl) T.m__law_some T.k__law_some T.b__law_some (xcio 0 (xc_plain (xf 3) (xc_plain x_int (xc_plain x_int xc_nil))))) (gn 7 sc__law_saying.nd))
      (ss_cons (sret (x_tup (FrzT.pe_tupF (xa_cons x_str (xa_cons (x_slice (xf 7) xo_none (xo_some (x_neg x_int))) (xa_cons (x_ix (o_ix (hu_of hr)) (xf 7) (x_neg x_int) (fun _ _ => rfl)) xa_nil))))))
      ss_nil)) ss_nil)
      (ss_cons (s_if (PW.pt (t_and (t_cmp (o_eq hr.units) (xf 4) x_str) (t_and1 (t_cmp o_gt (x_callB c_len (by rfl) T.z_len (by decide +kernel) (xa_cons (xf 3) xa_nil)) x_int)))) (ss_cons (s_asg (x_call (ts := [some 0, none]) G__law_mingled (hr.mono (by omega)) (by rfl) T.m__law_mingled T.k__law_mingled T.b__law_mingled (xcio 0 (xc_plain (xf 3) xc_nil))) (gn 7 sc__law_saying.nd))
      (ss_cons (s_asg (x_bin o_add x_int (x_call (ts := [some 0, none]) G__law_draw (hr.mono (by omega)) (by rfl) T.m__law_draw T.k__law_draw T.b__law_draw (xcio 0 (xc_plain (x_bin o_div (x_callB c_len (by rfl) T.z_len (by decide +kernel) (xa_cons (xf 7) xa_nil)) x_int) xc_nil)))) (gn 8 sc__law_saying.nd))
      (ss_cons (sret (x_tup (FrzT.pe_tupF (xa_cons x_str (xa_cons (x_callTy c_tuple (by rfl) T.z_tuple (by decide +kernel) (xa_cons (x_slice (xf 7) xo_none (xo_some (xf 8))) xa_nil)) (xa_cons (x_callTy c_tuple (by rfl) T.z_tuple (by decide +kernel) (xa_cons (x_slice (xf 7) (xo_some (xf 8)) (xo_some (x_bin o_mul x_int (xf 8)))) xa_nil)) xa_nil))))))
      ss_nil))) ss_nil)
      (ss_cons (s_if (t_cmp (o_eq hr.units) (xf 4) x_str) (ss_cons (sret (x_tup (FrzT.pe_tupF (xa_cons x_str (xa_cons (x_call (ts := [some 0, none, none, none]) G__law_some (hr.mono (by omega)) (by rfl) T.m__law_some T.k__law_some T.b__law_some (xcio 0 (xc_plain (xf 3) (xc_plain x_int (xc_plain x_int xc_nil))))) xa_nil)))))
      ss_nil) ss_nil)
      (ss_cons (s_if (t_cmp (o_eq hr.units) (xf 4) x_str) (ss_cons (s_asg (x_call (ts := [some 0, none, none, none]) G__law_some (hr.mono (by omega)) (by rfl) T.m__law_some T.k__law_some T.b__law_some (xcio 0 (xc_plain (xf 3) (xc_plain x_int (xc_plain x_int xc_nil))))) (gn 9 sc__law_saying.nd))
      (ss_cons (sown 10 sc__law_saying.nd x_dicN)
      (ss_cons (s_for PassesOwn.never rfl (w_range1 (by rfl) T.z_range (xa_cons (x_bin o_add x_int (x_call (ts := [some 0, none]) G__law_draw (hr.mono (by omega)) (by rfl) T.m__law_draw T.k__law_draw T.b__law_draw (xcio 0 (xc_plain x_int xc_nil)))) xa_nil)) (fun _ => (gn 11 sc__law_saying.nd)) (fun _ => (ss_cons (s_asg (x_call (ts := [some 0, none]) G__law_draw (hr.mono (by omega)) (by rfl) T.m__law_draw T.k__law_draw T.b__law_draw (xcio 0 (xc_plain x_int xc_nil))) (gn 12 sc__law_saying.nd))
      (ss_cons (sput 10 (hu_of hr) (x_call (ts := [some 0, none]) G__law_pick (hr.mono (by omega)) (by rfl) T.m__law_pick T.k__law_pick T.b__law_pick (xcio 0 (xc_plain (x_ix (o_ix (hu_of hr)) (xf 1) (x_ix (o_ix (hu_of hr)) (xf 9) x_int (fun _ _ => rfl)) (fun _ _ => rfl)) xc_nil))) (x_tup (FrzT.pe_tupF (xa_cons (xf 12) (xa_cons (x_bin o_add (xf 12) (x_call (ts := [some 0, none]) G__law_draw (hr.mono (by omega)) (by rfl) T.m__law_draw T.k__law_draw T.b__law_draw (xcio 0 (xc_plain x_int xc_nil)))) xa_nil)))))
      ss_nil))))
      (ss_cons (sret (x_tup (FrzT.pe_tupF (xa_cons x_str (xa_cons (xf 9) (xa_cons (x_callTy c_tuple (by rfl) T.z_tuple (by decide +kernel) (xa_cons (x_new (x_lc (own := [("v", 14)]) rfl sc__law_saying.nd (w_seq2 (x_callB (c_sorted4 rfl (hu65 hr)) (by rfl) T.z_sorted (by decide +kernel) (xa_cons (x_new (x_callTyN (c_listN2 rfl) (by rfl) T.z_list (by decide +kernel) (xa_cons (xv 10) xa_nil))) xa_nil))) (blkOk_by (own := [("v", 14)]) (N := N__law_saying) (sc := defScope s__law_saying) (by decide +kernel)) (fun _ _ _ _ _ _ => (gnW 14 sc__law_saying.nd)) (fun _ _ _ _ _ _ => ts_nil) (fun _ _ _ _ _ _ => (x_bin o_add (x_tup (FrzT.pe_tupF (xa_cons (xf 14) xa_nil))) (x_ix (o_ix (hu_of hr)) (xv 10) (xf 14) (fun _ _ => rfl)))) (hv := nios rfl))) xa_nil)) xa_nil))))))
      ss_nil)))) ss_nil)
      (ss_cons (s_asg (x_call (ts := [some 0, none, none, none]) G__law_some (hr.mono (by omega)) (by rfl) T.m__law_some T.k__law_some T.b__law_some (xcio 0 (xc_plain (xf 3) (xc_plain x_int (xc_plain x_int xc_nil))))) (gn 9 sc__law_saying.nd))
      (ss_cons (s_if (t_cmp (o_eq hr.units) (xf 4) x_str) (ss_cons (sret (x_tup (FrzT.pe_tupF (xa_cons x_str (xa_cons (xf 9) (xa_cons (x_call (ts := [some 0, none, none, none]) G__law_lines (hr.mono (by omega)) (by rfl) T.m__law_lines T.k__law_lines T.b__law_lines (xcio 0 (xc_plain (xf 1) (xc_plain (xf 9) (xc_plain x_int xc_nil))))) xa_nil))))))
      ss_nil) ss_nil)
      (ss_cons (sret (x_tup (FrzT.pe_tupF (xa_cons x_str (xa_cons (xf 9) (xa_cons (x_call (ts := [some 0, none, none, none]) G__law_lines (hr.mono (by omega)) (by rfl) T.m__law_lines T.k__law_lines T.b__law_lines (xcio 0 (xc_plain (xf 1) (xc_plain (xf 9) (xc_plain x_int xc_nil))))) xa_nil))))))
      ss_nil)))))))))))))
def m__law_parts : MS :=
  (mSeq (mAsg (mLc (mItems2 (mBin gIx (mFrz 0) (mC (.int 0)))) (gSet 4) mYes (mBin gIx (mFrz 4) (mC (.int 0))) [4]) (gSet 1))
  (mSeq (mAsg (mC (.dict [])) (gOwn 2))
  (mSeq (mFor (mRange gRange1 (mCons (mApp gLen (mCons (mFrz 1) mNil)) mNil)) (gSet 3) (mSeq (mPut 2 (mBin gIx (mFrz 1) (mFrz 3)) (mFrz 3))
  mNext))
  (mSeq (mFor (mItems2 (mBin gAdd (mApp gListOf2 (mCons (mBin gIx (mFrz 0) (mC (.int 1))) mNil)) (mApp gListOf2 (mCons (mBin gIx (mFrz 0) (mC (.int 2))) mNil)))) (gSet 4) (mSeq (mAsg (mLc (mItems2 (mCall (f__law_own 3) [none] (mCons (mBin gIx (mFrz 4) (mC (.int 1))) mNil))) (gSet 6) mYes (mBin gIx (mVar 2) (mFrz 6)) [6]) (gSet 5))
  (mSeq (mFor (mItems2 (mFrz 1)) (gSet 6) (mSeq (mIfS (mB (mBin gIn (mBin gIx (mVar 2) (mFrz 6)) (mFrz 5))) (mSeq (mPut 2 (mFrz 6) (mApp gMin1 (mCons (mFrz 5) mNil)))
  mNext) mNext)
  mNext))
  mNext)))
  (mSeq (mAsg (mApp gLstD mNil) (gOwn 7))
  (mSeq (mFor (mRange gRange1 (mCons (mApp gLen (mCons (mFrz 1) mNil)) mNil)) (gSet 3) (mSeq (mAsg (mApp gTupOf (mCons (mLc (mItems2 (mFrz 1)) (gSet 6) (mB (mBin gEq (mBin gIx (mVar 2) (mFrz 6)) (mFrz 3))) (mFrz 6) [6]) mNil)) (gSet 8))
  (mSeq (mIfS (mB (mBin gGt (mApp gLen (mCons (mFrz 8) mNil)) (mC (.int 0)))) (mSeq (mDrop (mMut 7 gApp (mFrz 8)))
  mNext) mNext)
  mNext)))
  (mSeq (mRet (mApp gTupOf (mCons (mVar 7) mNil)))
  mNext)))))))
def f__law_parts : List D → Option (D × List D) := runD N__law_parts.length [] m__law_parts
theorem ok__law_parts {P : Program} {w : World} {K : PySem.W.Frag} {mg : Str → Option Value} {base : Heap} {a : Ad} {d : Fd} (T : Txt w K mg base a d) : FnOk P w K mg base CX0 12 a.a__law_parts d.d__law_parts P__law_parts (spD K a.tabs [] P__law_parts.length f__law_parts) := by
  have G__law_own := ok__law_own (P := P) (w := w) T 3
  refine okD (k := 11) T.F__law_parts sc__law_parts fun A outer s H E S A0 hr => ?_
  exact (ss_cons (sset_lc 1 (own := [("pair", 4)]) rfl sc__law_parts.nd (w_seq2 (x_ix (o_ix (hu_of hr)) (xf 0) x_int (fun _ _ => rfl))) (blkOk_by (own := [("pair", 4)]) (N := N__law_parts) (sc := defScope s__law_parts) (by decide +kernel)) (fun _ _ _ _ _ _ => (gnW 4 sc__law_parts.nd)) (fun _ _ _ _ _ _ => ts_nil) (fun _ _ _ _ _ _ => (x_ix (o_ix (hu_of hr)) (xf 4) x_int (fun _ _ => rfl))) (hv := nios rfl))
      (ss_cons (sown 2 sc__law_parts.nd x_dicN)
      (ss_cons (s_for PassesOwn.never rfl (w_range1 (by rfl) T.z_range (xa_cons (x_callB c_len (by rfl) T.z_len (by decide +kernel) (xa_cons (xf 1) xa_nil)) xa_nil)) (fun _ => (gn 3 sc__law_parts.nd)) (fun _ => (ss_cons (sput 2 (hu_of hr) (x_ix (o_ix (hu_of hr)) (xf 1) (xf 3) (fun _ _ => rfl)) (xf 3))
      ss_nil)))
      (ss_cons (s_for PassesOwn.never rfl (w_seq2 (x_bin o_add (x_new (x_callTyN (c_listN2 rfl) (by rfl) T.z_list (by decide +kernel) (xa_cons (x_ix (o_ix (hu_of hr)) (xf 0) x_int (fun _ _ => rfl)) xa_nil))) (x_new (x_callTyN (c_listN2 rfl) (by rfl) T.z_list (by decide +kernel) (xa_cons (x_ix (o_ix (hu_of hr)) (xf 0) x_int (fun _ _ => rfl)) xa_nil))))) (fun _ => (gn 4 sc__law_parts.nd)) (fun _ => (ss_cons (sset_lc 5 (own := [("x", 6)]) rfl sc__law_parts.nd (w_seq2 (x_call (ts := [none]) G__law_own (hr.mono (by decide)) (by rfl) T.m__law_own T.k__law_own T.b__law_own (xc_plain (x_ix (o_ix (hu_of hr)) (xf 4) x_int (fun _ _ => rfl)) xc_nil))) (blkOk_by (own := [("x", 6)]) (N := N__law_parts) (sc := defScope s__law_parts) (by decide +kernel)) (fun _ _ _ _ _ _ => (gnW 6 sc__law_parts.nd)) (fun _ _ _ _ _ _ => ts_nil) (fun _ _ _ _ _ _ => (x_ix (o_ix (hu_of hr)) (xv 2) (xf 6) (fun _ _ => rfl))) (hv := nios rfl))
      (ss_cons (s_for PassesOwn.never rfl (w_seq2 (xf 1)) (fun _ => (gn 6 sc__law_parts.nd)) (fun _ => (ss_cons (s_if (t_cmp (o_in (hu65 hr)) (x_ix (o_ix (hu_of hr)) (xv 2) (xf 6) (fun _ _ => rfl)) (xf 5)) (ss_cons (sput 2 (hu_of hr) (xf 6) (x_callB (c_min1 rfl) (by rfl) T.z_min (by decide +kernel) (xa_cons (xf 5) xa_nil)))
      ss_nil) ss_nil)
      ss_nil)))
      ss_nil))))
      (ss_cons (sown 7 sc__law_parts.nd (x_lstN (pe_lst xa_nil)))
      (ss_cons (s_for PassesOwn.never rfl (w_range1 (by rfl) T.z_range (xa_cons (x_callB c_len (by rfl) T.z_len (by decide +kernel) (xa_cons (xf 1) xa_nil)) xa_nil)) (fun _ => (gn 3 sc__law_parts.nd)) (fun _ => (ss_cons (s_asg (x_callTy c_tuple (by rfl) T.z_tuple (by decide +kernel) (xa_cons (x_new (x_lc (own := [("x", 6)]) rfl sc__law_parts.nd (w_seq2 (xf 1)) (blkOk_by (own := [("x", 6)]) (N := N__law_parts) (sc := defScope s__law_parts) (by decide +kernel)) (fun _ _ _ _ _ _ => (gnW 6 sc__law_parts.nd)) (fun _ _ _ _ _ _ => (ts_one (t_cmp (o_eq hr.units) (x_ix (o_ix (hu_of hr)) (xv 2) (xf 6) (fun _ _ => rfl)) (xf 3)))) (fun _ _ _ _ _ _ => (xf 6)) (hv := nios rfl))) xa_nil)) (gn 8 sc__law_parts.nd))
      (ss_cons (s_if (t_cmp o_gt (x_callB c_len (by rfl) T.z_len (by decide +kernel) (xa_cons (xf 8) xa_nil)) x_int) (ss_cons (s_expr (x_append (i := 7) rfl (by first | exact Or.inl rfl | exact Or.inr (Or.inl rfl) | exact Or.inr (Or.inr rfl)) (xf 8)))
      ss_nil) ss_nil)
      ss_nil))))
      (ss_cons (sret (x_callTy c_tuple (by rfl) T.z_tuple (by decide +kernel) (xa_cons (xv 7) xa_nil)))
      ss_nil)))))))
def m__law_part_model : MS :=
  (mSeq (mAsg (mLc (mItems2 (mBin gIx (mFrz 0) (mC (.int 1)))) (gSet 4) (mB (mBin gGt (mApp gLen (mCons (mLc (mItems2 (mCall (f__law_own 3) [none] (mCons (mBin gIx (mFrz 4) (mC (.int 1))) mNil))) (gSet 5) (mB (mBin gIn (mFrz 5) (mFrz 1))) (mFrz 5) [5]) mNil)) (mC (.int 0)))) (mFrz 4) [4]) (gSet 2))
  (mSeq (mAsg (mLc (mItems2 (mBin gIx (mFrz 0) (mC (.int 2)))) (gSet 6) (mB (mBin gGt (mApp gLen (mCons (mLc (mItems2 (mCall (f__law_own 3) [none] (mCons (mBin gIx (mFrz 6) (mC (.int 1))) mNil))) (gSet 5) (mB (mBin gIn (mFrz 5) (mFrz 1))) (mFrz 5) [5]) mNil)) (mC (.int 0)))) (mFrz 6) [6]) (gSet 3))
  (mSeq (mRet (mApp gTupD (mCons (mApp gTupOf (mCons (mLc (mItems2 (mBin gIx (mFrz 0) (mC (.int 0)))) (gSet 4) (mB (mBin gIn (mBin gIx (mFrz 4) (mC (.int 0))) (mFrz 1))) (mFrz 4) [4]) mNil)) (mCons (mApp gTupOf (mCons (mFrz 2) mNil)) (mCons (mApp gTupOf (mCons (mFrz 3) mNil)) mNil)))))
  mNext)))
def f__law_part_model : List D → Option (D × List D) := runD N__law_part_model.length [] m__law_part_model
theorem ok__law_part_model {P : Program} {w : World} {K : PySem.W.Frag} {mg : Str → Option Value} {base : Heap} {a : Ad} {d : Fd} (T : Txt w K mg base a d) : FnOk P w K mg base CX0 12 a.a__law_part_model d.d__law_part_model P__law_part_model (spD K a.tabs [] P__law_part_model.length f__law_part_model) := by
  have G__law_own := ok__law_own (P := P) (w := w) T 3
  refine okD (k := 11) T.F__law_part_model sc__law_part_model fun A outer s H E S A0 hr => ?_
  exact (ss_cons (sset_lc 2 (own := [("pair", 4)]) rfl sc__law_part_model.nd (w_seq2 (x_ix (o_ix (hu_of hr)) (xf 0) x_int (fun _ _ => rfl))) (blkOk_by (own := [("pair", 4)]) (N := N__law_part_model) (sc := defScope s__law_part_model) (by decide +kernel)) (fun _ _ _ _ _ _ => (gnW 4 sc__law_part_model.nd)) (fun _ _ _ _ _ _ => (ts_one (t_cmp o_gt (x_callB c_len (by rfl) T.z_len (by decide +kernel) (xa_cons (x_new (x_lc (own := [("x", 5)]) rfl sc__law_part_model.nd (w_seq2 (x_call (ts := [none]) G__law_own (hr.mono (by decide)) (by rfl) T.m__law_own T.k__law_own T.b__law_own (xc_plain (x_ix (o_ix (hu_of hr)) (xf 4) x_int (fun _ _ => rfl)) xc_nil))) (blkOk_by (own := [("x", 5)]) (by kernel_rfl)) (fun _ _ _ _ _ _ => (gnW 5 sc__law_part_model.nd)) (fun _ _ _ _ _ _ => (ts_one (t_cmp (o_in (hu65 hr)) (xf 5) (xf 1)))) (fun _ _ _ _ _ _ => (xf 5)) (hv := nios rfl))) xa_nil)) x_int))) (fun _ _ _ _ _ _ => (xf 4)) (hv := nios rfl))
      (ss_cons (sset_lc 3 (own := [("one", 6)]) rfl sc__law_part_model.nd (w_seq2 (x_ix (o_ix (hu_of hr)) (xf 0) x_int (fun _ _ => rfl))) (blkOk_by (own := [("one", 6)]) (N := N__law_part_model) (sc := defScope s__law_part_model) (by decide +kernel)) (fun _ _ _ _ _ _ => (gnW 6 sc__law_part_model.nd)) (fun _ _ _ _ _ _ => (ts_one (t_cmp o_gt (x_callB c_len (by rfl) T.z_len (by decide +kernel) (xa_cons (x_new (x_lc (own := [("x", 5)]) rfl sc__law_part_model.nd (w_seq2 (x_call (ts := [none]) G__law_own (hr.mono (by decide)) (by rfl) T.m__law_own T.k__law_own T.b__law_own (xc_plain (x_ix (o_ix (hu_of hr)) (xf 6) x_int (fun _ _ => rfl)) xc_nil))) (blkOk_by (own := [("x", 5)]) (by kernel_rfl)) (fun _ _ _ _ _ _ => (gnW 5 sc__law_part_model.nd)) (fun _ _ _ _ _ _ => (ts_one (t_cmp (o_in (hu65 hr)) (xf 5) (xf 1)))) (fun _ _ _ _ _ _ => (xf 5)) (hv := nios rfl))) xa_nil)) x_int))) (fun _ _ _ _ _ _ => (xf 6)) (hv := nios rfl))
      (ss_cons (sret (x_tup (FrzT.pe_tupF (xa_cons (x_callTy c_tuple (by rfl) T.z_tuple (by decide +kernel) (xa_cons (x_new (x_lc (own := [("pair", 4)]) rfl sc__law_part_model.nd (w_seq2 (x_ix (o_ix (hu_of hr)) (xf 0) x_int (fun _ _ => rfl))) (blkOk_by (own := [("pair", 4)]) (N := N__law_part_model) (sc := defScope s__law_part_model) (by decide +kernel)) (fun _ _ _ _ _ _ => (gnW 4 sc__law_part_model.nd)) (fun _ _ _ _ _ _ => (ts_one (t_cmp (o_in (hu65 hr)) (x_ix (o_ix (hu_of hr)) (xf 4) x_int (fun _ _ => rfl)) (xf 1)))) (fun _ _ _ _ _ _ => (xf 4)) (hv := nios rfl))) xa_nil)) (xa_cons (x_callTy c_tuple (by rfl) T.z_tuple (by decide +kernel) (xa_cons (xf 2) xa_nil)) (xa_cons (x_callTy c_tuple (by rfl) T.z_tuple (by decide +kernel) (xa_cons (xf 3) xa_nil)) xa_nil))))))
      ss_nil)))
def m__law_many_sayings : MS :=
  (mSeq (mAsg (mUn gDictQ (mFrz 1)) (gSet 4))
  (mSeq (mAsg (mApp gLstD mNil) (gOwn 5))
  (mSeq (mFor (mItems2 (mFrz 2)) (gSet 6) (mSeq (mAsg (mC (.dict [])) (gOwn 7))
  (mSeq (mFor (mItems2 (mCall f__law_some [some 0, none, none, none] (mConsIo 0 (mCons (mApp gListOf2 (mCons (mFrz 4) mNil)) (mCons (mC (.int 1)) (mCons (mC (.int 4)) mNil)))))) (gSet 8) (mSeq (mPut 7 (mFrz 8) (mBin gIx (mFrz 4) (mFrz 8)))
  mNext))
  (mSeq (mDrop (mMut 5 gApp (mApp gTupD (mCons (mFrz 6) (mCons (mCall (f__law_saying 3) [some 0, none, none] (mConsIo 0 (mCons (mFrz 7) (mCons (mFrz 3) mNil)))) mNil)))))
  mNext))))
  (mSeq (mRet (mFrz 5))
  mNext))))
def f__law_many_sayings : List D → Option (D × List D) := runD N__law_many_sayings.length [0] m__law_many_sayings
theorem ok__law_many_sayings {P : Program} {w : World} {K : PySem.W.Frag} {mg : Str → Option Value} {base : Heap} {a : Ad} {d : Fd} (T : Txt w K mg base a d) : FnOk P w K mg base CX0 14 a.a__law_many_sayings d.d__law_many_sayings P__law_many_sayings (spD K a.tabs [0] P__law_many_sayings.length f__law_many_sayings) := by
  have G__law_saying := ok__law_saying (P := P) (w := w) T 3
  have G__law_some := ok__law_some (P := P) (w := w) T
  refine okD (k := 13) T.F__law_many_sayings sc__law_many_sayings fun A outer s H E S A0 hr => ?_
  exact (ss_cons (s_asg (x_new (x_dictQ rfl (by rfl) T.z_dict (xf 1))) (gn 4 sc__law_many_sayings.nd))
      (ss_cons (sown 5 sc__law_many_sayings.nd (x_lstN (pe_lst xa_nil)))
      (ss_cons (s_for PassesOwn.never rfl (w_seq2 (xf 2)) (fun _ => (gn 6 sc__law_many_sayings.nd)) (fun _ => (ss_cons (sown 7 sc__law_many_sayings.nd x_dicN)
      (ss_cons (s_for PassesOwn.never rfl (w_seq2 (x_call (ts := [some 0, none, none, none]) G__law_some (hr.mono (by decide)) (by rfl) T.m__law_some T.k__law_some T.b__law_some (xcio 0 (xc_plain (x_new (x_callTyN (c_listN2 rfl) (by rfl) T.z_list (by decide +kernel) (xa_cons (xf 4) xa_nil))) (xc_plain x_int (xc_plain x_int xc_nil)))))) (fun _ => (gn 8 sc__law_many_sayings.nd)) (fun _ => (ss_cons (sput 7 (hu_of hr) (xf 8) (x_ix (o_ix (hu_of hr)) (xf 4) (xf 8) (fun _ _ => rfl)))
      ss_nil)))
      (ss_cons (s_expr (x_append (i := 5) rfl (by first | exact Or.inl rfl | exact Or.inr (Or.inl rfl) | exact Or.inr (Or.inr rfl)) (x_tup (FrzT.pe_tupF (xa_cons (xf 6) (xa_cons (x_call (ts := [some 0, none, none]) G__law_saying (hr.mono (by decide)) (by rfl) T.m__law_saying T.k__law_saying T.b__law_saying (xcio 0 (xc_plain (xf 7) (xc_plain (xf 3) xc_nil)))) xa_nil))))))
      ss_nil)))))
      (ss_cons (sret (xf 5))
      ss_nil))))
def m__law_right : MS :=
  (mSeq (mAsg (mCall f__law_parts [none] (mCons (mFrz 0) mNil)) (gSet 2))
  (mSeq (mAsg (mIf (mB (mFrz 1)) (mCallK f_parts ga_parts_model (mCons (mFrz 0) mNil)) (mCall f_parts [none] (mCons (mFrz 0) mNil))) (gSet 3))
  (mSeq (mIfS (mNotT (mB (mCall (f__law_same 14) [none, none] (mCons (mFrz 3) (mCons (mFrz 2) mNil))))) (mSeq (mRet (mC (.bool false)))
  mNext) mNext)
  (mSeq (mFor (mItems2 (mFrz 2)) (gSet 4) (mSeq (mAsg (mIf (mB (mFrz 1)) (mCallK f_part_model_of ga_part_model_of_part_model (mCons (mFrz 4) (mCons (mFrz 0) mNil))) (mCall f_part_model_of [none, none] (mCons (mFrz 0) (mCons (mFrz 4) mNil)))) (gSet 5))
  (mSeq (mIfS (mNotT (mB (mCall (f__law_same 14) [none, none] (mCons (mFrz 5) (mCons (mCall f__law_part_model [none, none] (mCons (mFrz 0) (mCons (mFrz 4) mNil))) mNil))))) (mSeq (mRet (mC (.bool false)))
  mNext) mNext)
  mNext)))
  (mSeq (mRet (mC (.bool true)))
  mNext)))))
def f__law_right : List D → Option (D × List D) := runD N__law_right.length [] m__law_right
theorem ok__law_right {P : Program} {w : World} {K : PySem.W.Frag} {mg : Str → Option Value} {base : Heap} {a : Ad} {d : Fd} (T : Txt w K mg base a d) : FnOk P w K mg base CX0 16 a.a__law_right d.d__law_right P__law_right (spD K a.tabs [] P__law_right.length f__law_right) := by
  have G__law_same := ok__law_same (P := P) (w := w) T 14
  have G__law_part_model := ok__law_part_model (P := P) (w := w) T
  have G_part_model_of := ok_part_model_of (P := P) (w := w) T
  have G_parts := ok_parts (P := P) (w := w) T
  have G__law_parts := ok__law_parts (P := P) (w := w) T
  refine okD (k := 15) T.F__law_right sc__law_right fun A outer s H E S A0 hr => ?_
  exact (ss_cons (s_asg (x_call (ts := [none]) G__law_parts (hr.mono (by decide)) (by rfl) T.m__law_parts T.k__law_parts T.b__law_parts (xc_plain (xf 0) xc_nil)) (gn 2 sc__law_right.nd))
      (ss_cons (s_asg (x_if (t_val (xf 1)) (x_callK0 G_parts (hr.mono (by decide)) (by rfl) T.m_parts T.k_parts T.kb_parts_model (k_cons (xf 0) k_nil) gaR_parts_model (mlen_ga (mlen_cons mlen_nil) gaL_parts_model) runD_len) (x_call (ts := [none]) G_parts (hr.mono (by decide)) (by rfl) T.m_parts T.k_parts T.b_parts (xc_plain (xf 0) xc_nil))) (gn 3 sc__law_right.nd))
      (ss_cons (s_if (t_not (t_val (x_call (ts := [none, none]) G__law_same (hr.mono (by decide)) (by rfl) T.m__law_same T.k__law_same T.b__law_same (xc_plain (xf 3) (xc_plain (xf 2) xc_nil))))) (ss_cons (sret x_bl)
      ss_nil) ss_nil)
      (ss_cons (s_for PassesOwn.never rfl (w_seq2 (xf 2)) (fun _ => (gn 4 sc__law_right.nd)) (fun _ => (ss_cons (s_asg (x_if (t_val (xf 1)) (x_callK0 G_part_model_of (hr.mono (by decide)) (by rfl) T.m_part_model_of T.k_part_model_of T.kb_part_model_of_part_model (k_cons (xf 4) (k_cons (xf 0) k_nil)) gaR_part_model_of_part_model (mlen_ga (mlen_cons (mlen_cons mlen_nil)) gaL_part_model_of_part_model) runD_len) (x_call (ts := [none, none]) G_part_model_of (hr.mono (by decide)) (by rfl) T.m_part_model_of T.k_part_model_of T.b_part_model_of (xc_plain (xf 0) (xc_plain (xf 4) xc_nil)))) (gn 5 sc__law_right.nd))
      (ss_cons (s_if (t_not (t_val (x_call (ts := [none, none]) G__law_same (hr.mono (by decide)) (by rfl) T.m__law_same T.k__law_same T.b__law_same (xc_plain (xf 5) (xc_plain (x_call (ts := [none, none]) G__law_part_model (hr.mono (by decide)) (by rfl) T.m__law_part_model T.k__law_part_model T.b__law_part_model (xc_plain (xf 0) (xc_plain (xf 4) xc_nil))) xc_nil))))) (ss_cons (sret x_bl)
      ss_nil) ss_nil)
      ss_nil))))
      (ss_cons (sret x_bl)
      ss_nil)))))
def m_law : MS :=
  (mSeq (mAsg (mCall f__law_pool [none, none] (mCons (mFrz 0) (mCons (mC (.int 900)) mNil))) (gOwn 1))
  (mSeq (mAsg (mApp gLstD (mCons (mC (.str "least")) (mCons (mC (.str "same")) (mCons (mC (.str "unlike")) (mCons (mC (.str "counts")) (mCons (mC (.str "table")) (mCons (mC (.str "bar")) (mCons (mC (.str "pick")) (mCons (mC (.str "top")) (mCons (mC (.str "ahead")) (mCons (mC (.str "claim")) (mCons (mC (.str "when")) (mCons (mC (.str "product")) mNil))))))))))))) (gSet 2))
  (mSeq (mAsg (mBin gAdd (mC (.int 1)) (mCall f__law_draw [some 1, none] (mConsIo 1 (mCons (mC (.int 7)) mNil)))) (gSet 3))
  (mSeq (mAsg (mC (.int 6)) (gSet 4))
  (mSeq (mIfS (mB (mBin gEq (mCall f__law_draw [some 1, none] (mConsIo 1 (mCons (mC (.int 6)) mNil))) (mC (.int 0)))) (mSeq (mAsg (mC (.int 24)) (gSet 3))
  (mSeq (mAsg (mC (.int 40)) (gSet 4))
  mNext)) mNext)
  (mSeq (mAsg (mCall f__law_mingled [some 1, none] (mConsIo 1 (mCons (mLc (mRange gRange1 (mCons (mFrz 3) mNil)) (gSet 12) mYes (mBin gAdd (mBin gAdd (mC (.str "n")) (mApp gStr (mCons (mFrz 12) mNil))) (mBin gIx (mApp gLstD (mCons (mC (.str "")) (mCons (mC (.str ".a")) (mCons (mC (.str ".b.c")) mNil)))) (mBin gMod (mApp gInt (mCons (mFrz 12) mNil)) (mC (.int 3))))) [12]) mNil))) (gSet 5))
  (mSeq (mAsg (mApp gTupOf (mCons (mLc (mItems2 (mFrz 5)) (gSet 13) mYes (mApp gTupD (mCons (mFrz 13) (mCons (mCall f__law_domain [some 1, none] (mConsIo 1 (mCons (mC (.int 3)) mNil))) mNil))) [13]) mNil)) (gSet 6))
  (mSeq (mAsg (mLc (mRange gRange1 (mCons (mBin gAdd (mFrz 4) (mC (.int 8))) mNil)) (gSet 12) mYes (mBin gAdd (mC (.str "s.")) (mApp gStr (mCons (mFrz 12) mNil))) [12]) (gSet 7))
  (mSeq (mAsg (mCall f__law_many_sayings [some 1, none, none, none] (mConsIo 1 (mCons (mFrz 6) (mCons (mSl (mFrz 7) mNoP (mP (mCall f__law_draw [some 1, none] (mConsIo 1 (mCons (mBin gAdd (mFrz 4) (mC (.int 1))) mNil))))) (mCons (mFrz 2) mNil))))) (gSet 8))
  (mSeq (mAsg (mCall f__law_many_sayings [some 1, none, none, none] (mConsIo 1 (mCons (mFrz 6) (mCons (mSl (mFrz 7) (mP (mFrz 4)) (mP (mBin gAdd (mFrz 4) (mCall f__law_draw [some 1, none] (mConsIo 1 (mCons (mBin gIx (mApp gLstD (mCons (mC (.int 3)) (mCons (mC (.int 9)) mNil))) (mApp gInt (mCons (mBin gGt (mFrz 4) (mC (.int 6))) mNil))) mNil)))))) (mCons (mFrz 2) mNil))))) (gSet 9))
  (mSeq (mAsg (mApp gTupOf (mCons (mLc (mItems2 (mFrz 9)) (gSet 14) mYes (mBin gAdd (mFrz 14) (mApp gTupD (mCons (mBin gAdd (mC (.int 1)) (mCall f__law_draw [some 1, none] (mConsIo 1 (mCons (mC (.int 100)) mNil)))) mNil))) [14]) mNil)) (gSet 9))
  (mSeq (mAsg (mApp gTupD (mCons (mFrz 6) (mCons (mApp gTupOf (mCons (mFrz 8) mNil)) (mCons (mFrz 9) mNil)))) (gSet 10))
  (mSeq (mAsg (mBin gEq (mCall f__law_draw [some 1, none] (mConsIo 1 (mCons (mC (.int 2)) mNil))) (mC (.int 0))) (gSet 11))
  (mSeq (mIfS (mOrT (mNotT (mB (mCall f__law_right [none, none] (mCons (mFrz 10) (mCons (mFrz 11) mNil))))) (mNotT (mB (mCall f__law_right [none, none] (mCons (mApp gTupD (mCons (mFrz 6) (mCons (mApp gTupOf (mCons (mFrz 8) mNil)) (mCons (mApp gTupD mNil) mNil)))) (mCons (mNotV (mFrz 11)) mNil)))))) (mSeq (mRet (mC (.bool false)))
  mNext) mNext)
  (mSeq (mRet (mCall f__law_right [none, none] (mCons (mFrz 10) (mCons (mNotV (mFrz 11)) mNil))))
  mNext)))))))))))))))
def f_law : List D → Option (D × List D) := runD N_law.length [] m_law
theorem ok_law {P : Program} {w : World} {K : PySem.W.Frag} {mg : Str → Option Value} {base : Heap} {a : Ad} {d : Fd} (T : Txt w K mg base a d) : FnOk P w K mg base CX0 17 a.a_law d.d_law P_law (spD K a.tabs [] P_law.length f_law) := by
  have G__law_right := ok__law_right (P := P) (w := w) T
  have G__law_draw := ok__law_draw (P := P) (w := w) T
  have G__law_many_sayings := ok__law_many_sayings (P := P) (w := w) T
  have G__law_domain := ok__law_domain (P := P) (w := w) T
  have G__law_mingled := ok__law_mingled (P := P) (w := w) T
  have G__law_pool := ok__law_pool (P := P) (w := w) T
  refine okD (k := 16) T.F_law sc_law fun A outer s H E S A0 hr => ?_
  exact (ss_cons (sown 1 sc_law.nd (x_callN (ts := [none, none]) G__law_pool (hr.mono (by decide)) (by rfl) T.m__law_pool T.k__law_pool T.b__law_pool (xc_plain (xf 0) (xc_plain x_int xc_nil))))
      (ss_cons (s_asg (x_lst (pe_lst (xa_cons x_str (xa_cons x_str (xa_cons x_str (xa_cons x_str (xa_cons x_str (xa_cons x_str (xa_cons x_str (xa_cons x_str (xa_cons x_str (xa_cons x_str (xa_cons x_str (xa_cons x_str xa_nil)))))))))))))) (gn 2 sc_law.nd))
      (ss_cons (s_asg (x_bin o_add x_int (x_call (ts := [some 1, none]) G__law_draw (hr.mono (by decide)) (by rfl) T.m__law_draw T.k__law_draw T.b__law_draw (xcio 1 (xc_plain x_int xc_nil)))) (gn 3 sc_law.nd))
      (ss_cons (s_asg x_int (gn 4 sc_law.nd))
      (ss_cons (s_if (t_cmp (o_eq hr.units) (x_call (ts := [some 1, none]) G__law_draw (hr.mono (by decide)) (by rfl) T.m__law_draw T.k__law_draw T.b__law_draw (xcio 1 (xc_plain x_int xc_nil))) x_int) (ss_cons (s_asg x_int (gn 3 sc_law.nd))
      (ss_cons (s_asg x_int (gn 4 sc_law.nd))
      ss_nil)) ss_nil)
      (ss_cons (s_asg (x_call (ts := [some 1, none]) G__law_mingled (hr.mono (by decide)) (by rfl) T.m__law_mingled T.k__law_mingled T.b__law_mingled (xcio 1 (xc_plain (x_new (x_lc (own := [("k", 12)]) rfl sc_law.nd (w_range1 (by rfl) T.z_range (xa_cons (xf 3) xa_nil)) (blkOk_by (own := [("k", 12)]) (N := N_law) (sc := defScope s_law) (by decide +kernel)) (fun _ _ _ _ _ _ => (gnW 12 sc_law.nd)) (fun _ _ _ _ _ _ => ts_nil) (fun _ _ _ _ _ _ => (x_bin o_add (x_bin o_add x_str (x_callTy c_str (by rfl) T.z_str (by decide +kernel) (xa_cons (xf 12) xa_nil))) (x_ix (o_ix (hu_of hr)) (x_lst (pe_lst (xa_cons x_str (xa_cons x_str (xa_cons x_str xa_nil))))) (x_bin o_mod (x_callTy c_int (by rfl) T.z_int (by decide +kernel) (xa_cons (xf 12) xa_nil)) x_int) (fun _ _ => rfl)))) (hv := nios rfl))) xc_nil))) (gn 5 sc_law.nd))
      (ss_cons (s_asg (x_callTy c_tuple (by rfl) T.z_tuple (by decide +kernel) (xa_cons (x_new (x_lc (own := [("x", 13)]) rfl sc_law.nd (w_seq2 (xf 5)) (blkOk_by (own := [("x", 13)]) (N := N_law) (sc := defScope s_law) (by decide +kernel)) (fun _ _ _ _ _ _ => (gnW 13 sc_law.nd)) (fun _ _ _ _ _ _ => ts_nil) (fun _ _ _ _ _ _ => (x_tup (FrzT.pe_tupF (xa_cons (xf 13) (xa_cons (x_call (ts := [some 1, none]) G__law_domain (hr.mono (by decide)) (by rfl) T.m__law_domain T.k__law_domain T.b__law_domain (xcio 1 (xc_plain x_int xc_nil))) xa_nil))))) (hv := nios rfl))) xa_nil)) (gn 6 sc_law.nd))
      (ss_cons (sset_lc 7 (own := [("k", 12)]) rfl sc_law.nd (w_range1 (by rfl) T.z_range (xa_cons (x_bin o_add (xf 4) x_int) xa_nil)) (blkOk_by (own := [("k", 12)]) (N := N_law) (sc := defScope s_law) (by decide +kernel)) (fun _ _ _ _ _ _ => (gnW 12 sc_law.nd)) (fun _ _ _ _ _ _ => ts_nil) (fun _ _ _ _ _ _ => (x_bin o_add x_str (x_callTy c_str (by rfl) T.z_str (by decide +kernel) (xa_cons (xf 12) xa_nil)))) (hv := nios rfl))
      (ss_cons (s_asg (x_call (ts := [some 1, none, none, none]) G__law_many_sayings (hr.mono (by decide)) (by rfl) T.m__law_many_sayings T.k__law_many_sayings T.b__law_many_sayings (xcio 1 (xc_plain (xf 6) (xc_plain (x_slice (xf 7) xo_none (xo_some (x_call (ts := [some 1, none]) G__law_draw (hr.mono (by decide)) (by rfl) T.m__law_draw T.k__law_draw T.b__law_draw (xcio 1 (xc_plain (x_bin o_add (xf 4) x_int) xc_nil))))) (xc_plain (xf 2) xc_nil))))) (gn 8 sc_law.nd))
      (ss_cons (s_asg (x_call (ts := [some 1, none, none, none]) G__law_many_sayings (hr.mono (by decide)) (by rfl) T.m__law_many_sayings T.k__law_many_sayings T.b__law_many_sayings (xcio 1 (xc_plain (xf 6) (xc_plain (x_slice (xf 7) (xo_some (xf 4)) (xo_some (x_bin o_add (xf 4) (x_call (ts := [some 1, none]) G__law_draw (hr.mono (by decide)) (by rfl) T.m__law_draw T.k__law_draw T.b__law_draw (xcio 1 (xc_plain (x_ix (o_ix (hu_of hr)) (x_lst (pe_lst (xa_cons x_int (xa_cons x_int xa_nil)))) (x_callTy c_int (by rfl) T.z_int (by decide +kernel) (xa_cons (x_cmp o_gt (xf 4) x_int) xa_nil)) (fun _ _ => rfl)) xc_nil)))))) (xc_plain (xf 2) xc_nil))))) (gn 9 sc_law.nd))
      (ss_cons (s_asg (x_callTy c_tuple (by rfl) T.z_tuple (by decide +kernel) (xa_cons (x_new (x_lc (own := [("pair", 14)]) rfl sc_law.nd (w_seq2 (xf 9)) (blkOk_by (own := [("pair", 14)]) (N := N_law) (sc := defScope s_law) (by decide +kernel)) (fun _ _ _ _ _ _ => (gnW 14 sc_law.nd)) (fun _ _ _ _ _ _ => ts_nil) (fun _ _ _ _ _ _ => (x_bin o_add (xf 14) (x_tup (FrzT.pe_tupF (xa_cons (x_bin o_add x_int (x_call (ts := [some 1, none]) G__law_draw (hr.mono (by decide)) (by rfl) T.m__law_draw T.k__law_draw T.b__law_draw (xcio 1 (xc_plain x_int xc_nil)))) xa_nil))))) (hv := nios rfl))) xa_nil)) (gn 9 sc_law.nd))
      (ss_cons (s_asg (x_tup (FrzT.pe_tupF (xa_cons (xf 6) (xa_cons (x_callTy c_tuple (by rfl) T.z_tuple (by decide +kernel) (xa_cons (xf 8) xa_nil)) (xa_cons (xf 9) xa_nil))))) (gn 10 sc_law.nd))
      (ss_cons (s_asg (x_cmp (o_eq hr.units) (x_call (ts := [some 1, none]) G__law_draw (hr.mono (by decide)) (by rfl) T.m__law_draw T.k__law_draw T.b__law_draw (xcio 1 (xc_plain x_int xc_nil))) x_int) (gn 11 sc_law.nd))
      (ss_cons (s_if (PW.pt (t_or (t_not (t_val (x_call (ts := [none, none]) G__law_right (hr.mono (by decide)) (by rfl) T.m__law_right T.k__law_right T.b__law_right (xc_plain (xf 10) (xc_plain (xf 11) xc_nil))))) (t_or1 (t_not (t_val (x_call (ts := [none, none]) G__law_right (hr.mono (by decide)) (by rfl) T.m__law_right T.k__law_right T.b__law_right (xc_plain (x_tup (FrzT.pe_tupF (xa_cons (xf 6) (xa_cons (x_callTy c_tuple (by rfl) T.z_tuple (by decide +kernel) (xa_cons (xf 8) xa_nil)) (xa_cons (x_tup (FrzT.pe_tupF xa_nil)) xa_nil))))) (xc_plain (x_not (xf 11)) xc_nil)))))))) (ss_cons (sret x_bl)
      ss_nil) ss_nil)
      (ss_cons (sret (x_call (ts := [none, none]) G__law_right (hr.mono (by decide)) (by rfl) T.m__law_right T.k__law_right T.b__law_right (xc_plain (xf 10) (xc_plain (x_not (xf 11)) xc_nil))))
      ss_nil)))))))))))))))
end K38W
set_option maxRecDepth 100000
set_option maxHeartbeats 4000000
namespace K38W
open PySem PySem.Spec PyProof.Rows L2 GxR GenX OwnK PD
local macro_rules | `(tactic| tb_rel) => `(tactic| simp -dsimp only [tb5, List.getElem?_cons_zero, List.getElem?_cons_succ, List.set_cons_zero, List.set_cons_succ, List.length_cons, List.length_nil, List.cons_append, List.nil_append, List.replicate, List.map_cons, List.map_nil, Nat.reduceAdd, Nat.reduceSub, Nat.reduceLT, Nat.reduceLeDiff, ↓reduceIte, List.mem_cons, List.not_mem_nil, forall_const, reduceCtorEq, ne_eq])
local macro_rules | `(tactic| allgen_close2_more) => `(tactic| first | omega | (simp only [List.length_append, List.length_cons, List.length_nil, List.length_map, List.length_range] at * <;> omega) | (simp only [len_app, len_one, len_empty] at * <;> omega))
local macro_rules | `(tactic| tb_start) => `(tactic| first
  | (with_reducible refine w_mul ?hh ?_; (case hh => first | omega | (left; omega) | (right; omega) | (left; allgen_close2_more) | (right; allgen_close2_more)))
  | (with_reducible refine w_mod ?hh ?_; (case hh => allgen_close2_more); intro _ _)
  | (with_reducible refine w_div ?hh ?hj ?_; (case hh => allgen_close2_more); (case hj => allgen_close2_more))
  | (with_reducible refine wr1 ?hh ?hj ?_; (case hh => allgen_close2_more); (case hj => allgen_close2_more))
  | (with_reducible refine W_atM ?hh ?hj ?_; (case hh => omega); (case hj => allgen_close2_more); intro _ _)
  | (with_reducible refine W_atL ?hh ?hj ?_; (case hh => omega); (case hj => allgen_close2_more); intro _ _)
  | (with_reducible refine w_putM ?hh ?hj ?_; (case hh => omega); (case hj => allgen_close2_more))
  | (with_reducible refine w_app ?hh ?_; (case hh => allgen_close2_more))
  | (with_reducible refine w_addS ?hh ?_; (case hh => allgen_close2_more))
  | (with_reducible refine w_slS ?hh ?_; (case hh => allgen_close2_more))
  | (with_reducible refine w_addL ?hh ?_; (case hh => allgen_close2_more))
  | (with_reducible refine w_addT ?hh ?_; (case hh => allgen_close2_more))
  | (with_reducible refine w_gLst ?hh ?_; (case hh => first | (simp; done) | allgen_close2_more))
  | (with_reducible refine w_gTup ?hh ?_; (case hh => first | (simp; done) | allgen_close2_more))
  | (with_reducible refine w_eq (a := ?aa) ?hh ?_; (case hh => with_reducible assumption))
  | (with_reducible refine w_eqS true ?hh ?_; (case hh => decide +kernel))
  | (with_reducible refine w_eqS false ?hh ?_; (case hh => decide +kernel))
  | (with_reducible refine w_inLc true ?hh ?_; (case hh => decide +kernel))
  | (with_reducible refine w_inLc false ?hh ?_; (case hh => decide +kernel))
  | (with_reducible refine w_inTc true ?hh ?_; (case hh => decide +kernel))
  | (with_reducible refine w_inTc false ?hh ?_; (case hh => decide +kernel))
  | (with_reducible refine w_lookT ?hh ?_; (case hh => decide +kernel))
  | (with_reducible refine w_lookF ?hh ?_; (case hh => decide +kernel))
  | (with_reducible refine w_lenSet ?hh ?_; (case hh => allgen_close2_more))
  | (with_reducible refine w_mulI ?hh ?_; (case hh => first | omega | (left; omega) | (right; omega) | (left; allgen_close2_more) | (right; allgen_close2_more)))
  | (with_reducible refine w_ext ?hh ?_; (case hh => allgen_close2_more))
  | (with_reducible refine w_addLN ?hh ?_; (case hh => allgen_close2_more))
  | with_reducible refine w_sorted2 ?_
  | with_reducible refine w_lt2T ?_
  | with_reducible refine w_neB ?_
  | with_reducible refine w_neNilI ?_
  | with_reducible refine w_sum2L ?_
  | with_reducible refine w_sum2T ?_
  | (with_reducible refine w_last ?hh ?_; (case hh => allgen_close2_more); intro _ _)
  | with_reducible refine w_tcount ?_
  | with_reducible refine w_sum ?_
  | with_reducible refine w_sorted ?_
  | with_reducible refine bcs_mk ?_ ?_
  | allgen_close_more)
local macro_rules | `(tactic| top_reprB) => `(tactic| repeat' (first | tb_rel | tb_start | intro _ | (with_reducible refine And.intro ?_ ?_)))
section
def Sd (d : D) : Prop := ∃ ps : List Int, ps.length < 16777216 ∧ d = .list (ps.map .int)
theorem pool_w {ns : List Int} (h : ns.length ≤ 63) {Q : D → List D → Prop} (q : ∀ s, Sd s → Q s [.list (ns.map .int), .int 900]) : PD.Wq (f__law_pool [.list (ns.map .int), .int 900]) Q := by
  unfold f__law_pool m__law_pool
  top_reprB
  refine W_forM ns .int (fun pre ρ => ∃ (ps : List Int) (t : Int) (a b c d e : Option (Bool × D)), ρ = [some (false, .list (ns.map .int)), some (false, .int 900), some (true, .list (ps.map .int)), some (false, .int t), a, b, c, d, e] ∧ ps.length ≤ 60 * pre.length) ⟨[], 1, _, _, _, _, _, rfl, by simp⟩ (fun pre x post ρ hx ⟨ps, t, a, b, c, d, e, e1, hl⟩ => ?_) fun ρ ⟨ps, t, a, b, c, d, e, e1, hl⟩ => ?_
  · subst e1
    have hp : pre.length < 63 := by
      have := congrArg List.length hx
      rw [List.length_append, List.length_cons] at this
      omega
    top_reprB
    · refine W_forR (fun k ρ => ∃ (ps' : List Int) (r : Int) (c d e : Option (Bool × D)), ρ = [some (false, .list (ns.map .int)), some (false, .int 900), some (true, .list (ps'.map .int)), some (false, .int t), some (false, .int x), some (false, .int r), c, d, e] ∧ ps'.length = ps.length + k) ⟨ps, _, _, _, _, rfl, rfl⟩ (fun k ρ hk ⟨ps', r, c, d, e, e1, hl'⟩ => ?_) fun ρ ⟨ps', r, c, d, e, e1, hl'⟩ => ?_
      · have hk2 : k < 60 := by split at hk <;> omega
        subst e1
        top_reprB
        all_goals first
          | exact ⟨ps' ++ [_], _, _, _, _, _, _, by rw [List.map_append]; rfl, by simp only [List.length_append, List.length_cons, List.length_nil]; omega⟩
          | exact ⟨ps' ++ [_], _, _, _, _, by rw [List.map_append]; rfl, by simp only [List.length_append, List.length_cons, List.length_nil]; omega⟩
      · have hk2 : (if 900 - ((ps.map PyData.int).length : Int) < 60 then 900 - ((ps.map PyData.int).length : Int) else 60).toNat ≤ 60 := by split <;> omega
        subst e1
        top_reprB
        exact ⟨ps', _, _, _, _, _, _, rfl, by simp only [List.length_append, List.length_cons, List.length_nil]; omega⟩
    · exact ⟨ps ++ [_] ++ [_], _, _, _, _, _, _, by rw [List.map_append, List.map_append]; rfl, by simp only [List.length_append, List.length_cons, List.length_nil]; omega⟩
  · subst e1
    top_reprB
    refine W_forR (fun k ρ => ∃ (ps' : List Int) (t : Int) (c : Option (Bool × D)), ρ = [some (false, .list (ns.map .int)), some (false, .int 900), some (true, .list (ps'.map .int)), some (false, .int t), a, b, c, d, e] ∧ ps'.length = ps.length + k) ⟨ps, _, _, rfl, rfl⟩ (fun k ρ hk ⟨ps', t, c, e1, hl'⟩ => ?_) fun ρ ⟨ps', t, c, e1, hl'⟩ => ?_
    · have hk2 : k < 900 := by omega
      subst e1
      top_reprB
      exact ⟨ps' ++ [_], _, _, by rw [List.map_append]; rfl, by simp only [List.length_append, List.length_cons, List.length_nil]; omega⟩
    · subst e1
      top_reprB
      refine q_slN ?_
      top_reprB
      refine q _ ⟨_, ?_, by unfold PD.cutD; rw [← List.map_drop, ← List.map_take, ← List.map_reverse]⟩
      rw [List.length_reverse, List.length_take, List.length_drop]
      omega
theorem draw_w {s : D} {m : Int} (hs : Sd s) (h0 : 0 < m) (h1 : m < 1073741824) {Q : D → List D → Prop} (q : ∀ (r : Int) (s' : D), Sd s' → 0 ≤ r → r < m → Q (.int r) [s', .int m]) : PD.Wq (f__law_draw [s, .int m]) Q := by
  obtain ⟨ps, hl, rfl⟩ := hs
  unfold f__law_draw m__law_draw
  top_reprB
  · exact q 0 _ ⟨ps, hl, rfl⟩ (Int.le_refl _) h0
  · rename_i hn
    refine w_pop0 (by rw [List.length_map] at hn; omega) fun l z e => ?_
    subst e
    top_reprB
    exact q _ _ ⟨l, by rw [List.length_append] at hl; omega, rfl⟩ (by assumption) (by assumption)
local macro_rules | `(tactic| allgen_close_more) => `(tactic| (with_reducible refine draw_w ?h1 ?h2 ?h3 ?_; (case h1 => assumption); (case h2 => allgen_close2_more); (case h3 => allgen_close2_more); intro _ _ _ _ _))
theorem pick_w {s : D} {ds : List D} (hs : Sd s) (h0 : 0 < ds.length) (h1 : ds.length < 1073741824) {Q : D → List D → Prop} (q : ∀ (r : D) (s' : D), Sd s' → r ∈ ds → Q r [s', .list ds]) : PD.Wq (f__law_pick [s, .list ds]) Q := by
  unfold f__law_pick m__law_pick
  top_reprB
  refine W_atI (by assumption) (by assumption) fun d hd => ?_
  top_reprB
  exact q _ _ (by assumption) (List.mem_of_getElem? hd)
theorem pickT_w {s : D} {ds : List D} (hs : Sd s) (h0 : 0 < ds.length) (h1 : ds.length < 1073741824) {Q : D → List D → Prop} (q : ∀ (r : D) (s' : D), Sd s' → r ∈ ds → Q r [s', .tuple ds]) : PD.Wq (f__law_pick [s, .tuple ds]) Q := by
  unfold f__law_pick m__law_pick
  top_reprB
  refine W_atI (by assumption) (by assumption) fun d hd => ?_
  top_reprB
  exact q _ _ (by assumption) (List.mem_of_getElem? hd)
theorem pickM_w {α : Type} {s : D} {xs : List α} {e : α → D} (hs : Sd s) (h0 : 0 < xs.length) (h1 : xs.length < 1073741824) {Q : D → List D → Prop} (q : ∀ (x : α) (s' : D), Sd s' → x ∈ xs → Q (e x) [s', .list (xs.map e)]) : PD.Wq (f__law_pick [s, .list (xs.map e)]) Q :=
  pick_w hs (by simpa using h0) (by simpa using h1) fun r s' h2 h3 => by
    obtain ⟨x, hx, rfl⟩ := List.mem_map.mp h3
    exact q x s' h2 hx
theorem pickMT_w {α : Type} {s : D} {xs : List α} {e : α → D} (hs : Sd s) (h0 : 0 < xs.length) (h1 : xs.length < 1073741824) {Q : D → List D → Prop} (q : ∀ (x : α) (s' : D), Sd s' → x ∈ xs → Q (e x) [s', .tuple (xs.map e)]) : PD.Wq (f__law_pick [s, .tuple (xs.map e)]) Q :=
  pickT_w hs (by simpa using h0) (by simpa using h1) fun r s' h2 h3 => by
    obtain ⟨x, hx, rfl⟩ := List.mem_map.mp h3
    exact q x s' h2 hx
theorem mingled_w {α : Type} {s : D} {xs : List α} {e : α → D} (hs : Sd s) (h1 : xs.length < 16777216) {Q : D → List D → Prop} (q : ∀ (ys : List α) (s' : D), Sd s' → ys.Perm xs → Q (.list (ys.map e)) [s', .list (xs.map e)]) : PD.Wq (f__law_mingled [s, .list (xs.map e)]) Q := by
  unfold f__law_mingled m__law_mingled
  top_reprB
  rw [List.length_map]
  refine q_lcK (fun k acc ρ => ∃ (s' : D) (left ys : List α) (j : Option (Bool × D)), acc = ys.map e ∧ ρ = [some (true, s'), some (false, .list (xs.map e)), some (true, .list (left.map e)), j] ∧ Sd s' ∧ (ys ++ left).Perm xs ∧ ys.length = k) (by rw [rangeD_len]; simpa using h1) ⟨s, xs, [], _, rfl, rfl, hs, List.Perm.refl _, rfl⟩ (fun k d acc ρ hd ⟨s', left, ys, j, e0, e1, h2, h3, h4⟩ => ?_) fun acc ρ hk ⟨s', left, ys, j, e0, e1, h2, h3, h4⟩ => ?_
  · subst e0 e1
    have hlen := h3.length_eq
    rw [List.length_append] at hlen
    have hk : k < xs.length := by
      have := (List.getElem?_eq_some_iff.mp hd).1
      rw [rangeD_len] at this
      simpa using this
    have hl : 0 < left.length := by omega
    top_reprB
    rename_i r s2 g1 g2 g3
    refine w_popM g2 (by simpa using g3) (by omega) fun x hx => ?_
    top_reprB
    refine ⟨s2, left.eraseIdx r.toNat, ys ++ [x], _, by rw [List.map_append]; rfl, rfl, g1, ?_, by simp [h4]⟩
    exact perm_erase h3 hx
  · subst e0 e1
    have hlen := h3.length_eq
    rw [List.length_append] at hlen
    have hl : left = [] := by
      rw [rangeD_len] at h4
      simp at h4
      exact List.eq_nil_of_length_eq_zero (by omega)
    subst hl
    rw [List.append_nil] at h3
    top_reprB
    exact q ys s' h2 h3
end
section
local macro_rules | `(tactic| allgen_close_more) => `(tactic| first
  | (with_reducible refine draw_w ?h1 ?h2 ?h3 ?_; (case h1 => assumption); (case h2 => allgen_close2_more); (case h3 => allgen_close2_more); intro _ _ _ _ _))
theorem cut_none {α : Type} (f : α → D) (xs : List α) (n : Int) (h0 : 0 ≤ n) : PD.cutD (xs.map f) none (some n) = (xs.take n.toNat).map f := by
  obtain ⟨k, rfl⟩ := Int.eq_ofNat_of_zero_le h0
  unfold PD.cutD
  rw [HT.sIx_nat, HT.sIx_none, List.drop_zero, Nat.sub_zero, List.map_take, Int.toNat_natCast, List.length_map, List.take_eq_take_iff]
  simp
theorem some_w {α : Type} {s : D} {xs : List α} {e : α → D} {least most : Int} (hs : Sd s) (h0 : 0 ≤ least) (h1 : least ≤ most) (h2 : least ≤ xs.length) (h3 : most < 1000) (h4 : xs.length < 1000) {Q : D → List D → Prop}
    (q : ∀ (ys zs : List α) (s' : D), Sd s' → (ys ++ zs).Perm xs → least ≤ ys.length → (ys.length : Int) ≤ most → Q (.tuple (ys.map e)) [s', .list (xs.map e), .int least, .int most]) : PD.Wq (f__law_some [s, .list (xs.map e), .int least, .int most]) Q := by
  unfold f__law_some m__law_some
  top_reprB
  rename_i r s1 g1 r0 r1
  have hr : (least + r : Int) ≤ xs.length ∧ least + r ≤ most := by
    rw [List.length_map] at r1
    split at r1 <;> split at r1 <;> omega
  refine mingled_w g1 (by omega) fun ys s2 g2 hp => ?_
  top_reprB
  rw [cut_none e ys _ (by omega)]
  have hl : (ys.take (least + r).toNat).length = (least + r).toNat := by
    rw [List.length_take, hp.length_eq]
    omega
  exact q _ (ys.drop (least + r).toNat) s2 g2 (by rw [List.take_append_drop]; exact hp) (by rw [hl]; omega) (by rw [hl]; omega)
abbrev Ux := List (Str × List Int)
def nms (us : Ux) : List Str := us.map (·.1)
def eI (ns : List Int) : D := .tuple (ns.map .int)
def eDm (d : Str × List Int) : D := .tuple [.str d.1, eI d.2]
def eUs (us : Ux) : D := .dict (kvM .str eI us)
structure Xs (us : Ux) : Prop where
  dom : ∀ d ∈ us, 0 < d.2.length ∧ d.2.length ≤ 3
  nd : (nms us).Nodup
  len : us.length ≤ 24
  ok : ∀ x ∈ nms us, PyData.strOk x = true
theorem w_listUs {us : Ux} {Q : D → Prop} (q : Q (.list ((nms us).map .str))) : Wp (gListOf2 [eUs us]) Q := by
  refine ⟨_, ?_, q⟩
  show (if isT (kvM PyData.str eI us) then none else some (PyData.list ((kvM PyData.str eI us).map (·.1)))) = _
  rw [isT_MS, kvM_keys]
  rfl
theorem w_dom {us : Ux} {x : Str} {Q : D → Prop} (h : Xs us) (hx : x ∈ nms us) (q : ∀ vs : List Int, 0 < vs.length → vs.length ≤ 3 → Q (.tuple (vs.map .int))) : Wp (gIx (eUs us) (.str x)) Q := by
  obtain ⟨d, hd, rfl⟩ := List.mem_map.mp hx
  exact w_ixMS (getM_nd h.nd hd) (q d.2 (h.dom d hd).1 (h.dom d hd).2)
theorem domain_w {s : D} (hs : Sd s) {Q : D → List D → Prop} (q : ∀ (vs : List Int) (s' : D), Sd s' → 0 < vs.length → vs.length ≤ 3 → Q (.tuple (vs.map .int)) [s', .int 3]) : PD.Wq (f__law_domain [s, .int 3]) Q := by
  unfold f__law_domain m__law_domain
  top_reprB
  rename_i a s1 g1 a0 a1 n s2 g2 n0 n1
  refine W_forR (fun k ρ => ∃ (s' : D) (vs : List Int) (v : Int) (j : Option (Bool × D)), ρ = [some (true, s'), some (false, .int 3), some (false, .int v), some (true, .list (vs.map .int)), j] ∧ Sd s' ∧ vs.length = k) ⟨s2, [], _, _, rfl, g2, rfl⟩ (fun k ρ hk ⟨s', vs, v, j, e1, h2, h3⟩ => ?_) fun ρ ⟨s', vs, v, j, e1, h2, h3⟩ => ?_
  · have hk2 : k < 3 := by omega
    subst e1
    top_reprB
    rename_i s4 _ _ _ _ s5 g5 _ _
    exact ⟨_, vs ++ [v], _, _, by rw [List.map_append]; rfl, g5, by simp [h3]⟩
  · subst e1
    top_reprB
    exact q vs s' h2 (by omega) (by omega)
def eTm (p : Str × Int) : D := .tuple [.str p.1, .int p.2]
theorem sum_w {s : D} {us : Ux} {w : Str} (hs : Sd s) (hu : Xs us) (h0 : 0 < us.length) {Q : D → List D → Prop} (q : ∀ (ts : List (Str × Int)) (n : Int) (s' : D), Sd s' → 0 < ts.length → ts.length ≤ 4 → (∀ t ∈ ts, t.1 ∈ nms us) → Q (.tuple [.str w, .tuple (ts.map eTm), .int n]) [s', eUs us, .str w]) : PD.Wq (f__law_sum [s, eUs us, .str w]) Q := by
  have hu24 := hu.len
  have hn : (nms us).length = us.length := List.length_map ..
  unfold f__law_sum m__law_sum
  top_reprB
  refine w_listUs ?_
  top_reprB
  refine some_w hs (by decide) (by decide) (by omega) (by decide) (by omega) fun ys zs s1 g1 hp h1 h2 => ?_
  top_reprB
  have hys : ∀ x ∈ ys, x ∈ nms us := fun x hx => hp.mem_iff.mp (List.mem_append_left _ hx)
  refine W_forM ys .str (fun pre ρ => ∃ (s' : D) (ts : List (Str × Int)) (t : Int) (a b : Option (Bool × D)), ρ = [some (true, s'), some (false, eUs us), some (false, .str w), some (true, .list (ts.map eTm)), some (false, .int t), a, b] ∧ Sd s' ∧ ts.map (·.1) = pre) ⟨s1, [], 0, _, _, rfl, g1, rfl⟩ (fun pre x post ρ hx ⟨s', ts, t, a, b, e1, h5, h6⟩ => ?_) fun ρ ⟨s', ts, t, a, b, e1, h5, h6⟩ => ?_
  · subst e1
    have hxm : x ∈ nms us := hys x (by rw [hx]; simp)
    have hlt : ts.length ≤ 4 := by
      have e1 := congrArg List.length h6
      have e2 := congrArg List.length hx
      rw [List.length_map] at e1
      rw [List.length_append] at e2
      omega
    top_reprB
    rename_i r s3 g3 r0 r1
    refine pick_w g3 (by simp) (by simp) fun d s4 g4 hd => ?_
    obtain ⟨z, rfl, z0, z1⟩ : ∃ z : Int, d = .int z ∧ -3 ≤ z ∧ z ≤ 101 := by
      simp only [List.mem_cons, List.not_mem_nil, or_false] at hd
      rcases hd with h | h | h | h | h | h | h | h <;> exact ⟨_, h, by omega, by omega⟩
    top_reprB
    refine w_dom hu hxm fun vs v0 v1 => ?_
    top_reprB
    refine pickMT_w g4 v0 (by omega) fun v s5 g5 hv => ?_
    top_reprB
    exact ⟨s5, ts ++ [(x, z)], _, _, _, by rw [List.map_append]; rfl, g5, by rw [List.map_append, h6]; rfl⟩
  · subst e1
    have hl : ts.length = ys.length := by rw [← h6, List.length_map]
    have hm : ∀ t ∈ ts, t.1 ∈ nms us := fun t ht => hys _ (h6 ▸ List.mem_map_of_mem (f := (·.1)) ht)
    top_reprB
    all_goals exact q ts _ _ (by assumption) (by omega) (by omega) hm
end
section
local macro_rules | `(tactic| allgen_close_more) => `(tactic| first
  | (with_reducible refine draw_w ?h1 ?h2 ?h3 ?_; (case h1 => assumption); (case h2 => allgen_close2_more); (case h3 => allgen_close2_more); intro _ _ _ _ _))
def Pl : Nat → D → Prop
  | 0, _ => False
  | _ + 1, .none => True
  | _ + 1, .bool _ => True
  | _ + 1, .int _ => True
  | _ + 1, .str z => PyData.strOk z = true
  | n + 1, .tuple ds => ds.length < 16777216 ∧ ∀ d ∈ ds, Pl n d
  | _ + 1, _ => False
theorem Pl_tup {n : Nat} {ds : List D} (h : ds.length < 16777216) (h2 : ∀ d ∈ ds, Pl n d) : Pl (n + 1) (.tuple ds) := ⟨h, h2⟩
theorem same_w : ∀ (n : Nat) (d : D), Pl n d → ∀ {Q : D → List D → Prop}, Q (.bool true) [d, d] → PD.Wq (f__law_same n [d, d]) Q
  | 0, d, h, Q, q => h.elim
  | n + 1, .none, h, Q, q => by
    rw [f__law_same]
    unfold m__law_same
    top_reprB
    exact q
  | n + 1, .bool b, h, Q, q => by
    rw [f__law_same]
    unfold m__law_same
    top_reprB
    refine w_eqB ?_
    top_reprB
    simpa using q
  | n + 1, .int i, h, Q, q => by
    rw [f__law_same]
    unfold m__law_same
    top_reprB
    exact q
  | n + 1, .str z, h, Q, q => by
    have e : gEq (.str z) (.str z) = some (.bool true) := by rw [gEq_ss h h, decide_eq_true rfl]
    rw [f__law_same]
    unfold m__law_same
    top_reprB
    exact q
  | n + 1, .tuple ds, h, Q, q => by
    have hl := h.1
    rw [f__law_same]
    unfold m__law_same
    top_reprB
    refine W_forR (fun k ρ => ∃ a, ρ = [some (false, .tuple ds), some (false, .tuple ds), a]) ⟨_, rfl⟩ (fun k ρ hk ⟨a, e⟩ => ?_) fun ρ ⟨a, e⟩ => ?_
    · subst e
      have hk : k < ds.length := by simpa using hk
      tb_rel
      refine W_atI (by omega) (by omega) fun d hd => ?_
      tb_rel
      refine W_atI (by omega) (by omega) fun d2 hd2 => ?_
      have e : d = d2 := Option.some.inj (hd.symm.trans hd2)
      subst e
      top_reprB
      refine same_w n d (h.2 d (List.mem_of_getElem? hd)) ?_
      top_reprB
      exact ⟨_, rfl⟩
    · subst e
      top_reprB
      exact q
  | n + 1, .list ds, h, Q, q => h.elim
  | n + 1, .dict ds, h, Q, q => h.elim
theorem Pl_str {n : Nat} {z : Str} (h : PyData.strOk z = true) : Pl (n + 1) (.str z) := h
theorem Pl_int {n : Nat} {z : Int} : Pl (n + 1) (.int z) := trivial
theorem Pl.mono : ∀ {n m : Nat} {d : D}, n ≤ m → Pl n d → Pl m d
  | 0, _, _, _, h => h.elim
  | n + 1, 0, _, hm, _ => absurd hm (by omega)
  | n + 1, m + 1, .none, _, h => trivial
  | n + 1, m + 1, .bool _, _, h => trivial
  | n + 1, m + 1, .int _, _, h => trivial
  | n + 1, m + 1, .str _, _, h => h
  | n + 1, m + 1, .tuple ds, hm, h => ⟨h.1, fun d hd => Pl.mono (n := n) (m := m) (by omega) (h.2 d hd)⟩
  | n + 1, m + 1, .list _, _, h => h.elim
  | n + 1, m + 1, .dict _, _, h => h.elim
def uni : List (List Str) → List Str → List Str
  | [], acc => acc
  | zs :: r, acc => uni r (acc ++ zs.filter fun x => !decide (x ∈ acc))
theorem uni_snoc (zs : List Str) : ∀ (r : List (List Str)) (acc : List Str), uni (r ++ [zs]) acc = uni r acc ++ zs.filter fun x => !decide (x ∈ uni r acc)
  | [], acc => rfl
  | ys :: r, acc => uni_snoc zs r _
theorem uni_nd : ∀ (r : List (List Str)) (acc : List Str), acc.Nodup → (∀ zs ∈ r, zs.Nodup) → (uni r acc).Nodup
  | [], _, h, _ => h
  | zs :: r, acc, h, hz => uni_nd r _ (List.nodup_append.mpr ⟨h, (hz zs List.mem_cons_self).filter _, fun y hy z hz e => by
      have := (List.mem_filter.mp hz).2
      rw [← e] at this
      simp at this
      exact this hy⟩) fun ys hy => hz ys (List.mem_cons_of_mem _ hy)
theorem uni_dom {dom : List Str} : ∀ (r : List (List Str)) (acc : List Str), (∀ x ∈ acc, x ∈ dom) → (∀ zs ∈ r, ∀ x ∈ zs, x ∈ dom) → ∀ x ∈ uni r acc, x ∈ dom
  | [], _, h, _ => h
  | zs :: r, acc, h, hz => uni_dom r _ (fun x hx => (List.mem_append.mp hx).elim (h x) fun hx => hz zs List.mem_cons_self x (List.mem_filter.mp hx).1) fun ys hy => hz ys (List.mem_cons_of_mem _ hy)
def DomOk (dom : List Str) : Prop := dom.length ≤ 24 ∧ ∀ x ∈ dom, PyData.strOk x = true
structure Cla (dom : List Str) (n : Nat) (d : D) (ns : List Str) : Prop where
  dom : ∀ x ∈ ns, x ∈ dom
  nd : ns.Nodup
  prog : ∀ m, n ≤ m → ∀ {Q : D → List D → Prop}, Q (.list (ns.map .str)) [d] → PD.Wq (f_claim_names m [d]) Q
  law : ∀ m, n ≤ m → ∀ {Q : D → List D → Prop}, Q (.list (ns.map .str)) [d] → PD.Wq (f__law_claim_names m [d]) Q
  pl : Pl (2 * n) d
theorem sub_len {a b : List Str} (hn : a.Nodup) (h : ∀ x ∈ a, x ∈ b) : a.length ≤ b.length := by
  induction a generalizing b with
  | nil => exact Nat.zero_le _
  | cons x a ih =>
    obtain ⟨h1, h2⟩ := List.nodup_cons.mp hn
    have hx := h x List.mem_cons_self
    have := ih (b := b.erase x) h2 fun y hy => (List.mem_erase_of_ne (fun (e : y = x) => h1 (e ▸ hy))).2 (h y (List.mem_cons_of_mem _ hy))
    rw [List.length_erase_of_mem hx] at this
    have hp : 0 < b.length := List.length_pos_of_mem hx
    rw [List.length_cons]
    omega
theorem names_step {dom : List Str} (hdo : DomOk dom) {w : D} {o : Bool} {mv : M D} {acc zs : List Str} {a b : Option (Bool × D)} {K : List D → Rho → Prop} (hmv : mv = if o then mVar 1 else mFrz 1) (ha : ∀ x ∈ acc, x ∈ dom) (hz : ∀ x ∈ zs, x ∈ dom) (hl : zs.length < 16777216) (q : ∀ b, K ((zs.filter fun x => !decide (x ∈ acc)).map .str) [some (false, w), some (o, .list (acc.map .str)), a, b]) :
    PD.Wq (lcL (gSet 3) (mB (mBin gNotIn (mFrz 3) mv)) (mFrz 3) [3] (zs.map .str) [] [some (false, w), some (o, .list (acc.map .str)), a, b]) K := by
  refine q_lcM zs .str (fun ρ => ∃ b, ρ = [some (false, w), some (o, .list (acc.map .str)), a, b]) (fun x => !decide (x ∈ acc)) .str hl ⟨_, rfl⟩ (fun x hx ρ ⟨b, e⟩ => ?_) fun ρ ⟨b, e⟩ => ?_
  · subst e hmv
    cases o with
    | true =>
      rw [if_pos rfl]
      top_reprB
      refine w_notInS (hdo.2 x (hz x hx)) (fun z h => hdo.2 z (ha z h)) ?_
      top_reprB
      all_goals exact ⟨_, rfl⟩
    | false =>
      rw [if_neg (by decide)]
      top_reprB
      refine w_notInS (hdo.2 x (hz x hx)) (fun z h => hdo.2 z (ha z h)) ?_
      top_reprB
      all_goals exact ⟨_, rfl⟩
  · subst e
    exact q _
theorem cla_one {dom : List Str} {x w : Str} {v : Int} (hw : w = "from" ∨ w = "is") (hx : x ∈ dom) (ho : PyData.strOk x = true) : Cla dom 1 (.tuple [.str w, .str x, .int v]) [x] := by
  refine ⟨fun y hy => by rw [List.mem_singleton.mp hy]; exact hx, by simp, fun m hm Q q => ?_, fun m hm Q q => ?_, Pl_tup (n := 1) (by simp) fun d hd => ?_⟩
  · obtain ⟨m, rfl⟩ : ∃ k, m = k + 1 := ⟨m - 1, by omega⟩
    rcases hw with rfl | rfl <;> (rw [f_claim_names]; unfold m_claim_names; top_reprB; exact q)
  · obtain ⟨m, rfl⟩ : ∃ k, m = k + 1 := ⟨m - 1, by omega⟩
    rcases hw with rfl | rfl <;> (rw [f__law_claim_names]; unfold m__law_claim_names; top_reprB; exact q)
  · simp only [List.mem_cons, List.not_mem_nil, or_false] at hd
    rcases hd with rfl | rfl | rfl
    · rcases hw with rfl | rfl <;> exact Pl_str (by decide +kernel)
    · exact Pl_str ho
    · exact Pl_int
theorem cla_not {dom : List Str} {n : Nat} {d : D} {ns : List Str} (h : Cla dom n d ns) : Cla dom (n + 1) (.tuple [.str "not", d]) ns := by
  refine ⟨h.dom, h.nd, fun m hm Q q => ?_, fun m hm Q q => ?_, Pl_tup (n := 2 * n + 1) (by simp) fun d' hd => ?_⟩
  · obtain ⟨m, rfl⟩ : ∃ k, m = k + 1 := ⟨m - 1, by omega⟩
    rw [f_claim_names]
    unfold m_claim_names
    top_reprB
    refine h.prog m (by omega) ?_
    top_reprB
    exact q
  · obtain ⟨m, rfl⟩ : ∃ k, m = k + 1 := ⟨m - 1, by omega⟩
    rw [f__law_claim_names]
    unfold m__law_claim_names
    top_reprB
    refine h.law m (by omega) ?_
    top_reprB
    exact q
  · simp only [List.mem_cons, List.not_mem_nil, or_false] at hd
    rcases hd with rfl | rfl
    · exact Pl_str (by decide +kernel)
    · exact h.pl.mono (by omega)
theorem cla_row {dom : List Str} (hdo : DomOk dom) {n : Nat} {w : Str} {cs : List (D × List Str)} (hw : w = "and" ∨ w = "or") (hc : cs.length ≤ 3) (h : ∀ c ∈ cs, Cla dom n c.1 c.2) : Cla dom (n + 1) (.tuple [.str w, .tuple (cs.map (·.1))]) (uni (cs.map (·.2)) []) := by
  have hd : ∀ l : List (D × List Str), (∀ c ∈ l, c ∈ cs) → ∀ x ∈ uni (l.map (·.2)) [], x ∈ dom := fun l hl => uni_dom _ _ (fun x z => nomatch z) fun zs hz => by
    obtain ⟨c, hc, rfl⟩ := List.mem_map.mp hz
    exact (h c (hl c hc)).dom
  have hn : ∀ l : List (D × List Str), (∀ c ∈ l, c ∈ cs) → (uni (l.map (·.2)) []).Nodup := fun l hl => uni_nd _ _ .nil fun zs hz => by
    obtain ⟨c, hc, rfl⟩ := List.mem_map.mp hz
    exact (h c (hl c hc)).nd
  have hlen : ∀ l : List (D × List Str), (∀ c ∈ l, c ∈ cs) → (uni (l.map (·.2)) []).length ≤ 24 := fun l hl => Nat.le_trans (sub_len (hn l hl) (hd l hl)) hdo.1
  refine ⟨hd cs fun c h => h, hn cs fun c h => h, fun m hm Q q => ?_, fun m hm Q q => ?_, Pl_tup (n := 2 * n + 1) (by simp) fun d' hd => ?_⟩
  · obtain ⟨m, rfl⟩ : ∃ k, m = k + 1 := ⟨m - 1, by omega⟩
    rw [f_claim_names]
    unfold m_claim_names
    rcases hw with rfl | rfl
    all_goals
      top_reprB
      refine W_forM cs (·.1) (fun pre ρ => ∃ a b, ρ = [some (false, _), some (true, .list ((uni (pre.map (·.2)) []).map .str)), a, b]) ⟨_, _, rfl⟩ (fun pre x post ρ e ⟨a, b, hρ⟩ => ?_) fun ρ ⟨a, b, hρ⟩ => ?_
      · subst hρ
        have hx : x ∈ cs := by rw [e]; simp
        have hp : ∀ c ∈ pre, c ∈ cs := fun c hc => by rw [e]; simp [hc]
        have l1 := hlen pre hp
        have l2 : x.2.length ≤ 24 := Nat.le_trans (sub_len (h x hx).nd (h x hx).dom) hdo.1
        top_reprB
        refine (h x hx).prog m (by omega) ?_
        top_reprB
        refine names_step hdo (o := true) rfl (hd pre hp) (h x hx).dom (by omega) fun b => ?_
        have l8 := List.length_filter_le (fun y => !decide (y ∈ uni (pre.map (·.2)) [])) x.2
        top_reprB
        exact ⟨_, _, by rw [List.map_append, List.map_cons, List.map_nil, uni_snoc, List.map_append]⟩
      · subst hρ
        top_reprB
        exact q
  · obtain ⟨m, rfl⟩ : ∃ k, m = k + 1 := ⟨m - 1, by omega⟩
    rw [f__law_claim_names]
    unfold m__law_claim_names
    rcases hw with rfl | rfl
    all_goals
      top_reprB
      refine W_forM cs (·.1) (fun pre ρ => ∃ a b, ρ = [some (false, _), some (false, .list ((uni (pre.map (·.2)) []).map .str)), a, b]) ⟨_, _, rfl⟩ (fun pre x post ρ e ⟨a, b, hρ⟩ => ?_) fun ρ ⟨a, b, hρ⟩ => ?_
      · subst hρ
        have hx : x ∈ cs := by rw [e]; simp
        have hp : ∀ c ∈ pre, c ∈ cs := fun c hc => by rw [e]; simp [hc]
        have l1 := hlen pre hp
        have l2 : x.2.length ≤ 24 := Nat.le_trans (sub_len (h x hx).nd (h x hx).dom) hdo.1
        top_reprB
        refine (h x hx).law m (by omega) ?_
        top_reprB
        refine names_step hdo (o := false) rfl (hd pre hp) (h x hx).dom (by omega) fun b => ?_
        have l8 := List.length_filter_le (fun y => !decide (y ∈ uni (pre.map (·.2)) [])) x.2
        top_reprB
        exact ⟨_, _, by rw [List.map_append, List.map_cons, List.map_nil, uni_snoc, List.map_append]⟩
      · subst hρ
        top_reprB
        exact q
  · simp only [List.mem_cons, List.not_mem_nil, or_false] at hd
    rcases hd with rfl | rfl
    · rcases hw with rfl | rfl <;> exact Pl_str (by decide +kernel)
    · refine Pl_tup (by rw [List.length_map]; omega) fun d hd => ?_
      obtain ⟨c, hc, rfl⟩ := List.mem_map.mp hd
      exact (h c hc).pl
end
section
local macro_rules | `(tactic| allgen_close_more) => `(tactic| first
  | (with_reducible refine draw_w ?h1 ?h2 ?h3 ?_; (case h1 => assumption); (case h2 => allgen_close2_more); (case h3 => allgen_close2_more); intro _ _ _ _ _))
theorem Xs.domOk {us : Ux} (h : Xs us) : DomOk (nms us) := ⟨by unfold nms; rw [List.length_map]; exact h.len, h.ok⟩
theorem Cla.mono {dom : List Str} {n m : Nat} {d : D} {ns : List Str} (h : Cla dom n d ns) (hm : n ≤ m) : Cla dom m d ns := ⟨h.dom, h.nd, fun k hk => h.prog k (by omega), fun k hk => h.law k (by omega), h.pl.mono (by omega)⟩
theorem at2 {a b : Str} {r : Int} {Q : D → Prop} (h0 : 0 ≤ r) (h1 : r < 2) (q : ∀ w, w = a ∨ w = b → Q (.str w)) : Wp (atI [.str a, .str b] r) Q := by
  rcases (show r = 0 ∨ r = 1 by omega) with e | e
  · rw [e, atI_0]; exact W_some.mpr (q a (.inl rfl))
  · rw [e, atI_1]; exact W_some.mpr (q b (.inr rfl))
local macro_rules | `(tactic| allgen_close_more) => `(tactic| first
  | (with_reducible refine draw_w ?h1 ?h2 ?h3 ?_; (case h1 => assumption); (case h2 => allgen_close2_more); (case h3 => allgen_close2_more); intro _ _ _ _ _)
  | (with_reducible refine at2 ?h1 ?h2 ?_; (case h1 => omega); (case h2 => omega); intro _ _))
theorem claim_w {us : Ux} (hu : Xs us) (h0 : 0 < us.length) : ∀ (deep m : Nat), deep ≤ 2 → deep < m → ∀ {s : D}, Sd s → ∀ {Q : D → List D → Prop}, (∀ (d : D) (ns : List Str) (s' : D), Sd s' → Cla (nms us) (deep + 1) d ns → Q d [s', eUs us, .int (deep : Nat)]) → PD.Wq (f__law_claim m [s, eUs us, .int (deep : Nat)]) Q := by
  have hn : (nms us).length = us.length := List.length_map ..
  have hu24 := hu.len
  have ok1 : ∀ x ∈ nms us, ∀ (w : Str) (v : Int) (deep : Nat), (w = "from" ∨ w = "is") → Cla (nms us) (deep + 1) (.tuple [.str w, .str x, .int v]) [x] := fun x hx w v deep hw => (cla_one hw hx (hu.ok x hx)).mono (by omega)
  intro deep
  induction deep with
  | zero =>
    intro m hd hm s hs Q q
    obtain ⟨m, rfl⟩ : ∃ k, m = k + 1 := ⟨m - 1, by omega⟩
    rw [f__law_claim]
    unfold m__law_claim
    top_reprB
    rename_i kind s1 g1 k0 k1
    refine w_listUs ?_
    top_reprB
    refine pickM_w g1 (by omega) (by omega) fun x s2 g2 hx => ?_
    top_reprB
    refine w_dom hu hx fun vs v0 v1 => ?_
    top_reprB
    refine pickMT_w g2 v0 (by omega) fun v s3 g3 hv => ?_
    top_reprB
    all_goals first
      | exact q _ _ _ (by assumption) (ok1 x hx _ _ _ (by first | assumption | exact .inr rfl))
      | (exfalso; omega)
      | skip
  | succ deep ih =>
    intro m hd hm s hs Q q
    obtain ⟨m, rfl⟩ : ∃ k, m = k + 1 := ⟨m - 1, by omega⟩
    rw [f__law_claim]
    unfold m__law_claim
    top_reprB
    rename_i kind s1 g1 k0 k1
    refine w_listUs ?_
    top_reprB
    refine pickM_w g1 (by omega) (by omega) fun x s2 g2 hx => ?_
    top_reprB
    refine w_dom hu hx fun vs v0 v1 => ?_
    top_reprB
    refine pickMT_w g2 v0 (by omega) fun v s3 g3 hv => ?_
    top_reprB
    all_goals first
      | exact q _ _ _ (by assumption) (ok1 x hx _ _ _ (by first | assumption | exact .inr rfl))
      | (exfalso; omega)
      | skip
    · rw [show ((deep + 1 : Nat) : Int) - 1 = (deep : Nat) by omega]
      refine ih m (by omega) (by omega) (by assumption) fun d ns s5 g5 hc => ?_
      top_reprB
      exact q _ _ _ g5 (cla_not hc)
    · rename_i r s5 g5 r0 r1
      refine q_lcK (fun k acc ρ => ∃ (s' : D) (cs : List (D × List Str)) (j : Option (Bool × D)), acc = cs.map (·.1) ∧ ρ = [some (true, s'), some (false, eUs us), some (false, .int (deep + 1 : Nat)), some (false, .int kind), some (false, .str x), some (false, .int _), none, j] ∧ Sd s' ∧ cs.length = k ∧ ∀ c ∈ cs, Cla (nms us) (deep + 1) c.1 c.2) (by rw [rangeD_len]; omega) ⟨s5, [], _, rfl, rfl, g5, rfl, fun c z => nomatch z⟩ (fun k d acc ρ hd' ⟨s', cs, j, e0, e1, h2, h3, h4⟩ => ?_) fun acc ρ hl ⟨s', cs, j, e0, e1, h2, h3, h4⟩ => ?_
      · subst e0 e1
        top_reprB
        rw [show ((deep + 1 : Nat) : Int) - 1 = (deep : Nat) by omega]
        refine ih m (by omega) (by omega) h2 fun d ns s6 g6 hc => ?_
        top_reprB
        exact ⟨s6, cs ++ [(d, ns)], _, by rw [List.map_append]; rfl, rfl, g6, by rw [List.length_append, h3]; rfl, fun c hc' => (List.mem_append.mp hc').elim (h4 c) fun z => by rw [List.mem_singleton.mp z]; exact hc⟩
      · subst e0 e1
        rw [rangeD_len] at h3
        top_reprB
        exact q _ _ _ h2 (cla_row hu.domOk (by assumption) (by omega) h4)
end
section
local macro_rules | `(tactic| allgen_close_more) => `(tactic| first
  | (with_reducible refine draw_w ?h1 ?h2 ?h3 ?_; (case h1 => assumption); (case h2 => allgen_close2_more); (case h3 => allgen_close2_more); intro _ _ _ _ _))
theorem cmpL_ints : ∀ a b : List Int, cmpL (a.map .int) (b.map .int) = true
  | [], _ => by simp [cmpL]
  | _ :: _, [] => by simp [cmpL]
  | x :: a, y :: b => by
    rw [List.map_cons, List.map_cons, cmpL]
    split
    · exact cmpL_ints a b
    · rfl
theorem okSC_rows {rs : List (List Int)} (h : ∀ r ∈ rs, r ≠ []) : okSC (rs.map tupI) = true := by
  refine okSC_of (n := 1) (T := .type "int") (by decide) (okM_map fun r _ => okM_row 0 r) (fun d hd => ?_) fun a ha b hb => ?_
  · obtain ⟨r, hr, rfl⟩ := List.mem_map.mp hd
    cases r with
    | nil => exact absurd rfl (h _ hr)
    | cons x l => exact ⟨_, _, rfl, rfl⟩
  · obtain ⟨r, hr, rfl⟩ := List.mem_map.mp ha
    obtain ⟨r', hr', rfl⟩ := List.mem_map.mp hb
    exact cmpL_ints r r'
theorem putL_nd {fd : List (List Int × D)} (h : (fd.map (·.1)).Nodup) (k : List Int) (d : D) : ((putL fd k d).map (·.1)).Nodup := by
  have e : putL fd k d = putM fd k d := rfl
  rw [e]
  exact putM_nd h k d
theorem lines_w {us : Ux} {zs : List Str} {s : D} {most : Int} (hX : Xs us) (hs : Sd s) (h0 : 0 < zs.length) (hl : zs.length ≤ 4) (hz : ∀ z ∈ zs, z ∈ nms us) (m0 : 0 ≤ most) (m1 : most ≤ 10) {Q : D → List D → Prop}
    (q : ∀ (rs : List (List Int)) s', Sd s' → rs.length ≤ 10 → (∀ r ∈ rs, r.length ≤ 4) → Q (.tuple (rs.map tupI)) [s', eUs us, .tuple (zs.map .str), .int most]) : PD.Wq (f__law_lines [s, eUs us, .tuple (zs.map .str), .int most]) Q := by
  unfold f__law_lines m__law_lines
  top_reprB
  rename_i r s1 g1 r0 r1
  refine W_forR (fun k ρ => ∃ (s' : D) (fd : List (List Int × D)) (a b : Option (Bool × D)), ρ = [some (true, s'), some (false, eUs us), some (false, .tuple (zs.map .str)), some (false, .int most), some (true, tdOf fd), a, b, none] ∧ Sd s' ∧ (fd.map (·.1)).Nodup ∧ fd.length ≤ k ∧ ∀ p ∈ fd, p.1.length = zs.length) ⟨s1, [], _, _, rfl, g1, .nil, Nat.le_refl _, by simp⟩ (fun k ρ hk ⟨s', fd, a, b, e, g3, g4, g5, g6⟩ => ?_) fun ρ ⟨s', fd, a, b, e, g3, g4, g5, g6⟩ => ?_
  · subst e
    top_reprB
    refine q_lcE zs .str (fun ρ => ∃ s', Sd s' ∧ ρ = [some (true, s'), some (false, eUs us), some (false, .tuple (zs.map .str)), some (false, .int most), some (true, tdOf fd), some (false, .int (0 + (k : Nat))), b, none]) PyData.int (fun _ v => True) (by omega) ⟨_, g3, rfl⟩ (fun x hx2 ρ ⟨s', h2, e⟩ => ?_) (fun vs ρ hvl hp ⟨s3, h3, e⟩ => ?_)
    · subst e
      top_reprB
      refine w_dom hX (hz x hx2) fun ws w0 w1 => ?_
      top_reprB
      refine pickMT_w h2 w0 (by omega) fun v s4 g4 hv => ?_
      top_reprB
      all_goals first
        | exact ⟨v, rfl, trivial⟩
        | exact ⟨v, rfl⟩
        | exact ⟨_, g4, rfl⟩
        | rfl
    · subst e
      top_reprB
      all_goals
        refine w_putT (by omega) ?_
        top_reprB
        refine ⟨_, _, _, _, rfl, (by assumption), putL_nd g4 _ _, ?_, fun p hp2 => ?_⟩
      · exact Nat.le_trans (putL_len _ _ _) (by omega)
      · rcases putL_mem hp2 with h | ⟨h, _⟩
        · exact g6 p h
        · rw [h, List.length_set]; exact hvl
      · exact Nat.le_trans (putL_len _ _ _) (by omega)
      · rcases putL_mem hp2 with h | ⟨h, _⟩
        · exact g6 p h
        · rw [h]; exact hvl
  · subst e
    top_reprB
    refine w_listTd ?_
    top_reprB
    refine w_sorted4M (okSC_rows fun r hr e => ?_) ?_
    · obtain ⟨p, hp, rfl⟩ := List.mem_map.mp hr
      have := g6 p hp
      rw [e] at this
      simp at this
      omega
    · have hp := sortBy_perm tupI (fd.map (·.1))
      have hlen := hp.length_eq
      rw [List.length_map] at hlen
      top_reprB
      refine q _ s' g3 (by omega) fun r hr => ?_
      obtain ⟨p, hp', rfl⟩ := List.mem_map.mp (hp.mem_iff.mp hr)
      rw [g6 p hp']
      exact hl
end
section
local macro_rules | `(tactic| allgen_close_more) => `(tactic| fail)
structure Say (dom : List Str) (n : Nat) (d : D) (ns : List Str) : Prop where
  dom : ∀ x ∈ ns, x ∈ dom
  len : ns.length ≤ 60
  prog : ∀ m, n ≤ m → ∀ {Q : D → List D → Prop}, Q (.list (ns.map .str)) [d] → PD.Wq (f_own_names m [d]) Q
  law : ∀ m, n ≤ m → ∀ {Q : D → List D → Prop}, Q (.list (ns.map .str)) [d] → PD.Wq (f__law_own m [d]) Q
  pl : Pl (n + 8) d
theorem say1 {dom : List Str} {d : D} {ns : List Str} (h1 : ∀ x ∈ ns, x ∈ dom) (h2 : ns.length ≤ 60) (h3 : ∀ rec, ∀ {Q : D → List D → Prop}, Q (.list (ns.map .str)) [d] → PD.Wq (runD N_own_names.length [] (m_own_names rec) [d]) Q)
    (h4 : ∀ rec, ∀ {Q : D → List D → Prop}, Q (.list (ns.map .str)) [d] → PD.Wq (runD N__law_own.length [] (m__law_own rec) [d]) Q) (h5 : Pl 9 d) : Say dom 1 d ns :=
  ⟨h1, h2, fun m hm Q q => by
    obtain ⟨m, rfl⟩ : ∃ k, m = k + 1 := ⟨m - 1, by omega⟩
    rw [f_own_names]
    exact h3 _ q, fun m hm Q q => by
    obtain ⟨m, rfl⟩ : ∃ k, m = k + 1 := ⟨m - 1, by omega⟩
    rw [f__law_own]
    exact h4 _ q, h5⟩
theorem pl_strs {n : Nat} {zs : List Str} (h : ∀ x ∈ zs, PyData.strOk x = true) (hl : zs.length < 16777216) : Pl (n + 2) (.tuple (zs.map .str)) := by
  refine Pl_tup (n := n + 1) (by rw [List.length_map]; exact hl) fun d hd => ?_
  obtain ⟨x, hx, rfl⟩ := List.mem_map.mp hd
  exact Pl_str (h x hx)
theorem say_sum {dom : List Str} (hd : DomOk dom) {w : Str} {ts : List (Str × Int)} {n : Int} (hw : w = "least" ∨ w = "same") (hl : ts.length ≤ 4) (ht : ∀ t ∈ ts, t.1 ∈ dom) : Say dom 1 (.tuple [.str w, .tuple (ts.map eTm), .int n]) (ts.map (·.1)) := by
  refine say1 (fun x hx => ?_) (by rw [List.length_map]; omega) (fun rec Q q => ?_) (fun rec Q q => ?_) (Pl_tup (n := 8) (by simp) fun d hd' => ?_)
  · obtain ⟨t, h, rfl⟩ := List.mem_map.mp hx
    exact ht t h
  · unfold m_own_names
    rcases hw with rfl | rfl
    all_goals
      top_reprB
      unfold f_names_within m_names_within
      top_reprB
      refine q_lcA ts eTm (fun ρ => ∃ a, ρ = [some (false, _), some (false, _), a]) (fun t => .str t.1) (by omega) ⟨_, rfl⟩ (fun x hx ρ ⟨a, e⟩ => ?_) fun ρ ⟨a, e⟩ => ?_
      · subst e
        unfold eTm
        top_reprB
        all_goals first | rfl | exact ⟨_, rfl⟩
      · subst e
        top_reprB
        rw [List.map_map] at q
        exact q
  · unfold m__law_own
    rcases hw with rfl | rfl
    all_goals
      top_reprB
      refine q_lcA ts eTm (fun ρ => ∃ a, ρ = [some (false, _), some (false, _), none, none, a]) (fun t => .str t.1) (by omega) ⟨_, rfl⟩ (fun x hx ρ ⟨a, e⟩ => ?_) fun ρ ⟨a, e⟩ => ?_
      · subst e
        unfold eTm
        top_reprB
        all_goals first | rfl | exact ⟨_, rfl⟩
      · subst e
        top_reprB
        rw [List.map_map] at q
        exact q
  · simp only [List.mem_cons, List.not_mem_nil, or_false] at hd'
    rcases hd' with rfl | rfl | rfl
    · rcases hw with rfl | rfl <;> exact Pl_str (by decide +kernel)
    · refine Pl_tup (n := 7) (by rw [List.length_map]; omega) fun d hd' => ?_
      obtain ⟨t, h, rfl⟩ := List.mem_map.mp hd'
      refine Pl_tup (n := 6) (by simp) fun d hd' => ?_
      simp only [List.mem_cons, List.not_mem_nil, or_false] at hd'
      rcases hd' with rfl | rfl
      · exact Pl_str (hd.2 _ (ht t h))
      · exact Pl_int
    · exact Pl_int
theorem say_names {dom : List Str} (hd : DomOk dom) {w : Str} {xs : List Str} {rest : List D} (hw : w = "unlike" ∨ w = "counts" ∨ w = "table" ∨ w = "bar") (hl : xs.length ≤ 24) (hx : ∀ x ∈ xs, x ∈ dom) (hr : rest.length ≤ 10) (hp : ∀ d ∈ rest, Pl 8 d) : Say dom 1 (.tuple (.str w :: .tuple (xs.map .str) :: rest)) xs := by
  refine say1 hx (by omega) (fun rec Q q => ?_) (fun rec Q q => ?_) (Pl_tup (n := 8) (by simp; omega) fun d hd' => ?_)
  · unfold m_own_names
    rcases hw with rfl | rfl | rfl | rfl
    all_goals
      top_reprB
      unfold f_names_within m_names_within
      top_reprB
      exact q
  · unfold m__law_own
    rcases hw with rfl | rfl | rfl | rfl
    all_goals
      top_reprB
      exact q
  · simp only [List.mem_cons] at hd'
    rcases hd' with rfl | rfl | h
    · rcases hw with rfl | rfl | rfl | rfl <;> exact Pl_str (by decide +kernel)
    · exact pl_strs (n := 6) (fun x h => hd.2 x (hx x h)) (by omega)
    · exact hp d h
end
section
local macro_rules | `(tactic| allgen_close_more) => `(tactic| fail)
theorem say_product {dom : List Str} (hd : DomOk dom) {a b c : Str} (ha : a ∈ dom) (hb : b ∈ dom) (hc : c ∈ dom) : Say dom 1 (.tuple [.str "product", .str a, .str b, .str c]) [a, b, c] := by
  refine say1 (fun x hx => ?_) (by simp) (fun rec Q q => ?_) (fun rec Q q => ?_) (Pl_tup (n := 8) (by simp) fun d hd' => ?_)
  · simp only [List.mem_cons, List.not_mem_nil, or_false] at hx
    rcases hx with rfl | rfl | rfl <;> assumption
  · unfold m_own_names
    top_reprB
    unfold f_names_within m_names_within
    top_reprB
    exact q
  · unfold m__law_own
    top_reprB
    exact q
  · simp only [List.mem_cons, List.not_mem_nil, or_false] at hd'
    rcases hd' with rfl | rfl | rfl | rfl
    · exact Pl_str (by decide +kernel)
    all_goals exact Pl_str (hd.2 _ (by assumption))
theorem say_pick {dom : List Str} (hd : DomOk dom) {a c : Str} {ys : List Str} (ha : a ∈ dom) (hy : ∀ y ∈ ys, y ∈ dom) (hl : ys.length ≤ 20) (hc : c ∈ dom) : Say dom 1 (.tuple [.str "pick", .str a, .tuple (ys.map .str), .str c]) (a :: (ys ++ [c])) := by
  refine say1 (fun x hx => ?_) (by simp; omega) (fun rec Q q => ?_) (fun rec Q q => ?_) (Pl_tup (n := 8) (by simp) fun d hd' => ?_)
  · simp only [List.mem_cons, List.mem_append, List.not_mem_nil, or_false] at hx
    rcases hx with rfl | h | rfl <;> first | assumption | exact hy _ h
  · rw [List.map_cons, List.map_append] at q
    unfold m_own_names
    top_reprB
    unfold f_names_within m_names_within
    top_reprB
    exact q
  · rw [List.map_cons, List.map_append] at q
    unfold m__law_own
    top_reprB
    exact q
  · simp only [List.mem_cons, List.not_mem_nil, or_false] at hd'
    rcases hd' with rfl | rfl | rfl | rfl
    · exact Pl_str (by decide +kernel)
    · exact Pl_str (hd.2 _ ha)
    · exact pl_strs (n := 6) (fun x h => hd.2 x (hy x h)) (by omega)
    · exact Pl_str (hd.2 _ hc)
theorem say_top {dom : List Str} (hd : DomOk dom) {c : Str} {ys : List Str} (hy : ∀ y ∈ ys, y ∈ dom) (hl : ys.length ≤ 20) (hc : c ∈ dom) : Say dom 1 (.tuple [.str "top", .tuple (ys.map .str), .str c]) (ys ++ [c]) := by
  refine say1 (fun x hx => ?_) (by simp; omega) (fun rec Q q => ?_) (fun rec Q q => ?_) (Pl_tup (n := 8) (by simp) fun d hd' => ?_)
  · simp only [List.mem_append, List.mem_singleton] at hx
    rcases hx with h | rfl <;> first | assumption | exact hy _ h
  · rw [List.map_append] at q
    unfold m_own_names
    top_reprB
    unfold f_names_within m_names_within
    top_reprB
    exact q
  · rw [List.map_append] at q
    unfold m__law_own
    top_reprB
    exact q
  · simp only [List.mem_cons, List.not_mem_nil, or_false] at hd'
    rcases hd' with rfl | rfl | rfl
    · exact Pl_str (by decide +kernel)
    · exact pl_strs (n := 6) (fun x h => hd.2 x (hy x h)) (by omega)
    · exact Pl_str (hd.2 _ hc)
theorem say_ahead {dom : List Str} (hd : DomOk dom) {xs ys : List Str} (hx : ∀ y ∈ xs, y ∈ dom) (hy : ∀ y ∈ ys, y ∈ dom) (hl : xs.length ≤ 24) (hl2 : ys.length ≤ 24) : Say dom 1 (.tuple [.str "ahead", .tuple (xs.map .str), .tuple (ys.map .str)]) (xs ++ ys) := by
  refine say1 (fun x hx' => ?_) (by simp; omega) (fun rec Q q => ?_) (fun rec Q q => ?_) (Pl_tup (n := 8) (by simp) fun d hd' => ?_)
  · rcases List.mem_append.mp hx' with h | h
    · exact hx _ h
    · exact hy _ h
  · rw [List.map_append] at q
    unfold m_own_names
    top_reprB
    unfold f_names_within m_names_within
    top_reprB
    try rw [List.append_nil]
    exact q
  · rw [List.map_append] at q
    unfold m__law_own
    top_reprB
    exact q
  · simp only [List.mem_cons, List.not_mem_nil, or_false] at hd'
    rcases hd' with rfl | rfl | rfl
    · exact Pl_str (by decide +kernel)
    · exact pl_strs (n := 6) (fun x h => hd.2 x (hx x h)) (by omega)
    · exact pl_strs (n := 6) (fun x h => hd.2 x (hy x h)) (by omega)
theorem say_claim {dom : List Str} (hd : DomOk dom) {c : D} {ns : List Str} (h : Cla dom 3 c ns) : Say dom 1 (.tuple [.str "claim", c]) ns := by
  have hl : ns.length ≤ 24 := Nat.le_trans (sub_len h.nd h.dom) hd.1
  refine say1 h.dom (by omega) (fun rec Q q => ?_) (fun rec Q q => ?_) (Pl_tup (n := 8) (by simp) fun d hd' => ?_)
  · unfold m_own_names
    top_reprB
    refine h.prog 6 (by omega) ?_
    top_reprB
    exact q
  · unfold m__law_own
    top_reprB
    refine h.law 6 (by omega) ?_
    top_reprB
    exact q
  · simp only [List.mem_cons, List.not_mem_nil, or_false] at hd'
    rcases hd' with rfl | rfl
    · exact Pl_str (by decide +kernel)
    · exact h.pl.mono (by omega)
theorem say_when {dom : List Str} (hd : DomOk dom) {c d : D} {cs ns : List Str} (hc : Cla dom 3 c cs) (h : Say dom 1 d ns) (hn : ns.length ≤ 30) : Say dom 2 (.tuple [.str "when", c, d]) (cs ++ ns.filter fun x => !decide (x ∈ cs)) := by
  have hl : cs.length ≤ 24 := Nat.le_trans (sub_len hc.nd hc.dom) hd.1
  have hf := List.length_filter_le (fun x => !decide (x ∈ cs)) ns
  refine ⟨fun x hx => (List.mem_append.mp hx).elim (hc.dom x) fun z => h.dom x (List.mem_filter.mp z).1, by rw [List.length_append]; omega, fun m hm Q q => ?_, fun m hm Q q => ?_, Pl_tup (n := 9) (by simp) fun d hd' => ?_⟩
  · rw [List.map_append] at q
    obtain ⟨m, rfl⟩ : ∃ k, m = k + 1 := ⟨m - 1, by omega⟩
    rw [f_own_names]
    unfold m_own_names
    top_reprB
    refine hc.prog 6 (by omega) ?_
    top_reprB
    refine h.prog m (by omega) ?_
    top_reprB
    refine q_lcM ns .str (fun ρ => ∃ b, ρ = [some (false, .tuple [.str "when", c, d]), some (false, .list (cs.map .str)), b]) (fun x => !decide (x ∈ cs)) .str (by omega) ⟨_, rfl⟩ (fun x hx ρ ⟨b, e⟩ => ?_) fun ρ ⟨b, e⟩ => ?_
    · subst e
      top_reprB
      refine w_notInS (hd.2 x (h.dom x hx)) (fun z hz => hd.2 z (hc.dom z hz)) ?_
      top_reprB
      all_goals exact ⟨_, rfl⟩
    · subst e
      top_reprB
      exact q
  · rw [List.map_append] at q
    obtain ⟨m, rfl⟩ : ∃ k, m = k + 1 := ⟨m - 1, by omega⟩
    rw [f__law_own]
    unfold m__law_own
    top_reprB
    refine hc.law 6 (by omega) ?_
    top_reprB
    refine h.law m (by omega) ?_
    top_reprB
    refine q_lcM ns .str (fun ρ => ∃ b, ρ = [some (false, .tuple [.str "when", c, d]), some (false, .str "when"), some (false, .list (cs.map .str)), b, none]) (fun x => !decide (x ∈ cs)) .str (by omega) ⟨_, rfl⟩ (fun x hx ρ ⟨b, e⟩ => ?_) fun ρ ⟨b, e⟩ => ?_
    · subst e
      top_reprB
      refine w_notInS (hd.2 x (h.dom x hx)) (fun z hz => hd.2 z (hc.dom z hz)) ?_
      top_reprB
      all_goals exact ⟨_, rfl⟩
    · subst e
      top_reprB
      exact q
  · simp only [List.mem_cons, List.not_mem_nil, or_false] at hd'
    rcases hd' with rfl | rfl | rfl
    · exact Pl_str (by decide +kernel)
    · exact hc.pl.mono (by omega)
    · exact h.pl
end
section
local macro_rules | `(tactic| allgen_close_more) => `(tactic| first
  | (with_reducible refine draw_w ?h1 ?h2 ?h3 ?_; (case h1 => assumption); (case h2 => allgen_close2_more); (case h3 => allgen_close2_more); intro _ _ _ _ _))
def kds : List Str := ["least", "same", "unlike", "counts", "table", "bar", "pick", "top", "ahead", "claim", "when", "product"]
def noWhen (ws : List Str) : List Str := ws.filter (fun w => !decide (w = ("when" : Str))) ++ [("claim" : Str)]
def Drawn (us : Ux) (ws : List Str) (d : D) (ns : List Str) : Prop := (Say (nms us) 1 d ns ∧ ns.length ≤ 30) ∨ (("when" : Str) ∈ ws ∧ Say (nms us) 2 d ns)
theorem pl_rows {rs : List (List Int)} (h : rs.length ≤ 10) (h2 : ∀ r ∈ rs, r.length ≤ 4) : ∀ d ∈ [PyData.tuple (rs.map tupI)], Pl 8 d := fun d hd => by
  rw [List.mem_singleton.mp hd]
  refine Pl_tup (n := 7) (by rw [List.length_map]; omega) fun d hd => ?_
  obtain ⟨r, hr, rfl⟩ := List.mem_map.mp hd
  have := h2 r hr
  refine Pl_tup (n := 6) (by rw [List.length_map]; omega) fun d hd => ?_
  obtain ⟨v, hv, rfl⟩ := List.mem_map.mp hd
  exact Pl_int
theorem cut_some {α : Type} (e : α → D) (xs : List α) (lo hi : Option Int) : ∃ zs : List α, PD.cutD (xs.map e) lo hi = zs.map e ∧ (∀ z ∈ zs, z ∈ xs) ∧ zs.length ≤ xs.length := by
  refine ⟨(xs.drop (HT.sIx (xs.map e).length 0 lo)).take (HT.sIx (xs.map e).length (xs.map e).length hi - HT.sIx (xs.map e).length 0 lo), ?_, fun z hz => List.mem_of_mem_drop (List.mem_of_mem_take hz), ?_⟩
  · unfold PD.cutD
    rw [List.map_take, List.map_drop]
  · rw [List.length_take, List.length_drop]
    omega
def eP (p : Int × Int) : D := .tuple [.int p.1, .int p.2]
theorem w_listMI {β : Type} {ev : β → D} {l : List (Int × β)} {Q : D → Prop} (q : Q (.list ((l.map (·.1)).map .int))) : Wp (gListOf2 [.dict (kvM .int ev l)]) Q := by
  refine ⟨_, ?_, q⟩
  show (if isT (kvM PyData.int ev l) then none else some (PyData.list ((kvM PyData.int ev l).map (·.1)))) = _
  rw [isT_MI, kvM_keys]
  rfl
theorem saying_body {us : Ux} (hu : Xs us) (h0 : 0 < us.length) (h4 : us.length ≤ 4) {m : Nat} {ws : List Str} (hw : ∀ w ∈ ws, w ∈ kds) (w0 : 0 < ws.length) (w1 : ws.length ≤ 40)
    (hrec : ("when" : Str) ∈ ws → ∀ {s : D}, Sd s → ∀ {Q : D → List D → Prop}, (∀ d ns s', Sd s' → Say (nms us) 1 d ns → ns.length ≤ 30 → Q d [s', eUs us, .list ((noWhen ws).map .str)]) → PD.Wq (f__law_saying m [s, eUs us, .list ((noWhen ws).map .str)]) Q)
    {s : D} (hs : Sd s) {Q : D → List D → Prop} (q : ∀ d ns s', Sd s' → Drawn us ws d ns → Q d [s', eUs us, .list (ws.map .str)]) : PD.Wq (f__law_saying (m + 1) [s, eUs us, .list (ws.map .str)]) Q := by
  have hn : (nms us).length = us.length := List.length_map ..
  have hdo := hu.domOk
  have q1 : ∀ d ns s', Sd s' → Say (nms us) 1 d ns → ns.length ≤ 30 → Q d [s', eUs us, .list (ws.map .str)] := fun d ns s' h1 h2 h3 => q d ns s' h1 (.inl ⟨h2, h3⟩)
  rw [f__law_saying]
  unfold m__law_saying
  top_reprB
  refine w_listUs ?_
  top_reprB
  refine pickM_w hs w0 (by omega) fun w s1 g1 hwm => ?_
  have hk := hw w hwm
  unfold kds at hk
  simp only [List.mem_cons, List.not_mem_nil, or_false] at hk
  rcases hk with rfl | rfl | rfl | rfl | rfl | rfl | rfl | rfl | rfl | rfl | rfl | rfl
  all_goals top_reprB
  · refine sum_w g1 hu h0 fun ts n s2 g2 t0 t1 ht => ?_
    top_reprB
    exact q1 _ _ _ g2 (say_sum hdo (.inl rfl) t1 ht) (by rw [List.length_map]; omega)
  · refine sum_w g1 hu h0 fun ts n s2 g2 t0 t1 ht => ?_
    top_reprB
    exact q1 _ _ _ g2 (say_sum hdo (.inr rfl) t1 ht) (by rw [List.length_map]; omega)
  · refine some_w g1 (by decide) (by decide) (by omega) (by decide) (by omega) fun ys zs s2 g2 hp l0 l1 => ?_
    top_reprB
    exact q1 _ ys _ g2 (say_names hdo (rest := []) (.inl rfl) (by omega) (fun y hy => hp.mem_iff.mp (List.mem_append_left _ hy)) (by simp) (fun d z => nomatch z)) (by omega)
  · refine some_w g1 (by decide) (by decide) (by omega) (by decide) (by omega) fun ys zs s2 g2 hp l0 l1 => ?_
    have hys : ∀ y ∈ ys, y ∈ nms us := fun y hy => hp.mem_iff.mp (List.mem_append_left _ hy)
    top_reprB
    refine W_forR (fun k ρ => ∃ (s' : D) (l : List (Int × (Int × Int))) (a b : Option (Bool × D)), ρ = [some (true, s'), some (false, eUs us), some (false, .list (ws.map .str)), some (false, .list ((nms us).map .str)), some (false, .str "counts"), none, none, none, none, some (false, .tuple (ys.map .str)), some (true, .dict (kvM .int eP l)), a, b, none, none] ∧ Sd s' ∧ (l.map (·.1)).Nodup ∧ l.length ≤ k) ⟨_, [], _, _, rfl, (by assumption), .nil, Nat.le_refl _⟩ (fun k ρ hk ⟨s', l, a, b, e, g3, g4, g5⟩ => ?_) fun ρ ⟨s', l, a, b, e, g3, g4, g5⟩ => ?_
    · subst e
      have hk2 : k < 2 := by omega
      top_reprB
      rename_i lo s4 g6 lo0 lo1 hi s5 g7 hi0 hi1 y hy
      refine w_dom hu (hys y (List.mem_of_getElem? hy)) fun vs v0 v1 => ?_
      top_reprB
      refine pickMT_w g7 v0 (by omega) fun v s6 g8 hv => ?_
      top_reprB
      refine w_putMI (ev := eP) (v := (lo, lo + hi)) (by omega) ?_
      top_reprB
      exact ⟨_, _, _, _, rfl, g8, putM_nd g4 _ _, Nat.le_trans (putM_len _ _ _) (by omega)⟩
    · subst e
      top_reprB
      refine w_listMI ?_
      top_reprB
      refine w_s4of2 (w_sorted2 ?_)
      have hpm := sortI_perm (l.map (·.1))
      have hlen := hpm.length_eq
      rw [List.length_map] at hlen
      top_reprB
      refine q_lcA (sortI (l.map (·.1))) .int (fun ρ => ∃ c, ρ = [some (true, s'), some (false, eUs us), some (false, .list (ws.map .str)), some (false, .list ((nms us).map .str)), some (false, .str "counts"), none, none, none, none, some (false, .tuple (ys.map .str)), some (true, .dict (kvM .int eP l)), a, b, none, c]) (fun v => .tuple [.int v, .int ((getM l v).getD (0, 0)).1, .int ((getM l v).getD (0, 0)).2]) (by omega) ⟨_, rfl⟩ (fun x hx ρ ⟨c, e⟩ => ?_) fun ρ ⟨c, e⟩ => ?_
      · subst e
        obtain ⟨p, hpx⟩ := getM_some (hpm.mem_iff.mp hx)
        top_reprB
        refine w_ixMI hpx ?_
        unfold eP
        rw [hpx]
        top_reprB
        all_goals first | rfl | exact ⟨_, rfl⟩
      · subst e
        top_reprB
        refine q1 _ ys _ g3 (say_names hdo (rest := [.tuple _]) (.inr (.inl rfl)) (by omega) hys (by simp) fun d hd => ?_) (by omega)
        rw [List.mem_singleton.mp hd]
        refine Pl_tup (n := 7) (by rw [List.length_map]; omega) fun d hd => ?_
        obtain ⟨v, hv, rfl⟩ := List.mem_map.mp hd
        refine Pl_tup (n := 6) (by simp) fun d hd => ?_
        simp only [List.mem_cons, List.not_mem_nil, or_false] at hd
        rcases hd with rfl | rfl | rfl <;> exact Pl_int
  · refine some_w g1 (by decide) (by decide) (by omega) (by decide) (by omega) fun ys zs s2 g2 hp l0 l1 => ?_
    have hys : ∀ y ∈ ys, y ∈ nms us := fun y hy => hp.mem_iff.mp (List.mem_append_left _ hy)
    top_reprB
    refine lines_w hu g2 (by omega) (by omega) hys (by decide) (by decide) fun rs s3 g3 r0 r1 => ?_
    top_reprB
    exact q1 _ ys _ g3 (say_names hdo (rest := [.tuple (rs.map tupI)]) (by first | exact .inl rfl | exact .inr (.inl rfl) | exact .inr (.inr (.inl rfl)) | exact .inr (.inr (.inr rfl))) (by omega) hys (by simp) (pl_rows r0 r1)) (by omega)
  · refine some_w g1 (by decide) (by decide) (by omega) (by decide) (by omega) fun ys zs s2 g2 hp l0 l1 => ?_
    have hys : ∀ y ∈ ys, y ∈ nms us := fun y hy => hp.mem_iff.mp (List.mem_append_left _ hy)
    top_reprB
    refine lines_w hu g2 (by omega) (by omega) hys (by decide) (by decide) fun rs s3 g3 r0 r1 => ?_
    top_reprB
    exact q1 _ ys _ g3 (say_names hdo (rest := [.tuple (rs.map tupI)]) (by first | exact .inl rfl | exact .inr (.inl rfl) | exact .inr (.inr (.inl rfl)) | exact .inr (.inr (.inr rfl))) (by omega) hys (by simp) (pl_rows r0 r1)) (by omega)
  · refine some_w g1 (by decide) (by decide) (by simp only [List.length_map] at *; omega) (by decide) (by omega) fun ys zs s2 g2 hp l0 l1 => ?_
    have hys : ∀ y ∈ ys, y ∈ nms us := fun y hy => hp.mem_iff.mp (List.mem_append_left _ hy)
    have h34 : (∃ a b c, ys = [a, b, c]) ∨ ∃ a b c d, ys = [a, b, c, d] := by
      match ys, l0, l1 with
      | [a, b, c], _, _ => exact .inl ⟨a, b, c, rfl⟩
      | [a, b, c, d], _, _ => exact .inr ⟨a, b, c, d, rfl⟩
      | [], h, _ => simp at h
      | [_], h, _ => simp at h
      | [_, _], h, _ => simp at h
      | _ :: _ :: _ :: _ :: _ :: _, _, h => simp at h; omega
    rcases h34 with ⟨a, b, c, rfl⟩ | ⟨a, b, c, d, rfl⟩
    · top_reprB
      refine w_eq (a := .str c) rfl ?_
      top_reprB
      exact q1 _ _ _ g2 (say_pick hdo (a := a) (ys := [b]) (c := c) (hys _ (by simp)) (by simpa using hys b (by simp)) (by simp) (hys _ (by simp))) (by simp)
    · top_reprB
      refine w_eq (a := .str d) rfl ?_
      top_reprB
      exact q1 _ _ _ g2 (say_pick hdo (a := a) (ys := [b, c]) (c := d) (hys _ (by simp)) (by simpa using ⟨hys b (by simp), hys c (by simp)⟩) (by simp) (hys _ (by simp))) (by simp)
  · refine some_w g1 (by decide) (by decide) (by omega) (by decide) (by omega) fun ys zs s2 g2 hp l0 l1 => ?_
    have hys : ∀ y ∈ ys, y ∈ nms us := fun y hy => hp.mem_iff.mp (List.mem_append_left _ hy)
    top_reprB
    refine lines_w hu g2 (by omega) (by omega) hys (by decide) (by decide) fun rs s3 g3 r0 r1 => ?_
    top_reprB
    exact q1 _ ys _ g3 (say_names hdo (rest := [.tuple (rs.map tupI)]) (by first | exact .inl rfl | exact .inr (.inl rfl) | exact .inr (.inr (.inl rfl)) | exact .inr (.inr (.inr rfl))) (by omega) hys (by simp) (pl_rows r0 r1)) (by omega)
  · refine some_w g1 (by decide) (by decide) (by simp only [List.length_map] at *; omega) (by decide) (by omega) fun ys zs s2 g2 hp l0 l1 => ?_
    have hys : ∀ y ∈ ys, y ∈ nms us := fun y hy => hp.mem_iff.mp (List.mem_append_left _ hy)
    have h24 : (∃ a b, ys = [a, b]) ∨ (∃ a b c, ys = [a, b, c]) ∨ ∃ a b c d, ys = [a, b, c, d] := by
      match ys, l0, l1 with
      | [a, b], _, _ => exact .inl ⟨a, b, rfl⟩
      | [a, b, c], _, _ => exact .inr (.inl ⟨a, b, c, rfl⟩)
      | [a, b, c, d], _, _ => exact .inr (.inr ⟨a, b, c, d, rfl⟩)
      | [], h, _ => simp at h
      | [_], h, _ => simp at h
      | _ :: _ :: _ :: _ :: _ :: _, _, h => simp at h; omega
    rcases h24 with ⟨a, b, rfl⟩ | ⟨a, b, c, rfl⟩ | ⟨a, b, c, d, rfl⟩
    · top_reprB
      refine w_eq (a := .str b) rfl ?_
      top_reprB
      exact q1 _ _ _ g2 (say_top hdo (ys := [a]) (c := b) (by simpa using hys a (by simp)) (by simp) (hys _ (by simp))) (by simp)
    · top_reprB
      refine w_eq (a := .str c) rfl ?_
      top_reprB
      exact q1 _ _ _ g2 (say_top hdo (ys := [a, b]) (c := c) (by simpa using ⟨hys a (by simp), hys b (by simp)⟩) (by simp) (hys _ (by simp))) (by simp)
    · top_reprB
      refine w_eq (a := .str d) rfl ?_
      top_reprB
      exact q1 _ _ _ g2 (say_top hdo (ys := [a, b, c]) (c := d) (by simpa using ⟨hys a (by simp), hys b (by simp), hys c (by simp)⟩) (by simp) (hys _ (by simp))) (by simp)
  · refine some_w g1 (by decide) (by decide) (by omega) (by decide) (by omega) fun ys zs s2 g2 hp l0 l1 => ?_
    have hys : ∀ y ∈ ys, y ∈ nms us := fun y hy => hp.mem_iff.mp (List.mem_append_left _ hy)
    top_reprB
    refine lines_w hu g2 (by omega) (by omega) hys (by decide) (by decide) fun rs s3 g3 r0 r1 => ?_
    top_reprB
    exact q1 _ ys _ g3 (say_names hdo (rest := [.tuple (rs.map tupI)]) (by first | exact .inl rfl | exact .inr (.inl rfl) | exact .inr (.inr (.inl rfl)) | exact .inr (.inr (.inr rfl))) (by omega) hys (by simp) (pl_rows r0 r1)) (by omega)
  · refine mingled_w g1 (by omega) fun ys s2 g2 hp => ?_
    have hl := hp.length_eq
    have hys : ∀ y ∈ ys, y ∈ nms us := fun y hy => hp.mem_iff.mp hy
    simp only [List.length_map] at *
    top_reprB
    rw [Int.fdiv_eq_ediv_of_nonneg _ (by decide : (0 : Int) ≤ 2)]
    simp only [List.length_map] at *
    refine draw_w g2 (by omega) (by omega) fun r s3 g3 r0 r1 => ?_
    top_reprB
    obtain ⟨z1, e1, m1, k1⟩ := cut_some PyData.str ys none (some (1 + r))
    obtain ⟨z2, e2, m2, k2⟩ := cut_some PyData.str ys (some (1 + r)) (some (2 * (1 + r)))
    rw [e1, e2]
    exact q1 _ _ _ g3 (say_ahead hdo (fun y h => hys y (m1 y h)) (fun y h => hys y (m2 y h)) (by omega) (by omega)) (by rw [List.length_append]; omega)
  · refine some_w g1 (by decide) (by decide) (by omega) (by decide) (by omega) fun ys zs s2 g2 hp l0 l1 => ?_
    have hys : ∀ y ∈ ys, y ∈ nms us := fun y hy => hp.mem_iff.mp (List.mem_append_left _ hy)
    top_reprB
    refine lines_w hu g2 (by omega) (by omega) hys (by decide) (by decide) fun rs s3 g3 r0 r1 => ?_
    top_reprB
    exact q1 _ ys _ g3 (say_names hdo (rest := [.tuple (rs.map tupI)]) (by first | exact .inl rfl | exact .inr (.inl rfl) | exact .inr (.inr (.inl rfl)) | exact .inr (.inr (.inr rfl))) (by omega) hys (by simp) (pl_rows r0 r1)) (by omega)
  · refine claim_w hu h0 2 6 (by decide) (by decide) g1 fun d ns s2 g2 hc => ?_
    have hns := sub_len hc.nd hc.dom
    top_reprB
    refine hc.law 6 (by decide) ?_
    top_reprB
    · rename_i x1 hx1 x2 hx2
      refine w_dom hu (List.mem_of_getElem? hx2) fun vs v0 v1 => ?_
      top_reprB
      have hm := List.mem_of_getElem? hx1
      exact q1 _ [x1] _ g2 (say_claim hdo ((cla_one (.inr rfl) hm (hu.ok _ hm)).mono (by omega))) (by simp)
    · exact q1 _ ns _ g2 (say_claim hdo hc) (by omega)
  · have hok : ∀ w ∈ ws, PyData.strOk w = true := fun w h => (by decide +kernel : ∀ k ∈ kds, PyData.strOk k = true) w (hw w h)
    refine claim_w hu h0 2 6 (by decide) (by decide) g1 fun d ns s2 g2 hc => ?_
    have hns := sub_len hc.nd hc.dom
    top_reprB
    refine hc.law 6 (by decide) ?_
    top_reprB
    · rename_i x1 hx1 x2 hx2
      refine w_dom hu (List.mem_of_getElem? hx2) fun vs v0 v1 => ?_
      top_reprB
      rename_i v hv
      have hm := List.mem_of_getElem? hx1
      have hc1 : Cla (nms us) 3 (.tuple [.str "is", .str x1, .int v]) [x1] := (cla_one (.inr rfl) hm (hu.ok _ hm)).mono (by omega)
      refine q_lcM ws .str (fun ρ => ∃ b, ρ = [some (true, s2), some (false, eUs us), some (false, .list (ws.map .str)), some (false, .list ((nms us).map .str)), some (false, .str "when"), some (false, .tuple [.str "is", .str x1, .int v]), none, none, none, none, none, none, none, b, none]) (fun w => !decide (w = ("when" : Str))) .str (by omega) ⟨_, rfl⟩ (fun x hx ρ ⟨b, e⟩ => ?_) fun ρ ⟨b, e⟩ => ?_
      · subst e
        top_reprB
        refine w_eq (gNe_ss (hok x hx) (by decide +kernel)) ?_
        top_reprB
        all_goals exact ⟨_, rfl⟩
      · subst e
        have hf := List.length_filter_le (fun w => !decide (w = ("when" : Str))) ws
        top_reprB
        rw [show (ws.filter fun w => !decide (w = ("when" : Str))).map PyData.str ++ [PyData.str "claim"] = (noWhen ws).map PyData.str from by unfold noWhen; rw [List.map_append]; rfl]
        refine hrec hwm g2 fun d' ns' s3 g3 hsay hlen => ?_
        top_reprB
        exact q _ _ _ g3 (.inr ⟨hwm, say_when hdo hc1 hsay hlen⟩)
    · refine q_lcM ws .str (fun ρ => ∃ b, ρ = [some (true, s2), some (false, eUs us), some (false, .list (ws.map .str)), some (false, .list ((nms us).map .str)), some (false, .str "when"), some (false, d), none, none, none, none, none, none, none, b, none]) (fun w => !decide (w = ("when" : Str))) .str (by omega) ⟨_, rfl⟩ (fun x hx ρ ⟨b, e⟩ => ?_) fun ρ ⟨b, e⟩ => ?_
      · subst e
        top_reprB
        refine w_eq (gNe_ss (hok x hx) (by decide +kernel)) ?_
        top_reprB
        all_goals exact ⟨_, rfl⟩
      · subst e
        have hf := List.length_filter_le (fun w => !decide (w = ("when" : Str))) ws
        top_reprB
        rw [show (ws.filter fun w => !decide (w = ("when" : Str))).map PyData.str ++ [PyData.str "claim"] = (noWhen ws).map PyData.str from by unfold noWhen; rw [List.map_append]; rfl]
        refine hrec hwm g2 fun d' ns' s3 g3 hsay hlen => ?_
        top_reprB
        exact q _ _ _ g3 (.inr ⟨hwm, say_when hdo hc hsay hlen⟩)
  · refine mingled_w g1 (by omega) fun ys s2 g2 hp => ?_
    have hl := hp.length_eq
    have hys : ∀ y ∈ ys, y ∈ nms us := fun y hy => hp.mem_iff.mp hy
    simp only [List.length_map] at *
    have h3 : ∃ a b c r, ys = a :: b :: c :: r := by
      match ys, hl with
      | a :: b :: c :: r, _ => exact ⟨a, b, c, r, rfl⟩
      | [], h => simp at h; omega
      | [_], h => simp at h; omega
      | [_, _], h => simp at h; omega
    obtain ⟨a, b, c, r, rfl⟩ := h3
    top_reprB
    refine w_eq (a := .tuple [.str "product", .str a, .str b, .str c]) rfl ?_
    top_reprB
    exact q1 _ [a, b, c] _ g2 (say_product hdo (hys _ (by simp)) (hys _ (by simp)) (hys _ (by simp))) (by simp)
  · refine some_w g1 (by decide) (by decide) (by omega) (by decide) (by omega) fun ys zs s2 g2 hp l0 l1 => ?_
    have hys : ∀ y ∈ ys, y ∈ nms us := fun y hy => hp.mem_iff.mp (List.mem_append_left _ hy)
    top_reprB
    refine lines_w hu g2 (by omega) (by omega) hys (by decide) (by decide) fun rs s3 g3 r0 r1 => ?_
    top_reprB
    exact q1 _ ys _ g3 (say_names hdo (rest := [.tuple (rs.map tupI)]) (by first | exact .inl rfl | exact .inr (.inl rfl) | exact .inr (.inr (.inl rfl)) | exact .inr (.inr (.inr rfl))) (by omega) hys (by simp) (pl_rows r0 r1)) (by omega)
theorem saying1_w {us : Ux} (hu : Xs us) (h0 : 0 < us.length) (h4 : us.length ≤ 4) {m : Nat} {ws : List Str} (hw : ∀ w ∈ ws, w ∈ kds) (hn : ("when" : Str) ∉ ws) (w0 : 0 < ws.length) (w1 : ws.length ≤ 40)
    {s : D} (hs : Sd s) {Q : D → List D → Prop} (q : ∀ d ns s', Sd s' → Say (nms us) 1 d ns → ns.length ≤ 30 → Q d [s', eUs us, .list (ws.map .str)]) : PD.Wq (f__law_saying (m + 1) [s, eUs us, .list (ws.map .str)]) Q :=
  saying_body hu h0 h4 hw w0 w1 (fun z => absurd z hn) hs fun d ns s' g hd => hd.elim (fun ⟨a, b⟩ => q d ns s' g a b) fun ⟨a, _⟩ => absurd a hn
theorem Say.mono {dom : List Str} {n m : Nat} {d : D} {ns : List Str} (h : Say dom n d ns) (hm : n ≤ m) : Say dom m d ns := ⟨h.dom, h.len, fun k hk => h.prog k (by omega), fun k hk => h.law k (by omega), h.pl.mono (by omega)⟩
theorem saying_w {us : Ux} (hu : Xs us) (h0 : 0 < us.length) (h4 : us.length ≤ 4) {ws : List Str} (hw : ∀ w ∈ ws, w ∈ kds) (w0 : 0 < ws.length) (w1 : ws.length ≤ 30)
    {s : D} (hs : Sd s) {Q : D → List D → Prop} (q : ∀ d ns s', Sd s' → Say (nms us) 2 d ns → Q d [s', eUs us, .list (ws.map .str)]) : PD.Wq (f__law_saying 3 [s, eUs us, .list (ws.map .str)]) Q := by
  have hf := List.length_filter_le (fun w => !decide (w = ("when" : Str))) ws
  refine saying_body hu h0 h4 hw w0 (by omega) (fun _ s hs Q q => saying1_w (m := 1) hu h0 h4 (fun w hw' => ?_) (fun z => ?_) ?_ ?_ hs q) hs fun d ns s' g hd => hd.elim (fun ⟨a, _⟩ => q d ns s' g (a.mono (by omega))) fun ⟨_, a⟩ => q d ns s' g a
  · unfold noWhen at hw'
    rcases List.mem_append.mp hw' with z | z
    · exact hw w (List.mem_filter.mp z).1
    · rw [List.mem_singleton.mp z]
      decide +kernel
  · unfold noWhen at z
    rcases List.mem_append.mp z with z | z
    · have := (List.mem_filter.mp z).2
      simp at this
    · exact absurd (List.mem_singleton.mp z) (by decide +kernel)
  · unfold noWhen
    rw [List.length_append]
    simp
  · unfold noWhen
    rw [List.length_append]
    simp only [List.length_cons, List.length_nil]
    omega
end
section
local macro_rules | `(tactic| allgen_close_more) => `(tactic| first
  | (with_reducible refine draw_w ?h1 ?h2 ?h3 ?_; (case h1 => assumption); (case h2 => allgen_close2_more); (case h3 => allgen_close2_more); intro _ _ _ _ _))
abbrev Hd := Str × (D × List Str)
def eH (h : Hd) : D := .tuple [.str h.1, h.2.1]
def HdOk (dom : List Str) (h : Hd) : Prop := PyData.strOk h.1 = true ∧ Say dom 2 h.2.1 h.2.2
theorem Cla.dom' {dom dom' : List Str} (hd : ∀ x ∈ dom, x ∈ dom') {n : Nat} {d : D} {ns : List Str} (h : Cla dom n d ns) : Cla dom' n d ns := ⟨fun x hx => hd x (h.dom x hx), h.nd, h.prog, h.law, h.pl⟩
theorem Say.dom' {dom dom' : List Str} (hd : ∀ x ∈ dom, x ∈ dom') {n : Nat} {d : D} {ns : List Str} (h : Say dom n d ns) : Say dom' n d ns := ⟨fun x hx => hd x (h.dom x hx), h.len, h.prog, h.law, h.pl⟩
theorem putM_new {l : Ux} {x : Str} {v : List Int} (h : x ∉ nms l) : putM l x v = l ++ [(x, v)] := by
  unfold putM
  rw [if_neg]
  exact fun z => h (getM_isSome.mp z)
theorem many_w {us : Ux} {zs : List Str} {s : D} (hu : Xs us) (h0 : 0 < us.length) (hs : Sd s) (hz : ∀ z ∈ zs, PyData.strOk z = true) (hl : zs.length ≤ 60) {Q : D → List D → Prop} (q : ∀ (hs : List Hd) s', Sd s' → hs.length = zs.length → (∀ h ∈ hs, HdOk (nms us) h) → Q (.list (hs.map eH)) [s', .tuple (us.map eDm), .list (zs.map .str), .list (kds.map .str)]) :
    PD.Wq (f__law_many_sayings [s, .tuple (us.map eDm), .list (zs.map .str), .list (kds.map .str)]) Q := by
  have hn : (nms us).length = us.length := List.length_map ..
  have hu24 := hu.len
  unfold f__law_many_sayings m__law_many_sayings
  top_reprB
  refine w_dictST (ev := eI) hu.nd ?_
  top_reprB
  refine W_forM zs .str (fun pre ρ => ∃ (s' : D) (hs : List Hd) (a b c : Option (Bool × D)), ρ = [some (true, s'), some (false, .tuple (us.map eDm)), some (false, .list (zs.map .str)), some (false, .list (kds.map .str)), some (false, eUs us), some (true, .list (hs.map eH)), a, b, c] ∧ Sd s' ∧ hs.length = pre.length ∧ ∀ h ∈ hs, HdOk (nms us) h) ⟨s, [], _, _, _, rfl, hs, rfl, fun h z => nomatch z⟩ (fun pre x post ρ hx ⟨s', hs', a, b, c, e, g1, g2, g3⟩ => ?_) fun ρ ⟨s', hs', a, b, c, e, g1, g2, g3⟩ => ?_
  · subst e
    top_reprB
    refine w_listUs ?_
    top_reprB
    refine some_w g1 (by decide) (by decide) (by omega) (by decide) (by omega) fun ys ws s2 g4 hp l0 l1 => ?_
    top_reprB
    have hys : ∀ y ∈ ys, y ∈ nms us := fun y hy => hp.mem_iff.mp (List.mem_append_left _ hy)
    have hnd : ys.Nodup := (List.nodup_append.mp (hp.nodup_iff.mpr hu.nd)).1
    refine W_forM ys .str (fun pre2 ρ => ∃ (vs : Ux) (c : Option (Bool × D)), ρ = [some (true, s2), some (false, .tuple (us.map eDm)), some (false, .list (zs.map .str)), some (false, .list (kds.map .str)), some (false, eUs us), some (true, .list (hs'.map eH)), some (false, .str x), some (true, .dict (kvM .str eI vs)), c] ∧ nms vs = pre2 ∧ ∀ d ∈ vs, 0 < d.2.length ∧ d.2.length ≤ 3) ⟨[], _, rfl, rfl, fun d z => nomatch z⟩ (fun pre2 y post2 ρ hy ⟨vs, c, e, k1, k2⟩ => ?_) fun ρ ⟨vs, c, e, k1, k2⟩ => ?_
    · subst e
      have hym : y ∈ nms us := hys y (by rw [hy]; simp)
      have hyn : y ∉ nms vs := fun z => by
        rw [hy] at hnd
        have := (List.nodup_append.mp hnd).2.2 y (k1 ▸ z) y List.mem_cons_self
        exact this rfl
      have hvl : vs.length ≤ 4 := by
        have e1 := congrArg List.length k1
        have e2 := congrArg List.length hy
        unfold nms at e1
        rw [List.length_map] at e1
        rw [List.length_append] at e2
        omega
      top_reprB
      refine w_dom hu hym fun v v0 v1 => ?_
      top_reprB
      refine w_putMS (ev := eI) (v := v) (by omega) ?_
      top_reprB
      rw [putM_new hyn]
      exact ⟨vs ++ [(y, v)], _, rfl, by unfold nms at *; rw [List.map_append, k1]; rfl, fun d hd => (List.mem_append.mp hd).elim (k2 d) fun z => by rw [List.mem_singleton.mp z]; exact ⟨v0, v1⟩⟩
    · subst e
      have hvl : vs.length = ys.length := by
        have e1 := congrArg List.length k1
        unfold nms at e1
        rwa [List.length_map] at e1
      have hvx : Xs vs := ⟨k2, by rw [k1]; exact hnd, by omega, fun y hy => hu.ok y (hys y (k1 ▸ hy))⟩
      have hpre : pre.length < 60 := by
        have := congrArg List.length hx
        rw [List.length_append, List.length_cons] at this
        omega
      top_reprB
      refine saying_w hvx (by omega) (by omega) (ws := kds) (fun w h => h) (by decide +kernel) (by decide +kernel) g4 fun d ns s3 g5 hsay => ?_
      top_reprB
      have hsay' := hsay.dom' (dom' := nms us) fun y hy => hys y (k1 ▸ hy)
      exact ⟨s3, hs' ++ [(x, (d, ns))], _, _, _, by rw [List.map_append]; rfl, g5, by rw [List.length_append, List.length_append, g2]; rfl, fun h hh => (List.mem_append.mp hh).elim (g3 h) fun z => by rw [List.mem_singleton.mp z]; exact ⟨hz x (by rw [hx]; simp), hsay'⟩⟩
  · subst e
    top_reprB
    exact q hs' s' g1 g2 g3
end
section
def mn : List Int → Int
  | [] => 0
  | [x] => x
  | x :: y :: r => if x ≤ mn (y :: r) then x else mn (y :: r)
theorem mn_spec : ∀ {j : List Int}, j ≠ [] → mn j ∈ j ∧ ∀ y ∈ j, mn j ≤ y
  | [], h => absurd rfl h
  | [x], _ => ⟨by simp [mn], fun y hy => by rw [List.mem_singleton.mp hy]; exact Int.le_refl _⟩
  | x :: y :: r, _ => by
    obtain ⟨h1, h2⟩ := mn_spec (j := y :: r) (by simp)
    unfold mn
    split
    · refine ⟨List.mem_cons_self, fun z hz => ?_⟩
      rcases List.mem_cons.mp hz with e | hz
      · rw [e]; exact Int.le_refl _
      · have := h2 z hz
        omega
    · refine ⟨List.mem_cons_of_mem _ h1, fun z hz => ?_⟩
      rcases List.mem_cons.mp hz with e | hz
      · rw [e]; omega
      · exact h2 z hz
theorem mn_uniq {j : List Int} {m : Int} (h1 : m ∈ j) (h2 : ∀ y ∈ j, m ≤ y) : m = mn j := by
  obtain ⟨a, b⟩ := mn_spec (j := j) (List.ne_nil_of_mem h1)
  exact Int.le_antisymm (h2 _ a) (b _ h1)
abbrev Lb := List (Str × Int)
def lg (l : Lb) (x : Str) : Int := (getM l x).getD 0
def joinedL (l : Lb) (ns : List Str) : List Int := ns.map (lg l)
def newL (j : List Int) (a : Int) : Int := if a ∈ j then mn j else a
def stepL (l : Lb) (ns : List Str) : Lb := l.map fun p => (p.1, newL (joinedL l ns) p.2)
def lab0 (us : Ux) : Lb := ((List.range us.length).zip us).map fun p => (p.2.1, (p.1 : Int))
structure LOk (names : List Str) (l : Lb) : Prop where
  keys : l.map (·.1) = names
  at_ : ∀ (i : Nat) (p : Str × Int), l[i]? = some p → 0 ≤ p.2 ∧ p.2 ≤ i ∧ ∃ y, l[p.2.toNat]? = some (y, p.2)
theorem LOk.get {names : List Str} {l : Lb} (h : LOk names l) {x : Str} (hx : x ∈ names) : getM l x = some (lg l x) := by
  obtain ⟨v, e⟩ := getM_some (l := l) (k := x) (by rw [h.keys]; exact hx)
  unfold lg
  rw [e]
  rfl
theorem LOk.label {names : List Str} {l : Lb} (h : LOk names l) {x : Str} (hx : x ∈ names) : 0 ≤ lg l x ∧ ∃ y, l[(lg l x).toNat]? = some (y, lg l x) := by
  have := getM_mem (h.get hx)
  obtain ⟨i, hi, e⟩ := List.mem_iff_getElem.mp this
  obtain ⟨a, _, b⟩ := h.at_ i _ (by rw [List.getElem?_eq_getElem hi, e])
  exact ⟨a, b⟩
theorem LOk.step {names : List Str} {l : Lb} (h : LOk names l) {ns : List Str} (hn : ∀ x ∈ ns, x ∈ names) : LOk names (stepL l ns) := by
  have hk : (stepL l ns).map (·.1) = names := by
    unfold stepL
    rw [List.map_map]
    exact h.keys
  have hj : ∀ a ∈ joinedL l ns, 0 ≤ a ∧ ∃ y, l[a.toNat]? = some (y, a) := fun a ha => by
    obtain ⟨x, hx, rfl⟩ := List.mem_map.mp ha
    exact h.label (hn x hx)
  refine ⟨hk, fun i p hp => ?_⟩
  unfold stepL at hp
  rw [List.getElem?_map, Option.map_eq_some_iff] at hp
  obtain ⟨⟨x, a⟩, e, rfl⟩ := hp
  obtain ⟨a0, a1, y, ya⟩ := h.at_ i _ e
  simp only at a0 a1 ya
  show 0 ≤ newL (joinedL l ns) a ∧ newL (joinedL l ns) a ≤ (i : Int) ∧ ∃ y, (stepL l ns)[(newL (joinedL l ns) a).toNat]? = some (y, newL (joinedL l ns) a)
  by_cases c : a ∈ joinedL l ns
  · have e1 : newL (joinedL l ns) a = mn (joinedL l ns) := if_pos c
    obtain ⟨m1, m2⟩ := mn_spec (j := joinedL l ns) (List.ne_nil_of_mem c)
    obtain ⟨b0, y2, b1⟩ := hj _ m1
    rw [e1]
    refine ⟨b0, Int.le_trans (m2 a c) a1, y2, ?_⟩
    unfold stepL
    rw [List.getElem?_map, b1]
    show some (y2, newL (joinedL l ns) (mn (joinedL l ns))) = _
    rw [show newL (joinedL l ns) (mn (joinedL l ns)) = mn (joinedL l ns) from if_pos m1]
  · have e1 : newL (joinedL l ns) a = a := if_neg c
    rw [e1]
    refine ⟨a0, a1, y, ?_⟩
    unfold stepL
    rw [List.getElem?_map, ya]
    show some (y, newL (joinedL l ns) a) = _
    rw [e1]
theorem lab0_keys (us : Ux) : (lab0 us).map (·.1) = nms us := by
  unfold lab0 nms
  rw [List.map_map]
  apply List.ext_getElem?
  intro i
  simp only [List.getElem?_map, List.getElem?_zip_eq_some, Function.comp_def]
  cases h : us[i]? with
  | none =>
    have : us.length ≤ i := List.getElem?_eq_none_iff.mp h
    rw [List.getElem?_eq_none (by rw [List.length_zip, List.length_range]; omega)]
    rfl
  | some d =>
    have hi := (List.getElem?_eq_some_iff.mp h).1
    rw [List.getElem?_eq_getElem (by rw [List.length_zip, List.length_range]; omega), List.getElem_zip]
    rw [List.getElem?_eq_getElem hi] at h
    cases h
    rfl
theorem lab0_at {us : Ux} {i : Nat} {p : Str × Int} (h : (lab0 us)[i]? = some p) : p.2 = i := by
  unfold lab0 at h
  rw [List.getElem?_map, Option.map_eq_some_iff] at h
  obtain ⟨q, e, rfl⟩ := h
  obtain ⟨hi, e⟩ := List.getElem?_eq_some_iff.mp e
  rw [List.getElem_zip] at e
  rw [← e]
  simp
theorem lab0_ok (us : Ux) : LOk (nms us) (lab0 us) := ⟨lab0_keys us, fun i p h => by
  have e := lab0_at h
  refine ⟨by omega, by omega, p.1, ?_⟩
  rw [e, Int.toNat_natCast, h, ← e]⟩
def labs (us : Ux) (nss : List (List Str)) : Lb := nss.foldl stepL (lab0 us)
theorem labs_ok {us : Ux} : ∀ {nss : List (List Str)} {l : Lb}, LOk (nms us) l → (∀ ns ∈ nss, ∀ x ∈ ns, x ∈ nms us) → LOk (nms us) (nss.foldl stepL l)
  | [], _, h, _ => h
  | ns :: r, l, h, hn => labs_ok (nss := r) (l := stepL l ns) (h.step (hn ns List.mem_cons_self)) fun m hm => hn m (List.mem_cons_of_mem _ hm)
def lotsOf (l : Lb) (names : List Str) (gs : List (Int × List Str)) : List (Int × List Str) := names.foldl (fun gs x => grp gs (lg l x) x) gs
def rowsOf (l : Lb) (names : List Str) : List (List Str) := ((List.range names.length).map fun k => names.filter fun x => decide (lg l x = (k : Nat))).filter fun r => !r.isEmpty
theorem grp_in (h : Nat → List Str) (z : Nat) (x : Str) : ∀ (ks : List Nat), ks.Nodup → z ∈ ks → grp (ks.map fun j : Nat => ((j : Int), h j)) (z : Int) x = ks.map fun j : Nat => ((j : Int), if j = z then h j ++ [x] else h j)
  | [], _, hz => nomatch hz
  | j :: ks, hn, hz => by
    obtain ⟨n1, n2⟩ := List.nodup_cons.mp hn
    rw [List.map_cons, List.map_cons]
    unfold grp
    by_cases c : j = z
    · subst c
      rw [if_pos rfl, if_pos rfl]
      congr 1
      refine List.map_congr_left fun i hi => ?_
      rw [if_neg (fun (e : i = j) => n1 (e ▸ hi))]
    · rw [if_neg (by omega), if_neg c, grp_in h z x ks n2 ((List.mem_cons.mp hz).resolve_left (fun e => c e.symm))]
theorem grp_out (h : Nat → List Str) (z : Nat) (x : Str) : ∀ (ks : List Nat), z ∉ ks → grp (ks.map fun j : Nat => ((j : Int), h j)) (z : Int) x = (ks.map fun j : Nat => ((j : Int), h j)) ++ [((z : Int), [x])]
  | [], _ => rfl
  | j :: ks, hz => by
    rw [List.map_cons]
    unfold grp
    rw [if_neg (fun e => hz (by rw [show j = z by omega]; exact List.mem_cons_self)), grp_out h z x ks fun z => hz (List.mem_cons_of_mem _ z)]
    rfl
structure GOk (g : Str → Int) (names : List Str) : Prop where
  at_ : ∀ (i : Nat) (x : Str), names[i]? = some x → ∃ a : Nat, g x = a ∧ a ≤ i ∧ ∃ y, names[a]? = some y ∧ g y = a
def fixd (g : Str → Int) (names : List Str) (j : Nat) : Bool := match names[j]? with
  | some x => decide (g x = (j : Nat))
  | none => false
theorem lots_take {g : Str → Int} {names : List Str} (hg : GOk g names) : ∀ k, k ≤ names.length → (names.take k).foldl (fun gs x => grp gs (g x) x) [] = ((List.range k).filter (fixd g names)).map fun j : Nat => ((j : Int), (names.take k).filter fun x => decide (g x = (j : Nat)))
  | 0, _ => rfl
  | k + 1, hk => by
    have hx : names[k]? = some names[k] := List.getElem?_eq_getElem (by omega)
    generalize names[k] = x at hx
    have ht : names.take (k + 1) = names.take k ++ [x] := by rw [List.take_succ, hx]; rfl
    obtain ⟨a, ga, al, y, ya, gy⟩ := hg.at_ k x hx
    rw [ht, List.foldl_append, lots_take hg k (by omega), List.foldl_cons, List.foldl_nil, ga, List.range_succ, List.filter_append]
    have hnd : ((List.range k).filter (fixd g names)).Nodup := List.nodup_range.filter _
    rcases Nat.lt_or_ge a k with c | c
    · have hin : a ∈ (List.range k).filter (fixd g names) := by
        refine List.mem_filter.mpr ⟨List.mem_range.mpr c, ?_⟩
        unfold fixd
        rw [ya]
        simp [gy]
      have hk0 : [k].filter (fixd g names) = [] := by
        unfold fixd
        simp only [List.filter_cons, hx, ga]
        rw [if_neg (by simp; omega)]
        rfl
      rw [hk0, List.append_nil, grp_in _ _ _ _ hnd hin]
      refine List.map_congr_left fun j hj => ?_
      rw [List.filter_append]
      by_cases e : j = a
      · subst e
        rw [if_pos rfl]
        simp [ga]
      · rw [if_neg e]
        simp only [List.filter_cons, ga]
        rw [if_neg (by simp; omega)]
        simp
    · have e : a = k := by omega
      subst e
      have hout : a ∉ (List.range a).filter (fixd g names) := fun z => by
        have := List.mem_range.mp (List.mem_filter.mp z).1
        omega
      have hk0 : [a].filter (fixd g names) = [a] := by
        unfold fixd
        simp [List.filter_cons, hx, ga]
      rw [hk0, grp_out _ _ _ _ hout, List.map_append]
      congr 1
      · refine List.map_congr_left fun j hj => ?_
        have := List.mem_range.mp (List.mem_filter.mp hj).1
        rw [List.filter_append]
        simp only [List.filter_cons, ga]
        rw [if_neg (by simp; omega)]
        simp
      · rw [List.map_cons, List.map_nil, List.filter_append]
        have h0 : (names.take a).filter (fun x => decide (g x = (a : Nat))) = [] := by
          refine List.filter_eq_nil_iff.mpr fun w hw => ?_
          obtain ⟨i, hi, e⟩ := List.mem_iff_getElem.mp hw
          rw [List.length_take] at hi
          rw [List.getElem_take] at e
          obtain ⟨b, gb, bl, _⟩ := hg.at_ i w (by rw [← e]; exact List.getElem?_eq_getElem _)
          rw [gb]
          simp
          omega
        rw [h0]
        simp [ga]
theorem lots_rows {g : Str → Int} {names : List Str} (hg : GOk g names) : (names.foldl (fun gs x => grp gs (g x) x) []).map (·.2) = ((List.range names.length).map fun k => names.filter fun x => decide (g x = (k : Nat))).filter fun r => !r.isEmpty := by
  have h := lots_take hg names.length (Nat.le_refl _)
  rw [List.take_length] at h
  rw [h, List.map_map, List.filter_map]
  suffices e : (List.range names.length).filter (fixd g names) = (List.range names.length).filter ((fun r : List Str => !r.isEmpty) ∘ fun k : Nat => names.filter fun x => decide (g x = (k : Nat))) by rw [e]; rfl
  refine List.filter_congr fun j hj => ?_
  have hj := List.mem_range.mp hj
  have hx : names[j]? = some names[j] := List.getElem?_eq_getElem hj
  unfold fixd
  rw [hx]
  simp only [Function.comp_def]
  by_cases c : g names[j] = (j : Nat)
  · have : names[j] ∈ names.filter fun x => decide (g x = (j : Nat)) := List.mem_filter.mpr ⟨List.getElem_mem hj, by simp [c]⟩
    have h2 : (names.filter fun x => decide (g x = (j : Nat))) ≠ [] := List.ne_nil_of_mem this
    simp only [c, decide_true]
    cases q : names.filter fun x => decide (g x = (j : Nat)) with
    | nil => exact absurd q h2
    | cons _ _ => rfl
  · have h2 : (names.filter fun x => decide (g x = (j : Nat))) = [] := by
      refine List.filter_eq_nil_iff.mpr fun w hw z => c ?_
      obtain ⟨i, hi, e⟩ := List.mem_iff_getElem.mp hw
      obtain ⟨a, ga, _, y, ya, gy⟩ := hg.at_ i w (by rw [← e]; exact List.getElem?_eq_getElem hi)
      have z := of_decide_eq_true z
      have e2 : a = j := by omega
      subst e2
      rw [hx] at ya
      cases ya
      exact gy
    rw [h2]
    simp [c]
theorem LOk.g {names : List Str} {l : Lb} (h : LOk names l) (hn : names.Nodup) : GOk (lg l) names := ⟨fun i x hx => by
  have e1 : (l.map (·.1))[i]? = some x := by rw [h.keys]; exact hx
  rw [List.getElem?_map, Option.map_eq_some_iff] at e1
  obtain ⟨⟨x', a⟩, e, rfl⟩ := e1
  have gx : ∀ p : Str × Int, p ∈ l → lg l p.1 = p.2 := fun p hp => by
    unfold lg
    rw [getM_nd (by rw [h.keys]; exact hn) hp]
    rfl
  obtain ⟨a0, a1, y, ya⟩ := h.at_ i _ e
  simp only at a0 a1 ya
  refine ⟨a.toNat, ?_, by omega, y, ?_, ?_⟩
  · rw [gx _ (List.mem_of_getElem? e)]
    show a = _
    omega
  · rw [← h.keys, List.getElem?_map, ya]
    rfl
  · rw [gx (y, a) (List.mem_of_getElem? ya)]
    show a = _
    omega⟩
theorem lots_eq {names : List Str} {l : Lb} (h : LOk names l) (hn : names.Nodup) : (lotsOf l names []).map (·.2) = rowsOf l names := lots_rows (h.g hn)
end
section
local macro_rules | `(tactic| allgen_close_more) => `(tactic| fail)
structure Md where
  us : Ux
  hd : List Hd
  sf : List (Hd × Int)
def eS (h : Hd × Int) : D := .tuple [.str h.1.1, h.1.2.1, .int h.2]
def eMd (M : Md) : D := .tuple [.tuple (M.us.map eDm), .tuple (M.hd.map eH), .tuple (M.sf.map eS)]
structure MdOk (M : Md) : Prop where
  us : Xs M.us
  hd : ∀ h ∈ M.hd, HdOk (nms M.us) h
  sf : ∀ h ∈ M.sf, HdOk (nms M.us) h.1
  hl : M.hd.length ≤ 100
  sl : M.sf.length ≤ 100
def its (M : Md) : List (D × List Str) := M.hd.map (fun h => (eH h, h.2.2)) ++ M.sf.map fun h => (eS h, h.1.2.2)
theorem its_data (M : Md) : (its M).map (·.1) = M.hd.map eH ++ M.sf.map eS := by
  unfold its
  rw [List.map_append, List.map_map, List.map_map]
  rfl
theorem its_ok {M : Md} (h : MdOk M) : ∀ it ∈ its M, ∃ d, gIx it.1 (.int 1) = some d ∧ Say (nms M.us) 2 d it.2 := fun it hi => by
  unfold its at hi
  rcases List.mem_append.mp hi with z | z
  · obtain ⟨p, hp, rfl⟩ := List.mem_map.mp z
    exact ⟨p.2.1, rfl, (h.hd p hp).2⟩
  · obtain ⟨p, hp, rfl⟩ := List.mem_map.mp z
    exact ⟨p.1.2.1, rfl, (h.sf p hp).2⟩
theorem its_len {M : Md} (h : MdOk M) : (its M).length ≤ 200 := by
  have := h.hl
  have := h.sl
  unfold its
  rw [List.length_append, List.length_map, List.length_map]
  omega
def labOf (M : Md) : Lb := labs M.us ((its M).map (·.2))
theorem labOf_ok {M : Md} (h : MdOk M) : LOk (nms M.us) (labOf M) := labs_ok (lab0_ok _) fun ns hn x hx => by
  obtain ⟨it, hi, rfl⟩ := List.mem_map.mp hn
  obtain ⟨d, _, hs⟩ := its_ok h it hi
  exact hs.dom x hx
def eT (zs : List Str) : D := .tuple (zs.map .str)
theorem w_minL {ns : List Int} {Q : D → Prop} (h : 0 < ns.length) (q : ∀ m, m ∈ ns → (∀ y ∈ ns, m ≤ y) → Q (.int m)) : Wp (gMin1 [.list (ns.map .int)]) Q := by
  cases ns with
  | nil => exact absurd h (by decide)
  | cons n r =>
    obtain ⟨_, M, e, h1, h2⟩ := minO_spec (ns := n :: r) rfl
    refine ⟨_, ?_, q M h1 h2⟩
    show (allInts ((n :: r).map .int)).bind minO = _
    rw [allInts_map]
    exact congrArg some e
theorem w_inI {a : Int} {js : List Int} {Q : D → Prop} (q : Q (.bool (decide (a ∈ js)))) : Wp (gIn (.int a) (.list (js.map .int))) Q := by
  refine w_inM (n := 0) (by decide) (okM_int 0 a) (fun y _ => okM_int 0 y) ?_
  have e : (js.any fun y => PyData.eqv (.int y) (.int a)) = decide (a ∈ js) := by
    clear q
    induction js with
    | nil => rfl
    | cons b r ih =>
      rw [List.any_cons, ih]
      by_cases h : b = a
      · subst h; simp [PyData.eqv]
      · have : ¬ a = b := fun z => h z.symm
        simp [PyData.eqv, h, this]
  rw [e]
  exact q
theorem grp_len (z : Int) (x : Str) : ∀ gs : List (Int × List Str), (grp gs z x).length ≤ gs.length + 1
  | [] => Nat.le_refl _
  | (y, ys) :: r => by
    unfold grp
    split
    · simp
    · have := grp_len z x r
      simp only [List.length_cons]
      omega
theorem grp_lots (z : Int) (x : Str) {n : Nat} : ∀ gs : List (Int × List Str), (∀ g ∈ gs, g.2.length ≤ n) → ∀ g ∈ grp gs z x, g.2.length ≤ n + 1
  | [], _, g, hg => by
    unfold grp at hg
    rw [List.mem_singleton.mp hg]
    simp
  | (y, ys) :: r, h, g, hg => by
    unfold grp at hg
    split at hg
    · rcases List.mem_cons.mp hg with e | hg
      · have := h (y, ys) List.mem_cons_self
        rw [e]
        simp only [List.length_append, List.length_cons, List.length_nil] at *
        omega
      · exact Nat.le_succ_of_le (h g (List.mem_cons_of_mem _ hg))
    · rcases List.mem_cons.mp hg with e | hg
      · rw [e]; exact Nat.le_succ_of_le (h (y, ys) List.mem_cons_self)
      · exact grp_lots z x r (fun g hg => h g (List.mem_cons_of_mem _ hg)) g hg
theorem lotOf_len (z : Int) {n : Nat} : ∀ gs : List (Int × List Str), (∀ g ∈ gs, g.2.length ≤ n) → (lotOf gs z).length ≤ n
  | [], _ => Nat.zero_le _
  | (y, ys) :: r, h => by
    unfold lotOf
    split
    · exact h (y, ys) List.mem_cons_self
    · exact lotOf_len z r fun g hg => h g (List.mem_cons_of_mem _ hg)
theorem lotsL_w {α : Type} {e : α → D} {g : D → Rho → Option Rho} {mk me : M D} (I : Rho → Prop) (lf : α → Int) (nm : α → Str) : ∀ (xs : List α) (ρ : Rho) (gs : List (Int × List Str)) (n : Nat), n + xs.length < 16777216 → gs.length ≤ n → (∀ g ∈ gs, g.2.length ≤ n) → I ρ →
    (∀ x ∈ xs, ∀ ρ, I ρ → Wp (g (e x) ρ) fun ρ1 => PD.Wq (mk ρ1) fun k ρ2 => k = .int (lf x) ∧ PD.Wq (me ρ2) fun y ρ3 => y = .str (nm x) ∧ I ρ3) → Wp (lotsL g mk me (xs.map e) ρ gs) fun r => r.1 = xs.foldl (fun gs x => grp gs (lf x) (nm x)) gs ∧ I r.2
  | [], ρ, gs, n, _, _, _, hI, _ => ⟨_, rfl, rfl, hI⟩
  | x :: xs, ρ, gs, n, hn, h1, h2, hI, hs => by
    obtain ⟨ρ1, e1, ⟨k, ρ2⟩, e2, ek, ⟨y, ρ3⟩, e3, ey, hI3⟩ := hs x List.mem_cons_self ρ hI
    simp only at ek ey e3 hI3
    subst ek ey
    have hl := lotOf_len (lf x) gs h2
    rw [List.length_cons] at hn
    obtain ⟨r, er, hr⟩ := lotsL_w I lf nm xs ρ3 (grp gs (lf x) (nm x)) (n + 1) (by omega) (Nat.le_trans (grp_len _ _ _) (by omega)) (grp_lots _ _ gs h2) hI3 fun x hx => hs x (List.mem_cons_of_mem _ hx)
    refine ⟨r, ?_, hr⟩
    rw [List.map_cons]
    unfold lotsL
    simp only [e1, e2, e3]
    rw [if_pos ⟨by unfold sizeLine; omega, by unfold sizeLine; omega⟩]
    exact er
theorem w_lots {i : Nat} {mi : M (List D)} {g : D → Rho → Option Rho} {mk me : M D} {ρ : Rho} {QS : Out → Prop} (h0 : ρ[i]? = some (some (true, .dict []))) (h : PD.Wq (mi ρ) fun ds ρ1 => Wp (lotsL g mk me ds (ρ1.set i none) []) fun r => QS (.nx (r.2.set i (some (false, lotsD r.1))))) : Wp (mLots i mi g mk me ρ) QS := by
  obtain ⟨⟨ds, ρ1⟩, e1, ⟨gs, ρ2⟩, e2, q⟩ := h
  simp only at e2 q
  refine ⟨_, ?_, q⟩
  unfold mLots
  rw [h0]
  simp only [e1, e2]
theorem labs_snoc (us : Ux) (nss : List (List Str)) (ns : List Str) : labs us (nss ++ [ns]) = stepL (labs us nss) ns := by unfold labs; rw [List.foldl_append]; rfl
def eL (zs : List Str) : D := .list (zs.map .str)
theorem lotsD_kv (gs : List (Int × List Str)) : lotsD gs = .dict (kvM .int eL gs) := rfl
theorem lotsOf_nd {names : List Str} {l : Lb} (h : LOk names l) (hn : names.Nodup) : ((lotsOf l names []).map (·.1)).Nodup := by
  have e := lots_take (h.g hn) names.length (Nat.le_refl _)
  rw [List.take_length] at e
  unfold lotsOf
  rw [e, List.map_map]
  refine List.pairwise_map.mpr ((List.nodup_range.filter _).imp fun {a b} hab z => hab ?_)
  have z : (a : Int) = (b : Int) := z
  omega
theorem lots_len {names : List Str} {l : Lb} (h : LOk names l) (hn : names.Nodup) : (lotsOf l names []).length ≤ names.length := by
  have e := lots_take (h.g hn) names.length (Nat.le_refl _)
  rw [List.take_length] at e
  unfold lotsOf
  rw [e, List.length_map]
  exact Nat.le_trans (List.length_filter_le _ _) (by rw [List.length_range]; exact Nat.le_refl _)
theorem parts_w {M : Md} (h : MdOk M) {Q : D → List D → Prop} (q : Q (.tuple ((rowsOf (labOf M) (nms M.us)).map eT)) [eMd M]) : PD.Wq (f_parts [eMd M]) Q := by
  have hu24 := h.us.len
  have hil := its_len h
  have hh := h.hl
  have hs := h.sl
  have hn : (nms M.us).length = M.us.length := List.length_map ..
  unfold f_parts m_parts eMd
  top_reprB
  refine wen (xs := M.us) (f := eDm) rfl ?_
  top_reprB
  refine q_dcMS ((List.range M.us.length).zip M.us) (fun p => .tuple [.int (p.1 : Nat), eDm p.2]) (fun ρ => ∃ a b c, ρ = [some (false, .tuple [.tuple (M.us.map eDm), .tuple (M.hd.map eH), .tuple (M.sf.map eS)]), none, none, none, none, a, b, c, none]) (fun p => (p.2.1, (p.1 : Int))) .int (by rw [List.length_zip, List.length_range]; omega) ⟨_, _, _, rfl⟩ (fun x hx ρ ⟨a, b, c, e⟩ => ?_) fun ρ ⟨a, b, c, e⟩ => ?_
  · subst e
    unfold eDm
    top_reprB
    all_goals first | rfl | exact ⟨_, _, _, rfl⟩
  · subst e
    rw [show ((List.range M.us.length).zip M.us).map (fun p => (p.2.1, (p.1 : Int))) = lab0 M.us from rfl, putAllM_nd _ _ (by rw [List.nil_append, lab0_keys]; exact h.us.nd), List.nil_append]
    top_reprB
    rw [← its_data]
    have lok : ∀ pre : List (D × List Str), (∀ it ∈ pre, it ∈ its M) → LOk (nms M.us) (labs M.us (pre.map (·.2))) := fun pre hp => labs_ok (lab0_ok _) fun ns hn x hx => by
      obtain ⟨it, hi, rfl⟩ := List.mem_map.mp hn
      obtain ⟨d, _, hs⟩ := its_ok h it (hp it hi)
      exact hs.dom x hx
    refine W_forM (its M) (·.1) (fun pre ρ => ∃ a b, ρ = [some (false, .tuple [.tuple (M.us.map eDm), .tuple (M.hd.map eH), .tuple (M.sf.map eS)]), some (false, .dict (kvM .str .int (labs M.us (pre.map (·.2))))), a, b, none, none, none, none, none]) ⟨_, _, rfl⟩ (fun pre x post ρ hx ⟨a, b, e⟩ => ?_) fun ρ ⟨a, b, e⟩ => ?_
    · subst e
      have hxm : x ∈ its M := by rw [hx]; simp
      have hl := lok pre fun it hi => by rw [hx]; simp [hi]
      obtain ⟨d, hd, hsay⟩ := its_ok h x hxm
      have hlen := hsay.len
      have hll : (labs M.us (pre.map (·.2))).length ≤ 24 := by
        have := congrArg List.length hl.keys
        rw [List.length_map] at this
        omega
      top_reprB
      refine hsay.prog 3 (by omega) ?_
      top_reprB
      refine q_lcA x.2 .str (fun ρ => ∃ c, ρ = [some (false, .tuple [.tuple (M.us.map eDm), .tuple (M.hd.map eH), .tuple (M.sf.map eS)]), some (false, .dict (kvM .str .int (labs M.us (pre.map (·.2))))), some (false, x.1), b, none, c, none, none, none]) (fun y => .int (lg (labs M.us (pre.map (·.2))) y)) (by omega) ⟨_, rfl⟩ (fun y hy ρ ⟨c, e⟩ => ?_) fun ρ ⟨c, e⟩ => ?_
      · subst e
        top_reprB
        refine w_ixMS (hl.get (hsay.dom y hy)) ?_
        top_reprB
        all_goals first | rfl | exact ⟨_, rfl⟩
      · subst e
        rw [show x.2.map (fun y => PyData.int (lg (labs M.us (pre.map (·.2))) y)) = (joinedL (labs M.us (pre.map (·.2))) x.2).map PyData.int from (List.map_map ..).symm]
        generalize hL : labs M.us (pre.map (·.2)) = L at *
        have hjl : (joinedL L x.2).length ≤ 60 := by unfold joinedL; rw [List.length_map]; omega
        top_reprB
        refine q_dcMS L (fun p => .tuple [.str p.1, .int p.2]) (fun ρ => ∃ c d, ρ = [some (false, .tuple [.tuple (M.us.map eDm), .tuple (M.hd.map eH), .tuple (M.sf.map eS)]), some (false, .dict (kvM .str .int L)), some (false, x.1), some (false, .list ((joinedL L x.2).map .int)), none, c, none, d, none]) (fun p => (p.1, newL (joinedL L x.2) p.2)) .int (by omega) ⟨_, _, rfl⟩ (fun p hp ρ ⟨c, d, e⟩ => ?_) fun ρ ⟨c, d, e⟩ => ?_
        · subst e
          top_reprB
          refine w_inI ?_
          top_reprB
          · rename_i hin
            refine w_minL (List.length_pos_of_mem hin) fun m m1 m2 => ?_
            top_reprB
            all_goals first | exact ⟨_, _, rfl⟩ | (unfold newL; rw [if_pos hin, mn_uniq m1 m2])
          all_goals first | exact ⟨_, _, rfl⟩ | (rename_i hin; unfold newL; rw [if_neg hin])
        · subst e
          have hk := (hl.step hsay.dom).keys
          rw [show L.map (fun p => (p.1, newL (joinedL L x.2) p.2)) = stepL L x.2 from rfl, putAllM_nd _ _ (by rw [List.nil_append, hk]; exact h.us.nd), List.nil_append]
          top_reprB
          exact ⟨_, _, by rw [List.map_append, List.map_cons, List.map_nil, labs_snoc, hL]⟩
    · subst e
      have hl : LOk (nms M.us) (labOf M) := labOf_ok h
      rw [show labs M.us ((its M).map (·.2)) = labOf M from rfl]
      generalize labOf M = L at *
      top_reprB
      refine w_lots rfl ?_
      top_reprB
      refine (lotsL_w (fun ρ => ∃ c d, ρ = [some (false, .tuple [.tuple (M.us.map eDm), .tuple (M.hd.map eH), .tuple (M.sf.map eS)]), some (false, .dict (kvM .str .int L)), a, b, none, c, d, none, none]) (fun d : Str × List Int => lg L d.1) (·.1) M.us _ [] 0 (by omega) (Nat.le_refl _) (fun g z => nomatch z) ⟨_, _, rfl⟩ (fun x hx ρ ⟨c, d, e⟩ => ?_)).mono fun r ⟨hr, c, d, e⟩ => ?_
      · subst e
        have hxm : x.1 ∈ nms M.us := List.mem_map_of_mem hx
        unfold eDm
        top_reprB
        refine w_ixMS (hl.get hxm) ?_
        top_reprB
        all_goals first | rfl | exact ⟨_, _, rfl⟩
      · rw [e]
        have hr2 : r.1 = lotsOf L (nms M.us) [] := by
          rw [hr]
          unfold lotsOf nms
          rw [List.foldl_map]
        have nd := lotsOf_nd hl h.us.nd
        have ll := lots_len hl h.us.nd
        have e3 : (lotsOf L (nms M.us) []).map (fun g => eT ((getM (lotsOf L (nms M.us) []) g.1).getD [])) = (rowsOf L (nms M.us)).map eT := by
          rw [← lots_eq hl h.us.nd, List.map_map]
          refine List.map_congr_left fun g hg => ?_
          rw [getM_nd nd hg]
          rfl
        rw [hr2, lotsD_kv]
        generalize lotsOf L (nms M.us) [] = gs at *
        top_reprB
        refine q_lcA (gs.map (·.1)) .int (fun ρ => ∃ f, ρ = [some (false, .tuple [.tuple (M.us.map eDm), .tuple (M.hd.map eH), .tuple (M.sf.map eS)]), some (false, .dict (kvM .str .int L)), a, b, some (false, .dict (kvM .int eL gs)), c, d, none, f]) (fun z => eT ((getM gs z).getD [])) (by rw [List.length_map]; omega) ⟨_, rfl⟩ (fun z hz ρ ⟨f, e⟩ => ?_) fun ρ ⟨f, e⟩ => ?_
        · subst e
          obtain ⟨v, hv⟩ := getM_some hz
          top_reprB
          refine w_ixMI hv ?_
          rw [hv]
          unfold eL eT
          top_reprB
          all_goals first | rfl | exact ⟨_, rfl⟩
        · subst e
          rw [List.map_map]
          rw [show ((fun z => eT ((getM gs z).getD [])) ∘ fun g : Int × List Str => g.1) = fun g => eT ((getM gs g.1).getD []) from rfl, e3]
          top_reprB
          exact q
end
section
local macro_rules | `(tactic| allgen_close_more) => `(tactic| fail)
theorem put_mid {x : Str} {a v : Int} : ∀ {A B : Lb}, x ∉ A.map (·.1) → x ∉ B.map (·.1) → putM (A ++ (x, a) :: B) x v = A ++ (x, v) :: B := by
  intro A B hA hB
  have h1 : (getM (A ++ (x, a) :: B) x).isSome := getM_isSome.mpr (by simp)
  unfold putM
  rw [if_pos h1, List.map_append, List.map_cons]
  have e1 : ∀ C : Lb, x ∉ C.map (·.1) → C.map (fun p => if p.1 = x then (p.1, v) else p) = C := fun C hC => by
    conv => rhs; rw [← List.map_id C]
    refine List.map_congr_left fun p hp => ?_
    rw [if_neg (fun (e : p.1 = x) => hC (by rw [← e]; exact List.mem_map_of_mem (f := (·.1)) hp))]
    rfl
  rw [e1 A hA, e1 B hB]
  simp
theorem putM_newL {l : Lb} {x : Str} {v : Int} (h : x ∉ l.map (·.1)) : putM l x v = l ++ [(x, v)] := by
  unfold putM
  rw [if_neg]
  exact fun z => h (getM_isSome.mp z)
theorem lab0_get {us : Ux} {k : Nat} {x : Str} (h : (nms us)[k]? = some x) : (lab0 us)[k]? = some (x, (k : Int)) := by
  rw [← lab0_keys, List.getElem?_map, Option.map_eq_some_iff] at h
  obtain ⟨p, e, rfl⟩ := h
  rw [e, ← lab0_at e]
def rowsTo (l : Lb) (names : List Str) (n : Nat) : List (List Str) := ((List.range n).map fun k => names.filter fun x => decide (lg l x = (k : Nat))).filter fun r => !r.isEmpty
theorem rowsTo_succ (l : Lb) (names : List Str) (n : Nat) : rowsTo l names (n + 1) = rowsTo l names n ++ [names.filter fun x => decide (lg l x = (n : Nat))].filter fun r => !r.isEmpty := by
  unfold rowsTo
  rw [List.range_succ, List.map_append, List.filter_append]
  rfl
theorem rowsTo_len (l : Lb) (names : List Str) (n : Nat) : (rowsTo l names n).length ≤ n := by
  unfold rowsTo
  refine Nat.le_trans (List.length_filter_le _ _) ?_
  rw [List.length_map, List.length_range]
  exact Nat.le_refl _
theorem law_parts_w {M : Md} (h : MdOk M) {Q : D → List D → Prop} (q : Q (.tuple ((rowsOf (labOf M) (nms M.us)).map eT)) [eMd M]) : PD.Wq (f__law_parts [eMd M]) Q := by
  have hu24 := h.us.len
  have hil := its_len h
  have hh := h.hl
  have hs := h.sl
  have hnd := h.us.nd
  have hn : (nms M.us).length = M.us.length := List.length_map ..
  unfold f__law_parts m__law_parts eMd
  top_reprB
  refine q_lcA M.us eDm (fun ρ => ∃ a, ρ = [some (false, .tuple [.tuple (M.us.map eDm), .tuple (M.hd.map eH), .tuple (M.sf.map eS)]), none, none, none, a, none, none, none, none]) (fun d => .str d.1) (by omega) ⟨_, rfl⟩ (fun x hx ρ ⟨a, e⟩ => ?_) fun ρ ⟨a, e⟩ => ?_
  · subst e
    unfold eDm
    top_reprB
    all_goals first | rfl | exact ⟨_, rfl⟩
  · subst e
    rw [show M.us.map (fun d => PyData.str d.1) = (nms M.us).map PyData.str from (List.map_map ..).symm]
    top_reprB
    have l0 : (lab0 M.us).length = M.us.length := by
      have := congrArg List.length (lab0_keys M.us)
      rw [List.length_map] at this
      omega
    refine W_forR (fun k ρ => ∃ b, ρ = [some (false, .tuple [.tuple (M.us.map eDm), .tuple (M.hd.map eH), .tuple (M.sf.map eS)]), some (false, .list ((nms M.us).map .str)), some (true, .dict (kvM .str .int ((lab0 M.us).take k))), b, none, none, none, none, none]) ⟨_, rfl⟩ (fun k ρ hk ⟨b, e⟩ => ?_) fun ρ ⟨b, e⟩ => ?_
    · subst e
      simp only [List.length_map] at hk
      top_reprB
      rename_i x hx
      rw [show (0 + (k : Nat) : Int).toNat = k by omega] at hx
      have hg := lab0_get hx
      have hnew : x ∉ ((lab0 M.us).take k).map (·.1) := fun z => by
        rw [List.map_take, lab0_keys] at z
        obtain ⟨i, hi, e⟩ := List.mem_iff_getElem.mp z
        rw [List.length_take] at hi
        rw [List.getElem_take] at e
        obtain ⟨hk2, e2⟩ := List.getElem?_eq_some_iff.mp hx
        have := (List.getElem_inj hnd).mp (e.trans e2.symm)
        omega
      refine w_putMS (ev := .int) (v := 0 + (k : Nat)) (by rw [List.length_take]; omega) ?_
      rw [putM_newL hnew]
      top_reprB
      exact ⟨_, by rw [List.take_succ, hg, Int.zero_add]; rfl⟩
    · subst e
      simp only [List.length_map]
      rw [Int.toNat_natCast, hn, List.take_of_length_le (by omega)]
      top_reprB
      rw [← its_data]
      have lok : ∀ pre : List (D × List Str), (∀ it ∈ pre, it ∈ its M) → LOk (nms M.us) (labs M.us (pre.map (·.2))) := fun pre hp => labs_ok (lab0_ok _) fun ns hn x hx => by
        obtain ⟨it, hi, rfl⟩ := List.mem_map.mp hn
        obtain ⟨d, _, hs⟩ := its_ok h it (hp it hi)
        exact hs.dom x hx
      refine W_forM (its M) (·.1) (fun pre ρ => ∃ b c d e, ρ = [some (false, .tuple [.tuple (M.us.map eDm), .tuple (M.hd.map eH), .tuple (M.sf.map eS)]), some (false, .list ((nms M.us).map .str)), some (true, .dict (kvM .str .int (labs M.us (pre.map (·.2))))), b, c, d, e, none, none]) ⟨_, _, _, _, rfl⟩ (fun pre x post ρ hx ⟨b, c, d, e, e1⟩ => ?_) fun ρ ⟨b, c, d, e, e1⟩ => ?_
      · subst e1
        have hxm : x ∈ its M := by rw [hx]; simp
        have hl := lok pre fun it hi => by rw [hx]; simp [hi]
        obtain ⟨d', hd, hsay⟩ := its_ok h x hxm
        have hlen := hsay.len
        top_reprB
        refine hsay.law 3 (by omega) ?_
        top_reprB
        generalize hL : labs M.us (pre.map (·.2)) = L at *
        have hll : L.length ≤ 24 := by
          have := congrArg List.length hl.keys
          rw [List.length_map] at this
          omega
        refine q_lcA x.2 .str (fun ρ => ∃ c, ρ = [some (false, .tuple [.tuple (M.us.map eDm), .tuple (M.hd.map eH), .tuple (M.sf.map eS)]), some (false, .list ((nms M.us).map .str)), some (true, .dict (kvM .str .int L)), b, some (false, x.1), d, c, none, none]) (fun y => .int (lg L y)) (by omega) ⟨_, rfl⟩ (fun y hy ρ ⟨c, e⟩ => ?_) fun ρ ⟨c, e⟩ => ?_
        · subst e
          top_reprB
          refine w_ixMS (hl.get (hsay.dom y hy)) ?_
          top_reprB
          all_goals first | rfl | exact ⟨_, rfl⟩
        · subst e
          rw [show x.2.map (fun y => PyData.int (lg L y)) = (joinedL L x.2).map PyData.int from (List.map_map ..).symm]
          generalize hJ : joinedL L x.2 = J at *
          have hjl : J.length ≤ 60 := by rw [← hJ]; unfold joinedL; rw [List.length_map]; omega
          top_reprB
          refine W_forM (nms M.us) .str (fun pre2 ρ => ∃ (A B : Lb) (c : Option (Bool × D)), L = A ++ B ∧ A.map (·.1) = pre2 ∧ ρ = [some (false, .tuple [.tuple (M.us.map eDm), .tuple (M.hd.map eH), .tuple (M.sf.map eS)]), some (false, .list ((nms M.us).map .str)), some (true, .dict (kvM .str .int (A.map (fun p => (p.1, newL J p.2)) ++ B))), b, some (false, x.1), some (false, .list (J.map .int)), c, none, none]) ⟨[], L, _, rfl, rfl, rfl⟩ (fun pre2 y post2 ρ hy ⟨A, B, c, k1, k2, e⟩ => ?_) fun ρ ⟨A, B, c, k1, k2, e⟩ => ?_
          · subst e
            have hkeys := hl.keys
            rw [k1, List.map_append, k2, hy] at hkeys
            have hB := List.append_cancel_left hkeys
            obtain ⟨⟨y', a⟩, B', rfl⟩ : ∃ p B', B = p :: B' := by
              cases B with
              | nil => cases hB
              | cons p B' => exact ⟨p, B', rfl⟩
            rw [List.map_cons] at hB
            injection hB with hy' hB'
            simp only at hy'
            subst hy'
            rw [hy] at hnd
            have hn2 := List.nodup_append.mp hnd
            have hA : y' ∉ (A.map fun p => (p.1, newL J p.2)).map (·.1) := fun z => by
              rw [List.map_map] at z
              have z : y' ∈ A.map (·.1) := z
              rw [k2] at z
              exact hn2.2.2 y' z y' List.mem_cons_self rfl
            have hBn : y' ∉ B'.map (·.1) := fun z => by
              rw [hB'] at z
              exact (List.nodup_cons.mp hn2.2.1).1 z
            have hget : getM (A.map (fun p => (p.1, newL J p.2)) ++ (y', a) :: B') y' = some a := by
              rw [getM_app]
              have e0 : getM (A.map fun p => (p.1, newL J p.2)) y' = none := by
                cases q0 : getM (A.map fun p => (p.1, newL J p.2)) y' with
                | none => rfl
                | some v => exact absurd (getM_isSome.mp (by rw [q0]; rfl)) hA
              rw [e0, getM_cons, if_pos rfl]
              rfl
            have hlen2 : A.length + B'.length + 1 ≤ 24 := by
              have := congrArg List.length k1
              rw [List.length_append, List.length_cons] at this
              omega
            top_reprB
            refine w_ixMS hget ?_
            top_reprB
            refine w_inI ?_
            top_reprB
            · rename_i hin
              refine w_minL (List.length_pos_of_mem hin) fun m m1 m2 => ?_
              top_reprB
              refine w_putMS (ev := .int) (v := m) (by rw [List.length_append, List.length_map, List.length_cons]; omega) ?_
              rw [put_mid hA hBn]
              top_reprB
              exact ⟨A ++ [(y', a)], B', _, by rw [k1]; simp, by rw [List.map_append, k2]; rfl, by rw [List.map_append, List.map_cons, List.map_nil, List.append_assoc]; unfold newL; rw [if_pos hin, mn_uniq m1 m2]; rfl⟩
            · rename_i hin
              exact ⟨A ++ [(y', a)], B', _, by rw [k1]; simp, by rw [List.map_append, k2]; rfl, by rw [List.map_append, List.map_cons, List.map_nil, List.append_assoc]; unfold newL; rw [if_neg hin]; rfl⟩
          · subst e
            have hB : B = [] := by
              have e1 := congrArg List.length hl.keys
              have e2 := congrArg List.length k2
              have e3 := congrArg List.length k1
              rw [List.length_map] at e1 e2
              rw [List.length_append] at e3
              exact List.eq_nil_of_length_eq_zero (by omega)
            subst hB
            rw [List.append_nil] at k1
            subst k1
            rw [List.append_nil, show L.map (fun p => (p.1, newL J p.2)) = stepL L x.2 from by unfold stepL; rw [hJ]]
            top_reprB
            exact ⟨_, _, _, _, by rw [List.map_append, List.map_cons, List.map_nil, labs_snoc, hL]⟩
      · subst e1
        have hl : LOk (nms M.us) (labOf M) := labOf_ok h
        rw [show labs M.us ((its M).map (·.2)) = labOf M from rfl]
        generalize labOf M = L at *
        top_reprB
        refine W_forR (fun k ρ => ∃ b d e f, ρ = [some (false, .tuple [.tuple (M.us.map eDm), .tuple (M.hd.map eH), .tuple (M.sf.map eS)]), some (false, .list ((nms M.us).map .str)), some (true, .dict (kvM .str .int L)), b, c, d, e, some (true, .list ((rowsTo L (nms M.us) k).map eT)), f]) ⟨_, _, _, _, rfl⟩ (fun k ρ hk ⟨b, d, e, f, e1⟩ => ?_) fun ρ ⟨b, d, e, f, e1⟩ => ?_
        · simp only [List.length_map] at hk
          have hrl := rowsTo_len L (nms M.us) k
          have hrs := rowsTo_succ L (nms M.us) k
          have hfl := List.length_filter_le (fun x => decide (lg L x = (k : Nat))) (nms M.us)
          subst e1
          top_reprB
          refine q_lcM (nms M.us) .str (fun ρ => ∃ g, ρ = [some (false, .tuple [.tuple (M.us.map eDm), .tuple (M.hd.map eH), .tuple (M.sf.map eS)]), some (false, .list ((nms M.us).map .str)), some (true, .dict (kvM .str .int L)), some (false, .int (0 + (k : Nat))), c, d, g, some (true, .list ((rowsTo L (nms M.us) k).map eT)), f]) (fun x => decide (lg L x = (k : Nat))) .str (by omega) ⟨_, rfl⟩ (fun x hx ρ ⟨g, e⟩ => ?_) fun ρ ⟨g, e⟩ => ?_
          · subst e
            top_reprB
            refine w_ixMS (hl.get hx) ?_
            rw [Int.zero_add]
            top_reprB
            all_goals first | rfl | exact ⟨_, rfl⟩
          · subst e
            rw [hrs]
            generalize (nms M.us).filter (fun x => decide (lg L x = (k : Nat))) = R at *
            have er : ∀ z : List Str, R = z → (rowsTo L (nms M.us) k ++ [R].filter fun r => !r.isEmpty).map eT = (rowsTo L (nms M.us) k).map eT ++ (if 0 < R.length then [eT R] else []) := fun z hz => by
              cases R with
              | nil => simp
              | cons z r => simp
            rw [er R rfl]
            top_reprB
            · rename_i hr
              rw [List.length_map] at hr
              rw [if_pos (by omega)]
              exact ⟨_, _, _, _, rfl⟩
            · rename_i hr
              rw [List.length_map] at hr
              rw [if_neg (by omega), List.append_nil]
              exact ⟨_, _, _, _, rfl⟩
        · simp only [List.length_map] at e1
          rw [Int.toNat_natCast, show rowsTo L (nms M.us) (nms M.us).length = rowsOf L (nms M.us) from rfl] at e1
          subst e1
          top_reprB
          exact q
end
section
local macro_rules | `(tactic| allgen_close_more) => `(tactic| fail)
def itH (M : Md) : List (D × List Str) := M.hd.map fun h => (eH h, h.2.2)
def itS (M : Md) : List (D × List Str) := M.sf.map fun h => (eS h, h.1.2.2)
theorem itH_data (M : Md) : M.hd.map eH = (itH M).map (·.1) := by unfold itH; rw [List.map_map]; rfl
theorem itS_data (M : Md) : M.sf.map eS = (itS M).map (·.1) := by unfold itS; rw [List.map_map]; rfl
def ItOk (dom : List Str) (it : D × List Str) : Prop := ∃ d, gIx it.1 (.int 1) = some d ∧ Say dom 2 d it.2
theorem itH_ok {M : Md} (h : MdOk M) : ∀ it ∈ itH M, ItOk (nms M.us) it := fun it hi => its_ok h it (List.mem_append_left _ hi)
theorem itS_ok {M : Md} (h : MdOk M) : ∀ it ∈ itS M, ItOk (nms M.us) it := fun it hi => its_ok h it (List.mem_append_right _ hi)
def pIn (part : List Str) (x : Str) : Bool := part.any fun y => PyData.eqv (.str y) (.str x)
def selR (part : List Str) (r : List (D × List Str)) : List D := (r.filter fun it => it.2.any (pIn part)).map (·.1)
def partD (M : Md) (part : List Str) : D := .tuple [.tuple ((M.us.filter fun d => pIn part d.1).map eDm), .tuple (selR part (itH M)), .tuple (selR part (itS M))]
theorem w_inP {part : List Str} {x : Str} {Q : D → Prop} (hx : PyData.strOk x = true) (hp : ∀ y ∈ part, PyData.strOk y = true) (q : Q (.bool (pIn part x))) : Wp (gIn (.str x) (.tuple (part.map .str))) Q :=
  w_inT (n := 0) (by decide) (okM_str 0 hx) (fun y hy => okM_str 0 (hp y hy)) q
theorem part_model_w {M : Md} (h : MdOk M) {part : List Str} (hp : ∀ y ∈ part, y ∈ nms M.us) {Q : D → List D → Prop} (q : Q (partD M part) [eMd M, eT part]) : PD.Wq (f_part_model_of [eMd M, eT part]) Q := by
  have hu24 := h.us.len
  have hh := h.hl
  have hs := h.sl
  have hok := h.us.ok
  have hpk : ∀ y ∈ part, PyData.strOk y = true := fun y hy => hok y (hp y hy)
  have h1 := itH_ok h
  have h2 := itS_ok h
  have l1 : (itH M).length ≤ 100 := by unfold itH; rw [List.length_map]; exact hh
  have l2 : (itS M).length ≤ 100 := by unfold itS; rw [List.length_map]; exact hs
  unfold partD at q
  unfold f_part_model_of m_part_model_of eMd eT at *
  rw [itH_data, itS_data] at *
  generalize itH M = R1 at *
  generalize itS M = R2 at *
  top_reprB
  rw [show PD.cutD [.tuple (M.us.map eDm), .tuple (R1.map (·.1)), .tuple (R2.map (·.1))] (some 1) none = [R1, R2].map (fun r => PyData.tuple (r.map (·.1))) from rfl]
  refine q_lcA [R1, R2] (fun r => .tuple (r.map (·.1))) (fun ρ => ∃ a b c, ρ = [some (false, .tuple [.tuple (M.us.map eDm), .tuple (R1.map (·.1)), .tuple (R2.map (·.1))]), some (false, .tuple (part.map .str)), none, a, b, c]) (fun r => .list (selR part r)) (by simp) ⟨_, _, _, rfl⟩ (fun r hr ρ ⟨a, b, c, e⟩ => ?_) fun ρ ⟨a, b, c, e⟩ => ?_
  · subst e
    have hro : ∀ it ∈ r, ItOk (nms M.us) it := by
      simp only [List.mem_cons, List.not_mem_nil, or_false] at hr
      rcases hr with rfl | rfl <;> assumption
    have hrl : r.length ≤ 100 := by
      simp only [List.mem_cons, List.not_mem_nil, or_false] at hr
      rcases hr with rfl | rfl <;> assumption
    top_reprB
    refine q_lcM r (·.1) (fun ρ => ∃ b c, ρ = [some (false, .tuple [.tuple (M.us.map eDm), .tuple (R1.map (·.1)), .tuple (R2.map (·.1))]), some (false, .tuple (part.map .str)), none, some (false, .tuple (r.map (·.1))), b, c]) (fun it => it.2.any (pIn part)) (·.1) (by omega) ⟨_, _, rfl⟩ (fun x hx ρ ⟨b, c, e⟩ => ?_) fun ρ ⟨b, c, e⟩ => ?_
    · subst e
      obtain ⟨d, hd, hsay⟩ := hro x hx
      top_reprB
      refine hsay.prog 3 (by omega) ?_
      top_reprB
      refine q_any x.2 .str (fun ρ => ∃ c, ρ = [some (false, .tuple [.tuple (M.us.map eDm), .tuple (R1.map (·.1)), .tuple (R2.map (·.1))]), some (false, .tuple (part.map .str)), none, some (false, .tuple (r.map (·.1))), some (false, x.1), c]) (pIn part) ⟨_, rfl⟩ (fun y hy ρ ⟨c, e⟩ => ?_) fun ρ ⟨c, e⟩ => ?_
      · subst e
        top_reprB
        refine w_inP (hok y (hsay.dom y hy)) hpk ?_
        top_reprB
        all_goals first | rfl | exact ⟨_, rfl⟩
      · subst e
        top_reprB
        all_goals first | rfl | exact ⟨_, _, rfl⟩ | trace_state
    · subst e
      top_reprB
      all_goals first | rfl | exact ⟨_, _, _, rfl⟩ | trace_state
  · subst e
    top_reprB
    refine q_lcM M.us eDm (fun ρ => ∃ b, ρ = [some (false, .tuple [.tuple (M.us.map eDm), .tuple (R1.map (·.1)), .tuple (R2.map (·.1))]), some (false, .tuple (part.map .str)), some (false, .list [.list (selR part R1), .list (selR part R2)]), none, b, c]) (fun d => pIn part d.1) eDm (by omega) ⟨_, rfl⟩ (fun d hd ρ ⟨b, e⟩ => ?_) fun ρ ⟨b, e⟩ => ?_
    · subst e
      have hdm : d.1 ∈ nms M.us := List.mem_map_of_mem hd
      unfold eDm
      top_reprB
      refine w_inP (hok _ hdm) hpk ?_
      top_reprB
      all_goals first | rfl | exact ⟨_, rfl⟩ | trace_state
    · subst e
      top_reprB
      exact q
theorem any_len {α : Type} (p : α → Bool) (l : List α) : decide (0 < (l.filter p).length) = l.any p := by
  induction l with
  | nil => rfl
  | cons x r ih =>
    rw [List.filter_cons, List.any_cons, ← ih]
    cases p x <;> simp
theorem law_part_model_w {M : Md} (h : MdOk M) {part : List Str} (hp : ∀ y ∈ part, y ∈ nms M.us) {Q : D → List D → Prop} (q : Q (partD M part) [eMd M, eT part]) : PD.Wq (f__law_part_model [eMd M, eT part]) Q := by
  have hu24 := h.us.len
  have hh := h.hl
  have hs := h.sl
  have hok := h.us.ok
  have hpk : ∀ y ∈ part, PyData.strOk y = true := fun y hy => hok y (hp y hy)
  have h1 := itH_ok h
  have h2 := itS_ok h
  have l1 : (itH M).length ≤ 100 := by unfold itH; rw [List.length_map]; exact hh
  have l2 : (itS M).length ≤ 100 := by unfold itS; rw [List.length_map]; exact hs
  unfold partD at q
  unfold f__law_part_model m__law_part_model eMd eT at *
  rw [itH_data, itS_data] at *
  generalize itH M = R1 at *
  generalize itS M = R2 at *
  top_reprB
  refine q_lcM R1 (·.1) (fun ρ => ∃ b c, ρ = [some (false, .tuple [.tuple (M.us.map eDm), .tuple (R1.map (·.1)), .tuple (R2.map (·.1))]), some (false, .tuple (part.map .str)), none, none, b, c, none]) (fun it => it.2.any (pIn part)) (·.1) (by omega) ⟨_, _, rfl⟩ (fun x hx ρ ⟨b, c, e⟩ => ?_) fun ρ ⟨b, c, e⟩ => ?_
  · subst e
    obtain ⟨d, hd, hsay⟩ := h1 x hx
    have hlen := hsay.len
    top_reprB
    refine hsay.law 3 (by omega) ?_
    top_reprB
    refine q_lcM x.2 .str (fun ρ => ∃ c, ρ = [some (false, .tuple [.tuple (M.us.map eDm), .tuple (R1.map (·.1)), .tuple (R2.map (·.1))]), some (false, .tuple (part.map .str)), none, none, some (false, x.1), c, none]) (pIn part) .str (by omega) ⟨_, rfl⟩ (fun y hy ρ ⟨c, e⟩ => ?_) fun ρ ⟨c, e⟩ => ?_
    · subst e
      top_reprB
      refine w_inP (hok y (hsay.dom y hy)) hpk ?_
      top_reprB
      all_goals first | rfl | exact ⟨_, rfl⟩
    · subst e
      have ea := any_len (pIn part) x.2
      top_reprB
      all_goals first | rfl | exact ⟨_, _, rfl⟩ | (rw [← ea]; simp; done) | trace_state
  subst e
  rw [show (R1.filter fun it => it.2.any (pIn part)).map (·.1) = selR part R1 from rfl]
  top_reprB
  refine q_lcM R2 (·.1) (fun ρ => ∃ b c, ρ = [some (false, .tuple [.tuple (M.us.map eDm), .tuple (R1.map (·.1)), .tuple (R2.map (·.1))]), some (false, .tuple (part.map .str)), some (false, .list (selR part R1)), none, none, c, b]) (fun it => it.2.any (pIn part)) (·.1) (by omega) ⟨_, _, rfl⟩ (fun x hx ρ ⟨b, c, e⟩ => ?_) fun ρ ⟨b, c, e⟩ => ?_
  · subst e
    obtain ⟨d, hd, hsay⟩ := h2 x hx
    have hlen := hsay.len
    top_reprB
    refine hsay.law 3 (by omega) ?_
    top_reprB
    refine q_lcM x.2 .str (fun ρ => ∃ c, ρ = [some (false, .tuple [.tuple (M.us.map eDm), .tuple (R1.map (·.1)), .tuple (R2.map (·.1))]), some (false, .tuple (part.map .str)), some (false, .list (selR part R1)), none, none, c, some (false, x.1)]) (pIn part) .str (by omega) ⟨_, rfl⟩ (fun y hy ρ ⟨c, e⟩ => ?_) fun ρ ⟨c, e⟩ => ?_
    · subst e
      top_reprB
      refine w_inP (hok y (hsay.dom y hy)) hpk ?_
      top_reprB
      all_goals first | rfl | exact ⟨_, rfl⟩
    · subst e
      have ea := any_len (pIn part) x.2
      top_reprB
      all_goals first | rfl | exact ⟨_, _, rfl⟩ | (rw [← ea]; simp; done) | trace_state
  subst e
  rw [show (R2.filter fun it => it.2.any (pIn part)).map (·.1) = selR part R2 from rfl]
  top_reprB
  refine q_lcM M.us eDm (fun ρ => ∃ b, ρ = [some (false, .tuple [.tuple (M.us.map eDm), .tuple (R1.map (·.1)), .tuple (R2.map (·.1))]), some (false, .tuple (part.map .str)), some (false, .list (selR part R1)), some (false, .list (selR part R2)), b, c, none]) (fun d => pIn part d.1) eDm (by omega) ⟨_, rfl⟩ (fun d hd ρ ⟨b, e⟩ => ?_) fun ρ ⟨b, e⟩ => ?_
  · subst e
    have hdm : d.1 ∈ nms M.us := List.mem_map_of_mem hd
    unfold eDm
    top_reprB
    refine w_inP (hok _ hdm) hpk ?_
    top_reprB
    all_goals first | rfl | exact ⟨_, rfl⟩
  · subst e
    top_reprB
    exact q
end
section
local macro_rules | `(tactic| allgen_close_more) => `(tactic| fail)
theorem pl_row {dom : List Str} (hd : DomOk dom) {R : List (D × List Str)} {part : List Str} (h : ∀ it ∈ R, Pl 11 it.1) (hl : R.length ≤ 100) : Pl 12 (.tuple (selR part R)) := by
  unfold selR
  have := List.length_filter_le (fun it : D × List Str => it.2.any (pIn part)) R
  refine Pl_tup (n := 11) (by rw [List.length_map]; omega) fun d hd => ?_
  obtain ⟨it, hi, rfl⟩ := List.mem_map.mp hd
  exact h it (List.mem_filter.mp hi).1
theorem pl_part {M : Md} (h : MdOk M) (part : List Str) : Pl 14 (partD M part) := by
  have hf := List.length_filter_le (fun d : Str × List Int => pIn part d.1) M.us
  have hu24 := h.us.len
  unfold partD
  refine Pl_tup (n := 13) (by simp) fun d hd => ?_
  simp only [List.mem_cons, List.not_mem_nil, or_false] at hd
  rcases hd with rfl | rfl | rfl
  · refine Pl_tup (n := 12) (by rw [List.length_map]; omega) fun d hd => ?_
    obtain ⟨u, hu, rfl⟩ := List.mem_map.mp hd
    have hu := (List.mem_filter.mp hu).1
    have h3 := h.us.dom u hu
    refine Pl_tup (n := 11) (by simp) fun d hd => ?_
    simp only [List.mem_cons, List.not_mem_nil, or_false] at hd
    rcases hd with rfl | rfl
    · exact Pl_str (h.us.ok _ (List.mem_map_of_mem hu))
    · refine Pl_tup (n := 10) (by rw [List.length_map]; omega) fun d hd => ?_
      obtain ⟨v, hv, rfl⟩ := List.mem_map.mp hd
      exact Pl_int
  · refine (pl_row (h.us.domOk) (fun it hi => ?_) (by unfold itH; rw [List.length_map]; exact h.hl)).mono (by decide)
    unfold itH at hi
    obtain ⟨p, hp, rfl⟩ := List.mem_map.mp hi
    refine Pl_tup (n := 10) (by simp) fun d hd => ?_
    simp only [List.mem_cons, List.not_mem_nil, or_false] at hd
    rcases hd with rfl | rfl
    · exact Pl_str (h.hd p hp).1
    · exact (h.hd p hp).2.pl
  · refine (pl_row (h.us.domOk) (fun it hi => ?_) (by unfold itS; rw [List.length_map]; exact h.sl)).mono (by decide)
    unfold itS at hi
    obtain ⟨p, hp, rfl⟩ := List.mem_map.mp hi
    refine Pl_tup (n := 10) (by simp) fun d hd => ?_
    simp only [List.mem_cons, List.not_mem_nil, or_false] at hd
    rcases hd with rfl | rfl | rfl
    · exact Pl_str (h.sf p hp).1
    · exact (h.sf p hp).2.pl
    · exact Pl_int
theorem rows_sub {l : Lb} {names r : List Str} (h : r ∈ rowsOf l names) : (∀ x ∈ r, x ∈ names) ∧ r.length ≤ names.length := by
  unfold rowsOf at h
  obtain ⟨k, hk, rfl⟩ := List.mem_map.mp (List.mem_filter.mp h).1
  exact ⟨fun x hx => (List.mem_filter.mp hx).1, List.length_filter_le _ _⟩
theorem right_w {M : Md} (h : MdOk M) {b : Bool} {Q : D → List D → Prop} (q : Q (.bool true) [eMd M, .bool b]) : PD.Wq (f__law_right [eMd M, .bool b]) Q := by
  have hu24 := h.us.len
  have hn : (nms M.us).length = M.us.length := List.length_map ..
  have hrl : (rowsOf (labOf M) (nms M.us)).length ≤ (nms M.us).length := rowsTo_len (labOf M) (nms M.us) _
  have hpl : Pl 14 (.tuple ((rowsOf (labOf M) (nms M.us)).map eT)) := by
    refine Pl_tup (n := 13) (by rw [List.length_map]; omega) fun d hd => ?_
    obtain ⟨r, hr, rfl⟩ := List.mem_map.mp hd
    obtain ⟨h1, h2⟩ := rows_sub hr
    exact pl_strs (n := 11) (fun x hx => h.us.ok x (h1 x hx)) (by omega)
  unfold f__law_right m__law_right
  top_reprB
  refine law_parts_w h ?_
  have key : ∀ R : List (List Str), (∀ r ∈ R, ∀ x ∈ r, x ∈ nms M.us) → True := fun _ _ => trivial
  cases b
  all_goals
    top_reprB
    try unfold ga_parts_model
    refine parts_w h ?_
    top_reprB
    refine same_w 14 _ hpl ?_
    top_reprB
    refine W_forM (rowsOf (labOf M) (nms M.us)) eT (fun pre ρ => ∃ a b, ρ = [some (false, eMd M), some (false, .bool _), some (false, .tuple ((rowsOf (labOf M) (nms M.us)).map eT)), some (false, .tuple ((rowsOf (labOf M) (nms M.us)).map eT)), a, b]) ⟨_, _, rfl⟩ (fun pre x post ρ hx ⟨a, b, e⟩ => ?_) fun ρ ⟨a, b, e⟩ => ?_
    · subst e
      have hxs := (rows_sub (l := labOf M) (names := nms M.us) (r := x) (by rw [hx]; simp)).1
      top_reprB
      try unfold ga_part_model_of_part_model
      refine part_model_w h hxs ?_
      top_reprB
      refine law_part_model_w h hxs ?_
      top_reprB
      refine same_w 14 _ (pl_part h x) ?_
      top_reprB
      exact ⟨_, _, rfl⟩
    · subst e
      top_reprB
      exact q
end
section
local macro_rules | `(tactic| allgen_close_more) => `(tactic| first
  | (with_reducible refine draw_w ?h1 ?h2 ?h3 ?_; (case h1 => assumption); (case h2 => allgen_close2_more); (case h3 => allgen_close2_more); intro _ _ _ _ _))
def nm (k : Nat) : Str := ("n" : Str) ++ (toString (0 + (k : Int)) : String) ++ (["", ".a", ".b.c"] : List Str).getD (k % 3) ""
def sm (k : Nat) : Str := ("s." : Str) ++ (toString (0 + (k : Int)) : String)
theorem nm_nd : ((List.range 24).map nm).Nodup := by decide +kernel
theorem nm_ok : ∀ k ∈ List.range 24, PyData.strOk (nm k) = true := by decide +kernel
theorem sm_ok : ∀ k ∈ List.range 48, PyData.strOk (sm k) = true := by decide +kernel
theorem at3 {a b c : Str} {r : Int} {Q : D → Prop} (h0 : 0 ≤ r) (h1 : r < 3) (q : Q (.str ([a, b, c].getD r.toNat ""))) : Wp (atI [.str a, .str b, .str c] r) Q := by
  rcases (show r = 0 ∨ r = 1 ∨ r = 2 by omega) with e | e | e <;> subst e
  · rw [atI_0]; exact W_some.mpr q
  · rw [atI_1]; exact W_some.mpr q
  · rw [atI_2]; exact W_some.mpr q
theorem num_len : ∀ k ∈ List.range 48, ((toString (0 + (k : Int)) : String) : Str).length ≤ 10 := by decide +kernel
theorem nm_len : ∀ k ∈ List.range 24, (("n" : Str) ++ (toString (0 + (k : Int)) : String)).length + ((["", ".a", ".b.c"] : List Str).getD (k % 3) "").length ≤ 100 := by decide +kernel
theorem at39 {c : Prop} [Decidable c] {Q : D → Prop} (q : ∀ w : Int, 3 ≤ w → w ≤ 9 → Q (.int w)) : Wp (atI [.int 3, .int 9] (if c then 1 else 0)) Q := by
  split
  · rw [atI_1]; exact W_some.mpr (q 9 (by decide) (by decide))
  · rw [atI_0]; exact W_some.mpr (q 3 (by decide) (by decide))
theorem law_w {ns : List Int} (h : ns.length ≤ 63) {Q : D → List D → Prop} (q : ∀ es, es.length = 1 → Q (.bool true) es) : PD.Wq (f_law [.list (ns.map .int)]) Q := by
  unfold f_law m_law
  simp only [q_runD]
  refine seq_cut (fun ρ => ∃ s, Sd s ∧ ρ = [some (false, .list (ns.map .int)), some (true, s), none, none, none, none, none, none, none, none, none, none, none, none, none]) ?_ fun ρ ⟨s, g, e⟩ => ?_
  · top_reprB
    refine pool_w h fun s0 g0 => ?_
    top_reprB
    exact ⟨_, g0, rfl⟩
  subst e
  refine seq_cut (fun ρ => ρ = [some (false, .list (ns.map .int)), some (true, s), some (false, .list (kds.map .str)), none, none, none, none, none, none, none, none, none, none, none, none]) ?_ fun ρ e => ?_
  · top_reprB
    rfl
  subst e
  refine seq_cut (fun ρ => ∃ s many, Sd s ∧ (1 ≤ many ∧ many ≤ 24) ∧ ρ = [some (false, .list (ns.map .int)), some (true, s), some (false, .list (kds.map .str)), some (false, .int many), none, none, none, none, none, none, none, none, none, none, none]) ?_ fun ρ ⟨s, many, g, hm, e⟩ => ?_
  · top_reprB
    exact ⟨_, _, (by assumption), ⟨by omega, by omega⟩, rfl⟩
  subst e
  refine seq_cut (fun ρ => ρ = [some (false, .list (ns.map .int)), some (true, s), some (false, .list (kds.map .str)), some (false, .int many), some (false, .int 6), none, none, none, none, none, none, none, none, none, none]) ?_ fun ρ e => ?_
  · top_reprB
  subst e
  refine seq_cut (fun ρ => ∃ s many most, Sd s ∧ (1 ≤ many ∧ many ≤ 24) ∧ (most = 6 ∨ most = 40) ∧ ρ = [some (false, .list (ns.map .int)), some (true, s), some (false, .list (kds.map .str)), some (false, .int many), some (false, .int most), none, none, none, none, none, none, none, none, none, none]) ?_ fun ρ ⟨s, many, most, g, hm, ho, e⟩ => ?_
  · top_reprB
    · exact ⟨_, 24, 40, (by assumption), ⟨by omega, by omega⟩, .inr rfl, rfl⟩
    · exact ⟨_, _, 6, (by assumption), hm, .inl rfl, rfl⟩
  subst e
  top_reprB
  unfold rangeD
  refine q_lcA (List.range many.toNat) (fun i => .int (0 + (i : Nat))) (fun ρ => ∃ c, ρ = [some (false, .list (ns.map .int)), some (true, s), some (false, .list (kds.map .str)), some (false, .int many), some (false, .int most), none, none, none, none, none, none, none, c, none, none]) (fun k => .str (nm k)) (by rw [List.length_range]; omega) ⟨_, rfl⟩ (fun k hk ρ ⟨c, e⟩ => ?_) fun ρ ⟨c, e⟩ => ?_
  · subst e
    have hk24 : k < 24 := by have := List.mem_range.mp hk; omega
    have hlk := num_len k (List.mem_range.mpr (by omega))
    top_reprB
    refine w_str (by omega) (by omega) ?_
    top_reprB
    refine w_addS (by have : ("n" : Str).length = 1 := by decide +kernel
                      omega) ?_
    top_reprB
    refine at3 (by assumption) (by assumption) ?_
    rw [show ((0 + (k : Int)).fmod 3).toNat = k % 3 from by rw [Int.fmod_eq_emod_of_nonneg _ (by decide)]; omega]
    refine w_addS (Nat.le_trans (nm_len k (List.mem_range.mpr hk24)) (by decide)) ?_
    top_reprB
    all_goals first | rfl | exact ⟨_, rfl⟩
  subst e
  rw [show (List.range many.toNat).map (fun k => PyData.str (nm k)) = ((List.range many.toNat).map nm).map PyData.str from (List.map_map ..).symm]
  top_reprB
  refine mingled_w g (by rw [List.length_map, List.length_range]; omega) fun ys s1 g1 hp => ?_
  have hyl : ys.length = many.toNat := by rw [hp.length_eq, List.length_map, List.length_range]
  have hsub : ∀ x ∈ (List.range many.toNat).map nm, x ∈ (List.range 24).map nm := fun x hx => by
    obtain ⟨k, hk, rfl⟩ := List.mem_map.mp hx
    exact List.mem_map_of_mem (List.mem_range.mpr (by have := List.mem_range.mp hk; omega))
  have hyo : ∀ y ∈ ys, PyData.strOk y = true := fun y hy => by
    obtain ⟨k, hk, rfl⟩ := List.mem_map.mp (hsub y (hp.mem_iff.mp hy))
    exact nm_ok k hk
  have hynd : ys.Nodup := hp.nodup_iff.mpr (List.Nodup.sublist (List.Sublist.map nm (by
    have : List.range many.toNat = (List.range 24).take many.toNat := by rw [List.take_range]; congr 1; omega
    rw [this]
    exact List.take_sublist _ _)) nm_nd)
  top_reprB
  refine q_lcE ys .str (fun ρ => ∃ s' c, Sd s' ∧ ρ = [some (false, .list (ns.map .int)), some (true, s'), some (false, .list (kds.map .str)), some (false, .int many), some (false, .int most), some (false, .list (ys.map .str)), none, none, none, none, none, none, none, c, none]) eDm (fun x d => d.1 = x ∧ 0 < d.2.length ∧ d.2.length ≤ 3) (by omega) ⟨_, _, g1, rfl⟩ (fun x hx ρ ⟨s', c, g2, e⟩ => ?_) fun us ρ hul hup ⟨s', c, g2, e⟩ => ?_
  · subst e
    top_reprB
    refine domain_w g2 fun vs s3 g3 v0 v1 => ?_
    top_reprB
    all_goals first | exact ⟨_, _, g3, rfl⟩ | exact ⟨(x, vs), rfl, rfl, v0, v1⟩
  subst e
  have hnms : nms us = ys := by
    apply List.ext_getElem?
    intro i
    unfold nms
    rw [List.getElem?_map]
    cases hy : ys[i]? with
    | none =>
      have := List.getElem?_eq_none_iff.mp hy
      rw [List.getElem?_eq_none (by omega)]; rfl
    | some y =>
      have hi := (List.getElem?_eq_some_iff.mp hy).1
      have hu : us[i]? = some us[i] := List.getElem?_eq_getElem (by omega)
      rw [hu]
      exact congrArg some (hup i y us[i] hy hu).1
  have hX : Xs us := ⟨fun d hd => by
    obtain ⟨i, hi, e⟩ := List.mem_iff_getElem.mp hd
    have hu : us[i]? = some d := by rw [List.getElem?_eq_getElem hi, e]
    exact (hup i ys[i] d (List.getElem?_eq_getElem (by omega)) hu).2, by rw [hnms]; exact hynd, by omega, by rw [hnms]; exact hyo⟩
  have hu0 : 0 < us.length := by omega
  top_reprB
  unfold rangeD
  refine q_lcA (List.range (most + 8).toNat) (fun i => .int (0 + (i : Nat))) (fun ρ => ∃ c, ρ = [some (false, .list (ns.map .int)), some (true, s'), some (false, .list (kds.map .str)), some (false, .int many), some (false, .int most), some (false, .list (ys.map .str)), some (false, .tuple (us.map eDm)), none, none, none, none, none, c, none, none]) (fun k => .str (sm k)) (by rw [List.length_range]; omega) ⟨_, rfl⟩ (fun k hk ρ ⟨c, e⟩ => ?_) fun ρ ⟨c, e⟩ => ?_
  · subst e
    have hk48 : k < 48 := by have := List.mem_range.mp hk; omega
    have hlk := num_len k (List.mem_range.mpr hk48)
    top_reprB
    refine w_str (by omega) (by omega) ?_
    top_reprB
    refine w_addS (by have : ("s." : Str).length = 2 := by decide +kernel
                      omega) ?_
    top_reprB
    all_goals first | rfl | exact ⟨_, rfl⟩
  subst e
  rw [show (List.range (most + 8).toNat).map (fun k => PyData.str (sm k)) = ((List.range (most + 8).toNat).map sm).map PyData.str from (List.map_map ..).symm]
  have hzo : ∀ z ∈ (List.range (most + 8).toNat).map sm, PyData.strOk z = true := fun z hz => by
    obtain ⟨k, hk, rfl⟩ := List.mem_map.mp hz
    exact sm_ok k (List.mem_range.mpr (by have := List.mem_range.mp hk; omega))
  have hzl : ((List.range (most + 8).toNat).map sm).length ≤ 48 := by rw [List.length_map, List.length_range]; omega
  generalize (List.range (most + 8).toNat).map sm = zs at *
  top_reprB
  rename_i r s2 g3 r0 r1
  obtain ⟨z1, e1, m1, k1⟩ := cut_some PyData.str zs none (some r)
  rw [e1]
  refine many_w hX hu0 g3 (fun z hz => hzo z (m1 z hz)) (by omega) fun hs s3 g4 hl1 hok1 => ?_
  top_reprB
  refine at39 fun w w0 w1 => ?_
  top_reprB
  rename_i r2 s4 g5 r20 r21
  obtain ⟨z2, e2, m2, k2⟩ := cut_some PyData.str zs (some most) (some (most + r2))
  rw [e2]
  refine many_w hX hu0 g5 (fun z hz => hzo z (m2 z hz)) (by omega) fun hs2 s5 g6 hl2 hok2 => ?_
  top_reprB
  refine q_lcE hs2 eH (fun ρ => ∃ s' c, Sd s' ∧ ρ = [some (false, .list (ns.map .int)), some (true, s'), some (false, .list (kds.map .str)), some (false, .int many), some (false, .int most), some (false, .list (ys.map .str)), some (false, .tuple (us.map eDm)), some (false, .list (zs.map .str)), some (false, .list (hs.map eH)), some (false, .list (hs2.map eH)), none, none, none, none, c]) eS (fun h p => p.1 = h) (by omega) ⟨_, _, g6, rfl⟩ (fun x hx ρ ⟨s', c, g2, e⟩ => ?_) fun sf ρ hsl hsp ⟨s', c, g2, e⟩ => ?_
  · subst e
    unfold eH
    top_reprB
    all_goals first | exact ⟨(x, _), rfl, rfl⟩ | exact ⟨_, _, (by assumption), rfl⟩
  subst e
  have hsok : ∀ p ∈ sf, HdOk (nms us) p.1 := fun p hp => by
    obtain ⟨i, hi, e⟩ := List.mem_iff_getElem.mp hp
    have hu : sf[i]? = some p := by rw [List.getElem?_eq_getElem hi, e]
    rw [hsp i hs2[i] p (List.getElem?_eq_getElem (by omega)) hu]
    exact hok2 _ (List.getElem_mem _)
  have hM : MdOk ⟨us, hs, sf⟩ := ⟨hX, hok1, hsok, by show hs.length ≤ 100; omega, by show sf.length ≤ 100; omega⟩
  have hM0 : MdOk ⟨us, hs, []⟩ := ⟨hX, hok1, (fun p z => nomatch z), by show hs.length ≤ 100; omega, Nat.zero_le _⟩
  have em : PyData.tuple [.tuple (us.map eDm), .tuple (hs.map eH), .tuple (sf.map eS)] = eMd ⟨us, hs, sf⟩ := rfl
  have em0 : PyData.tuple [.tuple (us.map eDm), .tuple (hs.map eH), .tuple []] = eMd ⟨us, hs, []⟩ := rfl
  top_reprB
  rw [em]
  refine right_w hM ?_
  top_reprB
  rw [em0]
  refine right_w hM0 ?_
  top_reprB
  refine right_w hM ?_
  top_reprB
  exact q _ rfl
end
end K38W
set_option Elab.async false
set_option linter.all false
set_option maxRecDepth 100000
set_option maxHeartbeats 4000000
namespace K38W
open PySem PySem.Spec PyProof.Rows L2 GxR GenX OwnK PD
theorem kb_to_part_model_of_part_model {kV doc pm cdv ct : Value} {an : Option Addr} (s : Shared) (us ws : List Value) (hl : (gg_part_model_of_part_model us ws).length = P_part_model_of.length) : BindsTo s (PySem.W.fnOf "part_model_of" "part_model_of" (defArgs s_part_model_of) (defBody s_part_model_of) (defScope s_part_model_of) .none kV doc pm an cdv ct) ⟨us, [("part" : Str), ("model" : Str)].zip ws⟩ (P_part_model_of.zip (gg_part_model_of_part_model us ws)) := by
  unfold gg_part_model_of_part_model at hl ⊢
  split at hl
  · exact .of_eq rfl
  · exact absurd hl (by decide)
theorem kb_rel_part_model_of_part_model {vs zs : List V} {us ws : List Value} (r : Vals vs us) (q : Vals zs ws) : Vals (gV_part_model_of_part_model vs zs) (gg_part_model_of_part_model us ws) := by
  unfold gg_part_model_of_part_model gV_part_model_of_part_model
  cases r with
  | cons a r => exact .nil
  | nil =>
    cases q with
    | nil => exact .nil
    | cons a0 q =>
      cases q with
      | nil => exact .nil
      | cons a1 q =>
        cases q with
        | cons _ _ => exact .nil
        | nil => exact (.cons a1 (.cons a0 .nil))
theorem kb_to_parts_model {kV doc pm cdv ct : Value} {an : Option Addr} (s : Shared) (us ws : List Value) (hl : (gg_parts_model us ws).length = P_parts.length) : BindsTo s (PySem.W.fnOf "parts" "parts" (defArgs s_parts) (defBody s_parts) (defScope s_parts) .none kV doc pm an cdv ct) ⟨us, [("model" : Str)].zip ws⟩ (P_parts.zip (gg_parts_model us ws)) := by
  unfold gg_parts_model at hl ⊢
  split at hl
  · exact .of_eq rfl
  · exact absurd hl (by decide)
theorem kb_rel_parts_model {vs zs : List V} {us ws : List Value} (r : Vals vs us) (q : Vals zs ws) : Vals (gV_parts_model vs zs) (gg_parts_model us ws) := by
  unfold gg_parts_model gV_parts_model
  cases r with
  | cons a r => exact .nil
  | nil =>
    cases q with
    | nil => exact .nil
    | cons a0 q =>
      cases q with
      | cons _ _ => exact .nil
      | nil => exact (.cons a0 .nil)
theorem law_all (ns : List Int) (hl : ns.length ≤ 63) : ∃ es, f_law [.list (ns.map .int)] = some (.bool true, es) ∧ es.length = 1 := by
  obtain ⟨⟨d, es⟩, e, h1, h2⟩ := law_w (Q := fun d es => d = .bool true ∧ es.length = 1) hl (fun es h => ⟨rfl, h⟩)
  exact ⟨es, by rw [e]; simp only [] at h1; rw [h1], h2⟩
theorem all_mk {q : Program} {l : PySem.W.OpenLaw} {w : World} {K : PySem.W.Frag} {h : Heap} {mg : Str → Option Value} {fa : Addr} {f0 g0 f1 g1 f2 g2 f3 g3 f4 g4 f5 g5 f6 g6 f7 g7 f8 g8 f9 g9 f10 g10 f11 g11 f12 g12 f13 g13 f14 g14 f15 g15 f16 g16 f17 g17 f18 g18 f19 g19 f20 g20 f21 g21 f22 g22 : Addr} (X : K.In h) (G : h.Ns mainGlobals mg) (hfa : mg "law" = some (.ref fa)) (tb : TabsOf q K h)
    {od0 an0 od1 an1 od2 an2 od3 an3 od4 an4 od5 an5 od6 an6 od7 an7 od8 an8 od9 an9 od10 an10 od11 an11 od12 an12 od13 an13 od14 an14 od15 an15 od16 an16 od17 an17 od18 an18 od19 an19 od20 an20 od21 an21 od22 an22 : Option Addr} {sl0 sl1 sl2 sl3 sl4 sl5 sl6 sl7 sl8 sl9 sl10 sl11 sl12 sl13 sl14 sl15 sl16 sl17 sl18 sl19 sl20 sl21 sl22 : Array (Option Value)} {oc0 kV0 dc0 pm0 ct0 oc1 kV1 dc1 pm1 ct1 oc2 kV2 dc2 pm2 ct2 oc3 kV3 dc3 pm3 ct3 oc4 kV4 dc4 pm4 ct4 oc5 kV5 dc5 pm5 ct5 oc6 kV6 dc6 pm6 ct6 oc7 kV7 dc7 pm7 ct7 oc8 kV8 dc8 pm8 ct8 oc9 kV9 dc9 pm9 ct9 oc10 kV10 dc10 pm10 ct10 oc11 kV11 dc11 pm11 ct11 oc12 kV12 dc12 pm12 ct12 oc13 kV13 dc13 pm13 ct13 oc14 kV14 dc14 pm14 ct14 oc15 kV15 dc15 pm15 ct15 oc16 kV16 dc16 pm16 ct16 oc17 kV17 dc17 pm17 ct17 oc18 kV18 dc18 pm18 ct18 oc19 kV19 dc19 pm19 ct19 oc20 kV20 dc20 pm20 ct20 oc21 kV21 dc21 pm21 ct21 oc22 kV22 dc22 pm22 ct22 : Value}
    {t4 : Addr}
    (a0 : PySem.W.nsIn K mainGlobals "claim_names" = some (some (.ref f0))) (l0 : K.lookup f0 = some ⟨oc0, od0, .func (PySem.W.fnOf "claim_names" "claim_names" (defArgs s_claim_names) (defBody s_claim_names) (defScope s_claim_names) .none kV0 dc0 pm0 an0 (.ref g0) ct0), sl0⟩) (c0 : PySem.W.codeIn K (.ref g0) "claim_names" = true) (k0 : PySem.W.keepIn K (.ref f0) = true)
    (a1 : PySem.W.nsIn K mainGlobals "names_within" = some (some (.ref f1))) (l1 : K.lookup f1 = some ⟨oc1, od1, .func (PySem.W.fnOf "names_within" "names_within" (defArgs s_names_within) (defBody s_names_within) (defScope s_names_within) .none kV1 dc1 pm1 an1 (.ref g1) ct1), sl1⟩) (c1 : PySem.W.codeIn K (.ref g1) "names_within" = true) (k1 : PySem.W.keepIn K (.ref f1) = true)
    (a2 : PySem.W.nsIn K mainGlobals "own_names" = some (some (.ref f2))) (l2 : K.lookup f2 = some ⟨oc2, od2, .func (PySem.W.fnOf "own_names" "own_names" (defArgs s_own_names) (defBody s_own_names) (defScope s_own_names) .none kV2 dc2 pm2 an2 (.ref g2) ct2), sl2⟩) (c2 : PySem.W.codeIn K (.ref g2) "own_names" = true) (k2 : PySem.W.keepIn K (.ref f2) = true)
    (a3 : PySem.W.nsIn K mainGlobals "parts" = some (some (.ref f3))) (l3 : K.lookup f3 = some ⟨oc3, od3, .func (PySem.W.fnOf "parts" "parts" (defArgs s_parts) (defBody s_parts) (defScope s_parts) .none kV3 dc3 pm3 an3 (.ref g3) ct3), sl3⟩) (c3 : PySem.W.codeIn K (.ref g3) "parts" = true) (k3 : PySem.W.keepIn K (.ref f3) = true)
    (a4 : PySem.W.nsIn K mainGlobals "part_model_of" = some (some (.ref f4))) (l4 : K.lookup f4 = some ⟨oc4, od4, .func (PySem.W.fnOf "part_model_of" "part_model_of" (defArgs s_part_model_of) (defBody s_part_model_of) (defScope s_part_model_of) .none kV4 dc4 pm4 an4 (.ref g4) ct4), sl4⟩) (c4 : PySem.W.codeIn K (.ref g4) "part_model_of" = true) (k4 : PySem.W.keepIn K (.ref f4) = true)
    (a5 : PySem.W.nsIn K mainGlobals "_law_pool" = some (some (.ref f5))) (l5 : K.lookup f5 = some ⟨oc5, od5, .func (PySem.W.fnOf "_law_pool" "_law_pool" (defArgs s__law_pool) (defBody s__law_pool) (defScope s__law_pool) .none kV5 dc5 pm5 an5 (.ref g5) ct5), sl5⟩) (c5 : PySem.W.codeIn K (.ref g5) "_law_pool" = true) (k5 : PySem.W.keepIn K (.ref f5) = true)
    (a6 : PySem.W.nsIn K mainGlobals "_law_draw" = some (some (.ref f6))) (l6 : K.lookup f6 = some ⟨oc6, od6, .func (PySem.W.fnOf "_law_draw" "_law_draw" (defArgs s__law_draw) (defBody s__law_draw) (defScope s__law_draw) .none kV6 dc6 pm6 an6 (.ref g6) ct6), sl6⟩) (c6 : PySem.W.codeIn K (.ref g6) "_law_draw" = true) (k6 : PySem.W.keepIn K (.ref f6) = true)
    (a7 : PySem.W.nsIn K mainGlobals "_law_pick" = some (some (.ref f7))) (l7 : K.lookup f7 = some ⟨oc7, od7, .func (PySem.W.fnOf "_law_pick" "_law_pick" (defArgs s__law_pick) (defBody s__law_pick) (defScope s__law_pick) .none kV7 dc7 pm7 an7 (.ref g7) ct7), sl7⟩) (c7 : PySem.W.codeIn K (.ref g7) "_law_pick" = true) (k7 : PySem.W.keepIn K (.ref f7) = true)
    (a8 : PySem.W.nsIn K mainGlobals "_law_mingled" = some (some (.ref f8))) (l8 : K.lookup f8 = some ⟨oc8, od8, .func (PySem.W.fnOf "_law_mingled" "_law_mingled" (defArgs s__law_mingled) (defBody s__law_mingled) (defScope s__law_mingled) .none kV8 dc8 pm8 an8 (.ref g8) ct8), sl8⟩) (c8 : PySem.W.codeIn K (.ref g8) "_law_mingled" = true) (k8 : PySem.W.keepIn K (.ref f8) = true)
    (a9 : PySem.W.nsIn K mainGlobals "_law_same" = some (some (.ref f9))) (l9 : K.lookup f9 = some ⟨oc9, od9, .func (PySem.W.fnOf "_law_same" "_law_same" (defArgs s__law_same) (defBody s__law_same) (defScope s__law_same) .none kV9 dc9 pm9 an9 (.ref g9) ct9), sl9⟩) (c9 : PySem.W.codeIn K (.ref g9) "_law_same" = true) (k9 : PySem.W.keepIn K (.ref f9) = true)
    (a10 : PySem.W.nsIn K mainGlobals "_law_claim_names" = some (some (.ref f10))) (l10 : K.lookup f10 = some ⟨oc10, od10, .func (PySem.W.fnOf "_law_claim_names" "_law_claim_names" (defArgs s__law_claim_names) (defBody s__law_claim_names) (defScope s__law_claim_names) .none kV10 dc10 pm10 an10 (.ref g10) ct10), sl10⟩) (c10 : PySem.W.codeIn K (.ref g10) "_law_claim_names" = true) (k10 : PySem.W.keepIn K (.ref f10) = true)
    (a11 : PySem.W.nsIn K mainGlobals "_law_own" = some (some (.ref f11))) (l11 : K.lookup f11 = some ⟨oc11, od11, .func (PySem.W.fnOf "_law_own" "_law_own" (defArgs s__law_own) (defBody s__law_own) (defScope s__law_own) .none kV11 dc11 pm11 an11 (.ref g11) ct11), sl11⟩) (c11 : PySem.W.codeIn K (.ref g11) "_law_own" = true) (k11 : PySem.W.keepIn K (.ref f11) = true)
    (a12 : PySem.W.nsIn K mainGlobals "_law_domain" = some (some (.ref f12))) (l12 : K.lookup f12 = some ⟨oc12, od12, .func (PySem.W.fnOf "_law_domain" "_law_domain" (defArgs s__law_domain) (defBody s__law_domain) (defScope s__law_domain) .none kV12 dc12 pm12 an12 (.ref g12) ct12), sl12⟩) (c12 : PySem.W.codeIn K (.ref g12) "_law_domain" = true) (k12 : PySem.W.keepIn K (.ref f12) = true)
    (a13 : PySem.W.nsIn K mainGlobals "_law_some" = some (some (.ref f13))) (l13 : K.lookup f13 = some ⟨oc13, od13, .func (PySem.W.fnOf "_law_some" "_law_some" (defArgs s__law_some) (defBody s__law_some) (defScope s__law_some) .none kV13 dc13 pm13 an13 (.ref g13) ct13), sl13⟩) (c13 : PySem.W.codeIn K (.ref g13) "_law_some" = true) (k13 : PySem.W.keepIn K (.ref f13) = true)
    (a14 : PySem.W.nsIn K mainGlobals "_law_sum" = some (some (.ref f14))) (l14 : K.lookup f14 = some ⟨oc14, od14, .func (PySem.W.fnOf "_law_sum" "_law_sum" (defArgs s__law_sum) (defBody s__law_sum) (defScope s__law_sum) .none kV14 dc14 pm14 an14 (.ref g14) ct14), sl14⟩) (c14 : PySem.W.codeIn K (.ref g14) "_law_sum" = true) (k14 : PySem.W.keepIn K (.ref f14) = true)
    (a15 : PySem.W.nsIn K mainGlobals "_law_lines" = some (some (.ref f15))) (l15 : K.lookup f15 = some ⟨oc15, od15, .func (PySem.W.fnOf "_law_lines" "_law_lines" (defArgs s__law_lines) (defBody s__law_lines) (defScope s__law_lines) .none kV15 dc15 pm15 an15 (.ref g15) ct15), sl15⟩) (c15 : PySem.W.codeIn K (.ref g15) "_law_lines" = true) (k15 : PySem.W.keepIn K (.ref f15) = true)
    (a16 : PySem.W.nsIn K mainGlobals "_law_claim" = some (some (.ref f16))) (l16 : K.lookup f16 = some ⟨oc16, od16, .func (PySem.W.fnOf "_law_claim" "_law_claim" (defArgs s__law_claim) (defBody s__law_claim) (defScope s__law_claim) .none kV16 dc16 pm16 an16 (.ref g16) ct16), sl16⟩) (c16 : PySem.W.codeIn K (.ref g16) "_law_claim" = true) (k16 : PySem.W.keepIn K (.ref f16) = true)
    (a17 : PySem.W.nsIn K mainGlobals "_law_saying" = some (some (.ref f17))) (l17 : K.lookup f17 = some ⟨oc17, od17, .func (PySem.W.fnOf "_law_saying" "_law_saying" (defArgs s__law_saying) (defBody s__law_saying) (defScope s__law_saying) .none kV17 dc17 pm17 an17 (.ref g17) ct17), sl17⟩) (c17 : PySem.W.codeIn K (.ref g17) "_law_saying" = true) (k17 : PySem.W.keepIn K (.ref f17) = true)
    (a18 : PySem.W.nsIn K mainGlobals "_law_parts" = some (some (.ref f18))) (l18 : K.lookup f18 = some ⟨oc18, od18, .func (PySem.W.fnOf "_law_parts" "_law_parts" (defArgs s__law_parts) (defBody s__law_parts) (defScope s__law_parts) .none kV18 dc18 pm18 an18 (.ref g18) ct18), sl18⟩) (c18 : PySem.W.codeIn K (.ref g18) "_law_parts" = true) (k18 : PySem.W.keepIn K (.ref f18) = true)
    (a19 : PySem.W.nsIn K mainGlobals "_law_part_model" = some (some (.ref f19))) (l19 : K.lookup f19 = some ⟨oc19, od19, .func (PySem.W.fnOf "_law_part_model" "_law_part_model" (defArgs s__law_part_model) (defBody s__law_part_model) (defScope s__law_part_model) .none kV19 dc19 pm19 an19 (.ref g19) ct19), sl19⟩) (c19 : PySem.W.codeIn K (.ref g19) "_law_part_model" = true) (k19 : PySem.W.keepIn K (.ref f19) = true)
    (a20 : PySem.W.nsIn K mainGlobals "_law_many_sayings" = some (some (.ref f20))) (l20 : K.lookup f20 = some ⟨oc20, od20, .func (PySem.W.fnOf "_law_many_sayings" "_law_many_sayings" (defArgs s__law_many_sayings) (defBody s__law_many_sayings) (defScope s__law_many_sayings) .none kV20 dc20 pm20 an20 (.ref g20) ct20), sl20⟩) (c20 : PySem.W.codeIn K (.ref g20) "_law_many_sayings" = true) (k20 : PySem.W.keepIn K (.ref f20) = true)
    (a21 : PySem.W.nsIn K mainGlobals "_law_right" = some (some (.ref f21))) (l21 : K.lookup f21 = some ⟨oc21, od21, .func (PySem.W.fnOf "_law_right" "_law_right" (defArgs s__law_right) (defBody s__law_right) (defScope s__law_right) .none kV21 dc21 pm21 an21 (.ref g21) ct21), sl21⟩) (c21 : PySem.W.codeIn K (.ref g21) "_law_right" = true) (k21 : PySem.W.keepIn K (.ref f21) = true)
    (a22 : PySem.W.nsIn K mainGlobals "law" = some (some (.ref f22))) (l22 : K.lookup f22 = some ⟨oc22, od22, .func (PySem.W.fnOf "law" "law" (defArgs s_law) (defBody s_law) (defScope s_law) .none kV22 dc22 pm22 an22 (.ref g22) ct22), sl22⟩) (c22 : PySem.W.codeIn K (.ref g22) "law" = true) (k22 : PySem.W.keepIn K (.ref f22) = true)
    (r4 : ((recsOf q).any fun e => e.name == ("part_model_of" : Str)) = true) {ve4 : Value} {vd4 : Option Addr} {vs4 : Array Value} {vl4 : Array (Option Value)} (v4 : K.lookup g4 = some ⟨ve4, vd4, .fields vs4, vl4⟩) (q4 : (vs4[11]? : Option Value) = some (.ref t4)) (n4 : K.lookup t4 = none)
    (z0 : PySem.W.nsIn K mainGlobals "abs" = some none)
    (z1 : PySem.W.nsIn K mainGlobals "any" = some none)
    (z2 : PySem.W.nsIn K mainGlobals "bool" = some none)
    (z3 : PySem.W.nsIn K mainGlobals "dict" = some none)
    (z4 : PySem.W.nsIn K mainGlobals "enumerate" = some none)
    (z5 : PySem.W.nsIn K mainGlobals "int" = some none)
    (z6 : PySem.W.nsIn K mainGlobals "isinstance" = some none)
    (z7 : PySem.W.nsIn K mainGlobals "len" = some none)
    (z8 : PySem.W.nsIn K mainGlobals "list" = some none)
    (z9 : PySem.W.nsIn K mainGlobals "max" = some none)
    (z10 : PySem.W.nsIn K mainGlobals "min" = some none)
    (z11 : PySem.W.nsIn K mainGlobals "range" = some none)
    (z12 : PySem.W.nsIn K mainGlobals "sorted" = some none)
    (z13 : PySem.W.nsIn K mainGlobals "str" = some none)
    (z14 : PySem.W.nsIn K mainGlobals "tuple" = some none)
    : LamX.LawAtS l w K CX0 17 63 "script" mg fa h := by
  have e := hfa.symm.trans (PySem.W.mg_of X G a22)
  cases e
  have F0 := fun_mk (st := s_claim_names) l0 c0 k0
  have F1 := fun_mk (st := s_names_within) l1 c1 k1
  have F2 := fun_mk (st := s_own_names) l2 c2 k2
  have F3 := fun_mk (st := s_parts) l3 c3 k3
  have F4 := fun_mk (st := s_part_model_of) l4 c4 k4
  have F5 := fun_mk (st := s__law_pool) l5 c5 k5
  have F6 := fun_mk (st := s__law_draw) l6 c6 k6
  have F7 := fun_mk (st := s__law_pick) l7 c7 k7
  have F8 := fun_mk (st := s__law_mingled) l8 c8 k8
  have F9 := fun_mk (st := s__law_same) l9 c9 k9
  have F10 := fun_mk (st := s__law_claim_names) l10 c10 k10
  have F11 := fun_mk (st := s__law_own) l11 c11 k11
  have F12 := fun_mk (st := s__law_domain) l12 c12 k12
  have F13 := fun_mk (st := s__law_some) l13 c13 k13
  have F14 := fun_mk (st := s__law_sum) l14 c14 k14
  have F15 := fun_mk (st := s__law_lines) l15 c15 k15
  have F16 := fun_mk (st := s__law_claim) l16 c16 k16
  have F17 := fun_mk (st := s__law_saying) l17 c17 k17
  have F18 := fun_mk (st := s__law_parts) l18 c18 k18
  have F19 := fun_mk (st := s__law_part_model) l19 c19 k19
  have F20 := fun_mk (st := s__law_many_sayings) l20 c20 k20
  have F21 := fun_mk (st := s__law_right) l21 c21 k21
  have F22 := fun_mk (st := s_law) l22 c22 k22
  let A : Ad := ⟨f0, g0, f1, g1, f2, g2, f3, g3, f4, g4, f5, g5, f6, g6, f7, g7, f8, g8, f9, g9, f10, g10, f11, g11, f12, g12, f13, g13, f14, g14, f15, g15, f16, g16, f17, g17, f18, g18, f19, g19, f20, g20, f21, g21, fa, g22, t4⟩
  let D : Fd := ⟨PySem.W.fnOf "claim_names" "claim_names" (defArgs s_claim_names) (defBody s_claim_names) (defScope s_claim_names) .none kV0 dc0 pm0 an0 (.ref g0) ct0, PySem.W.fnOf "names_within" "names_within" (defArgs s_names_within) (defBody s_names_within) (defScope s_names_within) .none kV1 dc1 pm1 an1 (.ref g1) ct1, PySem.W.fnOf "own_names" "own_names" (defArgs s_own_names) (defBody s_own_names) (defScope s_own_names) .none kV2 dc2 pm2 an2 (.ref g2) ct2, PySem.W.fnOf "parts" "parts" (defArgs s_parts) (defBody s_parts) (defScope s_parts) .none kV3 dc3 pm3 an3 (.ref g3) ct3, PySem.W.fnOf "part_model_of" "part_model_of" (defArgs s_part_model_of) (defBody s_part_model_of) (defScope s_part_model_of) .none kV4 dc4 pm4 an4 (.ref g4) ct4, PySem.W.fnOf "_law_pool" "_law_pool" (defArgs s__law_pool) (defBody s__law_pool) (defScope s__law_pool) .none kV5 dc5 pm5 an5 (.ref g5) ct5, PySem.W.fnOf "_law_draw" "_law_draw" (defArgs s__law_draw) (defBody s__law_draw) (defScope s__law_draw) .none kV6 dc6 pm6 an6 (.ref g6) ct6, PySem.W.fnOf "_law_pick" "_law_pick" (defArgs s__law_pick) (defBody s__law_pick) (defScope s__law_pick) .none kV7 dc7 pm7 an7 (.ref g7) ct7, PySem.W.fnOf "_law_mingled" "_law_mingled" (defArgs s__law_mingled) (defBody s__law_mingled) (defScope s__law_mingled) .none kV8 dc8 pm8 an8 (.ref g8) ct8, PySem.W.fnOf "_law_same" "_law_same" (defArgs s__law_same) (defBody s__law_same) (defScope s__law_same) .none kV9 dc9 pm9 an9 (.ref g9) ct9, PySem.W.fnOf "_law_claim_names" "_law_claim_names" (defArgs s__law_claim_names) (defBody s__law_claim_names) (defScope s__law_claim_names) .none kV10 dc10 pm10 an10 (.ref g10) ct10, PySem.W.fnOf "_law_own" "_law_own" (defArgs s__law_own) (defBody s__law_own) (defScope s__law_own) .none kV11 dc11 pm11 an11 (.ref g11) ct11, PySem.W.fnOf "_law_domain" "_law_domain" (defArgs s__law_domain) (defBody s__law_domain) (defScope s__law_domain) .none kV12 dc12 pm12 an12 (.ref g12) ct12, PySem.W.fnOf "_law_some" "_law_some" (defArgs s__law_some) (defBody s__law_some) (defScope s__law_some) .none kV13 dc13 pm13 an13 (.ref g13) ct13, PySem.W.fnOf "_law_sum" "_law_sum" (defArgs s__law_sum) (defBody s__law_sum) (defScope s__law_sum) .none kV14 dc14 pm14 an14 (.ref g14) ct14, PySem.W.fnOf "_law_lines" "_law_lines" (defArgs s__law_lines) (defBody s__law_lines) (defScope s__law_lines) .none kV15 dc15 pm15 an15 (.ref g15) ct15, PySem.W.fnOf "_law_claim" "_law_claim" (defArgs s__law_claim) (defBody s__law_claim) (defScope s__law_claim) .none kV16 dc16 pm16 an16 (.ref g16) ct16, PySem.W.fnOf "_law_saying" "_law_saying" (defArgs s__law_saying) (defBody s__law_saying) (defScope s__law_saying) .none kV17 dc17 pm17 an17 (.ref g17) ct17, PySem.W.fnOf "_law_parts" "_law_parts" (defArgs s__law_parts) (defBody s__law_parts) (defScope s__law_parts) .none kV18 dc18 pm18 an18 (.ref g18) ct18, PySem.W.fnOf "_law_part_model" "_law_part_model" (defArgs s__law_part_model) (defBody s__law_part_model) (defScope s__law_part_model) .none kV19 dc19 pm19 an19 (.ref g19) ct19, PySem.W.fnOf "_law_many_sayings" "_law_many_sayings" (defArgs s__law_many_sayings) (defBody s__law_many_sayings) (defScope s__law_many_sayings) .none kV20 dc20 pm20 an20 (.ref g20) ct20, PySem.W.fnOf "_law_right" "_law_right" (defArgs s__law_right) (defBody s__law_right) (defScope s__law_right) .none kV21 dc21 pm21 an21 (.ref g21) ct21, PySem.W.fnOf "law" "law" (defArgs s_law) (defBody s_law) (defScope s_law) .none kV22 dc22 pm22 an22 (.ref g22) ct22⟩
  have T : ∀ base : Heap, (∀ p ∈ ([(g4, t4)] : List (Addr × Addr)), TabB base mg p.1 p.2) → Txt w K mg base A D := fun base TB =>
    ⟨⟨⟨_, _, _, _, _, _, _, _, rfl, l0, c0⟩⟩, k0, (F0.binds (ps := P_claim_names) fun _ _ _ _ _ _ us hl => match us, hl with | [_], _ => rfl), PySem.W.mg_of X G a0,
    ⟨⟨_, _, _, _, _, _, _, _, rfl, l1, c1⟩⟩, k1, (F1.binds (ps := P_names_within) fun _ _ _ _ _ _ us hl => match us, hl with | [_], _ => rfl), PySem.W.mg_of X G a1,
    ⟨⟨_, _, _, _, _, _, _, _, rfl, l2, c2⟩⟩, k2, (F2.binds (ps := P_own_names) fun _ _ _ _ _ _ us hl => match us, hl with | [_], _ => rfl), PySem.W.mg_of X G a2,
    ⟨⟨_, _, _, _, _, _, _, _, rfl, l3, c3⟩⟩, k3, (F3.binds (ps := P_parts) fun _ _ _ _ _ _ us hl => match us, hl with | [_], _ => rfl), PySem.W.mg_of X G a3,
    ⟨⟨_, _, _, _, _, _, _, _, rfl, l4, c4⟩⟩, k4, (F4.binds (ps := P_part_model_of) fun _ _ _ _ _ _ us hl => match us, hl with | [_, _], _ => rfl), PySem.W.mg_of X G a4, TB (g4, t4) (by simp),
    ⟨⟨_, _, _, _, _, _, _, _, rfl, l5, c5⟩⟩, k5, (F5.binds (ps := P__law_pool) fun _ _ _ _ _ _ us hl => match us, hl with | [_, _], _ => rfl), PySem.W.mg_of X G a5,
    ⟨⟨_, _, _, _, _, _, _, _, rfl, l6, c6⟩⟩, k6, (F6.binds (ps := P__law_draw) fun _ _ _ _ _ _ us hl => match us, hl with | [_, _], _ => rfl), PySem.W.mg_of X G a6,
    ⟨⟨_, _, _, _, _, _, _, _, rfl, l7, c7⟩⟩, k7, (F7.binds (ps := P__law_pick) fun _ _ _ _ _ _ us hl => match us, hl with | [_, _], _ => rfl), PySem.W.mg_of X G a7,
    ⟨⟨_, _, _, _, _, _, _, _, rfl, l8, c8⟩⟩, k8, (F8.binds (ps := P__law_mingled) fun _ _ _ _ _ _ us hl => match us, hl with | [_, _], _ => rfl), PySem.W.mg_of X G a8,
    ⟨⟨_, _, _, _, _, _, _, _, rfl, l9, c9⟩⟩, k9, (F9.binds (ps := P__law_same) fun _ _ _ _ _ _ us hl => match us, hl with | [_, _], _ => rfl), PySem.W.mg_of X G a9,
    ⟨⟨_, _, _, _, _, _, _, _, rfl, l10, c10⟩⟩, k10, (F10.binds (ps := P__law_claim_names) fun _ _ _ _ _ _ us hl => match us, hl with | [_], _ => rfl), PySem.W.mg_of X G a10,
    ⟨⟨_, _, _, _, _, _, _, _, rfl, l11, c11⟩⟩, k11, (F11.binds (ps := P__law_own) fun _ _ _ _ _ _ us hl => match us, hl with | [_], _ => rfl), PySem.W.mg_of X G a11,
    ⟨⟨_, _, _, _, _, _, _, _, rfl, l12, c12⟩⟩, k12, (F12.binds (ps := P__law_domain) fun _ _ _ _ _ _ us hl => match us, hl with | [_, _], _ => rfl), PySem.W.mg_of X G a12,
    ⟨⟨_, _, _, _, _, _, _, _, rfl, l13, c13⟩⟩, k13, (F13.binds (ps := P__law_some) fun _ _ _ _ _ _ us hl => match us, hl with | [_, _, _, _], _ => rfl), PySem.W.mg_of X G a13,
    ⟨⟨_, _, _, _, _, _, _, _, rfl, l14, c14⟩⟩, k14, (F14.binds (ps := P__law_sum) fun _ _ _ _ _ _ us hl => match us, hl with | [_, _, _], _ => rfl), PySem.W.mg_of X G a14,
    ⟨⟨_, _, _, _, _, _, _, _, rfl, l15, c15⟩⟩, k15, (F15.binds (ps := P__law_lines) fun _ _ _ _ _ _ us hl => match us, hl with | [_, _, _, _], _ => rfl), PySem.W.mg_of X G a15,
    ⟨⟨_, _, _, _, _, _, _, _, rfl, l16, c16⟩⟩, k16, (F16.binds (ps := P__law_claim) fun _ _ _ _ _ _ us hl => match us, hl with | [_, _, _], _ => rfl), PySem.W.mg_of X G a16,
    ⟨⟨_, _, _, _, _, _, _, _, rfl, l17, c17⟩⟩, k17, (F17.binds (ps := P__law_saying) fun _ _ _ _ _ _ us hl => match us, hl with | [_, _, _], _ => rfl), PySem.W.mg_of X G a17,
    ⟨⟨_, _, _, _, _, _, _, _, rfl, l18, c18⟩⟩, k18, (F18.binds (ps := P__law_parts) fun _ _ _ _ _ _ us hl => match us, hl with | [_], _ => rfl), PySem.W.mg_of X G a18,
    ⟨⟨_, _, _, _, _, _, _, _, rfl, l19, c19⟩⟩, k19, (F19.binds (ps := P__law_part_model) fun _ _ _ _ _ _ us hl => match us, hl with | [_, _], _ => rfl), PySem.W.mg_of X G a19,
    ⟨⟨_, _, _, _, _, _, _, _, rfl, l20, c20⟩⟩, k20, (F20.binds (ps := P__law_many_sayings) fun _ _ _ _ _ _ us hl => match us, hl with | [_, _, _, _], _ => rfl), PySem.W.mg_of X G a20,
    ⟨⟨_, _, _, _, _, _, _, _, rfl, l21, c21⟩⟩, k21, (F21.binds (ps := P__law_right) fun _ _ _ _ _ _ us hl => match us, hl with | [_, _], _ => rfl), PySem.W.mg_of X G a21,
    ⟨⟨_, _, _, _, _, _, _, _, rfl, l22, c22⟩⟩, k22, (F22.binds (ps := P_law) fun _ _ _ _ _ _ us hl => match us, hl with | [_], _ => rfl), PySem.W.mg_of X G a22,
    PySem.W.mg_none_of X G z0,
    PySem.W.mg_none_of X G z1,
    PySem.W.mg_none_of X G z2,
    PySem.W.mg_none_of X G z3,
    PySem.W.mg_none_of X G z4,
    PySem.W.mg_none_of X G z5,
    PySem.W.mg_none_of X G z6,
    PySem.W.mg_none_of X G z7,
    PySem.W.mg_none_of X G z8,
    PySem.W.mg_none_of X G z9,
    PySem.W.mg_none_of X G z10,
    PySem.W.mg_none_of X G z11,
    PySem.W.mg_none_of X G z12,
    PySem.W.mg_none_of X G z13,
    PySem.W.mg_none_of X G z14,
    ⟨fun s us ws _ hl => kb_to_part_model_of_part_model s us ws hl, fun r q => kb_rel_part_model_of_part_model r q⟩,
    ⟨fun s us ws _ hl => kb_to_parts_model s us ws hl, fun r q => kb_rel_parts_model r q⟩⟩
  have tbs : ∀ p ∈ ([(g4, t4)] : List (Addr × Addr)), (PySem.W.CodeHd h p.1 p.2 ∧ h.get? p.2 = some { cls := .none, data := .fields #[] }) ∧ K.lookup p.2 = none := fun p hp => by
    simp only [List.mem_cons, List.not_mem_nil, or_false] at hp
    subst hp; exact ⟨tb _ _ _ r4 (tabIn_of a4 l4 rfl v4 q4), n4⟩
  refine ⟨D.d_law, [(g4, t4)], spD K A.tabs [] 1 f_law, fun p hp => (tbs p hp).1.2, fun p hp => (tbs p hp).2, fun p hp => (tbs p hp).1.1, fun s v => .of_eq rfl, fun H a ns hl _ hH hS => law_sp law_all H a ns hl (fun P hP => ?_) hS, fun base _ _ TB => ok_law (T base fun p hp => ⟨(TB p hp).code, (TB p hp).bm, (TB p hp).gP⟩)⟩
  have hP : P ∈ ([t4] : List Addr) := hP
  simp only [List.mem_cons, List.not_mem_nil, or_false] at hP
  rw [hP]; exact hH (g4, t4) (by simp)
end K38W
open PySem PySem.W PyProof.Rows
set_option maxRecDepth 100000 in
set_option maxHeartbeats 0 in
theorem PySem.Challenge.cw_aswritten_k38_parts_of_models_holds : PySem.Challenge.rw_aswritten_k38_parts_of_models.Holds := by
  w_on; o_law; k_head; (case hw => w_witness2)
  k_fill
  refine PD.walk_ofTabs (l := PySem.Challenge.rw_aswritten_k38_parts_of_models) (n := 63) (k := 17) (x := "script") (CX := fun _ => L2.CX0) rfl (by decide) rfl ⟨rfl, by decide, by decide⟩ (fun w h Y => by first | exact PySem.W.kIn_of Y | exact PySem.W.km_in_of Y) ?F (fun _ _ _ _ _ h => h)
  case F =>
    intro w mg fa h KX G hmg tb
    refine' K38W.all_mk KX G hmg tb ?a0 ?l0 ?c0 ?k0 ?a1 ?l1 ?c1 ?k1 ?a2 ?l2 ?c2 ?k2 ?a3 ?l3 ?c3 ?k3 ?a4 ?l4 ?c4 ?k4 ?a5 ?l5 ?c5 ?k5 ?a6 ?l6 ?c6 ?k6 ?a7 ?l7 ?c7 ?k7 ?a8 ?l8 ?c8 ?k8 ?a9 ?l9 ?c9 ?k9 ?a10 ?l10 ?c10 ?k10 ?a11 ?l11 ?c11 ?k11 ?a12 ?l12 ?c12 ?k12 ?a13 ?l13 ?c13 ?k13 ?a14 ?l14 ?c14 ?k14 ?a15 ?l15 ?c15 ?k15 ?a16 ?l16 ?c16 ?k16 ?a17 ?l17 ?c17 ?k17 ?a18 ?l18 ?c18 ?k18 ?a19 ?l19 ?c19 ?k19 ?a20 ?l20 ?c20 ?k20 ?a21 ?l21 ?c21 ?k21 ?a22 ?l22 ?c22 ?k22 ?r4 ?v4 ?q4 ?n4 ?z0 ?z1 ?z2 ?z3 ?z4 ?z5 ?z6 ?z7 ?z8 ?z9 ?z10 ?z11 ?z12 ?z13 ?z14
    (case a0 => k_is); (case l0 => k_is); (case c0 => k_is); (case k0 => k_is)
    (case a1 => k_is); (case l1 => k_is); (case c1 => k_is); (case k1 => k_is)
    (case a2 => k_is); (case l2 => k_is); (case c2 => k_is); (case k2 => k_is)
    (case a3 => k_is); (case l3 => k_is); (case c3 => k_is); (case k3 => k_is)
    (case a4 => k_is); (case l4 => k_is); (case c4 => k_is); (case k4 => k_is)
    (case a5 => k_is); (case l5 => k_is); (case c5 => k_is); (case k5 => k_is)
    (case a6 => k_is); (case l6 => k_is); (case c6 => k_is); (case k6 => k_is)
    (case a7 => k_is); (case l7 => k_is); (case c7 => k_is); (case k7 => k_is)
    (case a8 => k_is); (case l8 => k_is); (case c8 => k_is); (case k8 => k_is)
    (case a9 => k_is); (case l9 => k_is); (case c9 => k_is); (case k9 => k_is)
    (case a10 => k_is); (case l10 => k_is); (case c10 => k_is); (case k10 => k_is)
    (case a11 => k_is); (case l11 => k_is); (case c11 => k_is); (case k11 => k_is)
    (case a12 => k_is); (case l12 => k_is); (case c12 => k_is); (case k12 => k_is)
    (case a13 => k_is); (case l13 => k_is); (case c13 => k_is); (case k13 => k_is)
    (case a14 => k_is); (case l14 => k_is); (case c14 => k_is); (case k14 => k_is)
    (case a15 => k_is); (case l15 => k_is); (case c15 => k_is); (case k15 => k_is)
    (case a16 => k_is); (case l16 => k_is); (case c16 => k_is); (case k16 => k_is)
    (case a17 => k_is); (case l17 => k_is); (case c17 => k_is); (case k17 => k_is)
    (case a18 => k_is); (case l18 => k_is); (case c18 => k_is); (case k18 => k_is)
    (case a19 => k_is); (case l19 => k_is); (case c19 => k_is); (case k19 => k_is)
    (case a20 => k_is); (case l20 => k_is); (case c20 => k_is); (case k20 => k_is)
    (case a21 => k_is); (case l21 => k_is); (case c21 => k_is); (case k21 => k_is)
    (case a22 => k_is); (case l22 => k_is); (case c22 => k_is); (case k22 => k_is)
    (case r4 => decide +kernel); (case v4 => k_is); (case q4 => rfl); (case n4 => rfl)
    (case z0 => k_is)
    (case z1 => k_is)
    (case z2 => k_is)
    (case z3 => k_is)
    (case z4 => k_is)
    (case z5 => k_is)
    (case z6 => k_is)
    (case z7 => k_is)
    (case z8 => k_is)
    (case z9 => k_is)
    (case z10 => k_is)
    (case z11 => k_is)
    (case z12 => k_is)
    (case z13 => k_is)
    (case z14 => k_is)
